import PyProof.Rows.All
import Wide.All
import OpenK.AllK
import Wide.FinOn
import PySem.Challenge.RW_twokeys_k60_whole_planned
import HandS.ForMost
import HandS.ForExc
import HandS.Lambda
import HandS.SetBool
import PyProof.DictRoadsH
import HandS.Wide
import HandS.IsInst
import HandS.More
import HandS.TupLe
import HandS.Zip
import HandS.ExcCtx
import HandS.Style
import KE.KDictCopyH
import HandS.Iter
import HandS.Dict
import HandS.DictEq
import HandS.DictComp
import HandS.Text
import HandS.Conv
import HandS.Replace
import HandS.Strs
import HandS.SetKeys
import KE.GoesMore
import PyProof.EnumMake
import PyProof.Rows.SortStr
import PyProof.StrLawsChain
import HandS.HotCalls
import HandS.ExcIs
import HandS.ExcValue
import HandS.EndTab
import PyProof.StrOps2
import PyProof.P3Eq
import KE.GoesZip
import KE.GoesEnum
import KE.DataCmp
import KE.DataMinMax
import KE.SortData
import KE.SortKeyHeap
import HandS.Walk
import KE.KDictDisplayH
import PyProof.Rows.TupDisplay
import PyProof.Rows.TupTab
import PyProof.StrWalks
import HandS.SortKw
import HandS.Keys
import KE.KDictZip
import KE.KItemsList
import HandS.ListItems
import HandS.Small
import KE.KEqDict
set_option Elab.async false
set_option linter.all false
set_option autoImplicit false
set_option maxRecDepth 100000
set_option maxHeartbeats 4000000
/-! Data over the abstract heap: what a value stands for, slots that own lists and dicts, and what expressions and statements come to. -/
namespace Dn
open PySem L2
open Classical (propDecidable)

abbrev PD := PyData
/-- an equation that simp shall not take for a step of computation -/
theorem nrf {a : Sort _} {x y : a} (h : x = y) : x = y := h
/-! ### results -/
inductive R (a : Type) where
  | ok (x : a)
  | exc (c : Str)
  | stuck
namespace R
def bind {a b : Type} (r : R a) (f : a → R b) : R b := match r with
  | .ok x => f x
  | .exc c => .exc c
  | .stuck => .stuck
@[simp] theorem bind_ok {a b : Type} (x : a) (f : a → R b) : R.bind (.ok x) f = f x := nrf rfl
@[simp] theorem bind_exc {a b : Type} (c : Str) (f : a → R b) : R.bind (.exc c) f = .exc c := nrf rfl
@[simp] theorem bind_stuck {a b : Type} (f : a → R b) : R.bind .stuck f = .stuck := nrf rfl
def noexc {a : Type} : R a → R a
  | .exc _ => .stuck
  | r => r
@[simp] theorem noexc_ok {a : Type} (x : a) : R.noexc (.ok x) = .ok x := nrf rfl
end R

/-! ### what a value stands for -/
def kD : Key → PD
  | .inl i => .int i
  | .inr x => .str x
mutual
inductive Rp (K : PySem.W.Frag) (H : Hp) : V → PD → Prop
  | non : Rp K H .non .none
  | bl (b : Bool) : Rp K H (.bl b) (.bool b)
  | int (i : Int) : Rp K H (.int i) (.int i)
  | str (x : Str) : Rp K H (.str x) (.str x)
  | lst {a : Addr} {xs : List V} {ds : List PD} : H a = some (.lst xs) → RpA K H xs ds → Rp K H (.ref a) (.list ds)
  | tup {a : Addr} {xs : List V} {ds : List PD} : SqT K H a xs → RpA K H xs ds → Rp K H (.ref a) (.tuple ds)
  | dct {a : Addr} {kvs : List (Key × V)} {es : List (PD × PD)} : Rd H a (.dK kvs) → RpK K H kvs es → Rp K H (.ref a) (.dict es)
inductive RpA (K : PySem.W.Frag) (H : Hp) : List V → List PD → Prop
  | nil : RpA K H [] []
  | cons {v : V} {vs : List V} {d : PD} {ds : List PD} : Rp K H v d → RpA K H vs ds → RpA K H (v :: vs) (d :: ds)
inductive RpK (K : PySem.W.Frag) (H : Hp) : List (Key × V) → List (PD × PD) → Prop
  | nil : RpK K H [] []
  | cons {k : Key} {v : V} {vs : List (Key × V)} {d : PD} {ds : List (PD × PD)} : Rp K H v d → RpK K H vs ds → RpK K H ((k, v) :: vs) ((kD k, d) :: ds)
end

/-- what is read stays -/
structure LeR (K : PySem.W.Frag) (H H' : Hp) : Prop where
  l : ∀ a xs, H a = some (.lst xs) → H' a = some (.lst xs)
  t : ∀ a xs, SqT K H a xs → SqT K H' a xs
  d : ∀ a kvs, Rd H a (.dK kvs) → Rd H' a (.dK kvs)
mutual
theorem Rp.mono {K : PySem.W.Frag} {H H' : Hp} (e : LeR K H H') : ∀ {v : V} {d : PD}, Rp K H v d → Rp K H' v d
  | _, _, .non => .non
  | _, _, .bl b => .bl b
  | _, _, .int i => .int i
  | _, _, .str x => .str x
  | _, _, .lst h r => .lst (e.l _ _ h) (RpA.mono e r)
  | _, _, .tup h r => .tup (e.t _ _ h) (RpA.mono e r)
  | _, _, .dct h r => .dct (e.d _ _ h) (RpK.mono e r)
theorem RpA.mono {K : PySem.W.Frag} {H H' : Hp} (e : LeR K H H') : ∀ {v : List V} {d : List PD}, RpA K H v d → RpA K H' v d
  | _, _, .nil => .nil
  | _, _, .cons h r => .cons (Rp.mono e h) (RpA.mono e r)
theorem RpK.mono {K : PySem.W.Frag} {H H' : Hp} (e : LeR K H H') : ∀ {v : List (Key × V)} {d : List (PD × PD)}, RpK K H v d → RpK K H' v d
  | _, _, .nil => .nil
  | _, _, .cons h r => .cons (Rp.mono e h) (RpK.mono e r)
end
theorem RpA.length {K : PySem.W.Frag} {H : Hp} : ∀ {vs : List V} {ds : List PD}, RpA K H vs ds → vs.length = ds.length
  | _, _, .nil => rfl
  | _, _, .cons _ r => by simp [r.length]
theorem RpK.length {K : PySem.W.Frag} {H : Hp} : ∀ {vs : List (Key × V)} {ds : List (PD × PD)}, RpK K H vs ds → vs.length = ds.length
  | _, _, .nil => rfl
  | _, _, .cons _ r => by simp [r.length]
theorem RpA.app {K : PySem.W.Frag} {H : Hp} : ∀ {vs ws : List V} {ds es : List PD}, RpA K H vs ds → RpA K H ws es → RpA K H (vs ++ ws) (ds ++ es)
  | _, _, _, _, .nil, s => s
  | _, _, _, _, .cons h r, s => .cons h (RpA.app r s)
theorem RpA.get {K : PySem.W.Frag} {H : Hp} : ∀ {vs : List V} {ds : List PD} {i : Nat} {d : PD}, RpA K H vs ds → ds[i]? = some d → ∃ v, vs[i]? = some v ∧ Rp K H v d
  | _, _, _, _, .nil, h => by simp at h
  | _, _, 0, _, .cons h _, e => by simp at e; subst e; exact ⟨_, rfl, h⟩
  | _, _, i + 1, _, .cons _ r, e => by
    obtain ⟨v, h1, h2⟩ := RpA.get (i := i) r (by simpa using e)
    exact ⟨v, by simpa using h1, h2⟩
theorem RpA.getV {K : PySem.W.Frag} {H : Hp} : ∀ {vs : List V} {ds : List PD} {i : Nat} {v : V}, RpA K H vs ds → vs[i]? = some v → ∃ d, ds[i]? = some d ∧ Rp K H v d
  | _, _, _, _, .nil, h => by simp at h
  | _, _, 0, _, .cons h _, e => by simp at e; subst e; exact ⟨_, rfl, h⟩
  | _, _, i + 1, _, .cons _ r, e => by
    obtain ⟨v, h1, h2⟩ := RpA.getV (i := i) r (by simpa using e)
    exact ⟨v, by simpa using h1, h2⟩
theorem RpA.take {K : PySem.W.Frag} {H : Hp} : ∀ (n : Nat) {vs : List V} {ds : List PD}, RpA K H vs ds → RpA K H (vs.take n) (ds.take n)
  | 0, _, _, _ => by simp; exact .nil
  | _ + 1, _, _, .nil => .nil
  | n + 1, _, _, .cons h r => .cons h (RpA.take n r)
theorem RpA.drop {K : PySem.W.Frag} {H : Hp} : ∀ (n : Nat) {vs : List V} {ds : List PD}, RpA K H vs ds → RpA K H (vs.drop n) (ds.drop n)
  | 0, _, _, h => h
  | _ + 1, _, _, .nil => .nil
  | n + 1, _, _, .cons _ r => RpA.drop n r
theorem RpA.set {K : PySem.W.Frag} {H : Hp} {v : V} {d : PD} (h : Rp K H v d) : ∀ (n : Nat) {vs : List V} {ds : List PD}, RpA K H vs ds → RpA K H (vs.set n v) (ds.set n d)
  | _, _, _, .nil => .nil
  | 0, _, _, .cons _ r => .cons h r
  | n + 1, _, _, .cons g r => .cons g (RpA.set h n r)
theorem RpA.erase {K : PySem.W.Frag} {H : Hp} : ∀ (n : Nat) {vs : List V} {ds : List PD}, RpA K H vs ds → RpA K H (vs.eraseIdx n) (ds.eraseIdx n)
  | _, _, _, .nil => .nil
  | 0, _, _, .cons _ r => r
  | n + 1, _, _, .cons g r => .cons g (RpA.erase n r)
theorem RpA.reverse {K : PySem.W.Frag} {H : Hp} : ∀ {vs : List V} {ds : List PD}, RpA K H vs ds → RpA K H vs.reverse ds.reverse
  | _, _, .nil => .nil
  | _, _, .cons h r => by
    rw [List.reverse_cons, List.reverse_cons]
    exact r.reverse.app (.cons h .nil)
theorem RpA.rep {K : PySem.W.Frag} {H : Hp} {vs : List V} {ds : List PD} (h : RpA K H vs ds) : ∀ (n : Nat), RpA K H (List.replicate n vs).flatten (List.replicate n ds).flatten
  | 0 => .nil
  | n + 1 => by
    rw [List.replicate_succ, List.replicate_succ, List.flatten_cons, List.flatten_cons]
    exact h.app (RpA.rep h n)

/-! ### heaps -/
/-- the tables of code objects that lambdas write -/
class Tabl where
  T : List (Addr × Str)
  /-- the classes of objects -/
  C : Str → Addr
  /-- the object whose method runs -/
  me : Addr
def isTb : HO → Bool
  | .tbl _ => true
  | _ => false
/-- all but tables stays as it is -/
structure Ex (H H' : Hp) : Prop where
  k : ∀ a o, H a = some o → isTb o = false → H' a = some o
/-- a thing that is no table stands there; none does -/
def So (H : Hp) (a : Addr) : Prop := ∃ o, H a = some o ∧ isTb o = false
def Nn (H : Hp) (a : Addr) : Prop := ∀ o, H a = some o → isTb o = true
theorem So.ex {H : Hp} {a : Addr} (h : So H a) : ∃ o, H a = some o := let ⟨o, e, _⟩ := h; ⟨o, e⟩
theorem Nn.of {H : Hp} {a : Addr} (h : H a = none) : Nn H a := fun o e => by
  rw [h] at e
  cases e
theorem So.nn {H : Hp} {a : Addr} (h : So H a) (n : Nn H a) : False := by
  obtain ⟨o, e, t⟩ := h
  rw [n o e] at t
  cases t
theorem Ex.so {H H' : Hp} {a : Addr} (e : Ex H H') (h : So H a) : So H' a := let ⟨o, q, t⟩ := h; ⟨o, e.k a o q t, t⟩
theorem Ex.nn {H H' : Hp} {a : Addr} (e : Ex H H') (h : Nn H' a) : Nn H a := fun o q => by
  cases t : isTb o with
  | true => rfl
  | false => rw [h o (e.k a o q t)] at t; cases t
/-- .. and the tables stay right -/
structure Xt [Tabl] (H H' : Hp) : Prop extends Ex H H' where
  t : LamX.Tabs Tabl.T H → LamX.Tabs Tabl.T H'
theorem Ex.refl (H : Hp) : Ex H H := ⟨fun _ _ h _ => h⟩
theorem Ex.trans {H H1 H2 : Hp} (a : Ex H H1) (b : Ex H1 H2) : Ex H H2 := ⟨fun x o h n => b.k x o (a.k x o h n) n⟩
theorem Ex.of {H H' : Hp} (e : ∀ a o, H a = some o → H' a = some o) : Ex H H' := ⟨fun a o h _ => e a o h⟩
theorem Ex.new {H : Hp} {p : Addr} {o : HO} (h : H p = none) : Ex H (upd H p o) := Ex.of fun a u e => by
  rw [upd_ne (ne_of_none e h)]
  exact e
theorem Ex.mut {H H' : Hp} {p : Addr} {o : HO} (e : Ex H H') (h : Nn H p) : Ex H (upd H' p o) := ⟨fun a u ha n => by
  rw [upd_ne fun z => by
    rw [z] at ha
    rw [h u ha] at n
    cases n]
  exact e.k a u ha n⟩
theorem Ex.l {H H' : Hp} {p : Addr} {xs : List V} (e : Ex H H') (h : H p = some (.lst xs)) : H' p = some (.lst xs) := e.k _ _ h rfl
theorem Ex.d {H H' : Hp} {p : Addr} {xs : List (Key × V)} (e : Ex H H') (h : H p = some (.dK xs)) : H' p = some (.dK xs) := e.k _ _ h rfl
section
variable [Tabl]
theorem Xt.refl (H : Hp) : Xt H H := ⟨Ex.refl H, fun h => h⟩
theorem Xt.trans {H H1 H2 : Hp} (a : Xt H H1) (b : Xt H1 H2) : Xt H H2 := ⟨a.toEx.trans b.toEx, fun h => b.t (a.t h)⟩
theorem Xt.new {H : Hp} {p : Addr} {o : HO} (h : H p = none) : Xt H (upd H p o) := ⟨Ex.new h, fun t => t.ext fun a u e => by
  rw [upd_ne (ne_of_none e h)]
  exact e⟩
end
open Classical in
/-- a thing that is no table and no code object is written -/
noncomputable def isLD : HO → Bool
  | .lst _ => true
  | .dK _ => true
  | .ins _ _ _ => true
  | .frz _ _ => true
  | .ext φ => decide (∀ c q, HO.ext φ ≠ LamX.CodeO c q)
  | _ => false
theorem isLD_code (c : Addr) (q : Str) : isLD (LamX.CodeO c q) = false := by
  unfold LamX.CodeO isLD
  exact @decide_eq_false _ (_) fun h => h c q rfl
theorem tabs_wr {T : List (Addr × Str)} {H H' : Hp} {p : Addr} {o0 : HO} (t : LamX.Tabs T H) (h : H p = some o0) (hl : isLD o0 = true) (e : ∀ a, a ≠ p → H' a = H a) : LamX.Tabs T H' := fun q hq => by
  obtain ⟨ps, h1, h2, h3⟩ := t q hq
  have n1 : q.1 ≠ p := fun z => by
    rw [z, h] at h1
    cases h1
    cases hl
  refine ⟨ps, by rw [e _ n1]; exact h1, h2, fun pos cv hc => ?_⟩
  obtain ⟨c, e1, e2⟩ := h3 pos cv hc
  refine ⟨c, e1, ?_⟩
  have n2 : c ≠ p := fun z => by
    rw [z, h] at e2
    have e3 := Option.some.inj e2
    rw [e3, isLD_code] at hl
    cases hl
  rw [e _ n2]
  exact e2
theorem Ex.rd {H H' : Hp} {a : Addr} {u : HO} (e : Ex H H') (h : Rd H a u) (hu : isTb u = false := by rfl) : Rd H' a u := by
  rcases h with h | ⟨o, h⟩
  · exact Or.inl (e.k a _ h hu)
  · exact Or.inr ⟨o, e.k a _ h rfl⟩
theorem Ex.sqt {K : PySem.W.Frag} {H H' : Hp} {a : Addr} {xs : List V} (e : Ex H H') (h : SqT K H a xs) : SqT K H' a xs := by
  rcases h with h | h
  · exact Or.inl (e.rd h)
  · exact Or.inr h
theorem Ex.sql {K : PySem.W.Frag} {H H' : Hp} {a : Addr} {xs : List V} (e : Ex H H') (h : SqL K H a xs) : SqL K H' a xs := by
  rcases h with h | h
  · exact Or.inl (e.rd h)
  · exact Or.inr h
theorem Ex.le {K : PySem.W.Frag} {H H' : Hp} (e : Ex H H') : LeR K H H' := ⟨fun a xs h => e.l h, fun _ _ h => e.sqt h, fun _ _ h => e.rd h⟩

abbrev AS := Addr → Prop
open Classical in
/-- the heap without a set of places -/
noncomputable def hid (H : Hp) (Z : AS) : Hp := fun a => if Z a then none else H a
theorem hid_no {H : Hp} {Z : AS} {a : Addr} (h : Z a) : hid H Z a = none := by
  unfold hid
  rw [if_pos h]
theorem hid_at {H : Hp} {Z : AS} {a : Addr} (h : ¬ Z a) : hid H Z a = H a := by
  unfold hid
  rw [if_neg h]
theorem hid_some {H : Hp} {Z : AS} {a : Addr} {o : HO} (h : hid H Z a = some o) : ¬ Z a ∧ H a = some o := by
  by_cases z : Z a
  · rw [hid_no z] at h
    cases h
  · rw [hid_at z] at h
    exact ⟨z, h⟩
theorem hid_ex {H : Hp} {Z : AS} : Ex (hid H Z) H := Ex.of fun _ _ h => (hid_some h).2
theorem Ex.hidLess {H H' : Hp} {Z Z' : AS} (e : Ex H H') (i : ∀ a, Z' a → Z a) : Ex (Dn.hid H Z) (Dn.hid H' Z') := ⟨fun a o h n => by
  obtain ⟨z, h⟩ := hid_some h
  rw [hid_at fun q => z (i a q)]
  exact e.k a o h n⟩
theorem Ex.hid {H H' : Hp} {Z : AS} (e : Ex H H') : Ex (hid H Z) (hid H' Z) := e.hidLess fun _ z => z
/-- a hidden place is written -/
theorem hid_upd {H : Hp} {Z : AS} {p : Addr} {o : HO} (h : Z p) : hid (upd H p o) Z = hid H Z := by
  funext a
  by_cases z : Z a
  · rw [hid_no z, hid_no z]
  · rw [hid_at z, hid_at z, upd_ne fun e => z (by rw [e]; exact h)]

/-! ### slots -/
/-- what a field holds: data that never change, a list of its own -/
inductive FV where
  | sh (d : PD)
  | ol (ds : List PD)
/-- the hash of two truths -/
def hB2 (ks : List Bool) : Int := reduceHash (Builtin.Tuple.tupleHashOf (ks.map PpSet.hB))
def entB (y : (Bool × Bool) × Addr × Value) : DictEntry := ⟨hB2 [y.1.1, y.1.2], .ref y.2.1, y.2.2⟩
/-- the dict at p by pairs of truths: for each pair its own tuple, what it holds -/
def BdO (p : Addr) (xs : List ((Bool × Bool) × Addr × V)) : HO := .ext fun h => (p == sysModules) = false ∧ xs.length ≤ sizeLine ∧ (xs.map (·.1)).Nodup ∧
  ∃ ys : List ((Bool × Bool) × Addr × Value), Paired (fun (x : (Bool × Bool) × Addr × V) (y : (Bool × Bool) × Addr × Value) => x.1 = y.1 ∧ x.2.1 = y.2.1 ∧ RelV x.2.2 y.2.2) xs ys ∧
    ∃ o es ep, h.get? p = some o ∧ o.ExactDict ∧ o.data = .dict es ep ∧ es.toList = ys.map entB
inductive BdR (K : PySem.W.Frag) (H : Hp) : List ((Bool × Bool) × Addr × V) → List ((Bool × Bool) × PD) → Prop
  | nil : BdR K H [] []
  | cons {k : Bool × Bool} {q : Addr} {v : V} {d : PD} {xs : List ((Bool × Bool) × Addr × V)} {es : List ((Bool × Bool) × PD)} : SqT K H q [.bl k.1, .bl k.2] → Rp K H v d → BdR K H xs es → BdR K H ((k, q, v) :: xs) ((k, d) :: es)
theorem BdR.mono {K : PySem.W.Frag} {H H' : Hp} (e : LeR K H H') : ∀ {xs : List ((Bool × Bool) × Addr × V)} {es : List ((Bool × Bool) × PD)}, BdR K H xs es → BdR K H' xs es
  | _, _, .nil => .nil
  | _, _, .cons a b r => .cons (e.t _ _ a) (b.mono e) (BdR.mono e r)
inductive SV where
  | no
  /-- data that never change -/
  | sh (d : PD)
  /-- a list, a dict that the slot alone has -/
  | ol (ds : List PD)
  | od (es : List (PD × PD))
  /-- a list that is read alone -/
  | rl (ds : List PD)
  /-- a shared dict, locked: it is walked -/
  | fz (es : List (PD × PD))
  /-- the very object at a, whatever it is -/
  | xr (a : Addr)
  /-- an object of a class that the slot alone has (the one whose method runs): its fields by name, what they hold -/
  | ob (m : Bool) (c : Str) (ns : List Str) (fs : List FV)
  /-- an object that is only read: its fields by name, what they hold -/
  | vw (c : Str) (ns : List Str) (ds : List PD)
  /-- a dict by pairs of truths that the slot alone has -/
  | bd (es : List ((Bool × Bool) × PD))
  /-- a dict by pairs of truths that never changes any more -/
  | bz (es : List ((Bool × Bool) × PD))
abbrev En := List SV
def isOwn : SV → Bool
  | .ol _ => true
  | .od _ => true
  | .ob _ _ _ _ => true
  | .bd _ => true
  | _ => false
/-- fields hold what is told; the lists that are theirs -/
inductive FsOk (K : PySem.W.Frag) (Hs H : Hp) (r : AS) : List V → List FV → List Addr → Prop
  | nil : FsOk K Hs H r [] [] []
  | sh {v : V} {d : PD} {vs : List V} {fs : List FV} {L : List Addr} : Rp K Hs v d → FsOk K Hs H r vs fs L → FsOk K Hs H r (v :: vs) (.sh d :: fs) L
  | ol {q : Addr} {xs : List V} {ds : List PD} {vs : List V} {fs : List FV} {L : List Addr} : r q → H q = some (.lst xs) → RpA K Hs xs ds → q ∉ L → FsOk K Hs H r vs fs L → FsOk K Hs H r (.ref q :: vs) (.ol ds :: fs) (q :: L)
theorem FsOk.rg {K : PySem.W.Frag} {Hs H : Hp} {r r' : AS} (i : ∀ a, r a → r' a) : ∀ {vs : List V} {fs : List FV} {L : List Addr}, FsOk K Hs H r vs fs L → FsOk K Hs H r' vs fs L
  | _, _, _, .nil => .nil
  | _, _, _, .sh h t => .sh h (FsOk.rg i t)
  | _, _, _, .ol a b c d t => .ol (i _ a) b c d (FsOk.rg i t)
theorem FsOk.len {K : PySem.W.Frag} {Hs H : Hp} {r : AS} : ∀ {vs : List V} {fs : List FV} {L : List Addr}, FsOk K Hs H r vs fs L → vs.length = fs.length
  | _, _, _, .nil => rfl
  | _, _, _, .sh h t => by simp [FsOk.len t]
  | _, _, _, .ol a b c d t => by simp [FsOk.len t]
theorem FsOk.mono {K : PySem.W.Frag} {Hs Hs' H H' : Hp} {r : AS} (e : LeR K Hs Hs') (k : ∀ p o, r p → H p = some o → isTb o = false → H' p = some o) : ∀ {vs : List V} {fs : List FV} {L : List Addr}, FsOk K Hs H r vs fs L → FsOk K Hs' H' r vs fs L
  | _, _, _, .nil => .nil
  | _, _, _, .sh h t => .sh (h.mono e) (FsOk.mono e k t)
  | _, _, _, .ol a b c d t => .ol a (k _ _ a b rfl) (c.mono e) d (FsOk.mono e k t)

def SlotOk [Tabl] (K : PySem.W.Frag) (Hs H : Hp) (v : Option V) (r : AS) : SV → Prop
  | .no => True
  | .sh d => ∃ x, v = some x ∧ Rp K Hs x d
  | .ol ds => ∃ p xs, v = some (.ref p) ∧ r p ∧ H p = some (.lst xs) ∧ RpA K Hs xs ds
  | .od es => ∃ p kvs, v = some (.ref p) ∧ r p ∧ H p = some (.dK kvs) ∧ RpK K Hs kvs es
  | .rl ds => ∃ p xs, v = some (.ref p) ∧ SqL K Hs p xs ∧ RpA K Hs xs ds
  | .fz es => ∃ p o kvs, v = some (.ref p) ∧ Hs p = some (.frz o (.dK kvs)) ∧ RpK K Hs kvs es
  | .xr a => v = some (.ref a)
  | .ob m c ns fs => ∃ p dx vs L, v = some (.ref p) ∧ (m = true → p = Tabl.me) ∧ r p ∧ H p = some (.ins (Tabl.C c) dx vs) ∧ vs.map (·.1) = ns.take fs.length ∧ FsOk K Hs H r (vs.map (·.2)) fs L
  | .vw c ns ds => ∃ p dx vs, v = some (.ref p) ∧ Hs p = some (.ins (Tabl.C c) dx vs) ∧ vs.map (·.1) = ns.take ds.length ∧ RpA K Hs (vs.map (·.2)) ds
  | .bd es => ∃ p xs, v = some (.ref p) ∧ r p ∧ H p = some (BdO p xs) ∧ BdR K Hs xs es
  | .bz es => ∃ p o xs, v = some (.ref p) ∧ Hs p = some (.frz o (BdO p xs)) ∧ BdR K Hs xs es
theorem SlotOk.rg [Tabl] {K : PySem.W.Frag} {Hs H : Hp} {v : Option V} {r r' : AS} (i : ∀ a, r a → r' a) : ∀ {sv : SV}, SlotOk K Hs H v r sv → SlotOk K Hs H v r' sv
  | .no, _ => trivial
  | .sh _, h => h
  | .ol _, ⟨p, xs, h1, h2, h3⟩ => ⟨p, xs, h1, i p h2, h3⟩
  | .od _, ⟨p, xs, h1, h2, h3⟩ => ⟨p, xs, h1, i p h2, h3⟩
  | .rl _, h => h
  | .fz _, h => h
  | .xr _, h => h
  | .ob _ _ _ _, ⟨p, dx, vs, L, h1, h2, h3, h4, h5, h6⟩ => ⟨p, dx, vs, L, h1, h2, i p h3, h4, h5, h6.rg i⟩
  | .vw _ _ _, h => h
  | .bd _, ⟨p, xs, h1, h2, h3⟩ => ⟨p, xs, h1, i p h2, h3⟩
  | .bz _, h => h

def own (ext : AS) (reg : Nat → AS) : AS := fun a => ext a ∨ ∃ i, reg i a

structure RS [Tabl] (K : PySem.W.Frag) (H0 : Hp) (ext : AS) (reg : Nat → AS) (en : En) (σ : St) (H : Hp) : Prop where
  le : Ex H0 H
  tb : LamX.Tabs Tabl.T H
  exd : ∀ a, ext a → So H0 a
  rg : ∀ i a, reg i a → Nn H0 a ∧ So H a
  dj : ∀ i j a, reg i a → reg j a → i = j
  ro : ∀ i a, reg i a → ∃ sv, en[i]? = some sv ∧ isOwn sv = true
  len : σ.length = en.length
  sl : ∀ i sv, en[i]? = some sv → ∃ v, σ[i]? = some v ∧ SlotOk K (hid H (own ext reg)) H v (reg i) sv

section
variable [Tabl] {K : PySem.W.Frag} {H0 H H' : Hp} {ext : AS} {reg : Nat → AS} {en : En} {σ : St}
theorem RS.so (r : RS K H0 ext reg en σ H) {a : Addr} (h : own ext reg a) : So H a := by
  rcases h with h | ⟨i, h⟩
  · exact r.le.so (r.exd a h)
  · exact (r.rg i a h).2
theorem RS.there (r : RS K H0 ext reg en σ H) {a : Addr} (h : own ext reg a) : ∃ o, H a = some o := (r.so h).ex
theorem RS.fresh (r : RS K H0 ext reg en σ H) {p : Addr} (h : H p = none) : ¬ own ext reg p := fun z => by
  obtain ⟨o, e⟩ := r.there z
  rw [h] at e
  cases e
theorem RS.noext (r : RS K H0 ext reg en σ H) {i : Nat} {a : Addr} (h : reg i a) : ¬ ext a := fun z => (r.exd a z).nn (r.rg i a h).1
theorem SlotOk.mono {Hs Hs' : Hp} {v : Option V} {rg : AS} (e : Ex Hs Hs') (k : ∀ p o, rg p → H p = some o → isTb o = false → H' p = some o) : ∀ {sv : SV}, SlotOk K Hs H v rg sv → SlotOk K Hs' H' v rg sv
  | .no, _ => trivial
  | .sh d, ⟨x, h1, h2⟩ => ⟨x, h1, h2.mono e.le⟩
  | .ol ds, ⟨p, xs, h1, h2, h3, h4⟩ => ⟨p, xs, h1, h2, k _ _ h2 h3 rfl, h4.mono e.le⟩
  | .od es, ⟨p, xs, h1, h2, h3, h4⟩ => ⟨p, xs, h1, h2, k _ _ h2 h3 rfl, h4.mono e.le⟩
  | .rl ds, ⟨p, xs, h1, h2, h3⟩ => ⟨p, xs, h1, e.sql h2, h3.mono e.le⟩
  | .fz ds, ⟨p, o, xs, h1, h2, h3⟩ => ⟨p, o, xs, h1, e.k _ _ h2 rfl, h3.mono e.le⟩
  | .xr _, h => h
  | .ob _ _ _ _, ⟨p, dx, vs, L, h1, h2, h3, h4, h5, h6⟩ => ⟨p, dx, vs, L, h1, h2, h3, k _ _ h3 h4 rfl, h5, h6.mono e.le k⟩
  | .vw _ _ _, ⟨p, dx, vs, h1, h2, h3, h4⟩ => ⟨p, dx, vs, h1, e.k _ _ h2 rfl, h3, h4.mono e.le⟩
  | .bd _, ⟨p, xs, h1, h2, h3, h4⟩ => ⟨p, xs, h1, h2, k _ _ h2 h3 rfl, h4.mono e.le⟩
  | .bz _, ⟨p, o, xs, h1, h2, h3⟩ => ⟨p, o, xs, h1, e.k _ _ h2 rfl, h3.mono e.le⟩
theorem RS.ex (r : RS K H0 ext reg en σ H) (e : Xt H H') : RS K H0 ext reg en σ H' :=
  ⟨r.le.trans e.toEx, e.t r.tb, r.exd, fun i a h => ⟨(r.rg i a h).1, e.toEx.so (r.rg i a h).2⟩, r.dj, r.ro, r.len, fun i sv h => by
    obtain ⟨v, h1, h2⟩ := r.sl i sv h
    exact ⟨v, h1, h2.mono e.toEx.hid fun p o _ q => e.k p o q⟩⟩
/-- an elder ground -/
theorem RS.ground {H1 : Hp} (r : RS K H1 ext reg en σ H) (e : Ex H0 H1) (x : ∀ a, ext a → So H0 a) : RS K H0 ext reg en σ H :=
  ⟨e.trans r.le, r.tb, x, fun i a h => ⟨e.nn (r.rg i a h).1, (r.rg i a h).2⟩, r.dj, r.ro, r.len, r.sl⟩
/-- the ground of all that no slot owns -/
theorem RS.lift (r : RS K H0 ext reg en σ H) : RS K (hid H fun a => ∃ i, reg i a) ext reg en σ H :=
  ⟨hid_ex, r.tb, fun a h => by
    obtain ⟨o, e, t⟩ := r.le.so (r.exd a h)
    exact ⟨o, by rw [hid_at fun ⟨i, q⟩ => r.noext q h]; exact e, t⟩, fun i a h => ⟨.of (hid_no ⟨i, h⟩), (r.rg i a h).2⟩, r.dj, r.ro, r.len, r.sl⟩
theorem RS.lift_le (r : RS K H0 ext reg en σ H) : Ex H0 (hid H fun a => ∃ i, reg i a) := ⟨fun a o h n => by
  rw [hid_at fun ⟨i, q⟩ => So.nn ⟨o, h, n⟩ (r.rg i a q).1]
  exact r.le.k a o h n⟩
end
end Dn

namespace Dn
open PySem L2
variable [Tabl]

/-- where one stands: the written part, what is wanted of errors, where the errors' classes stand -/
structure Cn where
  K : PySem.W.Frag
  E : XK
  cl : Str → Addr
abbrev Cn.n (C : Cn) : Cn := { C with E := E0 }

/-! ### loose data: what a slot owns may be its root -/
inductive RpL (K : PySem.W.Frag) (Hs H : Hp) : V → PD → Prop
  | s {v : V} {d : PD} : Rp K Hs v d → RpL K Hs H v d
  | l {p : Addr} {xs : List V} {ds : List PD} : H p = some (.lst xs) → RpA K Hs xs ds → RpL K Hs H (.ref p) (.list ds)
  | d {p : Addr} {kvs : List (Key × V)} {es : List (PD × PD)} : H p = some (.dK kvs) → RpK K Hs kvs es → RpL K Hs H (.ref p) (.dict es)
section
variable {K : PySem.W.Frag} {Hs Hs' H H' : Hp} {v : V} {d : PD}
theorem RpL.mono (e : LeR K Hs Hs') (e' : Ex H H') : RpL K Hs H v d → RpL K Hs' H' v d
  | .s h => .s (h.mono e)
  | .l h r => .l (e'.l h) (r.mono e)
  | .d h r => .d (e'.d h) (r.mono e)
theorem RpL.lst0 {ds : List PD} (h : RpL K Hs H v (.list ds)) (e : Ex Hs H) : ∃ p xs, v = .ref p ∧ H p = some (.lst xs) ∧ RpA K Hs xs ds := by
  cases h with
  | s h => cases h with | lst h r => exact ⟨_, _, rfl, e.l h, r⟩
  | l h r => exact ⟨_, _, rfl, h, r⟩
theorem RpL.dct0 {es : List (PD × PD)} (h : RpL K Hs H v (.dict es)) (e : Ex Hs H) : ∃ p kvs, v = .ref p ∧ Rd H p (.dK kvs) ∧ RpK K Hs kvs es := by
  cases h with
  | s h => cases h with | dct h r => exact ⟨_, _, rfl, e.rd h, r⟩
  | d h r => exact ⟨_, _, rfl, .inl h, r⟩
theorem RpL.tup0 {ds : List PD} (h : RpL K Hs H v (.tuple ds)) (e : Ex Hs H) : ∃ p xs, v = .ref p ∧ SqT K H p xs ∧ RpA K Hs xs ds := by
  cases h with
  | s h => cases h with | tup h r => exact ⟨_, _, rfl, e.sqt h, r⟩
theorem RpL.non (h : RpL K Hs H v .none) : v = .non := by cases h with | s h => cases h; rfl
theorem RpL.bl {b : Bool} (h : RpL K Hs H v (.bool b)) : v = .bl b := by cases h with | s h => cases h; rfl
theorem RpL.int {i : Int} (h : RpL K Hs H v (.int i)) : v = .int i := by cases h with | s h => cases h; rfl
theorem RpL.str {x : Str} (h : RpL K Hs H v (.str x)) : v = .str x := by cases h with | s h => cases h; rfl
theorem Rp.bl' {b : Bool} (h : Rp K H v (.bool b)) : v = .bl b := by cases h; rfl
theorem Rp.int' {i : Int} (h : Rp K H v (.int i)) : v = .int i := by cases h; rfl
theorem Rp.str' {x : Str} (h : Rp K H v (.str x)) : v = .str x := by cases h; rfl
/-- loose data as plain data over a heap in which the roots stand -/
theorem RpL.rp (h : RpL K Hs H v d) (e : Ex Hs H) : Rp K H v d := by
  cases h with
  | s h => exact h.mono e.le
  | l h r => exact .lst h (r.mono e.le)
  | d h r => exact .dct (.inl h) (r.mono e.le)
end
theorem hid_less {H : Hp} {Y Z : AS} (i : ∀ a, Y a → Z a) : Ex (hid H Z) (hid H Y) := (Ex.refl H).hidLess i
section
variable {K : PySem.W.Frag} {H : Hp} {Y Z : AS} {v : V}
theorem RpL.lst {ds : List PD} (h : RpL K (hid H Z) (hid H Y) v (.list ds)) (i : ∀ a, Y a → Z a) : ∃ p xs, v = .ref p ∧ H p = some (.lst xs) ∧ RpA K (hid H Z) xs ds :=
  let ⟨p, xs, h1, h2, h3⟩ := h.lst0 (hid_less i); ⟨p, xs, h1, hid_ex.l h2, h3⟩
theorem RpL.dct {es : List (PD × PD)} (h : RpL K (hid H Z) (hid H Y) v (.dict es)) (i : ∀ a, Y a → Z a) : ∃ p kvs, v = .ref p ∧ Rd H p (.dK kvs) ∧ RpK K (hid H Z) kvs es :=
  let ⟨p, xs, h1, h2, h3⟩ := h.dct0 (hid_less i); ⟨p, xs, h1, hid_ex.rd h2, h3⟩
theorem RpL.tup {ds : List PD} (h : RpL K (hid H Z) (hid H Y) v (.tuple ds)) (i : ∀ a, Y a → Z a) : ∃ p xs, v = .ref p ∧ SqT K H p xs ∧ RpA K (hid H Z) xs ds :=
  let ⟨p, xs, h1, h2, h3⟩ := h.tup0 (hid_less i); ⟨p, xs, h1, hid_ex.sqt h2, h3⟩
end
inductive RpLA (K : PySem.W.Frag) (Hs H : Hp) : List V → List PD → Prop
  | nil : RpLA K Hs H [] []
  | cons {v : V} {vs : List V} {d : PD} {ds : List PD} : RpL K Hs H v d → RpLA K Hs H vs ds → RpLA K Hs H (v :: vs) (d :: ds)

/-! ### what is wanted of a result -/
def WrS (C : Cn) (Z : AS) (H : Hp) (Q : VK) : R PD → Prop
  | .ok d => ∀ v H2, Xt H H2 → Rp C.K (hid H2 Z) v d → Q v H2
  | .exc c => ∀ H2, Xt H H2 → C.E (.ref (C.cl c)) none H2
  | .stuck => False
def WrL (C : Cn) (Y Z : AS) (H : Hp) (Q : VK) : R PD → Prop
  | .ok d => ∀ v H2, Xt H H2 → RpL C.K (hid H2 Z) (hid H2 Y) v d → Q v H2
  | .exc c => ∀ H2, Xt H H2 → C.E (.ref (C.cl c)) none H2
  | .stuck => False
def WrT (C : Cn) (H : Hp) (Q : Bool → Hp → Prop) : R Bool → Prop
  | .ok b => ∀ H2, Xt H H2 → Q b H2
  | .exc c => ∀ H2, Xt H H2 → C.E (.ref (C.cl c)) none H2
  | .stuck => False
def WrA (C : Cn) (Z : AS) (H : Hp) (Q : List V → Hp → Prop) : R (List PD) → Prop
  | .ok ds => ∀ vs H2, Xt H H2 → RpA C.K (hid H2 Z) vs ds → Q vs H2
  | .exc c => ∀ H2, Xt H H2 → C.E (.ref (C.cl c)) none H2
  | .stuck => False
def WrB (C : Cn) (Y Z : AS) (H : Hp) (Q : List V → Hp → Prop) : R (List PD) → Prop
  | .ok ds => ∀ vs H2, Xt H H2 → RpLA C.K (hid H2 Z) (hid H2 Y) vs ds → Q vs H2
  | .exc c => ∀ H2, Xt H H2 → C.E (.ref (C.cl c)) none H2
  | .stuck => False
def WrO (C : Cn) (H : Hp) (Q : Option Int → Hp → Prop) : R (Option Int) → Prop
  | .ok o => ∀ H2, Xt H H2 → Q o H2
  | .exc c => ∀ H2, Xt H H2 → C.E (.ref (C.cl c)) none H2
  | .stuck => False

/-- an expression comes to data: safe, loose; a test; arguments: safe, loose -/
def EdS (C : Cn) (te : TE) (f : En → R PD) : Prop := ∀ (H0 : Hp) (ext : AS) (reg : Nat → AS) (en : En) (σ : L2.St) (H : Hp), RS C.K H0 ext reg en σ H → ∀ Q : VK, WrS C (own ext reg) H Q (f en) → te σ H Q
def EdL (C : Cn) (te : TE) (f : En → R PD) : Prop := ∀ (H0 : Hp) (ext : AS) (reg : Nat → AS) (en : En) (σ : L2.St) (H : Hp), RS C.K H0 ext reg en σ H → ∀ Q : VK, WrL C ext (own ext reg) H Q (f en) → te σ H Q
def EdT (C : Cn) (tt : TT) (f : En → R Bool) : Prop := ∀ (H0 : Hp) (ext : AS) (reg : Nat → AS) (en : En) (σ : L2.St) (H : Hp), RS C.K H0 ext reg en σ H → ∀ Q : Bool → Hp → Prop, WrT C H Q (f en) → tt σ H Q
def EdA (C : Cn) (ta : TA) (f : En → R (List PD)) : Prop := ∀ (H0 : Hp) (ext : AS) (reg : Nat → AS) (en : En) (σ : L2.St) (H : Hp), RS C.K H0 ext reg en σ H → ∀ Q : List V → Hp → Prop, WrA C (own ext reg) H Q (f en) → ta σ H Q
def EdB (C : Cn) (ta : TA) (f : En → R (List PD)) : Prop := ∀ (H0 : Hp) (ext : AS) (reg : Nat → AS) (en : En) (σ : L2.St) (H : Hp), RS C.K H0 ext reg en σ H → ∀ Q : List V → Hp → Prop, WrB C ext (own ext reg) H Q (f en) → ta σ H Q
def EdO (C : Cn) (to : TO) (f : En → R (Option Int)) : Prop := ∀ (H0 : Hp) (ext : AS) (reg : Nat → AS) (en : En) (σ : L2.St) (H : Hp), RS C.K H0 ext reg en σ H → ∀ Q : Option Int → Hp → Prop, WrO C H Q (f en) → to σ H Q

section
variable {C : Cn} {ta tb tc te : TE} {fa fb fc : En → R PD} {t u : TT} {ft fu : En → R Bool} {Z : AS} {H H1 : Hp} {Q : VK}
theorem WrS.ex {r : R PD} (w : WrS C Z H Q r) (e : Xt H H1) : WrS C Z H1 Q r := by
  cases r with
  | ok d => exact fun v H2 e2 h => w v H2 (e.trans e2) h
  | exc c => exact fun H2 e2 => w H2 (e.trans e2)
  | stuck => exact w
theorem WrL.ex {Y : AS} {r : R PD} (w : WrL C Y Z H Q r) (e : Xt H H1) : WrL C Y Z H1 Q r := by
  cases r with
  | ok d => exact fun v H2 e2 h => w v H2 (e.trans e2) h
  | exc c => exact fun H2 e2 => w H2 (e.trans e2)
  | stuck => exact w
theorem WrT.ex {Q : Bool → Hp → Prop} {r : R Bool} (w : WrT C H Q r) (e : Xt H H1) : WrT C H1 Q r := by
  cases r with
  | ok d => exact fun H2 e2 => w H2 (e.trans e2)
  | exc c => exact fun H2 e2 => w H2 (e.trans e2)
  | stuck => exact w
theorem WrA.ex {Q : List V → Hp → Prop} {r : R (List PD)} (w : WrA C Z H Q r) (e : Xt H H1) : WrA C Z H1 Q r := by
  cases r with
  | ok d => exact fun v H2 e2 h => w v H2 (e.trans e2) h
  | exc c => exact fun H2 e2 => w H2 (e.trans e2)
  | stuck => exact w
theorem WrB.ex {Y : AS} {Q : List V → Hp → Prop} {r : R (List PD)} (w : WrB C Y Z H Q r) (e : Xt H H1) : WrB C Y Z H1 Q r := by
  cases r with
  | ok d => exact fun v H2 e2 h => w v H2 (e.trans e2) h
  | exc c => exact fun H2 e2 => w H2 (e.trans e2)
  | stuck => exact w
theorem WrO.ex {Q : Option Int → Hp → Prop} {r : R (Option Int)} (w : WrO C H Q r) (e : Xt H H1) : WrO C H1 Q r := by
  cases r with
  | ok d => exact fun H2 e2 => w H2 (e.trans e2)
  | exc c => exact fun H2 e2 => w H2 (e.trans e2)
  | stuck => exact w
theorem EdS.l (h : EdS C te fa) : EdL C te fa := fun H0 ext reg en σ H r Q w => h H0 ext reg en σ H r Q (by
  generalize fa en = x at w ⊢
  cases x with
  | ok d => exact fun v H2 e q => w v H2 e (.s q)
  | exc c => exact w
  | stuck => exact w)
/-- one after another: what comes first is carried on -/
theorem EdL.seq {β : Type} {H0 : Hp} {ext : AS} {reg : Nat → AS} {en : En} {σ : L2.St} (h : EdL C ta fa) (r : RS C.K H0 ext reg en σ H) {W : R β → Prop} {g : PD → R β} {Q : VK} (w : W ((fa en).bind g)) (hx : ∀ c, W (.exc c) → ∀ H2, Xt H H2 → C.E (.ref (C.cl c)) none H2) (hs : ¬ W .stuck)
    (k : ∀ d v H2, Xt H H2 → RS C.K H0 ext reg en σ H2 → RpL C.K (hid H2 (own ext reg)) (hid H2 ext) v d → W (g d) → Q v H2) : ta σ H Q := h H0 ext reg en σ H r Q (by
  generalize fa en = x at w ⊢
  cases x with
  | ok d => exact fun v H2 e q => k d v H2 e (r.ex e) q w
  | exc c => exact hx c w
  | stuck => exact hs w)
theorem EdS.seq {β : Type} {H0 : Hp} {ext : AS} {reg : Nat → AS} {en : En} {σ : L2.St} (h : EdS C ta fa) (r : RS C.K H0 ext reg en σ H) {W : R β → Prop} {g : PD → R β} {Q : VK} (w : W ((fa en).bind g)) (hx : ∀ c, W (.exc c) → ∀ H2, Xt H H2 → C.E (.ref (C.cl c)) none H2) (hs : ¬ W .stuck)
    (k : ∀ d v H2, Xt H H2 → RS C.K H0 ext reg en σ H2 → Rp C.K (hid H2 (own ext reg)) v d → W (g d) → Q v H2) : ta σ H Q := h H0 ext reg en σ H r Q (by
  generalize fa en = x at w ⊢
  cases x with
  | ok d => exact fun v H2 e q => k d v H2 e (r.ex e) q w
  | exc c => exact hx c w
  | stuck => exact hs w)
theorem EdT.seq {β : Type} {H0 : Hp} {ext : AS} {reg : Nat → AS} {en : En} {σ : L2.St} (h : EdT C t ft) (r : RS C.K H0 ext reg en σ H) {W : R β → Prop} {g : Bool → R β} {Q : Bool → Hp → Prop} (w : W ((ft en).bind g)) (hx : ∀ c, W (.exc c) → ∀ H2, Xt H H2 → C.E (.ref (C.cl c)) none H2) (hs : ¬ W .stuck)
    (k : ∀ d H2, Xt H H2 → RS C.K H0 ext reg en σ H2 → W (g d) → Q d H2) : t σ H Q := h H0 ext reg en σ H r Q (by
  generalize ft en = x at w ⊢
  cases x with
  | ok d => exact fun H2 e => k d H2 e (r.ex e) w
  | exc c => exact hx c w
  | stuck => exact hs w)
theorem EdA.seq {β : Type} {H0 : Hp} {ext : AS} {reg : Nat → AS} {en : En} {σ : L2.St} {ta : TA} {fa : En → R (List PD)} (h : EdA C ta fa) (r : RS C.K H0 ext reg en σ H) {W : R β → Prop} {g : List PD → R β} {Q : List V → Hp → Prop} (w : W ((fa en).bind g)) (hx : ∀ c, W (.exc c) → ∀ H2, Xt H H2 → C.E (.ref (C.cl c)) none H2) (hs : ¬ W .stuck)
    (k : ∀ d v H2, Xt H H2 → RS C.K H0 ext reg en σ H2 → RpA C.K (hid H2 (own ext reg)) v d → W (g d) → Q v H2) : ta σ H Q := h H0 ext reg en σ H r Q (by
  generalize fa en = x at w ⊢
  cases x with
  | ok d => exact fun v H2 e q => k d v H2 e (r.ex e) q w
  | exc c => exact hx c w
  | stuck => exact hs w)
theorem EdB.seq {β : Type} {H0 : Hp} {ext : AS} {reg : Nat → AS} {en : En} {σ : L2.St} {ta : TA} {fa : En → R (List PD)} (h : EdB C ta fa) (r : RS C.K H0 ext reg en σ H) {W : R β → Prop} {g : List PD → R β} {Q : List V → Hp → Prop} (w : W ((fa en).bind g)) (hx : ∀ c, W (.exc c) → ∀ H2, Xt H H2 → C.E (.ref (C.cl c)) none H2) (hs : ¬ W .stuck)
    (k : ∀ d v H2, Xt H H2 → RS C.K H0 ext reg en σ H2 → RpLA C.K (hid H2 (own ext reg)) (hid H2 ext) v d → W (g d) → Q v H2) : ta σ H Q := h H0 ext reg en σ H r Q (by
  generalize fa en = x at w ⊢
  cases x with
  | ok d => exact fun v H2 e q => k d v H2 e (r.ex e) q w
  | exc c => exact hx c w
  | stuck => exact hs w)
theorem EdO.seq {β : Type} {H0 : Hp} {ext : AS} {reg : Nat → AS} {en : En} {σ : L2.St} {ta : TO} {fa : En → R (Option Int)} (h : EdO C ta fa) (r : RS C.K H0 ext reg en σ H) {W : R β → Prop} {g : Option Int → R β} {Q : Option Int → Hp → Prop} (w : W ((fa en).bind g)) (hx : ∀ c, W (.exc c) → ∀ H2, Xt H H2 → C.E (.ref (C.cl c)) none H2) (hs : ¬ W .stuck)
    (k : ∀ d H2, Xt H H2 → RS C.K H0 ext reg en σ H2 → W (g d) → Q d H2) : ta σ H Q := h H0 ext reg en σ H r Q (by
  generalize fa en = x at w ⊢
  cases x with
  | ok d => exact fun H2 e => k d H2 e (r.ex e) w
  | exc c => exact hx c w
  | stuck => exact hs w)

/-! ### names, constants -/
def dVar (i : Nat) : En → R PD := fun en => match en[i]? with
  | some (.sh d) => .ok d
  | some (.fz es) => .ok (.dict es)
  | _ => .stuck
def dVarL (i : Nat) : En → R PD := fun en => match en[i]? with
  | some (.sh d) => .ok d
  | some (.ol ds) => .ok (.list ds)
  | some (.od es) => .ok (.dict es)
  | some (.fz es) => .ok (.dict es)
  | _ => .stuck
theorem ed_var (i : Nat) : EdS C (tVar i) (dVar i) := fun H0 ext reg en σ H r Q w => by
  unfold dVar at w
  cases h : en[i]? with
  | none => rw [h] at w; exact w.elim
  | some sv =>
    rw [h] at w
    obtain ⟨v, h1, h2⟩ := r.sl i sv h
    cases sv with
    | sh d =>
      obtain ⟨x, rfl, h3⟩ := h2
      exact ⟨x, h1, w x H (Xt.refl H) h3⟩
    | fz es =>
      obtain ⟨p, o, kvs, rfl, h3, h4⟩ := h2
      exact ⟨_, h1, w _ H (Xt.refl H) (.dct (.inr ⟨o, h3⟩) h4)⟩
    | _ => exact w.elim
theorem el_var (i : Nat) : EdL C (tVar i) (dVarL i) := fun H0 ext reg en σ H r Q w => by
  unfold dVarL at w
  cases h : en[i]? with
  | none => rw [h] at w; exact w.elim
  | some sv =>
    rw [h] at w
    obtain ⟨v, h1, h2⟩ := r.sl i sv h
    cases sv with
    | sh d =>
      obtain ⟨x, rfl, h3⟩ := h2
      exact ⟨x, h1, w x H (Xt.refl H) (.s h3)⟩
    | ol ds =>
      obtain ⟨p, xs, rfl, h0, h3, h4⟩ := h2
      exact ⟨_, h1, w _ H (Xt.refl H) (.l (by rw [hid_at (r.noext h0)]; exact h3) h4)⟩
    | od ds =>
      obtain ⟨p, xs, rfl, h0, h3, h4⟩ := h2
      exact ⟨_, h1, w _ H (Xt.refl H) (.d (by rw [hid_at (r.noext h0)]; exact h3) h4)⟩
    | fz es =>
      obtain ⟨p, o, kvs, rfl, h3, h4⟩ := h2
      exact ⟨_, h1, w _ H (Xt.refl H) (.s (.dct (.inr ⟨o, h3⟩) h4))⟩
    | _ => exact w.elim
def dC (d : PD) : En → R PD := fun _ => .ok d
theorem ed_k {v : V} {d : PD} (h : ∀ H, Rp C.K H v d) : EdS C (tC v) (dC d) := fun H0 ext reg en σ H r Q w => w v H (Xt.refl H) (h _)
theorem ed_int (i : Int) : EdS C (tC (.int i)) (dC (.int i)) := ed_k fun _ => .int i
theorem ed_str (x : Str) : EdS C (tC (.str x)) (dC (.str x)) := ed_k fun _ => .str x
theorem ed_bl (b : Bool) : EdS C (tC (.bl b)) (dC (.bool b)) := ed_k fun _ => .bl b
theorem ed_non : EdS C (tC .non) (dC .none) := ed_k fun _ => .non

/-! ### operators by values -/
/-- r comes to g -/
def Op2 (C : Cn) (r : R2) (g : PD → PD → R PD) : Prop := ∀ (Y Z : AS) (H : Hp) (v w : V) (x y : PD) (Q : VK), (∀ a, Y a → Z a) → (∀ a, Z a → ∃ o, H a = some o) → RpL C.K (hid H Z) (hid H Y) v x → RpL C.K (hid H Z) (hid H Y) w y → WrS C Z H Q (g x y) → r v w H Q
def Op1 (C : Cn) (r : V → Hp → VK → Prop) (g : PD → R PD) : Prop := ∀ (Y Z : AS) (H : Hp) (v : V) (x : PD) (Q : VK), (∀ a, Y a → Z a) → (∀ a, Z a → ∃ o, H a = some o) → RpL C.K (hid H Z) (hid H Y) v x → WrS C Z H Q (g x) → r v H Q
def OpN (C : Cn) (r : List V → Hp → VK → Prop) (g : List PD → R PD) : Prop := ∀ (Y Z : AS) (H : Hp) (vs : List V) (xs : List PD) (Q : VK), (∀ a, Y a → Z a) → (∀ a, Z a → ∃ o, H a = some o) → RpLA C.K (hid H Z) (hid H Y) vs xs → WrS C Z H Q (g xs) → r vs H Q
/-- methods: the object, the arguments -/
def OpM (C : Cn) (r : V → List V → Hp → VK → Prop) (g : PD → List PD → R PD) : Prop := ∀ (Y Z : AS) (H : Hp) (v : V) (x : PD) (vs : List V) (xs : List PD) (Q : VK), (∀ a, Y a → Z a) → (∀ a, Z a → ∃ o, H a = some o) → RpL C.K (hid H Z) (hid H Y) v x → RpLA C.K (hid H Z) (hid H Y) vs xs → WrS C Z H Q (g x xs) → r v vs H Q
def d2 (g : PD → PD → R PD) (fa fb : En → R PD) : En → R PD := fun en => (fa en).bind fun x => (fb en).bind fun y => g x y
def d1 (g : PD → R PD) (fa : En → R PD) : En → R PD := fun en => (fa en).bind g
def dN (g : List PD → R PD) (fa : En → R (List PD)) : En → R PD := fun en => (fa en).bind g
theorem ed_op {r : R2} {g : PD → PD → R PD} (hr : Op2 C r g) (ha : EdL C ta fa) (hb : EdL C tb fb) : EdS C (tOp r ta tb) (d2 g fa fb) := fun H0 ext reg en σ H rs Q w =>
  ha.seq rs (W := WrS C (own ext reg) H Q) w (fun _ q => q) (fun q => q) fun x v H2 e2 r2 h2 w2 =>
    hb.seq r2 (W := WrS C (own ext reg) H2 Q) (w2.ex e2) (fun _ q => q) (fun q => q) fun y u H3 e3 r3 h3 w3 =>
      hr ext (own ext reg) H3 v u x y Q (fun a z => .inl z) (fun a z => r3.there z) (h2.mono e3.toEx.hid.le e3.toEx.hid) h3 (w3.ex e3)
theorem ed_un {r : V → Hp → VK → Prop} {g : PD → R PD} (hr : Op1 C r g) (ha : EdL C ta fa) : EdS C (tUn r ta) (d1 g fa) := fun H0 ext reg en σ H rs Q w =>
  ha.seq rs (W := WrS C (own ext reg) H Q) w (fun _ q => q) (fun q => q) fun x v H2 e2 r2 h2 w2 => hr ext (own ext reg) H2 v x Q (fun a z => .inl z) (fun a z => r2.there z) h2 (w2.ex e2)
theorem ed_cb {r : List V → Hp → VK → Prop} {g : List PD → R PD} {ta : TA} {fa : En → R (List PD)} (hr : OpN C r g) (ha : EdB C ta fa) : EdS C (tCB r ta) (dN g fa) := fun H0 ext reg en σ H rs Q w =>
  ha.seq rs (W := WrS C (own ext reg) H Q) w (fun _ q => q) (fun q => q) fun x v H2 e2 r2 h2 w2 => hr ext (own ext reg) H2 v x Q (fun a z => .inl z) (fun a z => r2.there z) h2 (w2.ex e2)

/-! ### arguments -/
def dNil : En → R (List PD) := fun _ => .ok []
def dCons (fa : En → R PD) (fr : En → R (List PD)) : En → R (List PD) := fun en => (fa en).bind fun x => (fr en).bind fun r => .ok (x :: r)
theorem ea_nil : EdA C tNil dNil := fun H0 ext reg en σ H rs Q w => w [] H (Xt.refl H) .nil
theorem eb_nil : EdB C tNil dNil := fun H0 ext reg en σ H rs Q w => w [] H (Xt.refl H) .nil
theorem RpLA.mono {K : PySem.W.Frag} {Hs Hs' H H' : Hp} (e : LeR K Hs Hs') (e' : Ex H H') : ∀ {vs : List V} {ds : List PD}, RpLA K Hs H vs ds → RpLA K Hs' H' vs ds
  | _, _, .nil => .nil
  | _, _, .cons h r => .cons (h.mono e e') (RpLA.mono e e' r)
theorem ea_cons {tr : TA} {fr : En → R (List PD)} (ha : EdS C ta fa) (hb : EdA C tr fr) : EdA C (tCons ta tr) (dCons fa fr) := fun H0 ext reg en σ H rs Q w =>
  ha.seq rs (W := WrA C (own ext reg) H Q) w (fun _ q => q) (fun q => q) fun x v H2 e2 r2 h2 w2 =>
    hb.seq r2 (W := WrA C (own ext reg) H2 Q) (w2.ex e2) (fun _ q => q) (fun q => q) fun y u H3 e3 r3 h3 w3 =>
      (w3.ex e3) (v :: u) H3 (Xt.refl H3) (.cons (h2.mono e3.toEx.hid.le) h3)
theorem eb_cons {tr : TA} {fr : En → R (List PD)} (ha : EdL C ta fa) (hb : EdB C tr fr) : EdB C (tCons ta tr) (dCons fa fr) := fun H0 ext reg en σ H rs Q w =>
  ha.seq rs (W := WrB C ext (own ext reg) H Q) w (fun _ q => q) (fun q => q) fun x v H2 e2 r2 h2 w2 =>
    hb.seq r2 (W := WrB C ext (own ext reg) H2 Q) (w2.ex e2) (fun _ q => q) (fun q => q) fun y u H3 e3 r3 h3 w3 =>
      (w3.ex e3) (v :: u) H3 (Xt.refl H3) (.cons (h2.mono e3.toEx.hid.le e3.toEx.hid) h3)

/-! ### displays -/
def szN : Nat := 1000000
theorem sz_of {n : Nat} (h : n ≤ szN) : n ≤ sizeLine := Nat.le_trans h (by decide)
theorem sz_lt {n : Nat} (h : n ≤ szN) : n < sizeLine := Nat.lt_of_le_of_lt h (by decide)
theorem hid_new {H : Hp} {Z : AS} {p : Addr} {o : HO} (hz : ∀ a, Z a → ∃ o, H a = some o) (h : H p = none) : hid (upd H p o) Z p = some o := by
  rw [hid_at fun z => by
    obtain ⟨u, e⟩ := hz p z
    rw [h] at e
    cases e]
  exact upd_same
def mkL (ds : List PD) : R PD := if ds.length ≤ szN then .ok (.list ds) else .stuck
def mkT (ds : List PD) : R PD := if ds.length ≤ szN then .ok (.tuple ds) else .stuck
theorem Rp.newL {K : PySem.W.Frag} {Z : AS} {p : Addr} {xs : List V} {ds : List PD} (hz : ∀ a, Z a → ∃ o, H a = some o) (hp : H p = none) (h : RpA K (hid H Z) xs ds) : Rp K (hid (upd H p (.lst xs)) Z) (.ref p) (.list ds) :=
  .lst (hid_new hz hp) (h.mono (Ex.new hp).hid.le)
theorem Rp.newT {K : PySem.W.Frag} {Z : AS} {p : Addr} {xs : List V} {ds : List PD} (hz : ∀ a, Z a → ∃ o, H a = some o) (hp : H p = none) (h : RpA K (hid H Z) xs ds) : Rp K (hid (upd H p (.tup xs)) Z) (.ref p) (.tuple ds) :=
  .tup (.inl (.inl (hid_new hz hp))) (h.mono (Ex.new hp).hid.le)
theorem WrS.newL {xs : List V} {ds : List PD} (w : WrS C Z H Q (mkL ds)) (hz : ∀ a, Z a → ∃ o, H a = some o) (h : RpA C.K (hid H Z) xs ds) : xs.length ≤ sizeLine ∧ ∀ p, H p = none → Q (.ref p) (upd H p (.lst xs)) := by
  unfold mkL at w
  split at w
  · rename_i hl
    refine ⟨sz_of (by rw [h.length]; exact hl), fun p hp => w _ _ (Xt.new hp) (Rp.newL hz hp h)⟩
  · exact w.elim
theorem WrS.newT {xs : List V} {ds : List PD} (w : WrS C Z H Q (mkT ds)) (hz : ∀ a, Z a → ∃ o, H a = some o) (h : RpA C.K (hid H Z) xs ds) : xs.length ≤ sizeLine ∧ ∀ p, H p = none → Q (.ref p) (upd H p (.tup xs)) := by
  unfold mkT at w
  split at w
  · rename_i hl
    refine ⟨sz_of (by rw [h.length]; exact hl), fun p hp => w _ _ (Xt.new hp) (Rp.newT hz hp h)⟩
  · exact w.elim
theorem ed_lst {ta : TA} {fa : En → R (List PD)} (h : EdA C ta fa) : EdS C (tLst ta) (dN mkL fa) := fun H0 ext reg en σ H rs Q w =>
  h.seq rs (W := WrS C (own ext reg) H Q) w (fun _ q => q) (fun q => q) fun x v H2 e2 r2 h2 w2 => (w2.ex e2).newL (fun a z => r2.there z) h2
theorem ed_tup {ta : TA} {fa : En → R (List PD)} (h : EdA C ta fa) : EdS C (tTup ta) (dN mkT fa) := fun H0 ext reg en σ H rs Q w =>
  h.seq rs (W := WrS C (own ext reg) H Q) w (fun _ q => q) (fun q => q) fun x v H2 e2 r2 h2 w2 => (w2.ex e2).newT (fun a z => r2.there z) h2

/-! ### tests -/
def asB : PD → R Bool
  | .bool b => .ok b
  | _ => .stuck
def dTest (fa : En → R PD) : En → R Bool := fun en => (fa en).bind asB
theorem et_test (h : EdL C te fa) : EdT C (tTest te) (dTest fa) := fun H0 ext reg en σ H rs Q w =>
  h.seq rs (W := WrT C H Q) w (fun _ q => q) (fun q => q) fun x v H2 e2 r2 h2 w2 => by
    cases x with
    | bool b => exact ⟨b, h2.bl, w2 H2 e2⟩
    | _ => exact w2.elim
theorem et_B (h : EdL C te fa) : EdT C (tB te) (dTest fa) := et_test h
def dAnd (ft fu : En → R Bool) : En → R Bool := fun en => (ft en).bind fun b => match b with
  | true => fu en
  | false => .ok false
def dOr (ft fu : En → R Bool) : En → R Bool := fun en => (ft en).bind fun b => match b with
  | true => .ok true
  | false => fu en
def dNot (ft : En → R Bool) : En → R Bool := fun en => (ft en).bind fun b => .ok (!b)
theorem et_and (h : EdT C t ft) (h' : EdT C u fu) : EdT C (tAnd t u) (dAnd ft fu) := fun H0 ext reg en σ H rs Q w =>
  h.seq rs (W := WrT C H Q) w (fun _ q => q) (fun q => q) fun b H2 e2 r2 w2 => by
    cases b with
    | true =>
      show u σ H2 Q
      exact h' H0 ext reg en σ H2 r2 Q (WrT.ex w2 e2)
    | false =>
      show Q false H2
      exact w2 H2 e2
theorem et_or (h : EdT C t ft) (h' : EdT C u fu) : EdT C (tOr t u) (dOr ft fu) := fun H0 ext reg en σ H rs Q w =>
  h.seq rs (W := WrT C H Q) w (fun _ q => q) (fun q => q) fun b H2 e2 r2 w2 => by
    cases b with
    | true =>
      show Q true H2
      exact w2 H2 e2
    | false =>
      show u σ H2 Q
      exact h' H0 ext reg en σ H2 r2 Q (WrT.ex w2 e2)
theorem et_not (h : EdT C t ft) : EdT C (tNot t) (dNot ft) := fun H0 ext reg en σ H rs Q w =>
  h.seq rs (W := WrT C H Q) w (fun _ q => q) (fun q => q) fun b H2 e2 r2 w2 => w2 H2 e2
/-- and, or, not as values (truths) -/
def dAndV (fa fb : En → R PD) : En → R PD := fun en => (fa en).bind fun x => match x with
  | .bool true => fb en
  | .bool false => .ok (.bool false)
  | _ => .stuck
def dOrV (fa fb : En → R PD) : En → R PD := fun en => (fa en).bind fun x => match x with
  | .bool true => .ok (.bool true)
  | .bool false => fb en
  | _ => .stuck
def notD : PD → R PD
  | .bool b => .ok (.bool (!b))
  | _ => .stuck
theorem ed_andV (h : EdL C ta fa) (h' : EdS C tb fb) : EdS C (tAndV ta tb) (dAndV fa fb) := fun H0 ext reg en σ H rs Q w =>
  h.seq rs (W := WrS C (own ext reg) H Q) w (fun _ q => q) (fun q => q) fun x v H2 e2 r2 h2 w2 => by
    cases x with
    | bool b =>
      refine ⟨b, h2.bl, ?_⟩
      cases b with
      | true =>
        show tb σ H2 Q
        exact h' H0 ext reg en σ H2 r2 Q (WrS.ex w2 e2)
      | false =>
        show Q (.bl false) H2
        exact w2 _ H2 e2 (.bl false)
    | _ => exact w2.elim
theorem ed_orV (h : EdL C ta fa) (h' : EdS C tb fb) : EdS C (tOrV ta tb) (dOrV fa fb) := fun H0 ext reg en σ H rs Q w =>
  h.seq rs (W := WrS C (own ext reg) H Q) w (fun _ q => q) (fun q => q) fun x v H2 e2 r2 h2 w2 => by
    cases x with
    | bool b =>
      refine ⟨b, h2.bl, ?_⟩
      cases b with
      | true =>
        show Q (.bl true) H2
        exact w2 _ H2 e2 (.bl true)
      | false =>
        show tb σ H2 Q
        exact h' H0 ext reg en σ H2 r2 Q (WrS.ex w2 e2)
    | _ => exact w2.elim
theorem ed_notV (h : EdL C ta fa) : EdS C (tNotV ta) (d1 notD fa) := fun H0 ext reg en σ H rs Q w =>
  h.seq rs (W := WrS C (own ext reg) H Q) w (fun _ q => q) (fun q => q) fun x v H2 e2 r2 h2 w2 => by
    cases x with
    | bool b => exact ⟨b, h2.bl, w2 _ H2 e2 (.bl _)⟩
    | _ => exact w2.elim
def dIf (ft : En → R Bool) (fa fb : En → R PD) : En → R PD := fun en => (ft en).bind fun b => match b with
  | true => fa en
  | false => fb en
theorem ed_if (h : EdT C t ft) (h1 : EdS C ta fa) (h2 : EdS C tb fb) : EdS C (tIf t ta tb) (dIf ft fa fb) := fun H0 ext reg en σ H rs Q w =>
  h.seq rs (W := WrS C (own ext reg) H Q) w (fun _ q => q) (fun q => q) fun b H2 e2 r2 w2 => by
    cases b with
    | true =>
      show ta σ H2 Q
      exact h1 H0 ext reg en σ H2 r2 Q (WrS.ex w2 e2)
    | false =>
      show tb σ H2 Q
      exact h2 H0 ext reg en σ H2 r2 Q (WrS.ex w2 e2)
theorem el_if (h : EdT C t ft) (h1 : EdL C ta fa) (h2 : EdL C tb fb) : EdL C (tIf t ta tb) (dIf ft fa fb) := fun H0 ext reg en σ H rs Q w =>
  h.seq rs (W := WrL C ext (own ext reg) H Q) w (fun _ q => q) (fun q => q) fun b H2 e2 r2 w2 => by
    cases b with
    | true =>
      show ta σ H2 Q
      exact h1 H0 ext reg en σ H2 r2 Q (WrL.ex w2 e2)
    | false =>
      show tb σ H2 Q
      exact h2 H0 ext reg en σ H2 r2 Q (WrL.ex w2 e2)
/-- a < b < c -/
def dChain (g g' : PD → PD → R PD) (fa fb fc : En → R PD) : En → R PD := fun en => (fa en).bind fun x => (fb en).bind fun y => (g x y).bind fun z => match z with
  | .bool true => (fc en).bind fun w => g' y w
  | .bool false => .ok (.bool false)
  | _ => .stuck
theorem ed_chain {r r' : R2} {g g' : PD → PD → R PD} (hr : Op2 C r g) (hr' : Op2 C r' g') (ha : EdL C ta fa) (hb : EdL C tb fb) (hc : EdL C tc fc) : EdS C (tChain r r' ta tb tc) (dChain g g' fa fb fc) := fun H0 ext reg en σ H rs Q w =>
  ha.seq rs (W := WrS C (own ext reg) H Q) w (fun _ q => q) (fun q => q) fun x v H2 e2 r2 h2 w2 =>
    hb.seq r2 (W := WrS C (own ext reg) H2 Q) (WrS.ex w2 e2) (fun _ q => q) (fun q => q) fun y u H3 e3 r3 h3 w3 => by
      refine hr ext (own ext reg) H3 v u x y _ (fun a z => .inl z) (fun a z => r3.there z) (h2.mono e3.toEx.hid.le e3.toEx.hid) h3 ?_
      have w4 := WrS.ex w3 e3
      revert w4
      generalize g x y = z
      intro w4
      cases z with
      | ok z =>
        intro v4 H4 e4 h4
        cases z with
        | bool b =>
          cases h4
          refine ⟨b, rfl, ?_⟩
          cases b with
          | true =>
            exact hc.seq (r3.ex e4) (W := WrS C (own ext reg) H4 Q) (WrS.ex w4 e4) (fun _ q => q) (fun q => q) fun y5 u5 H5 e5 r5 h5 w5 => hr' ext (own ext reg) H5 u u5 y y5 Q (fun a z => .inl z) (fun a z => r5.there z) (h3.mono (e4.trans e5).toEx.hid.le (e4.trans e5).toEx.hid) h5 (WrS.ex w5 e5)
          | false => exact w4 _ H4 e4 (.bl false)
        | _ => exact w4.elim
      | exc c => exact w4
      | stuck => exact w4
end
end Dn

namespace Dn
open PySem L2
variable [Tabl]

section
variable {X : Cx} {f : Value → Value → Sem Value} {r r' : R2}
def rOr (r r' : R2) : R2 := fun x y H Q => r x y H Q ∨ r' x y H Q
theorem opOr (h : OpR X f r) (h' : OpR X f r') : OpR X f (rOr r r') := fun pins s σ H x y v u Q I rx ry q => by
  rcases q with q | q
  · exact h pins s σ H x y v u Q I rx ry q
  · exact h' pins s σ H x y v u Q I rx ry q
def cOr (r r' : List V → Hp → VK → Prop) : List V → Hp → VK → Prop := fun xs H Q => r xs H Q ∨ r' xs H Q
theorem callOr {g : Value} {r r' : List V → Hp → VK → Prop} (h : CallR X g r) (h' : CallR X g r') : CallR X g (cOr r r') := fun pins s σ H xs us Q I rx q => by
  rcases q with q | q
  · exact h pins s σ H xs us Q I rx q
  · exact h' pins s σ H xs us Q I rx q
end

/-! ### arithmetic -/
def addD : PD → PD → R PD
  | .int i, .int j => .ok (.int (i + j))
  | .str a, .str b => if a.length + b.length ≤ szN then .ok (.str (a ++ b)) else .stuck
  | .list a, .list b => if a.length + b.length ≤ szN then .ok (.list (a ++ b)) else .stuck
  | _, _ => .stuck
def rAddStr : R2 := fun x y H Q => ∃ i j, x = .str i ∧ y = .str j ∧ i.length + j.length ≤ sizeLine ∧ Q (.str (i ++ j)) H
def rAddD : R2 := rOr (rI0 fun i j => .int (i + j)) (rOr rAddStr rCat)
theorem op_addD {X : Cx} : OpR X (binaryOp .Add) rAddD := opOr op_add (opOr op_add_str op_cat)
section
variable {C : Cn}
theorem o_add : Op2 C rAddD addD := fun Y Z H v w x y Q hyz hz hx hy q => by
  cases x with
  | int i =>
    cases y with
    | int j => exact .inl ⟨i, j, hx.int, hy.int, q _ H (Xt.refl H) (.int _)⟩
    | _ => exact q.elim
  | str a =>
    cases y with
    | str b =>
      unfold addD at q
      dsimp only at q
      split at q
      · rename_i hl
        exact .inr (.inl ⟨a, b, hx.str, hy.str, sz_of hl, q _ H (Xt.refl H) (.str _)⟩)
      · exact q.elim
    | _ => exact q.elim
  | list a =>
    cases y with
    | list b =>
      unfold addD at q
      dsimp only at q
      split at q
      · rename_i hl
        obtain ⟨p, xs, rfl, h1, r1⟩ := hx.lst hyz
        obtain ⟨p', ys, rfl, h2, r2⟩ := hy.lst hyz
        exact .inr (.inr ⟨p, p', xs, ys, rfl, rfl, h1, h2, sz_of (by rw [r1.length, r2.length]; exact hl), fun n hn => q _ _ (Xt.new hn) (Rp.newL hz hn (r1.app r2))⟩)
      · exact q.elim
    | _ => exact q.elim
  | _ => exact q.elim
/-- two ints -/
def i2 (C' : Int → Int → Bool) (g : Int → Int → PD) : PD → PD → R PD
  | .int i, .int j => if C' i j = true then .ok (g i j) else .stuck
  | _, _ => .stuck
def i20 (g : Int → Int → PD) : PD → PD → R PD
  | .int i, .int j => .ok (g i j)
  | _, _ => .stuck
theorem o_i20 {gv : Int → Int → V} {g : Int → Int → PD} (h : ∀ i j H, Rp C.K H (gv i j) (g i j)) : Op2 C (rI0 gv) (i20 g) := fun Y Z H v w x y Q hyz hz hx hy q => by
  cases x with
  | int i =>
    cases y with
    | int j => exact ⟨i, j, hx.int, hy.int, q _ H (Xt.refl H) (h i j _)⟩
    | _ => exact q.elim
  | _ => exact q.elim
theorem o_i2 {C' : Int → Int → Prop} {c : Int → Int → Bool} {gv : Int → Int → V} {g : Int → Int → PD} (hc : ∀ i j, c i j = true → C' i j) (h : ∀ i j H, Rp C.K H (gv i j) (g i j)) : Op2 C (rI C' gv) (i2 c g) := fun Y Z H v w x y Q hyz hz hx hy q => by
  cases x with
  | int i =>
    cases y with
    | int j =>
      unfold i2 at q
      dsimp only at q
      split at q
      · rename_i hl
        exact ⟨i, j, hx.int, hy.int, hc i j hl, q _ H (Xt.refl H) (h i j _)⟩
      · exact q.elim
    | _ => exact q.elim
  | _ => exact q.elim
abbrev subD : PD → PD → R PD := i20 fun i j => .int (i - j)
theorem o_sub : Op2 C (rI0 fun i j => .int (i - j)) subD := o_i20 fun _ _ _ => .int _
abbrev ltD : PD → PD → R PD := i20 fun i j => .bool (decide (i < j))
abbrev leD : PD → PD → R PD := i20 fun i j => .bool (decide (i ≤ j))
abbrev gtD : PD → PD → R PD := i20 fun i j => .bool (decide (j < i))
abbrev geD : PD → PD → R PD := i20 fun i j => .bool (decide (j ≤ i))
theorem o_lt : Op2 C (rI0 fun i j => .bl (decide (i < j))) ltD := o_i20 fun _ _ _ => .bl _
theorem o_le : Op2 C (rI0 fun i j => .bl (decide (i ≤ j))) leD := o_i20 fun _ _ _ => .bl _
theorem o_gt : Op2 C (rI0 fun i j => .bl (decide (j < i))) gtD := o_i20 fun _ _ _ => .bl _
theorem o_ge : Op2 C (rI0 fun i j => .bl (decide (j ≤ i))) geD := o_i20 fun _ _ _ => .bl _
abbrev modD : PD → PD → R PD := i2 (fun _ j => decide (0 < j)) fun i j => .int (i % j)
theorem o_mod : Op2 C (rI (fun _ j => 0 < j) fun i j => .int (i % j)) modD := o_i2 (fun _ _ h => of_decide_eq_true h) fun _ _ _ => .int _
abbrev fdivD : PD → PD → R PD := i2 (fun _ j => decide (0 < j ∧ j.natAbs.log2 < 9000)) fun i j => .int (i / j)
theorem o_fdiv : Op2 C (rI CDivW fun i j => .int (i / j)) fdivD := o_i2 (fun i j h => show CDivW i j from of_decide_eq_true (p := (0 < j ∧ j.natAbs.log2 < 9000)) h) fun _ _ _ => .int _
abbrev powD : PD → PD → R PD := i2 (fun i j => decide (0 ≤ j ∧ j ≤ 1000000 ∧ i.natAbs < 2 ^ 64)) fun i j => .int (i ^ j.toNat)
theorem o_pow : Op2 C (rI CPow fun i j => .int (i ^ j.toNat)) powD := o_i2 (fun i j h => show CPow i j from of_decide_eq_true (p := (0 ≤ j ∧ j ≤ 1000000 ∧ i.natAbs < 2 ^ 64)) h) fun _ _ _ => .int _
/-- * : ints (one below 2^64, or both below 2^4000), a list times an int -/
def mulC (i j : Int) : Bool := decide ((-(2 ^ 64) < i ∧ i < 2 ^ 64) ∨ (-(2 ^ 64) < j ∧ j < 2 ^ 64)) || decide (i.natAbs.log2 + j.natAbs.log2 < 1000000)
def mulD : PD → PD → R PD
  | .int i, .int j => if mulC i j = true then .ok (.int (i * j)) else .stuck
  | .list xs, .int k => if -(2 ^ 63) ≤ k ∧ k < 2 ^ 63 ∧ xs.length * k.toNat ≤ szN then .ok (.list (List.replicate k.toNat xs).flatten) else .stuck
  | _, _ => .stuck
def rMulD : R2 := rOr (rI CMul fun i j => .int (i * j)) (rOr (rI CMulW fun i j => .int (i * j)) rRep)
theorem op_mulD {X : Cx} : OpR X (binaryOp .Mult) rMulD := opOr op_mul (opOr op_mulW op_rep)
theorem o_mul : Op2 C rMulD mulD := fun Y Z H v w x y Q hyz hz hx hy q => by
  cases x with
  | int i =>
    cases y with
    | int j =>
      unfold mulD at q
      dsimp only at q
      split at q
      · rename_i hl
        have hl' : decide ((-(2 ^ 64) < i ∧ i < 2 ^ 64) ∨ (-(2 ^ 64) < j ∧ j < 2 ^ 64)) = true ∨ decide (i.natAbs.log2 + j.natAbs.log2 < 1000000) = true := Bool.or_eq_true_iff.mp hl
        rcases hl' with h | h
        · exact .inl ⟨i, j, hx.int, hy.int, show CMul i j from of_decide_eq_true (p := ((-(2 ^ 64) < i ∧ i < 2 ^ 64) ∨ (-(2 ^ 64) < j ∧ j < 2 ^ 64))) h, q _ H (Xt.refl H) (.int _)⟩
        · exact .inr (.inl ⟨i, j, hx.int, hy.int, show CMulW i j from of_decide_eq_true (p := (i.natAbs.log2 + j.natAbs.log2 < 1000000)) h, q _ H (Xt.refl H) (.int _)⟩)
      · exact q.elim
    | _ => exact q.elim
  | list a =>
    cases y with
    | int k =>
      unfold mulD at q
      dsimp only at q
      split at q
      · rename_i hl
        obtain ⟨p, xs, rfl, h1, r1⟩ := hx.lst hyz
        exact .inr (.inr ⟨p, k, xs, rfl, hy.int, h1, hl.1, hl.2.1, sz_of (by rw [r1.length]; exact hl.2.2), fun n hn => q _ _ (Xt.new hn) (Rp.newL hz hn (r1.rep _))⟩)
      · exact q.elim
    | _ => exact q.elim
  | _ => exact q.elim
def negD : PD → R PD
  | .int i => .ok (.int (-i))
  | _ => .stuck
theorem o_neg : Op1 C (rU fun i => .int (-i)) negD := fun Y Z H v x Q hyz hz hx q => by
  cases x with
  | int i => exact ⟨i, hx.int, q _ H (Xt.refl H) (.int _)⟩
  | _ => exact q.elim

/-! ### == -/
def sc2 : PD → PD → Option Bool
  | .str a, .str b => some (decide (a = b))
  | .int a, .int b => some (decide (a = b))
  | .bool a, .bool b => some (decide (a = b))
  | .none, .none => some true
  | .none, .str _ => some false
  | .str _, .none => some false
  | _, _ => none
def eqD (x y : PD) : R PD := match sc2 x y with
  | some b => .ok (.bool b)
  | none => if (SeqAt.shaped x && SeqAt.shaped y) = true then .ok (.bool (PyData.eqv x y)) else .stuck
def neD (x y : PD) : R PD := match sc2 x y with
  | some b => .ok (.bool (!b))
  | none => if (SeqAt.shaped x && SeqAt.shaped y) = true then .ok (.bool (!PyData.eqv x y)) else .stuck
def rEqA (K : PySem.W.Frag) : R2 := rOr rEq (rEqD K)
def rNeA (K : PySem.W.Frag) : R2 := rOr rNe (rNeD K)
theorem op_eqA {X : Cx} (hu : X.A.units + 64 < cLine) : OpR X (compareOp .Eq) (rEqA X.K) := opOr op_eq (op_eqD hu)
theorem op_neA {X : Cx} (hu : X.A.units + 64 < cLine) : OpR X (compareOp .NotEq) (rNeA X.K) := opOr op_ne (op_neD hu)
mutual
theorem Rp.dp {K : PySem.W.Frag} {H : Hp} : ∀ {d : PD} {v : V}, Rp K H v d → PyData.canLay0 d = true → Dp K H v d
  | _, _, .non, _ => .non
  | _, _, .bl b, _ => .bl b
  | _, _, .int b, _ => .int b
  | _, _, .str b, _ => .str b
  | _, _, .lst h r, c => .lst (.inl (.inl h)) (RpA.dp r (by simpa [PyData.canLay0] using c))
  | _, _, .tup h r, c => .tup h (RpA.dp r (by simpa [PyData.canLay0] using c))
  | _, _, .dct _ _, c => by simp [PyData.canLay0] at c
theorem RpA.dp {K : PySem.W.Frag} {H : Hp} : ∀ {d : List PD} {v : List V}, RpA K H v d → PyData.canLayAll0 d = true → DpAll K H v d
  | _, _, .nil, _ => .nil
  | _, _, .cons h r, c => by
    simp only [PyData.canLayAll0, Bool.and_eq_true] at c
    exact .cons (Rp.dp h c.1) (RpA.dp r c.2)
end
theorem sc2_scal {K : PySem.W.Frag} {Hs H : Hp} {v w : V} {x y : PD} {b : Bool} (e : sc2 x y = some b) (hx : RpL K Hs H v x) (hy : RpL K Hs H w y) : scal v w = true ∧ decide (v = w) = b := by
  unfold sc2 at e
  split at e
  · rw [hx.str, hy.str, ← Option.some.inj e]
    exact ⟨rfl, by simp⟩
  · rw [hx.int, hy.int, ← Option.some.inj e]
    exact ⟨rfl, by simp⟩
  · rw [hx.bl, hy.bl, ← Option.some.inj e]
    exact ⟨rfl, by simp⟩
  · rw [hx.non, hy.non, ← Option.some.inj e]
    exact ⟨rfl, by simp⟩
  · rw [hx.non, hy.str, ← Option.some.inj e]
    exact ⟨rfl, by simp⟩
  · rw [hx.str, hy.non, ← Option.some.inj e]
    exact ⟨rfl, by simp⟩
  · cases e
theorem o_eq : Op2 C (rEqA C.K) eqD := fun Y Z H v w x y Q hyz hz hx hy q => by
  unfold eqD at q
  cases e : sc2 x y with
  | some b =>
    rw [e] at q
    obtain ⟨h1, h2⟩ := sc2_scal e hx hy
    exact .inl ⟨h1, by rw [h2]; exact q _ H (Xt.refl H) (.bl _)⟩
  | none =>
    rw [e] at q
    dsimp only at q
    split at q
    · rename_i hl
      obtain ⟨s1, s2⟩ := Bool.and_eq_true_iff.mp hl
      exact .inr ⟨x, y, ((hx.rp (hid_less hyz)).mono hid_ex.le).dp (SeqAt.canLay_of_shaped s1), ((hy.rp (hid_less hyz)).mono hid_ex.le).dp (SeqAt.canLay_of_shaped s2), s1, s2, q _ H (Xt.refl H) (.bl _)⟩
    · exact q.elim
theorem o_ne : Op2 C (rNeA C.K) neD := fun Y Z H v w x y Q hyz hz hx hy q => by
  unfold neD at q
  cases e : sc2 x y with
  | some b =>
    rw [e] at q
    obtain ⟨h1, h2⟩ := sc2_scal e hx hy
    exact .inl ⟨h1, by rw [h2]; exact q _ H (Xt.refl H) (.bl _)⟩
  | none =>
    rw [e] at q
    dsimp only at q
    split at q
    · rename_i hl
      obtain ⟨s1, s2⟩ := Bool.and_eq_true_iff.mp hl
      exact .inr ⟨x, y, ((hx.rp (hid_less hyz)).mono hid_ex.le).dp (SeqAt.canLay_of_shaped s1), ((hy.rp (hid_less hyz)).mono hid_ex.le).dp (SeqAt.canLay_of_shaped s2), s1, s2, q _ H (Xt.refl H) (.bl _)⟩
    · exact q.elim

/-! ### items, slices -/
def eqK : PD → Key → Bool
  | .int i, .inl j => decide (i = j)
  | .str x, .inr y => decide (x = y)
  | _, _ => false
def kOf : PD → Option Key
  | .int i => some (.inl i)
  | .str x => some (.inr x)
  | _ => none
/-- what the pairs hold at the key -/
def lookD (es : List (PD × PD)) (k : Key) : Option PD := (es.find? fun e => eqK e.1 k).map (·.2)
theorem eqK_kD (k j : Key) : eqK (kD k) j = decide (k = j) := by
  cases k <;> cases j <;> simp [eqK, kD]
theorem RpL.key {K : PySem.W.Frag} {Hs H : Hp} {v : V} {x : PD} {k : Key} (h : RpL K Hs H v x) (e : kOf x = some k) : v = kV k := by
  cases x with
  | int i => cases e; exact h.int
  | str z => cases e; exact h.str
  | _ => cases e
theorem RpK.look {K : PySem.W.Frag} {H : Hp} (k : Key) : ∀ {kvs : List (Key × V)} {es : List (PD × PD)}, RpK K H kvs es → (∀ d, lookD es k = some d → ∃ v, valV kvs k = some v ∧ Rp K H v d) ∧ (lookD es k = none → valV kvs k = none)
  | _, _, .nil => ⟨fun d h => (nomatch h), fun _ => rfl⟩
  | _, _, .cons (k := j) (v := v) (vs := vs) (d := d) (ds := ds) h r => by
    obtain ⟨h1, h2⟩ := RpK.look k r
    by_cases e : j = k
    · have a : valV ((j, v) :: vs) k = some v := valV_pos (p := (j, v)) e
      have b : lookD ((kD j, d) :: ds) k = some d := by
        unfold lookD
        rw [List.find?_cons, eqK_kD, decide_eq_true e]
        rfl
      rw [a, b]
      exact ⟨fun d' q => by cases q; exact ⟨v, rfl, h⟩, fun q => by cases q⟩
    · have a : valV ((j, v) :: vs) k = valV vs k := valV_neg (p := (j, v)) e
      have b : lookD ((kD j, d) :: ds) k = lookD ds k := by
        unfold lookD
        rw [List.find?_cons, eqK_kD, decide_eq_false e]
      rw [a, b]
      exact ⟨h1, h2⟩
def rDG : R2 := fun x y H Q => ∃ a v, x = .ref a ∧ DGet H a y (some v) ∧ Q v H
theorem ix_dict {X : Cx} (hu : X.A.units + 64 < cLine) : IxR X rDG := by
  intro value slice pins s σ H x y v u Q I rx ry h hs
  obtain ⟨a, v0, rfl, g, q⟩ := h
  obtain rfl : v = Value.ref a := rx
  exact PyProof.Rows.tail_any (dict_typeIs I g) PySem.F.slot_dict_getitem.lookup (d_getItem (by omega) I g ry fun w' s3 I3 rw' => ⟨v0, H, I3, rw', q⟩) hs
def rIxA (K : PySem.W.Frag) : R2 := rOr (rIx K) rDG
theorem ixOr {X : Cx} {r r' : R2} (h : IxR X r) (h' : IxR X r') : IxR X (rOr r r') := by
  intro value slice pins s σ H x y v u Q I rx ry q hs
  rcases q with q | q
  · exact h value slice pins s σ H x y v u Q I rx ry q hs
  · exact h' value slice pins s σ H x y v u Q I rx ry q hs
theorem ix_A {X : Cx} (hu : X.A.units + 64 < cLine) : IxR X (rIxA X.K) := ixOr ix_seq (ix_dict hu)
def ixD : PD → PD → R PD
  | .list xs, .int i => match atI xs i with
    | some d => .ok d
    | none => .stuck
  | .tuple xs, .int i => match atI xs i with
    | some d => .ok d
    | none => .stuck
  | .str z, .int i => match atI z.cps.toList i with
    | some c => if z.length ≤ szN then .ok (.str ⟨#[c]⟩) else .stuck
    | none => .stuck
  | .dict es, k => match kOf k with
    | some k => match lookD es k with
      | some d => .ok d
      | none => .stuck
    | none => .stuck
  | _, _ => .stuck
theorem RpA.atI {K : PySem.W.Frag} {H : Hp} {xs : List V} {ds : List PD} {i : Int} {d : PD} (h : RpA K H xs ds) (e : L2.atI ds i = some d) : ∃ v, L2.atI xs i = some v ∧ Rp K H v d := by
  unfold L2.atI at e ⊢
  rw [h.length]
  cases q : ixN ds.length i with
  | none => rw [q] at e; cases e
  | some j =>
    rw [q] at e
    exact h.get e
theorem o_ix : Op2 C (rIxA C.K) ixD := fun Y Z H v w x y Q hyz hz hx hy q => by
  unfold ixD at q
  split at q
  · rename_i xs i
    split at q
    · rename_i d e
      obtain ⟨p, vs, rfl, h1, r1⟩ := hx.lst hyz
      obtain ⟨u, e2, hu⟩ := r1.atI e
      exact .inl (.inl ⟨p, vs, i, u, rfl, hy.int, SqL.of h1, e2, q _ H (Xt.refl H) hu⟩)
    · exact q.elim
  · rename_i xs i
    split at q
    · rename_i d e
      obtain ⟨p, vs, rfl, h1, r1⟩ := hx.tup hyz
      obtain ⟨u, e2, hu⟩ := r1.atI e
      exact .inl (.inr (.inl ⟨p, vs, i, u, rfl, hy.int, h1, e2, q _ H (Xt.refl H) hu⟩))
    · exact q.elim
  · rename_i z i
    split at q
    · rename_i c e
      split at q
      · rename_i hl
        exact .inl (.inr (.inr ⟨z, i, c, hx.str, hy.int, sz_of hl, e, q _ H (Xt.refl H) (.str _)⟩))
      · exact q.elim
    · exact q.elim
  · rename_i es k
    split at q
    · rename_i k0 ek
      split at q
      · rename_i d ed
        obtain ⟨p, kvs, rfl, h1, r1⟩ := hx.dct hyz
        obtain ⟨v0, ev, rv⟩ := (r1.look k0).1 d ed
        exact .inr ⟨p, v0, rfl, .inl ⟨kvs, k0, h1, hy.key ek, ev.symm⟩, q _ H (Xt.refl H) rv⟩
      · exact q.elim
    · exact q.elim
  · exact q.elim
def cutD (xs : List PD) (lo hi : Option Int) : List PD := (xs.drop (HT.sIx xs.length 0 lo)).take (HT.sIx xs.length xs.length hi - HT.sIx xs.length 0 lo)
theorem RpA.cut {K : PySem.W.Frag} {H : Hp} {xs : List V} {ds : List PD} (h : RpA K H xs ds) (lo hi : Option Int) : RpA K H (cutV xs lo hi) (cutD ds lo hi) := by
  unfold cutV cutD
  rw [h.length]
  exact (h.drop _).take _
def slD : PD → Option Int → Option Int → R PD
  | .list xs, lo, hi => .ok (.list (cutD xs lo hi))
  | .str z, lo, hi => if z.length ≤ szN then .ok (.str (cutS z lo hi)) else .stuck
  | _, _, _ => .stuck
def dOno : En → R (Option Int) := fun _ => .ok none
def dOso (fa : En → R PD) : En → R (Option Int) := fun en => (fa en).bind fun x => match x with
  | .int i => .ok (some i)
  | _ => .stuck
theorem eo_none : EdO C tNoPart dOno := fun H0 ext reg en σ H rs Q w => w H (Xt.refl H)
theorem eo_some {ta : TE} {fa : En → R PD} (h : EdL C ta fa) : EdO C (tPart ta) (dOso fa) := fun H0 ext reg en σ H rs Q w =>
  h.seq rs (W := WrO C H Q) w (fun _ q => q) (fun q => q) fun x v H2 e2 r2 h2 w2 => by
    cases x with
    | int i => exact ⟨i, h2.int, w2 H2 e2⟩
    | _ => exact w2.elim
end
end Dn

namespace Dn
open PySem L2
variable [Tabl]

section
variable {K : PySem.W.Frag} {Hs H : Hp} {vs : List V} {x y : PD}
theorem RpLA.zero (h : RpLA K Hs H vs []) : vs = [] := by cases h; rfl
theorem RpLA.one (h : RpLA K Hs H vs [x]) : ∃ v, vs = [v] ∧ RpL K Hs H v x := by
  cases h with
  | cons a r => cases r; exact ⟨_, rfl, a⟩
theorem RpLA.two (h : RpLA K Hs H vs [x, y]) : ∃ v w, vs = [v, w] ∧ RpL K Hs H v x ∧ RpL K Hs H w y := by
  cases h with
  | cons a r =>
    cases r with
    | cons b r => cases r; exact ⟨_, _, rfl, a, b⟩
end

section
variable {C : Cn} {ta tb te : TE} {fa fb : En → R PD}
/-! ### slices -/
def dSl (fa : En → R PD) (fl fh : En → R (Option Int)) : En → R PD := fun en => (fa en).bind fun x => (fl en).bind fun l => (fh en).bind fun u => slD x l u
def rSlD (K : PySem.W.Frag) : V → Option Int → Option Int → Hp → VK → Prop := fun x lo hi H Q => rSlL K x lo hi H Q ∨ rSlS x lo hi H Q
theorem sl_D {X : Cx} : SlR X (rSlD X.K) := sl_list.or sl_str
theorem ed_sl {tl th : TO} {fl fh : En → R (Option Int)} (h : EdL C ta fa) (hl : EdO C tl fl) (hh : EdO C th fh) : EdS C (tSl (rSlD C.K) ta tl th) (dSl fa fl fh) := fun H0 ext reg en σ H rs Q w =>
  h.seq rs (W := WrS C (own ext reg) H Q) w (fun _ q => q) (fun q => q) fun x v H2 e2 r2 h2 w2 =>
    hl.seq r2 (W := WrS C (own ext reg) H2 Q) (WrS.ex w2 e2) (fun _ q => q) (fun q => q) fun l H3 e3 r3 w3 =>
      hh.seq r3 (W := WrS C (own ext reg) H3 Q) (WrS.ex w3 e3) (fun _ q => q) (fun q => q) fun u H4 e4 r4 w4 => by
        have w5 := WrS.ex w4 e4
        have h5 := h2.mono (e3.trans e4).toEx.hid.le (e3.trans e4).toEx.hid
        clear w4 w3 w2 w h2
        unfold slD at w5
        split at w5
        · obtain ⟨p, xs, rfl, hp, hr⟩ := h5.lst fun a z => .inl z
          exact .inl ⟨p, xs, rfl, SqL.of hp, fun q hq => w5 _ _ (Xt.new hq) (Rp.newL (fun a z => r4.there z) hq (hr.cut l u))⟩
        · split at w5
          · rename_i hl
            exact .inr ⟨_, h5.str, sz_of hl, w5 _ H4 (Xt.refl H4) (.str _)⟩
          · exact w5.elim
        · exact w5.elim

/-! ### built-ins -/
def lenD : List PD → R PD
  | [.list ds] => .ok (.int ds.length)
  | [.tuple ds] => .ok (.int ds.length)
  | [.str z] => if z.length ≤ szN then .ok (.int z.length) else .stuck
  | _ => .stuck
def rLenA (K : PySem.W.Frag) : List V → Hp → VK → Prop := fun xs H Q => ∃ x n, xs = [x] ∧ LenV K x H n ∧ Q (.int n) H
theorem n_len : OpN C (rLenA C.K) lenD := fun Y Z H vs xs Q hyz hz hx q => by
  unfold lenD at q
  split at q
  · obtain ⟨v, rfl, h⟩ := hx.one
    obtain ⟨p, ys, rfl, hp, hr⟩ := h.lst hyz
    exact ⟨.ref p, _, rfl, .inl ⟨ys, SqL.of hp, rfl⟩, by rw [hr.length]; exact q _ H (Xt.refl H) (.int _)⟩
  · obtain ⟨v, rfl, h⟩ := hx.one
    obtain ⟨p, ys, rfl, hp, hr⟩ := h.tup hyz
    exact ⟨.ref p, _, rfl, .inr ⟨ys, hp, rfl⟩, by rw [hr.length]; exact q _ H (Xt.refl H) (.int _)⟩
  · split at q
    · rename_i z hl
      obtain ⟨v, rfl, h⟩ := hx.one
      obtain rfl := h.str
      exact ⟨.str z, _, rfl, ⟨sz_of hl, rfl⟩, q _ H (Xt.refl H) (.int _)⟩
    · exact q.elim
  · exact q.elim
def absD : List PD → R PD
  | [.int i] => .ok (.int (if i < 0 then -i else i))
  | _ => .stuck
def rAbs : List V → Hp → VK → Prop := fun xs H Q => ∃ i, xs = [.int i] ∧ Q (.int (if i < 0 then -i else i)) H
theorem n_abs : OpN C rAbs absD := fun Y Z H vs xs Q hyz hz hx q => by
  unfold absD at q
  split at q
  · obtain ⟨v, rfl, h⟩ := hx.one
    obtain rfl := h.int
    exact ⟨_, rfl, q _ H (Xt.refl H) (.int _)⟩
  · exact q.elim
def intD : List PD → R PD
  | [.int i] => .ok (.int i)
  | [.bool b] => .ok (.int (if b then 1 else 0))
  | _ => .stuck
def rInt1 : List V → Hp → VK → Prop := fun xs H Q => (∃ i, xs = [.int i] ∧ Q (.int i) H) ∨ ∃ k, xs = [.bl k] ∧ Q (.int (if k then 1 else 0)) H
theorem n_int : OpN C rInt1 intD := fun Y Z H vs xs Q hyz hz hx q => by
  unfold intD at q
  split at q
  · obtain ⟨v, rfl, h⟩ := hx.one
    obtain rfl := h.int
    exact .inl ⟨_, rfl, q _ H (Xt.refl H) (.int _)⟩
  · obtain ⟨v, rfl, h⟩ := hx.one
    obtain rfl := h.bl
    exact .inr ⟨_, rfl, q _ H (Xt.refl H) (.int _)⟩
  · exact q.elim
def asInts : List PD → Option (List Int)
  | [] => some []
  | .int i :: r => (asInts r).map (i :: ·)
  | _ :: _ => none
def asBools : List PD → Option (List Bool)
  | [] => some []
  | .bool i :: r => (asBools r).map (i :: ·)
  | _ :: _ => none
def asStrs : List PD → Option (List Str)
  | [] => some []
  | .str i :: r => (asStrs r).map (i :: ·)
  | _ :: _ => none
theorem asInts_map (ns : List Int) : asInts (ns.map .int) = some ns := by
  induction ns with
  | nil => rfl
  | cons a r ih => show (asInts (r.map .int)).map _ = _; rw [ih]; rfl
theorem asBools_map (ns : List Bool) : asBools (ns.map .bool) = some ns := by
  induction ns with
  | nil => rfl
  | cons a r ih => show (asBools (r.map .bool)).map _ = _; rw [ih]; rfl
theorem asStrs_map (ns : List Str) : asStrs (ns.map .str) = some ns := by
  induction ns with
  | nil => rfl
  | cons a r ih => show (asStrs (r.map .str)).map _ = _; rw [ih]; rfl
theorem RpA.asInts {K : PySem.W.Frag} {H : Hp} : ∀ {vs : List V} {ds : List PD} {ns : List Int}, RpA K H vs ds → Dn.asInts ds = some ns → vs = ns.map V.int
  | _, _, ns, .nil, e => by cases e; rfl
  | _, _, ns, .cons (d := d) (ds := ds) h r, e => by
    cases d with
    | int i =>
      unfold Dn.asInts at e
      cases q : Dn.asInts ds with
      | none => rw [q] at e; cases e
      | some l =>
        rw [q] at e
        cases e
        rw [h.int', RpA.asInts r q]
        rfl
    | _ => cases e
theorem RpA.asBools {K : PySem.W.Frag} {H : Hp} : ∀ {vs : List V} {ds : List PD} {ns : List Bool}, RpA K H vs ds → Dn.asBools ds = some ns → vs = ns.map V.bl
  | _, _, ns, .nil, e => by cases e; rfl
  | _, _, ns, .cons (d := d) (ds := ds) h r, e => by
    cases d with
    | bool i =>
      unfold Dn.asBools at e
      cases q : Dn.asBools ds with
      | none => rw [q] at e; cases e
      | some l =>
        rw [q] at e
        cases e
        rw [h.bl', RpA.asBools r q]
        rfl
    | _ => cases e
theorem RpA.asStrs {K : PySem.W.Frag} {H : Hp} : ∀ {vs : List V} {ds : List PD} {ns : List Str}, RpA K H vs ds → Dn.asStrs ds = some ns → vs = ns.map V.str
  | _, _, ns, .nil, e => by cases e; rfl
  | _, _, ns, .cons (d := d) (ds := ds) h r, e => by
    cases d with
    | str i =>
      unfold Dn.asStrs at e
      cases q : Dn.asStrs ds with
      | none => rw [q] at e; cases e
      | some l =>
        rw [q] at e
        cases e
        rw [h.str', RpA.asStrs r q]
        rfl
    | _ => cases e
def sumD : List PD → R PD
  | [.list ds] => match asInts ds with
    | some ns => .ok (.int ns.sum)
    | none => .stuck
  | _ => .stuck
theorem n_sum : OpN C (rSum C.K) sumD := fun Y Z H vs xs Q hyz hz hx q => by
  unfold sumD at q
  split at q
  · split at q
    · rename_i ns e
      obtain ⟨v, rfl, h⟩ := hx.one
      obtain ⟨p, ys, rfl, hp, hr⟩ := h.lst hyz
      rw [hr.asInts e] at hp
      exact ⟨p, ns, rfl, SqL.of hp, q _ H (Xt.refl H) (.int _)⟩
    · exact q.elim
  · exact q.elim
def minI : Int → List Int → Int
  | m, [] => m
  | m, x :: r => minI (if x < m then x else m) r
theorem minI_spec : ∀ (r : List Int) (m : Int), (minI m r = m ∨ minI m r ∈ r) ∧ minI m r ≤ m ∧ ∀ y ∈ r, minI m r ≤ y
  | [], m => ⟨.inl rfl, Int.le_refl m, fun _ h => nomatch h⟩
  | x :: r, m => by
    obtain ⟨h1, h2, h3⟩ := minI_spec r (if x < m then x else m)
    refine ⟨?_, ?_, fun y hy => ?_⟩
    · show minI (if x < m then x else m) r = m ∨ minI (if x < m then x else m) r ∈ x :: r
      rcases h1 with h1 | h1
      · rw [h1]
        split
        · exact .inr List.mem_cons_self
        · exact .inl rfl
      · exact .inr (List.mem_cons_of_mem _ h1)
    · show minI (if x < m then x else m) r ≤ m
      split at h2 <;> rename_i h <;> simp only [h, if_true, if_false] <;> omega
    · show minI (if x < m then x else m) r ≤ y
      rcases List.mem_cons.mp hy with rfl | hy
      · split at h2 <;> rename_i h <;> simp only [h, if_true, if_false] <;> omega
      · exact h3 y hy
def minD : List PD → R PD
  | [.list ds] => match asInts ds with
    | some (m :: r) => .ok (.int (minI m r))
    | _ => .stuck
  | [.int i, .int j] => .ok (.int (if j < i then j else i))
  | _ => .stuck
def rMin2 : List V → Hp → VK → Prop := fun xs H Q => ∃ i j, xs = [.int i, .int j] ∧ Q (.int (if j < i then j else i)) H
def rMax2 : List V → Hp → VK → Prop := fun xs H Q => ∃ i j, xs = [.int i, .int j] ∧ Q (.int (if j > i then j else i)) H
def rMinA (K : PySem.W.Frag) := cOr (rMin K) rMin2
theorem c_min {X : Cx} (hc : X.calm = true) : CallR X (.builtin "min") (rMinA X.K) := callOr (cr_min hc) (call_min2 hc)
theorem n_min : OpN C (rMinA C.K) minD := fun Y Z H vs xs Q hyz hz hx q => by
  unfold minD at q
  split at q
  · split at q
    · rename_i m r e
      obtain ⟨v, rfl, h⟩ := hx.one
      obtain ⟨p, ys, rfl, hp, hr⟩ := h.lst hyz
      rw [hr.asInts e] at hp
      refine .inl ⟨p, m :: r, rfl, SqL.of hp, Nat.succ_pos _, fun k hk hle => ?_⟩
      obtain ⟨h1, h2, h3⟩ := minI_spec r m
      have a1 : k ≤ minI m r := hle _ (by
        rcases h1 with h1 | h1
        · rw [h1]; exact List.mem_cons_self
        · exact List.mem_cons_of_mem _ h1)
      have a2 : minI m r ≤ k := by
        rcases List.mem_cons.mp hk with rfl | hk
        · exact h2
        · exact h3 _ hk
      rw [Int.le_antisymm a1 a2]
      exact q _ H (Xt.refl H) (.int _)
    · exact q.elim
  · rename_i i j
    obtain ⟨v, w, rfl, h1, h2⟩ := hx.two
    obtain rfl := h1.int
    obtain rfl := h2.int
    exact .inr ⟨i, j, rfl, q _ H (Xt.refl H) (.int _)⟩
  · exact q.elim
def max2D : List PD → R PD
  | [.int i, .int j] => .ok (.int (if j > i then j else i))
  | _ => .stuck
theorem n_max2 : OpN C rMax2 max2D := fun Y Z H vs xs Q hyz hz hx q => by
  unfold max2D at q
  split at q
  · rename_i i j
    obtain ⟨v, w, rfl, h1, h2⟩ := hx.two
    obtain rfl := h1.int
    obtain rfl := h2.int
    exact ⟨i, j, rfl, q _ H (Xt.refl H) (.int _)⟩
  · exact q.elim
def anyD : List PD → R PD
  | [.list ds] => match asBools ds with
    | some bs => .ok (.bool (bs.any id))
    | none => .stuck
  | _ => .stuck
def allD : List PD → R PD
  | [.list ds] => match asBools ds with
    | some bs => .ok (.bool (bs.all id))
    | none => .stuck
  | _ => .stuck
theorem n_any : OpN C (rAny C.K) anyD := fun Y Z H vs xs Q hyz hz hx q => by
  unfold anyD at q
  split at q
  · split at q
    · rename_i bs e
      obtain ⟨v, rfl, h⟩ := hx.one
      obtain ⟨p, ys, rfl, hp, hr⟩ := h.lst hyz
      rw [hr.asBools e] at hp
      exact ⟨p, bs, rfl, SqL.of hp, q _ H (Xt.refl H) (.bl _)⟩
    · exact q.elim
  · exact q.elim
theorem n_all : OpN C (rAll C.K) allD := fun Y Z H vs xs Q hyz hz hx q => by
  unfold allD at q
  split at q
  · split at q
    · rename_i bs e
      obtain ⟨v, rfl, h⟩ := hx.one
      obtain ⟨p, ys, rfl, hp, hr⟩ := h.lst hyz
      rw [hr.asBools e] at hp
      exact ⟨p, bs, rfl, SqL.of hp, q _ H (Xt.refl H) (.bl _)⟩
    · exact q.elim
  · exact q.elim

/-! ### isinstance -/
def tyN : PD → String
  | .none => "NoneType"
  | .bool _ => "bool"
  | .int _ => "int"
  | .str _ => "str"
  | .list _ => "list"
  | .tuple _ => "tuple"
  | .dict _ => "dict"
theorem RpL.ty {K : PySem.W.Frag} {H : Hp} {Y Z : AS} {v : V} {d : PD} (h : RpL K (hid H Z) (hid H Y) v d) (i : ∀ a, Y a → Z a) : TyX K H v (.type (tyN d)) := by
  cases d with
  | none => rw [h.non]; exact .base .non
  | bool b => rw [h.bl]; exact .base (.bl b)
  | int b => rw [h.int]; exact .base (.int b)
  | str b => rw [h.str]; exact .base (.str b)
  | list ds =>
    obtain ⟨p, xs, rfl, hp, _⟩ := h.lst i
    exact .base (.lst hp)
  | tuple ds =>
    obtain ⟨p, xs, rfl, hp, _⟩ := h.tup i
    rcases hp with (hp | ⟨o, hp⟩) | ⟨o, its, n, h1, h2, _⟩
    · exact .base (.tup hp)
    · exact .fTuple hp
    · exact .kTuple h1 h2
  | dict ds =>
    obtain ⟨p, xs, rfl, hp, _⟩ := h.dct i
    rcases hp with hp | ⟨o, hp⟩
    · exact .base (.dK hp)
    · exact .fDict hp
def isiD (g : PD → Bool) : PD → R PD := fun d => .ok (.bool (g d))
theorem ed_isi {T : String} {g : PD → Bool} (hT : ∀ d, kitB (tyN d) T = some (g d)) (h : EdL C ta fa) : EdS C (tCB (rIsi C.K) (tCons ta (tCons (tC (.ty T)) tNil))) (d1 (isiD g) fa) := fun H0 ext reg en σ H rs Q w =>
  h.seq rs (W := WrS C (own ext reg) H Q) w (fun _ q => q) (fun q => q) fun x v H2 e2 r2 h2 w2 =>
    ⟨v, .ty T, .type (tyN x), .type T, g x, rfl, .ty T, h2.ty fun a z => .inl z, kit_ty (hT x), w2 _ H2 e2 (.bl _)⟩
def isIntD : PD → Bool | .int _ => true | .bool _ => true | _ => false
def isBoolD : PD → Bool | .bool _ => true | _ => false
def isStrD : PD → Bool | .str _ => true | _ => false
def isListD : PD → Bool | .list _ => true | _ => false
def isTupD : PD → Bool | .tuple _ => true | _ => false
def isDictD : PD → Bool | .dict _ => true | _ => false
theorem kit_int (d : PD) : kitB (tyN d) "int" = some (isIntD d) := by cases d <;> simp only [tyN, isIntD] <;> decide +kernel
theorem kit_bool (d : PD) : kitB (tyN d) "bool" = some (isBoolD d) := by cases d <;> simp only [tyN, isBoolD] <;> decide +kernel
theorem kit_str (d : PD) : kitB (tyN d) "str" = some (isStrD d) := by cases d <;> simp only [tyN, isStrD] <;> decide +kernel
theorem kit_list (d : PD) : kitB (tyN d) "list" = some (isListD d) := by cases d <;> simp only [tyN, isListD] <;> decide +kernel
theorem kit_tuple (d : PD) : kitB (tyN d) "tuple" = some (isTupD d) := by cases d <;> simp only [tyN, isTupD] <;> decide +kernel
theorem kit_dict (d : PD) : kitB (tyN d) "dict" = some (isDictD d) := by cases d <;> simp only [tyN, isDictD] <;> decide +kernel

/-! ### calls of defs -/
/-- what a def promises: F of its arguments -/
def spF (C0 : PySem.W.Frag) (cl : Str → Addr) (n : Nat) (F : List PD → R PD) : Sp := fun vs H Q E => ∃ (ext : AS) (ds : List PD), vs.length = n ∧ LamX.Tabs Tabl.T H ∧ (∀ a, ext a → So H a) ∧ RpA C0 (hid H ext) vs ds ∧ WrS ⟨C0, E, cl⟩ ext H Q (F ds)
def dCall (F : List PD → R PD) (fa : En → R (List PD)) : En → R PD := fun en => (fa en).bind F
theorem WrA.len {Z : AS} {H : Hp} {vs : List V} {ds : List PD} {K : PySem.W.Frag} (h : RpA K (hid H Z) vs ds) : vs.length = ds.length := h.length
theorem ed_call {n : Nat} {F : List PD → R PD} {ta : TA} {fa : En → R (List PD)} (hn : ∀ en ds, fa en = .ok ds → ds.length = n) (h : EdA C ta fa) : EdS C (tCall (spF C.K C.cl n F) [] C.E ta) (dCall F fa) := fun H0 ext reg en σ H rs Q w => by
  refine h H0 ext reg en σ H rs _ ?_
  unfold dCall at w
  cases e : fa en with
  | ok ds =>
    rw [e] at w
    exact fun vs H2 e2 h2 => ⟨own ext reg, ds, by rw [List.append_nil, h2.length, hn en ds e], (rs.ex e2).tb, fun a z => (rs.ex e2).so z, by rw [List.append_nil]; exact h2, WrS.ex w e2⟩
  | exc c => rw [e] at w; exact w
  | stuck => rw [e] at w; exact w.elim
end
end Dn

namespace Dn
open PySem L2
variable [Tabl]

/-! ### slots set -/
def drp (reg : Nat → AS) (i : Nat) : Nat → AS := fun j a => j ≠ i ∧ reg j a
def put (reg : Nat → AS) (i : Nat) (p : Addr) : Nat → AS := fun j a => (j ≠ i ∧ reg j a) ∨ (j = i ∧ a = p)
section
variable {K : PySem.W.Frag} {H0 H : Hp} {ext : AS} {reg : Nat → AS} {en : En} {σ : L2.St}
theorem own_drp {i : Nat} {a : Addr} (h : own ext (drp reg i) a) : own ext reg a := by
  rcases h with h | ⟨j, _, h⟩
  · exact .inl h
  · exact .inr ⟨j, h⟩
theorem RS.set (r : RS K H0 ext reg en σ H) {i : Nat} {v : V} {d : PD} (h : Rp K (hid H (own ext reg)) v d) : RS K H0 ext (drp reg i) (en.set i (.sh d)) (σ.set i (some v)) H :=
  ⟨r.le, r.tb, r.exd, fun j a ⟨_, q⟩ => r.rg j a q, fun j k a ⟨_, q⟩ ⟨_, q'⟩ => r.dj j k a q q', fun j a ⟨hj, q⟩ => let ⟨sv, h1, h2⟩ := r.ro j a q; ⟨sv, by rw [List.getElem?_set_ne (Ne.symm hj)]; exact h1, h2⟩, by simp [r.len], fun j sv e => by
    have up : Ex (hid H (own ext reg)) (hid H (own ext (drp reg i))) := (Ex.refl H).hidLess fun a z => own_drp z
    by_cases hj : i = j
    · subst hj
      by_cases hi : i < en.length
      · rw [List.getElem?_set_self hi] at e
        cases e
        exact ⟨some v, by rw [List.getElem?_set_self (by rw [r.len]; exact hi)], v, rfl, h.mono up.le⟩
      · rw [List.getElem?_eq_none (by simpa using hi)] at e
        cases e
    · rw [List.getElem?_set_ne hj] at e
      obtain ⟨u, h1, h2⟩ := r.sl j sv e
      refine ⟨u, by rw [List.getElem?_set_ne hj]; exact h1, ?_⟩
      exact (h2.mono (H' := H) up fun _ _ _ q _ => q).rg fun a q => ⟨fun z => hj z.symm, q⟩⟩
/-- a slot that takes a new thing for its own -/
theorem RS.new (r : RS K H0 ext reg en σ H) {i : Nat} {p : Addr} {o : HO} {sv : SV} (hil : i < en.length) (ho : isOwn sv = true) (hp : H p = none) (h : SlotOk K (hid H (own ext reg)) (upd H p o) (some (.ref p)) (fun a => a = p) sv) (ht : isTb o = false := by rfl) :
    RS K H0 ext (put reg i p) (en.set i sv) (σ.set i (some (.ref p))) (upd H p o) := by
  have h0 : Nn H0 p := r.le.nn (.of hp)
  have sub : ∀ a, own ext (put reg i p) a → own ext reg a ∨ a = p := fun a z => by
    rcases z with z | ⟨j, ⟨_, z⟩ | ⟨_, z⟩⟩
    · exact .inl (.inl z)
    · exact .inl (.inr ⟨j, z⟩)
    · exact .inr z
  have up : Ex (hid H (own ext reg)) (hid (upd H p o) (own ext (put reg i p))) := Ex.of fun a u q => by
    obtain ⟨z, q⟩ := hid_some q
    have ne : a ≠ p := fun e => by
      rw [e, hp] at q
      cases q
    rw [hid_at fun t => (sub a t).elim z ne, upd_ne ne]
    exact q
  refine ⟨r.le.mut h0, (Xt.new hp).t r.tb, r.exd, ?_, ?_, ?_, by simp [r.len], fun j sv' e => ?_⟩
  · rintro j a (⟨hj, q⟩ | ⟨_, rfl⟩)
    · obtain ⟨q1, q2⟩ := r.rg j a q
      exact ⟨q1, (Ex.new hp).so q2⟩
    · exact ⟨h0, o, upd_same, ht⟩
  · rintro j k a (⟨_, q⟩ | ⟨rfl, rfl⟩) (⟨_, q'⟩ | ⟨rfl, e⟩)
    · exact r.dj j k a q q'
    · subst e
      obtain ⟨_, u, q2, _⟩ := r.rg _ _ q
      rw [hp] at q2
      cases q2
    · obtain ⟨_, u, q2, _⟩ := r.rg _ _ q'
      rw [hp] at q2
      cases q2
    · rfl
  · rintro j a (⟨hj, q⟩ | ⟨rfl, _⟩)
    · obtain ⟨sv', h1, h2⟩ := r.ro j a q
      exact ⟨sv', by rw [List.getElem?_set_ne (Ne.symm hj)]; exact h1, h2⟩
    · exact ⟨sv, by rw [List.getElem?_set_self hil], ho⟩
  · by_cases hj : i = j
    · subst hj
      by_cases hi : i < en.length
      · rw [List.getElem?_set_self hi] at e
        cases e
        refine ⟨some (.ref p), by rw [List.getElem?_set_self (by rw [r.len]; exact hi)], ?_⟩
        exact (h.mono (H' := upd H p o) up fun _ _ _ q _ => q).rg fun a q => .inr ⟨rfl, q⟩
      · rw [List.getElem?_eq_none (by simpa using hi)] at e
        cases e
    · rw [List.getElem?_set_ne hj] at e
      obtain ⟨u, h1, h2⟩ := r.sl j sv' e
      refine ⟨u, by rw [List.getElem?_set_ne hj]; exact h1, ?_⟩
      exact (h2.mono (H' := upd H p o) up fun a u' z q n => (Ex.new hp).k a u' q n).rg fun a q => .inl ⟨fun z => hj z.symm, q⟩
/-- what a slot owns is written -/
theorem RS.wr (r : RS K H0 ext reg en σ H) {i : Nat} {p : Addr} {o : HO} {sv : SV} (ho : isOwn sv = true) (hld : ∃ o0, H p = some o0 ∧ isLD o0 = true) (hi : reg i p) (hv : σ[i]? = some (some (.ref p)))
    (h : SlotOk K (hid H (own ext reg)) (upd H p o) (some (.ref p)) (reg i) sv) (ht : isTb o = false := by rfl) : RS K H0 ext reg (en.set i sv) σ (upd H p o) := by
  have same : hid (upd H p o) (own ext reg) = hid H (own ext reg) := hid_upd (.inr ⟨i, hi⟩)
  refine ⟨r.le.mut (r.rg i p hi).1, (let ⟨o0, q1, q2⟩ := hld; tabs_wr r.tb q1 q2 fun a ha => upd_ne ha), r.exd, fun j a q => ⟨(r.rg j a q).1, ?_⟩, r.dj, fun j a q => ?_, by simp [r.len], fun j sv' e => ?_⟩
  · by_cases ha : a = p
    · rw [ha]; exact ⟨o, upd_same, ht⟩
    · obtain ⟨u, q2, q3⟩ := (r.rg j a q).2
      exact ⟨u, by rw [upd_ne ha]; exact q2, q3⟩
  · obtain ⟨sv', h1, h2⟩ := r.ro j a q
    by_cases hj : i = j
    · subst hj
      exact ⟨sv, by rw [List.getElem?_set_self (List.getElem?_eq_some_iff.mp h1).1], ho⟩
    · exact ⟨sv', by rw [List.getElem?_set_ne hj]; exact h1, h2⟩
  · rw [same]
    by_cases hj : i = j
    · subst hj
      by_cases hl : i < en.length
      · rw [List.getElem?_set_self hl] at e
        cases e
        exact ⟨some (.ref p), hv, h⟩
      · rw [List.getElem?_eq_none (by simpa using hl)] at e
        cases e
    · rw [List.getElem?_set_ne hj] at e
      obtain ⟨u, h1, h2⟩ := r.sl j sv' e
      exact ⟨u, h1, h2.mono (Ex.refl _) fun a u' z q _ => by
        rw [upd_ne fun e => by
          rw [e] at z
          exact hj (r.dj i j p hi z)]
        exact q⟩
/-- what a slot owned is shared from now on -/
theorem RS.share (r : RS K H0 ext reg en σ H) {i : Nat} {ds : List PD} (h : en[i]? = some (.ol ds)) : RS K H0 ext (drp reg i) (en.set i (.sh (.list ds))) σ H := by
  obtain ⟨v, h1, p, xs, rfl, hp, hH, hr⟩ := r.sl i _ h
  have up : Ex (hid H (own ext reg)) (hid H (own ext (drp reg i))) := (Ex.refl H).hidLess fun a z => own_drp z
  have np : ¬ own ext (drp reg i) p := fun z => by
    rcases z with z | ⟨j, hj, z⟩
    · exact r.noext hp z
    · exact hj (r.dj j i p z hp)
  have hs : Rp K (hid H (own ext (drp reg i))) (.ref p) (.list ds) := .lst (by rw [hid_at np]; exact hH) (hr.mono up.le)
  refine ⟨r.le, r.tb, r.exd, fun j a ⟨_, q⟩ => r.rg j a q, fun j k a ⟨_, q⟩ ⟨_, q'⟩ => r.dj j k a q q', fun j a ⟨hj, q⟩ => let ⟨sv, h1, h2⟩ := r.ro j a q; ⟨sv, by rw [List.getElem?_set_ne (Ne.symm hj)]; exact h1, h2⟩, by simp [r.len], fun j sv e => ?_⟩
  by_cases hj : i = j
  · subst hj
    rw [List.getElem?_set_self (List.getElem?_eq_some_iff.mp h).1] at e
    cases e
    exact ⟨_, h1, _, rfl, hs⟩
  · rw [List.getElem?_set_ne hj] at e
    obtain ⟨u, h1, h2⟩ := r.sl j sv e
    refine ⟨u, h1, ?_⟩
    exact (h2.mono (H' := H) up fun _ _ _ q _ => q).rg fun a q => ⟨fun z => hj z.symm, q⟩
theorem RS.shareD (r : RS K H0 ext reg en σ H) {i : Nat} {ds : List (PD × PD)} (h : en[i]? = some (.od ds)) : RS K H0 ext (drp reg i) (en.set i (.sh (.dict ds))) σ H := by
  obtain ⟨v, h1, p, xs, rfl, hp, hH, hr⟩ := r.sl i _ h
  have up : Ex (hid H (own ext reg)) (hid H (own ext (drp reg i))) := (Ex.refl H).hidLess fun a z => own_drp z
  have np : ¬ own ext (drp reg i) p := fun z => by
    rcases z with z | ⟨j, hj, z⟩
    · exact r.noext hp z
    · exact hj (r.dj j i p z hp)
  have hs : Rp K (hid H (own ext (drp reg i))) (.ref p) (.dict ds) := .dct (.inl (by rw [hid_at np]; exact hH)) (hr.mono up.le)
  refine ⟨r.le, r.tb, r.exd, fun j a ⟨_, q⟩ => r.rg j a q, fun j k a ⟨_, q⟩ ⟨_, q'⟩ => r.dj j k a q q', fun j a ⟨hj, q⟩ => let ⟨sv, h1, h2⟩ := r.ro j a q; ⟨sv, by rw [List.getElem?_set_ne (Ne.symm hj)]; exact h1, h2⟩, by simp [r.len], fun j sv e => ?_⟩
  by_cases hj : i = j
  · subst hj
    rw [List.getElem?_set_self (List.getElem?_eq_some_iff.mp h).1] at e
    cases e
    exact ⟨_, h1, _, rfl, hs⟩
  · rw [List.getElem?_set_ne hj] at e
    obtain ⟨u, h1, h2⟩ := r.sl j sv e
    refine ⟨u, h1, ?_⟩
    exact (h2.mono (H' := H) up fun _ _ _ q _ => q).rg fun a q => ⟨fun z => hj z.symm, q⟩
/-- a slot forgotten that owns nothing -/
theorem RS.wipeK (r : RS K H0 ext reg en σ H) (i : Nat) (h : ∀ sv, en[i]? = some sv → isOwn sv = false) : RS K H0 ext reg (en.set i .no) (σ.set i none) H :=
  ⟨r.le, r.tb, r.exd, r.rg, r.dj, fun j a q => by
    obtain ⟨sv, h1, h2⟩ := r.ro j a q
    have hj : i ≠ j := fun e => by
      subst e
      rw [h sv h1] at h2
      cases h2
    exact ⟨sv, by rw [List.getElem?_set_ne hj]; exact h1, h2⟩, by simp [r.len], fun j sv e => by
    by_cases hj : i = j
    · subst hj
      by_cases hi : i < en.length
      · rw [List.getElem?_set_self hi] at e
        cases e
        exact ⟨none, by rw [List.getElem?_set_self (by rw [r.len]; exact hi)], trivial⟩
      · rw [List.getElem?_eq_none (by simpa using hi)] at e
        cases e
    · rw [List.getElem?_set_ne hj] at e
      obtain ⟨u, h1, h2⟩ := r.sl j sv e
      exact ⟨u, by rw [List.getElem?_set_ne hj]; exact h1, h2⟩⟩
end

/-! ### targets -/
def gN (i : Nat) : PD → En → R En := fun d en => .ok (en.set i (.sh d))
def gT (n : Nat) (f : List PD → En → R En) : PD → En → R En := fun d en => match d with
  | .tuple ds => if ds.length = n then f ds en else .stuck
  | _ => .stuck
def gNl : List PD → En → R En := fun ds en => match ds with
  | [] => .ok en
  | _ => .stuck
def gCn (f : PD → En → R En) (g : List PD → En → R En) : List PD → En → R En := fun ds en => match ds with
  | d :: r => (f d en).bind fun e => g r e
  | [] => .stuck
/-- what targets at the places ts leave as it was -/
structure Kp (ts : List Nat) (reg reg' : Nat → AS) (σ σ' : L2.St) : Prop where
  r1 : ∀ j a, reg' j a → reg j a
  r2 : ∀ j a, reg j a → j ∉ ts → reg' j a
  s1 : σ'.length = σ.length
  s2 : ∀ j, j ∉ ts → σ'[j]? = σ[j]?
theorem Kp.own {ts : List Nat} {reg reg' : Nat → AS} {σ σ' : L2.St} (k : Kp ts reg reg' σ σ') (ext : AS) : ∀ a, Dn.own ext reg' a → Dn.own ext reg a := fun a z => by
  rcases z with z | ⟨j, z⟩
  · exact .inl z
  · exact .inr ⟨j, k.r1 j a z⟩
def WrG (C : Cn) (ts : List Nat) (H0 : Hp) (ext : AS) (reg : Nat → AS) (σ : L2.St) (H : Hp) (Q : L2.St → Hp → Prop) : R En → Prop
  | .ok en => ∀ reg' σ', Kp ts reg reg' σ σ' → RS C.K H0 ext reg' en σ' H → Q σ' H
  | .exc _ => False
  | .stuck => False
def EdK (C : Cn) (ts : List Nat) (g : TG) (f : PD → En → R En) : Prop := ∀ (H0 : Hp) (ext : AS) (reg : Nat → AS) (en : En) (σ : L2.St) (H : Hp), RS C.K H0 ext reg en σ H → ∀ (v : V) (d : PD), Rp C.K (hid H (own ext reg)) v d → ∀ Q, WrG C ts H0 ext reg σ H Q (f d en) → g v σ H Q
def EdKs (C : Cn) (ts : List Nat) (g : TGs) (f : List PD → En → R En) : Prop := ∀ (H0 : Hp) (ext : AS) (reg : Nat → AS) (en : En) (σ : L2.St) (H : Hp), RS C.K H0 ext reg en σ H → ∀ (v : List V) (d : List PD), RpA C.K (hid H (own ext reg)) v d → ∀ Q, WrG C ts H0 ext reg σ H Q (f d en) → g v σ H Q
section
variable {C : Cn}
theorem ek_name (i : Nat) : EdK C [i] (gName i) (gN i) := fun H0 ext reg en σ H r v d h Q w => w _ _ ⟨fun j a q => q.2, fun j a q hj => ⟨by simpa using hj, q⟩, by simp, fun j hj => by rw [List.getElem?_set_ne fun e => hj (by simp [e])]⟩ (r.set h)
theorem ek_nil : EdKs C [] gNil gNl := fun H0 ext reg en σ H r v d h Q w => by
  cases d with
  | nil => cases h; exact ⟨rfl, w reg σ ⟨fun _ _ q => q, fun _ _ q _ => q, rfl, fun _ _ => rfl⟩ r⟩
  | cons a b => exact w.elim
theorem ek_cons {ts us : List Nat} {g : TG} {gs : TGs} {f : PD → En → R En} {fs : List PD → En → R En} (hg : EdK C ts g f) (hs : EdKs C us gs fs) : EdKs C (ts ++ us) (gCons g gs) (gCn f fs) := fun H0 ext reg en σ H r v d h Q w => by
  cases h with
  | nil => exact w.elim
  | cons h1 h2 =>
    rename_i v vs d ds
    refine ⟨v, vs, rfl, hg H0 ext reg en σ H r v d h1 _ ?_⟩
    unfold gCn at w
    dsimp only at w
    cases e : f d en with
    | ok en' =>
      rw [e] at w
      intro reg' σ' k r'
      refine hs H0 ext reg' en' σ' H r' vs ds (h2.mono ((Ex.refl H).hidLess (k.own ext)).le) Q ?_
      simp only [R.bind_ok] at w
      generalize fs ds en' = x at w ⊢
      cases x with
      | ok e => exact fun reg2 σ2 k2 r2 => w reg2 σ2 ⟨fun j a q => k.r1 j a (k2.r1 j a q), fun j a q hj => k2.r2 j a (k.r2 j a q fun z => hj (List.mem_append_left _ z)) fun z => hj (List.mem_append_right _ z), k2.s1.trans k.s1, fun j hj => (k2.s2 j fun z => hj (List.mem_append_right _ z)).trans (k.s2 j fun z => hj (List.mem_append_left _ z))⟩ r2
      | exc c => exact w
      | stuck => exact w
    | exc c => rw [e] at w; exact w.elim
    | stuck => rw [e] at w; exact w.elim
theorem ek_tup {ts : List Nat} {gs : TGs} {fs : List PD → En → R En} {n : Nat} (hs : EdKs C ts gs fs) : EdK C ts (gTup C.K n gs) (gT n fs) := fun H0 ext reg en σ H r v d h Q w => by
  cases d with
  | tuple ds =>
    unfold gT at w
    dsimp only at w
    cases h with
    | tup h1 h2 =>
      split at w
      · rename_i hl
        exact ⟨_, _, rfl, hid_ex.sqt h1, by rw [h2.length]; exact hl, hs H0 ext reg en σ H r _ ds h2 Q w⟩
      · exact w.elim
  | _ => exact w.elim

/-! ### what is walked -/
def Wk (K : PySem.W.Frag) (J : It) (ds : List PD) (Hs : Hp) : Prop := ∀ (Z : AS) (H : Hp), Ex Hs (hid H Z) → (∀ a, Z a → ∃ o, H a = some o) → ∀ i : Nat,
  (∀ d, ds[i]? = some d → J.go i H ∧ ∀ x H', J.yld i H x H' → Xt H H' ∧ Rp K (hid H' Z) x d) ∧ (ds.length = i → J.stop i H)
def WrI (C : Cn) (Z : AS) (H : Hp) (Rr : It → Hp → Prop) : R (List PD) → Prop
  | .ok ds => ∀ J H2, Xt H H2 → Wk C.K J ds (hid H2 Z) → Rr J H2
  | .exc c => ∀ H2, Xt H H2 → C.E (.ref (C.cl c)) none H2
  | .stuck => False
def EdI (C : Cn) (wi : TI) (f : En → R (List PD)) : Prop := ∀ (H0 : Hp) (ext : AS) (reg : Nat → AS) (en : En) (σ : L2.St) (H : Hp), RS C.K H0 ext reg en σ H → ∀ Rr, WrI C (own ext reg) H Rr (f en) → wi σ H Rr
def asL : PD → R (List PD)
  | .list ds => .ok ds
  | _ => .stuck
def asT : PD → R (List PD)
  | .tuple ds => .ok ds
  | _ => .stuck
def dIt (g : PD → R (List PD)) (fa : En → R PD) : En → R (List PD) := fun en => (fa en).bind g
theorem ei_list {tl : TE} {fa : En → R PD} (h : EdS C tl fa) : EdI C (iList C.K tl) (dIt asL fa) := fun H0 ext reg en σ H rs Q w =>
  h.seq rs (W := WrI C (own ext reg) H Q) w (fun _ q => q) (fun q => q) fun x v H2 e2 r2 h2 w2 => by
    cases x with
    | list ds =>
      cases h2 with
      | lst hp hr =>
        rename_i a xs
        refine ⟨a, rfl, ⟨xs, hid_ex.sql (SqL.of hp)⟩, w2 _ H2 e2 fun Z H' e' hz i => ⟨fun d hd => ?_, fun hl => ⟨xs, SqL.of (hid_ex.l (e'.l hp)), by rw [hr.length]; exact Nat.le_of_eq hl⟩⟩⟩
        obtain ⟨v, hv, hr2⟩ := hr.get hd
        refine ⟨⟨xs, v, SqL.of (hid_ex.l (e'.l hp)), hv⟩, fun x H'' hy => ?_⟩
        obtain ⟨rfl, hy⟩ := hy
        have e : x = v := Option.some.inj ((hy xs (SqL.of (hid_ex.l (e'.l hp)))).symm.trans hv)
        rw [e]
        exact ⟨Xt.refl _, hr2.mono e'.le⟩
    | _ => exact w2.elim
theorem ei_tup {tl : TE} {fa : En → R PD} (h : EdS C tl fa) : EdI C (iTup C.K tl) (dIt asT fa) := fun H0 ext reg en σ H rs Q w =>
  h.seq rs (W := WrI C (own ext reg) H Q) w (fun _ q => q) (fun q => q) fun x v H2 e2 r2 h2 w2 => by
    cases x with
    | tuple ds =>
      cases h2 with
      | tup hp hr =>
        rename_i a xs
        refine ⟨a, rfl, ⟨xs, hid_ex.sqt hp⟩, w2 _ H2 e2 fun Z H' e' hz i => ⟨fun d hd => ?_, fun hl => ⟨xs, hid_ex.sqt (e'.sqt hp), by rw [hr.length]; exact Nat.le_of_eq hl⟩⟩⟩
        obtain ⟨v, hv, hr2⟩ := hr.get hd
        refine ⟨⟨xs, v, hid_ex.sqt (e'.sqt hp), hv⟩, fun x H'' hy => ?_⟩
        obtain ⟨rfl, hy⟩ := hy
        have e : x = v := Option.some.inj ((hy xs (hid_ex.sqt (e'.sqt hp))).symm.trans hv)
        rw [e]
        exact ⟨Xt.refl _, hr2.mono e'.le⟩
    | _ => exact w2.elim
/-- lo, lo + 1, .. below hi -/
def rngL (lo : Int) (n : Nat) : List PD := (List.range n).map fun (i : Nat) => .int (lo + (i : Int))
theorem rngL_get {lo : Int} {n i : Nat} {d : PD} (h : (rngL lo n)[i]? = some d) : i < n ∧ d = .int (lo + (i : Int)) := by
  unfold rngL at h
  rw [List.getElem?_map] at h
  by_cases hi : i < n
  · rw [List.getElem?_range hi] at h
    exact ⟨hi, (Option.some.inj h).symm⟩
  · rw [List.getElem?_eq_none (by simpa using hi)] at h
    cases h
def rng1 : List PD → R (List PD)
  | [.int j] => if -(2 ^ 62) ≤ j ∧ j < 2 ^ 62 then .ok (rngL 0 j.toNat) else .stuck
  | _ => .stuck
def rng2 : List PD → R (List PD)
  | [.int i, .int j] => if (-(2 ^ 62) ≤ i ∧ i < 2 ^ 62) ∧ -(2 ^ 62) ≤ j ∧ j < 2 ^ 62 then .ok (rngL i (j - i).toNat) else .stuck
  | _ => .stuck
def dItA (g : List PD → R (List PD)) (fa : En → R (List PD)) : En → R (List PD) := fun en => (fa en).bind g
theorem wk_rng {K : PySem.W.Frag} {lo : Int} {n : Nat} {Hs : Hp} : Wk K (Itr lo n) (rngL lo n) Hs := fun Z H e hz i => ⟨fun d hd => by
  obtain ⟨h1, rfl⟩ := rngL_get hd
  exact ⟨h1, fun x H' hy => by
    obtain ⟨rfl, rfl⟩ := hy
    exact ⟨Xt.refl _, .int _⟩⟩, fun hl => by
  unfold rngL at hl
  rw [List.length_map, List.length_range] at hl
  exact Nat.le_of_eq hl⟩
theorem ei_rng1 {ta : TA} {fa : En → R (List PD)} (h : EdB C ta fa) : EdI C (iRng1 ta) (dItA rng1 fa) := fun H0 ext reg en σ H rs Q w =>
  h.seq rs (W := WrI C (own ext reg) H Q) w (fun _ q => q) (fun q => q) fun x v H2 e2 r2 h2 w2 => by
    unfold rng1 at w2
    split at w2
    · rename_i j
      split at w2
      · rename_i hl
        obtain ⟨v, rfl, h⟩ := h2.one
        obtain rfl := h.int
        exact ⟨j, rfl, hl.1, hl.2, w2 _ H2 e2 wk_rng⟩
      · exact w2.elim
    · exact w2.elim
theorem ei_rng2 {ta : TA} {fa : En → R (List PD)} (h : EdB C ta fa) : EdI C (iRng2 ta) (dItA rng2 fa) := fun H0 ext reg en σ H rs Q w =>
  h.seq rs (W := WrI C (own ext reg) H Q) w (fun _ q => q) (fun q => q) fun x v H2 e2 r2 h2 w2 => by
    unfold rng2 at w2
    split at w2
    · rename_i i j
      split at w2
      · rename_i hl
        obtain ⟨v, w, rfl, h, h'⟩ := h2.two
        obtain rfl := h.int
        obtain rfl := h'.int
        exact ⟨i, j, rfl, ⟨hl.1.1, hl.1.2, hl.2.1, hl.2.2⟩, w2 _ H2 e2 wk_rng⟩
      · exact w2.elim
    · exact w2.elim
/-- pairs of two lists -/
def zipD (xs ys : List PD) : List PD := (xs.zip ys).map fun p => .tuple [p.1, p.2]
def zip2 : List PD → R (List PD)
  | [.list xs, .list ys] => .ok (zipD xs ys)
  | _ => .stuck
theorem zipD_get {xs ys : List PD} {i : Nat} {d : PD} (h : (zipD xs ys)[i]? = some d) : ∃ x y, xs[i]? = some x ∧ ys[i]? = some y ∧ d = .tuple [x, y] := by
  unfold zipD at h
  rw [List.getElem?_map] at h
  cases e : (xs.zip ys)[i]? with
  | none => rw [e] at h; cases h
  | some p =>
    rw [e] at h
    obtain ⟨h1, h2⟩ := List.getElem?_zip_eq_some.mp e
    exact ⟨_, _, h1, h2, (Option.some.inj h).symm⟩
theorem RpLA.safe2 {K : PySem.W.Frag} {Hs H : Hp} {vs : List V} {ds : List PD} : True := trivial
theorem RpA.two {K : PySem.W.Frag} {H : Hp} {vs : List V} {x y : PD} (h : RpA K H vs [x, y]) : ∃ v w, vs = [v, w] ∧ Rp K H v x ∧ Rp K H w y := by
  cases h with
  | cons a r =>
    cases r with
    | cons b r => cases r; exact ⟨_, _, rfl, a, b⟩
theorem RpA.one {K : PySem.W.Frag} {H : Hp} {vs : List V} {x : PD} (h : RpA K H vs [x]) : ∃ v, vs = [v] ∧ Rp K H v x := by
  cases h with
  | cons a r => cases r; exact ⟨_, rfl, a⟩
theorem ei_zip {ta : TA} {fa : En → R (List PD)} (h : EdA C ta fa) : EdI C (iZip C.K ta) (dItA zip2 fa) := fun H0 ext reg en σ H rs Q w =>
  h.seq rs (W := WrI C (own ext reg) H Q) w (fun _ q => q) (fun q => q) fun x v H2 e2 r2 h2 w2 => by
    unfold zip2 at w2
    split at w2
    · rename_i xs ys
      obtain ⟨v, u, rfl, hv, hu⟩ := h2.two
      cases hv with
      | lst hp hr =>
        cases hu with
        | lst hp' hr' =>
          rename_i a vs b us
          refine ⟨a, b, vs, us, rfl, SqL.of (hid_ex.l hp), SqL.of (hid_ex.l hp'), w2 _ H2 e2 fun Z H' e' hz i => ⟨fun d hd => ?_, fun hl => ?_⟩⟩
          · obtain ⟨x, y, hx, hy, rfl⟩ := zipD_get hd
            obtain ⟨v, hv, rv⟩ := hr.get hx
            obtain ⟨u, hu, ru⟩ := hr'.get hy
            have q1 : SqL C.K H' a vs := SqL.of (hid_ex.l (e'.l hp))
            have q2 : SqL C.K H' b us := SqL.of (hid_ex.l (e'.l hp'))
            refine ⟨⟨vs, us, v, u, q1, q2, hv, hu⟩, ?_⟩
            rintro z H'' ⟨T, x1, y1, rfl, nT, rfl, f1, f2⟩
            have ex : x1 = v := Option.some.inj ((f1 _ q1).symm.trans hv)
            have ey : y1 = u := Option.some.inj ((f2 _ q2).symm.trans hu)
            rw [ex, ey]
            exact ⟨Xt.new nT, Rp.newT hz nT (.cons (rv.mono e'.le) (.cons (ru.mono e'.le) .nil))⟩
          · refine ⟨vs, us, SqL.of (hid_ex.l (e'.l hp)), SqL.of (hid_ex.l (e'.l hp')), ?_⟩
            unfold zipD at hl
            rw [List.length_map, List.length_zip] at hl
            rw [hr.length, hr'.length]
            omega
    · exact w2.elim
/-- enumerate of a list -/
def enumFrom : Nat → List PD → List PD
  | _, [] => []
  | n, x :: r => .tuple [.int (n : Int), x] :: enumFrom (n + 1) r
theorem enumFrom_get : ∀ {xs : List PD} {n i : Nat} {d : PD}, (enumFrom n xs)[i]? = some d → ∃ x, xs[i]? = some x ∧ d = .tuple [.int ((n + i : Nat) : Int), x]
  | [], _, _, _, h => by simp [enumFrom] at h
  | x :: r, n, 0, d, h => ⟨x, rfl, (Option.some.inj h).symm⟩
  | x :: r, n, i + 1, d, h => by
    obtain ⟨y, h1, h2⟩ := enumFrom_get (xs := r) (n := n + 1) (i := i) h
    exact ⟨y, h1, by rw [h2, Nat.add_assoc, Nat.add_comm 1 i]⟩
theorem enumFrom_len : ∀ (xs : List PD) (n : Nat), (enumFrom n xs).length = xs.length
  | [], _ => rfl
  | x :: r, n => by simp [enumFrom, enumFrom_len r]
def enumD : List PD → R (List PD)
  | [.list xs] => .ok (enumFrom 0 xs)
  | _ => .stuck
theorem ei_enum {ta : TA} {fa : En → R (List PD)} (h : EdA C ta fa) : EdI C (iEnum C.K ta) (dItA enumD fa) := fun H0 ext reg en σ H rs Q w =>
  h.seq rs (W := WrI C (own ext reg) H Q) w (fun _ q => q) (fun q => q) fun x v H2 e2 r2 h2 w2 => by
    unfold enumD at w2
    split at w2
    · rename_i xs
      obtain ⟨v, rfl, hv⟩ := h2.one
      cases hv with
      | lst hp hr =>
        rename_i a vs
        refine ⟨a, vs, rfl, SqL.of (hid_ex.l hp), w2 _ H2 e2 fun Z H' e' hz i => ⟨fun d hd => ?_, fun hl => ?_⟩⟩
        · obtain ⟨x, hx, rfl⟩ := enumFrom_get hd
          obtain ⟨v, hv, rv⟩ := hr.get hx
          have q1 : SqL C.K H' a vs := SqL.of (hid_ex.l (e'.l hp))
          refine ⟨⟨vs, v, q1, hv⟩, ?_⟩
          rintro z H'' ⟨T, x1, rfl, nT, rfl, f1⟩
          have ex : x1 = v := Option.some.inj ((f1 _ q1).symm.trans hv)
          rw [ex, Nat.zero_add]
          exact ⟨Xt.new nT, Rp.newT hz nT (.cons (.int _) (.cons (rv.mono e'.le) .nil))⟩
        · refine ⟨vs, SqL.of (hid_ex.l (e'.l hp)), ?_⟩
          rw [enumFrom_len] at hl
          rw [hr.length]
          exact Nat.le_of_eq hl
    · exact w2.elim
/-- the signs of a text -/
def signs : PD → R (List PD)
  | .str z => .ok (z.cps.toList.map fun c => .str ⟨#[c]⟩)
  | _ => .stuck
theorem ei_str {tl : TE} {fa : En → R PD} (h : EdL C tl fa) : EdI C (iStr tl) (dIt signs fa) := fun H0 ext reg en σ H rs Q w =>
  h.seq rs (W := WrI C (own ext reg) H Q) w (fun _ q => q) (fun q => q) fun x v H2 e2 r2 h2 w2 => by
    cases x with
    | str z =>
      refine ⟨z, h2.str, w2 _ H2 e2 fun Z H' e' hz i => ⟨fun d hd => ?_, fun hl => show z.cps.size ≤ i from Nat.le_of_eq (by simpa using hl)⟩⟩
      rw [List.getElem?_map] at hd
      cases e : z.cps.toList[i]? with
      | none => rw [e] at hd; cases hd
      | some c =>
        rw [e] at hd
        have hd := (Option.some.inj hd).symm
        subst hd
        rw [Array.getElem?_toList] at e
        have hi : i < z.cps.size := by
          by_cases hi : i < z.cps.size
          · exact hi
          · rw [Array.getElem?_eq_none (by omega)] at e
            cases e
        refine ⟨hi, ?_⟩
        rintro x H'' ⟨rfl, c', hc, rfl⟩
        rw [e] at hc
        cases hc
        exact ⟨Xt.refl _, .str _⟩
    | _ => exact w2.elim
end
end Dn

namespace Dn
open PySem L2
variable [Tabl]

/-! ### new lists -/
def WrF (C : Cn) (Z : AS) (H : Hp) (Q : VK) : R (List PD) → Prop
  | .ok ds => ∀ p xs H2, Xt H H2 → H2 p = none → RpA C.K (hid H2 Z) xs ds → Q (.ref p) (upd H2 p (.lst xs))
  | .exc c => ∀ H2, Xt H H2 → C.E (.ref (C.cl c)) none H2
  | .stuck => False
def EdF (C : Cn) (te : TE) (f : En → R (List PD)) : Prop := ∀ (H0 : Hp) (ext : AS) (reg : Nat → AS) (en : En) (σ : L2.St) (H : Hp), RS C.K H0 ext reg en σ H → ∀ Q : VK, WrF C (own ext reg) H Q (f en) → te σ H Q
def dF (f : En → R (List PD)) : En → R PD := fun en => (f en).bind fun ds => .ok (.list ds)
section
variable {C : Cn} {ta tb te : TE} {fa fb : En → R PD}
theorem EdF.s {f : En → R (List PD)} (h : EdF C te f) : EdS C te (dF f) := fun H0 ext reg en σ H rs Q w => h H0 ext reg en σ H rs Q (by
  unfold dF at w
  generalize f en = x at w ⊢
  cases x with
  | ok ds => exact fun p xs H2 e2 hp hr => w _ _ (e2.trans (Xt.new hp)) (Rp.newL (fun a z => (rs.ex e2).there z) hp hr)
  | exc c => exact w
  | stuck => exact w)
def chk (ds : List PD) : R (List PD) := if ds.length ≤ szN then .ok ds else .stuck
theorem ef_lst {ta : TA} {fa : En → R (List PD)} (h : EdA C ta fa) : EdF C (tLst ta) (fun en => (fa en).bind chk) := fun H0 ext reg en σ H rs Q w =>
  h.seq rs (W := WrF C (own ext reg) H Q) w (fun _ q => q) (fun q => q) fun x v H2 e2 r2 h2 w2 => by
    unfold chk at w2
    split at w2
    · rename_i hl
      exact ⟨sz_of (by rw [h2.length]; exact hl), fun p hp => w2 p v H2 e2 hp h2⟩
    · exact w2.elim

/-! ### comprehensions -/
def wipeE (en : En) : List Nat → En
  | [] => en
  | v :: vs => (wipeE en vs).set v .no
def free (en : En) (vs : List Nat) : Bool := vs.all fun v => match en[v]? with
  | some sv => !isOwn sv
  | none => true
def lcL (tg : PD → En → R En) (ft : En → R Bool) (fe : En → R PD) (en : En) : List PD → R (List PD)
  | [] => .ok []
  | x :: r => (tg x en).bind fun e => (ft e).bind fun b => match b with
    | true => (fe e).bind fun y => (lcL tg ft fe en r).bind fun ys => .ok (y :: ys)
    | false => lcL tg ft fe en r
def dLc (fi : En → R (List PD)) (tg : PD → En → R En) (ft : En → R Bool) (fe : En → R PD) (vs : List Nat) : En → R (List PD) := fun en => (fi en).bind fun ds =>
  if free en vs = true then ((lcL tg ft fe (wipeE en vs) ds).noexc).bind chk else .stuck
theorem wipeE_get (en : En) : ∀ (vs : List Nat) (j : Nat), (wipeE en vs)[j]? = if j ∈ vs then (en[j]?).map (fun _ => SV.no) else en[j]?
  | [], j => by simp [wipeE]
  | v :: vs, j => by
    unfold wipeE
    rw [List.getElem?_set, wipeE_get en vs]
    have hl : ∀ ws : List Nat, (wipeE en ws).length = en.length := fun ws => by
      induction ws with
      | nil => rfl
      | cons a b ih => unfold wipeE; rw [List.length_set, ih]
    by_cases h : v = j
    · subst h
      rw [if_pos rfl, if_pos List.mem_cons_self, hl]
      by_cases hv : v < en.length
      · rw [if_pos hv, List.getElem?_eq_getElem hv]; rfl
      · rw [if_neg hv, List.getElem?_eq_none (by omega)]; rfl
    · rw [if_neg h]
      by_cases hm : j ∈ vs
      · rw [if_pos hm, if_pos (List.mem_cons_of_mem _ hm)]
      · rw [if_neg hm, if_neg fun z => (List.mem_cons.mp z).elim (fun e => h e.symm) hm]
theorem wipe_get (σ : L2.St) : ∀ (vs : List Nat) (j : Nat), (wipe σ vs)[j]? = if j ∈ vs then (σ[j]?).map (fun _ => none) else σ[j]?
  | [], j => by simp [wipe]
  | v :: vs, j => by
    unfold wipe
    rw [List.getElem?_set, wipe_get σ vs, wipe_length]
    by_cases h : v = j
    · subst h
      rw [if_pos rfl, if_pos List.mem_cons_self]
      by_cases hv : v < σ.length
      · rw [if_pos hv, List.getElem?_eq_getElem hv]; rfl
      · rw [if_neg hv, List.getElem?_eq_none (by omega)]; rfl
    · rw [if_neg h]
      by_cases hm : j ∈ vs
      · rw [if_pos hm, if_pos (List.mem_cons_of_mem _ hm)]
      · rw [if_neg hm, if_neg fun z => (List.mem_cons.mp z).elim (fun e => h e.symm) hm]
theorem RS.wipes {K : PySem.W.Frag} {H0 H : Hp} {ext : AS} {reg : Nat → AS} {en : En} {σ : L2.St} (r : RS K H0 ext reg en σ H) : ∀ (vs : List Nat), free en vs = true → RS K H0 ext reg (wipeE en vs) (wipe σ vs) H
  | [], _ => r
  | v :: vs, h => by
    have h' : (match en[v]? with | some sv => !isOwn sv | none => true) = true ∧ free en vs = true := by
      unfold free at h ⊢
      rw [List.all_cons, Bool.and_eq_true] at h
      exact h
    refine (r.wipes vs h'.2).wipeK v fun sv e => ?_
    rw [wipeE_get] at e
    cases q : en[v]? with
    | none => rw [q] at e; split at e <;> cases e
    | some s =>
      have h1 := h'.1
      rw [q] at e h1
      split at e
      · cases e; rfl
      · cases e
        simpa using h1
theorem ef_lc {wi : TI} {g : TG} {tt : TT} {te : TE} {vs ts : List Nat} {fi : En → R (List PD)} {tg : PD → En → R En} {ft : En → R Bool} {fe : En → R PD}
    (hi : EdI C wi fi) (hg : EdK C.n ts g tg) (ht : EdT C.n tt ft) (he : EdS C.n te fe) (hts : ∀ i ∈ ts, i ∈ vs) : EdF C (tLc wi g tt te vs) (dLc fi tg ft fe vs) := fun H0 ext reg en σ H rs Q w => by
  refine hi H0 ext reg en σ H rs _ ?_
  unfold dLc at w
  cases e : fi en with
  | exc c => rw [e] at w; exact w
  | stuck => rw [e] at w; exact w.elim
  | ok ds =>
    rw [e] at w
    simp only [R.bind_ok] at w
    split at w
    case isFalse => exact w.elim
    rename_i hfree
    cases el : lcL tg ft fe (wipeE en vs) ds with
    | exc c => rw [el] at w; exact w.elim
    | stuck => rw [el] at w; exact w.elim
    | ok all =>
      rw [el] at w
      simp only [R.noexc_ok, R.bind_ok] at w
      unfold chk at w
      split at w
      case isFalse => exact w.elim
      rename_i hlen
      intro J H1 e1 wk Dl hD
      have r1 := rs.ex e1
      -- the heap without the new list
      let del : Hp → Hp := fun H' a => if a = Dl then none else H' a
      have delx : ∀ (H' H'' : Hp), Ex H' H'' → Ex (del H') (del H'') := fun H' H'' q => ⟨fun a o h n => by
        show (if a = Dl then none else H'' a) = some o
        have h' : (if a = Dl then none else H' a) = some o := h
        split at h'
        · cases h'
        · rename_i hn
          rw [if_neg hn]
          exact q.k a o h' n⟩
      have dell : ∀ H' : Hp, Ex (del H') H' := fun H' => Ex.of fun a o h => by
        have h' : (if a = Dl then none else H' a) = some o := h
        split at h'
        · cases h'
        · exact h'
      have delt : ∀ (H' : Hp) (xs : List V), H' Dl = some (.lst xs) → LamX.Tabs Tabl.T H' → LamX.Tabs Tabl.T (del H') := fun H' xs h t => tabs_wr t h rfl fun a ha => by
        show (if a = Dl then none else H' a) = H' a
        rw [if_neg ha]
      have delu : ∀ (H' : Hp) (o : HO), del (upd H' Dl o) = del H' := fun H' o => by
        funext a
        show (if a = Dl then none else upd H' Dl o a) = if a = Dl then none else H' a
        by_cases ha : a = Dl
        · rw [if_pos ha, if_pos ha]
        · rw [if_neg ha, if_neg ha, upd_ne ha]
      have udel : ∀ (H' : Hp) (o : HO), H' Dl = some o → upd (del H') Dl o = H' := fun H' o h => by
        funext a
        by_cases ha : a = Dl
        · rw [ha, upd_same, h]
        · rw [upd_ne ha]
          show (if a = Dl then none else H' a) = H' a
          rw [if_neg ha]
      have del1 : Ex H1 (del (upd H1 Dl (.lst []))) := Ex.of fun a o h => by
        rw [delu]
        show (if a = Dl then none else H1 a) = some o
        rw [if_neg fun z => by rw [z, hD] at h; cases h]
        exact h
      -- owned places, and the new list
      let Z := own ext reg
      let Z' : AS := fun a => Z a ∨ a = Dl
      have zD : ∀ H' : Hp, hid H' Z' = hid (del H') Z := fun H' => by
        funext a
        by_cases ha : a = Dl
        · rw [hid_no (show Z' a from .inr ha)]
          by_cases hz : Z a
          · rw [hid_no hz]
          · rw [hid_at hz]
            show none = if a = Dl then none else H' a
            rw [if_pos ha]
        · by_cases hz : Z a
          · rw [hid_no (show Z' a from .inl hz), hid_no hz]
          · rw [hid_at (fun z : Z' a => z.elim hz ha), hid_at hz]
            show H' a = if a = Dl then none else H' a
            rw [if_neg ha]
      let I : Nat → Nat → Hp → Prop := fun i m H' => m = ds.length - i ∧ i ≤ ds.length ∧ Ex H1 (del H') ∧ LamX.Tabs Tabl.T H' ∧ ∃ xs acc rest, H' Dl = some (.lst xs) ∧ RpA C.K (hid H' Z') xs acc ∧ lcL tg ft fe (wipeE en vs) (ds.drop i) = .ok rest ∧ acc ++ rest = all
      refine ⟨I, ⟨ds.length, by omega, Nat.zero_le _, del1, (Xt.new hD).t r1.tb, [], [], all, upd_same, .nil, by rw [List.drop_zero]; exact el, rfl⟩, ?_⟩
      rintro i m H' ⟨rfl, hi', eH, hTb, xs, acc, rest, hDl, hacc, hrest, hall⟩
      -- the state within the block: the new list is a stranger's
      have eH' : Ex H1 H' := eH.trans (dell H')
      have rB : RS C.K (hid H' fun a => (∃ i, reg i a)) (fun a => ext a ∨ a = Dl) reg (wipeE en vs) (wipe σ vs) H' := by
        have r2 := (r1.ex ⟨eH, fun _ => delt _ _ hDl hTb⟩).wipes vs hfree
        refine ⟨hid_ex, hTb, ?_, ?_, r2.dj, r2.ro, r2.len, ?_⟩
        · rintro a (h | h)
          · obtain ⟨o, q, t⟩ := (dell H').so (r2.le.so (r2.exd a h))
            exact ⟨o, by rw [hid_at fun ⟨i, q2⟩ => r2.noext q2 h]; exact q, t⟩
          · refine ⟨.lst xs, ?_, rfl⟩
            rw [h, hid_at]
            · exact hDl
            · rintro ⟨i, q2⟩
              obtain ⟨o, q3, _⟩ := (r2.rg i _ q2).2
              have q4 : (if Dl = Dl then none else H' Dl) = some o := q3
              rw [if_pos rfl] at q4
              cases q4
        · exact fun j a q => ⟨.of (hid_no ⟨j, q⟩), (dell H').so (r2.rg j a q).2⟩
        · intro j sv q
          obtain ⟨v, h1, h2⟩ := r2.sl j sv q
          refine ⟨v, h1, ?_⟩
          have same : hid H' (own (fun a => ext a ∨ a = Dl) reg) = hid (del H') (own ext reg) := by
            rw [← zD H']
            congr 1
            funext a
            apply propext
            constructor
            · rintro ((h | h) | h)
              · exact .inl (.inl h)
              · exact .inr h
              · exact .inl (.inr h)
            · rintro ((h | h) | h)
              · exact .inl (.inl h)
              · exact .inr h
              · exact .inl (.inr h)
          rw [same]
          exact h2.mono (Ex.refl _) fun p o _ q n => (dell H').k p o q n
      have ownZ : ∀ a, own (fun a => ext a ∨ a = Dl) reg a ↔ Z' a := fun a => by
        constructor
        · rintro ((h | h) | h)
          · exact .inl (.inl h)
          · exact .inr h
          · exact .inl (.inr h)
        · rintro ((h | h) | h)
          · exact .inl (.inl h)
          · exact .inr h
          · exact .inl (.inr h)
      have ownEq : own (fun a => ext a ∨ a = Dl) reg = Z' := funext fun a => propext (ownZ a)
      have wki := wk Z' H' (by
        rw [zD H']
        exact eH.hid) (fun a z => rB.there ((ownZ a).mpr z)) i
      by_cases hlt : i < ds.length
      · refine .inr ?_
        have hd : ds[i]? = some ds[i] := List.getElem?_eq_getElem hlt
        obtain ⟨go, yl⟩ := wki.1 _ hd
        refine ⟨go, fun H'' => I (i + 1) (ds.length - (i + 1)) H'', fun H'' q => ⟨_, by omega, q⟩, fun x H2 hy => ?_⟩
        obtain ⟨e2, hx⟩ := yl x H2 hy
        rw [List.drop_eq_getElem_cons hlt] at hrest
        unfold lcL at hrest
        have rB2 := rB.ex e2
        refine hg _ _ reg _ _ H2 rB2 x ds[i] (by rw [ownEq]; exact hx) _ ?_
        cases etg : tg ds[i] (wipeE en vs) with
        | exc c => rw [etg] at hrest; cases hrest
        | stuck => rw [etg] at hrest; cases hrest
        | ok en2 =>
          rw [etg] at hrest
          simp only [R.bind_ok] at hrest
          intro reg' σ' kp rB3
          -- what is owned is the same
          have ownS : own (fun a => ext a ∨ a = Dl) reg' = Z' := by
            rw [← ownEq]
            funext a
            apply propext
            refine ⟨kp.own _ a, ?_⟩
            rintro (h | ⟨j, h⟩)
            · exact .inl h
            · refine .inr ⟨j, kp.r2 j a h fun hj => ?_⟩
              obtain ⟨sv, h1, h2⟩ := rB.ro j a h
              rw [wipeE_get, if_pos (hts j hj)] at h1
              cases q : en[j]? with
              | none => rw [q] at h1; cases h1
              | some s =>
                rw [q] at h1
                cases h1
                cases h2
          refine ⟨?_, ?_⟩
          · apply List.ext_getElem?
            intro j
            rw [wipe_get, wipe_get]
            by_cases hj : j ∈ vs
            · rw [if_pos hj, if_pos hj]
              by_cases hl : j < σ.length
              · have : j < σ'.length := by rw [kp.s1, wipe_length]; exact hl
                rw [List.getElem?_eq_getElem hl, List.getElem?_eq_getElem this]
                rfl
              · rw [List.getElem?_eq_none (l := σ) (by omega), List.getElem?_eq_none (l := σ') (by rw [kp.s1, wipe_length]; omega)]
            · rw [if_neg hj, if_neg hj, kp.s2 j fun z => hj (hts j z), wipe_get, if_neg hj]
          · refine ht _ _ reg' en2 σ' H2 rB3 _ ?_
            cases eft : ft en2 with
            | exc c => rw [eft] at hrest; cases hrest
            | stuck => rw [eft] at hrest; cases hrest
            | ok b =>
              rw [eft] at hrest
              simp only [R.bind_ok] at hrest
              intro H3 e3
              have rB4 := rB3.ex e3
              have eD3 : Ex H1 (del H3) := eH.trans (delx _ _ (e2.trans e3).toEx)
              have tb3 := (e2.trans e3).t hTb
              cases b with
              | false =>
                show I (i + 1) _ H3
                refine ⟨rfl, hlt, eD3, tb3, xs, acc, rest, e3.l (e2.l hDl), hacc.mono (e2.trans e3).toEx.hid.le, hrest, hall⟩
              | true =>
                show te σ' H3 _
                refine he _ _ reg' en2 σ' H3 rB4 _ ?_
                dsimp only at hrest
                cases efe : fe en2 with
                | exc c => rw [efe] at hrest; cases hrest
                | stuck => rw [efe] at hrest; cases hrest
                | ok y =>
                  rw [efe] at hrest
                  simp only [R.bind_ok] at hrest
                  cases er : lcL tg ft fe (wipeE en vs) (ds.drop (i + 1)) with
                  | exc c => rw [er] at hrest; cases hrest
                  | stuck => rw [er] at hrest; cases hrest
                  | ok ys =>
                    rw [er] at hrest
                    simp only [R.bind_ok] at hrest
                    have hrest := R.ok.inj hrest
                    subst hrest
                    intro v H4 e4 hv
                    have eD4 : H4 Dl = some (.lst xs) := e4.l (e3.l (e2.l hDl))
                    refine ⟨xs, eD4, sz_lt ?_, rfl, hlt, ?_, tabs_wr (e4.t tb3) eD4 rfl fun a ha => upd_ne ha, xs ++ [v], acc ++ [y], ys, upd_same, ?_, er, by rw [← hall, List.append_assoc]; rfl⟩
                    · rw [hacc.length]
                      have : acc.length ≤ all.length := by rw [← hall, List.length_append]; omega
                      omega
                    · rw [delu]
                      exact eD3.trans (delx _ _ e4.toEx)
                    · rw [hid_upd (show Z' Dl from .inr rfl)]
                      refine RpA.app (hacc.mono ((e2.trans e3).trans e4).toEx.hid.le) (.cons ?_ .nil)
                      have hv' : Rp C.K (hid H4 (own (fun a => ext a ∨ a = Dl) reg')) v y := hv
                      rw [ownS] at hv'
                      exact hv'
      · refine .inl ⟨wki.2 (by omega), ?_⟩
        have ei : i = ds.length := by omega
        rw [ei, List.drop_length] at hrest
        have hr0 : rest = [] := (R.ok.inj hrest).symm
        subst hr0
        rw [List.append_nil] at hall
        subst hall
        have := w Dl xs (del H') (e1.trans ⟨eH, fun _ => delt _ _ hDl hTb⟩) (by show (if Dl = Dl then none else H' Dl) = none; rw [if_pos rfl]) (by
          have h := hacc
          rw [zD H'] at h
          exact h)
        rw [udel H' _ hDl] at this
        exact this
end
end Dn

namespace Dn
open PySem L2
variable [Tabl]

/-! ### statements -/
inductive Fl where
  | nx (e : En)
  | rt (d : PD)
  | bk (e : En)
  | ct (e : En)
  /-- a method returns, raises: with what its object is by then -/
  | rm (d : PD) (e : En)
  | rn (ds : List PD) (e : En)
  | xm (c : Str) (e : En)
  /-- a pair is told: the object of a slot, data -/
  | pr (i : Nat) (d : PD) (e : En)
def WS (C : Cn) (H0 : Hp) (ext : AS) (D : Ends) : R Fl → Prop
  | .ok (.nx e) => ∀ reg σ H, RS C.K H0 ext reg e σ H → D.nx σ H
  | .ok (.rt d) => ∀ v H, Ex H0 H → LamX.Tabs Tabl.T H → Rp C.K (hid H ext) v d → D.rt v H
  | .ok (.bk e) => ∀ reg σ H, RS C.K H0 ext reg e σ H → D.bk σ H
  | .ok (.ct e) => ∀ reg σ H, RS C.K H0 ext reg e σ H → D.ct σ H
  | .ok (.rm d e) => ∀ v reg σ H, RS C.K H0 ext reg e σ H → Rp C.K (hid H (own ext reg)) v d → D.rt v H
  | .ok (.rn ds e) => ∀ p xs reg σ H, RS C.K H0 ext reg e σ H → H p = none → RpA C.K (hid H (own ext reg)) xs ds → D.rt (.ref p) (upd H p (.lst xs))
  | .ok (.xm c e) => ∀ reg σ H, RS C.K H0 ext reg e σ H → C.E (.ref (C.cl c)) none H
  | .ok (.pr i d e) => ∀ t p u reg σ H, RS C.K H0 ext reg e σ H → σ[i]? = some (some (.ref p)) → H t = some (.tup [.ref p, u]) → ¬ own ext reg t → Rp C.K (hid H (own ext reg)) u d → D.rt (.ref t) H
  | .exc c => ∀ H, Ex H0 H → LamX.Tabs Tabl.T H → C.E (.ref (C.cl c)) none H
  | .stuck => False
def Es (C : Cn) (ts : TS) (f : En → R Fl) : Prop := ∀ (H0 : Hp) (ext : AS) (reg : Nat → AS) (en : En) (σ : L2.St) (H : Hp), RS C.K H0 ext reg en σ H → ∀ D : Ends, WS C H0 ext D (f en) → ts D σ H
section
variable {C : Cn} {ta tb te : TE} {fa fb fe : En → R PD} {t u : TS} {f g : En → R Fl}
theorem WS.exc {H0 H : Hp} {ext : AS} {D : Ends} {c : Str} (w : WS C H0 ext D (.exc c)) (e : Ex H0 H) (tb : LamX.Tabs Tabl.T H) : ∀ H2, Xt H H2 → C.E (.ref (C.cl c)) none H2 := fun H2 e2 => w H2 (e.trans e2.toEx) (e2.t tb)
def sNil : En → R Fl := fun en => .ok (.nx en)
theorem es_nil : Es C tNext sNil := fun H0 ext reg en σ H rs D w => w reg σ H rs
theorem es_pass : Es C tNext sNil := es_nil
theorem es_cont : Es C tCont (fun en => .ok (.ct en)) := fun H0 ext reg en σ H rs D w => w reg σ H rs
theorem es_brk : Es C tBreak (fun en => .ok (.bk en)) := fun H0 ext reg en σ H rs D w => w reg σ H rs
def sSeq (f g : En → R Fl) : En → R Fl := fun en => (f en).bind fun x => match x with
  | .nx e => g e
  | y => .ok y
theorem es_seq (h : Es C t f) (h' : Es C u g) : Es C (tSeq t u) (sSeq f g) := fun H0 ext reg en σ H rs D w => h H0 ext reg en σ H rs _ (by
  unfold sSeq at w
  generalize f en = x at w ⊢
  cases x with
  | ok fl =>
    cases fl with
    | nx e => exact fun reg' σ' H' r' => h' H0 ext reg' e σ' H' r' D w
    | rt d => exact w
    | bk e => exact w
    | ct e => exact w
    | rm d e => exact w
    | rn d e => exact w
    | xm d e => exact w
    | pr i d e => exact w
  | exc c => exact w
  | stuck => exact w)
/-- x = e -/
def sAsg (i : Nat) (fa : En → R PD) : En → R Fl := fun en => (fa en).bind fun d => .ok (.nx (en.set i (.sh d)))
theorem es_asg {i : Nat} (h : EdS C te fa) : Es C (tAsg te (gName i)) (sAsg i fa) := fun H0 ext reg en σ H rs D w =>
  h.seq rs (W := WS C H0 ext D) w (fun _ q => WS.exc q rs.le rs.tb) (fun q => q) fun d v H2 e2 r2 h2 w2 => w2 _ _ _ (r2.set h2)
/-- targets of other forms -/
def sAsgG (g : PD → En → R En) (fa : En → R PD) : En → R Fl := fun en => (fa en).bind fun d => (g d en).noexc.bind fun e => .ok (.nx e)
theorem es_asgG {ts : List Nat} {g : TG} {gf : PD → En → R En} (h : EdS C te fa) (hg : EdK C ts g gf) : Es C (tAsg te g) (sAsgG gf fa) := fun H0 ext reg en σ H rs D w =>
  h.seq rs (W := WS C H0 ext D) w (fun _ q => WS.exc q rs.le rs.tb) (fun q => q) fun d v H2 e2 r2 h2 w2 => hg H0 ext reg en σ H2 r2 v d h2 _ (by
    generalize gf d en = x at w2 ⊢
    cases x with
    | ok e => exact fun reg' σ' _ r' => w2 reg' σ' H2 r'
    | exc c => exact w2.elim
    | stuck => exact w2.elim)
/-- x = a new list, which the slot owns -/
def sAsgF (i : Nat) (fa : En → R (List PD)) : En → R Fl := fun en => (fa en).bind fun ds => if i < en.length then .ok (.nx (en.set i (.ol ds))) else .stuck
theorem es_asgF {i : Nat} {fa : En → R (List PD)} (h : EdF C te fa) : Es C (tAsg te (gName i)) (sAsgF i fa) := fun H0 ext reg en σ H rs D w => h H0 ext reg en σ H rs _ (by
  unfold sAsgF at w
  generalize fa en = x at w ⊢
  cases x with
  | ok ds =>
    intro p xs H2 e2 hp hr
    simp only [R.bind_ok] at w
    split at w
    · rename_i hi
      exact w _ _ _ ((rs.ex e2).new hi rfl hp ⟨p, xs, rfl, rfl, upd_same, hr⟩)
    · exact w.elim
  | exc c => exact WS.exc w rs.le rs.tb
  | stuck => exact w.elim)
/-- a, b = x, y -/
def sPar (i j : Nat) (fa : En → R (List PD)) : En → R Fl := fun en => (fa en).bind fun ds => match ds with
  | [x, y] => .ok (.nx ((en.set i (.sh x)).set j (.sh y)))
  | _ => .stuck
theorem es_par {i j : Nat} {ta : TA} {fa : En → R (List PD)} (h : EdA C ta fa) : Es C (tPar i j ta) (sPar i j fa) := fun H0 ext reg en σ H rs D w =>
  h.seq rs (W := WS C H0 ext D) w (fun _ q => WS.exc q rs.le rs.tb) (fun q => q) fun ds vs H2 e2 r2 h2 w2 => by
    match ds, w2 with
    | [x, y], w2 =>
      obtain ⟨v, u, rfl, hv, hu⟩ := h2.two
      have r3 := r2.set (i := i) hv
      exact ⟨v, u, rfl, w2 _ _ _ (r3.set (hu.mono ((Ex.refl H2).hidLess fun a z => own_drp z).le))⟩
    | [], w2 => exact w2.elim
    | [_], w2 => exact w2.elim
    | _ :: _ :: _ :: _, w2 => exact w2.elim
/-- return e -/
def sRet (fa : En → R PD) : En → R Fl := fun en => (fa en).bind fun d => .ok (.rt d)
theorem es_ret (h : EdL C te fa) : Es C (tRet te) (sRet fa) := fun H0 ext reg en σ H rs D w =>
  h.seq rs (W := WS C H0 ext D) w (fun _ q => WS.exc q rs.le rs.tb) (fun q => q) fun d v H2 e2 r2 h2 w2 => w2 v H2 r2.le r2.tb (h2.rp (hid_less fun a z => .inl z))
theorem es_retN : Es C tRetN (fun _ => .ok (.rt .none)) := fun H0 ext reg en σ H rs D w => w .non H rs.le rs.tb .non
/-- an expression alone -/
def sDrop (fa : En → R PD) : En → R Fl := fun en => (fa en).bind fun _ => .ok (.nx en)
theorem es_drop (h : EdL C te fa) : Es C (tDrop te) (sDrop fa) := fun H0 ext reg en σ H rs D w =>
  h.seq rs (W := WS C H0 ext D) w (fun _ q => WS.exc q rs.le rs.tb) (fun q => q) fun d v H2 e2 r2 h2 w2 => w2 _ _ _ r2
def sIf (ft : En → R Bool) (f g : En → R Fl) : En → R Fl := fun en => (ft en).bind fun b => match b with
  | true => f en
  | false => g en
theorem es_if {tt : TT} {ft : En → R Bool} (h : EdT C tt ft) (h1 : Es C t f) (h2 : Es C u g) : Es C (tIfS tt t u) (sIf ft f g) := fun H0 ext reg en σ H rs D w =>
  h.seq rs (W := WS C H0 ext D) w (fun _ q => WS.exc q rs.le rs.tb) (fun q => q) fun b H2 e2 r2 w2 => by
    cases b with
    | true => exact h1 H0 ext reg en σ H2 r2 D w2
    | false => exact h2 H0 ext reg en σ H2 r2 D w2
/-- raise -/
def sRaise (c : Str) : En → R Fl := fun _ => .exc c
theorem es_raise (c : Str) : Es C (fun _ σ H => (fun (_ : L2.St) (H : Hp) (Q : XK) => Q (.ref (C.cl c)) none H) σ H fun cls d H' => (fun cls d (_ : L2.St) H => C.E cls d H) cls d σ H') (sRaise c) := fun H0 ext reg en σ H rs D w => w H rs.le rs.tb
/-- xs.append(e), the slot's own list -/
def sApp (i : Nat) (fa : En → R PD) : En → R Fl := fun en => match en[i]? with
  | some (.ol ds) => (fa en).bind fun d => if ds.length + 1 ≤ szN then .ok (.nx (en.set i (.ol (ds ++ [d])))) else .stuck
  | _ => .stuck
theorem RS.at {K : PySem.W.Frag} {H0 H : Hp} {ext : AS} {reg : Nat → AS} {en : En} {σ : L2.St} {i : Nat} {ds : List PD} (r : RS K H0 ext reg en σ H) (h : en[i]? = some (.ol ds)) : ∃ p xs, σ[i]? = some (some (.ref p)) ∧ reg i p ∧ H p = some (.lst xs) ∧ RpA K (hid H (own ext reg)) xs ds := by
  obtain ⟨v, h1, p, xs, rfl, h2, h3, h4⟩ := r.sl i _ h
  exact ⟨p, xs, h1, h2, h3, h4⟩
theorem es_app {i : Nat} (h : EdS C te fa) : Es C (tDrop (tBM C.K "list" rAppend (tVar i) (tCons te tNil))) (sApp i fa) := fun H0 ext reg en σ H rs D w => by
  unfold sApp at w
  cases e : en[i]? with
  | none => rw [e] at w; exact w.elim
  | some sv =>
    rw [e] at w
    cases sv with
    | ol ds =>
      obtain ⟨p, xs, h1, h2, h3, h4⟩ := rs.at e
      refine ⟨.ref p, h1, .inl ⟨rfl, xs, SqL.of h3⟩, h.seq rs (W := WS C H0 ext D) w (fun _ q => WS.exc q rs.le rs.tb) (fun q => q) fun d v H2 e2 r2 h5 w2 => ?_⟩
      split at w2
      · rename_i hl
        refine ⟨p, xs, v, rfl, rfl, e2.l h3, sz_lt (by rw [h4.length]; omega), w2 _ _ _ (r2.wr (sv := .ol (ds ++ [d])) rfl ⟨_, e2.l h3, rfl⟩ h2 h1 ?_)⟩
        exact ⟨p, xs ++ [v], rfl, h2, upd_same, (h4.mono e2.toEx.hid.le).app (.cons h5 .nil)⟩
      · exact w2.elim
    | _ => exact w.elim
/-- xs.extend(ys) -/
def sExt (i : Nat) (fa : En → R PD) : En → R Fl := fun en => match en[i]? with
  | some (.ol ds) => (fa en).bind fun d => match d with
    | .list es => if ds.length + es.length ≤ szN then .ok (.nx (en.set i (.ol (ds ++ es)))) else .stuck
    | _ => .stuck
  | _ => .stuck
theorem es_ext {i : Nat} (h : EdS C te fa) : Es C (tDrop (tBM C.K "list" rExtend (tVar i) (tCons te tNil))) (sExt i fa) := fun H0 ext reg en σ H rs D w => by
  unfold sExt at w
  cases e : en[i]? with
  | none => rw [e] at w; exact w.elim
  | some sv =>
    rw [e] at w
    cases sv with
    | ol ds =>
      obtain ⟨p, xs, h1, h2, h3, h4⟩ := rs.at e
      refine ⟨.ref p, h1, .inl ⟨rfl, xs, SqL.of h3⟩, h.seq rs (W := WS C H0 ext D) w (fun _ q => WS.exc q rs.le rs.tb) (fun q => q) fun d v H2 e2 r2 h5 w2 => ?_⟩
      cases d with
      | list es =>
        dsimp only at w2
        split at w2
        · rename_i hl
          cases h5 with
          | lst hb hr =>
            rename_i b ys
            refine ⟨p, b, xs, ys, rfl, rfl, e2.l h3, hid_ex.l hb, sz_of (by rw [h4.length, hr.length]; omega), w2 _ _ _ (r2.wr (sv := .ol (ds ++ es)) rfl ⟨_, e2.l h3, rfl⟩ h2 h1 ?_)⟩
            exact ⟨p, xs ++ ys, rfl, h2, upd_same, (h4.mono e2.toEx.hid.le).app hr⟩
        · exact w2.elim
      | _ => exact w2.elim
    | _ => exact w.elim
/-- what the slot owned is shared from here on -/
def sShare (i : Nat) : En → En := fun en => match en[i]? with
  | some (.ol ds) => en.set i (.sh (.list ds))
  | some (.od es) => en.set i (.sh (.dict es))
  | _ => en
theorem es_share (i : Nat) (h : Es C t f) : Es C t (fun en => f (sShare i en)) := fun H0 ext reg en σ H rs D w => by
  dsimp only at w
  unfold sShare at w
  cases e : en[i]? with
  | none => rw [e] at w; exact h H0 ext reg en σ H rs D w
  | some sv =>
    rw [e] at w
    cases sv with
    | ol ds => exact h H0 ext _ _ σ H (rs.share e) D w
    | od es => exact h H0 ext _ _ σ H (rs.shareD e) D w
    | no => exact h H0 ext reg en σ H rs D w
    | sh d => exact h H0 ext reg en σ H rs D w
    | rl d => exact h H0 ext reg en σ H rs D w
    | fz d => exact h H0 ext reg en σ H rs D w
    | xr d => exact h H0 ext reg en σ H rs D w
    | ob m c ns fs => exact h H0 ext reg en σ H rs D w
    | vw c ns ds => exact h H0 ext reg en σ H rs D w
    | bd es => exact h H0 ext reg en σ H rs D w
    | bz es => exact h H0 ext reg en σ H rs D w
def noXm : R Fl → R Fl
  | .ok (.xm _ _) => .stuck
  | r => r
theorem es_nox (h : Es C.n t f) : Es C t (fun en => noXm (f en).noexc) := fun H0 ext reg en σ H rs D w => h H0 ext reg en σ H rs D (by
  dsimp only at w
  generalize f en = x at w ⊢
  cases x with
  | ok fl => cases fl <;> first | exact w | exact False.elim w
  | exc c => exact w.elim
  | stuck => exact w)

/-! ### loops -/
def loopF (tg : PD → En → R En) (body : En → R Fl) : List PD → En → R Fl
  | [], en => .ok (.nx en)
  | x :: r, en => (tg x en).noexc.bind fun e => (body e).bind fun fl => match fl with
    | .nx e2 => loopF tg body r e2
    | .ct e2 => loopF tg body r e2
    | .bk e2 => .ok (.nx e2)
    | .rt d => .ok (.rt d)
    | .rm d e2 => .ok (.rm d e2)
    | .rn d e2 => .ok (.rn d e2)
    | .xm d e2 => .ok (.xm d e2)
    | .pr i d e2 => .ok (.pr i d e2)
def sFor (fi : En → R (List PD)) (tg : PD → En → R En) (body : En → R Fl) : En → R Fl := fun en => (fi en).bind fun ds => loopF tg body ds en
theorem es_for {wi : TI} {g : TG} {tb : TS} {ts : List Nat} {fi : En → R (List PD)} {tg : PD → En → R En} {body : En → R Fl} (hi : EdI C wi fi) (hg : EdK C ts g tg) (hb : Es C tb body) : Es C (tFor wi g tb) (sFor fi tg body) := fun H0 ext reg en σ H rs D w => by
  refine hi H0 ext reg en σ H rs _ ?_
  unfold sFor at w
  cases e : fi en with
  | exc c => rw [e] at w; exact WS.exc w rs.le rs.tb
  | stuck => rw [e] at w; exact w.elim
  | ok ds =>
    rw [e] at w
    simp only [R.bind_ok] at w
    intro J H1 e1 wk
    have r1 := rs.ex e1
    -- the ground of the loop
    have rL := r1.lift
    have gL := r1.lift_le
    generalize hG : hid H1 (fun a => ∃ i, reg i a) = G at rL gL
    refine ⟨fun i m σ' H' => m = ds.length - i ∧ i ≤ ds.length ∧ ∃ reg' en', RS C.K G ext reg' en' σ' H' ∧ WS C H0 ext D (loopF tg body (ds.drop i) en'), ⟨ds.length, by omega, Nat.zero_le _, reg, en, rL, by rw [List.drop_zero]; exact w⟩, ?_⟩
    rintro i m σ' H' ⟨rfl, hi', reg', en', r', w'⟩
    have stands0 : ∀ a o, hid H1 (own ext reg) a = some o → isTb o = false → G a = some o ∧ hid H' (own ext reg') a = H' a := fun a o h n => by
      obtain ⟨z, h⟩ := hid_some h
      have hg0 : G a = some o := by
        rw [← hG, hid_at fun q => z (.inr q)]
        exact h
      refine ⟨hg0, hid_at fun q => ?_⟩
      rcases q with q | ⟨j, q⟩
      · exact z (.inl q)
      · exact So.nn ⟨o, hg0, n⟩ (r'.rg j a q).1
    have stands : Ex (hid H1 (own ext reg)) (hid H' (own ext reg')) := ⟨fun a o h n => by
      obtain ⟨h1, h2⟩ := stands0 a o h n
      rw [h2]
      exact r'.le.k a o h1 n⟩
    have wki := wk (own ext reg') H' stands (fun a z => r'.there z) i
    by_cases hlt : i < ds.length
    · refine .inr ?_
      have hd : ds[i]? = some ds[i] := List.getElem?_eq_getElem hlt
      obtain ⟨go, yl⟩ := wki.1 _ hd
      refine ⟨go, fun σ2 H2 => ∃ reg2 en2, RS C.K G ext reg2 en2 σ2 H2 ∧ WS C H0 ext D (loopF tg body (ds.drop (i + 1)) en2), fun σ2 H2 ⟨reg2, en2, a, b⟩ => ⟨_, by omega, rfl, hlt, reg2, en2, a, b⟩, fun x H2 hy => ?_⟩
      obtain ⟨e2, hx⟩ := yl x H2 hy
      rw [List.drop_eq_getElem_cons hlt] at w'
      unfold loopF at w'
      refine hg G ext reg' en' σ' H2 (r'.ex e2) x ds[i] hx _ ?_
      cases etg : tg ds[i] en' with
      | exc c => rw [etg] at w'; exact w'.elim
      | stuck => rw [etg] at w'; exact w'.elim
      | ok en2 =>
        rw [etg] at w'
        simp only [R.noexc_ok, R.bind_ok] at w'
        intro reg2 σ2 _ r2
        refine hb G ext reg2 en2 σ2 H2 r2 _ ?_
        have ext0 : ∀ a, ext a → So H0 a := rs.exd
        cases eb : body en2 with
        | exc c => rw [eb] at w'; exact fun H3 q tb => w' H3 (gL.trans q) tb
        | stuck => rw [eb] at w'; exact w'.elim
        | ok fl =>
          rw [eb] at w'
          simp only [R.bind_ok] at w'
          cases fl with
          | nx e3 => exact fun reg3 σ3 H3 r3 => ⟨reg3, e3, r3, w'⟩
          | ct e3 => exact fun reg3 σ3 H3 r3 => ⟨reg3, e3, r3, w'⟩
          | bk e3 => exact fun reg3 σ3 H3 r3 => w' reg3 σ3 H3 (r3.ground gL ext0)
          | rt d => exact fun v H3 q tb h3 => w' v H3 (gL.trans q) tb h3
          | rm d e3 => exact fun v reg3 σ3 H3 r3 h3 => w' v reg3 σ3 H3 (r3.ground gL ext0) h3
          | rn d e3 => exact fun p xs reg3 σ3 H3 r3 hp hx => w' p xs reg3 σ3 H3 (r3.ground gL ext0) hp hx
          | xm d e3 => exact fun reg3 σ3 H3 r3 => w' reg3 σ3 H3 (r3.ground gL ext0)
          | pr i d e3 => exact fun t p u reg3 σ3 H3 r3 a b c d => w' t p u reg3 σ3 H3 (r3.ground gL ext0) a b c d
    · refine .inl ⟨wki.2 (by omega), ?_⟩
      have ei : i = ds.length := by omega
      rw [ei, List.drop_length] at w'
      exact w' reg' σ' H' (r'.ground gL rs.exd)
def loopW (ft : En → R Bool) (body : En → R Fl) : Nat → En → R Fl
  | 0, _ => .stuck
  | n + 1, en => (ft en).bind fun b => match b with
    | false => .ok (.nx en)
    | true => (body en).bind fun fl => match fl with
      | .nx e2 => loopW ft body n e2
      | .ct e2 => loopW ft body n e2
      | .bk e2 => .ok (.nx e2)
      | .rt d => .ok (.rt d)
      | .rm d e2 => .ok (.rm d e2)
      | .rn d e2 => .ok (.rn d e2)
      | .xm d e2 => .ok (.xm d e2)
      | .pr i d e2 => .ok (.pr i d e2)
def sWhile (fuel : Nat) (ft : En → R Bool) (body : En → R Fl) : En → R Fl := loopW ft body fuel
theorem es_while {tt : TT} {tb : TS} {ft : En → R Bool} {body : En → R Fl} (fuel : Nat) (ht : EdT C tt ft) (hb : Es C tb body) : Es C (tWhile tt tb) (sWhile fuel ft body) := fun H0 ext reg en σ H rs D w => by
  refine ⟨fun m σ' H' => ∃ reg' en', RS C.K H0 ext reg' en' σ' H' ∧ WS C H0 ext D (loopW ft body m en'), ⟨fuel, reg, en, rs, w⟩, ?_⟩
  rintro m σ' H' ⟨reg', en', r', w'⟩
  cases m with
  | zero => exact w'.elim
  | succ n =>
    unfold loopW at w'
    refine ht.seq r' (W := WS C H0 ext D) w' (fun _ q => WS.exc q r'.le r'.tb) (fun q => q) fun b H2 e2 r2 w2 => ?_
    cases b with
    | false => exact w2 reg' σ' H2 r2
    | true =>
      refine ⟨fun σ3 H3 => ∃ reg3 en3, RS C.K H0 ext reg3 en3 σ3 H3 ∧ WS C H0 ext D (loopW ft body n en3), fun σ3 H3 q => ⟨n, Nat.lt_succ_self n, q⟩, hb H0 ext reg' en' σ' H2 r2 _ ?_⟩
      dsimp only at w2
      cases eb : body en' with
      | exc c => rw [eb] at w2; exact w2
      | stuck => rw [eb] at w2; exact w2.elim
      | ok fl =>
        rw [eb] at w2
        simp only [R.bind_ok] at w2
        cases fl with
        | nx e3 => exact fun reg3 σ3 H3 r3 => ⟨reg3, e3, r3, w2⟩
        | ct e3 => exact fun reg3 σ3 H3 r3 => ⟨reg3, e3, r3, w2⟩
        | bk e3 => exact fun reg3 σ3 H3 r3 => w2 reg3 σ3 H3 r3
        | rt d => exact fun v H3 q tb h3 => w2 v H3 q tb h3
        | rm d e3 => exact w2
        | rn d e3 => exact w2
        | xm d e3 => exact w2
        | pr i d e3 => exact w2
end

/-! ### a def -/
def runB (N : Nat) (f : En → R Fl) (ds : List PD) : R PD := (f (ds.map SV.sh ++ List.replicate (N - ds.length) SV.no)).bind fun fl => match fl with
  | .nx _ => .ok .none
  | .rt d => .ok d
  | _ => .stuck
theorem RS.start {K : PySem.W.Frag} {H : Hp} {ext : AS} {vs : List V} {ds : List PD} {N : List Str} (tb : LamX.Tabs Tabl.T H) (hx : ∀ a, ext a → So H a) (h : RpA K (hid H ext) vs ds) : RS K H ext (fun _ _ => False) (ds.map SV.sh ++ List.replicate (N.length - ds.length) SV.no) (L2.start N vs) H := by
  have ho : own ext (fun _ _ => False) = ext := by
    funext a
    apply propext
    constructor
    · rintro (h | ⟨_, h⟩)
      · exact h
      · exact h.elim
    · exact fun h => .inl h
  refine ⟨Ex.refl H, tb, hx, fun _ _ h => h.elim, fun _ _ _ h => h.elim, fun _ _ h => h.elim, ?_, fun i sv e => ?_⟩
  · unfold L2.start
    rw [List.length_append, List.length_append, List.length_map, List.length_map, List.length_replicate, List.length_replicate, h.length]
  · rw [ho]
    unfold L2.start
    by_cases hi : i < ds.length
    · rw [List.getElem?_append_left (by rw [List.length_map]; exact hi), List.getElem?_map, List.getElem?_eq_getElem hi] at e
      cases e
      obtain ⟨v, h1, h2⟩ := h.get (List.getElem?_eq_getElem hi)
      refine ⟨some v, ?_, v, rfl, h2⟩
      rw [List.getElem?_append_left (by rw [List.length_map, h.length]; exact hi), List.getElem?_map, h1]
      rfl
    · rw [List.getElem?_append_right (by rw [List.length_map]; omega), List.length_map, List.getElem?_replicate] at e
      split at e
      · rename_i hl
        cases e
        refine ⟨none, ?_, trivial⟩
        rw [List.getElem?_append_right (by rw [List.length_map, h.length]; omega), List.length_map, List.getElem?_replicate, h.length, if_pos hl]
      · cases e
section
variable {P : Program} {w : World} {K : PySem.W.Frag} {mg : Str → Option Value} {base : Heap}
/-- a def that may raise; its errors have no context -/
theorem okN {x qual : Str} {st : Stmt} {f : Addr} {fd : FuncData} {N ps : List Str} {k : Nat} {sp : Sp} (F : Fun K x qual st f fd) (S : FnScope N ps (defScope st)) (hl : ∀ vs H Q E, sp vs H Q E → vs.length = ps.length)
    (hb : ∀ (cdv : Value) (A : Around) (outer : List Env) (s : Shared) (H : Hp) (vs : List V) (Q : VK) (E : XK), Room k (A.deeper (PyProof.Rows.envOfC qual (defScope st) s.heap.objs.size f cdv)) → sp vs H Q E →
      ∃ t, PSs (cxOf (L2N.CX P w) P w K mg base N qual (defScope st) f cdv A outer s H E) (defBody st) t ∧ t { nx := fun _ H' => Q .non H', rt := Q } (L2.start N vs) H) : FnOk P w K mg base (L2N.CX P w) (k + 1) f fd ps sp := by
  obtain ⟨v1, v2, v3, v4, v5, v6, v7, v8, v9, rfl, h1, h2⟩ := F.ex
  exact fn_of h1 h2 S hl fun A outer s H vs Q E r q => hb v7 A outer s H vs Q E r q
theorem passN {X : Cx} : Passes (L2N.CX X.prog X.w) X E0 := fun _ _ _ _ _ _ _ h => by
  obtain ⟨_, _, _, _, _, _, _, _, _, _, _, _, z⟩ := h
  exact z.elim
theorem def_ok {x qual : Str} {st : Stmt} {f : Addr} {fd : FuncData} {N ps : List Str} {k : Nat} {cl : Str → Addr} {body : En → R Fl} (F : Fun K x qual st f fd) (S : FnScope N ps (defScope st))
    (hb : ∀ (cdv : Value) (A : Around) (outer : List Env) (s : Shared) (H : Hp) (E : XK), Room k (A.deeper (PyProof.Rows.envOfC qual (defScope st) s.heap.objs.size f cdv)) →
      ∃ t, PSs (cxOf (L2N.CX P w) P w K mg base N qual (defScope st) f cdv A outer s H E) (defBody st) t ∧ Es ⟨K, E, cl⟩ t body) :
    FnOk P w K mg base (L2N.CX P w) (k + 1) f fd ps (spF K cl ps.length (runB N.length body)) := by
  refine okN F S (fun vs H Q E h => h.choose_spec.choose_spec.1) fun cdv A outer s H vs Q E hr h => ?_
  obtain ⟨t, ht, hs⟩ := hb cdv A outer s H E hr
  refine ⟨t, ht, ?_⟩
  obtain ⟨ext, ds, hl, htb, hx, hv, wr⟩ := h
  refine hs H ext (fun _ _ => False) _ _ H (RS.start htb hx hv) _ ?_
  unfold runB at wr
  generalize body (ds.map SV.sh ++ List.replicate (N.length - ds.length) SV.no) = r at wr ⊢
  cases r with
  | ok fl =>
    cases fl with
    | nx e => exact fun reg σ H2 r2 => wr .non H2 ⟨r2.le, fun _ => r2.tb⟩ .non
    | rt d => exact fun v H2 e2 tb h2 => wr v H2 ⟨e2, fun _ => tb⟩ h2
    | bk e => exact wr.elim
    | ct e => exact wr.elim
    | rm d e => exact wr.elim
    | rn d e => exact wr.elim
    | xm d e => exact wr.elim
    | pr i d e => exact wr.elim
  | exc c => exact fun H2 e2 tb => wr H2 ⟨e2, fun _ => tb⟩
  | stuck => exact wr.elim
end
end Dn

namespace Dn
open PySem L2
variable [Tabl]

/-! ### small words of the printed text -/
def sSh (i : Nat) (f : En → R Fl) : En → R Fl := fun en => f (sShare i en)
def sNx (f : En → R Fl) : En → R Fl := fun en => noXm (f en).noexc
def sRetN : En → R Fl := fun _ => .ok (.rt .none)
def sCont : En → R Fl := fun en => .ok (.ct en)
def sBrk : En → R Fl := fun en => .ok (.bk en)
def dLst (fa : En → R (List PD)) : En → R (List PD) := fun en => (fa en).bind chk
def dYes : En → R Bool := fun _ => .ok true
section
variable {C : Cn} {X : Cx}
theorem et_yes : EdT C tYes dYes := fun H0 ext reg en σ H rs Q w => w H (Xt.refl H)
theorem c_len : CallR X (.builtin "len") (rLenA X.K) := call_len
theorem c_abs : CallR X (.builtin "abs") rAbs := call_abs
theorem c_int : CallR X (.type "int") rInt1 := call_int1
theorem c_max2 (hc : X.calm = true) : CallR X (.builtin "max") rMax2 := call_max2 hc
theorem hn_nil : ∀ (en : En) (ds : List PD), dNil en = .ok ds → ds.length = 0 := fun en ds h => by
  cases h
  rfl
theorem hn_cons {fa : En → R PD} {fr : En → R (List PD)} {n : Nat} (h : ∀ (en : En) (ds : List PD), fr en = .ok ds → ds.length = n) : ∀ (en : En) (ds : List PD), dCons fa fr en = .ok ds → ds.length = n + 1 := fun en ds q => by
  unfold dCons at q
  cases e : fa en with
  | ok x =>
    rw [e] at q
    simp only [R.bind_ok] at q
    cases e2 : fr en with
    | ok r =>
      rw [e2] at q
      simp only [R.bind_ok] at q
      cases q
      rw [List.length_cons, h en r e2]
    | exc c => rw [e2] at q; cases q
    | stuck => rw [e2] at q; cases q
  | exc c => rw [e] at q; cases q
  | stuck => rw [e] at q; cases q
end

/-! ### z[::-1] of a text -/
def revS (z : Str) : Str := ⟨z.cps.toList.reverse.toArray⟩
theorem revS_len (z : Str) : (revS z).length = z.length := by
  show z.cps.toList.reverse.toArray.size = z.cps.size
  simp
theorem sidx_rev (n : Nat) : Builtin.Str.strSliceIndices none none (-1) n = (List.range n).reverse := by
  show sliceRange ((n : Int) - 1) (-1) (-1) = _
  rw [PySem.W.krv_sliceRange, PySem.W.krv_range]
def tRevS (te : TE) : TE := fun σ H Q => te σ H fun x H1 => ∃ z, x = .str z ∧ z.length ≤ sizeLine ∧ Q (.str (revS z)) H1
section
variable {X : Cx}
theorem pe_revS {e : Expr} {te : TE} {k : Nat} {p1 p2 p3 pos : Pos} (he : PE X e te) : PE X (.Subscript e (.Slice none none (some (.UnaryOp .USub (.Constant (.int 1) k p1) p2)) p3) pos) (tRevS te) := by
  refine ⟨fun pins s σ H Q I h => ?_⟩
  refine PyProof.Rows.Subscript_ (thn (he.run pins s σ H _ I h) fun v s1 ⟨x, H1, I1, r1, q1⟩ => ?_)
  obtain ⟨z, ex, hz, q⟩ := q1
  subst ex
  obtain ⟨t, rfl⟩ := r1
  have hst : PO X (some (.UnaryOp .USub (.Constant (.int 1) k p1) p2)) (tPart (tUn (rU fun i => .int (-i)) (tC (.int 1)))) := po_some (pe_un un_neg pe_int)
  refine wpAny_Slice (thn (po_none.run pins s1 σ H1 (fun o H2 => o = none ∧ H2 = H1) I1 ⟨rfl, rfl⟩) fun vl s2 ⟨l, H2, I2, pl, el, e2⟩ => ?_)
  subst el e2
  refine thn (po_none.run pins s2 σ H2 (fun o H3 => o = none ∧ H3 = H2) I2 ⟨rfl, rfl⟩) fun vu s3 ⟨u, H3, I3, pu, eu, e3⟩ => ?_
  subst eu e3
  refine thn (hst.run pins s3 σ H3 (fun o H4 => o = some (-1) ∧ H4 = H3) I3 ⟨1, rfl, -1, rfl, rfl, rfl⟩) fun vs s4 ⟨o, H4, I4, ps, eo, e4⟩ => ?_
  subst eo e4
  have I5 : Inv X pins σ H4 { s4 with heap := s4.heap.push { cls := .type "slice", data := .fields #[vl, vu, vs] } } := I4.kept (t' := s4.toks) fun b ob q => Heap.get?_push_of_some _ q
  show wpAny (model X.prog X.w) X.A (PyProof.Rows.subscriptTail e (.Slice none none (some (.UnaryOp .USub (.Constant (.int 1) k p1) p2)) p3) (.str z t) (.ref s4.heap.objs.size)) (EP X pins σ Q) X.xe { s4 with heap := s4.heap.push { cls := .type "slice", data := .fields #[vl, vu, vs] } }
  cases pl
  cases pu
  cases ps with
  | int _ t2 =>
    refine PyProof.Rows.tail_any (ops := [.str z t, .ref s4.heap.objs.size]) (typeIs_str _ _ _) F.slot_str_getitem.lookup ?_ (by with_unfolding_all rfl)
    refine wpAny_getItem_str_slice (l := none) (u := none) (st := some (-1, t2)) ⟨_, Heap.get?_push_size _ rfl, rfl, rfl⟩ rfl ?_
    show Made.post (if ((-1 : Int) == 1 && (Builtin.Str.strSliceIndices none none (-1) z.length).length == z.length) = true then Made.val (.str z t)
      else Made.str ⟨((Builtin.Str.strSliceIndices none none (-1) z.length).filterMap (z.cps[·]?)).toArray⟩) (EP X pins σ Q) _
    rw [if_neg (by simp), sidx_rev, List.filterMap_reverse, show z.length = z.cps.size from rfl, PySem.W.krv_all]
    refine ⟨?_, .str _, H4, I5.tok _, ⟨_, rfl⟩, q⟩
    have h := revS_len z
    have h2 : (revS z).length ≤ sizeLine := by rw [h]; exact hz
    exact h2
def tOrE (t u : TE) : TE := fun σ H Q => t σ H Q ∨ u σ H Q
theorem pe_orE {e : Expr} {t u : TE} (h : PE X e t) (h' : PE X e u) : PE X e (tOrE t u) := ⟨fun pins s σ H Q I q => by
  rcases q with q | q
  · exact h.run pins s σ H Q I q
  · exact h'.run pins s σ H Q I q⟩
def tRev (K : PySem.W.Frag) (te : TE) : TE := tOrE (tRevL K te) (tRevS te)
theorem pe_rev {e : Expr} {te : TE} {k : Nat} {p1 p2 p3 pos : Pos} (he : PE X e te) : PE X (.Subscript e (.Slice none none (some (.UnaryOp .USub (.Constant (.int 1) k p1) p2)) p3) pos) (tRev X.K te) := pe_orE (pe_revL he) (pe_revS he)
end
def revD : PD → R PD
  | .list ds => .ok (.list ds.reverse)
  | .str z => if z.length ≤ szN then .ok (.str (revS z)) else .stuck
  | _ => .stuck
section
variable {C : Cn} {ta : TE} {fa : En → R PD}
theorem ed_rev (h : EdL C ta fa) : EdS C (tRev C.K ta) (d1 revD fa) := fun H0 ext reg en σ H rs Q w => by
  unfold d1 at w
  cases e : fa en with
  | exc c =>
    rw [e] at w
    exact .inl (h H0 ext reg en σ H rs _ (by rw [e]; exact w))
  | stuck => rw [e] at w; exact w.elim
  | ok x =>
    rw [e] at w
    simp only [R.bind_ok] at w
    cases x with
    | list ds =>
      refine .inl (h H0 ext reg en σ H rs _ ?_)
      rw [e]
      intro v H2 e2 hv
      obtain ⟨p, xs, rfl, hp, hr⟩ := hv.lst fun a z => .inl z
      exact ⟨p, xs, rfl, SqL.of hp, fun q hq => w _ _ (e2.trans (Xt.new hq)) (Rp.newL (fun a z => (rs.ex e2).there z) hq hr.reverse)⟩
    | str z =>
      refine .inr (h H0 ext reg en σ H rs _ ?_)
      rw [e]
      intro v H2 e2 hv
      unfold revD at w
      dsimp only at w
      split at w
      · rename_i hl
        exact ⟨z, hv.str, sz_of hl, w _ H2 e2 (.str _)⟩
      · exact w.elim
    | _ => exact w.elim
end

/-! ### constants of the module -/
structure KC (K : PySem.W.Frag) (mg : Str → Option Value) (x : Str) (v : V) : Prop where
  at_ : ∃ u, mg x = some u ∧ RelV v u
theorem KC.pe {X : Cx} {x : Str} {v : V} {pos : Pos} (k : KC X.K X.mg x v) (hg : Gl X x) (hd : (x == ("__debug__" : Str)) = false := by decide) : PE X (.Name x pos) (tC v) :=
  let ⟨_, h1, h2⟩ := k.at_; pe_glob hg h1 h2 hd

/-- a dict of the module whose keys are True and False -/
def leafB : List DictEntry → Bool
  | [] => true
  | e :: r => (match e.key with
    | .bool b => e.hash == hashInt (if b = true then 1 else 0)
    | _ => false) && leafB r
structure KBd (K : PySem.W.Frag) (p : Addr) (f : Bool → V) : Prop where
  at_ : ∃ es n, K.lookup p = some ⟨.type "dict", none, .dict es n, #[]⟩ ∧ leafB es.toList = true ∧ ∀ b, ∃ u, findBy Leaf.isOf es (.num (if b = true then 1 else 0)) = some u ∧ RelV (f b) u
theorem leafB_all : ∀ {es : List DictEntry}, leafB es = true → ∀ e ∈ es, ∃ k : Leaf, Leaf.isOf k e.key = true ∧ ∀ w, e.hash = k.key.hash w
  | e :: r, h, e', hm => by
    unfold leafB at h
    rw [Bool.and_eq_true] at h
    rcases List.mem_cons.mp hm with rfl | hm
    · have h1 := h.1
      split at h1
      · rename_i b hb
        exact ⟨.num (if b = true then 1 else 0), by rw [hb]; exact decide_eq_true rfl, fun w => beq_iff_eq.mp h1⟩
      · cases h1
    · exact leafB_all h.2 e' hm
def rIxB (K : PySem.W.Frag) : R2 := fun x y H Q => ∃ p b f, x = .ref p ∧ y = .bl b ∧ KBd K p f ∧ Q (f b) H
theorem ix_kb {X : Cx} : IxR X (rIxB X.K) := by
  intro value slice pins s σ H x y v u Q I rx ry h hs
  obtain ⟨p, b, f, rfl, rfl, ⟨es, n, hl, hk, hf⟩, q⟩ := h
  obtain rfl : v = Value.ref p := rx
  obtain rfl : u = Value.bool b := ry
  obtain ⟨u0, hu, ru⟩ := hf b
  have hm : s.heap.MapOf (leafKind X.prog X.w) p (fun k => findBy Leaf.isOf es k) :=
    ⟨_, es, n, I.kIn _ _ hl, ⟨rfl, rfl, rfl⟩, rfl, fun e he => by
      obtain ⟨k, h1, h2⟩ := leafB_all hk e (Array.mem_toList_iff.mpr he)
      exact ⟨k, h1, h2 X.w⟩, fun _ => rfl⟩
  exact PyProof.Rows.tail_any hm.typeIs slot_dict_getitem.lookup (wpAny_getItem_of (knd := leafKind X.prog X.w) (k := .num (if b = true then 1 else 0)) (by exact decide_eq_true rfl) hm hu ⟨f b, H, I.tok _, ru, q⟩) hs
/-- .. and what it holds stands for -/
structure KBm (K : PySem.W.Frag) (mg : Str → Option Value) (x : Str) (dt df : PD) : Prop where
  at_ : ∃ p f, mg x = some (.ref p) ∧ KBd K p f ∧ (∀ H, Rp K H (f true) dt) ∧ ∀ H, Rp K H (f false) df
def kvB (dt df : PD) : PD → R PD
  | .bool true => .ok dt
  | .bool false => .ok df
  | _ => .stuck
def tKB (K : PySem.W.Frag) (dt df : PD) (tb : TE) : TE := fun σ H Q => tb σ H fun y H2 => ∃ b, y = .bl b ∧ ∀ v, (∀ H, Rp K H v (if b = true then dt else df)) → Q v H2
theorem KBm.pe {X : Cx} {x : Str} {dt df : PD} {b : Expr} {tb : TE} {pos pos2 : Pos} (k : KBm X.K X.mg x dt df) (hg : Gl X x) (hb : PE X b tb) (hs : PlainIx b) (hd : (x == ("__debug__" : Str)) = false := by decide) :
    PE X (.Subscript (.Name x pos) b pos2) (tKB X.K dt df tb) := by
  obtain ⟨p, f, h1, h2, h3, h4⟩ := k.at_
  refine ⟨fun pins s σ H Q I q => PyProof.Rows.Subscript_ (ld_glob I hg h1 (thn (hb.run pins s σ H _ I q) fun u s2 ⟨y, H2, I2, ry, c, ey, q2⟩ => ?_) hd)⟩
  subst ey
  refine ix_kb _ _ pins s2 σ H2 (.ref p) (.bl c) (.ref p) u Q I2 rfl ry ⟨p, c, f, rfl, rfl, h2, q2 _ ?_⟩ (hs _ _)
  cases c with
  | true => exact h3
  | false => exact h4
section
variable {C : Cn} {tb : TE} {fb : En → R PD}
theorem ed_kb {dt df : PD} (h : EdL C tb fb) : EdS C (tKB C.K dt df tb) (d1 (kvB dt df) fb) := fun H0 ext reg en σ H rs Q w =>
  h.seq rs (W := WrS C (own ext reg) H Q) w (fun _ q => q) (fun q => q) fun x v H2 e2 r2 h2 w2 => by
    cases x with
    | bool b => 
      refine ⟨b, h2.bl, fun v hv => ?_⟩
      cases b with
      | true => exact w2 v H2 e2 (hv _)
      | false => exact w2 v H2 e2 (hv _)
    | _ => exact w2.elim
end
end Dn

namespace Dn
open PySem L2
variable [Tabl]

/-! ### the script -/
def dLenR (i : Nat) : En → R PD := fun en => match en[i]? with
  | some (.rl ds) => .ok (.int ds.length)
  | _ => .stuck
section
variable {C : Cn}
theorem ed_lenR (i : Nat) : EdS C (tCB (rLenA C.K) (tCons (tVar i) tNil)) (dLenR i) := fun H0 ext reg en σ H rs Q w => by
  unfold dLenR at w
  cases h : en[i]? with
  | none => rw [h] at w; exact w.elim
  | some sv =>
    rw [h] at w
    obtain ⟨v, h1, h2⟩ := rs.sl i sv h
    cases sv with
    | rl ds =>
      obtain ⟨p, xs, rfl, h3, h4⟩ := h2
      exact ⟨_, h1, .ref p, _, rfl, .inl ⟨xs, hid_ex.sql h3, rfl⟩, by rw [h4.length]; exact w _ H (Xt.refl H) (.int _)⟩
    | _ => exact w.elim
end
def cellF (ns : List Int) (k : Int) : Int := if ns = [] then k * 7919 else ns.getD (k % (ns.length : Int)).toNat 0 + k / (ns.length : Int) * 104729
def spCell (K : PySem.W.Frag) : Sp := fun vs H Q _ => ∃ (a : Addr) (ns : List Int) (k : Int), vs = [.ref a, .int k] ∧ SqL K H a (ns.map V.int) ∧ ns.length ≤ 63 ∧ 0 ≤ k ∧ k < 2 ^ 32 ∧ ∀ H', Xt H H' → Q (.int (cellF ns k)) H'
def dCell (i : Nat) (fk : En → R PD) : En → R PD := fun en => match en[i]? with
  | some (.rl ds) => (fk en).bind fun k => match asInts ds, k with
    | some ns, .int k => if ns.length ≤ 63 ∧ 0 ≤ k ∧ k < 2 ^ 32 then .ok (.int (cellF ns k)) else .stuck
    | _, _ => .stuck
  | _ => .stuck
section
variable {C : Cn}
theorem ed_cell (i : Nat) {tk : TE} {fk : En → R PD} (hk : EdL C tk fk) : EdS C (tCall (spCell C.K) [] C.E (tCons (tVar i) (tCons tk tNil))) (dCell i fk) := fun H0 ext reg en σ H rs Q w => by
  unfold dCell at w
  cases h : en[i]? with
  | none => rw [h] at w; exact w.elim
  | some sv =>
    rw [h] at w
    obtain ⟨v, h1, h2⟩ := rs.sl i sv h
    cases sv with
    | rl ds =>
      obtain ⟨p, xs, rfl, h3, h4⟩ := h2
      refine ⟨_, h1, hk.seq rs (W := WrS C (own ext reg) H Q) w (fun _ q => q) (fun q => q) fun x v H2 e2 r2 hv w2 => ?_⟩
      split at w2
      · rename_i ns k hn
        split at w2
        · rename_i hl
          obtain rfl := hv.int
          rw [h4.asInts hn] at h3
          exact ⟨p, ns, k, rfl, hid_ex.sql (e2.toEx.hid.sql h3), hl.1, hl.2.1, hl.2.2, fun H' e' => w2 _ H' (e2.trans e') (.int _)⟩
        · exact w2.elim
      · exact w2.elim
    | _ => exact w.elim
end
section
variable {P : Program} {w : World} {K : PySem.W.Frag} {mg : Str → Option Value} {base : Heap}
/-- how _law_cell reads -/
def tCellB (K : PySem.W.Frag) : TS :=
  tSeq (tIfS (tTest (tOp (rEqA K) (tVar 0) (tLst tNil))) (tRet (tOp rMulD (tVar 1) (tC (.int 7919)))) tNext)
    (tRet (tOp rAddD (tOp (rIx K) (tVar 0) (tOp (rI (fun _ j => 0 < j) fun i j => .int (i % j)) (tVar 1) (tCB (rLenA K) (tCons (tVar 0) tNil))))
      (tOp rMulD (tOp (rI CDivW fun i j => .int (i / j)) (tVar 1) (tCB (rLenA K) (tCons (tVar 0) tNil))) (tC (.int 104729)))))
theorem dp_ints {K : PySem.W.Frag} {H : Hp} : ∀ (ns : List Int), DpAll K H (ns.map V.int) (ns.map PyData.int)
  | [] => .nil
  | n :: r => .cons (.int n) (dp_ints r)
theorem shaped_ints (ns : List Int) : SeqAt.shaped (.list (ns.map PyData.int)) = true := by
  have h1 : ∀ l : List Int, PyData.canLayAll0 (l.map PyData.int) = true := fun l => by
    induction l with
    | nil => rfl
    | cons a r ih => show (PyData.canLay0 (.int a) && PyData.canLayAll0 (r.map PyData.int)) = true; rw [ih]; rfl
  have h2 : ∀ l : List Int, PyData.depthAll (l.map PyData.int) = 0 := fun l => by
    induction l with
    | nil => rfl
    | cons a r ih => show max (PyData.depth (.int a)) (PyData.depthAll (r.map PyData.int)) = 0; rw [ih]; rfl
  unfold SeqAt.shaped
  rw [Bool.and_eq_true]
  refine ⟨?_, decide_eq_true ?_⟩
  · show PyData.canLayAll0 _ = true
    exact h1 ns
  · show PyData.depthAll _ + 1 ≤ 64
    rw [h2]
    decide
theorem cell_reads {H : Hp} {Q : VK} {E : XK} {vs : List V} {nx : L2.St → Hp → Prop} (h : spCell K vs H Q E) : tCellB K { nx := nx, rt := Q } (L2.start ["script", "k"] vs) H := by
  obtain ⟨a, ns, k, rfl, hs, hl, h0, h1, q⟩ := h
  refine ⟨.ref a, rfl, Nat.zero_le _, fun p hp => ?_⟩
  have e1 : Xt H (upd H p (.lst [])) := Xt.new hp
  refine .inr ⟨.list (ns.map PyData.int), .list [], .lst (e1.toEx.sql hs) (dp_ints ns), .lst (SqL.of upd_same) .nil, shaped_ints ns, by decide, _, rfl, ?_⟩
  cases ns with
  | nil =>
    have e2 : PyData.eqv (.list (([] : List Int).map PyData.int)) (.list []) = true := rfl
    rw [e2, if_pos rfl]
    exact ⟨_, rfl, .inl ⟨k, 7919, rfl, rfl, .inr ⟨by decide, by decide⟩, q _ e1⟩⟩
  | cons n r =>
    have e2 : PyData.eqv (.list ((n :: r).map PyData.int)) (.list []) = false := rfl
    rw [e2, if_neg (by decide)]
    have hs1 := e1.toEx.sql hs
    have hpos : (0 : Int) < ((n :: r).map V.int).length := by
      rw [List.length_map, List.length_cons]
      omega
    have hlen : ((n :: r).map V.int).length = (n :: r).length := List.length_map ..
    have hm := Int.emod_nonneg k (show ((n :: r).length : Int) ≠ 0 by rw [List.length_cons]; omega)
    have hm2 := Int.emod_lt_of_pos k (show (0 : Int) < ((n :: r).length : Int) by rw [List.length_cons]; omega)
    have hi : (k % ((n :: r).length : Int)).toNat < (n :: r).length := by omega
    refine ⟨.ref a, rfl, _, rfl, _, rfl, .ref a, _, rfl, .inl ⟨_, hs1, rfl⟩, k, _, rfl, rfl, hpos, .inl ⟨a, _, _, .int ((n :: r).getD (k % ((n :: r).length : Int)).toNat 0), rfl, rfl, hs1, ?_, _, rfl, _, rfl, .ref a, _, rfl, .inl ⟨_, hs1, rfl⟩, k, _, rfl, rfl, ⟨hpos, ?_⟩, ?_⟩⟩
    · rw [hlen]
      unfold atI ixN
      rw [List.length_map, if_pos hm, if_pos hm2]
      show ((n :: r).map V.int)[_]? = _
      rw [List.getElem?_map, List.getElem?_eq_getElem hi, List.getD_eq_getElem?_getD, List.getElem?_eq_getElem hi]
      rfl
    · rw [hlen, Int.natAbs_natCast]
      have : (n :: r).length.log2 ≤ 63 := Nat.le_trans (Nat.log2_le_self _) hl
      omega
    · refine .inl ⟨_, 104729, rfl, rfl, .inr ⟨by decide, by decide⟩, .inl ⟨_, _, rfl, rfl, ?_⟩⟩
      have := q _ e1
      unfold cellF at this
      rw [if_neg (List.cons_ne_nil _ _)] at this
      rw [hlen]
      exact this
/-! ### the law -/
def runL (n : Nat) (f : En → R Fl) (ns : List Int) : R PD := (f (SV.rl (ns.map PyData.int) :: List.replicate (n - 1) SV.no)).bind fun fl => match fl with
  | .nx _ => .ok .none
  | .rt d => .ok d
  | _ => .stuck
def spLaw (K : PySem.W.Frag) : Sp := fun vs H Q _ => ∃ (a : Addr) (ns : List Int), vs = [.ref a] ∧ SqL K H a (ns.map V.int) ∧ ns.length ≤ 63 ∧ LamX.Tabs Tabl.T H ∧ ∀ H', Q (.bl true) H'
theorem rpa_ints {K : PySem.W.Frag} {H : Hp} : ∀ (ns : List Int), RpA K H (ns.map V.int) (ns.map PyData.int)
  | [] => .nil
  | n :: r => .cons (.int n) (rpa_ints r)
theorem hid_none {H : Hp} : hid H (own (fun _ => False) fun _ _ => False) = H := by
  funext a
  exact hid_at fun z => by
    rcases z with z | ⟨_, z⟩
    · exact z
    · exact z
theorem RS.startL {K : PySem.W.Frag} {H : Hp} {a : Addr} {ns : List Int} {n : Nat} {N : List Str} (tb : LamX.Tabs Tabl.T H) (hn : N.length = n + 1) (hs : SqL K H a (ns.map V.int)) : RS K H (fun _ => False) (fun _ _ => False) (SV.rl (ns.map PyData.int) :: List.replicate n SV.no) (L2.start N [.ref a]) H := by
  refine ⟨Ex.refl H, tb, fun _ h => h.elim, fun _ _ h => h.elim, fun _ _ _ h => h.elim, fun _ _ h => h.elim, ?_, fun i sv e => ?_⟩
  · unfold L2.start
    simp [hn]
  · rw [hid_none]
    unfold L2.start
    cases i with
    | zero =>
      cases e
      exact ⟨_, rfl, a, _, rfl, hs, rpa_ints ns⟩
    | succ i =>
      rw [List.getElem?_cons_succ, List.getElem?_replicate] at e
      split at e
      · rename_i hl
        cases e
        refine ⟨none, ?_, trivial⟩
        show (List.replicate (N.length - 1) none)[i]? = _
        rw [List.getElem?_replicate, if_pos (by omega)]
      · cases e
theorem law_ok {st : Stmt} {f : Addr} {fd : FuncData} {N : List Str} {k : Nat} {cl : Str → Addr} {body : En → R Fl} (F : Fun K "law" "law" st f fd) (S : FnScope N ["script"] (defScope st))
    (hb : ∀ (cdv : Value) (A : Around) (outer : List Env) (s : Shared) (H : Hp) (E : XK), Room k (A.deeper (PyProof.Rows.envOfC "law" (defScope st) s.heap.objs.size f cdv)) →
      ∃ t, PSs (cxOf (L2N.CX P w) P w K mg base N "law" (defScope st) f cdv A outer s H E) (defBody st) t ∧ Es ⟨K, E, cl⟩ t body)
    (hN : 0 < N.length) (hd : ∀ ns : List Int, ns.length ≤ 63 → runL N.length body ns = .ok (.bool true)) :
    FnOk P w K mg base (L2N.CX P w) (k + 1) f fd ["script"] (spLaw K) := by
  refine okN F S (fun vs H Q E ⟨_, _, h, _⟩ => by rw [h]; rfl) fun cdv A outer s H vs Q E hr h => ?_
  obtain ⟨t, ht, hs⟩ := hb cdv A outer s H E hr
  refine ⟨t, ht, ?_⟩
  obtain ⟨a, ns, rfl, hq, hl, htb, q⟩ := h
  have hN2 : N.length = (N.length - 1) + 1 := by omega
  refine hs H (fun _ => False) (fun _ _ => False) _ _ H (RS.startL htb hN2 hq) _ ?_
  have hd := hd ns hl
  unfold runL at hd
  revert hd
  generalize body (SV.rl (ns.map PyData.int) :: List.replicate (N.length - 1) SV.no) = r
  intro hd
  cases r with
  | ok fl =>
    cases fl with
    | nx e => cases hd
    | rt d =>
      cases hd
      intro v H2 e2 _ h2
      cases h2
      exact q H2
    | bk e => cases hd
    | ct e => cases hd
    | rm d e => cases hd
    | rn d e => cases hd
    | xm d e => cases hd
    | pr i d e => cases hd
  | exc c => cases hd
  | stuck => cases hd
theorem cx_false {P : Program} {w : World} {H : Hp} {s s' : Shared} {e : Value} (h : L2N.CX P w [] H s (fun _ _ _ => False) e s') : False := by
  obtain ⟨_, _, _, _, _, _, _, _, _, _, _, _, z⟩ := h
  exact z
end
end Dn

/-! The rules with the written part named: a comprehension's block changes the context, not it. -/
namespace Dn
open PySem L2
variable [Tabl]
section
variable {X : Cx} (K : PySem.W.Frag) (h : X.K = K)
theorem kx_ix (h : X.K = K) (hu : X.A.units + 64 < cLine) : IxR X (rIxA K) := by subst h; exact ix_A hu
theorem kx_eq (h : X.K = K) (hu : X.A.units + 64 < cLine) : OpR X (compareOp .Eq) (rEqA K) := by subst h; exact op_eqA hu
theorem kx_ne (h : X.K = K) (hu : X.A.units + 64 < cLine) : OpR X (compareOp .NotEq) (rNeA K) := by subst h; exact op_neA hu
theorem kx_sl (h : X.K = K) : SlR X (rSlD K) := by subst h; exact sl_D
theorem kx_len (h : X.K = K) : CallR X (.builtin "len") (rLenA K) := by subst h; exact c_len
theorem kx_sum (h : X.K = K) (hc : X.calm = true) : CallR X (.builtin "sum") (rSum K) := by subst h; exact cr_sum hc
theorem kx_min (h : X.K = K) (hc : X.calm = true) : CallR X (.builtin "min") (rMinA K) := by subst h; exact c_min hc
theorem kx_any (h : X.K = K) (hc : X.calm = true) : CallR X (.builtin "any") (rAny K) := by subst h; exact cr_any hc
theorem kx_all (h : X.K = K) (hc : X.calm = true) : CallR X (.builtin "all") (rAll K) := by subst h; exact cr_all hc
theorem kx_isi (h : X.K = K) : CallR X (.builtin "isinstance") (rIsi K) := by subst h; exact call_isi
theorem kpi_list {tg l : Expr} {tl : TE} (h : X.K = K) (hl : PE X l tl) : PI X tg l (iList K tl) := by subst h; exact pi_list hl
theorem kpi_tup {tg l : Expr} {tl : TE} (h : X.K = K) (hl : PE X l tl) : PI X tg l (iTup K tl) := by subst h; exact pi_tup hl
theorem kpi_zip {e e2 : Expr} {ta : TA} {p pos tpos : Pos} {elts : List Expr} {kk : Nat} (h : X.K = K) (hg : Gl X "zip") (hm : X.mg "zip" = none) (ha : PA X [e, e2] ta)
    (hs : starEach [e, e2] X.env = (false, eval e X.env) :: starEach [e2] X.env := by rfl) (hs2 : (backTo pos (starEach [e2] X.env)).any (·.1) = false := by rfl) :
    PI X (.Tuple elts kk tpos) (.Call (.Name "zip" p) [e, e2] [] pos) (iZip K ta) := by subst h; exact pi_zip hg hm ha hs hs2
theorem kpi_enum {e : Expr} {ta : TA} {p pos tpos : Pos} {elts : List Expr} {kk : Nat} (h : X.K = K) (hg : Gl X "enumerate") (hm : X.mg "enumerate" = none) (ha : PA X [e] ta) (hs : starEach [e] X.env = [(false, eval e X.env)] := by rfl) :
    PI X (.Tuple elts kk tpos) (.Call (.Name "enumerate" p) [e] [] pos) (iEnum K ta) := by subst h; exact pi_enum hg hm ha hs
theorem kpg_tup {es : List Expr} {k : Nat} {pos : Pos} {t : TGs} {n : Nat} (h : X.K = K) (hc : X.calm = true) (hs : PGs X es t)
    (hn : (assignEach es X.env).length = n := by rfl) (hst : (assignEach es X.env).findIdx? (·.1) = none := by rfl) : PG X (.Tuple es k pos) (gTup K n t) := by subst h; exact pg_tup hc hs hn hst
theorem kpe_rev {e : Expr} {te : TE} {k : Nat} {p1 p2 p3 pos : Pos} (h : X.K = K) (he : PE X e te) : PE X (.Subscript e (.Slice none none (some (.UnaryOp .USub (.Constant (.int 1) k p1) p2)) p3) pos) (tRev K te) := by subst h; exact pe_rev he
theorem kpe_kb {mg : Str → Option Value} {x : Str} {dt df : PD} {b : Expr} {tb : TE} {pos pos2 : Pos} (k : KBm K mg x dt df) (h : X.K = K) (hm : X.mg = mg) (hg : Gl X x) (hb : PE X b tb) (hs : PlainIx b) (hd : (x == ("__debug__" : Str)) = false := by decide) :
    PE X (.Subscript (.Name x pos) b pos2) (tKB K dt df tb) := by subst h; subst hm; exact k.pe hg hb hs hd
theorem kpe_c {mg : Str → Option Value} {x : Str} {v : V} {pos : Pos} (k : KC K mg x v) (h : X.mg = mg) (hg : Gl X x) (hd : (x == ("__debug__" : Str)) = false := by decide) : PE X (.Name x pos) (tC v) := by
  subst h
  obtain ⟨_, h1, h2⟩ := k.at_
  exact pe_glob hg h1 h2 hd
end
end Dn

/-! Dicts: locked while they are walked; items; new ones. -/
namespace Dn
open PySem L2
variable [Tabl]

/-! ### locks -/
theorem hid_upd_at {H : Hp} {Z : AS} {p : Addr} {o : HO} (h : ¬ Z p) : hid (upd H p o) Z = upd (hid H Z) p o := by
  funext a
  by_cases ha : a = p
  · rw [ha, hid_at h, upd_same, upd_same]
  · rw [upd_ne ha]
    by_cases z : Z a
    · rw [hid_no z, hid_no z]
    · rw [hid_at z, hid_at z, upd_ne ha]
theorem Rd.ne {H H' : Hp} {a p : Addr} {u : HO} (h : Rd H a u) (n : a ≠ p) (e : ∀ b, b ≠ p → H' b = H b) : Rd H' a u := by
  rcases h with h | ⟨o, h⟩
  · exact .inl (by rw [e a n]; exact h)
  · exact .inr ⟨o, by rw [e a n]; exact h⟩
section
variable {K : PySem.W.Frag} {H : Hp} {p : Addr} {o : Obj} {kvs : List (Key × V)}
theorem lk_le (h : H p = some (.dK kvs)) : LeR K H (upd H p (.frz o (.dK kvs))) := by
  have e : ∀ b, b ≠ p → upd H p (.frz o (.dK kvs)) b = H b := fun b n => upd_ne n
  refine ⟨fun a xs q => ?_, fun a xs q => ?_, fun a ks q => ?_⟩
  · rw [e a fun z => by rw [z, h] at q; cases q]
    exact q
  · rcases q with q | q
    · refine .inl (Rd.ne q (fun z => ?_) e)
      rw [z] at q
      rcases q with q | ⟨_, q⟩ <;> rw [h] at q <;> cases q
    · exact .inr q
  · by_cases z : a = p
    · rw [z] at q ⊢
      rcases q with q | ⟨_, q⟩
      · rw [h] at q
        cases q
        exact .inr ⟨o, upd_same⟩
      · rw [h] at q
        cases q
    · exact Rd.ne q z e
theorem lk_sql (h : H p = some (.dK kvs)) {a : Addr} {xs : List V} (q : SqL K H a xs) : SqL K (upd H p (.frz o (.dK kvs))) a xs := by
  rcases q with q | q
  · refine .inl (Rd.ne q (fun z => ?_) fun b n => upd_ne n)
    rw [z] at q
    rcases q with q | ⟨_, q⟩ <;> rw [h] at q <;> cases q
  · exact .inr q
theorem unlk_le (h : H p = some (.frz o (.dK kvs))) : LeR K H (upd H p (.dK kvs)) := by
  have e : ∀ b, b ≠ p → upd H p (.dK kvs) b = H b := fun b n => upd_ne n
  refine ⟨fun a xs q => ?_, fun a xs q => ?_, fun a ks q => ?_⟩
  · rw [e a fun z => by rw [z, h] at q; cases q]
    exact q
  · rcases q with q | q
    · refine .inl (Rd.ne q (fun z => ?_) e)
      rw [z] at q
      rcases q with q | ⟨_, q⟩ <;> rw [h] at q <;> cases q
    · exact .inr q
  · by_cases z : a = p
    · rw [z] at q ⊢
      rcases q with q | ⟨_, q⟩
      · rw [h] at q
        cases q
      · rw [h] at q
        cases q
        exact .inl upd_same
    · exact Rd.ne q z e
theorem unlk_sql (h : H p = some (.frz o (.dK kvs))) {a : Addr} {xs : List V} (q : SqL K H a xs) : SqL K (upd H p (.dK kvs)) a xs := by
  rcases q with q | q
  · refine .inl (Rd.ne q (fun z => ?_) fun b n => upd_ne n)
    rw [z] at q
    rcases q with q | ⟨_, q⟩ <;> rw [h] at q <;> cases q
  · exact .inr q
end
theorem SlotOk.monoL {K : PySem.W.Frag} {Hs Hs' H H' : Hp} {v : Option V} {rg : AS} (e : LeR K Hs Hs') (el : ∀ p xs, SqL K Hs p xs → SqL K Hs' p xs) (k : ∀ p o, rg p → H p = some o → isTb o = false → H' p = some o) (ei : ∀ p c dx vs, Hs p = some (.ins c dx vs) → Hs' p = some (.ins c dx vs)) (eb : ∀ p o xs, Hs p = some (.frz o (BdO p xs)) → Hs' p = some (.frz o (BdO p xs))) :
    ∀ {sv : SV}, (∀ es p o kvs, sv = .fz es → v = some (.ref p) → Hs p = some (.frz o (.dK kvs)) → Hs' p = some (.frz o (.dK kvs))) → SlotOk K Hs H v rg sv → SlotOk K Hs' H' v rg sv
  | .no, _, _ => trivial
  | .sh d, _, ⟨x, h1, h2⟩ => ⟨x, h1, h2.mono e⟩
  | .ol ds, _, ⟨p, xs, h1, h2, h3, h4⟩ => ⟨p, xs, h1, h2, k _ _ h2 h3 rfl, h4.mono e⟩
  | .od es, _, ⟨p, xs, h1, h2, h3, h4⟩ => ⟨p, xs, h1, h2, k _ _ h2 h3 rfl, h4.mono e⟩
  | .rl ds, _, ⟨p, xs, h1, h2, h3⟩ => ⟨p, xs, h1, el _ _ h2, h3.mono e⟩
  | .fz ds, f, ⟨p, o, xs, h1, h2, h3⟩ => ⟨p, o, xs, h1, f ds p o xs rfl h1 h2, h3.mono e⟩
  | .xr _, _, h => h
  | .ob _ _ _ _, _, ⟨p, dx, vs, L, h1, h2, h3, h4, h5, h6⟩ => ⟨p, dx, vs, L, h1, h2, h3, k _ _ h3 h4 rfl, h5, h6.mono e k⟩
  | .vw _ _ _, _, ⟨p, dx, vs, h1, h2, h3, h4⟩ => ⟨p, dx, vs, h1, ei _ _ _ _ h2, h3, h4.mono e⟩
  | .bd _, _, ⟨p, xs, h1, h2, h3, h4⟩ => ⟨p, xs, h1, h2, k _ _ h2 h3 rfl, h4.mono e⟩
  | .bz _, _, ⟨p, o, xs, h1, h2, h3⟩ => ⟨p, o, xs, h1, eb _ _ _ h2, h3.mono e⟩
section
variable {K : PySem.W.Frag} {H0 H : Hp} {ext : AS} {reg : Nat → AS} {en : En} {σ : L2.St}
/-- the dict of a slot stands open, or is locked by a caller -/
theorem RS.dict (r : RS K H0 ext reg en σ H) {i : Nat} {es : List (PD × PD)} (h : en[i]? = some (.sh (.dict es))) :
    ∃ p kvs, σ[i]? = some (some (.ref p)) ∧ ¬ own ext reg p ∧ RpK K (hid H (own ext reg)) kvs es ∧ (H p = some (.dK kvs) ∨ ∃ o, H p = some (.frz o (.dK kvs))) := by
  obtain ⟨v, h1, x, rfl, h2⟩ := r.sl i _ h
  cases h2 with
  | dct h3 h4 =>
    rename_i p kvs
    rcases h3 with h3 | ⟨o, h3⟩
    · obtain ⟨z, q⟩ := hid_some h3
      exact ⟨p, kvs, h1, z, h4, .inl q⟩
    · obtain ⟨z, q⟩ := hid_some h3
      exact ⟨p, kvs, h1, z, h4, .inr ⟨o, q⟩⟩
theorem RS.fzset (r : RS K H0 ext reg en σ H) {i : Nat} {es : List (PD × PD)} {p : Addr} {o : Obj} {kvs : List (Key × V)} (h : en[i]? = some (.sh (.dict es))) (hs : σ[i]? = some (some (.ref p))) (hz : ¬ own ext reg p) (hr : RpK K (hid H (own ext reg)) kvs es) (hp : H p = some (.frz o (.dK kvs))) :
    RS K H0 ext reg (en.set i (.fz es)) σ H :=
  ⟨r.le, r.tb, r.exd, r.rg, r.dj, fun j a q => by
    obtain ⟨sv, h1, h2⟩ := r.ro j a q
    have hj : i ≠ j := fun e => by
      subst e
      rw [h] at h1
      cases h1
      cases h2
    exact ⟨sv, by rw [List.getElem?_set_ne hj]; exact h1, h2⟩, by simp [r.len], fun j sv e => by
    by_cases hj : i = j
    · subst hj
      rw [List.getElem?_set_self (List.getElem?_eq_some_iff.mp h).1] at e
      cases e
      exact ⟨_, hs, p, o, kvs, rfl, by rw [hid_at hz]; exact hp, hr⟩
    · rw [List.getElem?_set_ne hj] at e
      exact r.sl j sv e⟩
theorem RS.lock (r : RS K H0 ext reg en σ H) {i : Nat} {es : List (PD × PD)} {p : Addr} {kvs : List (Key × V)} (h : en[i]? = some (.sh (.dict es))) (hs : σ[i]? = some (some (.ref p))) (hz : ¬ own ext reg p) (hr : RpK K (hid H (own ext reg)) kvs es) (hp : H p = some (.dK kvs)) (o : Obj) :
    RS K (upd (hid H fun a => ∃ i, reg i a) p (.frz o (.dK kvs))) ext reg (en.set i (.fz es)) σ (upd H p (.frz o (.dK kvs))) := by
  have hs0 : hid H (own ext reg) p = some (.dK kvs) := by rw [hid_at hz]; exact hp
  have same : hid (upd H p (.frz o (.dK kvs))) (own ext reg) = upd (hid H (own ext reg)) p (.frz o (.dK kvs)) := hid_upd_at hz
  have r2 : RS K (upd (hid H fun a => ∃ i, reg i a) p (.frz o (.dK kvs))) ext reg en σ (upd H p (.frz o (.dK kvs))) := by
    have q := r.lift
    refine ⟨⟨fun a u ha n => ?_⟩, tabs_wr r.tb hp rfl fun a ha => upd_ne ha, fun a ha => ?_, fun j a ha => ?_, r.dj, r.ro, r.len, fun j sv e => ?_⟩
    · by_cases z : a = p
      · rw [z, upd_same] at ha ⊢
        exact ha
      · rw [upd_ne z] at ha ⊢
        exact q.le.k a u ha n
    · obtain ⟨u, hu, t⟩ := q.exd a ha
      by_cases z : a = p
      · exact ⟨_, by rw [z, upd_same], rfl⟩
      · exact ⟨u, by rw [upd_ne z]; exact hu, t⟩
    · have z : a ≠ p := fun z => hz (.inr ⟨j, by rw [← z]; exact ha⟩)
      obtain ⟨q1, u, q2, t⟩ := q.rg j a ha
      exact ⟨fun o e => q1 o (by rw [upd_ne z] at e; exact e), u, by rw [upd_ne z]; exact q2, t⟩
    · obtain ⟨v, h1, h2⟩ := r.sl j sv e
      rw [same]
      refine ⟨v, h1, h2.monoL (lk_le hs0) (fun _ _ q => lk_sql hs0 q) (fun a u ha q _ => ?_) (fun a c dx vs q => by rw [upd_ne fun z => by rw [z, hs0] at q; cases q]; exact q) (fun a o xs q => by rw [upd_ne fun z => by unfold BdO at q; rw [z, hs0] at q; cases q]; exact q) fun _ a o' ks _ _ q => ?_⟩
      · rw [upd_ne fun z => hz (.inr ⟨j, by rw [← z]; exact ha⟩)]
        exact q
      · rw [upd_ne fun z => by rw [z, hs0] at q; cases q]
        exact q
  exact r2.fzset h hs hz (by rw [same]; exact hr.mono (lk_le hs0)) upd_same
end
def tLkE (t : TE) : TE := tOrE (tLockE t) t
theorem pe_lk {X : Cx} {e : Expr} {t : TE} (h : PE X e t) : PE X e (tLkE t) := pe_orE (pe_lock h) h
def dLk {β : Type} (i : Nat) (f : En → R β) : En → R β := fun en => match en[i]? with
  | some (.sh (.dict es)) => (f (en.set i (.fz es))).noexc
  | some (.fz _) => (f en).noexc
  | _ => .stuck
section
variable {C : Cn} {te : TE}
theorem xt_unlock {H H2 : Hp} {p : Addr} {o : Obj} {kvs : List (Key × V)} (hp : H p = some (.dK kvs)) (e : Xt (upd H p (.frz o (.dK kvs))) H2) : H2 p = some (.frz o (.dK kvs)) ∧ Xt H (upd H2 p (.dK kvs)) := by
  have h2 : H2 p = some (.frz o (.dK kvs)) := e.k _ _ upd_same rfl
  refine ⟨h2, ⟨⟨fun a u ha n => ?_⟩, fun t => tabs_wr (e.t (tabs_wr t hp rfl fun a ha => upd_ne ha)) h2 rfl fun a ha => upd_ne ha⟩⟩
  · by_cases z : a = p
    · rw [z, upd_same, ← hp, ← z]
      exact ha
    · rw [upd_ne z]
      exact e.k a u (by rw [upd_ne z]; exact ha) n
theorem WrF.nox {Z : AS} {H : Hp} {Q : VK} {r : R (List PD)} (w : WrF C Z H Q r.noexc) : WrF C Z H Q r := by
  cases r with
  | ok d => exact w
  | exc c => exact w.elim
  | stuck => exact w
theorem WS.nox {H0 : Hp} {ext : AS} {D : Ends} {r : R Fl} (w : WS C H0 ext D r.noexc) : WS C H0 ext D r := by
  cases r with
  | ok d => exact w
  | exc c => exact w.elim
  | stuck => exact w
theorem ef_lk {f : En → R (List PD)} (i : Nat) (h : EdF C te f) : EdF C (tLkE te) (dLk i f) := fun H0 ext reg en σ H rs Q w => by
  unfold dLk at w
  cases e : en[i]? with
  | none => rw [e] at w; exact w.elim
  | some sv =>
    rw [e] at w
    cases sv with
    | fz es => exact .inr (h H0 ext reg en σ H rs Q (WrF.nox w))
    | sh d =>
      cases d with
      | dict es =>
        obtain ⟨p, kvs, h1, hz, hr, hp⟩ := rs.dict e
        dsimp only at w
        rcases hp with hp | ⟨o, hp⟩
        · refine .inl ⟨p, .dK kvs, hp, trivial, fun o => h _ ext reg _ σ _ (rs.lock e h1 hz hr hp o) _ ?_⟩
          generalize f (en.set i (.fz es)) = x at w ⊢
          cases x with
          | ok ds =>
            intro q xs H2 e2 hq hx
            obtain ⟨a1, a2⟩ := xt_unlock hp e2
            have qp : q ≠ p := fun z => by rw [z, a1] at hq; cases hq
            have hz2 : hid (upd H2 p (.dK kvs)) (own ext reg) = upd (hid H2 (own ext reg)) p (.dK kvs) := hid_upd_at hz
            refine ⟨by rw [upd_ne fun z => qp z.symm]; exact a1, ?_⟩
            have := w q xs (upd H2 p (.dK kvs)) a2 (by rw [upd_ne qp]; exact hq) (by rw [hz2]; exact hx.mono (unlk_le (by rw [hid_at hz]; exact a1)))
            have comm : upd (upd H2 q (.lst xs)) p (.dK kvs) = upd (upd H2 p (.dK kvs)) q (.lst xs) := by
              funext a
              by_cases ha : a = p
              · rw [ha, upd_same, upd_ne fun z => qp z.symm, upd_same]
              · by_cases hb : a = q
                · rw [hb, upd_ne qp, upd_same, upd_same]
                · rw [upd_ne ha, upd_ne hb, upd_ne hb, upd_ne ha]
            rw [comm]
            exact this
          | exc c => exact w.elim
          | stuck => exact w.elim
        · exact .inr (h H0 ext reg _ σ H (rs.fzset e h1 hz hr hp) Q (WrF.nox w))
      | _ => exact w.elim
    | _ => exact w.elim
/-! ### a statement while the dict is locked -/
def isFz : SV → Bool
  | .fz _ => true
  | _ => false
/-- the slot i open again; no other is locked -/
def unFz (i : Nat) (en : En) : R En := match en[i]? with
  | some (.fz es) => if (en.set i (.sh (.dict es))).all (fun sv => !isFz sv) = true then .ok (en.set i (.sh (.dict es))) else .stuck
  | _ => .stuck
def unFl (i : Nat) : Fl → R Fl
  | .nx e => (unFz i e).bind fun e => .ok (.nx e)
  | .rt d => .ok (.rt d)
  | .bk e => (unFz i e).bind fun e => .ok (.bk e)
  | .ct e => (unFz i e).bind fun e => .ok (.ct e)
  | .rm _ _ => .stuck
  | .rn _ _ => .stuck
  | .xm _ _ => .stuck
  | .pr _ _ _ => .stuck
def sLk (i : Nat) (f : En → R Fl) : En → R Fl := fun en => match en[i]? with
  | some (.sh (.dict es)) => (f (en.set i (.fz es))).noexc.bind (unFl i)
  | _ => .stuck
def tLk (t : TS) : TS := fun D σ H => tLock t D σ H ∨ t D σ H
theorem ps_lk {X : Cx} {s : Stmt} {t : TS} (h : PS X s t) : PS X s (tLk t) := ⟨fun pins s σ H D I q => by
  rcases q with q | q
  · exact (ps_lock h).run pins s σ H D I q
  · exact h.run pins s σ H D I q⟩
section
variable {K : PySem.W.Frag} {H0 H G : Hp} {ext : AS} {reg : Nat → AS} {en en2 : En} {σ : L2.St}
/-- the slot reads as data again; the heap as it is -/
theorem RS.unfz (r : RS K H0 ext reg en σ H) {i : Nat} (h : unFz i en = .ok en2) : RS K H0 ext reg en2 σ H := by
  unfold unFz at h
  cases e : en[i]? with
  | none => rw [e] at h; cases h
  | some sv =>
    rw [e] at h
    cases sv with
    | fz es =>
      dsimp only at h
      split at h
      · cases h
        refine ⟨r.le, r.tb, r.exd, r.rg, r.dj, fun j a q => ?_, by simp [r.len], fun j sv q => ?_⟩
        · obtain ⟨sv, h1, h2⟩ := r.ro j a q
          have hj : i ≠ j := fun z => by
            subst z
            rw [e] at h1
            cases h1
            cases h2
          exact ⟨sv, by rw [List.getElem?_set_ne hj]; exact h1, h2⟩
        · by_cases hj : i = j
          · subst hj
            rw [List.getElem?_set_self (List.getElem?_eq_some_iff.mp e).1] at q
            cases q
            obtain ⟨v, h1, p, o, kvs, rfl, h2, h3⟩ := r.sl i _ e
            exact ⟨_, h1, _, rfl, .dct (.inr ⟨o, h2⟩) h3⟩
          · rw [List.getElem?_set_ne hj] at q
            exact r.sl j sv q
      · cases h
    | _ => cases h
theorem unFz_no {i : Nat} (h : unFz i en = .ok en2) : ∀ (j : Nat) (sv : SV), en2[j]? = some sv → isFz sv = false := by
  unfold unFz at h
  split at h
  · split at h
    · rename_i hl
      cases h
      intro j sv q
      have := List.all_eq_true.mp hl sv (List.mem_of_getElem? q)
      simpa using this
    · cases h
  · cases h
/-- the lock is taken off; what was own may be elder than the lock's ground -/
theorem RS.unlock {p : Addr} {o : Obj} {kvs : List (Key × V)} (r : RS K (upd G p (.frz o (.dK kvs))) ext reg en σ H) (hn : ∀ (j : Nat) (sv : SV), en[j]? = some sv → isFz sv = false) (hx : ¬ ext p) (hG : Ex H0 G) (hp : G p = some (.dK kvs)) (x : ∀ a, ext a → So H0 a) :
    H p = some (.frz o (.dK kvs)) ∧ RS K H0 ext reg en σ (upd H p (.dK kvs)) := by
  have h1 : H p = some (.frz o (.dK kvs)) := r.le.k _ _ upd_same rfl
  have hz : ¬ own ext reg p := fun z => by
    rcases z with z | ⟨j, z⟩
    · exact hx z
    · exact So.nn ⟨_, upd_same, rfl⟩ (r.rg j p z).1
  have hs0 : hid H (own ext reg) p = some (.frz o (.dK kvs)) := by rw [hid_at hz]; exact h1
  have same : hid (upd H p (.dK kvs)) (own ext reg) = upd (hid H (own ext reg)) p (.dK kvs) := hid_upd_at hz
  refine ⟨h1, ⟨fun a u ha n => ?_⟩, tabs_wr r.tb h1 rfl fun a ha => upd_ne ha, x, fun j a ha => ?_, r.dj, r.ro, r.len, fun j sv e => ?_⟩
  · by_cases z : a = p
    · rw [z, upd_same, ← hp, ← z]
      exact hG.k a u ha n
    · rw [upd_ne z]
      exact r.le.k a u (by rw [upd_ne z]; exact hG.k a u ha n) n
  · have z : a ≠ p := fun z => hz (.inr ⟨j, by rw [← z]; exact ha⟩)
    obtain ⟨q1, u, q2, t⟩ := r.rg j a ha
    exact ⟨hG.nn fun o e => q1 o (by rw [upd_ne z]; exact e), u, by rw [upd_ne z]; exact q2, t⟩
  · obtain ⟨v, h3, h4⟩ := r.sl j sv e
    rw [same]
    refine ⟨v, h3, h4.monoL (unlk_le hs0) (fun _ _ q => unlk_sql hs0 q) (fun a u ha q _ => ?_) (fun a c dx vs q => by rw [upd_ne fun z => by rw [z, hs0] at q; cases q]; exact q) (fun a o xs q => by rw [upd_ne fun z => by unfold BdO at q; rw [z, hs0] at q; cases q]; exact q) fun es a o' ks hsv _ q => ?_⟩
    · rw [upd_ne fun z => hz (.inr ⟨j, by rw [← z]; exact ha⟩)]
      exact q
    · have := hn j sv e
      rw [hsv] at this
      cases this
end
theorem es_lk {t : TS} {f : En → R Fl} (i : Nat) (h : Es C t f) : Es C (tLk t) (sLk i f) := fun H0 ext reg en σ H rs D w => by
  unfold sLk at w
  cases e : en[i]? with
  | none => rw [e] at w; exact w.elim
  | some sv =>
    rw [e] at w
    cases sv with
    | sh d =>
      cases d with
      | dict es =>
        obtain ⟨p, kvs, h1, hz, hr, hp⟩ := rs.dict e
        dsimp only at w
        rcases hp with hp | ⟨o, hp⟩
        · refine .inl ⟨p, .dK kvs, hp, trivial, fun o => h _ ext reg _ σ _ (rs.lock e h1 hz hr hp o) _ ?_⟩
          have hG := rs.lift_le
          have hGp : hid H (fun a => ∃ i, reg i a) p = some (.dK kvs) := by
            rw [hid_at fun q => hz (.inr q)]
            exact hp
          have hx : ¬ ext p := fun q => hz (.inl q)
          generalize f (en.set i (.fz es)) = x at w ⊢
          cases x with
          | ok fl =>
            simp only [R.noexc_ok, R.bind_ok] at w
            cases fl with
            | nx e2 =>
              unfold unFl at w
              dsimp only at w
              intro reg2 σ2 H2 r2
              cases eu : unFz i e2 with
              | ok e3 =>
                rw [eu] at w
                obtain ⟨a1, a2⟩ := (r2.unfz eu).unlock (unFz_no eu) hx hG hGp rs.exd
                exact ⟨a1, w _ _ _ a2⟩
              | exc c => rw [eu] at w; cases (show False by unfold unFz at eu; split at eu <;> (try split at eu) <;> cases eu)
              | stuck => rw [eu] at w; exact w.elim
            | bk e2 =>
              unfold unFl at w
              dsimp only at w
              intro reg2 σ2 H2 r2
              cases eu : unFz i e2 with
              | ok e3 =>
                rw [eu] at w
                obtain ⟨a1, a2⟩ := (r2.unfz eu).unlock (unFz_no eu) hx hG hGp rs.exd
                exact ⟨a1, w _ _ _ a2⟩
              | exc c => rw [eu] at w; cases (show False by unfold unFz at eu; split at eu <;> (try split at eu) <;> cases eu)
              | stuck => rw [eu] at w; exact w.elim
            | ct e2 =>
              unfold unFl at w
              dsimp only at w
              intro reg2 σ2 H2 r2
              cases eu : unFz i e2 with
              | ok e3 =>
                rw [eu] at w
                obtain ⟨a1, a2⟩ := (r2.unfz eu).unlock (unFz_no eu) hx hG hGp rs.exd
                exact ⟨a1, w _ _ _ a2⟩
              | exc c => rw [eu] at w; cases (show False by unfold unFz at eu; split at eu <;> (try split at eu) <;> cases eu)
              | stuck => rw [eu] at w; exact w.elim
            | rt d =>
              intro v H2 e2 tb hv
              have a1 : H2 p = some (.frz o (.dK kvs)) := e2.k _ _ upd_same rfl
              refine ⟨a1, w v _ ⟨fun a u ha n => ?_⟩ (tabs_wr tb a1 rfl fun a ha => upd_ne ha) ?_⟩
              · by_cases z : a = p
                · rw [z, upd_same, ← hGp, ← z]
                  exact hG.k a u ha n
                · rw [upd_ne z]
                  exact e2.k a u (by rw [upd_ne z]; exact hG.k a u ha n) n
              · rw [hid_upd_at hx]
                exact hv.mono (unlk_le (by rw [hid_at hx]; exact a1))
            | rm d e => exact w.elim
            | rn d e => exact w.elim
            | xm d e => exact w.elim
            | pr i d e => exact w.elim
          | exc c => exact w.elim
          | stuck => exact w.elim
        · refine .inr (h H0 ext reg _ σ H (rs.fzset e h1 hz hr hp) D ?_)
          generalize f (en.set i (.fz es)) = x at w ⊢
          cases x with
          | ok fl =>
            simp only [R.noexc_ok, R.bind_ok] at w
            have key : ∀ e2 (g : En → Fl), (∀ r, WS C H0 ext D ((unFz i e2).bind fun e => R.ok (g e)) → r = unFz i e2 → ∃ e3, r = .ok e3 ∧ WS C H0 ext D (.ok (g e3))) := fun e2 g r w hr => by
              subst hr
              cases eu : unFz i e2 with
              | ok e3 => rw [eu] at w; exact ⟨e3, rfl, w⟩
              | exc c => cases (show False by unfold unFz at eu; split at eu <;> (try split at eu) <;> cases eu)
              | stuck => rw [eu] at w; exact w.elim
            cases fl with
            | nx e2 =>
              obtain ⟨e3, q1, q2⟩ := key e2 Fl.nx _ w rfl
              exact fun reg2 σ2 H2 r2 => q2 _ _ _ (r2.unfz q1)
            | bk e2 =>
              obtain ⟨e3, q1, q2⟩ := key e2 Fl.bk _ w rfl
              exact fun reg2 σ2 H2 r2 => q2 _ _ _ (r2.unfz q1)
            | ct e2 =>
              obtain ⟨e3, q1, q2⟩ := key e2 Fl.ct _ w rfl
              exact fun reg2 σ2 H2 r2 => q2 _ _ _ (r2.unfz q1)
            | rt d => exact w
            | rm d e => exact w.elim
            | rn d e => exact w.elim
            | xm d e => exact w.elim
            | pr i d e => exact w.elim
          | exc c => exact w.elim
          | stuck => exact w.elim
      | _ => exact w.elim
    | _ => exact w.elim
/-! ### the keys of a locked dict -/
def dKeys (i : Nat) : En → R (List PD) := fun en => match en[i]? with
  | some (.fz es) => .ok (es.map (·.1))
  | _ => .stuck
theorem RpK.get {K : PySem.W.Frag} {H : Hp} : ∀ {kvs : List (Key × V)} {es : List (PD × PD)} {i : Nat} {e : PD × PD}, RpK K H kvs es → es[i]? = some e → ∃ k v, kvs[i]? = some (k, v) ∧ e.1 = kD k ∧ Rp K H v e.2
  | _, _, _, _, .nil, h => by simp at h
  | _, _, 0, _, .cons h _, e => by simp at e; subst e; exact ⟨_, _, rfl, rfl, h⟩
  | _, _, i + 1, _, .cons _ r, e => by
    obtain ⟨k, v, h1, h2⟩ := RpK.get (i := i) r (by simpa using e)
    exact ⟨k, v, by simpa using h1, h2⟩
theorem rp_key {K : PySem.W.Frag} {H : Hp} (k : Key) : Rp K H (kV k) (kD k) := by
  cases k with
  | inl i => exact .int i
  | inr x => exact .str x
theorem ei_keys (i : Nat) : EdI C (iKeys (tVar i)) (dKeys i) := fun H0 ext reg en σ H rs Q w => by
  unfold dKeys at w
  cases e : en[i]? with
  | none => rw [e] at w; exact w.elim
  | some sv =>
    rw [e] at w
    cases sv with
    | fz es =>
      obtain ⟨v, h1, p, o, kvs, rfl, h2, h3⟩ := rs.sl i _ e
      refine ⟨_, h1, p, o, rfl, .inl ⟨kvs, hid_ex.k _ _ h2 rfl, w _ H (Xt.refl H) fun Z H' e' hz j => ⟨fun d hd => ?_, fun hl => ?_⟩⟩⟩
      · have q1 : H' p = some (.frz o (.dK kvs)) := hid_ex.k _ _ (e'.k _ _ h2 rfl) rfl
        rw [List.getElem?_map] at hd
        cases q : es[j]? with
        | none => rw [q] at hd; cases hd
        | some x =>
          rw [q] at hd
          cases hd
          obtain ⟨k, v, h4, h5, _⟩ := h3.get q
          refine ⟨⟨q1, (List.getElem?_eq_some_iff.mp h4).1⟩, ?_⟩
          rintro x H'' ⟨rfl, k', v', h6, rfl⟩
          rw [h4] at h6
          cases h6
          show Xt H'' H'' ∧ Rp C.K (hid H'' Z) (kV k) x.1
          rw [h5]
          exact ⟨Xt.refl _, rp_key k⟩
      · refine ⟨hid_ex.k _ _ (e'.k _ _ h2 rfl) rfl, ?_⟩
        rw [List.length_map] at hl
        rw [h3.length]
        exact Nat.le_of_eq hl
    | _ => exact w.elim
end
end Dn

/-! How many texts of a list are unlike: len(set(texts)). -/
namespace Dn
open PySem L2 PySem.Spec PyProof.Rows
/-- how many unlike texts the first i are -/
def unlike (xs : List Str) : Nat → Nat
  | 0 => 0
  | i + 1 => if (xs.take i).any (· == xs.getD i Str.empty) = true then unlike xs i else unlike xs i + 1
theorem unlike_le (xs : List Str) : ∀ i, unlike xs i ≤ i
  | 0 => Nat.le_refl _
  | i + 1 => by
    unfold unlike
    have := unlike_le xs i
    split <;> omega
section
variable {prog : Program} {w : World} {A : Around} {R : Result → Shared → Prop} {I : Addr} {fp wr : List Addr} {G : Array GenState → Array GenState → Prop} {n : Nat} {P : Nat → Value → Prop} {St : Nat → Shared → Prop}
theorem loopTexts (W : WalksS prog w A.in1 I fp wr G n P St) (S : Addr) (hSf : S ∉ fp) (xs : List Str) (hsz : xs.length = n) (hn1 : n + 1 < scanBound)
    (hval : ∀ i v, P i v → ∃ t, v = .str (xs.getD i Str.empty) t) :
    ∀ (k i : Nat) (s : Shared), n - i = k → i ≤ n → St i s →
      s.heap.SetOf (PySem.strKind prog w) S (fun k' => (xs.take i).any (· == k')) (unlike xs i) →
      (∀ s', Moved (S :: wr) G s s' → s'.heap.SetOf (PySem.strKind prog w) S (fun k' => (xs.take n).any (· == k')) (unlike xs n) → R (.ok (.ret .none)) s') →
      codeAny (model prog w) A (.builtin "set.update.loop" ⟨[.ref S, .ref I], []⟩) R s := by
  have hSw : S ∉ wr := fun h => hSf (W.sub _ h)
  have hsub : ∀ b ∈ wr, b ∈ S :: wr := fun b hb => List.mem_cons_of_mem _ hb
  intro k
  induction k with
  | zero =>
    intro i s hk hi hst hS hR
    have hin : i = n := by omega
    subst hin
    refine codeAny_builtin PyProof.Rows.F.entry_set_update_loop ?_
    rw [Around.under_plainId PyProof.Rows.F.plain_set_update_loop _]
    show wpAny _ A.in1 (pyNext (.ref I) >>= _) _ _ s
    refine wpAny_bind (W.done s _ _ hst fun s' hm => ?_)
    show wpAny _ A.in1 (ret Value.none) _ _ s'
    exact wpAny_pure (hR s' (hm.mono hsub) (by
      obtain ⟨o, es, ep, t, ho, rest⟩ := hS
      exact ⟨o, es, ep, t, hm.heap S _ hSw ho, rest⟩))
  | succ k ih =>
    intro i s hk hi hst hS hR
    have hlt : i < n := by omega
    refine codeAny_builtin PyProof.Rows.F.entry_set_update_loop ?_
    rw [Around.under_plainId PyProof.Rows.F.plain_set_update_loop _]
    show wpAny _ A.in1 (pyNext (.ref I) >>= _) _ _ s
    refine wpAny_bind (W.item i s _ _ hlt hst fun v s' hP hst' hm => ?_)
    obtain ⟨t, rfl⟩ := hval i v hP
    have hS' : s'.heap.SetOf (PySem.strKind prog w) S (fun k' => (xs.take i).any (· == k')) (unlike xs i) := by
      obtain ⟨o, es, ep, tb, ho, rest⟩ := hS
      exact ⟨o, es, ep, tb, hm.heap S _ hSw ho, rest⟩
    show wpAny _ A.in1 (holding [Value.str (xs.getD i Str.empty) t] (setAdd S (.str (xs.getD i Str.empty) t)) >>= _) _ _ s'
    refine wpAny_bind (wpAny_holding ?_)
    unfold setAdd
    refine wpAny_holding ?_
    refine wpAny_bind ((PySem.strKind prog w).pyHash (k := xs.getD i Str.empty) (strKind_is _ _ _ _) ?_)
    have hun := unlike_le xs i
    refine wpAny_setAddHashed_of (knd := PySem.strKind prog w) (s := { s' with toks := s'.toks + 1 }) (strKind_is _ _ _ _) rfl hS' (by omega) fun h' hsb hS2 => ?_
    have hSi : h'.SetOf (PySem.strKind prog w) S (fun k' => (xs.take (i + 1)).any (· == k')) (unlike xs (i + 1)) := by
      refine SetOf_congr hS2 (fun k' => ?_) rfl
      have hx : xs.getD i Str.empty = xs[i]'(by omega) := by
        rw [List.getD_eq_getElem?_getD, List.getElem?_eq_getElem (by omega)]
        rfl
      show ((xs.take i).any (· == k') || decide (k' = xs.getD i Str.empty)) = (xs.take (i + 1)).any (· == k')
      rw [List.take_succ, List.getElem?_eq_getElem (by omega), List.any_append, hx]
      congr 1
      show _ = ((xs[i]'(by omega) == k') || false)
      rw [Bool.or_false]
      by_cases e : k' = xs[i]'(by omega)
      · rw [decide_eq_true e, e]
        simp
      · rw [decide_eq_false e]
        symm
        simpa [beq_iff_eq] using fun h' : xs[i]'(by omega) = k' => e h'.symm
    refine wpAny_pure ⟨plainId_quiet PyProof.Rows.F.plain_set_update_loop _, ih (i + 1) _ (by omega) hlt (W.frame _ s' _ _ hst' (Nat.le_succ _) fun b hb o e => ?_) hSi fun s'' hm'' hS'' => ?_⟩
    · rw [hsb.2 b (fun h : b = S => hSf (by rw [← h]; exact hb))]; exact e
    · refine hR s'' (Moved.trans W.gtrans ((hm.mono hsub).then_heap (Nat.le_succ _) fun b o hb e => ?_) hm'') hS''
      rw [hsb.2 b (fun h : b = S => hb (by rw [h]; exact List.mem_cons_self))]; exact e
end
section
variable {prog : Program} {w : World} {A : Around} {E : Value → Shared → Prop} {s : Shared}
theorem call_set_texts {l : Addr} {items : Array Value} {xs : List Str} {Q : Value → Shared → Prop}
    (hh : A.handled = none) (hl : s.heap.IsList l items) (hi : PyProof.Rows.StrsAre items.toList xs) (hn1 : xs.length + 1 < scanBound)
    (h : ∀ (h' : Heap) (tk : Nat), h'.SetOf (PySem.strKind prog w) s.heap.objs.size (fun k' => (xs.take items.size).any (· == k')) (unlike xs items.size) →
      (∀ b o, b < s.heap.objs.size → s.heap.get? b = some o → h'.get? b = some o) → Q (.ref s.heap.objs.size) { s with heap := h', toks := tk }) :
    wpAny (model prog w) A (call (.type "set") [.ref l]) Q E s := by
  obtain ⟨c, tl, hmro⟩ := PySem.F.called_set.mro
  have hmade := PySem.F.called_set.made
  have hsub := PySem.F.called_set.sub
  refine wpAny_call (codeAny_of_tree ?_)
  show wpAny _ _ (callAny (.type "set") _) _ _ _
  refine wpAny_pure ⟨Code.quiet_builtin _ (by decide +kernel), codeAny_builtin PySem.F.entry_type_call ?_⟩
  rw [Around.under_plain (weight_type_call_type "set" [.ref l] []) rfl]
  have h1 := PySem.F.called_set.notType
  have h2 := PySem.F.called_set.canCreate
  have hct := PySem.F.typeCall_set_1 (.ref l)
  repeat (any_goals (first | assumption | wp_step))
  refine codeAny_mono (code_set_new_1 (.ref l) (E := E) (Q₁ := fun obj s₁ => ∃ led : Bool, obj = .ref s.heap.objs.size ∧ s₁ = { s with heap := s.heap.push { cls := .type "set", dict := none, data := .set #[] 0 (.fresh 0 0 led) } }) fun led => ⟨led, rfl, rfl⟩) fun r s₁ hr => ?_
  cases r with
  | error e => exact hr
  | ok fl =>
    cases fl with
    | ret obj =>
      obtain ⟨led, rfl, rfl⟩ := hr
      have hS : (s.heap.push { cls := .type "set", dict := none, data := .set #[] 0 (.fresh 0 0 led) }).get? s.heap.objs.size = some { cls := .type "set", dict := none, data := .set #[] 0 (.fresh 0 0 led) } := Heap.get?_push_size _ rfl
      have hT : Shared.TypeIs { s with heap := s.heap.push { cls := .type "set", dict := none, data := .set #[] 0 (.fresh 0 0 led) } } (.ref s.heap.objs.size) "set" := ⟨_, hS, rfl⟩
      have hli := PySem.F.called_set.init.lookup
      have hbi := PySem.F.called_set.init.bind (.ref s.heap.objs.size)
      repeat (any_goals (first | assumption | wp_step))
      refine codeAny_mono (codeAny_call_builtin (R := wants (fun r s₂ => r = .none ∧ ∃ h' tk, s₂ = { s with heap := h', toks := tk } ∧
          h'.SetOf (PySem.strKind prog w) s.heap.objs.size (fun k' => (xs.take items.size).any (· == k')) (unlike xs items.size) ∧
          (∀ b o, b < s.heap.objs.size → s.heap.get? b = some o → h'.get? b = some o)) E) PySem.F.called_set.init.plain PySem.F.entry_set_init (check_set_init_1 hT ?_)) fun r₂ s₂ hr₂ => ?_
      · obtain ⟨ol, hol, hcl, nl, hdl⟩ := hl
        obtain ⟨ocls, odict, odata, oslots⟩ := ol
        simp only at hcl hdl
        subst hcl; subst hdl
        have hol' : (s.heap.push { cls := .type "set", dict := none, data := .set #[] 0 (.fresh 0 0 led) }).get? l = some { cls := .type "list", dict := odict, data := .seq items nl, slots := oslots } := Heap.get?_push_of_some _ hol
        have hsls := PySem.F.sub_list_set
        have hslf := PySem.F.sub_list_frozenset
        have hne : (Value.type "list" == Value.type "dict") = false := by decide
        have hl1 : (s.heap.push { cls := .type "set", dict := none, data := .set #[] 0 (.fresh 0 0 led) }).IsList l items := ⟨_, hol', rfl, nl, rfl⟩
        unfold Builtin.«set.__init__» noKeywords Builtin.Frozenset.updateFrom
        generalize hPI : pyIter = PI
        wp_walk
        subst hPI
        refine wpAny_pyIter_list hl1 ?_
        refine wpAny_bind (wpAny_runValue ?_)
        have hlS : l < s.heap.objs.size := Heap.lt_size hol
        have hh3 : A.in1.in1.in1.handled = none := by simp [hh]
        have hneI : l ≠ (s.heap.push { cls := .type "set", dict := none, data := .set #[] 0 (.fresh 0 0 led) }).objs.size := by
          rw [Heap.size_push]; exact Nat.ne_of_lt (Nat.lt_succ_of_lt hlS)
        have hSf : s.heap.objs.size ∉ [(s.heap.push { cls := .type "set", dict := none, data := .set #[] 0 (.fresh 0 0 led) }).objs.size, l] := by
          rw [Heap.size_push]; simp only [List.mem_cons, List.mem_singleton, List.not_mem_nil, or_false, not_or]
          exact ⟨Nat.ne_of_lt (Nat.lt_succ_self _), Nat.ne_of_gt hlS⟩
        have hsz : xs.length = items.size := by rw [← StrsAre.len_eq hi, Array.length_toList]
        have hval : ∀ (i : Nat) (v : Value), items[i]? = some v → ∃ t, v = .str (xs.getD i Str.empty) t := fun i v hv => SS.strs_at hi i v (by rw [Array.getElem?_toList]; exact hv)
        refine loopTexts ((Walks.list hh3 _ l hneI items).toS) s.heap.objs.size
          hSf xs hsz (by rw [← hsz]; exact hn1) hval (items.size - 0) 0 _ (by omega) (Nat.zero_le _)
          ⟨⟨_, Heap.get?_push_size _ rfl, rfl, rfl⟩, (hl1.push _)⟩ ?hS0 ?hR
        case hS0 =>
          have hget : ((s.heap.push { cls := .type "set", dict := none, data := .set #[] 0 (.fresh 0 0 led) }).push { cls := .type "list_iterator", data := .fields #[.ref l, .int 0 0] }).get? s.heap.objs.size
              = some { cls := .type "set", dict := none, data := .set #[] 0 (.fresh 0 0 led) } := Heap.get?_push_of_some _ hS
          exact PyProof.Rows.SetOf_congr ((PyProof.Rows.setObjOf_fresh (knd := PySem.strKind prog w) led).setOf hget (by unfold scanBound; omega)) (fun _ => rfl) rfl
        case hR =>
          intro s' hm hS'
          obtain ⟨h', g', d', tk', os'⟩ := s'
          have eg : g' = s.gens := hm.gens
          have ed : d' = s.drawn := hm.drawn
          have eo : os' = s.os := hm.os
          subst eg; subst ed; subst eo
          show wpAny _ _ _ _ _ _
          refine wpAny_pure ?_
          show wpAny _ _ (ret Value.none) _ _ _
          refine wpAny_pure ⟨rfl, h', tk', rfl, hS', fun b o hb e => ?_⟩
          have hb1 : b ≠ s.heap.objs.size := Nat.ne_of_lt hb
          have hb2 : b ≠ (s.heap.push { cls := .type "set", dict := none, data := .set #[] 0 (.fresh 0 0 led) }).objs.size := by
            rw [Heap.size_push]; exact Nat.ne_of_lt (Nat.lt_succ_of_lt hb)
          exact hm.heap b o (by simp only [List.mem_cons, List.mem_singleton, List.not_mem_nil, or_false, not_or]; exact ⟨hb1, hb2⟩) (Heap.get?_push_of_some _ (Heap.get?_push_of_some _ e))
      · cases r₂ with
        | error e => exact hr₂
        | ok fl₂ =>
          cases fl₂ with
          | ret r =>
            obtain ⟨rfl, h', tk, rfl, hS', hk'⟩ := hr₂
            repeat (any_goals (first | assumption | wp_step))
            exact h _ _ hS' hk'
          | _ => exact hr₂.elim
    | _ => exact hr.elim
end
/-! ### len(set(texts)) -/
def tLenU (K : PySem.W.Frag) (ta : TE) : TE := fun σ H Q => ta σ H fun x H1 => ∃ l, ∃ xs : List Str, x = .ref l ∧ SqL K H1 l (xs.map V.str) ∧ xs.length < 2000 ∧ Q (.int (unlike xs xs.length : Nat)) H1
theorem pe_lenU {X : Cx} {K : PySem.W.Frag} (hK : X.K = K) {a : Expr} {ta : TE} {p p2 q pos : Pos} (hc : X.calm = true) (hg : Gl X "len") (hm : X.mg "len" = none) (hg2 : Gl X "set") (hm2 : X.mg "set" = none) (ha : PE X a ta)
    (na : starEach [a] X.env = (false, eval a X.env) :: starEach [] X.env := by rfl) : PE X (.Call (.Name "len" p) [.Call (.Name "set" p2) [a] [] q] [] pos) (tLenU K ta) := by
  subst hK
  refine ⟨fun pins s σ H Q I h => ?_⟩
  refine Call_ (ld_blt I hg hm boot_len ?_)
  refine PyProof.Rows.callWith_builtin1 (PyProof.Rows.args_cons ?_ rfl) rfl rfl
  refine Call_ (ld_blt I hg2 hm2 boot_set ?_)
  refine PyProof.Rows.callWith_type1 (PyProof.Rows.args_cons (thn (ha.run pins s σ H _ I h) fun v s1 ⟨x, H1, I1, r1, q1⟩ => PyProof.Rows.args_nil ?_) na) na rfl
  obtain ⟨l, xs, rfl, hq, h1, q1⟩ := q1
  cases r1
  obtain ⟨its, r, pl, hz⟩ := I1.list hq
  refine call_set_texts (I1.ok.hd hc) pl.isList (by simpa using strsAre_of r) (by unfold scanBound; omega) fun h' tk hS hk => ?_
  refine PyProof.Rows.args_nil ?_
  have hl : its.toArray.size = xs.length := by rw [List.size_toArray, ← r.length, List.length_map]
  rw [hl] at hS
  obtain ⟨o, es, ep, t, ho, hex, hd, _, _, _, hf, hn⟩ := hS
  have I2 : Inv X pins σ H1 { s1 with heap := h', toks := tk } := I1.kept fun b o e => hk b o (Heap.lt_size e) e
  have hu := unlike_le xs xs.length
  exact call_len_set ho hex hd hf (by rw [hn]; omega) ⟨.int (unlike xs xs.length : Nat), H1, I2.tok _, ⟨_, by rw [hn]⟩, q1⟩
end Dn

/-! in, not in; texts cut and joined; lists made of things. -/
namespace Dn
open PySem L2
variable [Tabl]
/-! ### in -/
def rDIn (neg : Bool) : R2 := fun y x H Q => ∃ a o, x = .ref a ∧ DGet H a y o ∧ Q (.bl (if neg then !o.isSome else o.isSome)) H
def rInT : R2 := fun x y H Q => ∃ (c : Nat) (z : Str), x = .str ⟨#[c]⟩ ∧ y = .str z ∧ Q (.bl (decide (c ∈ z.cps.toList))) H
def rInA (K : PySem.W.Frag) : R2 := rOr (rDIn false) (rOr rInT (rIn K false))
def rNotInA (K : PySem.W.Frag) : R2 := rOr (rDIn true) (rIn K true)
theorem kx_in {X : Cx} (K : PySem.W.Frag) (h : X.K = K) (hu : X.A.units + 64 < cLine) : OpR X (compareOp .In) (rInA K) := by
  subst h
  refine opOr (fun pins s σ H x y v u Q I rx ry q => ?_) (opOr op_in_sign op_in_seq)
  obtain ⟨a, o, rfl, g, q⟩ := q
  obtain rfl : u = Value.ref a := ry
  exact d_in (by omega) I g rx fun s3 I3 => ⟨.bl o.isSome, H, I3, rfl, q⟩
theorem kx_notin {X : Cx} (K : PySem.W.Frag) (h : X.K = K) (hu : X.A.units + 64 < cLine) : OpR X (compareOp .NotIn) (rNotInA K) := by
  subst h
  refine opOr (fun pins s σ H x y v u Q I rx ry q => ?_) op_notIn_seq
  obtain ⟨a, o, rfl, g, q⟩ := q
  obtain rfl : u = Value.ref a := ry
  exact d_notIn (by omega) I g rx fun s3 I3 => ⟨.bl (!o.isSome), H, I3, rfl, q⟩
def flatD : PD → Bool
  | .none => true
  | .bool _ => true
  | .int _ => true
  | .str _ => true
  | _ => false
def eqF : PD → PD → Bool
  | .none, .none => true
  | .bool a, .bool b => a == b
  | .bool a, .int b => (if a then 1 else 0) == b
  | .int a, .bool b => a == (if b then 1 else 0)
  | .int a, .int b => a == b
  | .str a, .str b => a == b
  | _, _ => false
def inF (x : PD) (xs : List PD) : Bool := xs.any fun y => eqF y x
section
variable {K : PySem.W.Frag} {H Hs : Hp}
theorem Rp.flat {v : V} {d : PD} (h : Rp K H v d) (f : flatD d = true) : flatV v = true := by
  cases h <;> first | rfl | cases f
theorem Rp.eqF {v w : V} {d e : PD} (h : Rp K H v d) (g : Rp K Hs w e) (f : flatD d = true) (f' : flatD e = true) : eqV v w = Dn.eqF d e := by
  cases h <;> first | (cases f; done) | (cases g <;> first | rfl | (cases f'; done))
theorem RpA.flat : ∀ {vs : List V} {ds : List PD}, RpA K H vs ds → ds.all flatD = true → vs.all flatV = true
  | _, _, .nil, _ => rfl
  | _, _, .cons h r, f => by
    rw [List.all_cons, Bool.and_eq_true] at f ⊢
    exact ⟨h.flat f.1, RpA.flat r f.2⟩
theorem RpA.inF {x : V} {d : PD} (g : Rp K Hs x d) (f' : flatD d = true) : ∀ {vs : List V} {ds : List PD}, RpA K H vs ds → ds.all flatD = true → inV x vs = Dn.inF d ds
  | _, _, .nil, _ => rfl
  | _, _, .cons h r, f => by
    rw [List.all_cons, Bool.and_eq_true] at f
    have ih := RpA.inF g f' r f.2
    unfold inV Dn.inF at ih ⊢
    rw [List.any_cons, List.any_cons, ih, h.eqF g f.1 f']
end
def inD (neg : Bool) (x y : PD) : R PD := match y with
  | .dict es => match kOf x with
    | some k => .ok (.bool (if neg then !(lookD es k).isSome else (lookD es k).isSome))
    | none => .stuck
  | .str z => match x with
    | .str a => match neg, a.cps.toList with
      | false, [c] => .ok (.bool (decide (c ∈ z.cps.toList)))
      | _, _ => .stuck
    | _ => .stuck
  | .list xs => if (flatD x && xs.all flatD) = true then .ok (.bool (if neg then !inF x xs else inF x xs)) else .stuck
  | .tuple xs => if (flatD x && xs.all flatD) = true then .ok (.bool (if neg then !inF x xs else inF x xs)) else .stuck
  | _ => .stuck
theorem RpK.isSome {K : PySem.W.Frag} {H : Hp} {kvs : List (Key × V)} {es : List (PD × PD)} (r : RpK K H kvs es) (k : Key) : (valV kvs k).isSome = (lookD es k).isSome := by
  obtain ⟨h1, h2⟩ := r.look k
  cases e : lookD es k with
  | none => rw [h2 e]; rfl
  | some d =>
    obtain ⟨v, h3, _⟩ := h1 d e
    rw [h3]
    rfl
section
variable {C : Cn}
theorem RpL.rps {K : PySem.W.Frag} {H : Hp} {Y Z : AS} {v : V} {d : PD} (h : RpL K (hid H Z) (hid H Y) v d) (i : ∀ a, Y a → Z a) : Rp K H v d := (h.rp (hid_less i)).mono hid_ex.le
theorem o_in : Op2 C (rInA C.K) (inD false) := fun Y Z H v w x y Q hyz hz hx hy q => by
  unfold inD at q
  split at q
  · rename_i es
    split at q
    · rename_i k ek
      obtain ⟨p, kvs, rfl, h1, r1⟩ := hy.dct hyz
      refine .inl ⟨p, valV kvs k, rfl, .inl ⟨kvs, k, h1, hx.key ek, rfl⟩, ?_⟩
      rw [r1.isSome k]
      exact q _ H (Xt.refl H) (.bl _)
    · exact q.elim
  · rename_i z
    split at q
    · rename_i a
      split at q
      · rename_i c _ ec
        refine .inr (.inl ⟨c, z, ?_, hy.str, q _ H (Xt.refl H) (.bl _)⟩)
        rw [hx.str]
        congr 1
        obtain ⟨⟨l⟩⟩ := a
        rw [show l = [c] from ec]
      · exact q.elim
    · exact q.elim
  · rename_i xs
    split at q
    · rename_i hl
      obtain ⟨f1, f2⟩ := Bool.and_eq_true_iff.mp hl
      obtain ⟨p, vs, rfl, h1, r1⟩ := hy.lst hyz
      have h3 := hx.rps hyz
      exact .inr (.inr ⟨p, vs, rfl, .inl (SqL.of h1), h3.flat f1, r1.flat f2, by rw [r1.inF h3 f1 f2]; exact q _ H (Xt.refl H) (.bl _)⟩)
    · exact q.elim
  · rename_i xs
    split at q
    · rename_i hl
      obtain ⟨f1, f2⟩ := Bool.and_eq_true_iff.mp hl
      obtain ⟨p, vs, rfl, h1, r1⟩ := hy.tup hyz
      have h3 := hx.rps hyz
      exact .inr (.inr ⟨p, vs, rfl, .inr h1, h3.flat f1, r1.flat f2, by rw [r1.inF h3 f1 f2]; exact q _ H (Xt.refl H) (.bl _)⟩)
    · exact q.elim
  · exact q.elim
theorem o_notin : Op2 C (rNotInA C.K) (inD true) := fun Y Z H v w x y Q hyz hz hx hy q => by
  unfold inD at q
  split at q
  · rename_i es
    split at q
    · rename_i k ek
      obtain ⟨p, kvs, rfl, h1, r1⟩ := hy.dct hyz
      refine .inl ⟨p, valV kvs k, rfl, .inl ⟨kvs, k, h1, hx.key ek, rfl⟩, ?_⟩
      rw [r1.isSome k]
      exact q _ H (Xt.refl H) (.bl _)
    · exact q.elim
  · split at q
    · split at q
      · rename_i e1 _
        cases e1
      · exact q.elim
    · exact q.elim
  · rename_i xs
    split at q
    · rename_i hl
      obtain ⟨f1, f2⟩ := Bool.and_eq_true_iff.mp hl
      obtain ⟨p, vs, rfl, h1, r1⟩ := hy.lst hyz
      have h3 := hx.rps hyz
      exact .inr ⟨p, vs, rfl, .inl (SqL.of h1), h3.flat f1, r1.flat f2, by rw [r1.inF h3 f1 f2]; exact q _ H (Xt.refl H) (.bl _)⟩
    · exact q.elim
  · rename_i xs
    split at q
    · rename_i hl
      obtain ⟨f1, f2⟩ := Bool.and_eq_true_iff.mp hl
      obtain ⟨p, vs, rfl, h1, r1⟩ := hy.tup hyz
      have h3 := hx.rps hyz
      exact .inr ⟨p, vs, rfl, .inr h1, h3.flat f1, r1.flat f2, by rw [r1.inF h3 f1 f2]; exact q _ H (Xt.refl H) (.bl _)⟩
    · exact q.elim
  · exact q.elim
end
/-! ### d == {} -/
def rEqE : R2 := fun x y H Q => ∃ a b ks, x = .ref a ∧ y = .ref b ∧ Rd H a (.dK ks) ∧ Rd H b (.dK []) ∧ Q (.bl ks.isEmpty) H
theorem op_eqE {X : Cx} (hu : X.A.units + 64 < cLine) : OpR X (compareOp .Eq) rEqE := by
  intro pins s σ H x y v u Q I rx ry h
  obtain ⟨a, b, ks, rfl, rfl, ea, eb, q⟩ := h
  obtain rfl : v = Value.ref a := rx
  obtain rfl : u = Value.ref b := ry
  obtain ⟨_, ya, va, ra, da⟩ := dk_rd I.hok ea
  obtain ⟨_, yb, vb, rb, db⟩ := dk_rd I.hok eb
  cases rb
  have hl := ra.length
  refine PySem.W.keq_eq (knd := mixKind X.prog X.w) (r := true) ya yb da db (by omega) (fun h0 => ?_) (fin_bl I q ?_)
  · have : va = [] := List.length_eq_zero_iff.mp h0
    subst this
    exact .nil
  · cases ks with
    | nil => cases ra; rfl
    | cons p r => cases ra; rfl
def emptyD : PD → R PD
  | .dict es => .ok (.bool es.isEmpty)
  | _ => .stuck
section
variable {C : Cn} {ta : TE} {fa : En → R PD}
theorem ed_eqE (h : EdL C ta fa) : EdS C (tOp rEqE ta tDNewK) (d1 emptyD fa) := fun H0 ext reg en σ H rs Q w =>
  h.seq rs (W := WrS C (own ext reg) H Q) w (fun _ q => q) (fun q => q) fun x v H2 e2 r2 h2 w2 => fun p hp => by
    cases x with
    | dict es =>
      obtain ⟨a, kvs, rfl, h1, r1⟩ := h2.dct fun a z => .inl z
      have e3 : Xt H2 (upd H2 p (.dK [])) := Xt.new hp
      refine ⟨a, p, kvs, rfl, rfl, e3.toEx.rd h1, .inl upd_same, ?_⟩
      have : kvs.isEmpty = es.isEmpty := by cases r1 <;> rfl
      rw [this]
      exact w2 _ _ (e2.trans e3) (.bl _)
    | _ => exact w2.elim
end
end Dn

/-! texts cut and joined; lists made of things. -/
namespace Dn
open PySem L2
variable [Tabl]
def rNewL (ys : List V) : Hp → VK → Prop := fun H Q => ∀ p, H p = none → Q (.ref p) (upd H p (.lst ys))
theorem rpa_strs {K : PySem.W.Frag} {H : Hp} : ∀ (ys : List Str), RpA K H (ys.map V.str) (ys.map PyData.str)
  | [] => .nil
  | n :: r => .cons (.str n) (rpa_strs r)
/-! ### methods of texts with one argument -/
def dM1 {β : Type} (g : PD → PD → R β) (fo fe : En → R PD) : En → R β := fun en => (fo en).bind fun x => match x with
  | .str a => (fe en).bind fun y => g (.str a) y
  | _ => .stuck
def rSplit : V → List V → Hp → VK → Prop := fun x xs H Q => ∃ a b, x = .str a ∧ xs = [.str b] ∧ (b.length == 0) = false ∧ a.length + 2 ≤ sizeLine ∧ rNewStrs (Txt.split a b) H Q
def rJoin (K : PySem.W.Frag) : V → List V → Hp → VK → Prop := fun x xs H Q => ∃ a p, ∃ ys : List Str, x = .str a ∧ xs = [.ref p] ∧ (SqL K H p (ys.map V.str) ∨ SqT K H p (ys.map V.str)) ∧
      (ys.map (·.length)).sum + ys.length * a.length ≤ 16777216 ∧ Q (.str (Txt.join a ys)) H
def splitD : PD → PD → R (List PD)
  | .str a, .str b => if 1 ≤ b.length ∧ a.length + 2 ≤ szN then .ok ((Txt.split a b).map .str) else .stuck
  | _, _ => .stuck
def joinD : PD → PD → R PD
  | .str a, .list ds => match asStrs ds with
    | some ys => if (ys.map (·.length)).sum + ys.length * a.length ≤ szN then .ok (.str (Txt.join a ys)) else .stuck
    | none => .stuck
  | _, _ => .stuck
section
variable {X : Cx} {o e : Expr} {to te : TE}
theorem kpe_split {apos pos : Pos} (ho : PE X o to) (he : PE X e te) (hs : starEach [e] X.env = [(false, eval e X.env)] := by rfl) (hbase : attributeBase o "split" X.env (eval o X.env) = eval o X.env := by rfl) (hline : (apos.endLine == pos.line) = true := by rfl) :
    PE X (.Call (.Attribute o "split" apos) [e] [] pos) (tM1 rSplit to te) := pe_split ho he hs hbase hline
theorem kpe_join (K : PySem.W.Frag) (hK : X.K = K) {apos pos : Pos} (ho : PE X o to) (he : PE X e te) (hs : starEach [e] X.env = [(false, eval e X.env)] := by rfl) (hbase : attributeBase o "join" X.env (eval o X.env) = eval o X.env := by rfl) (hline : (apos.endLine == pos.line) = true := by rfl) :
    PE X (.Call (.Attribute o "join" apos) [e] [] pos) (tM1 (rJoin K) to te) := by subst hK; exact pe_join ho he hs hbase hline
end
section
variable {C : Cn} {to te : TE} {fo fe : En → R PD}
theorem ef_split (ho : EdL C to fo) (he : EdL C te fe) : EdF C (tM1 rSplit to te) (dM1 splitD fo fe) := fun H0 ext reg en σ H rs Q w =>
  ho.seq rs (W := WrF C (own ext reg) H Q) w (fun _ q => q) (fun q => q) fun x v H2 e2 r2 h2 w2 => by
    cases x with
    | str a =>
      refine ⟨⟨a, h2.str⟩, he.seq r2 (W := WrF C (own ext reg) H Q) w2 (fun _ q H3 e3 => q H3 (e2.trans e3)) (fun q => q) fun y u H3 e3 r3 h3 w3 => ?_⟩
      unfold splitD at w3
      split at w3
      · rename_i a' b ea
        cases ea
        split at w3
        · rename_i hl
          refine ⟨a, b, h2.str, by rw [h3.str], by simp; omega, sz_of hl.2, fun p hp => w3 p _ H3 (e2.trans e3) hp (rpa_strs _)⟩
        · exact w3.elim
      · exact w3.elim
    | _ => exact w2.elim
theorem ed_join (ho : EdL C to fo) (he : EdL C te fe) : EdS C (tM1 (rJoin C.K) to te) (dM1 joinD fo fe) := fun H0 ext reg en σ H rs Q w =>
  ho.seq rs (W := WrS C (own ext reg) H Q) w (fun _ q => q) (fun q => q) fun x v H2 e2 r2 h2 w2 => by
    cases x with
    | str a =>
      refine ⟨⟨a, h2.str⟩, he.seq r2 (W := WrS C (own ext reg) H Q) w2 (fun _ q H3 e3 => q H3 (e2.trans e3)) (fun q => q) fun y u H3 e3 r3 h3 w3 => ?_⟩
      unfold joinD at w3
      split at w3
      · rename_i a' ds ea
        cases ea
        split at w3
        · rename_i ys ey
          split at w3
          · rename_i hl
            obtain ⟨p, vs, rfl, hp, hr⟩ := h3.lst fun a z => .inl z
            rw [hr.asStrs ey] at hp
            exact ⟨a, p, ys, h2.str, rfl, .inl (SqL.of hp), by (have : szN = 1000000 := rfl); omega, w3 _ H3 (e2.trans e3) (.str _)⟩
          · exact w3.elim
        · exact w3.elim
      · exact w3.elim
    | _ => exact w2.elim
end
/-! ### calls that make a new list -/
def OpF (C : Cn) (r : List V → Hp → VK → Prop) (g : List PD → R (List PD)) : Prop := ∀ (Y Z : AS) (H : Hp) (vs : List V) (xs : List PD) (Q : VK), (∀ a, Y a → Z a) → (∀ a, Z a → ∃ o, H a = some o) → RpLA C.K (hid H Z) (hid H Y) vs xs → WrF C Z H Q (g xs) → r vs H Q
def dNF (g : List PD → R (List PD)) (fa : En → R (List PD)) : En → R (List PD) := fun en => (fa en).bind g
def listD : List PD → R (List PD)
  | [.list ds] => chk ds
  | [.tuple ds] => chk ds
  | [.str z] => if z.length ≤ szN then .ok (z.cps.toList.map fun c => .str ⟨#[c]⟩) else .stuck
  | [.dict es] => .ok (es.map (·.1))
  | _ => .stuck
def rListSq (K : PySem.W.Frag) : List V → Hp → VK → Prop := fun xs H Q => ∃ p ys, xs = [.ref p] ∧ (SqL K H p ys ∨ SqT K H p ys) ∧ ∀ l, H l = none → Q (.ref l) (upd H l (.lst ys))
def rListT : List V → Hp → VK → Prop := fun xs H Q => ∃ z : Str, xs = [.str z] ∧ z.length ≤ sizeLine ∧ ∀ l, H l = none → Q (.ref l) (upd H l (.lst (z.cps.toList.map fun c => V.str ⟨#[c]⟩)))
def rListDK : List V → Hp → VK → Prop := fun xs H Q => ∃ (a : Addr) (kvs : List (Key × V)), xs = [.ref a] ∧ Rd H a (.dK kvs) ∧ ∀ p, H p = none → Q (.ref p) (upd H p (.lst (kvs.map fun kv => kV kv.1)))
def rListA (K : PySem.W.Frag) : List V → Hp → VK → Prop := cOr (rListSq K) (cOr rListT rListDK)
theorem vals_signs : ∀ {l : List Nat} {us : List Value}, us.length = l.length → (∀ (i : Nat) (u : Value), us[i]? = some u → ∃ c t, l[i]? = some c ∧ u = .str ⟨#[c]⟩ t) → Vals (l.map fun c => V.str ⟨#[c]⟩) us
  | [], [], _, _ => .nil
  | [], _ :: _, h, _ => by simp at h
  | _ :: _, [], h, _ => by simp at h
  | c :: l, u :: us, h, k => by
    obtain ⟨c', t, h1, h2⟩ := k 0 u rfl
    cases h1
    exact .cons ⟨t, h2⟩ (vals_signs (by simpa using h) fun i v e => by
      obtain ⟨c', t, h1, h2⟩ := k (i + 1) v (by simpa using e)
      exact ⟨c', t, by simpa using h1, h2⟩)
theorem call_listT {X : Cx} (hc : X.calm = true) : CallR X (.type "list") rListT := by
  intro pins s σ H xs us Q I r h
  obtain ⟨z, rfl, hz, q⟩ := h
  obtain ⟨u, rfl, t, rfl⟩ := vals1 r
  refine PySem.call_list_str (I.ok.hd hc) z t (fun h' tk acc' c' kp e hi => ?_) hz
  refine ⟨.ref s.heap.objs.size, _, I.laid kp (Nat.le_refl _) (show ObjOk X.prog X.w _ h' _ (.lst (z.cps.toList.map fun c => V.str ⟨#[c]⟩)) from ⟨?_, acc'.toList, c', ?_, by rw [Array.toArray_toList]; exact e⟩), rfl, q _ (I.hok.fresh (Nat.le_refl _))⟩
  · rw [List.length_map, Array.length_toList]
    exact hz
  · refine vals_signs (by rw [Array.length_toList, Array.length_toList]; exact hi.1) fun i v hv => ?_
    obtain ⟨c, t', h1, h2⟩ := hi.2 i v (by rw [← hv, Array.getElem?_toList])
    exact ⟨c, t', by rw [Array.getElem?_toList]; exact h1, h2⟩
theorem kx_list {X : Cx} (K : PySem.W.Frag) (h : X.K = K) (hc : X.calm = true) : CallR X (.type "list") (rListA K) := by
  subst h
  exact callOr call_list_of (callOr (call_listT hc) (call_listD hc))
theorem RpK.keys {K : PySem.W.Frag} {H H' : Hp} : ∀ {kvs : List (Key × V)} {es : List (PD × PD)}, RpK K H kvs es → RpA K H' (kvs.map fun kv => kV kv.1) (es.map (·.1))
  | _, _, .nil => .nil
  | _, _, .cons _ r => .cons (rp_key _) r.keys
theorem rpa_signs {K : PySem.W.Frag} {H : Hp} : ∀ (l : List Nat), RpA K H (l.map fun c => V.str ⟨#[c]⟩) (l.map fun c => PyData.str ⟨#[c]⟩)
  | [] => .nil
  | n :: r => .cons (.str _) (rpa_signs r)
section
variable {C : Cn} {ta : TA} {fa : En → R (List PD)}
theorem ef_cb {r : List V → Hp → VK → Prop} {g : List PD → R (List PD)} (hr : OpF C r g) (ha : EdB C ta fa) : EdF C (tCB r ta) (dNF g fa) := fun H0 ext reg en σ H rs Q w =>
  ha.seq rs (W := WrF C (own ext reg) H Q) w (fun _ q => q) (fun q => q) fun x v H2 e2 r2 h2 w2 => hr ext (own ext reg) H2 v x Q (fun a z => .inl z) (fun a z => r2.there z) h2 (by
    generalize g x = y at w2 ⊢
    cases y with
    | ok ds => exact fun p xs H3 e3 hp hr => w2 p xs H3 (e2.trans e3) hp hr
    | exc c => exact fun H3 e3 => w2 H3 (e2.trans e3)
    | stuck => exact w2)
theorem f_list : OpF C (rListA C.K) listD := fun Y Z H vs xs Q hyz hz hx q => by
  unfold listD at q
  split at q
  · unfold chk at q
    split at q
    · obtain ⟨v, rfl, h⟩ := hx.one
      obtain ⟨p, ys, rfl, hp, hr⟩ := h.lst hyz
      exact .inl ⟨p, ys, rfl, .inl (SqL.of hp), fun l hl => q l ys H (Xt.refl H) hl hr⟩
    · exact q.elim
  · unfold chk at q
    split at q
    · obtain ⟨v, rfl, h⟩ := hx.one
      obtain ⟨p, ys, rfl, hp, hr⟩ := h.tup hyz
      exact .inl ⟨p, ys, rfl, .inr hp, fun l hl => q l ys H (Xt.refl H) hl hr⟩
    · exact q.elim
  · split at q
    · rename_i z hl
      obtain ⟨v, rfl, h⟩ := hx.one
      exact .inr (.inl ⟨z, by rw [h.str], sz_of hl, fun l hl => q l _ H (Xt.refl H) hl (rpa_signs _)⟩)
    · exact q.elim
  · obtain ⟨v, rfl, h⟩ := hx.one
    obtain ⟨p, kvs, rfl, hp, hr⟩ := h.dct hyz
    exact .inr (.inr ⟨p, kvs, rfl, hp, fun l hl => q l _ H (Xt.refl H) hl hr.keys⟩)
  · exact q.elim
/-! ### list(range(a, b)) -/
def lrg2 : List PD → R (List PD)
  | [.int i, .int j] => if (-(2 ^ 62) ≤ i ∧ i < 2 ^ 62 ∧ -(2 ^ 62) ≤ j ∧ j < 2 ^ 62) ∧ (j - i).toNat ≤ szN then .ok (rngL i (j - i).toNat) else .stuck
  | _ => .stuck
theorem rpa_rng {K : PySem.W.Frag} {H : Hp} (a : Int) : ∀ (l : List Nat), RpA K H (l.map fun (i : Nat) => V.int (a + (i : Int))) (l.map fun (i : Nat) => PyData.int (a + (i : Int)))
  | [] => .nil
  | n :: r => .cons (.int _) (rpa_rng a r)
theorem ef_lrg2 {t1 t2 : TE} {f1 f2 : En → R PD} (h1 : EdL C t1 f1) (h2 : EdL C t2 f2) : EdF C (tLstRg (tRg2 t1 t2)) (dNF lrg2 (dCons f1 (dCons f2 dNil))) := fun H0 ext reg en σ H rs Q w => by
  unfold dNF dCons dNil at w
  cases e1 : f1 en with
  | exc c => rw [e1] at w; exact h1 H0 ext reg en σ H rs _ (by rw [e1]; exact w)
  | stuck => rw [e1] at w; exact w.elim
  | ok x =>
    rw [e1] at w
    simp only [R.bind_ok] at w
    refine h1 H0 ext reg en σ H rs _ ?_
    rw [e1]
    intro v H2 e2 hv
    show t2 σ H2 _
    cases e3 : f2 en with
    | exc c => rw [e3] at w; exact h2 H0 ext reg en σ H2 (rs.ex e2) _ (by rw [e3]; exact fun H3 e => w H3 (e2.trans e))
    | stuck => rw [e3] at w; exact w.elim
    | ok y =>
      rw [e3] at w
      simp only [R.bind_ok] at w
      refine h2 H0 ext reg en σ H2 (rs.ex e2) _ ?_
      rw [e3]
      intro u H3 e4 hu
      unfold lrg2 at w
      split at w
      · rename_i i j eq
        cases eq
        split at w
        · rename_i hl
          refine ⟨i, j, hv.int, hu.int, ⟨hl.1.1, hl.1.2.1, hl.1.2.2.1, hl.1.2.2.2, Nat.le_trans hl.2 (by decide)⟩, fun q hq => w q _ H3 (e2.trans e4) hq (rpa_rng i _)⟩
        · exact w.elim
      · exact w.elim
end
end Dn

/-! enumerate of a text; sorted keys. -/
namespace Dn
open PySem L2 PyProof.Rows
/-- the signs of a text, each in a new pair with its place -/
def ItEs (x : Str) : It := ⟨fun i _ => i < x.cps.size, fun i H v H' => ∃ T c, v = .ref T ∧ H T = none ∧ x.cps[i]? = some c ∧ H' = upd H T (.tup [.int (i : Nat), .str ⟨#[c]⟩]), fun i _ => x.cps.size = i⟩
theorem turn_enumS {P : Program} {w : World} {K : PySem.W.Frag} {elts : List Expr} {kk : Nat} {tpos : Pos} (x : Str) (t : Tok) (e it : Addr) :
    Turn P w K (.Tuple elts kk tpos) (ItEs x) [e, it] e (fun i h => (∃ old, IsEnum h e it ((i : Nat) : Int) old) ∧ h.IsStrIter it (strIterType x) x t i ∧ e ≠ it) where
  mem := by simp
  obj := fun i h st b hb => by
    obtain ⟨⟨old, he⟩, ⟨o, ho, hc, hd⟩, _⟩ := st
    have e' : b = e ∨ b = it := by simpa using hb
    rcases e' with z | z
    · rw [z]; exact ⟨_, he, fun v q => nomatch q⟩
    · rw [z]; exact ⟨o, ho, fun v q => by rw [hd] at q; cases q⟩
  keep := fun i h h' st k => let ⟨⟨old, he⟩, ⟨o, ho, r⟩, hne⟩ := st; ⟨⟨old, k e (by simp) _ he⟩, ⟨o, k it (by simp) o ho, r⟩, hne⟩
  item := by
    intro X hP hw hK hc i pins s σ H E I hf st hg
    subst hP hw hK
    obtain ⟨⟨old, he⟩, hit, hne⟩ := st
    have hel : e < s.heap.objs.size := Heap.lt_size he
    have hil : it < s.heap.objs.size := by obtain ⟨_, q, _⟩ := hit; exact Heap.lt_size q
    refine wpAny_pyNext_enum_itemD (Draws.text (A := X.A.in1) (I.ok.hd hc) it x t) he hit hg hne (by simpa using hne) fun u h' tk hP ho hit' hT hsz hk => ?_
    obtain ⟨c, tc, hcx, rfl⟩ := hP
    refine ⟨_, rfl, wpAny_letOwnedTupleGo_enum (s := { s with heap := h', toks := tk + 1 }) ho fun h'' he' sb => ?_⟩
    have hT2 : h''.get? s.heap.objs.size = some { cls := .type "tuple", data := .seq #[.int i tk, .str ⟨#[c]⟩ tc] } := (sb.2 _ (Nat.ne_of_gt hel)).trans hT
    have new : ObjOk X.prog X.w (upd H s.heap.objs.size (.tup [.int (i : Nat), .str ⟨#[c]⟩])) h'' s.heap.objs.size (.tup [.int (i : Nat), .str ⟨#[c]⟩]) :=
      ⟨by show 2 ≤ sizeLine; decide, [.int i tk, .str ⟨#[c]⟩ tc], .cons ⟨_, rfl⟩ (.cons ⟨_, rfl⟩ .nil), ⟨_, hT2, rfl, _, rfl⟩⟩
    have I1 : Inv X pins σ (upd H s.heap.objs.size (.tup [.int (i : Nat), .str ⟨#[c]⟩])) { s with heap := h'', toks := tk + 1 } :=
      I.turnedNew (ch := [e, it]) (fun b ob hb q => (sb.2 b (fun z => hb (by simp [z]))).trans (hk b ob (fun z => hb (by simp [z])) (fun z => hb (by simp [z])) q)) hf (Nat.le_refl _) new
    refine ⟨.ref s.heap.objs.size, _, I1, rfl, ⟨_, c, rfl, I.hok.fresh (Nat.le_refl _), hcx, rfl⟩, ⟨⟨.str ⟨#[c]⟩ tc, ?_⟩, ?_, hne⟩, fun b hb => ?_⟩
    · have e1 : ((i + 1 : Nat) : Int) = (i : Int) + 1 := by omega
      rw [e1]; exact he'
    · obtain ⟨o, q, r⟩ := hit'
      exact ⟨o, (sb.2 it (Ne.symm hne)).trans q, r⟩
    · have hb' : b < s.heap.objs.size := by
        have e' : b = e ∨ b = it := by simpa using hb
        rcases e' with z | z
        · rw [z]; exact hel
        · rw [z]; exact hil
      rw [upd_ne (Nat.ne_of_lt hb')]
      exact (hf b hb).1
  done := by
    intro X hP hw hK hc i pins s σ H E I hf st hg
    subst hP hw hK
    obtain ⟨⟨old, he⟩, hit, hne⟩ := st
    obtain ⟨f0, f1, f2, f3, f4, f5⟩ := hf it (by simp)
    have hg' : x.cps.size = i := hg
    exact wpAny_pyNext_enum_endD (Draws.text (A := X.A.in1) (I.ok.hd hc) it x t) he (by rw [hg']; exact hit) fun h' eb => ⟨rfl, I.turned (t' := s.toks) (fun b o hb q => eb b o hb q) f0 f1 f3 f4 f5⟩
  self := fun A i s Q E st h => let ⟨⟨_, he⟩, _⟩ := st; wpAny_pyIter_enum he h
def iEnumS (ta : TA) : TI := fun σ H R => ta σ H fun vs H1 => ∃ z : Str, vs = [.str z] ∧ R (ItEs z) H1
theorem pi_enumS {X : Cx} {e : Expr} {ta : TA} {p pos tpos : Pos} {elts : List Expr} {kk : Nat} (hg : Gl X "enumerate") (hm : X.mg "enumerate" = none) (ha : PA X [e] ta) (hs : starEach [e] X.env = [(false, eval e X.env)] := by rfl) :
    PI X (.Tuple elts kk tpos) (.Call (.Name "enumerate" p) [e] [] pos) (iEnumS ta) := by
  refine ⟨fun pins s σ H R I h => ?_⟩
  refine Call_ (ld_blt I hg hm boot_enumerate (PyProof.Rows.callWith_type1 (thn (ha.run pos pins s σ H _ I h) fun us s1 ⟨vs, H1, I1, r1, q1⟩ => ?_) hs rfl))
  obtain ⟨z, ex, q⟩ := q1
  subst ex
  obtain ⟨u, rfl, t, rfl⟩ := vals1 r1
  refine call_enumerate_str fun h' he hit hsz hk => wpAny_pyIter_enum he ?_
  have I2 : Inv X pins σ H1 { s1 with heap := h' } := I1.kept (t' := s1.toks) hk
  refine ⟨s1.heap.objs.size + 1, [s1.heap.objs.size + 1, s1.heap.objs.size], _, _, H1, rfl, I2, turn_enumS z t (s1.heap.objs.size + 1) s1.heap.objs.size, ⟨⟨.none, he⟩, hit, Nat.succ_ne_self _⟩, fun b hb => ?_, q⟩
  have e' : b = s1.heap.objs.size + 1 ∨ b = s1.heap.objs.size := by simpa using hb
  have hle : s1.heap.objs.size ≤ b := by
    rcases e' with z | z
    · rw [z]; exact Nat.le_add_right _ _
    · rw [z]; exact Nat.le_refl _
  exact I1.fpOk hle (I1.hok.fresh hle)
/-! ### texts in order -/
def leT (a b : Str) : Bool := !Spec.ltCps b.cps.toList a.cps.toList
theorem leT_iff (a b : Str) : leT a b = true ↔ a.cps.toList ≤ b.cps.toList := by
  unfold leT
  rw [PyProof.Rows.ltCps_eq]
  show (!decide _) = true ↔ ¬ (b.cps.toList < a.cps.toList)
  simp
theorem leT_trans {a b c : Str} (h : leT a b = true) (h' : leT b c = true) : leT a c = true := (leT_iff _ _).mpr (List.le_trans ((leT_iff _ _).mp h) ((leT_iff _ _).mp h'))
theorem str_ext {a b : Str} (h : a.cps.toList = b.cps.toList) : a = b := by
  obtain ⟨⟨x⟩⟩ := a
  obtain ⟨⟨y⟩⟩ := b
  cases (show x = y from h)
  rfl
theorem leT_anti {a b : Str} (h : leT a b = true) (h' : leT b a = true) : a = b := str_ext (List.le_antisymm ((leT_iff _ _).mp h) ((leT_iff _ _).mp h'))
theorem leT_total (a b : Str) : leT a b = true ∨ leT b a = true := by
  rcases List.le_total a.cps.toList b.cps.toList with h | h
  · exact .inl ((leT_iff _ _).mpr h)
  · exact .inr ((leT_iff _ _).mpr h)
def insT (x : Str) : List Str → List Str
  | [] => [x]
  | y :: r => if leT x y = true then x :: y :: r else y :: insT x r
def sortT : List Str → List Str
  | [] => []
  | x :: r => insT x (sortT r)
theorem insT_perm (x : Str) : ∀ l, (insT x l).Perm (x :: l)
  | [] => .refl _
  | y :: r => by
    unfold insT
    split
    · exact .refl _
    · exact ((insT_perm x r).cons y).trans (.swap x y r)
theorem sortT_perm : ∀ l, (sortT l).Perm l
  | [] => .refl _
  | x :: r => (insT_perm x (sortT r)).trans ((sortT_perm r).cons x)
abbrev OrdT (l : List Str) : Prop := l.Pairwise fun a b => leT a b = true
theorem insT_ord (x : Str) : ∀ l, OrdT l → OrdT (insT x l)
  | [], _ => List.pairwise_singleton _ _
  | y :: r, h => by
    unfold insT
    rw [OrdT, List.pairwise_cons] at h
    split
    · rename_i hl
      refine List.pairwise_cons.mpr ⟨fun z hz => ?_, List.pairwise_cons.mpr h⟩
      rcases List.mem_cons.mp hz with rfl | hz
      · exact hl
      · exact leT_trans hl (h.1 z hz)
    · rename_i hl
      refine List.pairwise_cons.mpr ⟨fun z hz => ?_, insT_ord x r h.2⟩
      rcases List.mem_cons.mp ((insT_perm x r).mem_iff.mp hz) with rfl | hz
      · exact (leT_total z y).resolve_left hl
      · exact h.1 z hz
theorem sortT_ord : ∀ l, OrdT (sortT l)
  | [] => List.Pairwise.nil
  | x :: r => insT_ord x _ (sortT_ord r)
theorem ord_uniq : ∀ (l m : List Str), l.Perm m → OrdT l → OrdT m → l = m
  | [], m, p, _, _ => (List.nil_perm.mp p).symm
  | a :: l, [], p, _, _ => (nomatch List.perm_nil.mp p)
  | a :: l, b :: m, p, h, h' => by
    rw [OrdT, List.pairwise_cons] at h h'
    have e : a = b := by
      have ha := p.mem_iff.mp (List.mem_cons_self (a := a) (l := l))
      have hb := p.mem_iff.mpr (List.mem_cons_self (a := b) (l := m))
      rcases List.mem_cons.mp ha with e | ha
      · exact e
      · rcases List.mem_cons.mp hb with e | hb
        · exact e.symm
        · exact leT_anti (h.1 b hb) (h'.1 a ha)
    subst e
    rw [ord_uniq l m (List.Perm.cons_inv p) h.2 h'.2]
theorem rising_ord : ∀ (p : Str) (l : List Str), risingS p l = true → OrdT (p :: l)
  | p, [], _ => List.pairwise_singleton _ _
  | p, x :: r, h => by
    unfold risingS at h
    rw [Bool.and_eq_true] at h
    have ih := rising_ord x r h.2
    refine List.pairwise_cons.mpr ⟨fun z hz => ?_, ih⟩
    rcases List.mem_cons.mp hz with rfl | hz
    · exact h.1
    · exact leT_trans h.1 ((List.pairwise_cons.mp ih).1 z hz)
theorem sorted_ord : ∀ (l : List Str), sortedS l = true → OrdT l
  | [], _ => List.Pairwise.nil
  | x :: r, h => rising_ord x r h
theorem sorted_eq {ys ks : List Str} (p : ys.Perm ks) (h : sortedS ys = true) : ys = sortT ks := ord_uniq _ _ (p.trans (sortT_perm ks).symm) (sorted_ord _ h) (sortT_ord ks)
def rSortDK : List V → Hp → VK → Prop := fun xs H Q => ∃ (a : Addr) (kvs : List (Key × V)) (ks : List Str), xs = [.ref a] ∧ Rd H a (.dK kvs) ∧ kvs.map (·.1) = ks.map Sum.inr ∧ ks.length < 64 ∧
    ∀ ys p, ys.Perm ks → sortedS ys = true → H p = none → Q (.ref p) (upd H p (.lst (ys.map V.str)))
def rSortA (K : PySem.W.Frag) : List V → Hp → VK → Prop := cOr rSortDK (rSortedS K)
variable [Tabl]
theorem kx_sorted {X : Cx} (K : PySem.W.Frag) (h : X.K = K) (hc : X.calm = true) : CallR X (.builtin "sorted") (rSortA K) := by
  subst h
  exact callOr (call_sortedD hc) cr_sortedS
def sortD : List PD → R (List PD)
  | [.dict es] => match asStrs (es.map (·.1)) with
    | some ks => if ks.length < 64 then .ok ((sortT ks).map .str) else .stuck
    | none => .stuck
  | [.list ds] => match asStrs ds with
    | some ks => if ks.length < 64 then .ok ((sortT ks).map .str) else .stuck
    | none => .stuck
  | _ => .stuck
theorem RpK.strs {K : PySem.W.Frag} {H : Hp} : ∀ {kvs : List (Key × V)} {es : List (PD × PD)} {ks : List Str}, RpK K H kvs es → asStrs (es.map (·.1)) = some ks → kvs.map (·.1) = ks.map Sum.inr
  | _, _, ks, .nil, e => by cases e; rfl
  | _, _, ks, .cons (k := k) (ds := ds) h r, e => by
    cases k with
    | inl i => cases e
    | inr x =>
      have e' : (asStrs (ds.map (·.1))).map (x :: ·) = some ks := e
      cases q : asStrs (ds.map (·.1)) with
      | none => rw [q] at e'; cases e'
      | some l =>
        rw [q] at e'
        cases e'
        rw [List.map_cons, List.map_cons, RpK.strs r q]
theorem f_sorted {C : Cn} : OpF C (rSortA C.K) sortD := fun Y Z H vs xs Q hyz hz hx q => by
  unfold sortD at q
  split at q
  · split at q
    · rename_i es ks ek
      split at q
      · rename_i hl
        obtain ⟨v, rfl, h⟩ := hx.one
        obtain ⟨p, kvs, rfl, hp, hr⟩ := h.dct hyz
        exact .inl ⟨p, kvs, ks, rfl, hp, hr.strs ek, hl, fun ys l hperm hsort hl => by
          rw [sorted_eq hperm hsort]
          exact q l _ H (Xt.refl H) hl (rpa_strs _)⟩
      · exact q.elim
    · exact q.elim
  · split at q
    · rename_i ds ks ek
      split at q
      · rename_i hl
        obtain ⟨v, rfl, h⟩ := hx.one
        obtain ⟨p, vs, rfl, hp, hr⟩ := h.lst hyz
        rw [hr.asStrs ek] at hp
        exact .inr ⟨p, ks, rfl, SqL.of hp, hl, fun ys l hperm hsort hl => by
          rw [sorted_eq hperm hsort]
          exact q l _ H (Xt.refl H) hl (rpa_strs _)⟩
      · exact q.elim
    · exact q.elim
  · exact q.elim
def signL (z : Str) : List PD := z.cps.toList.map fun c => .str ⟨#[c]⟩
def enumT : List PD → R (List PD)
  | [.str z] => .ok (enumFrom 0 (signL z))
  | _ => .stuck
section
variable {C : Cn}
/-- a walk that stands past its end only at its end -/
theorem ei_enumS {ta : TA} {fa : En → R (List PD)} (h : EdB C ta fa) : EdI C (iEnumS ta) (dItA enumT fa) := fun H0 ext reg en σ H rs Q w =>
  h.seq rs (W := WrI C (own ext reg) H Q) w (fun _ q => q) (fun q => q) fun x v H2 e2 r2 h2 w2 => by
    unfold enumT at w2
    split at w2
    · rename_i z
      obtain ⟨v, rfl, hv⟩ := h2.one
      obtain rfl := hv.str
      refine ⟨z, rfl, w2 _ H2 e2 fun Z H' e' hz i => ⟨fun d hd => ?_, fun hl => ?_⟩⟩
      · obtain ⟨y, hy, rfl⟩ := enumFrom_get hd
        unfold signL at hy
        rw [List.getElem?_map] at hy
        cases ec : z.cps.toList[i]? with
        | none => rw [ec] at hy; cases hy
        | some c =>
          rw [ec] at hy
          cases hy
          rw [Array.getElem?_toList] at ec
          refine ⟨?_, ?_⟩
          · show i < z.cps.size
            exact (Array.getElem?_eq_some_iff.mp ec).1
          · rintro u H'' ⟨T, c', rfl, nT, hc', rfl⟩
            rw [ec] at hc'
            cases hc'
            rw [Nat.zero_add]
            exact ⟨Xt.new nT, Rp.newT hz nT (.cons (.int _) (.cons (.str _) .nil))⟩
      · show z.cps.size = i
        rw [← hl, enumFrom_len]
        unfold signL
        simp
    · exact w2.elim
end
end Dn

/-! several names at once, new things among them; new dicts; expressions that change what a slot owns. -/
namespace Dn
open PySem L2
variable [Tabl]
section
variable {K : PySem.W.Frag} {H0 H : Hp} {ext : AS} {reg : Nat → AS} {en : En} {σ : L2.St}
/-- a new thing that is a stranger's -/
theorem RS.alien (r : RS K H0 ext reg en σ H) {p : Addr} {o : HO} (hp : H p = none) (ht : isTb o = false := by rfl) : RS K (hid (upd H p o) fun a => ∃ i, reg i a) (fun a => ext a ∨ a = p) reg en σ (upd H p o) := by
  have q := (r.ex (Xt.new (o := o) hp)).lift
  have np : ∀ i, ¬ reg i p := fun i z => by
    obtain ⟨u, e, _⟩ := (r.rg i p z).2
    rw [hp] at e
    cases e
  refine ⟨q.le, q.tb, fun a h => ?_, q.rg, q.dj, q.ro, q.len, fun j sv e => ?_⟩
  · rcases h with h | h
    · exact q.exd a h
    · exact ⟨o, by rw [h, hid_at fun ⟨i, z⟩ => np i z, upd_same], ht⟩
  · obtain ⟨v, h1, h2⟩ := r.sl j sv e
    refine ⟨v, h1, h2.mono (Ex.of fun a u q => ?_) fun a u z q n => (Ex.new hp).k a u q n⟩
    obtain ⟨z, q⟩ := hid_some q
    have ne : a ≠ p := fun e => by
      rw [e, hp] at q
      cases q
    rw [hid_at fun t => by
      rcases t with (t | t) | t
      · exact z (.inl t)
      · exact ne t
      · exact z (.inr t), upd_ne ne]
    exact q
end
/-! ### a, b = x, y -/
def setAll (σ : L2.St) : List Nat → List V → L2.St
  | i :: is, v :: vs => setAll (σ.set i (some v)) is vs
  | _, _ => σ
def WrP (C : Cn) (H0 : Hp) (ext : AS) (σ : L2.St) (H : Hp) (tg : List Nat) (Q : List V → Hp → Prop) : R En → Prop
  | .ok en2 => ∀ vs reg2 H2, Xt H H2 → vs.length = tg.length → RS C.K H0 ext reg2 en2 (setAll σ tg vs) H2 → Q vs H2
  | .exc c => ∀ H2, Xt H H2 → C.E (.ref (C.cl c)) none H2
  | .stuck => False
def EdP (C : Cn) (ta : TA) (tg : List Nat) (f : En → En → R En) : Prop := ∀ (H0 : Hp) (ext : AS) (reg : Nat → AS) (en : En) (σ : L2.St) (H : Hp), RS C.K H0 ext reg en σ H →
  ∀ (H0' : Hp) (ext' : AS) (reg' : Nat → AS) (en' : En) (σ' : L2.St), RS C.K H0' ext' reg' en' σ' H → (∀ a, own ext' reg' a → own ext reg a) → ∀ Q, WrP C H0' ext' σ' H tg Q (f en en') → ta σ H Q
def pNil : En → En → R En := fun _ e => .ok e
def pS (i : Nat) (fa : En → R PD) (fr : En → En → R En) : En → En → R En := fun en e => (fa en).bind fun d => fr en (e.set i (.sh d))
def pF (i : Nat) (fa : En → R (List PD)) (fr : En → En → R En) : En → En → R En := fun en e => (fa en).bind fun ds => if i < e.length then fr en (e.set i (.ol ds)) else .stuck
def pD (i : Nat) (fr : En → En → R En) : En → En → R En := fun en e => if i < e.length then fr en (e.set i (.od [])) else .stuck
section
variable {C : Cn} {te : TE} {ta : TA} {tg : List Nat} {fr : En → En → R En}
theorem WrP.push {H0 : Hp} {ext : AS} {σ : L2.St} {H H2 : Hp} {i : Nat} {v : V} {Q : List V → Hp → Prop} {r : R En} (e : Xt H H2) (w : WrP C H0 ext σ H (i :: tg) Q r) : WrP C H0 ext (σ.set i (some v)) H2 tg (fun vs H3 => Q (v :: vs) H3) r := by
  cases r with
  | ok en2 => exact fun vs reg2 H3 e3 hl r3 => w (v :: vs) reg2 H3 (e.trans e3) (by simp [hl]) r3
  | exc c => exact fun H3 e3 => w H3 (e.trans e3)
  | stuck => exact w
theorem ep_nil : EdP C tNil [] pNil := fun H0 ext reg en σ H rs H0' ext' reg' en' σ' rb hs Q w => w [] reg' H (Xt.refl H) rfl rb
theorem ep_S {i : Nat} {fa : En → R PD} (h : EdS C te fa) (hr : EdP C ta tg fr) : EdP C (tCons te ta) (i :: tg) (pS i fa fr) := fun H0 ext reg en σ H rs H0' ext' reg' en' σ' rb hs Q w =>
  h.seq rs (W := WrP C H0' ext' σ' H (i :: tg) Q) w (fun _ q => q) (fun q => q) fun d v H2 e2 r2 h2 w2 =>
    hr H0 ext reg en σ H2 r2 H0' ext' _ _ _ ((rb.ex e2).set (i := i) (h2.mono ((Ex.refl H2).hidLess hs).le)) (fun a z => hs a (own_drp z)) _ (w2.push e2)
theorem ep_F {i : Nat} {fa : En → R (List PD)} (h : EdF C te fa) (hr : EdP C ta tg fr) : EdP C (tCons te ta) (i :: tg) (pF i fa fr) := fun H0 ext reg en σ H rs H0' ext' reg' en' σ' rb hs Q w => h H0 ext reg en σ H rs _ (by
  unfold pF at w
  generalize fa en = x at w ⊢
  cases x with
  | ok ds =>
    intro p xs H2 e2 hp hx
    simp only [R.bind_ok] at w
    split at w
    · rename_i hi
      have e3 : Xt H2 (upd H2 p (.lst xs)) := Xt.new hp
      refine hr _ _ reg en σ _ ((rs.ex e2).alien hp) H0' ext' _ _ _ ((rb.ex e2).new (i := i) (sv := .ol ds) hi rfl hp ⟨p, xs, rfl, rfl, upd_same, hx.mono ((Ex.refl H2).hidLess hs).le⟩) (fun a z => ?_) _ (w.push (e2.trans e3))
      rcases z with z | ⟨j, ⟨_, z⟩ | ⟨_, z⟩⟩
      · rcases hs a (.inl z) with q | q
        · exact .inl (.inl q)
        · exact .inr q
      · rcases hs a (.inr ⟨j, z⟩) with q | q
        · exact .inl (.inl q)
        · exact .inr q
      · exact .inl (.inr z)
    · exact w.elim
  | exc c => exact w
  | stuck => exact w.elim)
theorem ep_D {i : Nat} (hr : EdP C ta tg fr) : EdP C (tCons tDNewK ta) (i :: tg) (pD i fr) := fun H0 ext reg en σ H rs H0' ext' reg' en' σ' rb hs Q w => fun p hp => by
  unfold pD at w
  split at w
  · rename_i hi
    have e3 : Xt H (upd H p (.dK [])) := Xt.new hp
    refine hr _ _ reg en σ _ (rs.alien hp) H0' ext' _ _ _ (rb.new (i := i) (sv := .od []) hi rfl hp ⟨p, [], rfl, rfl, upd_same, .nil⟩) (fun a z => ?_) _ (w.push e3)
    rcases z with z | ⟨j, ⟨_, z⟩ | ⟨_, z⟩⟩
    · rcases hs a (.inl z) with q | q
      · exact .inl (.inl q)
      · exact .inr q
    · rcases hs a (.inr ⟨j, z⟩) with q | q
      · exact .inl (.inl q)
      · exact .inr q
    · exact .inl (.inr z)
  · exact w.elim
def sParM (f : En → En → R En) : En → R Fl := fun en => (f en en).bind fun e => .ok (.nx e)
theorem es_par2 {i j : Nat} {f : En → En → R En} (h : EdP C ta [i, j] f) : Es C (tPar i j ta) (sParM f) := fun H0 ext reg en σ H rs D w => h H0 ext reg en σ H rs H0 ext reg en σ rs (fun _ z => z) _ (by
  unfold sParM at w
  generalize f en en = x at w ⊢
  cases x with
  | ok e =>
    intro vs reg2 H2 e2 hl r2
    match vs, hl with
    | [u, v], _ => exact ⟨u, v, rfl, w _ _ _ r2⟩
  | exc c => exact WS.exc w rs.le rs.tb
  | stuck => exact w.elim)
theorem es_par3 {i j l : Nat} {f : En → En → R En} (h : EdP C ta [i, j, l] f) : Es C (tPar3 i j l ta) (sParM f) := fun H0 ext reg en σ H rs D w => h H0 ext reg en σ H rs H0 ext reg en σ rs (fun _ z => z) _ (by
  unfold sParM at w
  generalize f en en = x at w ⊢
  cases x with
  | ok e =>
    intro vs reg2 H2 e2 hl r2
    match vs, hl with
    | [u, v, z], _ => exact ⟨u, v, z, rfl, w _ _ _ r2⟩
  | exc c => exact WS.exc w rs.le rs.tb
  | stuck => exact w.elim)
/-- x = {} -/
def sAsgD (i : Nat) : En → R Fl := fun en => if i < en.length then .ok (.nx (en.set i (.od []))) else .stuck
theorem es_asgD {i : Nat} : Es C (tAsg tDNewK (gName i)) (sAsgD i) := fun H0 ext reg en σ H rs D w => fun p hp => by
  unfold sAsgD at w
  split at w
  · rename_i hi
    exact w _ _ _ (rs.new (i := i) (sv := .od []) hi rfl hp ⟨p, [], rfl, rfl, upd_same, .nil⟩)
  · exact w.elim
end
/-! ### expressions that change what a slot owns -/
def WrE (C : Cn) (H0 : Hp) (ext : AS) (reg : Nat → AS) (σ : L2.St) (H : Hp) (Q : VK) : R (PD × En) → Prop
  | .ok (d, en') => ∀ v reg' H2, Ex (hid H (own ext reg)) (hid H2 (own ext reg')) → RS C.K H0 ext reg' en' σ H2 → Rp C.K (hid H2 (own ext reg')) v d → Q v H2
  | .exc c => ∀ H2, Ex H0 H2 → LamX.Tabs Tabl.T H2 → C.E (.ref (C.cl c)) none H2
  | .stuck => False
def EdE (C : Cn) (te : TE) (f : En → R (PD × En)) : Prop := ∀ (H0 : Hp) (ext : AS) (reg : Nat → AS) (en : En) (σ : L2.St) (H : Hp), RS C.K H0 ext reg en σ H → ∀ Q : VK, WrE C H0 ext reg σ H Q (f en) → te σ H Q
def eS (fa : En → R PD) : En → R (PD × En) := fun en => (fa en).bind fun d => .ok (d, en)
def ePop (i : Nat) (fa : En → R PD) : En → R (PD × En) := fun en => match en[i]? with
  | some (.ol ds) => (fa en).bind fun k => match k with
    | .int j => if -(2 ^ 63) ≤ j ∧ j < 2 ^ 63 then match seqIndex? j ds.length with
      | some n => match ds[n]? with
        | some d => .ok (d, en.set i (.ol (ds.eraseIdx n)))
        | none => .stuck
      | none => .stuck
      else .stuck
    | _ => .stuck
  | _ => .stuck
def eCall (F : List PD → R PD) (f : En → R (PD × En)) : En → R (PD × En) := fun en => (f en).bind fun p => (F [p.1]).bind fun r => .ok (r, p.2)
section
variable {C : Cn} {te ta : TE} {fa : En → R PD} {fe : En → R (PD × En)}
theorem ee_S (h : EdS C te fa) : EdE C te (eS fa) := fun H0 ext reg en σ H rs Q w =>
  h.seq rs (W := WrE C H0 ext reg σ H Q) w (fun _ q H2 e2 => q H2 (rs.le.trans e2.toEx) (e2.t rs.tb)) (fun q => q) fun d v H2 e2 r2 h2 w2 => w2 v reg H2 e2.toEx.hid r2 h2
theorem ee_pop {i : Nat} (h : EdL C ta fa) : EdE C (tBM C.K "list" rPopAt (tVar i) (tCons ta tNil)) (ePop i fa) := fun H0 ext reg en σ H rs Q w => by
  unfold ePop at w
  cases e : en[i]? with
  | none => rw [e] at w; exact w.elim
  | some sv =>
    rw [e] at w
    cases sv with
    | ol ds =>
      obtain ⟨p, xs, h1, h2, h3, h4⟩ := rs.at e
      refine ⟨.ref p, h1, .inl ⟨rfl, xs, SqL.of h3⟩, h.seq rs (W := WrE C H0 ext reg σ H Q) w (fun _ q H2 e2 => q H2 (rs.le.trans e2.toEx) (e2.t rs.tb)) (fun q => q) fun d v H2 e2 r2 hv w2 => ?_⟩
      split at w2
      · rename_i j
        split at w2
        · rename_i hj
          split at w2
          · rename_i n en'
            split at w2
            · rename_i d ed
              have h4' := h4.mono e2.toEx.hid.le
              obtain ⟨y, hy, ry⟩ := h4'.get ed
              refine ⟨p, xs, j, n, y, rfl, by rw [hv.int], e2.l h3, hj.1, hj.2, by rw [h4.length]; exact en', hy, w2 y reg _ ?_ (r2.wr (sv := .ol (ds.eraseIdx n)) rfl ⟨_, e2.l h3, rfl⟩ h2 h1 ⟨p, _, rfl, h2, upd_same, h4'.erase n⟩) ?_⟩
              · rw [hid_upd (.inr ⟨i, h2⟩)]
                exact e2.toEx.hid
              · rw [hid_upd (.inr ⟨i, h2⟩)]
                exact ry
            · exact w2.elim
          · exact w2.elim
        · exact w2.elim
      · exact w2.elim
    | _ => exact w.elim
theorem ee_call {F : List PD → R PD} (h : EdE C te fe) : EdE C (tCall (spF C.K C.cl 1 F) [] C.E (tCons te tNil)) (eCall F fe) := fun H0 ext reg en σ H rs Q w => h H0 ext reg en σ H rs _ (by
  unfold eCall at w
  generalize fe en = x at w ⊢
  cases x with
  | ok p =>
    obtain ⟨d, en'⟩ := p
    simp only [R.bind_ok] at w
    intro v reg' H2 e2 r2 hv
    refine ⟨own ext reg', [d], rfl, r2.tb, fun a z => r2.so z, .cons hv .nil, ?_⟩
    generalize F [d] = y at w ⊢
    cases y with
    | ok r => exact fun u H3 e3 hu => w u reg' H3 (e2.trans e3.toEx.hid) (r2.ex e3) hu
    | exc c => exact fun H3 e3 => w H3 (r2.le.trans e3.toEx) (e3.t r2.tb)
    | stuck => exact w
  | exc c => exact w
  | stuck => exact w)
/-- x = e -/
def sAsgE (i : Nat) (fe : En → R (PD × En)) : En → R Fl := fun en => (fe en).bind fun p => .ok (.nx (p.2.set i (.sh p.1)))
theorem es_asgE {i : Nat} (h : EdE C te fe) : Es C (tAsg te (gName i)) (sAsgE i fe) := fun H0 ext reg en σ H rs D w => h H0 ext reg en σ H rs _ (by
  unfold sAsgE at w
  generalize fe en = x at w ⊢
  cases x with
  | ok p =>
    obtain ⟨d, en'⟩ := p
    exact fun v reg' H2 e2 r2 hv => w _ _ _ (r2.set hv)
  | exc c => exact fun H2 e2 t2 => w H2 e2 t2
  | stuck => exact w)
def sDropE (fe : En → R (PD × En)) : En → R Fl := fun en => (fe en).bind fun p => .ok (.nx p.2)
theorem es_dropE (h : EdE C te fe) : Es C (tDrop te) (sDropE fe) := fun H0 ext reg en σ H rs D w => h H0 ext reg en σ H rs _ (by
  unfold sDropE at w
  generalize fe en = x at w ⊢
  cases x with
  | ok p =>
    obtain ⟨d, en'⟩ := p
    exact fun v reg' H2 e2 r2 hv => w _ _ _ r2
  | exc c => exact fun H2 e2 t2 => w H2 e2 t2
  | stuck => exact w)
/-! ### d[k] = v, the slot's own dict -/
def putD (es : List (PD × PD)) (k : Key) (d : PD) : List (PD × PD) := if (es.any fun e => eqK e.1 k) = true then es.map (fun e => if eqK e.1 k = true then (e.1, d) else e) else es ++ [(kD k, d)]
theorem RpK.app {K : PySem.W.Frag} {H : Hp} : ∀ {vs ws : List (Key × V)} {ds es : List (PD × PD)}, RpK K H vs ds → RpK K H ws es → RpK K H (vs ++ ws) (ds ++ es)
  | _, _, _, _, .nil, s => s
  | _, _, _, _, .cons h r, s => .cons h (RpK.app r s)
theorem RpK.any {K : PySem.W.Frag} {H : Hp} (k : Key) : ∀ {kvs : List (Key × V)} {es : List (PD × PD)}, RpK K H kvs es → (kvs.any fun kv => decide (kv.1 = k)) = es.any fun e => eqK e.1 k
  | _, _, .nil => rfl
  | _, _, .cons (k := j) h r => by
    rw [List.any_cons, List.any_cons, RpK.any k r, eqK_kD]
theorem RpK.repl {K : PySem.W.Frag} {H : Hp} (k : Key) {v : V} {d : PD} (hv : Rp K H v d) : ∀ {kvs : List (Key × V)} {es : List (PD × PD)}, RpK K H kvs es → RpK K H (kvs.map fun kv => if kv.1 = k then (kv.1, v) else kv) (es.map fun e => if eqK e.1 k = true then (e.1, d) else e)
  | _, _, .nil => .nil
  | _, _, .cons (k := j) h r => by
    rw [List.map_cons, List.map_cons, eqK_kD]
    by_cases e : j = k
    · rw [if_pos e, if_pos (decide_eq_true e)]
      exact .cons hv (RpK.repl k hv r)
    · rw [if_neg e, if_neg (by rw [decide_eq_false e]; exact Bool.false_ne_true)]
      exact .cons h (RpK.repl k hv r)
theorem RpK.put {K : PySem.W.Frag} {H : Hp} (k : Key) {v : V} {d : PD} (hv : Rp K H v d) {kvs : List (Key × V)} {es : List (PD × PD)} (r : RpK K H kvs es) : RpK K H (putK kvs k v) (putD es k d) := by
  unfold putK putD
  rw [r.any k]
  split
  · exact r.repl k hv
  · exact r.app (.cons hv .nil)
def sPut (i : Nat) (fy : En → R (PD × En)) (fv : En → R PD) : En → R Fl := fun en => match en[i]? with
  | some (.od _) => (fv en).bind fun v => (fy en).bind fun p => match p.2[i]?, kOf p.1 with
    | some (.od es), some k => if es.length + 1 ≤ szN then .ok (.nx (p.2.set i (.od (putD es k v)))) else .stuck
    | _, _ => .stuck
  | _ => .stuck
theorem RS.atD {K : PySem.W.Frag} {H0 H : Hp} {ext : AS} {reg : Nat → AS} {en : En} {σ : L2.St} {i : Nat} {es : List (PD × PD)} (r : RS K H0 ext reg en σ H) (h : en[i]? = some (.od es)) : ∃ p kvs, σ[i]? = some (some (.ref p)) ∧ reg i p ∧ H p = some (.dK kvs) ∧ RpK K (hid H (own ext reg)) kvs es := by
  obtain ⟨v, h1, p, xs, rfl, h2, h3, h4⟩ := r.sl i _ h
  exact ⟨p, xs, h1, h2, h3, h4⟩
theorem es_put {i : Nat} {ty tv : TE} {fy : En → R (PD × En)} {fv : En → R PD} (hy : EdE C ty fy) (hv : EdS C tv fv) : Es C (sDPut (tVar i) ty tv) (sPut i fy fv) := fun H0 ext reg en σ H rs D w => by
  unfold sPut at w
  cases e : en[i]? with
  | none => rw [e] at w; exact w.elim
  | some sv =>
    rw [e] at w
    cases sv with
    | od es0 =>
      obtain ⟨p, kvs0, h1, _, _, _⟩ := rs.atD e
      refine hv.seq rs (W := WS C H0 ext D) w (fun _ q => WS.exc q rs.le rs.tb) (fun q => q) fun d v H2 e2 r2 h2 w2 => ?_
      refine ⟨.ref p, h1, hy H0 ext reg en σ H2 r2 _ ?_⟩
      generalize fy en = x at w2 ⊢
      cases x with
      | exc c => exact fun H3 e3 t3 => w2 H3 e3 t3
      | stuck => exact w2.elim
      | ok q =>
        obtain ⟨y, en'⟩ := q
        simp only [R.bind_ok] at w2
        intro u reg' H3 e3 r3 hu
        split at w2
        · rename_i es k ei ek
          split at w2
          · rename_i hl
            obtain ⟨p', kvs, h5, h6, h7, h8⟩ := r3.atD ei
            have ep : p' = p := by
              rw [h1] at h5
              cases h5
              rfl
            subst ep
            refine ⟨p', _, rfl, ?_, w2 reg' σ _ (r3.wr (i := i) (sv := .od (putD es k d)) rfl ⟨_, h7, rfl⟩ h6 h5 ⟨p', _, rfl, h6, upd_same, h8.put k (h2.mono e3.le)⟩)⟩
            have eu : u = kV k := (RpL.s (H := H3) hu).key ek
            rw [eu]
            exact DPut.k h7 (sz_lt (by rw [h8.length]; omega))
          · exact w2.elim
        · exact w2.elim
    | _ => exact w.elim
end
end Dn

/-! replace: its texts must be two objects, so a token must be out. -/
namespace Dn
open PySem L2 PySem.Spec PyProof.Rows
section
variable {X : Cx}
/-- behind it a token is out -/
def PE1 (X : Cx) (e : Expr) (t : TE) : Prop := ∀ (pins : List (Addr × Obj)) (s : Shared) (σ : L2.St) (H : Hp) (Q : VK), Inv X pins σ H s → t σ H Q → wpAny (model X.prog X.w) X.A (eval e X.env) (fun v s' => 1 ≤ s'.toks ∧ EP X pins σ Q v s') X.xe s
def PA1 (X : Cx) (es : List Expr) (t : TA) : Prop := ∀ (pos : Pos) (pins : List (Addr × Obj)) (s : Shared) (σ : L2.St) (H : Hp) (Q : List V → Hp → Prop), Inv X pins σ H s → t σ H Q →
  wpAny (model X.prog X.w) X.A (spliced (backTo pos (starEach es X.env))) (fun v s' => 1 ≤ s'.toks ∧ AP X pins σ Q v s') X.xe s
theorem pe1_int {i : Int} {j : Nat} {pos : Pos} : PE1 X (.Constant (.int i) j pos) (tC (.int i)) := fun _ s _ H _ I h => wpAny_Constant_int ⟨Nat.le_add_left 1 s.toks, .int i, H, I.tok _, ⟨_, rfl⟩, h⟩
theorem pa1_here {e : Expr} {es : List Expr} {te : TE} {ta : TA} (ha : PE1 X e te) (hr : PA X es ta) (hs : starEach (e :: es) X.env = (false, eval e X.env) :: starEach es X.env := by rfl) : PA1 X (e :: es) (tCons te ta) := by
  intro pos pins s σ H Q I h
  rw [hs]
  show wpAny _ _ (spliced ((false, eval e X.env) :: backTo pos (starEach es X.env))) _ _ s
  refine Calls.spliced_cons (thn (ha pins s σ H _ I h) fun v s1 ⟨hk, x, H1, I1, r1, q1⟩ => ?_)
  refine wpAny_mono (PySem.wpAny_toks (hr.run pos pins s1 σ H1 _ I1 q1)) (fun us s2 q => ?_) fun _ _ z => z.2
  obtain ⟨hk2, xs, H2, I2, r2, q2⟩ := q
  exact ⟨Nat.le_trans hk hk2, x :: xs, H2, I2, .cons r1 r2, q2⟩
theorem pa1_later {e : Expr} {es : List Expr} {te : TE} {ta : TA} (ha : PE X e te) (hr : PA1 X es ta) (hs : starEach (e :: es) X.env = (false, eval e X.env) :: starEach es X.env := by rfl) : PA1 X (e :: es) (tCons te ta) := by
  intro pos pins s σ H Q I h
  rw [hs]
  show wpAny _ _ (spliced ((false, eval e X.env) :: backTo pos (starEach es X.env))) _ _ s
  refine Calls.spliced_cons (thn (ha.run pins s σ H _ I h) fun v s1 ⟨x, H1, I1, r1, q1⟩ => ?_)
  exact thn (hr pos pins s1 σ H1 _ I1 q1) fun us s2 ⟨hk2, xs, H2, I2, r2, q2⟩ => ⟨hk2, x :: xs, H2, I2, .cons r1 r2, q2⟩
theorem pe1_tup {es : List Expr} {k : Nat} {ta : TA} {pos : Pos} (h : PA1 X es ta) : PE1 X (.Tuple es k pos) (tTup ta) := by
  intro pins s σ H Q I hq
  refine wpAny_Tuple_spliced (thn (h pos pins s σ H _ I hq) fun us s1 ⟨hk, xs, H1, I1, r, z, q⟩ => ⟨by rw [← r.length]; exact z, ?_⟩)
  have hf : H1 s1.heap.objs.size = none := I1.hok.fresh (Nat.le_refl _)
  refine ⟨hk, .ref s1.heap.objs.size, upd H1 s1.heap.objs.size (.tup xs), I1.laid (t' := s1.toks) (fun b u e => Heap.get?_push_of_some _ e) (Nat.le_refl _) ?_, rfl, q _ hf⟩
  exact ⟨z, us, r, IsTup.new _ _⟩
theorem pe1_call {CX : List Env → Hp → Shared → XK → Value → Shared → Prop} {k : Nat} {f : Addr} {fd : FuncData} {ps : List Str} {sp : Sp} {x : Str} {ds : List Value} {dvs : List V} {E : XK} {e : Expr} {es : List Expr} {t : TA} {p pos : Pos}
    (F : FnOk X.prog X.w X.K X.mg X.base CX k f fd ps sp) (hr : Room k X.A) (hg : Gl X x) (hm : X.mg x = some (.ref f)) (hk : PySem.W.keepIn X.K (.ref f) = true) (hb : Binds X.K fd ps ds) (hd : Vals dvs ds) (hx : Passes CX X E)
    (ha : PA1 X (e :: es) t) (hdb : (x == ("__debug__" : Str)) = false := by decide) (he : starEach (e :: es) X.env = (false, eval e X.env) :: starEach es X.env := by rfl) (hpl : (backTo pos (starEach es X.env)).any (·.1) = false := by rfl) :
    PE1 X (.Call (.Name x p) (e :: es) [] pos) (tCall sp dvs E t) := by
  intro pins s σ H Q I h
  refine wpAny_Call_Name_kw (ld_glob I hg hm ?_ hdb)
  refine PySem.W.callWith_K (h₀ := X.base) I.ok.mod.kin hk (thn (ha pos pins s σ H _ I h) fun us s1 ⟨hk1, vs, H1, I1, r, q⟩ => ⟨I1.kIn, ?_⟩) he hpl
  refine wpAny_mono (PySem.wpAny_toks (run_fn F hr hb hd hx I1 r q)) (fun v s2 z => ⟨Nat.le_trans hk1 z.1, z.2⟩) fun _ _ z => z.2
theorem pss1_set {i : Nat} {x : Str} {e : Expr} {te : TE} {u : TS} {rest : List Stmt} {pos' pos : Pos} (hN : X.N.Nodup) (hi : X.N[i]? = some x) (hx : Loc X.env.scope x) (he : PE1 X e te) (h2 : PSsT X rest u) (hs : swapsWith e (some (.Name x pos')) pos.line X.env = pure false := by rfl) (hf : X.fn x = true ∨ X.env.scope.names.lookup x = some .local := by first | exact .inl rfl | exact .inr rfl | assumption) :
    PSs X (.Assign [.Name x pos'] e pos :: rest) (tSeq (tAsg te (gName i)) u) := by
  refine ⟨fun pins s σ H D I h => ?_⟩
  refine wpAny_execs_cons (wpAny_Assign_Name (thn (he pins s σ H _ I h) fun v s1 ⟨hk, y, H1, I1, r1, q1⟩ => ?_) hs)
  refine wpAny_mono (PySem.wpAny_toks (store_ok (Q := fun _ s2 => Inv X pins (σ.set i (some y)) H1 s2) I1 hN hi hx r1 (fun _ I2 => I2) hf)) (fun _ s2 q => ?_) fun _ _ z => z.2
  exact h2 pins s2 _ H1 D (Nat.le_trans hk q.1) q.2 q1
theorem psst_one {st : Stmt} {t : TS} (h1 : PST X st t) : PSsT X [st] t := by
  intro pins s σ H D h0 I h
  refine wpAny_execs_cons (thn (h1 pins s σ H D h0 I h) fun f s1 q => ?_)
  cases f with
  | next => exact wpAny_execs_nil q
  | ret v => exact q
  | brk => exact q
  | cont => exact q
theorem pst_set {i : Nat} {x : Str} {e : Expr} {te : TE} {pos' pos : Pos} (hN : X.N.Nodup) (hi : X.N[i]? = some x) (hx : Loc X.env.scope x) (he : PET X e te) (hs : swapsWith e (some (.Name x pos')) pos.line X.env = pure false := by rfl) (hf : X.fn x = true ∨ X.env.scope.names.lookup x = some .local := by first | exact .inl rfl | exact .inr rfl | assumption) :
    PST X (.Assign [.Name x pos'] e pos) (tAsg te (gName i)) := by
  intro pins s σ H D h0 I h
  refine wpAny_Assign_Name (thn (he pins s σ H _ h0 I h) fun v s1 ⟨y, H1, I1, r1, q1⟩ => ?_) hs
  exact store_ok I1 hN hi hx r1 (fun s2 I2 => ⟨_, H1, I2, q1⟩) hf
/-- o.replace(y, z) of two written texts -/
def tRepl (y z : Str) (to : TE) : TE := fun σ H Q => to σ H fun x H1 => ∃ a, x = .str a ∧ a.length + (a.length + 1) * z.length ≤ 16777216 ∧ Q (.str (Txt.replace a y z)) H1
theorem pet_repl {o : Expr} {to : TE} {y z : Str} {j0 j1 : Nat} {c0 c1 apos pos : Pos} (hyz : (y == z) = false) (ho : PE X o to)
    (hbase : attributeBase o "replace" X.env (eval o X.env) = eval o X.env := by rfl) (hline : (apos.endLine == pos.line) = true := by rfl) :
    PET X (.Call (.Attribute o "replace" apos) [.Constant (.str y) j0 c0, .Constant (.str z) j1 c1] [] pos) (tRepl y z to) := by
  intro pins s σ H Q h0 I h
  refine PySem.Call_method2 hbase rfl hline (wpAny_mono (PySem.wpAny_toks (ho.run pins s σ H _ I h)) (fun v s1 q => ?_) fun _ _ z => z.2)
  obtain ⟨hk, x, H1, I1, r1, a, rfl, hb, q1⟩ := q
  obtain ⟨t, rfl⟩ := _root_.id r1
  refine ⟨"str", _, F.plainAttrs_str, F.slot_str_replace, F.type_str_replace, typeIs_str _ _ _, (fun _ e => nomatch e), Calls.callWith_builtin rfl (Calls.evalArgs_plain (Calls.spliced_cons ?_))⟩
  refine Calls.Constant_str (Calls.spliced_cons (Calls.Constant_str (Calls.spliced_nil ?_)))
  have h1 : 1 ≤ s1.toks := Nat.le_trans h0 hk
  exact PySem.SC.replace (show s1.toks ≠ 0 by omega) (show s1.toks + 1 ≠ 0 by omega) (show s1.toks ≠ s1.toks + 1 by omega) hyz hb fun t' k => ⟨.str (Txt.replace a y z), H1, I1.tok k, ⟨t', rfl⟩, q1⟩
theorem pet_split {o e : Expr} {to te : TE} {apos pos : Pos} (ho : PET X o to) (he : PE X e te) (hs : starEach [e] X.env = [(false, eval e X.env)] := by rfl) (hbase : attributeBase o "split" X.env (eval o X.env) = eval o X.env := by rfl) (hline : (apos.endLine == pos.line) = true := by rfl) :
    PET X (.Call (.Attribute o "split" apos) [e] [] pos) (tM1 rSplit to te) := by
  intro pins s σ H Q h0 I h
  refine PySem.Call_method1 hbase hs hline (thn (ho pins s σ H _ h0 I h) fun v s1 ⟨x, H1, I1, r1, q1⟩ => ?_)
  obtain ⟨⟨a, rfl⟩, q1⟩ := q1
  obtain ⟨t, rfl⟩ := _root_.id r1
  refine ⟨"str", _, F.plainAttrs_str, F.slot_str_split, F.type_str_split, typeIs_str _ _ _, (fun _ e => nomatch e), Calls.callWith_builtin rfl (Calls.evalArgs_plain (Calls.spliced_cons ?_))⟩
  exact thn (he.run pins s1 σ H1 _ I1 q1) fun u s2 ⟨y, H2, I2, r2, q2⟩ => Calls.spliced_nil (mt_split pins s2 σ H2 _ [y] _ [u] Q I2 r1 (.cons r2 .nil) q2)
end
variable [Tabl]
def replD (y z : Str) : PD → R PD
  | .str a => if a.length + (a.length + 1) * z.length ≤ szN then .ok (.str (Txt.replace a y z)) else .stuck
  | _ => .stuck
theorem ed_repl {C : Cn} {to : TE} {fo : En → R PD} {y z : Str} (h : EdL C to fo) : EdS C (tRepl y z to) (d1 (replD y z) fo) := fun H0 ext reg en σ H rs Q w =>
  h.seq rs (W := WrS C (own ext reg) H Q) w (fun _ q => q) (fun q => q) fun x v H2 e2 r2 h2 w2 => by
    cases x with
    | str a =>
      unfold replD at w2
      dsimp only at w2
      split at w2
      · rename_i hl
        exact ⟨a, h2.str, by (have : szN = 1000000 := rfl); omega, w2 _ H2 e2 (.str _)⟩
      · exact w2.elim
    | _ => exact w2.elim
/-- len(set(texts)) -/
def lenU : PD → R PD
  | .list ds => match asStrs ds with
    | some ys => if ys.length < 2000 then .ok (.int (unlike ys ys.length : Nat)) else .stuck
    | none => .stuck
  | _ => .stuck
theorem ed_lenU {C : Cn} {ta : TE} {fa : En → R PD} (h : EdL C ta fa) : EdS C (tLenU C.K ta) (d1 lenU fa) := fun H0 ext reg en σ H rs Q w =>
  h.seq rs (W := WrS C (own ext reg) H Q) w (fun _ q => q) (fun q => q) fun x v H2 e2 r2 h2 w2 => by
    unfold lenU at w2
    split at w2
    · split at w2
      · rename_i ys ey
        split at w2
        · rename_i hl
          obtain ⟨p, vs, rfl, hp, hr⟩ := h2.lst fun a z => .inl z
          rw [hr.asStrs ey] at hp
          exact ⟨p, ys, rfl, SqL.of hp, hl, w2 _ H2 e2 (.int _)⟩
        · exact w2.elim
      · exact w2.elim
    · exact w2.elim
end Dn
namespace Dn
open PySem L2
theorem kps_dput {X : Cx} {o i value : Expr} {pos pos' : Pos} {td ty tv : TE} (hu : X.A.units + 64 < cLine) (ho : PE X o td) (hi : PE X i ty) (hv : PE X value tv) (hs : swapsWith value (some (.Subscript o i pos')) pos.line X.env = pure false := by rfl) :
    PS X (.Assign [.Subscript o i pos'] value pos) (sDPut td ty tv) := ps_dput (by omega) ho hi hv hs
end Dn

/-! What the printed denotations come to: rows for simp; texts as lists of codes. -/
namespace Dn
open PySem L2
variable [Tabl]
section
variable {fa fb fc : En → R PD} {ft fu : En → R Bool} {f g : En → R Fl} {fr : En → R (List PD)} {en : En} {d : PD} {i : Nat}
@[simp] theorem dVar_ap : dVar i en = (match en[i]? with
  | some (.sh d) => .ok d
  | some (.fz es) => .ok (.dict es)
  | _ => .stuck) := nrf rfl
@[simp] theorem dVarL_ap : dVarL i en = (match en[i]? with
  | some (.sh d) => .ok d
  | some (.ol ds) => .ok (.list ds)
  | some (.od es) => .ok (.dict es)
  | some (.fz es) => .ok (.dict es)
  | _ => .stuck) := nrf rfl
@[simp] theorem dLenR_ap : dLenR i en = (match en[i]? with
  | some (.rl ds) => .ok (.int ds.length)
  | _ => .stuck) := nrf rfl
@[simp] theorem dC_ap : dC d en = .ok d := nrf rfl
@[simp] theorem d2_ap {g : PD → PD → R PD} : d2 g fa fb en = (fa en).bind fun x => (fb en).bind fun y => g x y := nrf rfl
@[simp] theorem d1_ap {g : PD → R PD} : d1 g fa en = (fa en).bind g := nrf rfl
@[simp] theorem dN_ap {g : List PD → R PD} : dN g fr en = (fr en).bind g := nrf rfl
@[simp] theorem dCall_ap {F : List PD → R PD} : dCall F fr en = (fr en).bind F := nrf rfl
@[simp] theorem dNil_ap : dNil en = .ok [] := nrf rfl
@[simp] theorem dCons_ap : dCons fa fr en = (fa en).bind fun x => (fr en).bind fun r => .ok (x :: r) := nrf rfl
@[simp] theorem dTest_ap : dTest fa en = (fa en).bind asB := nrf rfl
@[simp] theorem asB_ap (b : Bool) : asB (.bool b) = .ok b := nrf rfl
@[simp] theorem dAnd_ap : dAnd ft fu en = (ft en).bind fun b => match b with
  | true => fu en
  | false => .ok false := nrf rfl
@[simp] theorem dOr_ap : dOr ft fu en = (ft en).bind fun b => match b with
  | true => .ok true
  | false => fu en := nrf rfl
@[simp] theorem dNot_ap : dNot ft en = (ft en).bind fun b => .ok (!b) := nrf rfl
@[simp] theorem dAndV_ap : dAndV fa fb en = (fa en).bind fun x => match x with
  | .bool true => fb en
  | .bool false => .ok (.bool false)
  | _ => .stuck := nrf rfl
@[simp] theorem dOrV_ap : dOrV fa fb en = (fa en).bind fun x => match x with
  | .bool true => .ok (.bool true)
  | .bool false => fb en
  | _ => .stuck := nrf rfl
@[simp] theorem notD_ap (b : Bool) : notD (.bool b) = .ok (.bool (!b)) := nrf rfl
@[simp] theorem dIf_ap : dIf ft fa fb en = (ft en).bind fun b => match b with
  | true => fa en
  | false => fb en := nrf rfl
@[simp] theorem dChain_ap {g g' : PD → PD → R PD} : dChain g g' fa fb fc en = (fa en).bind fun x => (fb en).bind fun y => (g x y).bind fun z => match z with
  | .bool true => (fc en).bind fun w => g' y w
  | .bool false => .ok (.bool false)
  | _ => .stuck := nrf rfl
@[simp] theorem dSl_ap {fl fh : En → R (Option Int)} : dSl fa fl fh en = (fa en).bind fun x => (fl en).bind fun l => (fh en).bind fun u => slD x l u := nrf rfl
@[simp] theorem dOno_ap : dOno en = .ok none := nrf rfl
@[simp] theorem dOso_ap : dOso fa en = (fa en).bind fun x => match x with
  | .int i => .ok (some i)
  | _ => .stuck := nrf rfl
@[simp] theorem dF_ap : dF fr en = (fr en).bind fun ds => .ok (.list ds) := nrf rfl
@[simp] theorem dIt_ap {g : PD → R (List PD)} : dIt g fa en = (fa en).bind g := nrf rfl
@[simp] theorem dItA_ap {g : List PD → R (List PD)} : dItA g fr en = (fr en).bind g := nrf rfl
@[simp] theorem dYes_ap : dYes en = .ok true := nrf rfl
@[simp] theorem dLst_ap : dLst fr en = (fr en).bind chk := nrf rfl
@[simp] theorem asL_ap (ds : List PD) : asL (.list ds) = .ok ds := nrf rfl
@[simp] theorem asT_ap (ds : List PD) : asT (.tuple ds) = .ok ds := nrf rfl
@[simp] theorem sNil_ap : sNil en = .ok (.nx en) := nrf rfl
@[simp] theorem sSeq_ap : sSeq f g en = (f en).bind fun x => match x with
  | .nx e => g e
  | y => .ok y := nrf rfl
@[simp] theorem sAsg_ap : sAsg i fa en = (fa en).bind fun d => .ok (.nx (en.set i (.sh d))) := nrf rfl
@[simp] theorem sAsgG_ap {gf : PD → En → R En} : sAsgG gf fa en = (fa en).bind fun d => (gf d en).noexc.bind fun e => .ok (.nx e) := nrf rfl
@[simp] theorem sAsgF_ap : sAsgF i fr en = (fr en).bind fun ds => if i < en.length then .ok (.nx (en.set i (.ol ds))) else .stuck := nrf rfl
@[simp] theorem sRet_ap : sRet fa en = (fa en).bind fun d => .ok (.rt d) := nrf rfl
@[simp] theorem sRetN_ap : sRetN en = .ok (.rt .none) := nrf rfl
@[simp] theorem sCont_ap : sCont en = .ok (.ct en) := nrf rfl
@[simp] theorem sBrk_ap : sBrk en = .ok (.bk en) := nrf rfl
@[simp] theorem sDrop_ap : sDrop fa en = (fa en).bind fun _ => .ok (.nx en) := nrf rfl
@[simp] theorem sIf_ap : sIf ft f g en = (ft en).bind fun b => match b with
  | true => f en
  | false => g en := nrf rfl
@[simp] theorem sRaise_ap {c : Str} : sRaise c en = .exc c := nrf rfl
@[simp] theorem sApp_ap : sApp i fa en = (match en[i]? with
  | some (.ol ds) => (fa en).bind fun d => if ds.length + 1 ≤ szN then .ok (.nx (en.set i (.ol (ds ++ [d])))) else .stuck
  | _ => .stuck) := nrf rfl
@[simp] theorem sExt_ap : sExt i fa en = (match en[i]? with
  | some (.ol ds) => (fa en).bind fun d => match d with
    | .list es => if ds.length + es.length ≤ szN then .ok (.nx (en.set i (.ol (ds ++ es)))) else .stuck
    | _ => .stuck
  | _ => .stuck) := nrf rfl
@[simp] theorem sPar_ap {j : Nat} : sPar i j fr en = (fr en).bind fun ds => match ds with
  | [x, y] => .ok (.nx ((en.set i (.sh x)).set j (.sh y)))
  | _ => .stuck := nrf rfl
@[simp] theorem sSh_ap : sSh i f en = f (sShare i en) := nrf rfl
@[simp] theorem sNx_ap : sNx f en = noXm (f en).noexc := nrf rfl
@[simp] theorem noXm_nx (e : En) : noXm (.ok (.nx e)) = .ok (.nx e) := nrf rfl
@[simp] theorem noXm_rt (d : PD) : noXm (.ok (.rt d)) = .ok (.rt d) := nrf rfl
@[simp] theorem noXm_rm (d : PD) (e : En) : noXm (.ok (.rm d e)) = .ok (.rm d e) := nrf rfl
@[simp] theorem noXm_rn (d : List PD) (e : En) : noXm (.ok (.rn d e)) = .ok (.rn d e) := nrf rfl
@[simp] theorem noXm_pr (i : Nat) (d : PD) (e : En) : noXm (.ok (.pr i d e)) = .ok (.pr i d e) := nrf rfl
@[simp] theorem noXm_bk (e : En) : noXm (.ok (.bk e)) = .ok (.bk e) := nrf rfl
@[simp] theorem noXm_ct (e : En) : noXm (.ok (.ct e)) = .ok (.ct e) := nrf rfl
@[simp] theorem sFor_ap {tg : PD → En → R En} : sFor fr tg f en = (fr en).bind fun ds => loopF tg f ds en := nrf rfl
@[simp] theorem sWhile_ap {n : Nat} : sWhile n ft f en = loopW ft f n en := nrf rfl
@[simp] theorem loopF_nil {tg : PD → En → R En} : loopF tg f [] en = .ok (.nx en) := nrf rfl
theorem loopF_cons {tg : PD → En → R En} {x : PD} {r : List PD} : loopF tg f (x :: r) en = (tg x en).noexc.bind fun e => (f e).bind fun fl => match fl with
    | .nx e2 => loopF tg f r e2
    | .ct e2 => loopF tg f r e2
    | .bk e2 => .ok (.nx e2)
    | .rt d => .ok (.rt d)
    | .rm d e2 => .ok (.rm d e2)
    | .rn d e2 => .ok (.rn d e2)
    | .xm d e2 => .ok (.xm d e2)
    | .pr i d e2 => .ok (.pr i d e2) := rfl
@[simp] theorem gN_ap {x : PD} : gN i x en = .ok (en.set i (.sh x)) := nrf rfl
@[simp] theorem gT_ap {n : Nat} {h : List PD → En → R En} {ds : List PD} : gT n h (.tuple ds) en = if ds.length = n then h ds en else .stuck := nrf rfl
@[simp] theorem gNl_ap : gNl [] en = .ok en := nrf rfl
@[simp] theorem gCn_ap {h : PD → En → R En} {k : List PD → En → R En} {x : PD} {r : List PD} : gCn h k (x :: r) en = (h x en).bind fun e => k r e := nrf rfl
@[simp] theorem addD_int (a b : Int) : addD (.int a) (.int b) = .ok (.int (a + b)) := nrf rfl
theorem addD_str (a b : Str) (h : a.length + b.length ≤ szN) : addD (.str a) (.str b) = .ok (.str (a ++ b)) := if_pos h
theorem addD_list (a b : List PD) (h : a.length + b.length ≤ szN) : addD (.list a) (.list b) = .ok (.list (a ++ b)) := if_pos h
@[simp] theorem subD_int (a b : Int) : subD (.int a) (.int b) = .ok (.int (a - b)) := nrf rfl
@[simp] theorem ltD_int (a b : Int) : ltD (.int a) (.int b) = .ok (.bool (decide (a < b))) := nrf rfl
@[simp] theorem leD_int (a b : Int) : leD (.int a) (.int b) = .ok (.bool (decide (a ≤ b))) := nrf rfl
@[simp] theorem gtD_int (a b : Int) : gtD (.int a) (.int b) = .ok (.bool (decide (b < a))) := nrf rfl
@[simp] theorem geD_int (a b : Int) : geD (.int a) (.int b) = .ok (.bool (decide (b ≤ a))) := nrf rfl
@[simp] theorem i20_int {h : Int → Int → PD} (a b : Int) : i20 h (.int a) (.int b) = .ok (h a b) := nrf rfl
theorem modD_int (a b : Int) (h : 0 < b) : modD (.int a) (.int b) = .ok (.int (a % b)) := if_pos (decide_eq_true h)
theorem fdivD_int (a b : Int) (h : 0 < b ∧ b.natAbs.log2 < 9000) : fdivD (.int a) (.int b) = .ok (.int (a / b)) := if_pos (decide_eq_true h)
theorem mulD_l (a b : Int) (h : -(2 ^ 64) < a ∧ a < 2 ^ 64) : mulD (.int a) (.int b) = .ok (.int (a * b)) := if_pos (by
  unfold mulC
  rw [decide_eq_true (p := (-(2 ^ 64) < a ∧ a < 2 ^ 64) ∨ (-(2 ^ 64) < b ∧ b < 2 ^ 64)) (.inl h)]
  rfl)
theorem mulD_r (a b : Int) (h : -(2 ^ 64) < b ∧ b < 2 ^ 64) : mulD (.int a) (.int b) = .ok (.int (a * b)) := if_pos (by
  unfold mulC
  rw [decide_eq_true (p := (-(2 ^ 64) < a ∧ a < 2 ^ 64) ∨ (-(2 ^ 64) < b ∧ b < 2 ^ 64)) (.inr h)]
  rfl)
theorem mulD_w (a b : Int) (h : a.natAbs < 2 ^ 1000 ∧ b.natAbs < 2 ^ 1000) : mulD (.int a) (.int b) = .ok (.int (a * b)) := if_pos (by
  unfold mulC
  have x := PySem.Flt.log2_lt_of (by decide) h.1
  have y := PySem.Flt.log2_lt_of (by decide) h.2
  rw [decide_eq_true (p := a.natAbs.log2 + b.natAbs.log2 < 1000000) (by omega)]
  exact Bool.or_true _)
@[simp] theorem lenD_list (ds : List PD) : lenD [.list ds] = .ok (.int ds.length) := nrf rfl
@[simp] theorem lenD_tup (ds : List PD) : lenD [.tuple ds] = .ok (.int ds.length) := nrf rfl
theorem lenD_str (z : Str) (h : z.length ≤ szN) : lenD [.str z] = .ok (.int z.length) := if_pos h
@[simp] theorem intD_bool (b : Bool) : intD [.bool b] = .ok (.int (if b then 1 else 0)) := nrf rfl
@[simp] theorem intD_int (b : Int) : intD [.int b] = .ok (.int b) := nrf rfl
@[simp] theorem absD_int (i : Int) : absD [.int i] = .ok (.int (if i < 0 then -i else i)) := nrf rfl
@[simp] theorem max2D_int (i j : Int) : max2D [.int i, .int j] = .ok (.int (if j > i then j else i)) := nrf rfl
@[simp] theorem minD_int (i j : Int) : minD [.int i, .int j] = .ok (.int (if j < i then j else i)) := nrf rfl
@[simp] theorem negD_int (i : Int) : negD (.int i) = .ok (.int (-i)) := nrf rfl
@[simp] theorem isiD_ap {h : PD → Bool} {x : PD} : isiD h x = .ok (.bool (h x)) := nrf rfl
theorem mkT_ok (ds : List PD) (h : ds.length ≤ szN) : mkT ds = .ok (.tuple ds) := if_pos h
theorem mkL_ok (ds : List PD) (h : ds.length ≤ szN) : mkL ds = .ok (.list ds) := if_pos h
theorem chk_ok (ds : List PD) (h : ds.length ≤ szN) : chk ds = .ok ds := if_pos h
@[simp] theorem mkT_2 (a b : PD) : mkT [a, b] = .ok (.tuple [a, b]) := mkT_ok _ (by show 2 ≤ szN; decide)
@[simp] theorem mkT_3 (a b c : PD) : mkT [a, b, c] = .ok (.tuple [a, b, c]) := mkT_ok _ (by show 3 ≤ szN; decide)
@[simp] theorem mkL_0 : mkL [] = .ok (.list []) := mkL_ok _ (by show 0 ≤ szN; decide)
@[simp] theorem mkL_1 (a : PD) : mkL [a] = .ok (.list [a]) := mkL_ok _ (by show 1 ≤ szN; decide)
@[simp] theorem mkL_2 (a b : PD) : mkL [a, b] = .ok (.list [a, b]) := mkL_ok _ (by show 2 ≤ szN; decide)
@[simp] theorem mkL_3 (a b c : PD) : mkL [a, b, c] = .ok (.list [a, b, c]) := mkL_ok _ (by show 3 ≤ szN; decide)
@[simp] theorem mkL_5 (a b c d e : PD) : mkL [a, b, c, d, e] = .ok (.list [a, b, c, d, e]) := mkL_ok _ (by show 5 ≤ szN; decide)
@[simp] theorem chk_0 : chk [] = .ok [] := chk_ok _ (by show 0 ≤ szN; decide)
@[simp] theorem slD_list (ds : List PD) (l h : Option Int) : slD (.list ds) l h = .ok (.list (cutD ds l h)) := nrf rfl
@[simp] theorem revD_list (ds : List PD) : revD (.list ds) = .ok (.list ds.reverse) := nrf rfl
theorem revD_str (z : Str) (h : z.length ≤ szN) : revD (.str z) = .ok (.str (revS z)) := if_pos h
theorem ixD_list (ds : List PD) (i : Int) (d : PD) (h : atI ds i = some d) : ixD (.list ds) (.int i) = .ok d := by
  show (match atI ds i with | some d => R.ok d | none => .stuck) = _
  rw [h]
theorem ixD_tup (ds : List PD) (i : Int) (d : PD) (h : atI ds i = some d) : ixD (.tuple ds) (.int i) = .ok d := by
  show (match atI ds i with | some d => R.ok d | none => .stuck) = _
  rw [h]
@[simp] theorem ixD_t20 (a b : PD) : ixD (.tuple [a, b]) (.int 0) = .ok a := nrf rfl
@[simp] theorem ixD_t21 (a b : PD) : ixD (.tuple [a, b]) (.int 1) = .ok b := nrf rfl
@[simp] theorem eqD_int (a b : Int) : eqD (.int a) (.int b) = .ok (.bool (decide (a = b))) := nrf rfl
@[simp] theorem eqD_bool (a b : Bool) : eqD (.bool a) (.bool b) = .ok (.bool (decide (a = b))) := nrf rfl
@[simp] theorem eqD_str (a b : Str) : eqD (.str a) (.str b) = .ok (.bool (decide (a = b))) := nrf rfl
@[simp] theorem neD_int (a b : Int) : neD (.int a) (.int b) = .ok (.bool (!decide (a = b))) := nrf rfl
@[simp] theorem neD_bool (a b : Bool) : neD (.bool a) (.bool b) = .ok (.bool (!decide (a = b))) := nrf rfl
@[simp] theorem neD_str (a b : Str) : neD (.str a) (.str b) = .ok (.bool (!decide (a = b))) := nrf rfl
end
theorem atI_nat' {α : Type} (xs : List α) (k : Nat) : atI xs (k : Int) = xs[k]? := by
  unfold atI ixN
  rw [if_pos (by omega)]
  by_cases h : k < xs.length
  · rw [if_pos (by omega)]
    simp
  · rw [if_neg (by omega), List.getElem?_eq_none (by omega)]
    rfl
theorem atI_last' {α : Type} (xs : List α) (h : xs ≠ []) : atI xs (-1) = xs.getLast? := by
  unfold atI ixN
  have : 0 < xs.length := List.length_pos_iff.mpr h
  rw [if_neg (by omega), if_pos (by omega), List.getLast?_eq_getElem?]
  show xs[_]? = _
  congr 1
  omega
/-! ### texts as lists of codes -/
def st (l : List Nat) : Str := ⟨l.toArray⟩
theorem st_len (l : List Nat) : (st l).length = l.length := by
  show l.toArray.size = _
  simp
theorem st_app (a b : List Nat) : st a ++ st b = st (a ++ b) := by
  show (⟨a.toArray ++ b.toArray⟩ : Str) = _
  unfold st
  simp
theorem st_inj {a b : List Nat} (h : st a = st b) : a = b := by
  have h2 := congrArg (fun z : Str => z.cps.toList) h
  simpa [st] using h2
theorem st_rev (a : List Nat) : revS (st a) = st a.reverse := by
  unfold revS st
  simp
/-! ### loops in general -/
theorem loopF_inv {tg : PD → En → R En} {f : En → R Fl} (P : List PD → En → Prop) (step : ∀ x r en, P (x :: r) en → ∃ en', loopF tg f (x :: r) en = loopF tg f r en' ∧ P r en') :
    ∀ (l : List PD) (en : En), P l en → ∃ en', loopF tg f l en = .ok (.nx en') ∧ P [] en'
  | [], en, h => ⟨en, rfl, h⟩
  | x :: r, en, h => by
    obtain ⟨e1, h1, h2⟩ := step x r en h
    obtain ⟨e2, h3, h4⟩ := loopF_inv P step r e1 h2
    exact ⟨e2, h1.trans h3, h4⟩
/-- each turn leaves the slots it needs, whatever the others -/
theorem lcL_map {tg : PD → En → R En} {fe : En → R PD} {en : En} {α : Type} (enc : α → PD) (F : α → PD) (h : ∀ a : α, ∃ e, tg (enc a) en = .ok e ∧ fe e = .ok (F a)) : ∀ l : List α, lcL tg dYes fe en (l.map enc) = .ok (l.map F)
  | [] => rfl
  | a :: r => by
    obtain ⟨e, h1, h2⟩ := h a
    show (tg (enc a) en).bind _ = _
    rw [h1]
    simp only [R.bind_ok, dYes_ap]
    rw [h2]
    simp only [R.bind_ok]
    rw [lcL_map enc F h r]
    rfl
theorem lcL_mapM {tg : PD → En → R En} {fe : En → R PD} {en : En} {α : Type} (enc : α → PD) (F : α → PD) : ∀ l : List α, (∀ a ∈ l, ∃ e, tg (enc a) en = .ok e ∧ fe e = .ok (F a)) → lcL tg dYes fe en (l.map enc) = .ok (l.map F)
  | [], _ => rfl
  | a :: r, h => by
    obtain ⟨e, h1, h2⟩ := h a List.mem_cons_self
    show (tg (enc a) en).bind _ = _
    rw [h1]
    simp only [R.bind_ok, dYes_ap]
    rw [h2]
    simp only [R.bind_ok]
    rw [lcL_mapM enc F r fun a ha => h a (List.mem_cons_of_mem _ ha)]
    rfl
end Dn

/-! rows for simp of the later words; split, join, replace of texts as lists of codes. -/
namespace Dn
open PySem L2
variable [Tabl]
section
variable {fa fb fo fe : En → R PD} {f : En → R Fl} {fr : En → R (List PD)} {en : En} {i : Nat} {fx : En → R (PD × En)} {fp : En → En → R En}
@[simp] theorem dLk_ap {β : Type} {f : En → R β} : dLk i f en = (match en[i]? with
  | some (.sh (.dict es)) => (f (en.set i (.fz es))).noexc
  | some (.fz _) => (f en).noexc
  | _ => .stuck) := nrf rfl
@[simp] theorem sLk_ap : sLk i f en = (match en[i]? with
  | some (.sh (.dict es)) => (f (en.set i (.fz es))).noexc.bind (unFl i)
  | _ => .stuck) := nrf rfl
@[simp] theorem dKeys_ap : dKeys i en = (match en[i]? with
  | some (.fz es) => .ok (es.map (·.1))
  | _ => .stuck) := nrf rfl
@[simp] theorem emptyD_ap (es : List (PD × PD)) : emptyD (.dict es) = .ok (.bool es.isEmpty) := nrf rfl
@[simp] theorem dM1_ap {β : Type} {g : PD → PD → R β} : dM1 g fo fe en = (fo en).bind fun x => match x with
  | .str a => (fe en).bind fun y => g (.str a) y
  | _ => .stuck := nrf rfl
@[simp] theorem dNF_ap {g : List PD → R (List PD)} : dNF g fr en = (fr en).bind g := nrf rfl
@[simp] theorem enumT_ap (z : Str) : enumT [.str z] = .ok (enumFrom 0 (signL z)) := nrf rfl
@[simp] theorem pNil_ap {e : En} : pNil en e = .ok e := nrf rfl
@[simp] theorem pS_ap {e : En} : pS i fa fp en e = (fa en).bind fun d => fp en (e.set i (.sh d)) := nrf rfl
theorem pF_ap {e : En} : pF i fr fp en e = (fr en).bind fun ds => if i < e.length then fp en (e.set i (.ol ds)) else .stuck := rfl
theorem pD_ap {e : En} : pD i fp en e = if i < e.length then fp en (e.set i (.od [])) else .stuck := rfl
@[simp] theorem sParM_ap : sParM fp en = (fp en en).bind fun e => .ok (.nx e) := nrf rfl
@[simp] theorem sAsgD_ap : sAsgD i en = if i < en.length then .ok (.nx (en.set i (.od []))) else .stuck := nrf rfl
@[simp] theorem eS_ap : eS fa en = (fa en).bind fun d => .ok (d, en) := nrf rfl
theorem ePop_ap : ePop i fa en = (match en[i]? with
  | some (.ol ds) => (fa en).bind fun k => match k with
    | .int j => if -(2 ^ 63) ≤ j ∧ j < 2 ^ 63 then match seqIndex? j ds.length with
      | some n => match ds[n]? with
        | some d => .ok (d, en.set i (.ol (ds.eraseIdx n)))
        | none => .stuck
      | none => .stuck
      else .stuck
    | _ => .stuck
  | _ => .stuck) := rfl
@[simp] theorem eCall_ap {F : List PD → R PD} : eCall F fx en = (fx en).bind fun p => (F [p.1]).bind fun r => .ok (r, p.2) := nrf rfl
@[simp] theorem sAsgE_ap : sAsgE i fx en = (fx en).bind fun p => .ok (.nx (p.2.set i (.sh p.1))) := nrf rfl
@[simp] theorem sDropE_ap : sDropE fx en = (fx en).bind fun p => .ok (.nx p.2) := nrf rfl
theorem sPut_ap : sPut i fx fa en = (match en[i]? with
  | some (.od _) => (fa en).bind fun v => (fx en).bind fun p => match p.2[i]?, kOf p.1 with
    | some (.od es), some k => if es.length + 1 ≤ szN then .ok (.nx (p.2.set i (.od (putD es k v)))) else .stuck
    | _, _ => .stuck
  | _ => .stuck) := rfl
end
/-! ### split -/
def spGo (sep : List Nat) : List Nat → Nat → List Nat → List (List Nat)
  | [], _, w => [w]
  | c :: r, 0, w => if (c :: r).take sep.length = sep then w :: spGo sep r (sep.length - 1) [] else spGo sep r 0 (w ++ [c])
  | _ :: r, k + 1, w => spGo sep r k w
def jn (z : List Nat) : List (List Nat) → List Nat
  | [] => []
  | [x] => x
  | x :: y :: r => x ++ z ++ jn z (y :: r)
def occL (sep : List Nat) : List Nat → Nat → Nat → List Nat
  | [], _, _ => []
  | c :: r, i, free => if free ≤ i ∧ (c :: r).take sep.length = sep then i :: occL sep r (i + 1) (i + sep.length) else occL sep r (i + 1) free
open PySem.StrLaws PySem.Builtin.Str
theorem occ_run (sep full : List Nat) (hs : sep ≠ []) : ∀ (l : List Nat) (i : Nat) (found : Array Nat) (free : Nat), l = full.drop i → i ≤ full.length → found.size ≤ i →
    (forIn (List.range' i (l.length + 1)) (found, free) (occBody (st full) (st sep) full.length (full.length + 1))).run.fst.toList = found.toList ++ occL sep l i free
  | [], i, found, free, hl, hi, hf => by
    have hlen : full.length = i := by
      have := congrArg List.length hl
      simp at this
      omega
    have hm : 0 < sep.length := List.length_pos_iff.mpr hs
    show (forIn [i] (found, free) (occBody (st full) (st sep) full.length (full.length + 1))).run.fst.toList = found.toList ++ []
    rw [List.forIn_cons]
    unfold occBody
    rw [if_neg (by rw [st_len]; omega)]
    simp
  | c :: r, i, found, free, hl, hi, hf => by
    have hlt : i < full.length := by
      have := congrArg List.length hl
      simp at this
      omega
    have hr : r = full.drop (i + 1) := by
      rw [List.drop_eq_getElem_cons hlt] at hl
      exact (List.cons.inj hl).2
    have e : List.range' i ((c :: r).length + 1) = i :: List.range' (i + 1) (r.length + 1) := rfl
    rw [e, List.forIn_cons]
    have hsub : subAt (st full) (st sep) i = true ↔ (c :: r).take sep.length = sep := by
      rw [subAt_eq, st_len, hl]
      show (((full.drop i).take sep.length == sep) = true) ↔ _
      rw [beq_iff_eq]
    have hfit : (c :: r).take sep.length = sep → i + sep.length ≤ full.length := fun h => by
      have h1 := congrArg List.length h
      rw [List.length_take] at h1
      have h2 := congrArg List.length hl
      rw [List.length_drop] at h2
      omega
    unfold occL
    unfold occBody
    by_cases hc : free ≤ i ∧ (c :: r).take sep.length = sep
    · rw [if_pos hc, if_pos ⟨⟨⟨by dsimp only; omega, hc.1⟩, by rw [st_len]; exact hfit hc.2⟩, hsub.mpr hc.2⟩]
      show (forIn (List.range' (i + 1) (r.length + 1)) (found.push i, i + (st sep).length) (occBody (st full) (st sep) full.length (full.length + 1))).run.fst.toList = _
      rw [st_len, occ_run sep full hs r (i + 1) (found.push i) (i + sep.length) hr (by omega) (by simp; omega)]
      simp
    · rw [if_neg hc, if_neg fun h => hc ⟨h.1.1.2, hsub.mp h.2⟩]
      exact occ_run sep full hs r (i + 1) found free hr (by omega) (by omega)
theorem parts_go (sep full : List Nat) (hs : sep ≠ []) : ∀ (l : List Nat) (i a : Nat), l = full.drop i → i ≤ full.length → 
    partsFrom (st full) sep.length a (occL sep l i a) = (spGo sep l (a - i) ((full.drop a).take (i - a))).map st
  | [], i, a, hl, hi => by
    have hlen : full.length = i := by
      have := congrArg List.length hl
      simp at this
      omega
    show [strSub (st full) a (st full).length] = [st _]
    congr 1
    apply Str.ext'
    apply Array.toList_inj.mp
    rw [strSub_toList, st_len, hlen]
    rfl
  | c :: r, i, a, hl, hi => by
    have hlt : i < full.length := by
      have := congrArg List.length hl
      simp at this
      omega
    have hm : 0 < sep.length := List.length_pos_iff.mpr hs
    have hl' := hl
    rw [List.drop_eq_getElem_cons hlt] at hl'
    obtain ⟨hc1, hr⟩ := List.cons.inj hl'
    unfold occL
    by_cases ha : a ≤ i
    · have ea : a - i = 0 := by omega
      rw [ea]
      unfold spGo
      by_cases ht : (c :: r).take sep.length = sep
      · rw [if_pos ⟨ha, ht⟩, if_pos ht]
        show strSub (st full) a i :: partsFrom (st full) sep.length (i + sep.length) _ = _
        rw [parts_go sep full hs r (i + 1) (i + sep.length) hr (by omega), List.map_cons]
        have e1 : i + sep.length - (i + 1) = sep.length - 1 := by omega
        have e2 : i + 1 - (i + sep.length) = 0 := by omega
        rw [e1, e2, List.take_zero]
        congr 1
        apply Str.ext'
        apply Array.toList_inj.mp
        rw [strSub_toList]
        rfl
      · rw [if_neg fun h => ht h.2, if_neg ht, parts_go sep full hs r (i + 1) a hr (by omega)]
        have e1 : a - (i + 1) = 0 := by omega
        rw [e1]
        congr 2
        have e2 : i + 1 - a = (i - a) + 1 := by omega
        rw [e2, List.take_succ, List.getElem?_drop, show a + (i - a) = i by omega, List.getElem?_eq_getElem hlt, ← hc1]
        rfl
    · rw [if_neg fun h => ha h.1, parts_go sep full hs r (i + 1) a hr (by omega)]
      have e1 : a - i = (a - (i + 1)) + 1 := by omega
      have e2 : i + 1 - a = 0 := by omega
      have e3 : i - a = 0 := by omega
      rw [e1, e2, e3]
      rfl
theorem occ_st (sep l : List Nat) (hs : sep ≠ []) : occurrences (st l) (st sep) 0 (st l).length ((st l).length + 1) = occL sep l 0 0 := by
  rw [occ_eq, st_len]
  have := occ_run sep l hs l 0 #[] 0 rfl (Nat.zero_le _) (Nat.zero_le _)
  simpa using this
theorem parts_st (sep l : List Nat) (hs : sep ≠ []) : partsBetween (st l) (occL sep l 0 0) (st sep).length = (spGo sep l 0 []).map st := by
  rw [partsBetween_eq, st_len, parts_go sep l hs l 0 0 rfl (Nat.zero_le _)]
  simp
theorem sub_st (l : List Nat) : strSub (st l) 0 (st l).length = st l := by
  apply Str.ext'
  apply Array.toList_inj.mp
  rw [strSub_toList, st_len]
  show (l.drop 0).take (l.length - 0) = l
  simp
theorem spGo_short (sep : List Nat) : ∀ (l w : List Nat), l.length < sep.length → spGo sep l 0 w = [w ++ l]
  | [], w, _ => by simp [spGo]
  | c :: r, w, h => by
    unfold spGo
    rw [if_neg, spGo_short sep r (w ++ [c]) (by simp at h; omega)]
    · simp
    · intro e
      have := congrArg List.length e
      rw [List.length_take] at this
      omega
theorem kind_st (l : List Nat) (h : l.all (· < 256) = true) : Builtin.Str.strKind (st l) = 1 := by
  unfold Builtin.Str.strKind st
  rw [if_pos]
  simpa using h
theorem kind_pos (x : Str) : 1 ≤ Builtin.Str.strKind x := by
  unfold Builtin.Str.strKind
  split
  · exact Nat.le_refl _
  · split <;> decide
theorem split_st (sep l : List Nat) (hs : sep ≠ []) (hk : sep.all (· < 256) = true) : Txt.split (st l) (st sep) = (spGo sep l 0 []).map st := by
  unfold Txt.split
  by_cases hl : l.length < sep.length
  · rw [if_pos (by rw [st_len, st_len, decide_eq_true hl]; rfl), spGo_short sep l [] hl]
    rfl
  · rw [if_neg (by
      rw [st_len, st_len, decide_eq_false hl, kind_st sep hk, decide_eq_false (by have := kind_pos (st l); omega)]
      decide), occ_st sep l hs]
    have hp := parts_st sep l hs
    split
    · rename_i h
      rw [List.isEmpty_iff] at h
      rw [h] at hp
      rw [← hp, partsBetween_eq]
      show [st l] = [strSub (st l) 0 (st l).length]
      rw [sub_st]
    · exact hp
theorem join_st (z : List Nat) : ∀ W : List (List Nat), Str.join (st z) (W.map st) = st (jn z W)
  | [] => rfl
  | [x] => rfl
  | x :: y :: r => by
    show st x ++ st z ++ Str.join (st z) ((y :: r).map st) = _
    rw [join_st z (y :: r), st_app, st_app]
    rfl
theorem tjoin_st (z : List Nat) (W : List (List Nat)) : Txt.join (st z) (W.map st) = st (jn z W) := by
  unfold Txt.join
  rw [glued_eq_join, join_st]
theorem replace_st (y z l : List Nat) (hs : y ≠ []) : Txt.replace (st l) (st y) (st z) = st (jn z (spGo y l 0 [])) := by
  unfold Txt.replace
  rw [occ_st y l hs]
  have hp := parts_st y l hs
  have hy : ((st y).length == 0) = false := by
    rw [st_len]
    have := List.length_pos_iff.mpr hs
    simp
    exact hs
  split
  · rename_i h
    rw [hy, Bool.false_and, Bool.or_false, List.isEmpty_iff] at h
    rw [h, partsBetween_eq] at hp
    have e : [strSub (st l) 0 (st l).length] = (spGo y l 0 []).map st := hp
    rw [sub_st] at e
    match hq : spGo y l 0 [], e with
    | [w], e =>
      simp only [List.map_cons, List.map_nil, List.cons.injEq, and_true] at e
      rw [e]
      rfl
    | [], e => simp at e
    | _ :: _ :: _, e => simp at e
  · rw [hp, glued_eq_join, join_st]
/-! words without the blank -/
theorem sp1_word (c : Nat) : ∀ (w r u : List Nat), c ∉ w → spGo [c] (w ++ r) 0 u = spGo [c] r 0 (u ++ w)
  | [], r, u, _ => by simp
  | a :: w, r, u, h => by
    show (if (a :: (w ++ r)).take [c].length = [c] then u :: spGo [c] (w ++ r) 0 [] else spGo [c] (w ++ r) 0 (u ++ [a])) = _
    rw [if_neg, sp1_word c w r (u ++ [a]) fun z => h (List.mem_cons_of_mem _ z)]
    · simp
    · intro e
      have : a = c := by simpa using e
      exact h (by rw [this]; exact List.mem_cons_self)
theorem sp1_sep (c : Nat) (r u : List Nat) : spGo [c] (c :: r) 0 u = u :: spGo [c] r 0 [] := by
  show (if _ then _ else _) = _
  rw [if_pos (by simp)]
  rfl
theorem sp1_jn (c : Nat) : ∀ (W : List (List Nat)), W ≠ [] → (∀ w ∈ W, c ∉ w) → spGo [c] (jn [c] W) 0 [] = W
  | [], h, _ => absurd rfl h
  | [w], _, h => by
    have := sp1_word c w [] [] (h w List.mem_cons_self)
    rw [List.append_nil] at this
    show spGo [c] w 0 [] = _
    rw [this]
    rfl
  | w :: v :: r, _, h => by
    show spGo [c] (w ++ [c] ++ jn [c] (v :: r)) 0 [] = _
    rw [List.append_assoc, sp1_word c w _ [] (h w List.mem_cons_self)]
    show spGo [c] (c :: jn [c] (v :: r)) 0 ([] ++ w) = _
    rw [sp1_sep, sp1_jn c (v :: r) (List.cons_ne_nil _ _) fun x hx => h x (List.mem_cons_of_mem _ hx)]
    rfl
/-! words without the stroke, a stroke between blanks between them -/
theorem sp3_word (a b : Nat) (hab : a ≠ b) : ∀ (w r u : List Nat), b ∉ w → (r = [] ∨ ∃ t, r = a :: b :: a :: t) → spGo [a, b, a] (w ++ r) 0 u = spGo [a, b, a] r 0 (u ++ w)
  | [], r, u, _, _ => by simp
  | c :: w, r, u, h, hr => by
    show (if (c :: (w ++ r)).take [a, b, a].length = [a, b, a] then u :: spGo [a, b, a] (w ++ r) 2 [] else spGo [a, b, a] (w ++ r) 0 (u ++ [c])) = _
    rw [if_neg, sp3_word a b hab w r (u ++ [c]) (fun z => h (List.mem_cons_of_mem _ z)) hr]
    · simp
    · intro e
      cases w with
      | nil =>
        rcases hr with rfl | ⟨t, rfl⟩
        · simp at e
        · simp at e
          exact hab e.2.1
      | cons d w =>
        simp at e
        exact h (by rw [← e.2.1]; simp)
theorem sp3_jn (a b : Nat) (hab : a ≠ b) : ∀ (W : List (List Nat)), W ≠ [] → (∀ w ∈ W, b ∉ w) → spGo [a, b, a] (jn [a, b, a] W) 0 [] = W
  | [], h, _ => absurd rfl h
  | [w], _, h => by
    have := sp3_word a b hab w [] [] (h w List.mem_cons_self) (.inl rfl)
    rw [List.append_nil] at this
    show spGo [a, b, a] w 0 [] = _
    rw [this]
    rfl
  | w :: v :: r, _, h => by
    show spGo [a, b, a] (w ++ [a, b, a] ++ jn [a, b, a] (v :: r)) 0 [] = _
    rw [List.append_assoc, sp3_word a b hab w ([a, b, a] ++ jn [a, b, a] (v :: r)) [] (h w List.mem_cons_self) (.inr ⟨_, rfl⟩)]
    show (if _ then _ else _) = _
    rw [if_pos (by simp)]
    show ([] ++ w) :: spGo [a, b, a] (jn [a, b, a] (v :: r)) 0 [] = _
    rw [sp3_jn a b hab (v :: r) (List.cons_ne_nil _ _) fun x hx => h x (List.mem_cons_of_mem _ hx)]
    rfl
theorem jn_len (z : List Nat) : ∀ W : List (List Nat), (jn z W).length ≤ (W.map List.length).sum + W.length * z.length
  | [] => by simp [jn]
  | [x] => by simp [jn]
  | x :: y :: r => by
    have ih := jn_len z (y :: r)
    show (x ++ z ++ jn z (y :: r)).length ≤ _
    simp only [List.length_append, List.map_cons, List.sum_cons, List.length_cons, Nat.succ_mul] at ih ⊢
    omega
theorem jn_cons (z x : List Nat) {W : List (List Nat)} (h : W ≠ []) : jn z (x :: W) = x ++ z ++ jn z W := by
  cases W with
  | nil => exact absurd rfl h
  | cons y r => rfl
theorem jn_app (z : List Nat) : ∀ (W V : List (List Nat)), W ≠ [] → V ≠ [] → jn z (W ++ V) = jn z W ++ z ++ jn z V
  | [], V, h, _ => absurd rfl h
  | [x], V, _, h => by
    show jn z (x :: V) = _
    rw [jn_cons z x h]
    rfl
  | x :: y :: r, V, _, h => by
    show jn z (x :: ((y :: r) ++ V)) = _
    rw [jn_cons z x (by simp), jn_app z (y :: r) V (List.cons_ne_nil _ _) h]
    show _ = x ++ z ++ jn z (y :: r) ++ z ++ jn z V
    simp
theorem splitD_st (l sep : List Nat) (hs : sep ≠ []) (hk : sep.all (· < 256) = true) (hl : l.length + 2 ≤ szN) : splitD (.str (st l)) (.str (st sep)) = .ok ((spGo sep l 0 []).map fun w => .str (st w)) := by
  have : 1 ≤ sep.length := List.length_pos_iff.mpr hs
  show (if 1 ≤ (st sep).length ∧ (st l).length + 2 ≤ szN then R.ok ((Txt.split (st l) (st sep)).map PyData.str) else .stuck) = _
  rw [if_pos (by rw [st_len, st_len]; exact ⟨this, hl⟩), split_st sep l hs hk, List.map_map]
  rfl
theorem joinD_st {α : Type} (z : List Nat) (f : α → List Nat) (W : List α) (h : (W.map fun a => (f a).length).sum + W.length * z.length ≤ szN) : joinD (.str (st z)) (.list (W.map fun a => .str (st (f a)))) = .ok (.str (st (jn z (W.map f)))) := by
  have e : W.map (fun a => PyData.str (st (f a))) = ((W.map f).map st).map PyData.str := by rw [List.map_map, List.map_map]; rfl
  rw [e]
  show (match asStrs (((W.map f).map st).map PyData.str) with
    | some ys => if (ys.map fun x : Str => x.length).sum + ys.length * (st z).length ≤ szN then R.ok (PyData.str (Txt.join (st z) ys)) else .stuck
    | none => .stuck) = _
  rw [asStrs_map]
  dsimp only
  rw [if_pos, tjoin_st]
  rw [st_len, List.map_map, List.map_map, List.length_map, List.length_map]
  have e2 : (fun a => (f a).length) = ((fun x : Str => x.length) ∘ st) ∘ f := by
    funext a
    exact (st_len (f a)).symm
  rw [e2] at h
  exact h
theorem replD_st (y z l : List Nat) (hs : y ≠ []) (h : l.length + (l.length + 1) * z.length ≤ szN) : replD (st y) (st z) (.str (st l)) = .ok (.str (st (jn z (spGo y l 0 [])))) := by
  show (if (st l).length + ((st l).length + 1) * (st z).length ≤ szN then R.ok (PyData.str (Txt.replace (st l) (st y) (st z))) else .stuck) = _
  rw [st_len, st_len, if_pos h, replace_st y z l hs]
end Dn

/-! arithmetic with bounds; == of a thing with itself; literal texts. -/
namespace Dn
open PySem L2
variable [Tabl]
theorem log2_lt' {b : Int} (h : b < 2 ^ 62) (h0 : 0 < b) : b.natAbs.log2 < 9000 := by
  have : b.natAbs < 2 ^ 62 := by omega
  have := PySem.Flt.log2_lt_of (by decide) this
  omega
theorem fdivD_sm (a b : Int) (h0 : 0 < b) (h : b < 2 ^ 62) : fdivD (.int a) (.int b) = .ok (.int (a / b)) := fdivD_int a b ⟨h0, log2_lt' h h0⟩
theorem mulD_sl (a b : Int) (h0 : -(2 ^ 64) < a) (h : a < 2 ^ 64) : mulD (.int a) (.int b) = .ok (.int (a * b)) := mulD_l a b ⟨h0, h⟩
theorem mulD_sr (a b : Int) (h0 : -(2 ^ 64) < b) (h : b < 2 ^ 64) : mulD (.int a) (.int b) = .ok (.int (a * b)) := mulD_r a b ⟨h0, h⟩
theorem mulD_rep (xs : List PD) (k : Int) (h0 : -(2 ^ 63) ≤ k) (h : k < 2 ^ 63) (hl : xs.length * k.toNat ≤ szN) : mulD (.list xs) (.int k) = .ok (.list (List.replicate k.toNat xs).flatten) := if_pos ⟨h0, h, hl⟩
@[simp] theorem isOwn_no : isOwn .no = false := nrf rfl
@[simp] theorem isOwn_sh (d : PD) : isOwn (.sh d) = false := nrf rfl
@[simp] theorem isOwn_rl (d : List PD) : isOwn (.rl d) = false := nrf rfl
@[simp] theorem isOwn_fz (d : List (PD × PD)) : isOwn (.fz d) = false := nrf rfl
@[simp] theorem isOwn_ol (d : List PD) : isOwn (.ol d) = true := nrf rfl
@[simp] theorem isOwn_od (d : List (PD × PD)) : isOwn (.od d) = true := nrf rfl
theorem szN_eq : szN = 1000000 := rfl
theorem addD_st (a b : List Nat) (h : a.length + b.length ≤ 1000000) : addD (.str (st a)) (.str (st b)) = .ok (.str (st (a ++ b))) := by
  rw [addD_str _ _ (by rw [st_len, st_len]; exact h), st_app]
theorem addD_li (a b : List PD) (h : a.length + b.length ≤ 1000000) : addD (.list a) (.list b) = .ok (.list (a ++ b)) := addD_list a b h
theorem lenD_st (a : List Nat) (h : a.length ≤ 1000000) : lenD [.str (st a)] = .ok (.int a.length) := by
  rw [lenD_str _ (by rw [st_len]; exact h), st_len]
theorem st_eq (a b : List Nat) : (st a = st b) = (a = b) := propext ⟨st_inj, fun h => by rw [h]⟩
theorem st_rec (z : Str) : z = st z.cps.toList := rfl
theorem s_empty : ("" : Str) = st [] := by decide +kernel
theorem s_blank : (" " : Str) = st [32] := by decide +kernel
theorem s_stroke : (" / " : Str) = st [32, 47, 32] := by decide +kernel
theorem s_slash : ("/" : Str) = st [47] := by decide +kernel
theorem s_dot : ("." : Str) = st [46] := by decide +kernel
theorem s_dash : ("-" : Str) = st [45] := by decide +kernel
theorem s_unk : ("#" : Str) = st [35] := by decide +kernel
theorem s_dd : (".-" : Str) = st [46, 45] := by decide +kernel
theorem s_da : ("-." : Str) = st [45, 46] := by decide +kernel
theorem sg_st (c : Nat) : (⟨#[c]⟩ : Str) = st [c] := rfl
/-- data that may be compared -/
def Shp (n : Nat) (d : PD) : Prop := d.canLay0 = true ∧ d.depth ≤ n
theorem Shp.none (n : Nat) : Shp n .none := ⟨rfl, Nat.zero_le _⟩
theorem Shp.bool (n : Nat) (b : Bool) : Shp n (.bool b) := ⟨rfl, Nat.zero_le _⟩
theorem Shp.int (n : Nat) (i : Int) : Shp n (.int i) := ⟨rfl, Nat.zero_le _⟩
theorem lay_all : ∀ (ds : List PD), (∀ d ∈ ds, d.canLay0 = true) → PyData.canLayAll0 ds = true
  | [], _ => rfl
  | d :: r, h => by
    show (PyData.canLay0 d && PyData.canLayAll0 r) = true
    rw [h d List.mem_cons_self, lay_all r fun x hx => h x (List.mem_cons_of_mem _ hx)]
    rfl
theorem depth_all (n : Nat) : ∀ (ds : List PD), (∀ d ∈ ds, d.depth ≤ n) → PyData.depthAll ds ≤ n
  | [], _ => Nat.zero_le _
  | d :: r, h => by
    show max (PyData.depth d) (PyData.depthAll r) ≤ n
    have h1 := h d List.mem_cons_self
    have h2 := depth_all n r fun x hx => h x (List.mem_cons_of_mem _ hx)
    omega
theorem Shp.list {n : Nat} {ds : List PD} (h : ∀ d ∈ ds, Shp n d) : Shp (n + 1) (.list ds) := ⟨lay_all ds fun d hd => (h d hd).1, Nat.succ_le_succ (depth_all n ds fun d hd => (h d hd).2)⟩
theorem Shp.tup {n : Nat} {ds : List PD} (h : ∀ d ∈ ds, Shp n d) : Shp (n + 1) (.tuple ds) := ⟨lay_all ds fun d hd => (h d hd).1, Nat.succ_le_succ (depth_all n ds fun d hd => (h d hd).2)⟩
theorem Shp.map {α : Type} {n : Nat} {f : α → PD} {l : List α} (h : ∀ a ∈ l, Shp n (f a)) : Shp (n + 1) (.list (l.map f)) := .list fun d hd => by
  obtain ⟨a, ha, rfl⟩ := List.mem_map.mp hd
  exact h a ha
theorem Shp.up {n m : Nat} {d : PD} (h : Shp n d) (hm : n ≤ m) : Shp m d := ⟨h.1, Nat.le_trans h.2 hm⟩
theorem Shp.shaped {n : Nat} {d : PD} (h : Shp n d) (hn : n ≤ 64) : SeqAt.shaped d = true := by
  unfold SeqAt.shaped
  rw [h.1, decide_eq_true (Nat.le_trans h.2 hn)]
  rfl
theorem eqD_self {n : Nat} {d : PD} (h : Shp n d) (hn : n ≤ 64) : eqD d d = .ok (.bool true) := by
  unfold eqD
  cases d with
  | none => rfl
  | bool b => simp [sc2]
  | int b => simp [sc2]
  | str b => simp [sc2]
  | list xs =>
    show (if _ then _ else _) = _
    rw [h.shaped hn, PySem.SeqAt.eqv_refl _ h.1]
    rfl
  | tuple xs =>
    show (if _ then _ else _) = _
    rw [h.shaped hn, PySem.SeqAt.eqv_refl _ h.1]
    rfl
  | dict xs => exact absurd h.1 (by simp [PyData.canLay0])
theorem neD_self {n : Nat} {d : PD} (h : Shp n d) (hn : n ≤ 64) : neD d d = .ok (.bool false) := by
  unfold neD
  cases d with
  | none => rfl
  | bool b => simp [sc2]
  | int b => simp [sc2]
  | str b => simp [sc2]
  | list xs =>
    show (if _ then _ else _) = _
    rw [h.shaped hn, PySem.SeqAt.eqv_refl _ h.1]
    rfl
  | tuple xs =>
    show (if _ then _ else _) = _
    rw [h.shaped hn, PySem.SeqAt.eqv_refl _ h.1]
    rfl
  | dict xs => exact absurd h.1 (by simp [PyData.canLay0])
/-! ### loops by an invariant; the law's own loop -/
def goes (r : R Fl) (en : En) : Prop := r = .ok (.nx en) ∨ r = .ok (.ct en)
theorem loop_inv {tg : PD → En → R En} {f : En → R Fl} (I : En → Prop) : ∀ (l : List PD), (∀ x ∈ l, ∀ en, I en → ∃ en', goes ((tg x en).noexc.bind f) en' ∧ I en') → ∀ en, I en → ∃ en', loopF tg f l en = .ok (.nx en') ∧ I en'
  | [], _, en, h => ⟨en, rfl, h⟩
  | x :: r, hs, en, h => by
    obtain ⟨e1, h1, h2⟩ := hs x List.mem_cons_self en h
    obtain ⟨e2, h3, h4⟩ := loop_inv I r (fun y hy => hs y (List.mem_cons_of_mem _ hy)) e1 h2
    refine ⟨e2, ?_, h4⟩
    rw [loopF_cons, ← h3]
    cases ht : (tg x en).noexc with
    | ok e =>
      rw [ht] at h1
      simp only [R.bind_ok] at h1 ⊢
      rcases h1 with h1 | h1 <;> rw [h1] <;> rfl
    | exc c => rw [ht] at h1; rcases h1 with h1 | h1 <;> cases h1
    | stuck => rw [ht] at h1; rcases h1 with h1 | h1 <;> cases h1
def cellsN (N : Int) (n : Nat) : Int := max 1 (min N n)
theorem dCell_ok (ns : List Int) (hn : ns.length ≤ 63) (k : Int) (hk : 0 ≤ k ∧ k < 1000) (r : En) : dCell 0 (dVar 1) (.rl (ns.map .int) :: .sh (.int k) :: r) = .ok (.int (cellF ns k)) := by
  unfold dCell
  simp [asInts_map, hn, hk.1, show k < 4294967296 by omega]
theorem law_loop {N : Int} (hN : 1 ≤ N ∧ N ≤ 4) {body : En → R Fl} (ns : List Int) (I : En → Prop) (m : Nat) (h0 : I (.rl (ns.map .int) :: List.replicate m .no))
    (hs : ∀ k : Int, 0 ≤ k → k < 1000 → ∀ en, I en → ∃ en', goes (body (en.set 1 (.sh (.int k)))) en' ∧ I en') :
    ∃ en', sFor (dItA rng1 (dCons (dN max2D (dCons (dC (.int 1)) (dCons (dN minD (dCons (dC (.int N)) (dCons (dLenR 0) dNil))) dNil))) dNil)) (gN 1) body (.rl (ns.map .int) :: List.replicate m .no) = .ok (.nx en') ∧ I en' := by
  generalize hv : (if (if (ns.length : Int) < N then (ns.length : Int) else N) > 1 then (if (ns.length : Int) < N then (ns.length : Int) else N) else 1) = v
  have bv : 1 ≤ v ∧ v ≤ 4 := by
    rw [← hv]
    split <;> split <;> omega
  have hr : rng1 [.int v] = .ok (rngL 0 v.toNat) := if_pos (by omega)
  obtain ⟨en', h1, h2⟩ := loop_inv (tg := gN 1) (f := body) I (rngL 0 v.toNat) (fun x hx en hen => by
    unfold rngL at hx
    obtain ⟨i, hi, rfl⟩ := List.mem_map.mp hx
    have := List.mem_range.mp hi
    simp only [gN_ap, R.noexc_ok, R.bind_ok]
    exact hs (0 + (i : Int)) (by omega) (by omega) en hen) _ h0
  refine ⟨en', ?_, h2⟩
  rw [← h1]
  have e1 : dItA rng1 (dCons (dN max2D (dCons (dC (.int 1)) (dCons (dN minD (dCons (dC (.int N)) (dCons (dLenR 0) dNil))) dNil))) dNil) (.rl (ns.map .int) :: List.replicate m .no) = .ok (rngL 0 v.toNat) := by
    simp [hv, hr]
  rw [sFor_ap, e1]
  rfl
theorem law_of {N : Int} (hN : 1 ≤ N ∧ N ≤ 4) {body : En → R Fl} (ns : List Int) (I : En → Prop) (m : Nat) (h0 : I (.rl (ns.map .int) :: List.replicate m .no))
    (hs : ∀ k : Int, 0 ≤ k → k < 1000 → ∀ en, I en → ∃ en', goes (body (en.set 1 (.sh (.int k)))) en' ∧ I en') :
    runL (m + 1) (sNx (sSeq (sFor (dItA rng1 (dCons (dN max2D (dCons (dC (.int 1)) (dCons (dN minD (dCons (dC (.int N)) (dCons (dLenR 0) dNil))) dNil))) dNil)) (gN 1) body) (sRet (dC (.bool true))))) ns = .ok (.bool true) := by
  obtain ⟨en', h1, _⟩ := law_loop hN ns I m h0 hs
  unfold runL
  rw [Nat.add_sub_cancel, sNx_ap, sSeq_ap, h1]
  rfl
end Dn

/-! while an exception is handled: the end of a list's walk, sum, comprehensions. -/
namespace Dn
open PySem PySem.Spec PyProof.Rows L2 L2H HotX
section
variable {prog : Program} {w : World} {A : Around} {E : Value → Shared → Prop} {s : Shared}
theorem hot_ne {x1 it l : Addr} {i : Nat} (hot : HotAt A x1 s.heap) (hit : s.heap.IsListIter it l i) : x1 ≠ it := by
  obtain ⟨_, o, vs, h1, d1, c1⟩ := hot
  obtain ⟨o2, h2, _, d2⟩ := hit
  rintro rfl
  rw [h1] at h2
  cases h2
  rw [d1] at d2
  cases d2
  simp at c1
/-- StopIteration is made and raised: E is told of a heap that keeps all, in which the new error stands -/
theorem stop_hot {α : Type} {x1 : Addr} {F : Value → Shared → Prop} {Q : α → Shared → Prop} (hot : HotAt A x1 s.heap)
    (hF : ∀ (a : Addr) (g : Heap), (∀ b o, s.heap.get? b = some o → g.get? b = some o) → Shared.TypeIs { s with heap := g } (.ref a) "StopIteration" → F (.ref a) { s with heap := g }) :
    wpAny (model prog w) A (newExc (.type "StopIteration") [] >>= fun x => (raiseNew x : Sem α)) Q F s := by
  obtain ⟨hh, o, vs, h1, d1, c1⟩ := hot
  have keep2 : ∀ (p q : Obj) (b : Addr) (u : Obj), s.heap.get? b = some u → ((s.heap.push p).push q).get? b = some u := fun p q b u e => Heap.get?_push_of_some _ (Heap.get?_push_of_some _ e)
  simp only [newExc, newTuple]
  refine wpAny_bind (wpAny_bind (wpAny_newObj_type (wpAny_bind (m := firstArgMember _ _) (wpAny_of_eq (a := Value.none) (by first | rfl | (simp only [firstArgMember]; rfl)) (wpAny_newObj_type ?_ (by size_fits)))) (by size_fits)))
  refine raiseNew_hot ⟨hh, o, vs, keep2 _ _ _ _ h1, d1, c1⟩ (Nat.ne_of_lt (Heap.lt_size (Heap.get?_push_of_some _ h1))) (Heap.get?_push_size _ rfl) rfl (by first | (simp; done) | (simp; omega) | (simp only [Array.size_append]; simp; omega)) (hF _ _ (fun b u e => ?_) ?_)
  · rw [Heap.get?_update_other _ _ (Nat.ne_of_gt (Heap.lt_size (Heap.get?_push_of_some _ e)))]
    exact keep2 _ _ b u e
  · exact ⟨_, Heap.get?_update_self _ (Heap.get?_push_size _ rfl) rfl, rfl⟩
/-- the walk of a list ends while an exception is handled -/
theorem list_end_hot {it l x1 : Addr} {i : Nat} {xs : Array Value} {Q : Option Value → Shared → Prop} (hot : HotAt A x1 s.heap) (hit : s.heap.IsListIter it l i) (hl : s.heap.IsList l xs) (hx : xs[i]? = none)
    (hQ : ∀ g, Heap.ExtBut it s.heap g → Q none { s with heap := g }) : wpAny (model prog w) A (pyNext (.ref it)) Q E s := by
  have hne := hot_ne hot hit
  have T := hit.typeIs
  obtain ⟨oi, hoi, _, di⟩ := hit
  obtain ⟨ol, hol, _, nl, dl⟩ := hl
  have nn : ¬ ((Value.ref l == Value.none) = true) := Bool.false_ne_true
  have hot2 : HotAt A x1 (s.heap.update it (Obj.mapFields (·.setIfInBounds 0 .none))) := by
    obtain ⟨hh, o, vs, h1, d1, c1⟩ := hot
    refine ⟨hh, o, vs, ?_, d1, c1⟩
    rw [Heap.get?_update_other _ _ (Ne.symm hne)]
    exact h1
  have go := wpAny_callSpecial?_slot (M := model prog w) (A := A) (name := Str.ofString "__next__") T slot_listiter_next (Q := fun _ _ => False) (E := fun e t => wpAny (model prog w) A (isInstance e (.type "StopIteration")) (fun b t' => b = true ∧ Q none t') E t) (s := s)
    (wpAny_call_entry slot_listiter_next T entry_listiter_next (by
      show wpAny _ _ (field (.ref it) 0 >>= _) _ _ s
      refine wpAny_bind (wpAny_field hoi di (x := .ref l) rfl ?_)
      show wpAny _ _ (ite _ _ _) _ _ s
      rw [if_neg nn]
      show wpAny _ _ (field (.ref it) 1 >>= fun v => _) _ _ s
      refine wpAny_bind (wpAny_field hoi di (x := .int i 0) rfl ?_)
      show wpAny _ _ (seqItems? (.ref l) >>= fun v => _) _ _ s
      refine wpAny_bind (wpAny_seqItems hol dl ?_)
      simp only [Int.toNat_natCast, hx]
      refine wpAny_bind (wpAny_rule (wpAny_bind (wpAny_setField hoi di (by simp) ?_)))
      refine stop_hot hot2 fun a g k ty => ?_
      refine wpAny_isInstance (T := "StopIteration") (b := true) ty isSubtype_stop ⟨rfl, hQ g fun b o hb e => k b o ?_⟩
      rw [Heap.get?_update_other _ _ (Ne.symm hb)]
      exact e) (args_listiter_next _))
  unfold pyNext
  refine wpAny_bind (wpAny_attempt (wpAny_mono go (fun v t z => z.elim) fun e t z => wpAny_bind (wpAny_mono z (fun b t' hb => ?_) fun _ _ y => y)))
  rw [hb.1, if_pos rfl]
  exact wpAny_pure hb.2
theorem hot_keep {x1 : Addr} {h h' : Heap} (hot : HotAt A x1 h) (k : ∀ o, h.get? x1 = some o → h'.get? x1 = some o) : HotAt A x1 h' := by
  obtain ⟨hh, o, vs, h1, d1, c1⟩ := hot
  exact ⟨hh, o, vs, k _ h1, d1, c1⟩
theorem walks_hot {x1 I ax : Addr} (hne : ax ≠ I) (xs : Array Value) : Walks prog w A I [I, ax, x1] [I] xs.size (fun i v => xs[i]? = some v) (fun i h => (h.IsListIter I ax i ∧ h.IsList ax xs) ∧ HotAt A x1 h) where
  sub := fun b hb => by simp at hb; simp [hb]
  frame := fun _ _ _ st hk => ⟨⟨st.1.1.at fun o e => hk I (by simp) o e, st.1.2.at fun o e => hk ax (by simp) o e⟩, hot_keep st.2 fun o e => hk x1 (by simp) o e⟩
  item := fun i t Q E hi st hQ => by
    obtain ⟨hot⟩ : Nonempty (x1 ≠ I) := ⟨by
      obtain ⟨_, o, vs, h1, d1, c1⟩ := st.2
      obtain ⟨o2, h2, _, d2⟩ := st.1.1
      rintro rfl
      rw [h1] at h2
      cases h2
      rw [d1] at d2
      cases d2
      simp at c1⟩
    refine wpAny_pyNext_list_item st.1.1 st.1.2 (x := xs[i]) (by simp [hi]) fun g hit' hs' => ?_
    exact hQ _ g t.toks (by simp [hi]) ⟨⟨hit', st.1.2.extBut hs'.extBut hne⟩, hot_keep st.2 fun o e => hs'.extBut x1 o hot e⟩ fun b o hb e => hs'.extBut b o (fun z => hb (by simp [z])) e
  done := fun t Q E st hQ => list_end_hot st.2 st.1.1 st.1.2 (by simp) fun g he' => hQ g t.toks fun b o hb e => he' b o (fun z => hb (by simp [z])) e
  self := fun _ _ _ _ st hQ => wpAny_pyIter_listiter st.1.1 hQ
theorem sum_hot {x1 l : Addr} {its : List Value} {ns : List Int} {Q : Value → Shared → Prop} (hot : HotAt A x1 s.heap) (hl : s.heap.IsList l its.toArray) (hi : IntsAre its ns)
    (h : ∀ g tk t', (∀ b o, s.heap.get? b = some o → g.get? b = some o) → Q (.int ns.sum t') { s with heap := g, toks := tk }) : wpAny (model prog w) A (call (.builtin "sum") [.ref l]) Q E s := by
  obtain ⟨xs, e⟩ := hi.allInts.items
  have hn : numsOf (intItems xs).toList = ns := by rw [← e]; exact hi.numsOf
  rw [nums_intItems] at hn
  rw [e] at hl
  refine call_sum_walkG (iter_intList hl fun s₂ e2 st hfp hlI => ?_)
  subst e2
  obtain ⟨hh, oe, ve, he, de, ce⟩ := hot
  have hx1 : x1 < s.heap.objs.size := Heap.lt_size he
  refine ⟨_, _, _, _, _, _, numAt xs, rfl, walks_hot (A := A.in1) (x1 := x1) hlI (intItems xs), ⟨st, hh, oe, ve, Heap.get?_push_of_some _ he, de, ce⟩, fun b hb => ?_, (fun _ _ => intItems_at), fun g tk t' hk => ?_⟩
  · simp only [List.mem_cons, List.not_mem_nil, or_false] at hb
    rcases hb with hb | hb | hb
    · exact hfp _ (by simp [hb])
    · exact hfp _ (by simp [hb])
    · rw [hb]
      show _ < (s.heap.push _).objs.size
      rw [Heap.size_push]
      exact Nat.lt_succ_of_lt hx1
  · have := h g tk t' (old_kept hk)
    have e3 : preSum (numAt xs) xs.size = ns.sum := by rw [preSum_eq, List.take_of_length_le (by simp), hn]
    rw [← e3] at this
    simpa [intItems] using this
end
/-! ### the flags as numbers, while an exception is handled -/
theorem obj_some {P : Program} {w : World} {H : Hp} {h : Heap} {a : Addr} {o : HO} (x : ObjOk P w H h a o) : ∃ u, h.get? a = some u := by
  cases o with
  | lst xs => exact ⟨_, x.2.choose_spec.choose_spec.2⟩
  | tup xs => exact ⟨_, x.2.choose_spec.2.choose_spec.1⟩
  | dK kvs =>
    obtain ⟨_, _, vs, _, d⟩ := x
    obtain ⟨o, es, ep, e, _⟩ := d
    exact ⟨o, e⟩
  | dT kvs =>
    obtain ⟨_, _, xs, _, d⟩ := x
    obtain ⟨o, es, ep, e, _⟩ := d
    exact ⟨o, e⟩
  | set S n =>
    obtain ⟨o, a1, a2, a3, e, _⟩ := x
    exact ⟨_, e⟩
  | ins C dx fs => exact ⟨_, x.2.2.2.1⟩
  | own y => exact x
  | xd fs =>
    obtain ⟨mA, d, _⟩ := x
    obtain ⟨o, es, ep, e, _⟩ := d
    exact ⟨_, e⟩
  | rng lo hi =>
    obtain ⟨t, u, v, e⟩ := x
    exact ⟨_, e⟩
  | frz ob u => exact ⟨_, x.1⟩
  | tbl ps => exact ⟨_, x⟩
  | met f y => exact ⟨_, x⟩
  | ext φ => exact x.2.1
def bi (b : Bool) : Int := if b then 1 else 0
section
variable {X : Cx}
theorem HotC.hot {pins : List (Addr × Obj)} {σ : L2.St} {H : Hp} {s : Shared} (c : HotC X) (I : Inv X pins σ H s) : ∃ x1, HotAt X.A x1 s.heap := HotC.at c I
theorem vals_bls : ∀ {bs : List Bool} {its : List Value}, Vals (bs.map V.bl) its → its = bs.map Value.bool
  | [], _, .nil => rfl
  | b :: r, _, .cons h t => by
    cases h
    rw [vals_bls t]
    rfl
theorem ints_vals : ∀ {bs : List Bool} {ys : List Value}, Paired (fun (v y : Value) => ∃ b t, v = .bool b ∧ y = .int (bi b) t) (bs.map Value.bool) ys → Vals (bs.map fun b => V.int (bi b)) ys
  | [], _, .nil => .nil
  | b :: r, _, .cons h t => by
    obtain ⟨c, tk, e1, e2⟩ := h
    cases e1
    subst e2
    exact .cons ⟨tk, rfl⟩ (ints_vals t)
/-- [int(x) for x in l] of a list of truths -/
def tInts (K : PySem.W.Frag) (tl : TE) : TE := fun σ H Q => tl σ H fun v H1 => ∃ a bs, v = .ref a ∧ SqL K H1 a (List.map V.bl bs) ∧ ∀ D, H1 D = none → Q (.ref D) (upd H1 D (.lst (bs.map fun b => V.int (bi b))))
theorem pe_intsH {iter : Expr} {x : Str} {scope : Scope} {tl : TE} {px p1 p2 p3 pos : Pos} (hot : HotC X) (hl : PE X iter tl) (hm : X.mg "int" = none) (hk : scope.kind = .function) (hx : scope.names.lookup x = some .local) (hi : scope.names.lookup ("int" : Str) = some .globalImplicit)
    (hf : ∀ y ∈ scope.names, y.2 ≠ .free) (hc : ∀ y ∈ scope.names, y.2 ≠ .cell) (hn : ∀ y ∈ scope.names, y.2 = .local → scope.names.lookup y.1 = some .local) (hd : (x == ("__debug__" : Str)) = false) (hs : ∀ z, foldedSetIterable iter X.env z = pure z := by intro _; rfl) :
    PE X (.ListComp (.Call (.Name "int" p1) [.Name x p2] [] p3) [⟨.Name x px, iter, [], 0⟩] scope pos) (tInts X.K tl) := by
  refine ⟨fun pins s σ H Q I h => ?_⟩
  refine wpAny_ListComp_walk (fun _ => true) (fun v y => ∃ b t, v = .bool b ∧ y = .int (bi b) t) hf hc hk hn hx ?_ hs
  refine wpAny_mono (hl.run pins s σ H _ I h) (fun u s1 ⟨v, H1, I1, r1, a, bs, ev, hq, q⟩ => ?_) fun _ _ z => z
  subst ev
  obtain rfl : u = Value.ref a := r1
  obtain ⟨its, rv, pl, hz⟩ := I1.list hq
  have eits := vals_bls rv
  subst eits
  have isl := pl.isList
  obtain ⟨x1, hh, oe, ve, he, de, ce⟩ := HotC.at hot I1
  have halt : a < s1.heap.objs.size := by
    obtain ⟨_, e, _⟩ := isl
    exact Heap.lt_size e
  refine wpAny_pyIter_list isl ?_
  let g1 := s1.heap.push { cls := .type "list_iterator", data := .fields #[.ref a, .int 0 0] }
  have old : ∀ b o, s1.heap.get? b = some o → g1.get? b = some o := fun b o e => Heap.get?_push_of_some _ e
  refine ⟨s1.heap.objs.size, [s1.heap.objs.size, a, x1], [s1.heap.objs.size], (bs.map Value.bool).toArray.size, _, _, rfl, walks_hot (Nat.ne_of_lt halt) (bs.map Value.bool).toArray, ?_, ⟨⟨⟨_, Heap.get?_push_size _ rfl, rfl, rfl⟩, isl.push _⟩, hh, oe, ve, old _ _ he, de, ce⟩, ?_, ⟨?_, ?_⟩, ?_⟩
  · simpa using hz
  · intro b hb
    show b < (s1.heap.push _).objs.size
    rw [Heap.size_push]
    simp only [List.mem_cons, List.not_mem_nil, or_false] at hb
    rcases hb with hb | hb | hb
    · rw [hb]; exact Nat.lt_succ_self _
    · rw [hb]; exact Nat.lt_succ_of_lt halt
    · rw [hb]; exact Nat.lt_succ_of_lt (Heap.lt_size he)
  · intro C i v s3 m3 E' _ _ _ _ _
    exact wpAny_pure ⟨rfl, s3.heap, s3.toks, rfl, fun _ _ e => e⟩
  · intro C i v s3 m3 E' hv _ hns hmx hk3 _
    have hv' : (bs.map Value.bool)[i]? = some v := by simpa using hv
    rw [List.getElem?_map] at hv'
    cases hb : bs[i]? with
    | none => rw [hb] at hv'; cases hv'
    | some b =>
      rw [hb] at hv'
      cases hv'
      have k3 : ∀ c o, s1.heap.get? c = some o → s3.heap.get? c = some o := fun c o e => hk3 c o (fun z => by
        have z2 : c = s1.heap.objs.size := by simpa using z
        exact absurd (Heap.lt_size e) (by rw [z2]; exact Nat.lt_irrefl _)) (old c o e)
      obtain ⟨mb, b1, b2⟩ := I1.mod.blt
      refine Call_ (Calls.Name_function_global hk hi (Calls.loadGlobal_builtin (mg := X.mg) (mb := mb) (v := .type "int") ?_ hm ?_ ((b2 _ (by decide)).trans (by decide +kernel)) ?_))
      · show s3.heap.Ns X.env.globals X.mg
        rw [I1.ok.glob]
        exact (I1.mod.glob.keeps I1.bk).keeps k3
      · show s3.heap.Ns X.env.builtins mb
        rw [I1.ok.blt]
        exact (b1.keeps I1.bk).keeps k3
      · refine PyProof.Rows.callWith_type1 (args_cons (wpAny_Name (wpAny_loadName_local hk hx hns hmx (Calls.spliced_nil (call_int_bool ⟨⟨b, _, rfl, rfl⟩, s3.heap, _, rfl, fun _ _ e => e⟩))) hd))
  · intro D g tk ys vs hD hIs hpl hlen hP hF hk4
    have evs : vs = bs.map Value.bool := by
      apply List.ext_getElem?
      intro j
      by_cases hj : j < vs.length
      · have := hP j vs[j] (List.getElem?_eq_getElem hj)
        rw [List.getElem?_eq_getElem hj]
        simpa using this.symm
      · rw [List.getElem?_eq_none (by omega), List.getElem?_eq_none]
        simp at hlen
        simp
        omega
    have hF2 : Paired (fun (v y : Value) => ∃ b t, v = .bool b ∧ y = .int (bi b) t) (bs.map Value.bool) ys.toList := by
      rw [← evs, ← List.filter_eq_self.mpr (fun (a : Value) (_ : a ∈ vs) => (rfl : (fun _ : Value => true) a = true))]
      exact hF
    have hD1 : s1.heap.get? D = none := by
      cases e : s1.heap.get? D with
      | none => rfl
      | some o =>
        have := old D o e
        rw [show g1.get? D = none from hD] at this
        cases this
    have hDn : H1 D = none := by
      cases e : H1 D with
      | none => rfl
      | some o =>
        obtain ⟨u, hu⟩ := obj_some (I1.hok D o e)
        rw [hD1] at hu
        cases hu
    obtain ⟨n, hg⟩ := hpl
    refine ⟨.ref D, upd H1 D (.lst (bs.map fun b => V.int (bi b))), I1.laidN (t' := tk) (fun b o e => hk4 b o (fun z => ?_) (old b o e)) hD1 hDn ⟨by simpa using hz, ys.toList, n, ints_vals hF2, by simpa using hg⟩, rfl, q D hDn⟩
    have z2 : b = s1.heap.objs.size := by simpa using z
    exact absurd (Heap.lt_size e) (by rw [z2]; exact Nat.lt_irrefl _)
end
end Dn

/-! a lambda handed to a def that catches its errors. -/
namespace Dn
open PySem PySem.Spec PyProof.Rows L2 L2H HotX
/-- where the lambda's body runs: errors without context are let out -/
abbrev lamN (X : Cx) (A : Around) (outer : List Env) (s : Shared) (H : Hp) (E : XK) (scope : Scope) (f c : Addr) : Cx :=
  (LamX.lamCx X A outer s H E scope f c).tr [] fun e t => wpAny (model X.prog X.w) (A.deeper (LamX.lamEnv X scope s.heap.objs.size f c)) (leaving (LamX.lamEnv X scope s.heap.objs.size f c) e) (fun _ t' => L2N.CX X.prog X.w outer H s E e t') (fun e' t' => L2N.CX X.prog X.w outer H s E e' t') t
section
variable {X : Cx} {pins : List (Addr × Obj)} {σ : L2.St} {H HZ : Hp} {s t : Shared}
/-- the lambda at f is called in the state t, from the frames outer -/
theorem lam_call {A : Around} {outer : List Env} {scope : Scope} {params : Arguments} {body : Expr} {f c : Addr} {pm ctv : Value} {k : Nat} {E : XK} {Q : VK} {tb : TE} (I : Inv X pins σ H s) (L : LamX.LamS X.env.scope scope)
    (hf : t.heap.get? f = some (PySem.W.kla_obj "<lambda>" (X.env.qual ++ "<lambda>") params body scope (cloFrom X.env.cells scope.names []) pm c ctv))
    (hb : bindArgs (PySem.W.kla_fn "<lambda>" (X.env.qual ++ "<lambda>") params body scope (cloFrom X.env.cells scope.names []) pm (.ref c) ctv) ⟨[], []⟩ = pure [])
    (e0 : Env0 X.prog X.w X.K X.mg X.base A outer t HZ) (un : Un (frs X.stack) [] H HZ s.heap t.heap) (lim : t.heap.NoLimit) (hr : Room (k + 1) A) (hc : HZ c = some (LamX.CodeO c (X.env.qual ++ "<lambda>")))
    (he : Room k (A.deeper (LamX.lamEnv X scope t.heap.objs.size f c)) → PE (lamN X A outer t HZ E scope f c) body tb) (h : tb σ HZ Q) :
    codeAny (model X.prog X.w) A (.call (.ref f) ⟨[], []⟩) (CR (L2N.CX X.prog X.w) outer X.prog X.w HZ t Q E) t := by
  have hco := e0.hok c _ hc
  obtain ⟨⟨oc, vc, tc, g1, g2, g3⟩, _⟩ := hco
  refine PySem.W.kla_callFunE hr.depth hf rfl L.co L.gen rfl ⟨c, oc, vc, tc, rfl, g1, g2, g3⟩ ?_
  rw [hb]
  refine wpAny_pure (wpAny_newFunctionEnv (fun y q => (L.own y q).2) (fun y q => (by simp at q)) (fun g ns sb => ⟨lim.fresh _ sb, ?_⟩) L.kind)
  have keep : ∀ b o, t.heap.get? b = some o → g.get? b = some o := fun b o e => sb.extBut b o (Nat.ne_of_lt (Heap.lt_size e)) (Heap.get?_push_of_some _ e)
  have J := (LamX.lam_start2 (A := A) (outer := outer) (E := E) (scope := scope) (f := f) (c' := c) (tk := t.toks + ([] : List (Str × Value)).length) I L e0 hr.hd un ns keep).toTry (lamN X A outer t HZ E scope f c).xe
  refine PySem.W.kla_codeExpr (wpAny_mono ((he (hr.deeper _)).run [] _ σ HZ Q J h) (fun v t2 q => ?_) fun e t2 q => q)
  obtain ⟨x, H2, J2, rx, q⟩ := q
  exact ⟨x, H2, J2.os, J2.bare, J2.base, J2.hok, rx, q⟩
/-- deed(), in the def that got the lambda -/
theorem pe_deed {CXg : CXT} {Eg : XK} {Ng : List Str} {qg : Str} {sg : Scope} {g f c : Addr} {cdg pm ctv : Value} {params : Arguments} {body : Expr} {scope : Scope} {k i : Nat} {a : Str} {pn : List (Addr × Obj)} {xe : Value → Shared → Prop} {W : WX} {E : XK} {tb : TE} {p1 p2 : Pos}
    (I : Inv X pins σ H s) (L : LamX.LamS X.env.scope scope) (hf : s.heap.get? f = some (PySem.W.kla_obj "<lambda>" (X.env.qual ++ "<lambda>") params body scope (cloFrom X.env.cells scope.names []) pm c ctv)) (nf : H f = none) (nfr : f ∉ frs X.stack)
    (hb : bindArgs (PySem.W.kla_fn "<lambda>" (X.env.qual ++ "<lambda>") params body scope (cloFrom X.env.cells scope.names []) pm (.ref c) ctv) ⟨[], []⟩ = pure [])
    (tk : L2N.Takes ((cxOf CXg X.prog X.w X.K X.mg X.base Ng qg sg g cdg X.A X.stack s H Eg).tr pn xe) W) (hW : ∀ cls d σ' H', E cls d H' → W cls d σ' H') (hr : Room (k + 1) (X.A.deeper (envOfC qg sg s.heap.objs.size g cdg)))
    (he : ∀ (A : Around) (outer : List Env) (t : Shared) (HZ : Hp), Room k (A.deeper (LamX.lamEnv X scope t.heap.objs.size f c)) → PE (lamN X A outer t HZ E scope f c) body tb)
    (hN : Ng[i]? = some a) (hv : Vis sg a) (hd : (a == ("__debug__" : Str)) = false) (hcd : (a == ("__classdict__" : Str)) = false) :
    PE ((cxOf CXg X.prog X.w X.K X.mg X.base Ng qg sg g cdg X.A X.stack s H Eg).tr pn xe) (.Call (.Name a p1) [] [] p2)
      (fun σZ HZ Q => σZ[i]? = some (some (.ref f)) ∧ HZ c = some (LamX.CodeO c (X.env.qual ++ "<lambda>")) ∧ tb σ HZ Q) := by
  refine ⟨fun pz sz σz Hz Q Iz h => ?_⟩
  obtain ⟨h1, h2, h3⟩ := h
  have nm := (pe_var (pos := p1) (i := i) (X := (cxOf CXg X.prog X.w X.K X.mg X.base Ng qg sg g cdg X.A X.stack s H Eg).tr pn xe) hN hv hd hcd).run pz sz σz Hz (fun v H1 => v = .ref f ∧ H1 = Hz) Iz ⟨.ref f, h1, rfl, rfl⟩
  refine wpAny_Call_Name_kw (thn nm fun u s1 ⟨v, H1, J, rv, ev, eH⟩ => ?_)
  subst ev
  subst eH
  obtain rfl : u = Value.ref f := rv
  have hf1 := J.base.keep f _ hf nf nfr (fun z => nomatch (show f ∈ ([] : List Addr) from z))
  have rc : codeAny (model X.prog X.w) (X.A.deeper (envOfC qg sg s.heap.objs.size g cdg)) (.call (.ref f) ⟨[], []⟩) (CR (L2N.CX X.prog X.w) (envOfC qg sg s.heap.objs.size g cdg :: X.stack) X.prog X.w H1 s1 Q E) s1 :=
    lam_call (X := X) (k := k) (E := E) (Q := Q) (tb := tb) I L hf1 hb J.env0 J.base J.nolimit hr h2 (he _ _ s1 H1) h3
  refine PySem.W.callWith_F0 ⟨_, _, _, _, hf1⟩ (wpAny_call (codeAny_mono rc fun r s2 q => ?_))
  cases r with
  | error e => exact L2N.passes_call tk hW pz σz H1 s1 e s2 J q
  | ok fl =>
    cases fl with
    | ret u => exact J.after q
    | next => exact q.elim
    | brk => exact q.elim
    | cont => exact q.elim
end
/-! ### a def called where the exception p is handled -/
section
variable {P : Program} {w : World} {K : PySem.W.Frag} {mg : Str → Option Value} {base : Heap}
theorem hot_def {CX : CXT} {x qual : Str} {st : Stmt} {f : Addr} {fd : FuncData} {N ps : List Str} {k : Nat} {A : Around} {outer : List Env} {s : Shared} {H : Hp} {args : Args} {us : List Value} {vs : List V} {Q : VK} {E : XK} {p : Addr × Obj}
    (F : Fun K x qual st f fd) (S : FnScope N ps (defScope st)) (hr : RoomH (k + 1) A) (pin : PinOk outer H s p) (e0 : Env0 P w K mg base A outer s H) (hb : BindsTo s fd args (ps.zip us)) (r : Vals vs us) (hl : vs.length = ps.length)
    (hd : ∀ cdv : Value, RoomH k (A.deeper (envOfC qual (defScope st) s.heap.objs.size f cdv)) → ∃ t, PSs (cxH CX P w K mg base N qual (defScope st) f cdv A outer s H E p) (defBody st) t ∧ t { nx := fun _ H' => Q .non H', rt := Q } (L2.start N vs) H) :
    codeAny (model P w) A (.call (.ref f) args) (CR CX outer P w H s Q E) s := by
  obtain ⟨v1, v2, v3, v4, v5, v6, cdv, v8, v9, rfl, h1, h2⟩ := F.ex
  have inK : K.In s.heap := e0.mod.kin.keeps fun b o q => (e0.bs b o q).1
  have nolim : s.heap.NoLimit := e0.mod.nolimit.keeps fun b o q => (e0.bs b o q).1
  refine codeAny_call_function hr.depth (inK _ _ h1) rfl S.co S.gen rfl (PySem.W.codeRec_of inK h2) (hb _ _ _ _ (wpAny_newFunctionEnv_cells S.kind (fun ⟨n, v⟩ hy => ?_) fun env ev s1 inC => ?_))
  · rcases S.par n (List.of_mem_zip hy).1 with q | q
    · exact .inl q
    · exact .inr ⟨q, PySem.W.cellsFrom_some _ _ _ (.inl q)⟩
  · subst ev
    obtain ⟨t, ht, hq⟩ := hd cdv (hr.deeper _)
    have J : Inv (cxH CX P w K mg base N qual (defScope st) f cdv A outer s H E p) [] (L2.start N vs) H s1 := inv_startH S pin e0 hl r inC
    refine ⟨nolim.keeps inC.toInCall.keep, codeAny_func (wpAny_mono (ht.run [] s1 _ H _ J hq) (fun fl s2 hs => ?_) fun _ _ q => q)⟩
    have back : ∀ {σ2 : L2.St} {H2 : Hp} {v : V} {u : Value}, Inv (cxH CX P w K mg base N qual (defScope st) f cdv A outer s H E p) [] σ2 H2 s2 → RelV v u → Q v H2 → CE outer P w H s Q u s2 := fun {σ2 H2 v u} J2 rv q => ⟨v, H2, J2.os, J2.bare, J2.base, J2.hok, rv, q⟩
    cases fl with
    | ret u => exact let ⟨v, _, _, J2, rv, q⟩ := hs; back J2 rv q
    | next => exact let ⟨_, _, J2, q⟩ := hs; back (v := V.non) (u := Value.none) J2 rfl q
    | brk => exact let ⟨_, _, _, q⟩ := hs; q.elim
    | cont => exact let ⟨_, _, _, q⟩ := hs; q.elim
/-- x(e), e the slot of the handled exception, within the suite -/
theorem pe_hot {X : Cx} {CX : CXT} {x q : Str} {st : Stmt} {f : Addr} {fd : FuncData} {N : List Str} {k i : Nat} {a n : Str} {E : XK} {p : Addr × Obj} {pos p1 p2 : Pos} {G : Hp → VK → Prop}
    (F : Fun X.K x q st f fd) (S : FnScope N [a] (defScope st)) (hr : RoomH (k + 1) X.A) (hp : p ∈ X.pn) (hg : Gl X x) (hm : X.mg x = some (.ref f)) (hb : Binds X.K fd [a] []) (hx : Passes CX X E)
    (hi : X.N[i]? = some n) (hv : Vis X.env.scope n) (hd1 : (x == ("__debug__" : Str)) = false) (hd2 : (n == ("__debug__" : Str)) = false) (hd3 : (n == ("__classdict__" : Str)) = false)
    (hd : ∀ (H : Hp) (s : Shared) (Q : VK) (cdv : Value), G H Q → RoomH k (X.A.deeper (envOfC q (defScope st) s.heap.objs.size f cdv)) →
      ∃ t, PSs (cxH CX X.prog X.w X.K X.mg X.base N q (defScope st) f cdv X.A X.stack s H E p) (defBody st) t ∧ t { nx := fun _ H' => Q .non H', rt := Q } (L2.start N [.ref p.1]) H) :
    PE X (.Call (.Name x p1) [.Name n p2] [] pos) (fun σ H Q => σ[i]? = some (some (.ref p.1)) ∧ G H Q) := by
  refine ⟨fun pins s σ H Q I ⟨h1, h2⟩ => ?_⟩
  refine wpAny_Call_Name_kw (ld_glob I hg hm ?_ hd1)
  have nm := (pe_var (pos := p2) (i := i) (X := X) hi hv hd2 hd3).run pins s σ H (fun v H1 => v = .ref p.1 ∧ H1 = H) I ⟨.ref p.1, h1, rfl, rfl⟩
  have ar : PA X [.Name n p2] (tCons (tVar i) tNil) := pa_cons (pe_var hi hv hd2 hd3) pa_nil
  refine PySem.W.callWith_K (h₀ := X.base) I.ok.mod.kin F.kp (thn (ar.run pos pins s σ H (fun vs H1 => vs = [.ref p.1] ∧ H1 = H) I ⟨.ref p.1, h1, rfl, rfl⟩) fun us s1 ⟨vs, H1, J, rv, ev, eH⟩ => ⟨J.kIn, ?_⟩) rfl rfl
  subst ev
  subst eH
  have lu : us.length = 1 := by rw [← rv.length]; rfl
  have bnd := hb s1 us J.kIn (by rw [List.append_nil]; exact lu)
  rw [List.append_nil] at bnd
  obtain ⟨a1, a2, a3, a4, a5⟩ := J.pin p (List.mem_append_left _ hp)
  have pin : PinOk X.stack H1 s1 p := ⟨a1, a2, fun z => (List.mem_cons.mp (J.stkSub p.1 z)).elim a3 a4, a5⟩
  refine wpAny_call (codeAny_mono (hot_def (CX := CX) (k := k) (E := E) (Q := Q) (vs := [.ref p.1]) F S hr pin J.env0 bnd rv rfl fun cdv h => hd H1 s1 Q cdv h2 h) fun r s2 q => ?_)
  cases r with
  | error e => exact hx pins σ H1 s1 e s2 J q
  | ok fl =>
    cases fl with
    | ret u => exact J.after q
    | next => exact q.elim
    | brk => exact q.elim
    | cont => exact q.elim
end
/-! ### what _law_word asks: isinstance of the handled exception, sum -/
section
variable {X : Cx}
theorem call_sumH (hot : HotC X) : CallR X (.builtin "sum") (rSum X.K) := by
  intro pins s σ H vs us Q I r ⟨a, ns, ev, hs, q⟩
  subst ev
  obtain ⟨its, rv, hl, _⟩ := I.list hs
  obtain ⟨x1, hx⟩ := HotC.at hot I
  rw [Vals.ref1 r]
  exact sum_hot hx hl.isList rv.ints fun g tk t' hk => ⟨.int _, H, I.kept hk, ⟨_, rfl⟩, q⟩
theorem call_isP {a D : Addr} {oe : Obj} (C : ExcC X.K D) (hp : (a, oe) ∈ X.pn) (hz : oe.cls = .ref D ∧ oe.dict = none) (hf : ∃ vs, oe.data = .fields vs) : CallR X (.builtin "isinstance") (rIsE X.K D a) := by
  intro pins s σ H xs us Q I r ⟨c, cv, b, ev, hcv, e, q⟩
  subst ev
  match us, r with
  | [u1, u2], .cons ra (.cons rc .nil) =>
    obtain rfl : u1 = Value.ref a := ra
    have ec := hcv _ rc
    subst ec
    have get := (I.pin (a, oe) (List.mem_append_left _ hp)).1
    have at_ : PySem.W.InstAt s.heap a oe D none := by
      obtain ⟨vs, hv⟩ := hf
      obtain ⟨o1, o2, o3, o4⟩ := oe
      obtain ⟨z1, z2⟩ := hz
      dsimp only at z1 z2 hv
      subst z1 z2 hv
      exact ⟨get, rfl, rfl, trivial⟩
    exact PySem.W.kia_one (PySem.W.handS_kitx_exc C.hg C.hk C.hs C.hd C.ha C.hn C.ht C.hm) I.kIn at_ e (fun z => nomatch z) fun tk => ⟨.bl b, H, I.kept (t' := tk) fun _ _ z => z, rfl, q⟩
end
end Dn

/-! xs.index; the class of a caught error by its name; told. -/
namespace Dn
open PySem PySem.Spec PyProof.Rows L2 L2H HotX
variable [Tabl]
/-! ### xs.index(y) -/
def idxF (y : PD) : List PD → Option Nat
  | [] => none
  | d :: r => if eqF d y = true then some 0 else (idxF y r).map (· + 1)
def idxD (ds : List PD) (y : PD) : R PD := if (flatD y && ds.all flatD) = true then match idxF y ds with
    | some j => .ok (.int (j : Nat))
    | none => .stuck
  else .stuck
def dIdx (fo fa : En → R PD) : En → R PD := fun en => (fo en).bind fun x => match x with
  | .list ds => (fa en).bind fun y => idxD ds y
  | _ => .stuck
theorem idxF_spec (y : PD) : ∀ (ds : List PD) (j : Nat), idxF y ds = some j → ∃ d, ds[j]? = some d ∧ eqF d y = true ∧ ∀ m d', m < j → ds[m]? = some d' → eqF d' y = false
  | [], j, h => by cases h
  | d :: r, j, h => by
    unfold idxF at h
    split at h
    · rename_i hd
      cases h
      exact ⟨d, rfl, hd, fun m d' hm => absurd hm (Nat.not_lt_zero m)⟩
    · rename_i hd
      cases e : idxF y r with
      | none => rw [e] at h; cases h
      | some i =>
        rw [e] at h
        cases h
        obtain ⟨d', h1, h2, h3⟩ := idxF_spec y r i e
        refine ⟨d', h1, h2, fun m x hm hx => ?_⟩
        cases m with
        | zero => cases hx; simpa using hd
        | succ m => exact h3 m x (Nat.lt_of_succ_lt_succ hm) hx
section
variable {C : Cn} {to ta : TE} {fo fa : En → R PD}
theorem ed_index (ho : EdL C to fo) (ha : EdL C ta fa) : EdS C (tBM C.K "list" (rIndex C.K) to (tCons ta tNil)) (dIdx fo fa) := fun H0 ext reg en σ H rs Q w => by
  refine ho H0 ext reg en σ H rs _ ?_
  unfold dIdx at w
  cases eo : fo en with
  | exc c => rw [eo] at w; exact w
  | stuck => rw [eo] at w; exact w.elim
  | ok x =>
    rw [eo] at w
    simp only [R.bind_ok] at w
    intro v H2 e2 hv
    cases x with
    | list ds =>
      obtain ⟨p, xs, rfl, hp, hr⟩ := hv.lst fun a z => .inl z
      refine ⟨.inl ⟨rfl, xs, SqL.of hp⟩, ha.seq (rs.ex e2) (W := WrS C (own ext reg) H2 Q) (WrS.ex w e2) (fun _ q => q) (fun q => q) fun y u H3 e3 r3 hu w3 => ?_⟩
      unfold idxD at w3
      split at w3
      · rename_i hl
        obtain ⟨f1, f2⟩ := Bool.and_eq_true_iff.mp hl
        split at w3
        · rename_i j ej
          obtain ⟨d, g1, g2, g3⟩ := idxF_spec y ds j ej
          obtain ⟨z, z1, z2⟩ := hr.get g1
          have hu2 := hu.rps fun a z => .inl z
          refine ⟨p, xs, u, j, z, rfl, rfl, SqL.of (e3.l hp), hu2.flat f1, hr.flat f2, z1, ?_, fun m z' hm hz' => ?_, w3 _ H3 e3 (.int _)⟩
          · rw [z2.eqF hu2 (List.all_eq_true.mp f2 d (List.mem_of_getElem? g1)) f1]
            exact g2
          · obtain ⟨d', a1, a2⟩ := hr.getV hz'
            rw [a2.eqF hu2 (List.all_eq_true.mp f2 d' (List.mem_of_getElem? a1)) f1]
            exact g3 m d' hm a1
        · exact w3.elim
      · exact w3.elim
    | _ => exact w.elim
/-! ### [int(x) for x in l] -/
def intsD : PD → R PD
  | .list ds => match asBools ds with
    | some bs => if bs.length ≤ szN then .ok (.list (bs.map fun b => .int (bi b))) else .stuck
    | none => .stuck
  | _ => .stuck
theorem rpa_bi {K : PySem.W.Frag} {H : Hp} : ∀ (bs : List Bool), RpA K H (bs.map fun b => V.int (bi b)) (bs.map fun b => PyData.int (bi b))
  | [] => .nil
  | b :: r => .cons (.int _) (rpa_bi r)
theorem ed_ints (h : EdL C to fo) : EdS C (tInts C.K to) (d1 intsD fo) := fun H0 ext reg en σ H rs Q w =>
  h.seq rs (W := WrS C (own ext reg) H Q) w (fun _ q => q) (fun q => q) fun x v H2 e2 r2 hv w2 => by
    unfold intsD at w2
    split at w2
    · split at w2
      · rename_i bs eb
        split at w2
        · rename_i hl
          obtain ⟨p, xs, rfl, hp, hr⟩ := hv.lst fun a z => .inl z
          rw [hr.asBools eb] at hp
          exact ⟨p, bs, rfl, SqL.of hp, fun D hD => w2 _ _ (e2.trans (Xt.new hD)) (Rp.newL (fun a z => r2.there z) hD (rpa_bi bs))⟩
        · exact w2.elim
      · exact w2.elim
    · exact w2.elim
/-! ### isinstance of the exception in a slot -/
def dIs (i : Nat) (a : Addr) (b : Bool) : En → R PD := fun en => match en[i]? with
  | some (.xr a') => if a' = a then .ok (.bool b) else .stuck
  | _ => .stuck
theorem ed_is {D a : Addr} {b : Bool} {c : V} {cv : Value} (i : Nat) (hc : ∀ u, RelV c u → u = cv) (hk : PySem.W.kitOne C.K (.ref D) cv = some b) : EdS C (tCB (rIsE C.K D a) (tCons (tVar i) (tCons (tC c) tNil))) (dIs i a b) := fun H0 ext reg en σ H rs Q w => by
  unfold dIs at w
  cases e : en[i]? with
  | none => rw [e] at w; exact w.elim
  | some sv =>
    rw [e] at w
    obtain ⟨v, h1, h2⟩ := rs.sl i sv e
    cases sv with
    | xr a' =>
      dsimp only at w
      split at w
      · rename_i ha
        subst ha
        obtain rfl : v = some (V.ref a') := h2
        exact ⟨.ref a', h1, c, cv, b, rfl, hc, hk, w _ H (Xt.refl H) (.bl _)⟩
      · exact w.elim
    | _ => exact w.elim
end
/-! ### the class's name -/
/-- what the law's word asks of a class -/
structure WordT (K : PySem.W.Frag) (cl : Str → Addr) (ws : List Str) (ks : Addr) (c : Str) : Prop where
  kit : ∀ x ∈ ws, PySem.W.kitOne K (.ref (cl c)) (.ref (cl x)) = some (decide (c = x))
  val : PySem.W.kitOne K (.ref (cl c)) (.type "ValueError") = some true
  exc : ExcC K (cl c)
  cat : PySem.W.exmOne K (.ref (cl c)) (.ref ks) = some true
def runW (n : Nat) (f : En → R Fl) (a : Addr) : R PD := (f (SV.xr a :: List.replicate (n - 1) SV.no)).bind fun fl => match fl with
  | .nx _ => .ok .none
  | .rt d => .ok d
  | _ => .stuck
theorem RS.startX {K : PySem.W.Frag} {H : Hp} {a : Addr} {n : Nat} {N : List Str} (tb : LamX.Tabs Tabl.T H) (hn : N.length = n + 1) : RS K H (fun _ => False) (fun _ _ => False) (SV.xr a :: List.replicate n SV.no) (L2.start N [.ref a]) H := by
  refine ⟨Ex.refl H, tb, fun _ h => h.elim, fun _ _ h => h.elim, fun _ _ _ h => h.elim, fun _ _ h => h.elim, ?_, fun i sv e => ?_⟩
  · unfold L2.start
    simp [hn]
  · unfold L2.start
    cases i with
    | zero =>
      cases e
      exact ⟨_, rfl, rfl⟩
    | succ i =>
      rw [List.getElem?_cons_succ, List.getElem?_replicate] at e
      split at e
      · rename_i hl
        cases e
        refine ⟨none, ?_, trivial⟩
        show (List.replicate (N.length - 1) none)[i]? = _
        rw [List.getElem?_replicate, if_pos (by omega)]
      · cases e
/-! ### told -/
/-- the name of an error that is let out, or what is told -/
def dTold (cs : List Str) (fa : En → R PD) : En → R PD := fun en => match fa en with
  | .ok d => .ok d
  | .exc c => if c ∈ cs then .ok (.str c) else .stuck
  | .stuck => .stuck
def eTold (cl : Str → Addr) (cs : List Str) (Q : VK) : XK := fun cls d H => ∃ c, c ∈ cs ∧ cls = .ref (cl c) ∧ d = none ∧ LamX.Tabs Tabl.T H ∧ ∀ H2, Xt H H2 → Q (.str c) H2
def tTold (cl : Str → Addr) (cs : List Str) (tb : XK → TE) : TE := fun σ H Q => LamX.Tabs Tabl.T H ∧ ∀ H1, LamX.ExtN H H1 → LamX.Tabs Tabl.T H1 → tb (eTold cl cs Q) σ H1 Q
theorem xt_lam {H H1 : Hp} (e : LamX.ExtN H H1) (t : LamX.Tabs Tabl.T H1) : Xt H H1 := ⟨⟨fun a o h n => e a o h fun ps z => by
  rw [z] at n
  cases n⟩, fun _ => t⟩
theorem ed_told {C : Cn} {cs : List Str} {tb : XK → TE} {fa : En → R PD} (h : ∀ E, EdS ⟨C.K, E, C.cl⟩ (tb E) fa) : EdS C (tTold C.cl cs tb) (dTold cs fa) := fun H0 ext reg en σ H rs Q w => by
  refine ⟨rs.tb, fun H1 e1 t1 => ?_⟩
  have x1 := xt_lam e1 t1
  refine h (eTold C.cl cs Q) H0 ext reg en σ H1 (rs.ex x1) Q ?_
  unfold dTold at w
  generalize fa en = r at w ⊢
  cases r with
  | ok d => exact WrS.ex w x1
  | exc c =>
    dsimp only at w
    split at w
    · rename_i hc
      exact fun H2 e2 => ⟨c, hc, rfl, rfl, e2.t (rs.ex x1).tb, fun H3 e3 => w _ H3 ((x1.trans e2).trans e3) (.str _)⟩
    · exact w.elim
  | stuck => exact w.elim
end Dn

/-! told(lambda: e), as one expression. -/
namespace Dn
open PySem PySem.Spec PyProof.Rows L2 L2H HotX
variable [Tabl]
/-- the def that names a caught error by its class -/
structure Wrd (P : Program) (w : World) (K : PySem.W.Frag) (mg : Str → Option Value) (base : Heap) (cl : Str → Addr) (cs : List Str) (k : Nat) : Prop where
  ex : ∃ (st : Stmt) (f : Addr) (fd : FuncData) (N : List Str), Fun K "_law_word" "_law_word" st f fd ∧ FnScope N ["e"] (defScope st) ∧ mg "_law_word" = some (.ref f) ∧ Binds K fd ["e"] [] ∧
    ∀ c ∈ cs, ∀ (E : XK) (A : Around) (outer : List Env) (s : Shared) (H : Hp) (Q : VK) (cdv : Value) (p : Addr × Obj), Hot1 A p → p.2.cls = .ref (cl c) → p.2.dict = none → RoomH k (A.deeper (envOfC "_law_word" (defScope st) s.heap.objs.size f cdv)) →
      LamX.Tabs Tabl.T H → (∀ H2, Xt H H2 → Q (.str c) H2) →
      ∃ t, PSs (cxH (L2N.CX P w) P w K mg base N "_law_word" (defScope st) f cdv A outer s H E p) (defBody st) t ∧ t { nx := fun _ H' => Q .non H', rt := Q } (L2.start N [.ref p.1]) H
/-- .. as its denotation tells -/
theorem wrd_by {P : Program} {w : World} {K : PySem.W.Frag} {mg : Str → Option Value} {base : Heap} {cl : Str → Addr} {cs : List Str} {k : Nat} {st : Stmt} {f : Addr} {fd : FuncData} {N : List Str} {bw : Str → Addr → En → R Fl}
    (F : Fun K "_law_word" "_law_word" st f fd) (S : FnScope N ["e"] (defScope st)) (hm : mg "_law_word" = some (.ref f)) (hb : Binds K fd ["e"] []) (hN : 0 < N.length)
    (hw : ∀ c ∈ cs, ∀ a, runW N.length (bw c a) a = .ok (.str c))
    (hd : ∀ c ∈ cs, ∀ (E : XK) (A : Around) (outer : List Env) (s : Shared) (H : Hp) (cdv : Value) (p : Addr × Obj), Hot1 A p → p.2.cls = .ref (cl c) → p.2.dict = none → RoomH k (A.deeper (envOfC "_law_word" (defScope st) s.heap.objs.size f cdv)) →
      ∃ t, PSs (cxH (L2N.CX P w) P w K mg base N "_law_word" (defScope st) f cdv A outer s H E p) (defBody st) t ∧ Es ⟨K, E, cl⟩ t (bw c p.1)) : Wrd P w K mg base cl cs k := by
  refine ⟨st, f, fd, N, F, S, hm, hb, fun c hc E A outer s H Q cdv p hot h1 h2 hr tb q => ?_⟩
  obtain ⟨t, ht, he⟩ := hd c hc E A outer s H cdv p hot h1 h2 hr
  refine ⟨t, ht, ?_⟩
  have hn : N.length = (N.length - 1) + 1 := by omega
  refine he H (fun _ => False) (fun _ _ => False) _ _ H (RS.startX tb hn) _ ?_
  have := hw c hc p.1
  unfold runW at this
  revert this
  generalize bw c p.1 (SV.xr p.1 :: List.replicate (N.length - 1) SV.no) = r
  intro z
  cases r with
  | ok fl =>
    cases fl with
    | nx e => cases z
    | rt d =>
      cases z
      intro v H2 e2 t2 h3
      cases h3
      exact q H2 ⟨e2, fun _ => t2⟩
    | bk e => cases z
    | ct e => cases z
    | rm d e => cases z
    | rn d e => cases z
    | xm d e => cases z
    | pr i d e => cases z
  | exc c => cases z
  | stuck => cases z
/-- the def that tells what a deed tells, or the class of its error -/
structure Tld (K : PySem.W.Frag) (mg : Str → Option Value) (cl : Str → Addr) (cs : List Str) (ks : Str) (ka : Addr) : Prop where
  ex : ∃ (st : Stmt) (g : Addr) (fd : FuncData) (p1 p2 p3 p4 p5 p6 p7 p8 p9 p10 : Pos), Fun K "_law_told" "_law_told" st g fd ∧ FnScope ["deed", "e"] ["deed"] (defScope st) ∧ mg "_law_told" = some (.ref g) ∧ Binds K fd ["deed"] [] ∧
    defBody st = [.Try [.Return (some (.Call (.Name "deed" p1) [] [] p2)) p3] [.ExceptHandler (some (.Name ks p4)) (some "e") [.Return (some (.Call (.Name "_law_word" p5) [.Name "e" p6] [] p7)) p8] p9] [] [] p10] ∧
    (defScope st).names.lookup ("deed" : Str) = some .local ∧ (defScope st).names.lookup ("e" : Str) = some .local ∧ (defScope st).names.lookup ks = some .globalImplicit ∧ (defScope st).names.lookup ("_law_word" : Str) = some .globalImplicit
  nd : (ks == ("__debug__" : Str)) = false
  mks : mg ks = some (.ref ka)
  cat : ∀ c ∈ cs, PySem.W.exmOne K (.ref (cl c)) (.ref ka) = some true
theorem takesN0 {X : Cx} : L2N.Takes X (fun _ _ _ _ => False) := fun _ _ x => by
  obtain ⟨_, _, _, _, _, _, _, _, _, _, _, _, _, _, _, _, z⟩ := x
  exact z.elim
theorem pe_told {X : Cx} {cl : Str → Addr} {cs : List Str} {ks : Str} {ka c P : Addr} {k : Nat} {params : Arguments} {body : Expr} {scope : Scope} {tb : XK → TE} {p lpos pos : Pos}
    (D : Tld X.K X.mg cl cs ks ka) (W : Wrd X.prog X.w X.K X.mg X.base cl cs k) (hg : Gl X "_law_told")
    (TB : LamX.TabB X.base X.mg c P) (hcode : X.env.code = .ref c) (hmT : (P, X.env.qual ++ "<lambda>") ∈ Tabl.T) (hu : ∀ q ∈ Tabl.T, q.1 = P → q.2 = X.env.qual ++ "<lambda>") (hr : Room (k + 2) X.A) (L : LamX.LamS X.env.scope scope) (hdef : defaultsOf params X.env = ([], []))
    (hbind : ∀ (q : Str) (cl : List (Str × Addr)) (pm cv ctv : Value), bindArgs (PySem.W.kla_fn "<lambda>" q params body scope cl pm cv ctv) ⟨[], []⟩ = pure [])
    (he : ∀ (A : Around) (outer : List Env) (s : Shared) (H : Hp) (E : XK) (f c' : Addr), Room k (A.deeper (LamX.lamEnv X scope s.heap.objs.size f c')) → PE (lamN X A outer s H E scope f c') body (tb E)) :
    PE X (.Call (.Name "_law_told" p) [.Lambda params body scope lpos] [] pos) (tTold cl cs tb) := by
  obtain ⟨st, g, fd, p1, p2, p3, p4, p5, p6, p7, p8, p9, p10, F, S, hm, hb, eb, k1, k2, k3, k4⟩ := D.ex
  obtain ⟨sw, fw, fdw, Nw, Fw, Sw, mw, bw, dw⟩ := W.ex
  refine ⟨fun pins s σ H Q I ⟨hT, h⟩ => ?_⟩
  refine wpAny_Call_Name_kw (ld_glob I hg hm ?_ (by decide))
  refine PySem.W.callWith_K (h₀ := X.base) I.ok.mod.kin F.kp ?_ rfl rfl
  show wpAny _ _ (spliced ((false, eval (.Lambda params body scope lpos) X.env) :: _)) _ _ s
  refine Calls.spliced_cons (LamX.lam_make2 I TB hcode hmT hu hT hdef (L.has I.ok) fun f c' pm' ctv H1 s' J eN T1 hf nf nfr hco => Calls.spliced_nil ⟨J.kIn, ?_⟩)
  have hq := h H1 eN T1
  obtain ⟨w1, w2, w3, w4, w5, w6, cdv, w8, w9, rfl, lk, hcd⟩ := F.ex
  have rc : codeAny (model X.prog X.w) X.A (.call (.ref g) ⟨[.ref f], []⟩) (CR (L2N.CX X.prog X.w) X.stack X.prog X.w H1 s' Q E0) s' := by
    refine LamX.run_ofS (N := ["deed", "e"]) (ps := ["deed"]) (us := [.ref f]) (vs := [.ref f]) lk hcd S hr J.env0 (hb s' [.ref f] J.kIn rfl) (.cons rfl .nil) rfl fun hr' => ?_
    rw [eb]
    refine ⟨_, pss_one (L2N.ps_try_as (X := cxOf (L2N.CX X.prog X.w) X.prog X.w X.K X.mg X.base ["deed", "e"] "_law_told" (defScope st) g cdv X.A X.stack s' H1 E0) (i := 1) (c := .ref ka) (Wout := fun _ _ _ _ => False)
      (tb := fun Wx Dx σz Hz => ∃ Ec : XK, (∀ cls d σ' H', Ec cls d H' → Wx cls d σ' H') ∧ σz[0]? = some (some (.ref f)) ∧ Hz c' = some (LamX.CodeO c' (X.env.qual ++ "<lambda>")) ∧ tb Ec σ Hz Dx.rt)
      (ts := fun a cls d Dx σz Hz => ∃ x, x ∈ cs ∧ cls = .ref (cl x) ∧ d = none ∧ LamX.Tabs Tabl.T Hz ∧ (∃ σ0 : L2.St, σz = σ0.set 1 (some (.ref a))) ∧ ∀ H2, Xt Hz H2 → Dx.rt (.str x) H2)
      rfl rfl S.nd rfl k2 ⟨k3, D.nd, .inl D.mks⟩ takesN0 (fun Wx pn xe tk _ => ?_) (fun a oe cls d pn hz hfs => ?_)), ?_⟩
    · refine ⟨fun pz sz σz Hz Dx Iz ⟨Ec, hW, h1, h2, h3⟩ => ?_⟩
      have hp := pe_deed (i := 0) (p1 := p1) (p2 := p2) J L hf nf nfr (hbind _ _ _ _ _) tk hW hr' (fun A outer t HZ hr2 => he A outer t HZ Ec f c' hr2) rfl (.inl k1) (by decide) (by decide)
      exact (pss_one (ps_ret (pos := p3) hp)).run pz sz σz Hz Dx Iz ⟨h1, h2, h3⟩
    · refine ⟨fun pz sz σz Hz Dx Iz ⟨x, hx, ec, ed, tb, ⟨σ0, h0⟩, h2⟩ => ?_⟩
      have hl : σz.length = 2 := Iz.len
      have h1 : σz[1]? = some (some (.ref a)) := by
        rw [h0, List.length_set] at hl
        rw [h0, List.getElem?_set_self (by omega)]
      subst ec
      subst ed
      obtain ⟨vs, hv⟩ := hfs
      have hot : Hot1 ((cxOf (L2N.CX X.prog X.w) X.prog X.w X.K X.mg X.base ["deed", "e"] "_law_told" (defScope st) g cdv X.A X.stack s' H1 E0).suite a ((a, oe) :: pn)).A (a, oe) := ⟨rfl, vs, hv, hz.2.2 vs hv⟩
      have rH : RoomH (k + 1) ((cxOf (L2N.CX X.prog X.w) X.prog X.w X.K X.mg X.base ["deed", "e"] "_law_told" (defScope st) g cdv X.A X.stack s' H1 E0).suite a ((a, oe) :: pn)).A := ⟨hr'.dp, hr'.un⟩
      have hp := pe_hot (X := (cxOf (L2N.CX X.prog X.w) X.prog X.w X.K X.mg X.base ["deed", "e"] "_law_told" (defScope st) g cdv X.A X.stack s' H1 E0).suite a ((a, oe) :: pn)) (CX := L2N.CX X.prog X.w) (E := E0) (p := (a, oe)) (i := 1) (pos := p7) (p1 := p5) (p2 := p6)
        (G := fun H Q => LamX.Tabs Tabl.T H ∧ ∀ H2, Xt H H2 → Q (.str x) H2) Fw Sw rH List.mem_cons_self k4 mw bw passN rfl (.inl k2) (by decide) (by decide) (by decide)
        (fun H s Q cdv hG hr2 => dw x hx E0 _ _ s H Q cdv (a, oe) hot hz.1 hz.2.1 hr2 hG.1 hG.2)
      exact (pss_one (ps_ret (pos := p8) hp)).run pz sz σz Hz Dx Iz ⟨h1, tb, h2⟩
    · refine ⟨eTold cl cs Q, fun cls d σ' H' ⟨x, hx, ec, ed, tb2, hq2⟩ => ⟨true, ?_, fun _ a na => ⟨x, hx, ec, ed, tb2, ⟨σ', rfl⟩, hq2⟩, fun z => by cases z⟩, rfl, hco, hq⟩
      · rw [ec]
        exact D.cat x hx
  refine wpAny_call (codeAny_mono rc fun r s2 q => ?_)
  cases r with
  | error e => exact passN (X := X) pins σ H1 s' e s2 J q
  | ok fl =>
    cases fl with
    | ret u => exact J.after q
    | next => exact q.elim
    | brk => exact q.elim
    | cont => exact q.elim
/-! ### a def whose code object is known -/
structure FunC (K : PySem.W.Frag) (x qual : Str) (st : Stmt) (f : Addr) (fd : FuncData) (c : Addr) : Prop where
  ex : ∃ (oc : Value) (od : Option Addr) (kV doc pm : Value) (an : Option Addr) (ct : Value) (osl : Array (Option Value)),
    fd = PySem.W.fnOf x qual (defArgs st) (defBody st) (defScope st) .none kV doc pm an (.ref c) ct ∧ K.lookup f = some ⟨oc, od, .func fd, osl⟩ ∧ PySem.W.codeIn K (.ref c) qual = true
  kp : PySem.W.keepIn K (.ref f) = true
theorem FunC.f {K : PySem.W.Frag} {x qual : Str} {st : Stmt} {f : Addr} {fd : FuncData} {c : Addr} (F : FunC K x qual st f fd c) : Fun K x qual st f fd :=
  let ⟨o1, o2, o3, o4, o5, o6, o7, o8, e1, e2, e3⟩ := F.ex; ⟨⟨o1, o2, o3, o4, o5, o6, .ref c, o7, o8, e1, e2, e3⟩, F.kp⟩
theorem funC_mk {K : PySem.W.Frag} {x qual : Str} {st : Stmt} {f c : Addr} {oc : Value} {od an : Option Addr} {osl : Array (Option Value)} {kV doc pm ct : Value} (l : K.lookup f = some ⟨oc, od, .func (PySem.W.fnOf x qual (defArgs st) (defBody st) (defScope st) .none kV doc pm an (.ref c) ct), osl⟩)
    (h : PySem.W.codeIn K (.ref c) qual = true) (k : PySem.W.keepIn K (.ref f) = true) : FunC K x qual st f (PySem.W.fnOf x qual (defArgs st) (defBody st) (defScope st) .none kV doc pm an (.ref c) ct) c := ⟨⟨oc, od, kV, doc, pm, an, ct, osl, rfl, l, h⟩, k⟩
section
variable {P : Program} {w : World} {K : PySem.W.Frag} {mg : Str → Option Value} {base : Heap}
theorem okC {x qual : Str} {st : Stmt} {f c : Addr} {fd : FuncData} {N ps : List Str} {k : Nat} {sp : Sp} (F : FunC K x qual st f fd c) (S : FnScope N ps (defScope st)) (hl : ∀ vs H Q E, sp vs H Q E → vs.length = ps.length)
    (hb : ∀ (A : Around) (outer : List Env) (s : Shared) (H : Hp) (vs : List V) (Q : VK) (E : XK), Room k (A.deeper (envOfC qual (defScope st) s.heap.objs.size f (.ref c))) → sp vs H Q E →
      ∃ t, PSs (cxOf (L2N.CX P w) P w K mg base N qual (defScope st) f (.ref c) A outer s H E) (defBody st) t ∧ t { nx := fun _ H' => Q .non H', rt := Q } (L2.start N vs) H) : FnOk P w K mg base (L2N.CX P w) (k + 1) f fd ps sp := by
  obtain ⟨v1, v2, v3, v4, v5, v6, v8, v9, rfl, h1, h2⟩ := F.ex
  exact fn_of h1 h2 S hl fun A outer s H vs Q E r q => hb A outer s H vs Q E r q
theorem def_okC {x qual : Str} {st : Stmt} {f c : Addr} {fd : FuncData} {N ps : List Str} {k : Nat} {cl : Str → Addr} {body : En → R Fl} (F : FunC K x qual st f fd c) (S : FnScope N ps (defScope st))
    (hb : ∀ (A : Around) (outer : List Env) (s : Shared) (H : Hp) (E : XK), Room k (A.deeper (envOfC qual (defScope st) s.heap.objs.size f (.ref c))) →
      ∃ t, PSs (cxOf (L2N.CX P w) P w K mg base N qual (defScope st) f (.ref c) A outer s H E) (defBody st) t ∧ Es ⟨K, E, cl⟩ t body) :
    FnOk P w K mg base (L2N.CX P w) (k + 1) f fd ps (spF K cl ps.length (runB N.length body)) := by
  refine okC F S (fun vs H Q E h => h.choose_spec.choose_spec.1) fun A outer s H vs Q E hr h => ?_
  obtain ⟨t, ht, hs⟩ := hb A outer s H E hr
  refine ⟨t, ht, ?_⟩
  obtain ⟨ext, ds, hl, htb, hx, hv, wr⟩ := h
  refine hs H ext (fun _ _ => False) _ _ H (RS.start htb hx hv) _ ?_
  unfold runB at wr
  generalize body (ds.map SV.sh ++ List.replicate (N.length - ds.length) SV.no) = r at wr ⊢
  cases r with
  | ok fl =>
    cases fl with
    | nx e => exact fun reg σ H2 r2 => wr .non H2 ⟨r2.le, fun _ => r2.tb⟩ .non
    | rt d => exact fun v H2 e2 tb h2 => wr v H2 ⟨e2, fun _ => tb⟩ h2
    | bk e => exact wr.elim
    | ct e => exact wr.elim
    | rm d e => exact wr.elim
    | rn d e => exact wr.elim
    | xm d e => exact wr.elim
    | pr i d e => exact wr.elim
  | exc c => exact fun H2 e2 tb => wr H2 ⟨e2, fun _ => tb⟩
  | stuck => exact wr.elim
theorem law_okC {st : Stmt} {f c : Addr} {fd : FuncData} {N : List Str} {k : Nat} {cl : Str → Addr} {body : En → R Fl} (F : FunC K "law" "law" st f fd c) (S : FnScope N ["script"] (defScope st))
    (hb : ∀ (A : Around) (outer : List Env) (s : Shared) (H : Hp) (E : XK), Room k (A.deeper (envOfC "law" (defScope st) s.heap.objs.size f (.ref c))) →
      ∃ t, PSs (cxOf (L2N.CX P w) P w K mg base N "law" (defScope st) f (.ref c) A outer s H E) (defBody st) t ∧ Es ⟨K, E, cl⟩ t body)
    (hN : 0 < N.length) (hd : ∀ ns : List Int, ns.length ≤ 63 → runL N.length body ns = .ok (.bool true)) :
    FnOk P w K mg base (L2N.CX P w) (k + 1) f fd ["script"] (spLaw K) := by
  refine okC F S (fun vs H Q E ⟨_, _, h, _⟩ => by rw [h]; rfl) fun A outer s H vs Q E hr h => ?_
  obtain ⟨t, ht, hs⟩ := hb A outer s H E hr
  refine ⟨t, ht, ?_⟩
  obtain ⟨a, ns, rfl, hq, hl, htb, q⟩ := h
  have hN2 : N.length = (N.length - 1) + 1 := by omega
  refine hs H (fun _ => False) (fun _ _ => False) _ _ H (RS.startL htb hN2 hq) _ ?_
  have hd := hd ns hl
  unfold runL at hd
  revert hd
  generalize body (SV.rl (ns.map PyData.int) :: List.replicate (N.length - 1) SV.no) = r
  intro hd
  cases r with
  | ok fl =>
    cases fl with
    | nx e => cases hd
    | rt d =>
      cases hd
      intro v H2 e2 _ h2
      cases h2
      exact q H2
    | bk e => cases hd
    | ct e => cases hd
    | rm d e => cases hd
    | rn d e => cases hd
    | xm d e => cases hd
    | pr i d e => cases hd
  | exc c => cases hd
  | stuck => cases hd
end
/-! ### the end, with the tables of the defs that hold lambdas -/
theorem walk_T {l : PySem.W.OpenLaw} {n k : Nat} {q : Program} {loose : List Str} {XP : (Str → Option Value) → Heap → Prop} {YP : World → Heap → Prop} {d : DefRec} {K : Params → PySem.W.Frag} {CX : World → CXT} {x : Str}
    (hn : l.most = some n) (hn2 : n ≤ sizeLine) (hdf : d.params.defaults = []) (hr : Room k callerA) (hY : ∀ (w : World) (h : Heap), YP w h → (K w.params).In h)
    (F : ∀ (w : World) (mg : Str → Option Value) (fa : Addr) (h : Heap), YP w h → (K w.params).In h → h.Ns mainGlobals mg → mg d.name = some (.ref fa) →
      (∀ (y : Str) (c P : Addr) (e : DefRec), (recsOf q).find? (fun e => e.name == y) = some e → PySem.W.tabIn (K w.params) y = some (c, P) → PySem.W.CodeHd h c P ∧ h.get? P = some { cls := .none, data := .fields #[] }) → LamX.LawAtS l w (K w.params) (CX w) k n x mg fa h)
    (hCX : ∀ (w : World) (H : Hp) (s : Shared) (e : Value) (s' : Shared), CX w [] H s (fun _ _ _ => False) e s' → False) :
    PySem.W.WalkO q loose XP YP l.row.toRowW d [] (fun f vs => PySem.call f vs) := by
  refine Att.attach_callB hn hdf fun w t0 t1 mg mb fa o pm cd doc a vs ns G Y h1 h2 h3 hmg hobj hints hlen hbits hg => ?_
  have inK := hY w _ Y
  obtain ⟨fd, cs, sp, f1, f2, f3, f4, f5, f6⟩ := F w mg fa _ Y inK G.T.g hmg fun y c P e hr ht => PySem.W.tab_of G.T inK hr ht
  exact LamX.law_callTs inK G.T.g G.T.b G.T.builtins G.T.nolimit hg f1 f2 f3 G.T.bmain hobj hints (Nat.le_trans hlen hn2) hr f6 f4 (fun H hH hS => f5 H a ns hlen hbits hH hS) fun H e s' => hCX w H t1 e s'
end Dn

/-! is; dict displays; get; dict(..). -/
namespace Dn
open PySem L2
variable [Tabl]
/-! ### is, is not -/
def rIsA : R2 := rOr (fun x y H Q => y = .non ∧ Q (.bl (decide (x = .non))) H) (fun x y H Q => ∃ a b, x = .bl a ∧ y = .bl b ∧ Q (.bl (decide (a = b))) H)
def rNotA : R2 := rOr (fun x y H Q => y = .non ∧ Q (.bl (!decide (x = .non))) H) (fun x y H Q => ∃ a b, x = .bl a ∧ y = .bl b ∧ Q (.bl (!decide (a = b))) H)
theorem op_isA {X : Cx} : OpR X (compareOp .Is) rIsA := opOr op_isN op_is_bl
theorem op_notA {X : Cx} : OpR X (compareOp .IsNot) rNotA := opOr op_notN op_isnot_bl
def isN : PD → Bool
  | .none => true
  | _ => false
def isD : PD → PD → R PD
  | x, .none => .ok (.bool (isN x))
  | .bool a, .bool b => .ok (.bool (decide (a = b)))
  | _, _ => .stuck
def isnD : PD → PD → R PD
  | x, .none => .ok (.bool (!isN x))
  | .bool a, .bool b => .ok (.bool (!decide (a = b)))
  | _, _ => .stuck
theorem RpL.isN {K : PySem.W.Frag} {Hs H : Hp} {v : V} {d : PD} (h : RpL K Hs H v d) : decide (v = .non) = Dn.isN d := by
  cases h with
  | s h => cases h <;> simp [Dn.isN]
  | l h => simp [Dn.isN]
  | d h => simp [Dn.isN]
section
variable {C : Cn}
theorem o_is : Op2 C rIsA isD := fun Y Z H v w x y Q hyz hz hx hy q => by
  unfold isD at q
  split at q
  · exact .inl ⟨hy.non, by rw [hx.isN]; exact q _ H (Xt.refl H) (.bl _)⟩
  · exact .inr ⟨_, _, hx.bl, hy.bl, q _ H (Xt.refl H) (.bl _)⟩
  · exact q.elim
theorem o_isn : Op2 C rNotA isnD := fun Y Z H v w x y Q hyz hz hx hy q => by
  unfold isnD at q
  split at q
  · exact .inl ⟨hy.non, by rw [hx.isN]; exact q _ H (Xt.refl H) (.bl _)⟩
  · exact .inr ⟨_, _, hx.bl, hy.bl, q _ H (Xt.refl H) (.bl _)⟩
  · exact q.elim
end
/-! ### displays of dicts -/
inductive RpP (K : PySem.W.Frag) (H : Hp) : List (V × V) → List (PD × PD) → Prop
  | nil : RpP K H [] []
  | cons {x y : V} {ps : List (V × V)} {k d : PD} {es : List (PD × PD)} : Rp K H x k → Rp K H y d → RpP K H ps es → RpP K H ((x, y) :: ps) ((k, d) :: es)
theorem RpP.mono {K : PySem.W.Frag} {H H' : Hp} (e : LeR K H H') : ∀ {ps : List (V × V)} {es : List (PD × PD)}, RpP K H ps es → RpP K H' ps es
  | _, _, .nil => .nil
  | _, _, .cons h g r => .cons (h.mono e) (g.mono e) (RpP.mono e r)
def WrQ (C : Cn) (Z : AS) (H : Hp) (Q : List (V × V) → Hp → Prop) : R (List (PD × PD)) → Prop
  | .ok es => ∀ ps H2, Xt H H2 → RpP C.K (hid H2 Z) ps es → Q ps H2
  | .exc c => ∀ H2, Xt H H2 → C.E (.ref (C.cl c)) none H2
  | .stuck => False
def EdQ (C : Cn) (trs : List (TE × TE)) (f : En → R (List (PD × PD))) : Prop := ∀ (H0 : Hp) (ext : AS) (reg : Nat → AS) (en : En) (σ : L2.St) (H : Hp), RS C.K H0 ext reg en σ H → ∀ Q, WrQ C (own ext reg) H Q (f en) → tPairs trs σ H Q
def dqNil : En → R (List (PD × PD)) := fun _ => .ok []
def dqCons (fk fv : En → R PD) (fr : En → R (List (PD × PD))) : En → R (List (PD × PD)) := fun en => (fk en).bind fun k => (fv en).bind fun v => (fr en).bind fun r => .ok ((k, v) :: r)
theorem WrQ.ex {C : Cn} {Z : AS} {H H1 : Hp} {Q : List (V × V) → Hp → Prop} {r : R (List (PD × PD))} (w : WrQ C Z H Q r) (e : Xt H H1) : WrQ C Z H1 Q r := by
  cases r with
  | ok d => exact fun v H2 e2 h => w v H2 (e.trans e2) h
  | exc c => exact fun H2 e2 => w H2 (e.trans e2)
  | stuck => exact w
section
variable {C : Cn} {tk tv : TE} {fk fv : En → R PD} {trs : List (TE × TE)} {fr : En → R (List (PD × PD))}
theorem eq_nil : EdQ C [] dqNil := fun H0 ext reg en σ H rs Q w => w [] H (Xt.refl H) .nil
theorem eq_cons (hk : EdS C tk fk) (hv : EdS C tv fv) (hr : EdQ C trs fr) : EdQ C ((tk, tv) :: trs) (dqCons fk fv fr) := fun H0 ext reg en σ H rs Q w =>
  hk.seq rs (W := WrQ C (own ext reg) H Q) w (fun _ q => q) (fun q => q) fun k x H2 e2 r2 h2 w2 =>
    hv.seq r2 (W := WrQ C (own ext reg) H2 Q) (w2.ex e2) (fun _ q => q) (fun q => q) fun v y H3 e3 r3 h3 w3 => by
      refine hr H0 ext reg en σ H3 r3 _ ?_
      have w4 := WrQ.ex w3 e3
      generalize fr en = z at w4 ⊢
      cases z with
      | ok es => exact fun ps H4 e4 h4 => w4 _ H4 e4 (.cons (h2.mono (e3.trans e4).toEx.hid.le) (h3.mono e4.toEx.hid.le) h4)
      | exc c => exact w4
      | stuck => exact w4
def mergeD : List (PD × PD) → List (PD × PD) → Option (List (PD × PD))
  | es, [] => some es
  | es, (k, v) :: r => match kOf k with
    | some k => mergeD (putD es k v) r
    | none => none
theorem rpp_merge {K : PySem.W.Frag} {H : Hp} : ∀ {ps : List (V × V)} {es : List (PD × PD)} {acc : List (Key × V)} {ea out : List (PD × PD)}, RpP K H ps es → RpK K H acc ea → mergeD ea es = some out →
    ∃ kvs : List (Key × V), ps = kvs.map (fun kv => (kV kv.1, kv.2)) ∧ kvs.length = es.length ∧ RpK K H (mergeK acc kvs) out
  | _, _, acc, ea, out, .nil, ha, h => by
    cases h
    exact ⟨[], rfl, rfl, ha⟩
  | _, _, acc, ea, out, .cons (k := k) hx hy r, ha, h => by
    unfold mergeD at h
    split at h
    · rename_i k0 ek
      obtain ⟨kvs, h1, h2, h3⟩ := rpp_merge r (ha.put k0 hy) h
      refine ⟨(k0, _) :: kvs, ?_, by simp [h2], h3⟩
      rw [h1, (RpL.s (H := H) hx).key ek]
      rfl
    · cases h
theorem kmap_inj : ∀ {a b : List (Key × V)}, a.map (fun kv => (kV kv.1, kv.2)) = b.map (fun kv => (kV kv.1, kv.2)) → a = b
  | [], [], _ => rfl
  | [], _ :: _, h => by simp at h
  | _ :: _, [], h => by simp at h
  | (k, v) :: a, (k', v') :: b, h => by
    simp only [List.map_cons, List.cons.injEq, Prod.mk.injEq] at h
    obtain ⟨⟨h1, h2⟩, h3⟩ := h
    have : k = k' := by cases k <;> cases k' <;> simp [kV] at h1 <;> rw [h1]
    rw [this, h2, kmap_inj h3]
def dispD (es : List (PD × PD)) : R PD := if es.length ≤ 15 then match mergeD [] es with
  | some out => .ok (.dict out)
  | none => .stuck
  else .stuck
def dDisp (f : En → R (List (PD × PD))) : En → R PD := fun en => (f en).bind dispD
theorem ed_disp (h : EdQ C trs fr) : EdS C (tDisp trs) (dDisp fr) := fun H0 ext reg en σ H rs Q w => fun p hp => by
  have x0 : Xt H (upd H p (.dK [])) := Xt.new hp
  refine h _ _ reg en σ _ (rs.alien (o := .dK []) hp) _ ?_
  unfold dDisp at w
  generalize fr en = z at w ⊢
  cases z with
  | exc c => exact fun H2 e2 => w H2 (x0.trans e2)
  | stuck => exact w.elim
  | ok es =>
    simp only [R.bind_ok] at w
    unfold dispD at w
    split at w
    · rename_i hl
      split at w
      · rename_i out eo
        intro ps H2 e2 hps
        have h2 : H2 p = some (.dK []) := e2.k _ _ upd_same rfl
        have np : ¬ own ext reg p := rs.fresh hp
        have sub : Ex (hid H2 (own (fun a => ext a ∨ a = p) reg)) (hid (upd H2 p (.dK [])) (own ext reg)) := Ex.of fun a o q => by
          obtain ⟨z, q⟩ := hid_some q
          have ne : a ≠ p := fun e => z (.inl (.inr e))
          rw [hid_at fun t => by
            rcases t with t | t
            · exact z (.inl (.inl t))
            · exact z (.inr t), upd_ne ne]
          exact q
        refine ⟨h2, ?_⟩
        obtain ⟨kvs, k1, k2, _⟩ := rpp_merge hps .nil eo
        refine ⟨kvs, k1, by rw [k2]; exact hl, ?_⟩
        have sub2 : Ex (hid H2 (own (fun a => ext a ∨ a = p) reg)) (hid (upd H2 p (.dK (mergeK [] kvs))) (own ext reg)) := Ex.of fun a o q => by
          obtain ⟨z, q⟩ := hid_some q
          have ne : a ≠ p := fun e => z (.inl (.inr e))
          rw [hid_at fun t => by
            rcases t with t | t
            · exact z (.inl (.inl t))
            · exact z (.inr t), upd_ne ne]
          exact q
        refine w _ _ ⟨⟨fun a o ha n => ?_⟩, fun t => tabs_wr (e2.t (x0.t t)) h2 rfl fun a ha => upd_ne ha⟩ ?_
        · have ne : a ≠ p := fun e => by
            rw [e, hp] at ha
            cases ha
          rw [upd_ne ne]
          exact e2.k a o (by rw [upd_ne ne]; exact ha) n
        · obtain ⟨kvs', k1', _, k3'⟩ := rpp_merge (hps.mono sub2.le) .nil eo
          have ek : kvs' = kvs := kmap_inj (k1'.symm.trans k1)
          rw [ek] at k3'
          exact .dct (.inl (by rw [hid_at np]; exact upd_same)) k3'
      · exact w.elim
    · exact w.elim
def dNewD : En → R PD := fun _ => .ok (.dict [])
theorem ed_dnew : EdS C tDNewK dNewD := fun H0 ext reg en σ H rs Q w => fun p hp =>
  w _ _ (Xt.new hp) (.dct (.inl (by rw [hid_at fun z => rs.fresh hp z]; exact upd_same)) .nil)
end
/-! ### d.get(k, x) -/
def getD2 : PD → PD → PD → R PD
  | .dict es, k, x => match kOf k with
    | some k => .ok ((lookD es k).getD x)
    | none => .stuck
  | _, _, _ => .stuck
def dGet2 (fd fk fx : En → R PD) : En → R PD := fun en => (fd en).bind fun d => match d with
  | .dict es => (fk en).bind fun k => (fx en).bind fun x => getD2 (.dict es) k x
  | _ => .stuck
section
variable {C : Cn} {td tk tx : TE} {fd fk fx : En → R PD}
theorem ed_get2 (hd : EdL C td fd) (hk : EdL C tk fk) (hx : EdS C tx fx) : EdS C (tDGet2 td tk tx) (dGet2 fd fk fx) := fun H0 ext reg en σ H rs Q w =>
  hd.seq rs (W := WrS C (own ext reg) H Q) w (fun _ q => q) (fun q => q) fun d v H2 e2 r2 h2 w2 => by
    cases d with
    | dict es =>
      obtain ⟨p, kvs, rfl, hp, hr⟩ := h2.dct fun a z => .inl z
      refine ⟨p, rfl, .inl ⟨kvs, hp⟩, hk.seq r2 (W := WrS C (own ext reg) H2 Q) (WrS.ex w2 e2) (fun _ q => q) (fun q => q) fun k y H3 e3 r3 h3 w3 =>
        hx.seq r3 (W := WrS C (own ext reg) H3 Q) (WrS.ex w3 e3) (fun _ q => q) (fun q => q) fun x z H4 e4 r4 h4 w4 => ?_⟩
      have hp4 : Rd H4 p (.dK kvs) := (e3.trans e4).toEx.rd hp
      have hr4 := hr.mono (e3.trans e4).toEx.hid.le
      unfold getD2 at w4
      dsimp only at w4
      split at w4
      · rename_i k0 ek
        refine ⟨valV kvs k0, .inl ⟨kvs, k0, hp4, h3.key ek, rfl⟩, ?_⟩
        obtain ⟨g1, g2⟩ := hr4.look k0
        cases el : lookD es k0 with
        | none =>
          rw [g2 el]
          rw [el] at w4
          exact w4 _ H4 e4 h4
        | some u =>
          obtain ⟨v0, a1, a2⟩ := g1 u el
          rw [a1]
          rw [el] at w4
          exact w4 _ H4 e4 a2
      · exact w4.elim
    | _ => exact w2.elim
end
/-! ### rows: displays of few things -/
@[simp] theorem mkL_4 (a0 a1 a2 a3 : PD) : mkL [a0, a1, a2, a3] = .ok (.list [a0, a1, a2, a3]) := mkL_ok _ (by show 4 ≤ 1000000; decide)
@[simp] theorem mkL_6 (a0 a1 a2 a3 a4 a5 : PD) : mkL [a0, a1, a2, a3, a4, a5] = .ok (.list [a0, a1, a2, a3, a4, a5]) := mkL_ok _ (by show 6 ≤ 1000000; decide)
@[simp] theorem mkL_7 (a0 a1 a2 a3 a4 a5 a6 : PD) : mkL [a0, a1, a2, a3, a4, a5, a6] = .ok (.list [a0, a1, a2, a3, a4, a5, a6]) := mkL_ok _ (by show 7 ≤ 1000000; decide)
@[simp] theorem mkL_8 (a0 a1 a2 a3 a4 a5 a6 a7 : PD) : mkL [a0, a1, a2, a3, a4, a5, a6, a7] = .ok (.list [a0, a1, a2, a3, a4, a5, a6, a7]) := mkL_ok _ (by show 8 ≤ 1000000; decide)
@[simp] theorem mkL_9 (a0 a1 a2 a3 a4 a5 a6 a7 a8 : PD) : mkL [a0, a1, a2, a3, a4, a5, a6, a7, a8] = .ok (.list [a0, a1, a2, a3, a4, a5, a6, a7, a8]) := mkL_ok _ (by show 9 ≤ 1000000; decide)
@[simp] theorem mkL_10 (a0 a1 a2 a3 a4 a5 a6 a7 a8 a9 : PD) : mkL [a0, a1, a2, a3, a4, a5, a6, a7, a8, a9] = .ok (.list [a0, a1, a2, a3, a4, a5, a6, a7, a8, a9]) := mkL_ok _ (by show 10 ≤ 1000000; decide)
@[simp] theorem mkL_11 (a0 a1 a2 a3 a4 a5 a6 a7 a8 a9 a10 : PD) : mkL [a0, a1, a2, a3, a4, a5, a6, a7, a8, a9, a10] = .ok (.list [a0, a1, a2, a3, a4, a5, a6, a7, a8, a9, a10]) := mkL_ok _ (by show 11 ≤ 1000000; decide)
@[simp] theorem mkL_12 (a0 a1 a2 a3 a4 a5 a6 a7 a8 a9 a10 a11 : PD) : mkL [a0, a1, a2, a3, a4, a5, a6, a7, a8, a9, a10, a11] = .ok (.list [a0, a1, a2, a3, a4, a5, a6, a7, a8, a9, a10, a11]) := mkL_ok _ (by show 12 ≤ 1000000; decide)
@[simp] theorem mkL_13 (a0 a1 a2 a3 a4 a5 a6 a7 a8 a9 a10 a11 a12 : PD) : mkL [a0, a1, a2, a3, a4, a5, a6, a7, a8, a9, a10, a11, a12] = .ok (.list [a0, a1, a2, a3, a4, a5, a6, a7, a8, a9, a10, a11, a12]) := mkL_ok _ (by show 13 ≤ 1000000; decide)
@[simp] theorem mkL_14 (a0 a1 a2 a3 a4 a5 a6 a7 a8 a9 a10 a11 a12 a13 : PD) : mkL [a0, a1, a2, a3, a4, a5, a6, a7, a8, a9, a10, a11, a12, a13] = .ok (.list [a0, a1, a2, a3, a4, a5, a6, a7, a8, a9, a10, a11, a12, a13]) := mkL_ok _ (by show 14 ≤ 1000000; decide)
@[simp] theorem mkL_15 (a0 a1 a2 a3 a4 a5 a6 a7 a8 a9 a10 a11 a12 a13 a14 : PD) : mkL [a0, a1, a2, a3, a4, a5, a6, a7, a8, a9, a10, a11, a12, a13, a14] = .ok (.list [a0, a1, a2, a3, a4, a5, a6, a7, a8, a9, a10, a11, a12, a13, a14]) := mkL_ok _ (by show 15 ≤ 1000000; decide)
@[simp] theorem mkL_16 (a0 a1 a2 a3 a4 a5 a6 a7 a8 a9 a10 a11 a12 a13 a14 a15 : PD) : mkL [a0, a1, a2, a3, a4, a5, a6, a7, a8, a9, a10, a11, a12, a13, a14, a15] = .ok (.list [a0, a1, a2, a3, a4, a5, a6, a7, a8, a9, a10, a11, a12, a13, a14, a15]) := mkL_ok _ (by show 16 ≤ 1000000; decide)
@[simp] theorem mkL_17 (a0 a1 a2 a3 a4 a5 a6 a7 a8 a9 a10 a11 a12 a13 a14 a15 a16 : PD) : mkL [a0, a1, a2, a3, a4, a5, a6, a7, a8, a9, a10, a11, a12, a13, a14, a15, a16] = .ok (.list [a0, a1, a2, a3, a4, a5, a6, a7, a8, a9, a10, a11, a12, a13, a14, a15, a16]) := mkL_ok _ (by show 17 ≤ 1000000; decide)
@[simp] theorem mkL_18 (a0 a1 a2 a3 a4 a5 a6 a7 a8 a9 a10 a11 a12 a13 a14 a15 a16 a17 : PD) : mkL [a0, a1, a2, a3, a4, a5, a6, a7, a8, a9, a10, a11, a12, a13, a14, a15, a16, a17] = .ok (.list [a0, a1, a2, a3, a4, a5, a6, a7, a8, a9, a10, a11, a12, a13, a14, a15, a16, a17]) := mkL_ok _ (by show 18 ≤ 1000000; decide)
@[simp] theorem mkL_19 (a0 a1 a2 a3 a4 a5 a6 a7 a8 a9 a10 a11 a12 a13 a14 a15 a16 a17 a18 : PD) : mkL [a0, a1, a2, a3, a4, a5, a6, a7, a8, a9, a10, a11, a12, a13, a14, a15, a16, a17, a18] = .ok (.list [a0, a1, a2, a3, a4, a5, a6, a7, a8, a9, a10, a11, a12, a13, a14, a15, a16, a17, a18]) := mkL_ok _ (by show 19 ≤ 1000000; decide)
@[simp] theorem mkT_0 : mkT [] = .ok (.tuple []) := mkT_ok _ (by show 0 ≤ 1000000; decide)
@[simp] theorem mkT_1 (a : PD) : mkT [a] = .ok (.tuple [a]) := mkT_ok _ (by show 1 ≤ 1000000; decide)
@[simp] theorem chk_1 (a0 : PD) : chk [a0] = .ok [a0] := chk_ok _ (by show 1 ≤ 1000000; decide)
@[simp] theorem chk_2 (a0 a1 : PD) : chk [a0, a1] = .ok [a0, a1] := chk_ok _ (by show 2 ≤ 1000000; decide)
@[simp] theorem chk_3 (a0 a1 a2 : PD) : chk [a0, a1, a2] = .ok [a0, a1, a2] := chk_ok _ (by show 3 ≤ 1000000; decide)
@[simp] theorem chk_4 (a0 a1 a2 a3 : PD) : chk [a0, a1, a2, a3] = .ok [a0, a1, a2, a3] := chk_ok _ (by show 4 ≤ 1000000; decide)
@[simp] theorem chk_5 (a0 a1 a2 a3 a4 : PD) : chk [a0, a1, a2, a3, a4] = .ok [a0, a1, a2, a3, a4] := chk_ok _ (by show 5 ≤ 1000000; decide)
@[simp] theorem chk_6 (a0 a1 a2 a3 a4 a5 : PD) : chk [a0, a1, a2, a3, a4, a5] = .ok [a0, a1, a2, a3, a4, a5] := chk_ok _ (by show 6 ≤ 1000000; decide)
@[simp] theorem chk_7 (a0 a1 a2 a3 a4 a5 a6 : PD) : chk [a0, a1, a2, a3, a4, a5, a6] = .ok [a0, a1, a2, a3, a4, a5, a6] := chk_ok _ (by show 7 ≤ 1000000; decide)
@[simp] theorem chk_8 (a0 a1 a2 a3 a4 a5 a6 a7 : PD) : chk [a0, a1, a2, a3, a4, a5, a6, a7] = .ok [a0, a1, a2, a3, a4, a5, a6, a7] := chk_ok _ (by show 8 ≤ 1000000; decide)
@[simp] theorem chk_9 (a0 a1 a2 a3 a4 a5 a6 a7 a8 : PD) : chk [a0, a1, a2, a3, a4, a5, a6, a7, a8] = .ok [a0, a1, a2, a3, a4, a5, a6, a7, a8] := chk_ok _ (by show 9 ≤ 1000000; decide)
section
variable {fa fb fo fd fk fx fv : En → R PD} {fr : En → R (List (PD × PD))} {en : En}
@[simp] theorem dIdx_ap : dIdx fo fa en = (fo en).bind fun x => match x with
  | .list ds => (fa en).bind fun y => idxD ds y
  | _ => .stuck := nrf rfl
@[simp] theorem dIs_self (a : Addr) (b : Bool) (r : En) : dIs 0 a b (.xr a :: r) = .ok (.bool b) := by
  show (if a = a then R.ok (PyData.bool b) else .stuck) = _
  rw [if_pos rfl]
@[simp] theorem dqNil_ap : dqNil en = .ok [] := nrf rfl
@[simp] theorem dqCons_ap : dqCons fk fv fr en = (fk en).bind fun k => (fv en).bind fun v => (fr en).bind fun r => .ok ((k, v) :: r) := nrf rfl
@[simp] theorem dDisp_ap : dDisp fr en = (fr en).bind dispD := nrf rfl
@[simp] theorem dNewD_ap : dNewD en = .ok (.dict []) := nrf rfl
@[simp] theorem dGet2_ap : dGet2 fd fk fx en = (fd en).bind fun d => match d with
  | .dict es => (fk en).bind fun k => (fx en).bind fun x => getD2 (.dict es) k x
  | _ => .stuck := nrf rfl
theorem dTold_ok {cs : List Str} {d : PD} (h : fa en = .ok d) : dTold cs fa en = .ok d := by
  unfold dTold
  rw [h]
theorem dTold_exc {cs : List Str} {c : Str} (h : fa en = .exc c) (hc : c ∈ cs) : dTold cs fa en = .ok (.str c) := by
  unfold dTold
  rw [h]
  dsimp only
  rw [if_pos hc]
@[simp] theorem isD_none (x : PD) : isD x .none = .ok (.bool (isN x)) := by unfold isD; cases x <;> rfl
@[simp] theorem isnD_none (x : PD) : isnD x .none = .ok (.bool (!isN x)) := by unfold isnD; cases x <;> rfl
@[simp] theorem isD_bool (a b : Bool) : isD (.bool a) (.bool b) = .ok (.bool (decide (a = b))) := nrf rfl
@[simp] theorem isnD_bool (a b : Bool) : isnD (.bool a) (.bool b) = .ok (.bool (!decide (a = b))) := nrf rfl
end
end Dn

/-! A text times a number. -/
namespace Dn
open PySem L2
variable [Tabl]
def repS (z : Str) (k : Int) : Str := st (List.replicate k.toNat z.cps.toList).flatten
def rRepS : R2 := fun x y H Q => ∃ z k, x = .str z ∧ y = .int k ∧ (2 ≤ k ∧ k < 1000 ∧ 1 ≤ z.length) ∧ z.length * k.toNat ≤ sizeLine ∧ Q (.str (repS z k)) H
theorem foldl_cps (a : Array Nat) : ∀ (n : Nat) (acc : Array Nat), (List.replicate n a).foldl (· ++ ·) acc = acc ++ (List.replicate n a.toList).flatten.toArray
  | 0, acc => by simp
  | n + 1, acc => by
    rw [List.replicate_succ, List.foldl_cons, foldl_cps a n, List.replicate_succ, List.flatten_cons]
    rw [Array.append_assoc]
    congr 1
    apply Array.ext'
    simp
theorem rep_len (l : List Nat) : ∀ n : Nat, (List.replicate n l).flatten.length = n * l.length
  | 0 => by simp
  | n + 1 => by
    rw [List.replicate_succ, List.flatten_cons, List.length_append, rep_len l n, Nat.succ_mul]
    omega
theorem op_repS {X : Cx} : OpR X (binaryOp .Mult) rRepS := by
  intro pins s σ H x y v u Q I rx ry h
  obtain ⟨z, k, rfl, rfl, ⟨h1, h2, h3⟩, hz, q⟩ := h
  obtain ⟨t, rfl⟩ := rx
  obtain ⟨t', rfl⟩ := ry
  refine PySem.P.mul_str (by rw [Bool.or_eq_false_iff]; exact ⟨decide_eq_false (by omega), decide_eq_false (by omega)⟩) (fun _ _ => ?_) (fun _ _ => ?_) ?_
  · have hs : (sizeLine : Int) ≤ 9223372036854775807 / 1000 := by decide
    have h4 : (z.length : Int) ≤ sizeLine := by
      have : z.length * 1 ≤ z.length * k.toNat := Nat.mul_le_mul_left _ (by omega)
      omega
    have h5 : (2 ^ 63 - 1 : Int) / 1000 ≤ (2 ^ 63 - 1) / k := by
      rw [Int.le_ediv_iff_mul_le (by omega)]
      have h6 : (2 ^ 63 - 1 : Int) / 1000 * k ≤ (2 ^ 63 - 1 : Int) / 1000 * 1000 := Int.mul_le_mul_of_nonneg_left (by omega) (by decide)
      exact Int.le_trans h6 (by decide)
    have h7 : (9223372036854775807 : Int) / 1000 = (2 ^ 63 - 1 : Int) / 1000 := by decide
    omega
  · unfold Builtin.Str.tooLong
    exact decide_eq_false (by omega)
  · rw [if_neg (by omega), if_neg (by simp; omega)]
    have e : (⟨(List.replicate k.toNat z.cps).foldl (· ++ ·) #[]⟩ : Str) = repS z k := by
      rw [foldl_cps]
      unfold repS st
      simp
    rw [e]
    have hlen : (repS z k).length ≤ sizeLine := by
      unfold repS
      rw [st_len, rep_len, Nat.mul_comm]
      exact hz
    exact ⟨hlen, .str (repS z k), H, I.tok _, ⟨_, rfl⟩, q⟩
def mulS : PD → PD → R PD
  | .str z, .int k => if (2 ≤ k ∧ k < 1000 ∧ 1 ≤ z.length) ∧ z.length * k.toNat ≤ szN then .ok (.str (repS z k)) else .stuck
  | _, _ => .stuck
theorem o_mulS {C : Cn} : Op2 C rRepS mulS := fun Y Z H v w x y Q hyz hz hx hy q => by
  cases x with
  | str z =>
    cases y with
    | int k =>
      unfold mulS at q
      dsimp only at q
      split at q
      · rename_i hl
        exact ⟨z, k, hx.str, hy.int, hl.1, sz_of hl.2, q _ H (Xt.refl H) (.str _)⟩
      · exact q.elim
    | _ => exact q.elim
  | _ => exact q.elim
theorem mulS_st (l : List Nat) (k : Int) (h : 2 ≤ k ∧ k < 1000) (hl : l ≠ []) (hz : l.length ≤ 1000) : mulS (.str (st l)) (.int k) = .ok (.str (st (List.replicate k.toNat l).flatten)) := by
  have h1 : 1 ≤ l.length := List.length_pos_iff.mpr hl
  have h2 : l.length * k.toNat ≤ 1000 * 1000 := Nat.mul_le_mul hz (by omega)
  show (if (2 ≤ k ∧ k < 1000 ∧ 1 ≤ (st l).length) ∧ (st l).length * k.toNat ≤ szN then R.ok (PyData.str (repS (st l) k)) else .stuck) = _
  rw [st_len, if_pos ⟨⟨h.1, h.2, h1⟩, h2⟩]
  rfl
end Dn

/-! dict(pairs), dict(d). -/
namespace Dn
open PySem L2
variable [Tabl]
def pairsD : List PD → Option (List (PD × PD))
  | [] => some []
  | .tuple [k, v] :: r => (pairsD r).map ((k, v) :: ·)
  | _ :: _ => none
def dictPD : List PD → R PD
  | [.list ds] => match pairsD ds with
    | some es => match mergeD [] es with
      | some out => .ok (.dict out)
      | none => .stuck
    | none => .stuck
  | [.dict es] => .ok (.dict es)
  | _ => .stuck
def rDictP (K : PySem.W.Frag) : List V → Hp → VK → Prop := fun xs H Q => ∃ (a : Addr) (ps : List Addr) (kvs : List (Key × V)), xs = [.ref a] ∧ SqL K H a (ps.map V.ref) ∧ Paired (fun p kv => SqT K H p [kV kv.1, kv.2]) ps kvs ∧
    ∀ p, H p = none → Q (.ref p) (upd H p (.dK (mergeK [] kvs)))
def rDictC : List V → Hp → VK → Prop := fun xs H Q => ∃ (a : Addr) (kvs : List (Key × V)), xs = [.ref a] ∧ Rd H a (.dK kvs) ∧ ∀ p, H p = none → Q (.ref p) (upd H p (.dK kvs))
def rDictA (K : PySem.W.Frag) : List V → Hp → VK → Prop := fun xs H Q => rDictP K xs H Q ∨ rDictC xs H Q
theorem kx_dict {X : Cx} (K : PySem.W.Frag) (h : X.K = K) (hc : X.calm = true) : CallR X (.type "dict") (rDictA K) := by
  subst h
  exact callOr (call_dictP hc) call_dictD
theorem rp_pairs {K : PySem.W.Frag} {H : Hp} : ∀ {ds : List PD} {vs : List V} {es : List (PD × PD)} {acc : List (Key × V)} {ea out : List (PD × PD)}, RpA K H vs ds → pairsD ds = some es → RpK K H acc ea → mergeD ea es = some out →
    ∃ (ps : List Addr) (kvs : List (Key × V)), vs = ps.map V.ref ∧ Paired (fun p kv => SqT K H p [kV kv.1, kv.2]) ps kvs ∧ RpK K H (mergeK acc kvs) out
  | [], _, es, acc, ea, out, .nil, he, ha, hm => by
    cases he
    cases hm
    exact ⟨[], [], rfl, .nil, ha⟩
  | d :: ds, _, es, acc, ea, out, .cons h r, he, ha, hm => by
    unfold pairsD at he
    split at he
    · cases ‹_ = [] ›
    · rename_i k v r' e
      cases e
      cases q : pairsD ds with
      | none => rw [q] at he; cases he
      | some es' =>
        rw [q] at he
        cases he
        unfold mergeD at hm
        split at hm
        · rename_i k0 ek
          cases h with
          | tup ht hx =>
            cases hx with
            | cons h1 hx =>
              cases hx with
              | cons h2 hx =>
                cases hx
                obtain ⟨ps, kvs, e1, e2, e3⟩ := rp_pairs r q (ha.put k0 h2) hm
                refine ⟨_ :: ps, (k0, _) :: kvs, by rw [e1]; rfl, .cons ?_ e2, e3⟩
                rw [(RpL.s (H := H) h1).key ek] at ht
                exact ht
        · cases hm
    · cases he
theorem paired_mono {K : PySem.W.Frag} {H H2 : Hp} (e : Ex H H2) : ∀ {ps : List Addr} {kvs : List (Key × V)}, Paired (fun p kv => SqT K H p [kV kv.1, kv.2]) ps kvs → Paired (fun p kv => SqT K H2 p [kV kv.1, kv.2]) ps kvs
  | _, _, .nil => .nil
  | _, _, .cons h r => .cons (e.sqt h) (paired_mono e r)
theorem Rp.newD {K : PySem.W.Frag} {H : Hp} {Z : AS} {p : Addr} {kvs : List (Key × V)} {es : List (PD × PD)} (hz : ∀ a, Z a → ∃ o, H a = some o) (hp : H p = none) (h : RpK K (hid H Z) kvs es) : Rp K (hid (upd H p (.dK kvs)) Z) (.ref p) (.dict es) :=
  .dct (.inl (hid_new hz hp)) (h.mono (Ex.new hp).hid.le)
theorem n_dict {C : Cn} : OpN C (rDictA C.K) dictPD := fun Y Z H vs xs Q hyz hz hx q => by
  unfold dictPD at q
  split at q
  · split at q
    · split at q
      · rename_i ds _ es ee _ out eo
        obtain ⟨v, rfl, h⟩ := hx.one
        obtain ⟨p, ys, rfl, hp, hr⟩ := h.lst hyz
        obtain ⟨ps, kvs, e1, e2, e3⟩ := rp_pairs hr ee .nil eo
        exact .inl ⟨p, ps, kvs, rfl, .inl (.inl (by rw [← e1]; exact hp)), paired_mono hid_ex e2, fun n hn => q _ _ (Xt.new hn) (Rp.newD hz hn e3)⟩
      · exact q.elim
    · exact q.elim
  · obtain ⟨v, rfl, h⟩ := hx.one
    obtain ⟨p, kvs, rfl, hp, hr⟩ := h.dct hyz
    exact .inr ⟨p, kvs, rfl, hp, fun n hn => q _ _ (Xt.new hn) (Rp.newD hz hn hr)⟩
  · exact q.elim
end Dn

/-! objects: fields read and written. -/
namespace Dn
open PySem L2
variable [Tabl]
/-! ### fields by place -/
section
variable {K : PySem.W.Frag} {Hs Hs' H H' : Hp} {r : AS}
theorem ne_mem {L : List Addr} {x q : Addr} (hx : x ∈ L) (d : q ∉ L) : x ≠ q := fun w => d (w ▸ hx)
theorem FsOk.get : ∀ {vs : List V} {fs : List FV} {L : List Addr} {k : Nat} {d : PD}, FsOk K Hs H r vs fs L → fs[k]? = some (.sh d) → ∃ v, vs[k]? = some v ∧ Rp K Hs v d
  | _, _, _, _, _, .nil, h => by simp at h
  | _, _, _, 0, _, .sh h _, e => by simp at e; subst e; exact ⟨_, rfl, h⟩
  | _, _, _, 0, _, .ol _ _ _ _ _, e => by simp at e
  | _, _, _, k + 1, _, .sh _ t, e => by
    obtain ⟨v, h1, h2⟩ := FsOk.get (k := k) t (by simpa using e)
    exact ⟨v, by simpa using h1, h2⟩
  | _, _, _, k + 1, _, .ol _ _ _ _ t, e => by
    obtain ⟨v, h1, h2⟩ := FsOk.get (k := k) t (by simpa using e)
    exact ⟨v, by simpa using h1, h2⟩
theorem FsOk.getL : ∀ {vs : List V} {fs : List FV} {L : List Addr} {k : Nat} {ds : List PD}, FsOk K Hs H r vs fs L → fs[k]? = some (.ol ds) → ∃ q xs, vs[k]? = some (.ref q) ∧ q ∈ L ∧ r q ∧ H q = some (.lst xs) ∧ RpA K Hs xs ds
  | _, _, _, _, _, .nil, h => by simp at h
  | _, _, _, 0, _, .sh h _, e => by simp at e
  | _, _, _, 0, _, .ol a b c _ _, e => by simp at e; subst e; exact ⟨_, _, rfl, List.mem_cons_self, a, b, c⟩
  | _, _, _, k + 1, _, .sh _ t, e => by
    obtain ⟨q, xs, h1, h2⟩ := FsOk.getL (k := k) t (by simpa using e)
    exact ⟨q, xs, by simpa using h1, h2⟩
  | _, _, _, k + 1, _, .ol _ _ _ _ t, e => by
    obtain ⟨q, xs, h1, h0, h2⟩ := FsOk.getL (k := k) t (by simpa using e)
    exact ⟨q, xs, by simpa using h1, List.mem_cons_of_mem _ h0, h2⟩
theorem FsOk.monoL (e : LeR K Hs Hs') : ∀ {vs : List V} {fs : List FV} {L : List Addr}, (∀ q ∈ L, ∀ xs, H q = some (.lst xs) → H' q = some (.lst xs)) → FsOk K Hs H r vs fs L → FsOk K Hs' H' r vs fs L
  | _, _, _, _, .nil => .nil
  | _, _, _, k, .sh h t => .sh (h.mono e) (FsOk.monoL e k t)
  | _, _, _, k, .ol a b c d t => .ol a (k _ List.mem_cons_self _ b) (c.mono e) d (FsOk.monoL e (fun q hq => k q (List.mem_cons_of_mem _ hq)) t)
theorem FsOk.isL : ∀ {vs : List V} {fs : List FV} {L : List Addr}, FsOk K Hs H r vs fs L → ∀ q ∈ L, r q ∧ ∃ xs, H q = some (.lst xs)
  | _, _, _, .nil, q, h => nomatch h
  | _, _, _, .sh _ t, q, h => FsOk.isL t q h
  | _, _, _, .ol a b _ _ t, q, h => by
    rcases List.mem_cons.mp h with rfl | h
    · exact ⟨a, _, b⟩
    · exact FsOk.isL t q h
theorem FsOk.set {v : V} {d : PD} (h : Rp K Hs v d) : ∀ {vs : List V} {fs : List FV} {L : List Addr} (k : Nat), FsOk K Hs H r vs fs L → ∃ L', (∀ q ∈ L', q ∈ L) ∧ FsOk K Hs H r (vs.set k v) (fs.set k (.sh d)) L'
  | _, _, _, _, .nil => ⟨[], fun _ z => z, .nil⟩
  | _, _, _, 0, .sh _ t => ⟨_, fun _ z => z, .sh h t⟩
  | _, _, _, 0, .ol _ _ _ _ t => ⟨_, fun _ z => List.mem_cons_of_mem _ z, .sh h t⟩
  | _, _, _, k + 1, .sh g t => let ⟨L', s, q⟩ := FsOk.set h k t; ⟨L', s, .sh g q⟩
  | _, _, _, k + 1, .ol a b c d t => by
    obtain ⟨L', s, q⟩ := FsOk.set h k t
    exact ⟨_ :: L', fun x hx => (List.mem_cons.mp hx).elim (fun e => e ▸ List.mem_cons_self) fun z => List.mem_cons_of_mem _ (s x z), .ol a b c (fun z => d (s _ z)) q⟩
theorem FsOk.setL {p : Addr} {xs : List V} {ds : List PD} (h1 : r p) (h2 : H p = some (.lst xs)) (h3 : RpA K Hs xs ds) : ∀ {vs : List V} {fs : List FV} {L : List Addr} (k : Nat), p ∉ L → FsOk K Hs H r vs fs L → ∃ L', (∀ q ∈ L', q ∈ L ∨ q = p) ∧ FsOk K Hs H r (vs.set k (.ref p)) (fs.set k (.ol ds)) L'
  | _, _, _, _, _, .nil => ⟨[], (fun _ z => nomatch z), .nil⟩
  | _, _, _, 0, hp, .sh _ t => ⟨_ :: _, fun x hx => (List.mem_cons.mp hx).elim .inr .inl, .ol h1 h2 h3 hp t⟩
  | _, _, _, 0, hp, .ol _ _ _ _ t => ⟨_ :: _, fun x hx => (List.mem_cons.mp hx).elim .inr fun z => .inl (List.mem_cons_of_mem _ z), .ol h1 h2 h3 (fun z => hp (List.mem_cons_of_mem _ z)) t⟩
  | _, _, _, k + 1, hp, .sh g t => let ⟨L', s, q⟩ := FsOk.setL h1 h2 h3 k hp t; ⟨L', s, .sh g q⟩
  | _, _, _, k + 1, hp, .ol a b c d t => by
    obtain ⟨L', s, q⟩ := FsOk.setL h1 h2 h3 k (fun z => hp (List.mem_cons_of_mem _ z)) t
    refine ⟨_ :: L', fun x hx => (List.mem_cons.mp hx).elim (fun e => .inl (e ▸ List.mem_cons_self)) fun z => (s x z).imp (List.mem_cons_of_mem _) fun z => z, .ol a b c (fun z => ?_) q⟩
    rcases s _ z with z | z
    · exact d z
    · exact hp (z ▸ List.mem_cons_self)
theorem FsOk.snoc {v : V} {d : PD} (h : Rp K Hs v d) : ∀ {vs : List V} {fs : List FV} {L : List Addr}, FsOk K Hs H r vs fs L → FsOk K Hs H r (vs ++ [v]) (fs ++ [.sh d]) L
  | _, _, _, .nil => .sh h .nil
  | _, _, _, .sh g t => .sh g (FsOk.snoc h t)
  | _, _, _, .ol a b c d t => .ol a b c d (FsOk.snoc h t)
theorem FsOk.snocL {p : Addr} {xs : List V} {ds : List PD} (h1 : r p) (h2 : H p = some (.lst xs)) (h3 : RpA K Hs xs ds) : ∀ {vs : List V} {fs : List FV} {L : List Addr}, p ∉ L → FsOk K Hs H r vs fs L → ∃ L', (∀ q ∈ L', q ∈ L ∨ q = p) ∧ FsOk K Hs H r (vs ++ [.ref p]) (fs ++ [.ol ds]) L'
  | _, _, _, _, .nil => ⟨[p], fun x hx => .inr (List.mem_singleton.mp hx), .ol h1 h2 h3 (by simp) .nil⟩
  | _, _, _, hp, .sh g t => let ⟨L', s, q⟩ := FsOk.snocL h1 h2 h3 hp t; ⟨L', s, .sh g q⟩
  | _, _, _, hp, .ol a b c d t => by
    obtain ⟨L', s, q⟩ := FsOk.snocL h1 h2 h3 (fun z => hp (List.mem_cons_of_mem _ z)) t
    refine ⟨_ :: L', fun x hx => (List.mem_cons.mp hx).elim (fun e => .inl (e ▸ List.mem_cons_self)) fun z => (s x z).imp (List.mem_cons_of_mem _) fun z => z, .ol a b c (fun z => ?_) q⟩
    rcases s _ z with z | z
    · exact d z
    · exact hp (z ▸ List.mem_cons_self)
/-- the list of the field k is written -/
theorem FsOk.wr {q : Addr} {ys : List V} {ds' : List PD} (h3 : RpA K Hs ys ds') : ∀ {vs : List V} {fs : List FV} {L : List Addr} {k : Nat} {ds : List PD}, FsOk K Hs H r vs fs L → fs[k]? = some (.ol ds) → vs[k]? = some (.ref q) → FsOk K Hs (upd H q (.lst ys)) r vs (fs.set k (.ol ds')) L
  | _, _, _, _, _, .nil, h, _ => by simp at h
  | _, _, _, 0, _, .sh h _, e, _ => by simp at e
  | _, _, _, 0, _, .ol a b c d t, e, e2 => by
    simp at e2
    subst e2
    refine .ol a upd_same h3 d (t.monoL ⟨fun _ _ z => z, fun _ _ z => z, fun _ _ z => z⟩ fun x hx xs z => ?_)
    rw [upd_ne (ne_mem hx d)]
    exact z
  | _, _, _, k + 1, _, .sh g t, e, e2 => .sh g (FsOk.wr h3 (k := k) t (by simpa using e) (by simpa using e2))
  | _, _, _, k + 1, _, .ol a b c d t, e, e2 => by
    have e' := (by simpa using e : (_ : List FV)[k]? = some _)
    have e2' := (by simpa using e2 : (_ : List V)[k]? = some _)
    obtain ⟨q1, xs1, f1, f2, _⟩ := t.getL e'
    rw [e2'] at f1
    cases f1
    refine .ol a ?_ c d (FsOk.wr h3 (k := k) t e' e2')
    rw [upd_ne (ne_mem f2 d).symm]
    exact b
end
/-! ### fields by name -/
theorem lookup_at {f : Str} {v : V} : ∀ {vs : List (Str × V)} {ns : List Str} {n k : Nat}, vs.map (·.1) = ns.take n → ns.Nodup → ns[k]? = some f → (vs.map (·.2))[k]? = some v → vs.lookup f = some v
  | [], _, _, _, _, _, _, h => by simp at h
  | (g, x) :: r, [], n, k, e, _, hk, _ => by simp at hk
  | (g, x) :: r, m :: ns, 0, k, e, _, hk, _ => by simp at e
  | (g, x) :: r, m :: ns, n + 1, 0, e, _, hk, h => by
    simp at e hk h
    obtain ⟨rfl, _⟩ := e
    subst hk h
    simp [List.lookup]
  | (g, x) :: r, m :: ns, n + 1, k + 1, e, hn, hk, h => by
    simp only [List.map_cons, List.take_succ_cons, List.cons.injEq] at e
    obtain ⟨rfl, e⟩ := e
    rw [List.nodup_cons] at hn
    have hk' : ns[k]? = some f := by simpa using hk
    have ne : (f == g) = false := beq_eq_false_iff_ne.mpr fun z => hn.1 (z ▸ List.mem_of_getElem? hk')
    rw [List.lookup_cons, ne]
    exact lookup_at (k := k) e hn.2 hk' (by simpa using h)
theorem lookup_no {f : Str} : ∀ {vs : List (Str × V)} {ns : List Str} {n : Nat}, vs.map (·.1) = ns.take n → f ∉ ns → vs.lookup f = none
  | [], _, _, _, _ => rfl
  | (g, x) :: r, [], n, e, _ => by simp at e
  | (g, x) :: r, m :: ns, 0, e, _ => by simp at e
  | (g, x) :: r, m :: ns, n + 1, e, h => by
    simp only [List.map_cons, List.take_succ_cons, List.cons.injEq] at e
    obtain ⟨rfl, e⟩ := e
    have ne : (f == g) = false := beq_eq_false_iff_ne.mpr fun z => h (z ▸ List.mem_cons_self)
    rw [List.lookup_cons, ne]
    exact lookup_no e fun z => h (List.mem_cons_of_mem _ z)
theorem putF_at {f : Str} {v : V} : ∀ {vs : List (Str × V)} {ns : List Str} {n k : Nat}, vs.map (·.1) = ns.take n → ns.Nodup → ns[k]? = some f → k < vs.length → putF f v vs = vs.set k (f, v)
  | [], _, _, _, _, _, _, h => absurd h (Nat.not_lt_zero _)
  | (g, x) :: r, [], n, k, e, _, hk, _ => by simp at hk
  | (g, x) :: r, m :: ns, 0, k, e, _, hk, _ => by simp at e
  | (g, x) :: r, m :: ns, n + 1, 0, e, _, hk, h => by
    simp at e hk
    obtain ⟨rfl, _⟩ := e
    subst hk
    unfold putF
    rw [if_pos rfl]
    rfl
  | (g, x) :: r, m :: ns, n + 1, k + 1, e, hn, hk, h => by
    simp only [List.map_cons, List.take_succ_cons, List.cons.injEq] at e
    obtain ⟨rfl, e⟩ := e
    rw [List.nodup_cons] at hn
    have hk' : ns[k]? = some f := by simpa using hk
    unfold putF
    have ng : ¬ g = f := fun z => hn.1 (by rw [z]; exact List.mem_of_getElem? hk')
    rw [if_neg ng, putF_at (k := k) e hn.2 hk' (by simpa using h)]
    rfl
theorem putF_end {f : Str} {v : V} : ∀ {vs : List (Str × V)} {ns : List Str} {n k : Nat}, vs.map (·.1) = ns.take n → ns.Nodup → ns[k]? = some f → k = vs.length → putF f v vs = vs ++ [(f, v)]
  | [], _, _, _, _, _, _, h => rfl
  | (g, x) :: r, [], n, k, e, _, hk, _ => by simp at hk
  | (g, x) :: r, m :: ns, 0, k, e, _, hk, _ => by simp at e
  | (g, x) :: r, m :: ns, n + 1, 0, e, _, hk, h => by simp at h
  | (g, x) :: r, m :: ns, n + 1, k + 1, e, hn, hk, h => by
    simp only [List.map_cons, List.take_succ_cons, List.cons.injEq] at e
    obtain ⟨rfl, e⟩ := e
    rw [List.nodup_cons] at hn
    have hk' : ns[k]? = some f := by simpa using hk
    unfold putF
    have ng : ¬ g = f := fun z => hn.1 (by rw [z]; exact List.mem_of_getElem? hk')
    rw [if_neg ng, putF_end (k := k) e hn.2 hk' (by simpa using h)]
    rfl
def setO (fs : List FV) (k : Nat) (x : FV) : List FV := if k < fs.length then fs.set k x else fs ++ [x]
theorem names_put {f : Str} {v : V} {vs : List (Str × V)} {ns : List Str} {fs : List FV} {k : Nat} {x : FV} (e : vs.map (·.1) = ns.take fs.length) (hl : vs.length = fs.length) (hn : ns.Nodup) (hk : ns[k]? = some f) (hle : k ≤ fs.length) : (putF f v vs).map (·.1) = ns.take (setO fs k x).length := by
  unfold setO
  by_cases h : k < fs.length
  · rw [if_pos h, putF_at e hn hk (by omega), List.length_set, List.map_set, ← e]
    apply List.ext_getElem?
    intro j
    rw [List.getElem?_set]
    split
    · rename_i hj
      subst hj
      have : (vs.map (·.1))[k]? = some f := by rw [e, List.getElem?_take, if_pos h]; exact hk
      rw [this]
      have hlt : k < (vs.map (·.1)).length := by rw [List.length_map]; omega
      rw [if_pos hlt]
    · rfl
  · have hk2 : k = fs.length := by omega
    rw [if_neg h, putF_end e hn hk (by omega), List.map_append, e, List.length_append]
    have : ns.take (fs.length + 1) = ns.take fs.length ++ [f] := by
      rw [List.take_succ, ← hk2, hk]
      rfl
    rw [show ([x] : List FV).length = 1 from rfl, this]
    rfl
theorem vals_put {f : Str} {v : V} {vs : List (Str × V)} {ns : List Str} {fs : List FV} {k : Nat} (e : vs.map (·.1) = ns.take fs.length) (hl : vs.length = fs.length) (hn : ns.Nodup) (hk : ns[k]? = some f) (hle : k ≤ fs.length) : (putF f v vs).map (·.2) = if k < fs.length then (vs.map (·.2)).set k v else vs.map (·.2) ++ [v] := by
  by_cases h : k < fs.length
  · rw [if_pos h, putF_at e hn hk (by omega), List.map_set]
  · rw [if_neg h, putF_end e hn hk (by omega), List.map_append]
    rfl
/-! ### a slot's own thing is changed -/
def upR (reg : Nat → AS) (i : Nat) (r : AS) : Nat → AS := fun j a => (j ≠ i ∧ reg j a) ∨ (j = i ∧ r a)
section
variable {K : PySem.W.Frag} {H0 H H2 : Hp} {ext : AS} {reg : Nat → AS} {en : En} {σ : L2.St}
theorem upR_own {i : Nat} {r' : AS} {a : Addr} (h : own ext (upR reg i r') a) : own ext reg a ∨ r' a := by
  rcases h with h | ⟨j, ⟨_, h⟩ | ⟨_, h⟩⟩
  · exact .inl (.inl h)
  · exact .inl (.inr ⟨j, h⟩)
  · exact .inr h
theorem RS.chg_up (r : RS K H0 ext reg en σ H) {i : Nat} {r' : AS} (k1 : ∀ a o, ¬ reg i a → H a = some o → isTb o = false → H2 a = some o) (k2 : ∀ a, r' a → reg i a ∨ Nn H a) : Ex (hid H (own ext reg)) (hid H2 (own ext (upR reg i r'))) := ⟨fun a o h n => by
  obtain ⟨z, h⟩ := hid_some h
  have h2 := k1 a o (fun q => z (.inr ⟨i, q⟩)) h n
  rw [hid_at fun q => ?_]
  · exact h2
  · rcases upR_own q with q | q
    · exact z q
    · rcases k2 a q with q | q
      · exact z (.inr ⟨i, q⟩)
      · exact So.nn ⟨o, h, n⟩ q⟩
theorem RS.chg (r : RS K H0 ext reg en σ H) {i : Nat} {r' : AS} {sv : SV} {v : Option V} (hi : i < en.length) (ho : isOwn sv = true) (hv : σ[i]? = some v)
    (k1 : ∀ a o, ¬ reg i a → H a = some o → isTb o = false → H2 a = some o) (tb : LamX.Tabs Tabl.T H2) (k2 : ∀ a, r' a → reg i a ∨ Nn H a) (k3 : ∀ a, r' a → So H2 a)
    (h : SlotOk K (hid H2 (own ext (upR reg i r'))) H2 v r' sv) : RS K H0 ext (upR reg i r') (en.set i sv) σ H2 := by
  have up := r.chg_up k1 k2
  have nm : ∀ j a, j ≠ i → reg j a → ¬ reg i a := fun j a hj q q2 => hj (r.dj j i a q q2)
  refine ⟨⟨fun a o h0 n => k1 a o (fun q => So.nn ⟨o, h0, n⟩ (r.rg i a q).1) (r.le.k a o h0 n) n⟩, tb, r.exd, ?_, ?_, ?_, by simp [r.len], fun j sv' e => ?_⟩
  · rintro j a (⟨hj, q⟩ | ⟨rfl, q⟩)
    · obtain ⟨q1, o, q2, q3⟩ := r.rg j a q
      exact ⟨q1, o, k1 a o (nm j a hj q) q2 q3, q3⟩
    · refine ⟨?_, k3 a q⟩
      rcases k2 a q with q | q
      · exact (r.rg j a q).1
      · exact r.le.nn q
  · rintro j k a (⟨hj, q⟩ | ⟨rfl, q⟩) (⟨hk, q'⟩ | ⟨rfl, q'⟩)
    · exact r.dj j k a q q'
    · rcases k2 a q' with z | z
      · exact absurd z (nm j a hj q)
      · exact (So.nn (r.rg j a q).2 z).elim
    · rcases k2 a q with z | z
      · exact absurd z (nm k a hk q')
      · exact (So.nn (r.rg k a q').2 z).elim
    · rfl
  · rintro j a (⟨hj, q⟩ | ⟨rfl, q⟩)
    · obtain ⟨sv', h1, h2⟩ := r.ro j a q
      exact ⟨sv', by rw [List.getElem?_set_ne (Ne.symm hj)]; exact h1, h2⟩
    · exact ⟨sv, by rw [List.getElem?_set_self hi], ho⟩
  · by_cases hj : i = j
    · subst hj
      rw [List.getElem?_set_self hi] at e
      cases e
      exact ⟨v, hv, h.rg fun a q => .inr ⟨rfl, q⟩⟩
    · rw [List.getElem?_set_ne hj] at e
      obtain ⟨u, h1, h2⟩ := r.sl j sv' e
      exact ⟨u, h1, (h2.mono (H' := H2) up fun a o z q n => k1 a o (nm j a (Ne.symm hj) z) q n).rg fun a q => .inl ⟨Ne.symm hj, q⟩⟩
/-- a slot that takes a new thing, of whatever places -/
theorem RS.newR (r : RS K H0 ext reg en σ H) {i : Nat} {r' : AS} {sv : SV} {v : V} (hi : i < en.length) (ho : isOwn sv = true) (k1 : ∀ a o, H a = some o → isTb o = false → H2 a = some o) (tb : LamX.Tabs Tabl.T H2) (k2 : ∀ a, r' a → Nn H a) (k3 : ∀ a, r' a → So H2 a)
    (h : SlotOk K (hid H2 (own ext (upR reg i r'))) H2 (some v) r' sv) : RS K H0 ext (upR reg i r') (en.set i sv) (σ.set i (some v)) H2 := by
  have up : Ex (hid H (own ext reg)) (hid H2 (own ext (upR reg i r'))) := r.chg_up (fun a o _ => k1 a o) fun a q => .inr (k2 a q)
  refine ⟨⟨fun a o h0 n => k1 a o (r.le.k a o h0 n) n⟩, tb, r.exd, ?_, ?_, ?_, by simp [r.len], fun j sv' e => ?_⟩
  · rintro j a (⟨hj, q⟩ | ⟨rfl, q⟩)
    · obtain ⟨q1, o, q2, q3⟩ := r.rg j a q
      exact ⟨q1, o, k1 a o q2 q3, q3⟩
    · exact ⟨r.le.nn (k2 a q), k3 a q⟩
  · rintro j k a (⟨hj, q⟩ | ⟨rfl, q⟩) (⟨hk, q'⟩ | ⟨rfl, q'⟩)
    · exact r.dj j k a q q'
    · exact (So.nn (r.rg j a q).2 (k2 a q')).elim
    · exact (So.nn (r.rg k a q').2 (k2 a q)).elim
    · rfl
  · rintro j a (⟨hj, q⟩ | ⟨rfl, q⟩)
    · obtain ⟨sv', h1, h2⟩ := r.ro j a q
      exact ⟨sv', by rw [List.getElem?_set_ne (Ne.symm hj)]; exact h1, h2⟩
    · exact ⟨sv, by rw [List.getElem?_set_self hi], ho⟩
  · by_cases hj : i = j
    · subst hj
      rw [List.getElem?_set_self hi] at e
      cases e
      exact ⟨some v, by rw [List.getElem?_set_self (by rw [r.len]; exact hi)], h.rg fun a q => .inr ⟨rfl, q⟩⟩
    · rw [List.getElem?_set_ne hj] at e
      obtain ⟨u, h1, h2⟩ := r.sl j sv' e
      exact ⟨u, by rw [List.getElem?_set_ne hj]; exact h1, (h2.mono (H' := H2) up fun a o z q n => k1 a o q n).rg fun a q => .inl ⟨Ne.symm hj, q⟩⟩
theorem RS.atO (r : RS K H0 ext reg en σ H) {i : Nat} {m : Bool} {c : Str} {ns : List Str} {fs : List FV} (h : en[i]? = some (.ob m c ns fs)) : ∃ p dx vs L, σ[i]? = some (some (.ref p)) ∧ (m = true → p = Tabl.me) ∧ reg i p ∧ H p = some (.ins (Tabl.C c) dx vs) ∧ vs.map (·.1) = ns.take fs.length ∧ vs.length = fs.length ∧ FsOk K (hid H (own ext reg)) H (reg i) (vs.map (·.2)) fs L := by
  obtain ⟨v, h1, p, dx, vs, L, rfl, h2, h3, h4, h5, h6⟩ := r.sl i _ h
  exact ⟨p, dx, vs, L, h1, h2, h3, h4, h5, by have := h6.len; rw [List.length_map] at this; exact this, h6⟩
end
theorem lt_of_some {α : Type} {l : List α} {i : Nat} {x : α} (h : l[i]? = some x) : i < l.length := (List.getElem?_eq_some_iff.mp h).1
/-! ### o.f -/
def dFld (i : Nat) (c : Str) (ns : List Str) (k : Nat) : En → R PD := fun en => match en[i]? with
  | some (.ob _ c' ns' fs) => if c' = c ∧ ns' = ns then match fs[k]? with
      | some (.sh d) => .ok d
      | _ => .stuck
    else .stuck
  | _ => .stuck
def dFldL (i : Nat) (c : Str) (ns : List Str) (k : Nat) : En → R PD := fun en => match en[i]? with
  | some (.ob _ c' ns' fs) => if c' = c ∧ ns' = ns then match fs[k]? with
      | some (.sh d) => .ok d
      | some (.ol ds) => .ok (.list ds)
      | _ => .stuck
    else .stuck
  | _ => .stuck
/-- what a class must have for its fields -/
structure ClF (K : PySem.W.Frag) (C : Addr) (ns : List Str) (k : Nat) (f : Str) : Prop where
  cl : Cls K C
  no : NoAttr K C f
  nd : ns.Nodup
  at_ : ns[k]? = some f
section
variable {C : Cn} {te ta : TE} {fa : En → R PD}
theorem ed_fld {i k : Nat} {c f : Str} {ns : List Str} (h : ClF C.K (Tabl.C c) ns k f) : EdS C (tFld C.K (tVar i) f) (dFld i c ns k) := fun H0 ext reg en σ H rs Q w => by
  unfold dFld at w
  cases e : en[i]? with
  | none => rw [e] at w; exact w.elim
  | some sv =>
    rw [e] at w
    cases sv with
    | ob m c' ns' fs =>
      dsimp only at w
      split at w
      · rename_i he
        obtain ⟨rfl, rfl⟩ := he
        obtain ⟨p, dx, vs, L, h1, h2, h3, h4, h5, hl, h6⟩ := rs.atO e
        split at w
        · rename_i d ek
          obtain ⟨v, hv, hr⟩ := h6.get ek
          exact ⟨_, h1, p, _, dx, vs, v, rfl, h4, h.cl, h.no, lookup_at h5 h.nd h.at_ hv, w v H (Xt.refl H) hr⟩
        · exact w.elim
      · exact w.elim
    | _ => exact w.elim
theorem el_fld {i k : Nat} {c f : Str} {ns : List Str} (h : ClF C.K (Tabl.C c) ns k f) : EdL C (tFld C.K (tVar i) f) (dFldL i c ns k) := fun H0 ext reg en σ H rs Q w => by
  unfold dFldL at w
  cases e : en[i]? with
  | none => rw [e] at w; exact w.elim
  | some sv =>
    rw [e] at w
    cases sv with
    | ob m c' ns' fs =>
      dsimp only at w
      split at w
      · rename_i he
        obtain ⟨rfl, rfl⟩ := he
        obtain ⟨p, dx, vs, L, h1, h2, h3, h4, h5, hl, h6⟩ := rs.atO e
        split at w
        · rename_i d ek
          obtain ⟨v, hv, hr⟩ := h6.get ek
          exact ⟨_, h1, p, _, dx, vs, v, rfl, h4, h.cl, h.no, lookup_at h5 h.nd h.at_ hv, w v H (Xt.refl H) (.s hr)⟩
        · rename_i ds ek
          obtain ⟨q, xs, hv, _, hrq, hq, hr⟩ := h6.getL ek
          exact ⟨_, h1, p, _, dx, vs, _, rfl, h4, h.cl, h.no, lookup_at h5 h.nd h.at_ hv, w _ H (Xt.refl H) (.l (by rw [hid_at (rs.noext hrq)]; exact hq) hr)⟩
        · exact w.elim
      · exact w.elim
    | _ => exact w.elim
/-! ### o.f = e -/
def putO (i : Nat) (c : Str) (ns : List Str) (k : Nat) (x : FV) (en : En) : R En := match en[i]? with
  | some (.ob m c' ns' fs) => if c' = c ∧ ns' = ns ∧ k ≤ fs.length ∧ fs.length ≤ 100 then .ok (en.set i (.ob m c ns (setO fs k x))) else .stuck
  | _ => .stuck
def sFldE (i : Nat) (c : Str) (ns : List Str) (k : Nat) (fe : En → R (PD × En)) : En → R Fl := fun en => (fe en).bind fun p => (putO i c ns k (.sh p.1) p.2).bind fun e => .ok (.nx e)
theorem es_fldE {i k : Nat} {c f : Str} {ns : List Str} {fe : En → R (PD × En)} (h : ClF C.K (Tabl.C c) ns k f) (he : EdE C te fe) : Es C (sFld C.K (tVar i) te f) (sFldE i c ns k fe) := fun H0 ext reg en σ H rs D w => he H0 ext reg en σ H rs _ (by
  unfold sFldE at w
  generalize fe en = x at w ⊢
  cases x with
  | exc c => exact fun H2 e2 t2 => w H2 e2 t2
  | stuck => exact w
  | ok p =>
    obtain ⟨d, en1⟩ := p
    intro v reg1 H1 e1 r1 hv
    simp only [R.bind_ok] at w
    unfold putO at w
    cases e : en1[i]? with
    | none => rw [e] at w; exact w.elim
    | some sv =>
      rw [e] at w
      cases sv with
      | ob m c' ns' fs =>
        dsimp only at w
        split at w
        · rename_i hc
          obtain ⟨rfl, rfl, hk, hl100⟩ := hc
          obtain ⟨p, dx, vs, L, h1, h2, h3, h4, h5, hl, h6⟩ := r1.atO e
          refine ⟨_, h1, p, _, dx, vs, rfl, h4, h.cl, h.no, by omega, w _ _ _ (r1.chg (r' := reg1 i) (lt_of_some e) rfl h1 (fun a o na ha _ => ?_) (tabs_wr r1.tb h4 rfl fun a ha => upd_ne ha) (fun a q => .inl q) (fun a q => ?_) ?_)⟩
          · have nap : a ≠ p := fun z => na (by rw [z]; exact h3)
            rw [upd_ne nap]
            exact ha
          · by_cases hap : a = p
            · rw [hap]; exact ⟨_, upd_same, rfl⟩
            · obtain ⟨o, q1, q2⟩ := (r1.rg i a q).2
              exact ⟨o, by rw [upd_ne hap]; exact q1, q2⟩
          · have ow : own ext (upR reg1 i (reg1 i)) = own ext reg1 := by
              funext a
              apply propext
              constructor
              · intro z
                rcases upR_own z with z | z
                · exact z
                · exact .inr ⟨i, z⟩
              · rintro (z | ⟨j, z⟩)
                · exact .inl z
                · by_cases hj : j = i
                  · exact .inr ⟨j, .inr ⟨hj, hj ▸ z⟩⟩
                  · exact .inr ⟨j, .inl ⟨hj, z⟩⟩
            rw [ow, hid_upd (.inr ⟨i, h3⟩)]
            have nl : ∀ q ∈ L, q ≠ p := fun q hq z => by
              obtain ⟨_, xs, hx⟩ := h6.isL q hq
              rw [z, h4] at hx
              cases hx
            have h7 : FsOk C.K (hid H1 (own ext reg1)) (upd H1 p (.ins (Tabl.C c') dx (putF f v vs))) (reg1 i) (vs.map (·.2)) fs L := h6.monoL (Ex.refl _).le fun q hq xs hx => by rw [upd_ne (nl q hq)]; exact hx
            by_cases hlt : k < fs.length
            · obtain ⟨L', _, h8⟩ := h7.set hv k
              refine ⟨p, dx, _, L', rfl, h2, h3, upd_same, names_put h5 hl h.nd h.at_ hk, ?_⟩
              rw [vals_put h5 hl h.nd h.at_ hk, if_pos hlt]
              unfold setO
              rw [if_pos hlt]
              exact h8
            · refine ⟨p, dx, _, L, rfl, h2, h3, upd_same, names_put h5 hl h.nd h.at_ hk, ?_⟩
              rw [vals_put h5 hl h.nd h.at_ hk, if_neg hlt]
              unfold setO
              rw [if_neg hlt]
              exact h7.snoc hv
        · exact w.elim
      | _ => exact w.elim)
end
end Dn

/-! objects: lists of their own; methods, makings. -/
namespace Dn
open PySem L2
variable [Tabl]
section
variable {K : PySem.W.Frag} {H0 H : Hp} {ext : AS} {reg : Nat → AS} {en : En} {σ : L2.St}
theorem own_upR_self {i : Nat} : own ext (upR reg i (reg i)) = own ext reg := by
  funext a
  apply propext
  constructor
  · intro z
    rcases upR_own z with z | z
    · exact z
    · exact .inr ⟨i, z⟩
  · rintro (z | ⟨j, z⟩)
    · exact .inl z
    · by_cases hj : j = i
      · exact .inr ⟨j, .inr ⟨hj, hj ▸ z⟩⟩
      · exact .inr ⟨j, .inl ⟨hj, z⟩⟩
end
section
variable {C : Cn} {te ta : TE} {fa : En → R PD}
/-- o.f = a new list -/
def sFldF (i : Nat) (c : Str) (ns : List Str) (k : Nat) (fa : En → R (List PD)) : En → R Fl := fun en => (fa en).bind fun ds => (putO i c ns k (.ol ds) en).bind fun e => .ok (.nx e)
theorem es_fldF {i k : Nat} {c f : Str} {ns : List Str} {fa : En → R (List PD)} (h : ClF C.K (Tabl.C c) ns k f) (ha : EdF C te fa) : Es C (sFld C.K (tVar i) te f) (sFldF i c ns k fa) := fun H0 ext reg en σ H rs D w => ha H0 ext reg en σ H rs _ (by
  unfold sFldF at w
  generalize fa en = x at w ⊢
  cases x with
  | exc c => exact WS.exc w rs.le rs.tb
  | stuck => exact w
  | ok ds =>
    intro q xs H1 e1 hq hx
    have r1 := rs.ex e1
    simp only [R.bind_ok] at w
    unfold putO at w
    cases e : en[i]? with
    | none => rw [e] at w; exact w.elim
    | some sv =>
      rw [e] at w
      cases sv with
      | ob m c' ns' fs =>
        dsimp only at w
        split at w
        · rename_i hc
          obtain ⟨rfl, rfl, hk, hl100⟩ := hc
          obtain ⟨p, dx, vs, L, h1, h2, h3, h4, h5, hl, h6⟩ := r1.atO e
          have npq : p ≠ q := fun z => by rw [z, hq] at h4; cases h4
          have h4' : upd H1 q (.lst xs) p = some (.ins (Tabl.C c') dx vs) := by rw [upd_ne npq]; exact h4
          have tb1 : LamX.Tabs Tabl.T (upd H1 q (.lst xs)) := (Xt.new hq).t r1.tb
          have nqL : q ∉ L := fun z => by
            obtain ⟨_, ys, hy⟩ := h6.isL q z
            rw [hq] at hy
            cases hy
          have k1 : ∀ a o, ¬ reg i a → H1 a = some o → isTb o = false → upd (upd H1 q (.lst xs)) p (.ins (Tabl.C c') dx (putF f (.ref q) vs)) a = some o := fun a o na ha _ => by
            have nap : a ≠ p := fun z => na (by rw [z]; exact h3)
            have naq : a ≠ q := fun z => by rw [z, hq] at ha; cases ha
            rw [upd_ne nap, upd_ne naq]
            exact ha
          have k2 : ∀ a, (reg i a ∨ a = q) → reg i a ∨ Nn H1 a := fun a z => z.imp (fun z => z) fun z => by rw [z]; exact .of hq
          refine ⟨_, h1, p, _, dx, vs, rfl, h4', h.cl, h.no, by omega, w _ _ _ (r1.chg (r' := fun a => reg i a ∨ a = q) (lt_of_some e) rfl h1 k1 (tabs_wr tb1 h4' rfl fun a ha => upd_ne ha) k2 (fun a z => ?_) ?_)⟩
          · by_cases hap : a = p
            · rw [hap]; exact ⟨_, upd_same, rfl⟩
            · rw [So, upd_ne hap]
              rcases z with z | z
              · obtain ⟨o, q1, q2⟩ := (r1.rg i a z).2
                exact ⟨o, by rw [upd_ne fun z2 => by rw [z2, hq] at q1; cases q1]; exact q1, q2⟩
              · rw [z]; exact ⟨_, upd_same, rfl⟩
          · have up := r1.chg_up (r' := fun a => reg i a ∨ a = q) k1 k2
            have nl : ∀ z ∈ L, z ≠ p := fun z hz e => by
              obtain ⟨_, ys, hy⟩ := h6.isL z hz
              rw [e, h4] at hy
              cases hy
            have h7 := (h6.rg (r' := fun a => reg i a ∨ a = q) fun a z => .inl z).monoL (H' := upd (upd H1 q (.lst xs)) p (.ins (Tabl.C c') dx (putF f (.ref q) vs))) up.le fun z hz ys hy => by
              rw [upd_ne (nl z hz), upd_ne (ne_mem hz nqL)]; exact hy
            have hq2 : upd (upd H1 q (.lst xs)) p (.ins (Tabl.C c') dx (putF f (.ref q) vs)) q = some (.lst xs) := by rw [upd_ne npq.symm, upd_same]
            by_cases hlt : k < fs.length
            · obtain ⟨L', _, h8⟩ := h7.setL (.inr rfl) hq2 (hx.mono up.le) k nqL
              refine ⟨p, dx, _, L', rfl, h2, .inl h3, upd_same, names_put h5 hl h.nd h.at_ hk, ?_⟩
              rw [vals_put h5 hl h.nd h.at_ hk, if_pos hlt]
              unfold setO
              rw [if_pos hlt]
              exact h8
            · obtain ⟨L', _, h8⟩ := h7.snocL (.inr rfl) hq2 (hx.mono up.le) nqL
              refine ⟨p, dx, _, L', rfl, h2, .inl h3, upd_same, names_put h5 hl h.nd h.at_ hk, ?_⟩
              rw [vals_put h5 hl h.nd h.at_ hk, if_neg hlt]
              unfold setO
              rw [if_neg hlt]
              exact h8
        · exact w.elim
      | _ => exact w.elim)
/-- the list of the field k of the object in the slot i is written -/
theorem RS.wrF {K : PySem.W.Frag} {H0 H : Hp} {ext : AS} {reg : Nat → AS} {en : En} {σ : L2.St} {i k : Nat} {m : Bool} {c : Str} {ns : List Str} {fs : List FV} {ds ds' : List PD} {q p dx : Addr} {vs : List (Str × V)} {L : List Addr} {xs ys : List V} (r1 : RS K H0 ext reg en σ H) (e : en[i]? = some (.ob m c ns fs)) (h1 : σ[i]? = some (some (.ref p))) (h2 : m = true → p = Tabl.me) (h3 : reg i p) (h4 : H p = some (.ins (Tabl.C c) dx vs)) (h5 : vs.map (·.1) = ns.take fs.length) (h6 : FsOk K (hid H (own ext reg)) H (reg i) (vs.map (·.2)) fs L)
    (ek : fs[k]? = some (.ol ds)) (hv : (vs.map (·.2))[k]? = some (.ref q)) (hq : H q = some (.lst xs)) (hrq : reg i q) (hy : RpA K (hid H (own ext reg)) ys ds') : RS K H0 ext (upR reg i (reg i)) (en.set i (.ob m c ns (fs.set k (.ol ds')))) σ (upd H q (.lst ys)) := by
  have npq : p ≠ q := fun z => by rw [z, hq] at h4; cases h4
  refine r1.chg (r' := reg i) (lt_of_some e) rfl h1 (fun a o na ha _ => ?_) (tabs_wr r1.tb hq rfl fun a ha => upd_ne ha) (fun a z => .inl z) (fun a z => ?_) ?_
  · have naq : a ≠ q := fun z => na (by rw [z]; exact hrq)
    rw [upd_ne naq]
    exact ha
  · by_cases haq : a = q
    · rw [haq]; exact ⟨_, upd_same, rfl⟩
    · obtain ⟨o, q1, q2⟩ := (r1.rg i a z).2
      exact ⟨o, by rw [upd_ne haq]; exact q1, q2⟩
  · rw [own_upR_self, hid_upd (.inr ⟨i, hrq⟩)]
    exact ⟨p, dx, vs, L, rfl, h2, h3, by rw [upd_ne npq]; exact h4, by rw [List.length_set]; exact h5, h6.wr hy ek hv⟩
/-- o.f.append(e) -/
def sFldApp (i : Nat) (c : Str) (ns : List Str) (k : Nat) (fa : En → R PD) : En → R Fl := fun en => match en[i]? with
  | some (.ob m c' ns' fs) => if c' = c ∧ ns' = ns then match fs[k]? with
      | some (.ol ds) => (fa en).bind fun d => if ds.length + 1 ≤ szN then .ok (.nx (en.set i (.ob m c ns (fs.set k (.ol (ds ++ [d])))))) else .stuck
      | _ => .stuck
    else .stuck
  | _ => .stuck
theorem es_fldApp {i k : Nat} {c f : Str} {ns : List Str} (h : ClF C.K (Tabl.C c) ns k f) (ha : EdS C te fa) : Es C (tDrop (tBM C.K "list" rAppend (tFld C.K (tVar i) f) (tCons te tNil))) (sFldApp i c ns k fa) := fun H0 ext reg en σ H rs D w => by
  unfold sFldApp at w
  cases e : en[i]? with
  | none => rw [e] at w; exact w.elim
  | some sv =>
    rw [e] at w
    cases sv with
    | ob m c' ns' fs =>
      dsimp only at w
      split at w
      · rename_i hc
        obtain ⟨rfl, rfl⟩ := hc
        split at w
        · rename_i ds ek
          obtain ⟨p, dx, vs, L, h1, h2, h3, h4, h5, hl, h6⟩ := rs.atO e
          obtain ⟨q, xs, hv, hqL, hrq, hq, hx⟩ := h6.getL ek
          refine ⟨_, h1, p, _, dx, vs, .ref q, rfl, h4, h.cl, h.no, lookup_at h5 h.nd h.at_ hv, .inl ⟨rfl, xs, SqL.of hq⟩, ha.seq rs (W := WS C H0 ext D) w (fun _ q => WS.exc q rs.le rs.tb) (fun q => q) fun d v H2 e2 r2 hd w2 => ?_⟩
          split at w2
          · rename_i hsz
            refine ⟨q, xs, v, rfl, rfl, e2.l hq, sz_lt (by rw [hx.length]; omega), w2 _ _ _ (r2.wrF e h1 h2 h3 (e2.k _ _ h4 rfl) h5 (h6.mono e2.toEx.hid.le fun a o _ z n => e2.k a o z n) ek hv (e2.l hq) hrq ((hx.mono e2.toEx.hid.le).app (.cons hd .nil)))⟩
          · exact w2.elim
        · exact w.elim
      · exact w.elim
    | _ => exact w.elim
/-! ### methods -/
inductive RO where
  | ok (d : PD) (o : List FV)
  | exc (c : Str) (o : List FV)
  | stuck
def uni (Z r : AS) : AS := fun a => Z a ∨ r a
/-- what is wanted of a method -/
structure MtS (K : PySem.W.Frag) (c : Str) (ns : List Str) (ext r : AS) (p : Addr) (H : Hp) (r' : AS) (o : List FV) (H2 : Hp) : Prop where
  k : Ex (hid H r) H2
  t : LamX.Tabs Tabl.T H2
  r1 : ∀ a, r' a → r a ∨ Nn H a
  r2 : ∀ a, r' a → So H2 a
  s : SlotOk K (hid H2 (uni ext r')) H2 (some (.ref p)) r' (.ob false c ns o)
def WrM (C : Cn) (c : Str) (ns : List Str) (ext r : AS) (p : Addr) (H : Hp) (Q : VK) : RO → Prop
  | .ok d o => ∀ v r' H2, MtS C.K c ns ext r p H r' o H2 → Rp C.K (hid H2 (uni ext r')) v d → Q v H2
  | .exc x o => ∀ r' H2, MtS C.K c ns ext r p H r' o H2 → C.E (.ref (C.cl x)) none H2
  | .stuck => False
def spM (K : PySem.W.Frag) (cl : Str → Addr) (c : Str) (ns : List Str) (n : Nat) (F : List FV → List PD → RO) : Sp := fun vs H Q E => ∃ (ext r : AS) (p : Addr) (o : List FV) (us : List V) (ds : List PD), vs = .ref p :: us ∧ us.length = n ∧ LamX.Tabs Tabl.T H ∧ (∀ a, ext a → So H a) ∧ (∀ a, r a → So H a) ∧ (∀ a, r a → ¬ ext a) ∧
  SlotOk K (hid H (uni ext r)) H (some (.ref p)) r (.ob false c ns o) ∧ RpA K (hid H (uni ext r)) us ds ∧ WrM ⟨K, E, cl⟩ c ns ext r p H Q (F o ds)
/-- a method's own frame -/
def atSelf (c : Str) (ns : List Str) (e : En) (k : List FV → RO) : RO := match e[(0 : Nat)]? with
  | some (.ob true c' ns' o') => if c' = c ∧ ns' = ns then k o' else .stuck
  | _ => .stuck
def runM (N : Nat) (c : Str) (ns : List Str) (f : En → R Fl) (o : List FV) (ds : List PD) : RO := match f (.ob true c ns o :: (ds.map SV.sh ++ List.replicate (N - 1 - ds.length) SV.no)) with
  | .ok (.nx e) => atSelf c ns e (.ok .none)
  | .ok (.rm d e) => atSelf c ns e (.ok d)
  | .ok (.xm x e) => atSelf c ns e (.exc x)
  | _ => .stuck
/-- the same, another object's method runs -/
@[reducible] def meI (T : Tabl) (p : Addr) : Tabl := ⟨T.T, T.C, p⟩
end
section
variable {P : Program} {w : World} {K : PySem.W.Frag} {mg : Str → Option Value} {base : Heap}
theorem own_start {ext r : AS} : own ext (fun i a => i = 0 ∧ r a) = uni ext r := by
  funext a
  apply propext
  constructor
  · rintro (h | ⟨_, _, h⟩)
    · exact .inl h
    · exact .inr h
  · rintro (h | h)
    · exact .inl h
    · exact .inr ⟨0, rfl, h⟩
theorem RS.startM {T : Tabl} {K : PySem.W.Frag} {H : Hp} {ext r : AS} {p : Addr} {us : List V} {ds : List PD} {N : List Str} {c : Str} {ns : List Str} {o : List FV} (hN : 0 < N.length) (tb : LamX.Tabs T.T H) (hx : ∀ a, ext a → So H a) (hr : ∀ a, r a → So H a) (hd : ∀ a, r a → ¬ ext a)
    (s : @SlotOk T K (hid H (uni ext r)) H (some (.ref p)) r (.ob false c ns o)) (h : RpA K (hid H (uni ext r)) us ds) :
    @RS (meI T p) K (hid H r) ext (fun i a => i = 0 ∧ r a) (.ob true c ns o :: (ds.map SV.sh ++ List.replicate (N.length - 1 - ds.length) SV.no)) (L2.start N (.ref p :: us)) H := by
  letI : Tabl := meI T p
  refine ⟨hid_ex, tb, fun a z => ?_, fun i a ⟨_, z⟩ => ⟨.of (hid_no z), hr a z⟩, fun i j a ⟨q, _⟩ ⟨q', _⟩ => q.trans q'.symm, fun i a z => ⟨.ob true c ns o, by obtain ⟨q, _⟩ := z; subst q; rfl, rfl⟩, ?_, fun i sv e => ?_⟩
  · obtain ⟨u, q, t⟩ := hx a z
    exact ⟨u, by rw [hid_at fun y => hd a y z]; exact q, t⟩
  · unfold L2.start
    simp only [List.length_cons, List.length_append, List.length_map, List.length_replicate, h.length]
    omega
  · rw [own_start]
    unfold L2.start
    cases i with
    | zero =>
      cases e
      obtain ⟨p', dx, vs, L, h1, h2, h3, h4, h5, h6⟩ := s
      cases h1
      exact ⟨_, rfl, p, dx, vs, L, rfl, fun _ => rfl, ⟨rfl, h3⟩, h4, h5, h6.rg fun a z => ⟨rfl, z⟩⟩
    | succ i =>
      rw [List.getElem?_cons_succ] at e
      have hs : ∀ (x : Option V) (l : List (Option V)), (x :: l)[i + 1]? = l[i]? := fun _ _ => rfl
      rw [List.map_cons, List.cons_append, hs]
      by_cases hi : i < ds.length
      · rw [List.getElem?_append_left (by rw [List.length_map]; exact hi), List.getElem?_map, List.getElem?_eq_getElem hi] at e
        cases e
        obtain ⟨v, h1, h2⟩ := h.get (List.getElem?_eq_getElem hi)
        refine ⟨some v, ?_, v, rfl, h2⟩
        rw [List.getElem?_append_left (by rw [List.length_map, h.length]; exact hi), List.getElem?_map, h1]
        rfl
      · rw [List.getElem?_append_right (by rw [List.length_map]; omega), List.length_map, List.getElem?_replicate] at e
        split at e
        · rename_i hl
          cases e
          refine ⟨none, ?_, trivial⟩
          rw [List.getElem?_append_right (by rw [List.length_map, h.length]; omega), List.length_map, List.getElem?_replicate, h.length, if_pos (by have := h.length; simp only [List.length_cons]; omega)]
        · cases e
/-- what a frame leaves of its object -/
theorem RS.endM {T : Tabl} {K : PySem.W.Frag} {H H2 : Hp} {ext r : AS} {reg : Nat → AS} {p : Addr} {c : Str} {ns : List Str} {o : List FV} {e : En} {σ : L2.St} (r2 : @RS (meI T p) K (hid H r) ext reg e σ H2) (h : e[0]? = some (.ob true c ns o)) :
    ∃ r', @MtS T K c ns ext r p H r' o H2 ∧ ∀ a, uni ext r' a → own ext reg a := by
  letI : Tabl := meI T p
  obtain ⟨q, dx, vs, L, h1, h2, h3, h4, h5, hl, h6⟩ := r2.atO h
  have eq : q = p := h2 rfl
  subst eq
  have sub : ∀ a, uni ext (reg 0) a → own ext reg a := fun a z => z.imp (fun z => z) fun z => ⟨0, z⟩
  refine ⟨reg 0, @MtS.mk T K c ns ext r q H (reg 0) o H2 r2.le r2.tb (fun a z => ?_) (fun a z => (r2.rg 0 a z).2) ?_, sub⟩
  · by_cases hz : r a
    · exact .inl hz
    · refine .inr fun o q => ?_
      exact (r2.rg 0 a z).1 o (by rw [hid_at hz]; exact q)
  · exact ⟨q, dx, vs, L, rfl, (fun z => nomatch z), h3, h4, h5, h6.mono ((Ex.refl H2).hidLess sub).le fun _ _ _ z _ => z⟩
theorem def_okM {x qual : Str} {st : Stmt} {f : Addr} {fd : FuncData} {N : List Str} {s0 : Str} {ps : List Str} {k : Nat} {cl : Str → Addr} {c : Str} {ns : List Str} {body : En → R Fl} (F : Fun K x qual st f fd) (S : FnScope N (s0 :: ps) (defScope st)) (hN : 0 < N.length)
    (hb : ∀ (p : Addr) (cdv : Value) (A : Around) (outer : List Env) (s : Shared) (H : Hp) (E : XK), Room k (A.deeper (PyProof.Rows.envOfC qual (defScope st) s.heap.objs.size f cdv)) →
      ∃ t, PSs (cxOf (L2N.CX P w) P w K mg base N qual (defScope st) f cdv A outer s H E) (defBody st) t ∧ @Es (meI ‹Tabl› p) ⟨K, E, cl⟩ t body) :
    FnOk P w K mg base (L2N.CX P w) (k + 1) f fd (s0 :: ps) (spM K cl c ns ps.length (runM N.length c ns body)) := by
  refine okN F S (fun vs H Q E h => ?_) fun cdv A outer s H vs Q E hr h => ?_
  · obtain ⟨ext, r, p, o, us, ds, rfl, hl, _⟩ := h
    simp [hl]
  obtain ⟨ext, r, p, o, us, ds, rfl, hl, tb, hx, hr1, hd, so, hu, wr⟩ := h
  obtain ⟨t, ht, hs⟩ := hb p cdv A outer s H E hr
  refine ⟨t, ht, ?_⟩
  refine hs (hid H r) ext _ _ _ H (RS.startM hN tb hx hr1 hd so hu) _ ?_
  unfold runM at wr
  generalize body (.ob true c ns o :: (ds.map SV.sh ++ List.replicate (N.length - 1 - ds.length) SV.no)) = z at wr ⊢
  cases z with
  | exc c => exact wr.elim
  | stuck => exact wr.elim
  | ok fl =>
    cases fl with
    | rt d => exact wr.elim
    | bk d => exact wr.elim
    | ct d => exact wr.elim
    | pr i d e => exact wr.elim
    | nx e =>
      dsimp only at wr
      intro reg σ H2 r2
      unfold atSelf at wr
      split at wr
      · rename_i c' ns' o' ee
        split at wr
        · rename_i hc
          obtain ⟨rfl, rfl⟩ := hc
          obtain ⟨r', m, sub⟩ := RS.endM r2 ee
          exact wr _ r' H2 m .non
        · exact wr.elim
      · exact wr.elim
    | rn d e => exact wr.elim
    | rm d e =>
      dsimp only at wr
      intro v reg σ H2 r2 hv
      unfold atSelf at wr
      split at wr
      · rename_i c' ns' o' ee
        split at wr
        · rename_i hc
          obtain ⟨rfl, rfl⟩ := hc
          obtain ⟨r', m, sub⟩ := RS.endM r2 ee
          exact wr v r' H2 m (hv.mono ((Ex.refl H2).hidLess sub).le)
        · exact wr.elim
      · exact wr.elim
    | xm x e =>
      dsimp only at wr
      intro reg σ H2 r2
      unfold atSelf at wr
      split at wr
      · rename_i c' ns' o' ee
        split at wr
        · rename_i hc
          obtain ⟨rfl, rfl⟩ := hc
          obtain ⟨r', m, sub⟩ := RS.endM r2 ee
          exact wr r' H2 m
        · exact wr.elim
      · exact wr.elim
end
end Dn

/-! expressions that change objects; methods called, objects made. -/
namespace Dn
open PySem L2
variable [Tabl]
section
variable {C : Cn} {te ta tb : TE} {fa fb : En → R PD} {fe fg : En → R (PD × En)} {H0 H H2 : Hp} {ext : AS} {reg reg2 : Nat → AS} {en en2 : En} {σ : L2.St} {Q : VK}
theorem WrE.s {r : R PD} (w : WrE C H0 ext reg σ H Q (r.bind fun z => .ok (z, en2))) (e : Ex (hid H (own ext reg)) (hid H2 (own ext reg2))) (r2 : RS C.K H0 ext reg2 en2 σ H2) : WrS C (own ext reg2) H2 Q r := by
  cases r with
  | ok z => exact fun v H3 e3 h3 => w v reg2 H3 (e.trans e3.toEx.hid) (r2.ex e3) h3
  | exc c => exact fun H3 e3 => w H3 (r2.le.trans e3.toEx) (e3.t r2.tb)
  | stuck => exact w
theorem EdE.seq {β : Type} (h : EdE C te fe) (rs : RS C.K H0 ext reg en σ H) {W : R β → Prop} {g : PD × En → R β} (w : W ((fe en).bind g)) (hx : ∀ c, W (.exc c) → ∀ H2, Ex H0 H2 → LamX.Tabs Tabl.T H2 → C.E (.ref (C.cl c)) none H2) (hs : ¬ W .stuck)
    (k : ∀ d en1 v reg1 H1, Ex (hid H (own ext reg)) (hid H1 (own ext reg1)) → RS C.K H0 ext reg1 en1 σ H1 → Rp C.K (hid H1 (own ext reg1)) v d → W (g (d, en1)) → Q v H1) : te σ H Q := h H0 ext reg en σ H rs Q (by
  generalize fe en = x at w ⊢
  cases x with
  | ok p => exact fun v reg1 H1 e1 r1 hv => k p.1 p.2 v reg1 H1 e1 r1 hv w
  | exc c => exact hx c w
  | stuck => exact hs w)
theorem WrE.mv {r : R (PD × En)} (w : WrE C H0 ext reg σ H Q r) (e : Ex (hid H (own ext reg)) (hid H2 (own ext reg2))) : WrE C H0 ext reg2 σ H2 Q r := by
  cases r with
  | ok p => exact fun v reg' H3 e3 r3 h3 => w v reg' H3 (e.trans e3) r3 h3
  | exc c => exact w
  | stuck => exact w
def e2 (g : PD → PD → R PD) (fa fb : En → R (PD × En)) : En → R (PD × En) := fun en => (fa en).bind fun p => (fb p.2).bind fun q => (g p.1 q.1).bind fun z => .ok (z, q.2)
def e1 (g : PD → R PD) (fa : En → R (PD × En)) : En → R (PD × En) := fun en => (fa en).bind fun p => (g p.1).bind fun z => .ok (z, p.2)
theorem ee_op {r : R2} {g : PD → PD → R PD} (hr : Op2 C r g) (ha : EdE C ta fe) (hb : EdE C tb fg) : EdE C (tOp r ta tb) (e2 g fe fg) := fun H0 ext reg en σ H rs Q w =>
  ha.seq rs (W := WrE C H0 ext reg σ H Q) w (fun _ q => q) (fun q => q) fun x en1 v reg1 H1 e1 r1 hv w1 =>
    hb.seq r1 (W := WrE C H0 ext reg1 σ H1 Q) (w1.mv e1) (fun _ q => q) (fun q => q) fun y en2 u reg2 H2 e2 r2 hu w2 =>
      hr ext (own ext reg2) H2 v u x y Q (fun a z => .inl z) (fun a z => r2.there z) (.s (hv.mono e2.le)) (.s hu) (w2.s e2 r2)
theorem ee_un {r : V → Hp → VK → Prop} {g : PD → R PD} (hr : Op1 C r g) (ha : EdE C ta fe) : EdE C (tUn r ta) (e1 g fe) := fun H0 ext reg en σ H rs Q w =>
  ha.seq rs (W := WrE C H0 ext reg σ H Q) w (fun _ q => q) (fun q => q) fun x en1 v reg1 H1 e1 r1 hv w1 => hr ext (own ext reg1) H1 v x Q (fun a z => .inl z) (fun a z => r1.there z) (.s hv) (w1.s e1 r1)
theorem ee_not (ha : EdE C ta fe) : EdE C (tNotV ta) (e1 notD fe) := fun H0 ext reg en σ H rs Q w =>
  ha.seq rs (W := WrE C H0 ext reg σ H Q) w (fun _ q => q) (fun q => q) fun x en1 v reg1 H1 e1 r1 hv w1 => by
    cases x with
    | bool b => cases hv; exact ⟨b, rfl, (w1.s e1 r1) _ H1 (Xt.refl H1) (.bl _)⟩
    | _ => exact w1.elim
def eAndV (fa fb : En → R (PD × En)) : En → R (PD × En) := fun en => (fa en).bind fun p => match p.1 with
  | .bool true => fb p.2
  | .bool false => .ok (.bool false, p.2)
  | _ => .stuck
def eOrV (fa fb : En → R (PD × En)) : En → R (PD × En) := fun en => (fa en).bind fun p => match p.1 with
  | .bool true => .ok (.bool true, p.2)
  | .bool false => fb p.2
  | _ => .stuck
theorem ee_andV (ha : EdE C ta fe) (hb : EdE C tb fg) : EdE C (tAndV ta tb) (eAndV fe fg) := fun H0 ext reg en σ H rs Q w =>
  ha.seq rs (W := WrE C H0 ext reg σ H Q) w (fun _ q => q) (fun q => q) fun x en1 v reg1 H1 e1 r1 hv w1 => by
    cases x with
    | bool b =>
      cases hv
      refine ⟨b, rfl, ?_⟩
      cases b with
      | true =>
        show tb σ H1 Q
        exact hb H0 ext reg1 en1 σ H1 r1 Q (WrE.mv w1 e1)
      | false =>
        show Q (.bl false) H1
        exact w1 _ reg1 H1 e1 r1 (.bl false)
    | _ => exact w1.elim
theorem ee_orV (ha : EdE C ta fe) (hb : EdE C tb fg) : EdE C (tOrV ta tb) (eOrV fe fg) := fun H0 ext reg en σ H rs Q w =>
  ha.seq rs (W := WrE C H0 ext reg σ H Q) w (fun _ q => q) (fun q => q) fun x en1 v reg1 H1 e1 r1 hv w1 => by
    cases x with
    | bool b =>
      cases hv
      refine ⟨b, rfl, ?_⟩
      cases b with
      | true =>
        show Q (.bl true) H1
        exact w1 _ reg1 H1 e1 r1 (.bl true)
      | false =>
        show tb σ H1 Q
        exact hb H0 ext reg1 en1 σ H1 r1 Q (WrE.mv w1 e1)
    | _ => exact w1.elim
/-! ### arguments -/
def WrEA (C : Cn) (H0 : Hp) (ext : AS) (reg : Nat → AS) (σ : L2.St) (H : Hp) (Q : List V → Hp → Prop) : R (List PD × En) → Prop
  | .ok (ds, en') => ∀ vs reg' H2, Ex (hid H (own ext reg)) (hid H2 (own ext reg')) → RS C.K H0 ext reg' en' σ H2 → RpA C.K (hid H2 (own ext reg')) vs ds → Q vs H2
  | .exc c => ∀ H2, Ex H0 H2 → LamX.Tabs Tabl.T H2 → C.E (.ref (C.cl c)) none H2
  | .stuck => False
def EdEA (C : Cn) (ta : TA) (f : En → R (List PD × En)) : Prop := ∀ (H0 : Hp) (ext : AS) (reg : Nat → AS) (en : En) (σ : L2.St) (H : Hp), RS C.K H0 ext reg en σ H → ∀ Q, WrEA C H0 ext reg σ H Q (f en) → ta σ H Q
def eaS (fa : En → R (List PD)) : En → R (List PD × En) := fun en => (fa en).bind fun ds => .ok (ds, en)
def eaNil : En → R (List PD × En) := fun en => .ok ([], en)
def eaCons (fe : En → R (PD × En)) (fr : En → R (List PD × En)) : En → R (List PD × En) := fun en => (fe en).bind fun p => (fr p.2).bind fun q => .ok (p.1 :: q.1, q.2)
theorem eea_S {t : TA} {fa : En → R (List PD)} (h : EdA C t fa) : EdEA C t (eaS fa) := fun H0 ext reg en σ H rs Q w =>
  h.seq rs (W := WrEA C H0 ext reg σ H Q) w (fun _ q H2 e2 => q H2 (rs.le.trans e2.toEx) (e2.t rs.tb)) (fun q => q) fun ds vs H2 e2 r2 h2 w2 => w2 vs reg H2 e2.toEx.hid r2 h2
theorem eea_nil : EdEA C tNil eaNil := fun H0 ext reg en σ H rs Q w => w [] reg H (Ex.refl _) rs .nil
theorem eea_cons {t : TA} {fr : En → R (List PD × En)} (ha : EdE C ta fe) (hb : EdEA C t fr) : EdEA C (tCons ta t) (eaCons fe fr) := fun H0 ext reg en σ H rs Q w =>
  ha.seq rs (W := WrEA C H0 ext reg σ H Q) w (fun _ q => q) (fun q => q) fun x en1 v reg1 H1 e1 r1 hv w1 => hb H0 ext reg1 en1 σ H1 r1 _ (by
    dsimp only at w1
    generalize fr en1 = z at w1 ⊢
    cases z with
    | ok p => exact fun vs reg2 H2 e2 r2 hvs => w1 (v :: vs) reg2 H2 (e1.trans e2) r2 (.cons (hv.mono e2.le) hvs)
    | exc c => exact w1
    | stuck => exact w1)
def eN (g : List PD → R PD) (fa : En → R (List PD × En)) : En → R (PD × En) := fun en => (fa en).bind fun p => (g p.1).bind fun z => .ok (z, p.2)
theorem EdEA.seq {β : Type} {t : TA} {f : En → R (List PD × En)} (h : EdEA C t f) (rs : RS C.K H0 ext reg en σ H) {Q : List V → Hp → Prop} {W : R β → Prop} {g : List PD × En → R β} (w : W ((f en).bind g)) (hx : ∀ c, W (.exc c) → ∀ H2, Ex H0 H2 → LamX.Tabs Tabl.T H2 → C.E (.ref (C.cl c)) none H2) (hs : ¬ W .stuck)
    (k : ∀ ds en1 vs reg1 H1, Ex (hid H (own ext reg)) (hid H1 (own ext reg1)) → RS C.K H0 ext reg1 en1 σ H1 → RpA C.K (hid H1 (own ext reg1)) vs ds → W (g (ds, en1)) → Q vs H1) : t σ H Q := h H0 ext reg en σ H rs Q (by
  generalize f en = x at w ⊢
  cases x with
  | ok p => exact fun v reg1 H1 e1 r1 hv => k p.1 p.2 v reg1 H1 e1 r1 hv w
  | exc c => exact hx c w
  | stuck => exact hs w)
theorem RpA.la {K : PySem.W.Frag} {Hs H : Hp} : ∀ {vs : List V} {ds : List PD}, RpA K Hs vs ds → RpLA K Hs H vs ds
  | _, _, .nil => .nil
  | _, _, .cons h r => .cons (.s h) (RpA.la r)
theorem ee_cb {t : TA} {f : En → R (List PD × En)} {r : List V → Hp → VK → Prop} {g : List PD → R PD} (hr : OpN C r g) (ha : EdEA C t f) : EdE C (tCB r t) (eN g f) := fun H0 ext reg en σ H rs Q w =>
  ha.seq rs (W := WrE C H0 ext reg σ H Q) w (fun _ q => q) (fun q => q) fun ds en1 vs reg1 H1 e1 r1 hv w1 => hr ext (own ext reg1) H1 vs ds Q (fun a z => .inl z) (fun a z => r1.there z) hv.la (w1.s e1 r1)
theorem ee_tup {t : TA} {f : En → R (List PD × En)} (ha : EdEA C t f) : EdE C (tTup t) (eN mkT f) := fun H0 ext reg en σ H rs Q w =>
  ha.seq rs (W := WrE C H0 ext reg σ H Q) w (fun _ q => q) (fun q => q) fun ds en1 vs reg1 H1 e1 r1 hv w1 => (w1.s e1 r1).newT (fun a z => r1.there z) hv
theorem ee_lst {t : TA} {f : En → R (List PD × En)} (ha : EdEA C t f) : EdE C (tLst t) (eN mkL f) := fun H0 ext reg en σ H rs Q w =>
  ha.seq rs (W := WrE C H0 ext reg σ H Q) w (fun _ q => q) (fun q => q) fun ds en1 vs reg1 H1 e1 r1 hv w1 => (w1.s e1 r1).newL (fun a z => r1.there z) hv
theorem ee_callN {n : Nat} {F : List PD → R PD} {t : TA} {f : En → R (List PD × En)} (hn : ∀ en p, f en = .ok p → p.1.length = n) (ha : EdEA C t f) : EdE C (tCall (spF C.K C.cl n F) [] C.E t) (eN F f) := fun H0 ext reg en σ H rs Q w => ha H0 ext reg en σ H rs _ (by
  unfold eN at w
  cases e : f en with
  | ok p =>
    rw [e] at w
    intro vs reg1 H1 e1 r1 hv
    exact ⟨own ext reg1, p.1, by rw [List.append_nil, hv.length, hn en p e], r1.tb, fun a z => r1.so z, by rw [List.append_nil]; exact hv, WrE.s w e1 r1⟩
  | exc c => rw [e] at w; exact w
  | stuck => rw [e] at w; exact w.elim)
/-! ### tests -/
def WrTE (C : Cn) (H0 : Hp) (ext : AS) (reg : Nat → AS) (σ : L2.St) (H : Hp) (Q : Bool → Hp → Prop) : R (Bool × En) → Prop
  | .ok (b, en') => ∀ reg' H2, Ex (hid H (own ext reg)) (hid H2 (own ext reg')) → RS C.K H0 ext reg' en' σ H2 → Q b H2
  | .exc c => ∀ H2, Ex H0 H2 → LamX.Tabs Tabl.T H2 → C.E (.ref (C.cl c)) none H2
  | .stuck => False
def EdTE (C : Cn) (tt : TT) (f : En → R (Bool × En)) : Prop := ∀ (H0 : Hp) (ext : AS) (reg : Nat → AS) (en : En) (σ : L2.St) (H : Hp), RS C.K H0 ext reg en σ H → ∀ Q, WrTE C H0 ext reg σ H Q (f en) → tt σ H Q
theorem EdTE.seq {β : Type} {t : TT} {f : En → R (Bool × En)} (h : EdTE C t f) (rs : RS C.K H0 ext reg en σ H) {Q : Bool → Hp → Prop} {W : R β → Prop} {g : Bool × En → R β} (w : W ((f en).bind g)) (hx : ∀ c, W (.exc c) → ∀ H2, Ex H0 H2 → LamX.Tabs Tabl.T H2 → C.E (.ref (C.cl c)) none H2) (hs : ¬ W .stuck)
    (k : ∀ b en1 reg1 H1, Ex (hid H (own ext reg)) (hid H1 (own ext reg1)) → RS C.K H0 ext reg1 en1 σ H1 → W (g (b, en1)) → Q b H1) : t σ H Q := h H0 ext reg en σ H rs Q (by
  generalize f en = x at w ⊢
  cases x with
  | ok p => exact fun reg1 H1 e1 r1 => k p.1 p.2 reg1 H1 e1 r1 w
  | exc c => exact hx c w
  | stuck => exact hs w)
theorem WrTE.mv {Q : Bool → Hp → Prop} {r : R (Bool × En)} (w : WrTE C H0 ext reg σ H Q r) (e : Ex (hid H (own ext reg)) (hid H2 (own ext reg2))) : WrTE C H0 ext reg2 σ H2 Q r := by
  cases r with
  | ok p => exact fun reg' H3 e3 r3 => w reg' H3 (e.trans e3) r3
  | exc c => exact w
  | stuck => exact w
variable {t u : TT} {ft fu : En → R Bool} {gt gu : En → R (Bool × En)}
def tS (ft : En → R Bool) : En → R (Bool × En) := fun en => (ft en).bind fun b => .ok (b, en)
def tE (fe : En → R (PD × En)) : En → R (Bool × En) := fun en => (fe en).bind fun p => (asB p.1).bind fun b => .ok (b, p.2)
def tNo (f : En → R (Bool × En)) : En → R (Bool × En) := fun en => (f en).bind fun p => .ok (!p.1, p.2)
def tAn (f g : En → R (Bool × En)) : En → R (Bool × En) := fun en => (f en).bind fun p => match p.1 with
  | true => g p.2
  | false => .ok (false, p.2)
def tO (f g : En → R (Bool × En)) : En → R (Bool × En) := fun en => (f en).bind fun p => match p.1 with
  | true => .ok (true, p.2)
  | false => g p.2
theorem te_S (h : EdT C t ft) : EdTE C t (tS ft) := fun H0 ext reg en σ H rs Q w =>
  h.seq rs (W := WrTE C H0 ext reg σ H Q) w (fun _ q H2 e2 => q H2 (rs.le.trans e2.toEx) (e2.t rs.tb)) (fun q => q) fun b H2 e2 r2 w2 => w2 reg H2 e2.toEx.hid r2
theorem te_E (h : EdE C te fe) : EdTE C (tTest te) (tE fe) := fun H0 ext reg en σ H rs Q w =>
  h.seq rs (W := WrTE C H0 ext reg σ H Q) w (fun _ q => q) (fun q => q) fun x en1 v reg1 H1 e1 r1 hv w1 => by
    cases x with
    | bool b => cases hv; exact ⟨b, rfl, w1 reg1 H1 e1 r1⟩
    | _ => exact w1.elim
theorem te_B (h : EdE C te fe) : EdTE C (tB te) (tE fe) := te_E h
theorem te_not (h : EdTE C t gt) : EdTE C (tNot t) (tNo gt) := fun H0 ext reg en σ H rs Q w =>
  h.seq rs (W := WrTE C H0 ext reg σ H Q) w (fun _ q => q) (fun q => q) fun b en1 reg1 H1 e1 r1 w1 => w1 reg1 H1 e1 r1
theorem te_and (h : EdTE C t gt) (h' : EdTE C u gu) : EdTE C (tAnd t u) (tAn gt gu) := fun H0 ext reg en σ H rs Q w =>
  h.seq rs (W := WrTE C H0 ext reg σ H Q) w (fun _ q => q) (fun q => q) fun b en1 reg1 H1 e1 r1 w1 => by
    cases b with
    | true =>
      show u σ H1 Q
      exact h' H0 ext reg1 en1 σ H1 r1 Q (WrTE.mv w1 e1)
    | false =>
      show Q false H1
      exact w1 reg1 H1 e1 r1
theorem te_or (h : EdTE C t gt) (h' : EdTE C u gu) : EdTE C (tOr t u) (tO gt gu) := fun H0 ext reg en σ H rs Q w =>
  h.seq rs (W := WrTE C H0 ext reg σ H Q) w (fun _ q => q) (fun q => q) fun b en1 reg1 H1 e1 r1 w1 => by
    cases b with
    | true =>
      show Q true H1
      exact w1 reg1 H1 e1 r1
    | false =>
      show u σ H1 Q
      exact h' H0 ext reg1 en1 σ H1 r1 Q (WrTE.mv w1 e1)
/-! ### statements -/
variable {ts us : TS} {f g : En → R Fl}
def sIfE (ft : En → R (Bool × En)) (f g : En → R Fl) : En → R Fl := fun en => (ft en).bind fun p => match p.1 with
  | true => f p.2
  | false => g p.2
theorem es_ifE (h : EdTE C t gt) (h1 : Es C ts f) (h2 : Es C us g) : Es C (tIfS t ts us) (sIfE gt f g) := fun H0 ext reg en σ H rs D w =>
  h.seq rs (W := WS C H0 ext D) w (fun _ q => q) (fun q => q) fun b en1 reg1 H1 e1 r1 w1 => by
    cases b with
    | true => exact h1 H0 ext reg1 en1 σ H1 r1 D w1
    | false => exact h2 H0 ext reg1 en1 σ H1 r1 D w1
def sRetE (fe : En → R (PD × En)) : En → R Fl := fun en => (fe en).bind fun p => .ok (.rt p.1)
theorem es_retE (h : EdE C te fe) : Es C (tRet te) (sRetE fe) := fun H0 ext reg en σ H rs D w =>
  h.seq rs (W := WS C H0 ext D) w (fun _ q => q) (fun q => q) fun x en1 v reg1 H1 e1 r1 hv w1 => w1 v H1 r1.le r1.tb (hv.mono ((Ex.refl H1).hidLess fun a z => .inl z).le)
/-- a method returns -/
def sRetM (fe : En → R (PD × En)) : En → R Fl := fun en => (fe en).bind fun p => .ok (.rm p.1 p.2)
theorem es_retM (h : EdE C te fe) : Es C (tRet te) (sRetM fe) := fun H0 ext reg en σ H rs D w =>
  h.seq rs (W := WS C H0 ext D) w (fun _ q => q) (fun q => q) fun x en1 v reg1 H1 e1 r1 hv w1 => w1 v reg1 σ H1 r1 hv
/-- .. raises -/
def sRaiseM (c : Str) : En → R Fl := fun en => .ok (.xm c en)
theorem es_raiseM (c : Str) : Es C (fun _ σ H => (fun (_ : L2.St) (H : Hp) (Q : XK) => Q (.ref (C.cl c)) none H) σ H fun cls d H' => (fun cls d (_ : L2.St) H => C.E cls d H) cls d σ H') (sRaiseM c) := fun H0 ext reg en σ H rs D w => w reg σ H rs
/-- .. calls what may raise -/
def sDropX (fa : En → R PD) : En → R Fl := fun en => match fa en with
  | .ok _ => .ok (.nx en)
  | .exc c => .ok (.xm c en)
  | .stuck => .stuck
theorem es_dropX (h : EdS C te fa) : Es C (tDrop te) (sDropX fa) := fun H0 ext reg en σ H rs D w => h H0 ext reg en σ H rs _ (by
  unfold sDropX at w
  generalize fa en = x at w ⊢
  cases x with
  | ok d => exact fun v H2 e2 hv => w reg σ H2 (rs.ex e2)
  | exc c => exact fun H2 e2 => w reg σ H2 (rs.ex e2)
  | stuck => exact w)
def sAppE (i : Nat) (fe : En → R (PD × En)) : En → R Fl := fun en => match en[i]? with
  | some (.ol _) => (fe en).bind fun p => match p.2[i]? with
    | some (.ol ds) => if ds.length + 1 ≤ szN then .ok (.nx (p.2.set i (.ol (ds ++ [p.1])))) else .stuck
    | _ => .stuck
  | _ => .stuck
theorem es_appE {i : Nat} (h : EdE C te fe) : Es C (tDrop (tBM C.K "list" rAppend (tVar i) (tCons te tNil))) (sAppE i fe) := fun H0 ext reg en σ H rs D w => by
  unfold sAppE at w
  cases e : en[i]? with
  | none => rw [e] at w; exact w.elim
  | some sv =>
    rw [e] at w
    cases sv with
    | ol ds0 =>
      obtain ⟨p, xs, h1, h2, h3, h4⟩ := rs.at e
      refine ⟨.ref p, h1, .inl ⟨rfl, xs, SqL.of h3⟩, h.seq rs (W := WS C H0 ext D) w (fun _ q => q) (fun q => q) fun d en1 v reg1 H1 e1 r1 hv w1 => ?_⟩
      dsimp only at w1
      cases e' : en1[i]? with
      | none => rw [e'] at w1; exact w1.elim
      | some sv' =>
        rw [e'] at w1
        cases sv' with
        | ol ds =>
          obtain ⟨p', xs', h1', h2', h3', h4'⟩ := r1.at e'
          have ep : p' = p := by
            rw [h1] at h1'
            cases h1'
            rfl
          subst ep
          dsimp only at w1
          split at w1
          · rename_i hl
            refine ⟨p', xs', v, rfl, rfl, h3', sz_lt (by rw [h4'.length]; omega), w1 _ _ _ (r1.wr (sv := .ol (ds ++ [d])) rfl ⟨_, h3', rfl⟩ h2' h1' ?_)⟩
            exact ⟨p', xs' ++ [v], rfl, h2', upd_same, h4'.app (.cons hv .nil)⟩
          · exact w1.elim
        | _ => exact w1.elim
    | _ => exact w.elim
def loopWE (ft : En → R (Bool × En)) (body : En → R Fl) : Nat → En → R Fl
  | 0, _ => .stuck
  | n + 1, en => (ft en).bind fun p => match p.1 with
    | false => .ok (.nx p.2)
    | true => (body p.2).bind fun fl => match fl with
      | .nx e2 => loopWE ft body n e2
      | .ct e2 => loopWE ft body n e2
      | .bk e2 => .ok (.nx e2)
      | .rt d => .ok (.rt d)
      | .rm d e2 => .ok (.rm d e2)
      | .rn d e2 => .ok (.rn d e2)
      | .xm d e2 => .ok (.xm d e2)
      | .pr i d e2 => .ok (.pr i d e2)
def sWhileE (fuel : Nat) (ft : En → R (Bool × En)) (body : En → R Fl) : En → R Fl := loopWE ft body fuel
theorem es_whileE {tb : TS} {body : En → R Fl} (fuel : Nat) (ht : EdTE C t gt) (hb : Es C tb body) : Es C (tWhile t tb) (sWhileE fuel gt body) := fun H0 ext reg en σ H rs D w => by
  refine ⟨fun m σ' H' => ∃ reg' en', RS C.K H0 ext reg' en' σ' H' ∧ WS C H0 ext D (loopWE gt body m en'), ⟨fuel, reg, en, rs, w⟩, ?_⟩
  rintro m σ' H' ⟨reg', en', r', w'⟩
  cases m with
  | zero => exact w'.elim
  | succ n =>
    unfold loopWE at w'
    refine ht.seq r' (W := WS C H0 ext D) w' (fun _ q => q) (fun q => q) fun b en1 reg1 H2 e2 r2 w2 => ?_
    cases b with
    | false => exact w2 reg1 σ' H2 r2
    | true =>
      refine ⟨fun σ3 H3 => ∃ reg3 en3, RS C.K H0 ext reg3 en3 σ3 H3 ∧ WS C H0 ext D (loopWE gt body n en3), fun σ3 H3 q => ⟨n, Nat.lt_succ_self n, q⟩, hb H0 ext reg1 en1 σ' H2 r2 _ ?_⟩
      dsimp only at w2
      cases eb : body en1 with
      | exc c => rw [eb] at w2; exact w2
      | stuck => rw [eb] at w2; exact w2.elim
      | ok fl =>
        rw [eb] at w2
        simp only [R.bind_ok] at w2
        cases fl with
        | nx e3 => exact fun reg3 σ3 H3 r3 => ⟨reg3, e3, r3, w2⟩
        | ct e3 => exact fun reg3 σ3 H3 r3 => ⟨reg3, e3, r3, w2⟩
        | bk e3 => exact fun reg3 σ3 H3 r3 => w2 reg3 σ3 H3 r3
        | rt d => exact fun v H3 q tb h3 => w2 v H3 q tb h3
        | rm d e3 => exact w2
        | rn d e3 => exact w2
        | xm d e3 => exact w2
        | pr i d e3 => exact w2
/-! ### with what the object is when it raises -/
inductive RX where
  | ok (d : PD) (en : En)
  | exc (c : Str) (en : En)
  | stuck
def WrX (C : Cn) (H0 : Hp) (ext : AS) (reg : Nat → AS) (σ : L2.St) (H : Hp) (Q : VK) : RX → Prop
  | .ok d en' => ∀ v reg' H2, Ex (hid H (own ext reg)) (hid H2 (own ext reg')) → RS C.K H0 ext reg' en' σ H2 → Rp C.K (hid H2 (own ext reg')) v d → Q v H2
  | .exc c en' => ∀ reg' H2, Ex (hid H (own ext reg)) (hid H2 (own ext reg')) → RS C.K H0 ext reg' en' σ H2 → C.E (.ref (C.cl c)) none H2
  | .stuck => False
def EdX (C : Cn) (te : TE) (f : En → RX) : Prop := ∀ (H0 : Hp) (ext : AS) (reg : Nat → AS) (en : En) (σ : L2.St) (H : Hp), RS C.K H0 ext reg en σ H → ∀ Q, WrX C H0 ext reg σ H Q (f en) → te σ H Q
def eX (f : En → RX) : En → R (PD × En) := fun en => match f en with
  | .ok d e => .ok (d, e)
  | .exc c _ => .exc c
  | .stuck => .stuck
theorem ee_X {fx : En → RX} (h : EdX C te fx) : EdE C te (eX fx) := fun H0 ext reg en σ H rs Q w => h H0 ext reg en σ H rs Q (by
  unfold eX at w
  generalize fx en = x at w ⊢
  cases x with
  | ok d e => exact w
  | exc c e => exact fun reg' H2 e2 r2 => w H2 r2.le r2.tb
  | stuck => exact w)
def eTld (cs : List Str) (f : En → RX) : En → R (PD × En) := fun en => match f en with
  | .ok d e => .ok (d, e)
  | .exc c e => if c ∈ cs then .ok (.str c, e) else .stuck
  | .stuck => .stuck
theorem ee_told {cs : List Str} {tb : XK → TE} {fx : En → RX} (h : ∀ E, EdX ⟨C.K, E, C.cl⟩ (tb E) fx) : EdE C (tTold C.cl cs tb) (eTld cs fx) := fun H0 ext reg en σ H rs Q w => by
  refine ⟨rs.tb, fun H1 e1 t1 => ?_⟩
  have x1 := xt_lam e1 t1
  refine h (eTold C.cl cs Q) H0 ext reg en σ H1 (rs.ex x1) Q ?_
  unfold eTld at w
  generalize fx en = r at w ⊢
  cases r with
  | ok d e => exact fun v reg' H2 e2 r2 hv => w v reg' H2 (x1.toEx.hid.trans e2) r2 hv
  | exc c e =>
    dsimp only at w
    split at w
    · rename_i hc
      exact fun reg' H2 e2 r2 => ⟨c, hc, rfl, rfl, r2.tb, fun H3 e3 => w _ reg' H3 ((x1.toEx.hid.trans e2).trans e3.toEx.hid) (r2.ex e3) (.str _)⟩
    · exact w.elim
  | stuck => exact w.elim
/-! ### o.m(..) -/
def xMeth (i : Nat) (c : Str) (ns : List Str) (F : List FV → List PD → RO) (fe : En → R (List PD × En)) : En → RX := fun en => match en[i]? with
  | some (.ob _ c' ns' _) => if c' = c ∧ ns' = ns then match fe en with
      | .ok (ds, en1) => (match en1[i]? with
        | some (.ob m c'' ns'' o) => if c'' = c ∧ ns'' = ns then match F o ds with
            | .ok d o' => .ok d (en1.set i (.ob m c ns o'))
            | .exc x o' => .exc x (en1.set i (.ob m c ns o'))
            | .stuck => .stuck
          else .stuck
        | _ => .stuck)
      | _ => .stuck
    else .stuck
  | _ => .stuck
theorem uni_own {i : Nat} : uni (own ext (drp reg i)) (reg i) = own ext reg := by
  funext a
  apply propext
  constructor
  · rintro (z | z)
    · exact own_drp z
    · exact .inr ⟨i, z⟩
  · rintro (z | ⟨j, z⟩)
    · exact .inl (.inl z)
    · by_cases hj : j = i
      · exact .inr (hj ▸ z)
      · exact .inl (.inr ⟨j, hj, z⟩)
theorem uni_upR {i : Nat} {r' : AS} : uni (own ext (drp reg i)) r' = own ext (upR reg i r') := by
  funext a
  apply propext
  constructor
  · rintro ((z | ⟨j, hj, z⟩) | z)
    · exact .inl z
    · exact .inr ⟨j, .inl ⟨hj, z⟩⟩
    · exact .inr ⟨i, .inr ⟨rfl, z⟩⟩
  · rintro (z | ⟨j, ⟨hj, z⟩ | ⟨hj, z⟩⟩)
    · exact .inl (.inl z)
    · exact .inl (.inr ⟨j, hj, z⟩)
    · exact .inr z
/-- the call of what has the object first -/
theorem RS.spO {K : PySem.W.Frag} {cl : Str → Addr} {E : XK} (r1 : RS K H0 ext reg en σ H) {i n : Nat} {m : Bool} {c : Str} {ns : List Str} {o : List FV} {F : List FV → List PD → RO} {us : List V} {ds : List PD} {p : Addr} (e : en[i]? = some (.ob m c ns o)) (hp : σ[i]? = some (some (.ref p))) (hl : us.length = n) (hu : RpA K (hid H (own ext reg)) us ds)
    (w : match F o ds with
      | .ok d o' => ∀ v reg' H2, Ex (hid H (own ext reg)) (hid H2 (own ext reg')) → RS K H0 ext reg' (en.set i (.ob m c ns o')) σ H2 → Rp K (hid H2 (own ext reg')) v d → Q v H2
      | .exc x o' => ∀ reg' H2, Ex (hid H (own ext reg)) (hid H2 (own ext reg')) → RS K H0 ext reg' (en.set i (.ob m c ns o')) σ H2 → E (.ref (cl x)) none H2
      | .stuck => False) : spM K cl c ns n F (.ref p :: us) H Q E := by
  obtain ⟨p', dx, vs, L, h1, h2, h3, h4, h5, hlen, h6⟩ := r1.atO e
  have ep : p' = p := by
    rw [hp] at h1
    cases h1
    rfl
  subst ep
  refine ⟨own ext (drp reg i), reg i, p', o, us, ds, rfl, hl, r1.tb, fun a z => r1.so (own_drp z), fun a z => (r1.rg i a z).2, fun a z y => ?_, ?_, by rw [uni_own]; exact hu, ?_⟩
  · rcases y with y | ⟨j, hj, y⟩
    · exact r1.noext z y
    · exact hj (r1.dj j i a y z)
  · rw [uni_own]
    exact ⟨p', dx, vs, L, rfl, (fun z => nomatch z), h3, h4, h5, h6⟩
  · have key : ∀ r' o' H2, MtS K c ns (own ext (drp reg i)) (reg i) p' H r' o' H2 → Ex (hid H (own ext reg)) (hid H2 (own ext (upR reg i r'))) ∧ RS K H0 ext (upR reg i r') (en.set i (.ob m c ns o')) σ H2 := fun r' o' H2 M => by
      have k1 : ∀ a o, ¬ reg i a → H a = some o → isTb o = false → H2 a = some o := fun a o na ha n => M.k.k a o (by rw [hid_at na]; exact ha) n
      refine ⟨r1.chg_up k1 M.r1, r1.chg (lt_of_some e) rfl h1 k1 M.t M.r1 M.r2 ?_⟩
      obtain ⟨q, dx', vs', L', g1, g2, g3, g4, g5, g6⟩ := M.s
      cases g1
      rw [uni_upR] at g6
      exact ⟨p', dx', vs', L', rfl, h2, g3, g4, g5, g6⟩
    generalize F o ds = z at w ⊢
    cases z with
    | ok d o' =>
      intro v r' H2 M hv
      obtain ⟨a1, a2⟩ := key r' o' H2 M
      exact w v _ H2 a1 a2 (by rw [uni_upR] at hv; exact hv)
    | exc x o' =>
      intro r' H2 M
      obtain ⟨a1, a2⟩ := key r' o' H2 M
      exact w _ H2 a1 a2
    | stuck => exact w.elim
theorem ex_meth {i n : Nat} {c m : Str} {ns : List Str} {F : List FV → List PD → RO} {tA : TA} {fe : En → R (List PD × En)} (hm : m ∉ ns) (hn : ∀ en p, fe en = .ok p → p.1.length = n) (ha : EdEA C.n tA fe) : EdX C (tMeth (Tabl.C c) m (spM C.K C.cl c ns n F) [] C.E (tVar i) tA) (xMeth i c ns F fe) := fun H0 ext reg en σ H rs Q w => by
  unfold xMeth at w
  cases e : en[i]? with
  | none => rw [e] at w; exact w.elim
  | some sv =>
    rw [e] at w
    cases sv with
    | ob m0 c' ns' o0 =>
      dsimp only at w
      split at w
      case isFalse => exact w.elim
      rename_i hc
      obtain ⟨rfl, rfl⟩ := hc
      obtain ⟨p, dx, vs, L, h1, h2, h3, h4, h5, hl, h6⟩ := rs.atO e
      refine ⟨_, h1, p, dx, vs, rfl, h4, lookup_no h5 hm, ha H0 ext reg en σ H rs _ ?_⟩
      cases ef : fe en with
      | exc x => rw [ef] at w; exact w.elim
      | stuck => rw [ef] at w; exact w.elim
      | ok z =>
        obtain ⟨ds, en1⟩ := z
        rw [ef] at w
        dsimp only at w
        intro us reg1 H1 e1 r1 hu
        split at w
        · rename_i m1 c'' ns'' o ee
          split at w
          case isFalse => exact w.elim
          rename_i hc
          obtain ⟨rfl, rfl⟩ := hc
          rw [List.append_nil]
          refine r1.spO ee h1 (by rw [hu.length]; exact hn en _ ef) hu ?_
          generalize F o ds = z at w ⊢
          cases z with
          | ok d o' => exact fun v reg' H2 e2 r2 hv => w v reg' H2 (e1.trans e2) r2 hv
          | exc x o' => exact fun reg' H2 e2 r2 => w reg' H2 (e1.trans e2) r2
          | stuck => exact w
        · exact w.elim
    | _ => exact w.elim
/-- f(o, ..), f has the object first -/
def xCallO (i : Nat) (c : Str) (ns : List Str) (F : List FV → List PD → RO) (fa : En → R (List PD)) : En → RX := fun en => match en[i]? with
  | some (.ob m c' ns' o) => if c' = c ∧ ns' = ns then match fa en with
      | .ok ds => (match F o ds with
        | .ok d o' => .ok d (en.set i (.ob m c ns o'))
        | .exc x o' => .exc x (en.set i (.ob m c ns o'))
        | .stuck => .stuck)
      | _ => .stuck
    else .stuck
  | _ => .stuck
theorem ex_callO {i n : Nat} {c : Str} {ns : List Str} {F : List FV → List PD → RO} {tA : TA} {fa : En → R (List PD)} (hn : ∀ en ds, fa en = .ok ds → ds.length = n) (ha : EdA C.n tA fa) : EdX C (tCall (spM C.K C.cl c ns n F) [] C.E (tCons (tVar i) tA)) (xCallO i c ns F fa) := fun H0 ext reg en σ H rs Q w => by
  unfold xCallO at w
  cases e : en[i]? with
  | none => rw [e] at w; exact w.elim
  | some sv =>
    rw [e] at w
    cases sv with
    | ob m0 c' ns' o =>
      dsimp only at w
      split at w
      case isFalse => exact w.elim
      rename_i hc
      obtain ⟨rfl, rfl⟩ := hc
      obtain ⟨p, dx, vs, L, h1, h2, h3, h4, h5, hl, h6⟩ := rs.atO e
      refine ⟨_, h1, ha H0 ext reg en σ H rs _ ?_⟩
      cases ef : fa en with
      | exc x => rw [ef] at w; exact w.elim
      | stuck => rw [ef] at w; exact w.elim
      | ok ds =>
        rw [ef] at w
        dsimp only at w
        intro us H1 e1 hu
        show spM C.K C.cl c' ns' n F ((.ref p :: us) ++ []) H1 Q C.E
        rw [List.append_nil]
        refine (rs.ex e1).spO e h1 (by rw [hu.length]; exact hn en _ ef) hu ?_
        generalize F o ds = z at w ⊢
        cases z with
        | ok d o' => exact fun v reg' H2 e2 r2 hv => w v reg' H2 (e1.toEx.hid.trans e2) r2 hv
        | exc x o' => exact fun reg' H2 e2 r2 => w reg' H2 (e1.toEx.hid.trans e2) r2
        | stuck => exact w
    | _ => exact w.elim
/-! ### x = C(..) -/
theorem mk_sp {K : PySem.W.Frag} {cl : Str → Addr} {E : XK} {c : Str} {ns : List Str} {n : Nat} {F : List FV → List PD → RO} {us : List V} {ds : List PD} {x dx : Addr} {Q : VK} (r1 : RS K H0 ext reg en σ H) (hl : us.length = n) (hu : RpA K (hid H (own ext reg)) us ds) (nx : H x = none) (nd : H dx = none) (ne : dx ≠ x)
    (w : match F [] ds with
      | .ok .none o => ∀ r' H2, Xt H H2 → (∀ a, r' a → Nn H a) → (∀ a, r' a → So H2 a) → SlotOk K (hid H2 (uni (own ext reg) r')) H2 (some (.ref x)) r' (.ob false c ns o) → Q .non H2
      | .exc z _ => ∀ H2, Xt H H2 → E (.ref (cl z)) none H2
      | _ => False) : spM K cl c ns n F (.ref x :: us) (upd (upd H dx (.own x)) x (.ins (Tabl.C c) dx [])) Q E := by
  have nx2 : upd H dx (.own x) x = none := by rw [upd_ne (Ne.symm ne)]; exact nx
  have X1 : Xt H (upd H dx (.own x)) := Xt.new nd
  have X2 : Xt (upd H dx (.own x)) (upd (upd H dx (.own x)) x (.ins (Tabl.C c) dx [])) := Xt.new nx2
  have X : Xt H (upd (upd H dx (.own x)) x (.ins (Tabl.C c) dx [])) := X1.trans X2
  have nox : ¬ own ext reg x := r1.fresh nx
  refine ⟨own ext reg, fun a => a = x, x, [], us, ds, rfl, hl, X.t r1.tb, fun a z => (r1.ex X).so z, fun a z => ?_, fun a z y => nox (z ▸ y), ?_, ?_, ?_⟩
  · rw [z]; exact ⟨_, upd_same, rfl⟩
  · exact ⟨x, dx, [], [], rfl, (fun z => nomatch z), rfl, upd_same, rfl, .nil⟩
  · refine hu.mono (Ex.le ⟨fun a o h t => ?_⟩)
    obtain ⟨z, h⟩ := hid_some h
    have nax : a ≠ x := fun q => by rw [q, nx] at h; cases h
    rw [hid_at fun q => q.elim z nax]
    exact X.k a o h t
  · have key : ∀ r' o' H2, MtS K c ns (own ext reg) (fun a => a = x) x (upd (upd H dx (.own x)) x (.ins (Tabl.C c) dx [])) r' o' H2 → Xt H H2 ∧ ∀ a, r' a → Nn H a := fun r' o' H2 M => by
      refine ⟨⟨⟨fun a o h t => ?_⟩, fun _ => M.t⟩, fun a z => ?_⟩
      · have nax : a ≠ x := fun q => by rw [q, nx] at h; cases h
        exact M.k.k a o (by rw [hid_at (Z := fun a => a = x) nax]; exact X.k a o h t) t
      · rcases M.r1 a z with q | q
        · rw [q]; exact .of nx
        · exact X.toEx.nn q
    generalize F [] ds = z at w ⊢
    cases z with
    | ok d o' =>
      cases d with
      | none =>
        intro v r' H2 M hv
        obtain ⟨a1, a2⟩ := key r' o' H2 M
        cases hv
        exact w r' H2 a1 a2 M.r2 M.s
      | _ => exact w.elim
    | exc z o' =>
      intro r' H2 M
      exact w H2 (key r' o' H2 M).1
    | stuck => exact w.elim
def sMake (i : Nat) (c : Str) (ns : List Str) (F : List FV → List PD → RO) (fa : En → R (List PD)) : En → R Fl := fun en => (fa en).bind fun ds => match F [] ds with
  | .ok .none o => if i < en.length then .ok (.nx (en.set i (.ob false c ns o))) else .stuck
  | .exc x _ => .exc x
  | _ => .stuck
theorem es_make {i n : Nat} {c : Str} {ns : List Str} {F : List FV → List PD → RO} {tA : TA} {fa : En → R (List PD)} (hn : ∀ en ds, fa en = .ok ds → ds.length = n) (ha : EdA C tA fa) : Es C (tAsg (tMake (Tabl.C c) (spM C.K C.cl c ns n F) [] C.E tA) (gName i)) (sMake i c ns F fa) := fun H0 ext reg en σ H rs D w => ha H0 ext reg en σ H rs _ (by
  unfold sMake at w
  cases ef : fa en with
  | exc c => rw [ef] at w; exact WS.exc w rs.le rs.tb
  | stuck => rw [ef] at w; exact w.elim
  | ok ds =>
    rw [ef] at w
    simp only [R.bind_ok] at w
    intro us H1 e1 hu x dx nx nd ne
    have r1 := rs.ex e1
    rw [List.append_nil]
    refine mk_sp r1 (by rw [hu.length]; exact hn en ds ef) hu nx nd ne ?_
    generalize F [] ds = z at w ⊢
    cases z with
    | ok d o =>
      cases d with
      | none =>
        dsimp only at w
        split at w
        · rename_i hi
          intro r' H2 X k2 k3 s
          refine ⟨rfl, w _ _ _ (r1.newR (r' := r') hi rfl (fun a o h t => X.k a o h t) (X.t r1.tb) k2 k3 ?_)⟩
          obtain ⟨p, dx', vs, L, g1, g2, g3, g4, g5, g6⟩ := s
          refine ⟨p, dx', vs, L, g1, g2, g3, g4, g5, g6.mono ((Ex.refl H2).hidLess fun a z => ?_).le fun _ _ _ z _ => z⟩
          exact (upR_own z).imp (fun z => z) fun z => z
        · exact w.elim
      | _ => exact w.elim
    | exc z o => exact WS.exc w r1.le r1.tb
    | stuck => exact w.elim)
/-- C(..) that is refused -/
def dMakeX (F : List FV → List PD → RO) (fa : En → R (List PD)) : En → R PD := fun en => (fa en).bind fun ds => match F [] ds with
  | .exc x _ => .exc x
  | _ => .stuck
theorem ed_makeX {n : Nat} {c : Str} {ns : List Str} {F : List FV → List PD → RO} {tA : TA} {fa : En → R (List PD)} (hn : ∀ en ds, fa en = .ok ds → ds.length = n) (ha : EdA C tA fa) : EdS C (tMake (Tabl.C c) (spM C.K C.cl c ns n F) [] C.E tA) (dMakeX F fa) := fun H0 ext reg en σ H rs Q w => ha H0 ext reg en σ H rs _ (by
  unfold dMakeX at w
  cases ef : fa en with
  | exc c => rw [ef] at w; exact w
  | stuck => rw [ef] at w; exact w.elim
  | ok ds =>
    rw [ef] at w
    simp only [R.bind_ok] at w
    intro us H1 e1 hu x dx nx nd ne
    rw [List.append_nil]
    refine mk_sp (rs.ex e1) (by rw [hu.length]; exact hn en ds ef) hu nx nd ne ?_
    generalize F [] ds = z at w ⊢
    cases z with
    | ok d o => exact w.elim
    | exc z o => exact fun H2 e2 => w H2 (e1.trans e2)
    | stuck => exact w.elim)
end
end Dn

/-! comprehensions whose elements change objects. -/
namespace Dn
open PySem L2
variable [Tabl]
def delH (H : Hp) (D : Addr) : Hp := fun a => if a = D then none else H a
theorem delH_ne {H : Hp} {D a : Addr} (h : a ≠ D) : delH H D a = H a := if_neg h
theorem delH_no {H : Hp} {D : Addr} : delH H D D = none := if_pos rfl
theorem delH_some {H : Hp} {D a : Addr} {o : HO} (h : delH H D a = some o) : a ≠ D ∧ H a = some o := by
  unfold delH at h
  split at h
  · cases h
  · rename_i hn
    exact ⟨hn, h⟩
theorem delH_ex {H : Hp} {D : Addr} : Ex (delH H D) H := Ex.of fun a o h => (delH_some h).2
theorem delH_upd {H : Hp} {D : Addr} {o : HO} : delH (upd H D o) D = delH H D := by
  funext a
  by_cases ha : a = D
  · rw [ha, delH_no, delH_no]
  · rw [delH_ne ha, delH_ne ha, upd_ne ha]
theorem upd_delH {H : Hp} {D : Addr} {o : HO} (h : H D = some o) : upd (delH H D) D o = H := by
  funext a
  by_cases ha : a = D
  · rw [ha, upd_same, h]
  · rw [upd_ne ha, delH_ne ha]
theorem delH_tabs {T : List (Addr × Str)} {H : Hp} {D : Addr} {xs : List V} (h : H D = some (.lst xs)) (t : LamX.Tabs T H) : LamX.Tabs T (delH H D) := tabs_wr t h rfl fun a ha => delH_ne ha
abbrev exD (ext : AS) (D : Addr) : AS := fun a => ext a ∨ a = D
section
variable {K : PySem.W.Frag} {H0 H G : Hp} {ext : AS} {reg : Nat → AS} {en : En} {σ : L2.St} {D : Addr} {xs : List V}
theorem hid_delH : hid H (own (exD ext D) reg) = hid (delH H D) (own ext reg) := by
  funext a
  by_cases ha : a = D
  · rw [hid_no (.inl (.inr ha))]
    by_cases hz : own ext reg a
    · rw [hid_no hz]
    · rw [hid_at hz, ha, delH_no]
  · by_cases hz : own ext reg a
    · rw [hid_no hz, hid_no (by
        rcases hz with hz | hz
        · exact .inl (.inl hz)
        · exact .inr hz)]
    · rw [hid_at hz, delH_ne ha, hid_at fun z => by
        rcases z with (z | z) | z
        · exact hz (.inl z)
        · exact ha z
        · exact hz (.inr z)]
/-- the new list is a stranger's -/
theorem RS.inD (r : RS K H0 ext reg en σ (delH H D)) (h : H D = some (.lst xs)) (t : LamX.Tabs Tabl.T H) : RS K (hid H fun a => ∃ i, reg i a) (exD ext D) reg en σ H := by
  have nD : ∀ i, ¬ reg i D := fun i z => by
    obtain ⟨o, q, _⟩ := (r.rg i D z).2
    rw [delH_no] at q
    cases q
  refine ⟨hid_ex, t, ?_, fun i a z => ⟨.of (hid_no ⟨i, z⟩), delH_ex.so (r.rg i a z).2⟩, r.dj, r.ro, r.len, fun i sv e => ?_⟩
  · rintro a (z | z)
    · obtain ⟨o, q, q2⟩ := delH_ex.so (r.le.so (r.exd a z))
      exact ⟨o, by rw [hid_at fun ⟨i, y⟩ => r.noext y z]; exact q, q2⟩
    · exact ⟨.lst xs, by rw [z, hid_at fun ⟨i, y⟩ => nD i y]; exact h, rfl⟩
  · obtain ⟨v, h1, h2⟩ := r.sl i sv e
    exact ⟨v, h1, by rw [hid_delH]; exact h2.mono (Ex.refl _) fun p o _ q n => delH_ex.k p o q n⟩
/-- .. and out again -/
theorem RS.outD (r : RS K G (exD ext D) reg en σ H) (h : H D = some (.lst xs)) (hx : ∀ a, ext a → So H0 a) (g : Ex H0 G) (nD : Nn H0 D) : RS K H0 ext reg en σ (delH H D) := by
  have nr : ∀ i a, reg i a → a ≠ D := fun i a z e => r.noext z (.inr e)
  refine ⟨⟨fun a o q n => ?_⟩, delH_tabs h r.tb, hx, fun i a z => ⟨g.nn (r.rg i a z).1, ?_⟩, r.dj, r.ro, r.len, fun i sv e => ?_⟩
  · have naD : a ≠ D := fun z => So.nn ⟨o, z ▸ q, n⟩ nD
    rw [delH_ne naD]
    exact r.le.k a o (g.k a o q n) n
  · obtain ⟨o, q, q2⟩ := (r.rg i a z).2
    exact ⟨o, by rw [delH_ne (nr i a z)]; exact q, q2⟩
  · obtain ⟨v, h1, h2⟩ := r.sl i sv e
    exact ⟨v, h1, by rw [← hid_delH]; exact h2.mono (Ex.refl _) fun p o z q n => by rw [delH_ne (nr i p z)]; exact q⟩
end
def backE (en e : En) : List Nat → En
  | [] => e
  | v :: vs => match en[v]? with
    | some sv => (backE en e vs).set v sv
    | none => backE en e vs
theorem backE_len (en e : En) : ∀ vs, (backE en e vs).length = e.length
  | [] => rfl
  | v :: vs => by
    unfold backE
    split
    · rw [List.length_set, backE_len en e vs]
    · exact backE_len en e vs
theorem backE_get (en e : En) (hl : e.length = en.length) : ∀ (vs : List Nat) (j : Nat), (backE en e vs)[j]? = if j ∈ vs then en[j]? else e[j]?
  | [], j => by simp [backE]
  | v :: vs, j => by
    have ih := backE_get en e hl vs j
    unfold backE
    by_cases hv : v = j
    · subst hv
      rw [if_pos List.mem_cons_self]
      cases q : en[v]? with
      | some sv =>
        dsimp only
        rw [List.getElem?_set_self (by rw [backE_len, hl]; exact lt_of_some q)]
      | none =>
        dsimp only
        rw [List.getElem?_eq_none_iff] at q ⊢
        rw [backE_len, hl]
        exact q
    · have hm : (j ∈ v :: vs) ↔ j ∈ vs := ⟨fun z => (List.mem_cons.mp z).resolve_left fun e => hv e.symm, List.mem_cons_of_mem _⟩
      have e2 : (if j ∈ v :: vs then en[j]? else e[j]?) = if j ∈ vs then en[j]? else e[j]? := by
        by_cases hj : j ∈ vs
        · rw [if_pos hj, if_pos (hm.mpr hj)]
        · rw [if_neg hj, if_neg fun z => hj (hm.mp z)]
      rw [e2, ← ih]
      cases en[v]? with
      | some sv =>
        dsimp only
        rw [List.getElem?_set_ne hv]
      | none => rfl
theorem wipeE_len (en : En) : ∀ ws : List Nat, (wipeE en ws).length = en.length
  | [] => rfl
  | a :: b => by unfold wipeE; rw [List.length_set, wipeE_len en b]
def lcLE (tg : PD → En → R En) (fe : En → R (PD × En)) (vs : List Nat) : List PD → En → R (List PD × En)
  | [], en => .ok ([], en)
  | x :: r, en => (tg x en).bind fun e => (fe e).bind fun p => if free p.2 vs = true then (lcLE tg fe vs r (wipeE p.2 vs)).bind fun q => .ok (p.1 :: q.1, q.2) else .stuck
def dLcE (fi : En → R (List PD × En)) (tg : PD → En → R En) (fe : En → R (PD × En)) (vs : List Nat) : En → R (List PD × En) := fun en => (fi en).bind fun p =>
  if free p.2 vs = true then ((lcLE tg fe vs p.1 (wipeE p.2 vs)).noexc).bind fun q => (chk q.1).bind fun l => .ok (l, backE p.2 q.2 vs) else .stuck
/-! ### what is walked -/
def WrIE (C : Cn) (H0 : Hp) (ext : AS) (reg : Nat → AS) (σ : L2.St) (H : Hp) (Rr : It → Hp → Prop) : R (List PD × En) → Prop
  | .ok (ds, en') => ∀ J reg' H2, Ex (hid H (own ext reg)) (hid H2 (own ext reg')) → RS C.K H0 ext reg' en' σ H2 → Wk C.K J ds (hid H2 (own ext reg')) → Rr J H2
  | .exc c => ∀ H2, Ex H0 H2 → LamX.Tabs Tabl.T H2 → C.E (.ref (C.cl c)) none H2
  | .stuck => False
def EdIE (C : Cn) (wi : TI) (f : En → R (List PD × En)) : Prop := ∀ (H0 : Hp) (ext : AS) (reg : Nat → AS) (en : En) (σ : L2.St) (H : Hp), RS C.K H0 ext reg en σ H → ∀ Rr, WrIE C H0 ext reg σ H Rr (f en) → wi σ H Rr
theorem eie_S {C : Cn} {wi : TI} {fi : En → R (List PD)} (h : EdI C wi fi) : EdIE C wi (eaS fi) := fun H0 ext reg en σ H rs Rr w => h H0 ext reg en σ H rs Rr (by
  unfold eaS at w
  generalize fi en = x at w ⊢
  cases x with
  | ok ds => exact fun J H2 x2 wk => w J reg H2 x2.toEx.hid (rs.ex x2) wk
  | exc c => exact fun H2 x2 => w H2 (rs.le.trans x2.toEx) (x2.t rs.tb)
  | stuck => exact w)
def eIt (g : PD → R (List PD)) (fe : En → R (PD × En)) : En → R (List PD × En) := fun en => (fe en).bind fun p => (g p.1).bind fun ds => .ok (ds, p.2)
theorem eie_list {C : Cn} {tl : TE} {fe : En → R (PD × En)} (h : EdE C tl fe) : EdIE C (iList C.K tl) (eIt asL fe) := fun H0 ext reg en σ H rs Rr w => h H0 ext reg en σ H rs _ (by
  unfold eIt at w
  generalize fe en = x at w ⊢
  cases x with
  | exc c => exact w
  | stuck => exact w
  | ok z =>
    obtain ⟨d, en1⟩ := z
    intro v reg1 H1 e1 r1 hv
    simp only [R.bind_ok] at w
    cases d with
    | list ds =>
      cases hv with
      | lst hp hr =>
        rename_i a xs
        refine ⟨a, rfl, ⟨xs, hid_ex.sql (SqL.of hp)⟩, w _ reg1 H1 e1 r1 fun Z H' e' hz i => ⟨fun d hd => ?_, fun hl => ⟨xs, SqL.of (hid_ex.l (e'.l hp)), by rw [hr.length]; exact Nat.le_of_eq hl⟩⟩⟩
        obtain ⟨v, hv, hr2⟩ := hr.get hd
        refine ⟨⟨xs, v, SqL.of (hid_ex.l (e'.l hp)), hv⟩, fun x H'' hy => ?_⟩
        obtain ⟨rfl, hy⟩ := hy
        have e : x = v := Option.some.inj ((hy xs (SqL.of (hid_ex.l (e'.l hp)))).symm.trans hv)
        rw [e]
        exact ⟨Xt.refl _, hr2.mono e'.le⟩
    | _ => exact w.elim)
def WrFE (C : Cn) (H0 : Hp) (ext : AS) (reg : Nat → AS) (σ : L2.St) (H : Hp) (Q : VK) : R (List PD × En) → Prop
  | .ok (ds, en') => ∀ p xs reg' H2, Ex (hid H (own ext reg)) (hid H2 (own ext reg')) → RS C.K H0 ext reg' en' σ H2 → H2 p = none → RpA C.K (hid H2 (own ext reg')) xs ds → Q (.ref p) (upd H2 p (.lst xs))
  | .exc c => ∀ H2, Ex H0 H2 → LamX.Tabs Tabl.T H2 → C.E (.ref (C.cl c)) none H2
  | .stuck => False
def EdFE (C : Cn) (te : TE) (f : En → R (List PD × En)) : Prop := ∀ (H0 : Hp) (ext : AS) (reg : Nat → AS) (en : En) (σ : L2.St) (H : Hp), RS C.K H0 ext reg en σ H → ∀ Q : VK, WrFE C H0 ext reg σ H Q (f en) → te σ H Q
def eF (f : En → R (List PD × En)) : En → R (PD × En) := fun en => (f en).bind fun p => .ok (.list p.1, p.2)
section
variable {C : Cn} {te : TE}
theorem EdFE.e {f : En → R (List PD × En)} (h : EdFE C te f) : EdE C te (eF f) := fun H0 ext reg en σ H rs Q w => h H0 ext reg en σ H rs Q (by
  unfold eF at w
  generalize f en = x at w ⊢
  cases x with
  | ok p =>
    intro q xs reg' H2 e2 r2 hq hx
    have X := Xt.new (o := .lst xs) hq
    exact w _ reg' _ (e2.trans X.toEx.hid) (r2.ex X) (Rp.newL (fun a z => r2.there z) hq hx)
  | exc c => exact w
  | stuck => exact w)
def sAsgFE (i : Nat) (f : En → R (List PD × En)) : En → R Fl := fun en => (f en).bind fun p => if i < p.2.length then .ok (.nx (p.2.set i (.ol p.1))) else .stuck
theorem es_asgFE {i : Nat} {f : En → R (List PD × En)} (h : EdFE C te f) : Es C (tAsg te (gName i)) (sAsgFE i f) := fun H0 ext reg en σ H rs D w => h H0 ext reg en σ H rs _ (by
  unfold sAsgFE at w
  generalize f en = x at w ⊢
  cases x with
  | ok p =>
    intro q xs reg' H2 e2 r2 hq hx
    simp only [R.bind_ok] at w
    split at w
    · rename_i hi
      exact w _ _ _ (r2.new hi rfl hq ⟨q, xs, rfl, rfl, upd_same, hx⟩)
    · exact w.elim
  | exc c => exact w
  | stuck => exact w)
theorem efe_lc {wi : TI} {g : TG} {vs ts : List Nat} {fi : En → R (List PD × En)} {tg : PD → En → R En} {fe : En → R (PD × En)}
    (hi : EdIE C wi fi) (hg : EdK C.n ts g tg) (he : EdE C.n te fe) (hts : ∀ i ∈ ts, i ∈ vs) : EdFE C (tLc wi g tYes te vs) (dLcE fi tg fe vs) := fun H0 ext reg0 en0 σ H rs Q w => by
  refine hi H0 ext reg0 en0 σ H rs _ ?_
  unfold dLcE at w
  cases e : fi en0 with
  | exc c => rw [e] at w; exact w
  | stuck => rw [e] at w; exact w.elim
  | ok z0 =>
    obtain ⟨ds, en⟩ := z0
    rw [e] at w
    simp only [R.bind_ok] at w
    split at w
    case isFalse => exact w.elim
    rename_i hfree
    cases el : lcLE tg fe vs ds (wipeE en vs) with
    | exc c => rw [el] at w; exact w.elim
    | stuck => rw [el] at w; exact w.elim
    | ok z =>
      obtain ⟨all, enF⟩ := z
      rw [el] at w
      simp only [R.noexc_ok, R.bind_ok] at w
      unfold chk at w
      split at w
      case isFalse => exact w.elim
      rename_i hlen
      simp only [R.bind_ok] at w
      intro J reg H1 e01 r1 wk Dl hD
      have nH0 : Nn H0 Dl := r1.le.nn (.of hD)
      let I : Nat → Nat → Hp → Prop := fun i m H' => m = ds.length - i ∧ i ≤ ds.length ∧ LamX.Tabs Tabl.T H' ∧ ∃ reg' enB xs acc rest, H' Dl = some (.lst xs) ∧ RS C.K H0 ext reg' enB (wipe σ vs) (delH H' Dl) ∧ (∀ j ∈ vs, ∀ sv, enB[j]? = some sv → sv = .no) ∧ enB.length = en.length ∧
        Ex (hid H1 (own ext reg)) (hid (delH H' Dl) (own ext reg')) ∧ RpA C.K (hid (delH H' Dl) (own ext reg')) xs acc ∧ lcLE tg fe vs (ds.drop i) enB = .ok (rest, enF) ∧ acc ++ rest = all
      have hdel : delH (upd H1 Dl (.lst [])) Dl = H1 := by
        rw [delH_upd]
        funext a
        by_cases ha : a = Dl
        · rw [ha, delH_no, hD]
        · rw [delH_ne ha]
      have wno : ∀ (e : En), ∀ j ∈ vs, ∀ sv, (wipeE e vs)[j]? = some sv → sv = .no := fun e j hj sv q => by
        rw [wipeE_get, if_pos hj] at q
        cases z : e[j]? with
        | none => rw [z] at q; cases q
        | some s => rw [z] at q; cases q; rfl
      refine ⟨I, ⟨ds.length, by omega, Nat.zero_le _, (Xt.new hD).t r1.tb, reg, wipeE en vs, [], [], all, upd_same, by rw [hdel]; exact r1.wipes vs hfree, wno en, wipeE_len en vs, by rw [hdel]; exact Ex.refl _, .nil, by rw [List.drop_zero]; exact el, rfl⟩, ?_⟩
      rintro i m H' ⟨rfl, hi', hTb, reg', enB, xs, acc, rest, hDl, rD, hno, hlB, eH, hacc, hrest, hall⟩
      have rB := rD.inD hDl hTb
      have wki := wk (own (exD ext Dl) reg') H' (by rw [hid_delH]; exact eH) (fun a z => rB.there z) i
      by_cases hlt : i < ds.length
      · refine .inr ?_
        have hd : ds[i]? = some ds[i] := List.getElem?_eq_getElem hlt
        obtain ⟨go, yl⟩ := wki.1 _ hd
        refine ⟨go, fun H'' => I (i + 1) (ds.length - (i + 1)) H'', fun H'' q => ⟨_, by omega, q⟩, fun x H2 hy => ?_⟩
        obtain ⟨x2, hx⟩ := yl x H2 hy
        rw [List.drop_eq_getElem_cons hlt] at hrest
        unfold lcLE at hrest
        have rB2 := rB.ex x2
        refine hg _ _ reg' _ _ H2 rB2 x ds[i] hx _ ?_
        cases etg : tg ds[i] enB with
        | exc c => rw [etg] at hrest; cases hrest
        | stuck => rw [etg] at hrest; cases hrest
        | ok en2 =>
          rw [etg] at hrest
          simp only [R.bind_ok] at hrest
          intro reg2 σ2 kp rB3
          have hw : wipe σ2 vs = wipe σ vs := by
            apply List.ext_getElem?
            intro j
            rw [wipe_get, wipe_get]
            by_cases hj : j ∈ vs
            · rw [if_pos hj, if_pos hj]
              by_cases hl : j < σ.length
              · have : j < σ2.length := by rw [kp.s1, wipe_length]; exact hl
                rw [List.getElem?_eq_getElem hl, List.getElem?_eq_getElem this]
                rfl
              · rw [List.getElem?_eq_none (l := σ) (by omega), List.getElem?_eq_none (l := σ2) (by rw [kp.s1, wipe_length]; omega)]
            · rw [if_neg hj, if_neg hj, kp.s2 j fun z => hj (hts j z), wipe_get, if_neg hj]
          -- what is owned is the same
          have ownS : own (exD ext Dl) reg2 = own (exD ext Dl) reg' := by
            funext a
            apply propext
            refine ⟨kp.own _ a, ?_⟩
            rintro (h | ⟨j, h⟩)
            · exact .inl h
            · refine .inr ⟨j, kp.r2 j a h fun hj => ?_⟩
              obtain ⟨sv, h1, h2⟩ := rB.ro j a h
              rw [hno j (hts j hj) sv h1] at h2
              cases h2
          refine ⟨hw, show te σ2 H2 _ from ?_⟩
          refine he _ _ reg2 en2 σ2 H2 rB3 _ ?_
          cases efe : fe en2 with
          | exc c => rw [efe] at hrest; cases hrest
          | stuck => rw [efe] at hrest; cases hrest
          | ok z =>
            obtain ⟨y, en3⟩ := z
            rw [efe] at hrest
            simp only [R.bind_ok] at hrest
            split at hrest
            case isFalse => cases hrest
            rename_i hfr3
            cases er : lcLE tg fe vs (ds.drop (i + 1)) (wipeE en3 vs) with
            | exc c => rw [er] at hrest; cases hrest
            | stuck => rw [er] at hrest; cases hrest
            | ok zz =>
              obtain ⟨ys, enF2⟩ := zz
              rw [er] at hrest
              simp only [R.bind_ok] at hrest
              have hp := R.ok.inj hrest
              have hF : enF2 = enF := congrArg Prod.snd hp
              have hR : y :: ys = rest := congrArg Prod.fst hp
              clear hp hrest
              subst hF
              subst hR
              intro v reg4 H4 e4 r4 hv
              have dl4 : H4 Dl = some (.lst xs) := r4.le.k Dl _ (by
                rw [hid_at fun ⟨j, y⟩ => rB.noext y (.inr rfl)]
                exact hDl) rfl
              have g0 : Ex H0 (hid H' fun a => ∃ i, reg' i a) := ⟨fun a o q n => by
                rw [hid_at fun ⟨j, y⟩ => So.nn ⟨o, q, n⟩ (rD.rg j a y).1]
                exact delH_ex.k a o (rD.le.k a o q n) n⟩
              have rO := (r4.outD dl4 rs.exd g0 nH0).wipes vs hfr3
              have e24 : Ex (hid (delH H' Dl) (own ext reg')) (hid (delH H4 Dl) (own ext reg4)) := by
                rw [← hid_delH, ← hid_delH]
                refine Ex.trans ?_ (e4 : Ex _ _)
                rw [ownS]
                exact x2.toEx.hid
              have hxs : xs.length < sizeLine := sz_lt (by
                rw [hacc.length]
                have : acc.length ≤ all.length := by rw [← hall, List.length_append]; omega
                omega)
              have hln : (wipeE en3 vs).length = en.length := by
                have := rO.len
                rw [wipe_length] at this
                rw [← this]
                have h2 := rB3.len
                have h3 := kp.s1
                have h4 := rD.len
                rw [h3, h4, hlB]
              refine ⟨xs, dl4, hxs, rfl, hlt, tabs_wr r4.tb dl4 rfl fun a ha => upd_ne ha, reg4, wipeE en3 vs, xs ++ [v], acc ++ [y], ys, upd_same, ?_, wno en3, hln, ?_, ?_, er, by rw [← hall, List.append_assoc]; rfl⟩
              · rw [delH_upd, ← hw]; exact rO
              · rw [delH_upd]; exact eH.trans e24
              · rw [delH_upd]
                refine RpA.app (hacc.mono e24.le) (.cons ?_ .nil)
                rw [← hid_delH]
                exact hv
      · refine .inl ⟨wki.2 (by omega), ?_⟩
        have ei : i = ds.length := by omega
        rw [ei, List.drop_length] at hrest
        unfold lcLE at hrest
        have hp := R.ok.inj hrest
        have hF : enB = enF := congrArg Prod.snd hp
        have hR : [] = rest := congrArg Prod.fst hp
        clear hp hrest
        subst hF
        subst hR
        rw [List.append_nil] at hall
        subst hall
        rw [← upd_delH hDl]
        refine w Dl xs reg' (delH H' Dl) (e01.trans eH) ?_ delH_no hacc
        -- the slots again
        have hlσ : σ.length = en.length := r1.len
        refine ⟨rD.le, rD.tb, rs.exd, rD.rg, rD.dj, fun j a q => ?_, by rw [backE_len, hlB]; exact hlσ, fun j sv q => ?_⟩
        · obtain ⟨sv, h1, h2⟩ := rD.ro j a q
          refine ⟨sv, ?_, h2⟩
          rw [backE_get _ _ hlB]
          by_cases hj : j ∈ vs
          · rw [hno j hj sv h1] at h2
            cases h2
          · rw [if_neg hj]
            exact h1
        · rw [backE_get _ _ hlB] at q
          by_cases hj : j ∈ vs
          · rw [if_pos hj] at q
            obtain ⟨v, h1, h2⟩ := r1.sl j sv q
            refine ⟨v, h1, ?_⟩
            have hf : isOwn sv = false := by
              unfold free at hfree
              have := List.all_eq_true.mp hfree j hj
              rw [q] at this
              simpa using this
            have h3 : SlotOk C.K (hid H1 (own ext reg)) H1 v (reg' j) sv := by
              cases sv with
              | ol _ => cases hf
              | od _ => cases hf
              | ob _ _ _ _ => cases hf
              | no => exact h2
              | sh _ => exact h2
              | rl _ => exact h2
              | fz _ => exact h2
              | xr _ => exact h2
              | vw _ _ _ => exact h2
              | bd _ => cases hf
              | bz _ => exact h2
            exact h3.mono eH fun p o z _ _ => by
              obtain ⟨sv', g1, g2⟩ := rD.ro j p z
              rw [hno j hj sv' g1] at g2
              cases g2
          · rw [if_neg hj] at q
            obtain ⟨v, h1, h2⟩ := rD.sl j sv q
            rw [wipe_get, if_neg hj] at h1
            exact ⟨v, h1, h2⟩
end
end Dn

/-! a def that tells an object and data. -/
namespace Dn
open PySem L2
variable [Tabl]
def WrK (C : Cn) (c : Str) (ns : List Str) (ext : AS) (H : Hp) (Q : VK) : RO → Prop
  | .ok d o => ∀ t p u r' H2, Xt H H2 → (∀ a, r' a → Nn H a) → (∀ a, r' a → So H2 a) → H2 t = some (.tup [.ref p, u]) → SlotOk C.K (hid H2 (uni ext r')) H2 (some (.ref p)) r' (.ob false c ns o) → Rp C.K (hid H2 (uni ext r')) u d → Q (.ref t) H2
  | .exc x _ => ∀ H2, Xt H H2 → C.E (.ref (C.cl x)) none H2
  | .stuck => False
def spK (K : PySem.W.Frag) (cl : Str → Addr) (c : Str) (ns : List Str) (n : Nat) (F : List PD → RO) : Sp := fun vs H Q E => ∃ (ext : AS) (ds : List PD), vs.length = n ∧ LamX.Tabs Tabl.T H ∧ (∀ a, ext a → So H a) ∧ RpA K (hid H ext) vs ds ∧ WrK ⟨K, E, cl⟩ c ns ext H Q (F ds)
def atOb (c : Str) (ns : List Str) (i : Nat) (e : En) (k : List FV → RO) : RO := match e[i]? with
  | some (.ob _ c' ns' o') => if c' = c ∧ ns' = ns then k o' else .stuck
  | _ => .stuck
def runK (N : Nat) (c : Str) (ns : List Str) (f : En → R Fl) (ds : List PD) : RO := match f (ds.map SV.sh ++ List.replicate (N - ds.length) SV.no) with
  | .ok (.pr i d e) => atOb c ns i e (.ok d)
  | .exc x => .exc x []
  | _ => .stuck
section
variable {P : Program} {w : World} {K : PySem.W.Frag} {mg : Str → Option Value} {base : Heap}
theorem def_okK {x qual : Str} {st : Stmt} {f : Addr} {fd : FuncData} {N ps : List Str} {k : Nat} {cl : Str → Addr} {c : Str} {ns : List Str} {body : En → R Fl} (F : Fun K x qual st f fd) (S : FnScope N ps (defScope st))
    (hb : ∀ (cdv : Value) (A : Around) (outer : List Env) (s : Shared) (H : Hp) (E : XK), Room k (A.deeper (PyProof.Rows.envOfC qual (defScope st) s.heap.objs.size f cdv)) →
      ∃ t, PSs (cxOf (L2N.CX P w) P w K mg base N qual (defScope st) f cdv A outer s H E) (defBody st) t ∧ Es ⟨K, E, cl⟩ t body) :
    FnOk P w K mg base (L2N.CX P w) (k + 1) f fd ps (spK K cl c ns ps.length (runK N.length c ns body)) := by
  refine okN F S (fun vs H Q E h => h.choose_spec.choose_spec.1) fun cdv A outer s H vs Q E hr h => ?_
  obtain ⟨t, ht, hs⟩ := hb cdv A outer s H E hr
  refine ⟨t, ht, ?_⟩
  obtain ⟨ext, ds, hl, htb, hx, hv, wr⟩ := h
  refine hs H ext (fun _ _ => False) _ _ H (RS.start htb hx hv) _ ?_
  unfold runK at wr
  generalize body (ds.map SV.sh ++ List.replicate (N.length - ds.length) SV.no) = r at wr ⊢
  cases r with
  | ok fl =>
    cases fl with
    | pr i d e =>
      dsimp only at wr
      intro t p u reg σ H2 r2 h1 h2 h3 h4
      unfold atOb at wr
      split at wr
      · rename_i m c' ns' o ee
        split at wr
        · rename_i hc
          obtain ⟨rfl, rfl⟩ := hc
          obtain ⟨q, dx, vs', L, g1, g2, g3, g4, g5, gl, g6⟩ := r2.atO ee
          have eq : q = p := by
            rw [h1] at g1
            cases g1
            rfl
          subst eq
          have sub : ∀ a, uni ext (reg i) a → own ext reg a := fun a z => z.imp (fun z => z) fun z => ⟨i, z⟩
          exact wr t q u (reg i) H2 ⟨r2.le, fun _ => r2.tb⟩ (fun a z => (r2.rg i a z).1) (fun a z => (r2.rg i a z).2) h2 ⟨q, dx, vs', L, rfl, (fun z => nomatch z), g3, g4, g5, g6.mono ((Ex.refl H2).hidLess sub).le fun _ _ _ z _ => z⟩ (h4.mono ((Ex.refl H2).hidLess sub).le)
        · exact wr.elim
      · exact wr.elim
    | _ => exact wr.elim
  | exc c => exact fun H2 e2 tb => wr H2 ⟨e2, fun _ => tb⟩
  | stuck => exact wr.elim
end
section
variable {C : Cn} {te : TE}
/-- return o, xs: the object and the list of two slots -/
def sRetP (i j : Nat) : En → R Fl := fun en => match en[i]?, en[j]? with
  | some (.ob _ _ _ _), some (.ol ds) => if i ≠ j then .ok (.pr i (.list ds) (sShare j en)) else .stuck
  | _, _ => .stuck
theorem es_retP {i j : Nat} : Es C (tRet (tTup (tCons (tVar i) (tCons (tVar j) tNil)))) (sRetP i j) := fun H0 ext reg en σ H rs D w => by
  unfold sRetP at w
  split at w
  · rename_i m c ns o ds ei ej
    split at w
    · rename_i hij
      obtain ⟨p, dx, vs, L, h1, h2, h3, h4, h5, hl, h6⟩ := rs.atO ei
      obtain ⟨q, xs, g1, g2, g3, g4⟩ := rs.at ej
      refine ⟨_, h1, _, g1, by show 2 ≤ sizeLine; decide, fun t ht => ?_⟩
      have r2 := rs.share ej
      have es : sShare j en = en.set j (.sh (.list ds)) := by unfold sShare; rw [ej]
      rw [es] at w
      have X : Xt H (upd H t (.tup [.ref p, .ref q])) := Xt.new ht
      have r3 := r2.ex X
      obtain ⟨v, k1, x, k2, k3⟩ := r3.sl j (.sh (.list ds)) (by rw [List.getElem?_set_self (lt_of_some ej)])
      have ev : x = .ref q := by
        rw [g1] at k1
        cases k1
        cases k2
        rfl
      subst ev
      exact w t p (.ref q) _ σ _ r3 h1 upd_same (fun z => by
        obtain ⟨u, hu⟩ := r2.there z
        rw [ht] at hu
        cases hu) k3
    · exact w.elim
  · exact w.elim
/-- f(..)[1] -/
def dK1 (F : List PD → RO) (fa : En → R (List PD)) : En → R PD := fun en => (fa en).bind fun ds => match F ds with
  | .ok d _ => .ok d
  | .exc x _ => .exc x
  | .stuck => .stuck
theorem ed_K1 {n : Nat} {c : Str} {ns : List Str} {F : List PD → RO} {ta : TA} {fa : En → R (List PD)} (hn : ∀ en ds, fa en = .ok ds → ds.length = n) (h : EdA C ta fa) : EdS C (tOp (rIxA C.K) (tCall (spK C.K C.cl c ns n F) [] C.E ta) (tC (.int 1))) (dK1 F fa) := fun H0 ext reg en σ H rs Q w => h H0 ext reg en σ H rs _ (by
  unfold dK1 at w
  cases e : fa en with
  | exc c => rw [e] at w; exact w
  | stuck => rw [e] at w; exact w.elim
  | ok ds =>
    rw [e] at w
    simp only [R.bind_ok] at w
    intro vs H1 x1 hv
    refine ⟨own ext reg, ds, by rw [List.append_nil, hv.length, hn en ds e], (rs.ex x1).tb, fun a z => (rs.ex x1).so z, by rw [List.append_nil]; exact hv, ?_⟩
    generalize F ds = z at w ⊢
    cases z with
    | ok d o =>
      intro t p u r' H2 x2 k2 k3 ht hs hu
      exact .inl (.inr (.inl ⟨t, [.ref p, u], 1, u, rfl, rfl, .inl (.inl ht), rfl, w u H2 (x1.trans x2) (hu.mono ((Ex.refl H2).hidLess fun a z => .inl z).le)⟩))
    | exc x o => exact fun H2 x2 => w H2 (x1.trans x2)
    | stuck => exact w)
/-- f(..)[0].m() -/
def dK0 (F : List PD → RO) (M : List FV → List PD → RO) (fa : En → R (List PD)) : En → R PD := fun en => (fa en).bind fun ds => match F ds with
  | .ok _ o => (match M o [] with
    | .ok d _ => .ok d
    | .exc x _ => .exc x
    | .stuck => .stuck)
  | .exc x _ => .exc x
  | .stuck => .stuck
theorem ed_K0 {n : Nat} {c m : Str} {ns : List Str} {F : List PD → RO} {M : List FV → List PD → RO} {ta : TA} {fa : En → R (List PD)} (hm : m ∉ ns) (hn : ∀ en ds, fa en = .ok ds → ds.length = n) (h : EdA C ta fa) : EdS C (tMeth (Tabl.C c) m (spM C.K C.cl c ns 0 M) [] C.E (tOp (rIxA C.K) (tCall (spK C.K C.cl c ns n F) [] C.E ta) (tC (.int 0))) tNil) (dK0 F M fa) := fun H0 ext reg en σ H rs Q w => h H0 ext reg en σ H rs _ (by
  unfold dK0 at w
  cases e : fa en with
  | exc c => rw [e] at w; exact w
  | stuck => rw [e] at w; exact w.elim
  | ok ds =>
    rw [e] at w
    simp only [R.bind_ok] at w
    intro vs H1 x1 hv
    have r1 := rs.ex x1
    refine ⟨own ext reg, ds, by rw [List.append_nil, hv.length, hn en ds e], r1.tb, fun a z => r1.so z, by rw [List.append_nil]; exact hv, ?_⟩
    generalize F ds = z at w ⊢
    cases z with
    | ok d0 o =>
      dsimp only at w
      intro t p u r' H2 x2 k2 k3 ht hs hu
      refine .inl (.inr (.inl ⟨t, [.ref p, u], 0, .ref p, rfl, rfl, .inl (.inl ht), rfl, ?_⟩))
      obtain ⟨q, dx, vs', L, g1, g2, g3, g4, g5, g6⟩ := _root_.id hs
      cases g1
      refine ⟨p, dx, vs', rfl, g4, lookup_no g5 hm, own ext reg, r', p, o, [], [], rfl, rfl, x2.t r1.tb, fun a z => (r1.ex x2).so z, k3, fun a z y => So.nn (r1.so y) (k2 a z), hs, .nil, ?_⟩
      have key : ∀ r'' o'' H3, MtS C.K c ns (own ext reg) r' p H2 r'' o'' H3 → Xt H H3 := fun r'' o'' H3 Mt => x1.trans ⟨⟨fun a o q nt => Mt.k.k a o (by rw [hid_at fun z => So.nn ⟨o, q, nt⟩ (k2 a z)]; exact x2.k a o q nt) nt⟩, fun _ => Mt.t⟩
      generalize M o [] = y at w ⊢
      cases y with
      | ok d o' =>
        intro v r'' H3 Mt hv3
        exact w v H3 (key _ _ _ Mt) (hv3.mono ((Ex.refl H3).hidLess fun a z => .inl z).le)
      | exc x o' => exact fun r'' H3 Mt => w H3 (key _ _ _ Mt)
      | stuck => exact w.elim
    | exc x o => exact fun H2 x2 => w H2 (x1.trans x2)
    | stuck => exact w.elim)
end
end Dn

/-! tuples of the module; calls that are lent what is owned; rows of the words of objects. -/
namespace Dn
open PySem L2
variable [Tabl]
/-! ### a tuple of the module -/
structure KT (K : PySem.W.Frag) (mg : Str → Option Value) (x : Str) (d : PD) : Prop where
  at_ : ∃ v u, mg x = some u ∧ RelV v u ∧ ∀ H, Rp K H v d
def tKT (K : PySem.W.Frag) (d : PD) : TE := fun _ H Q => ∀ v, (∀ H, Rp K H v d) → Q v H
theorem kpe_t {X : Cx} (K : PySem.W.Frag) {mg : Str → Option Value} {x : Str} {d : PD} {pos : Pos} (k : KT K mg x d) (h : X.mg = mg) (hg : Gl X x) (hd : (x == ("__debug__" : Str)) = false := by decide) : PE X (.Name x pos) (tKT K d) := by
  subst h
  obtain ⟨v, u, h1, h2, h3⟩ := k.at_
  exact ⟨fun pins s σ H Q I q => (pe_glob hg h1 h2 hd).run pins s σ H Q I (q v h3)⟩
theorem ed_kt {C : Cn} {d : PD} : EdS C (tKT C.K d) (dC d) := fun H0 ext reg en σ H rs Q w v hv => w v H (Xt.refl H) (hv _)
/-! ### lengths of arguments -/
theorem hne_nil : ∀ (en : En) (p : List PD × En), eaNil en = .ok p → p.1.length = 0 := fun en p h => by
  cases h
  rfl
theorem hne_cons {fe : En → R (PD × En)} {fr : En → R (List PD × En)} {n : Nat} (h : ∀ (en : En) (p : List PD × En), fr en = .ok p → p.1.length = n) : ∀ (en : En) (p : List PD × En), eaCons fe fr en = .ok p → p.1.length = n + 1 := fun en p q => by
  unfold eaCons at q
  cases e1 : fe en with
  | ok x =>
    rw [e1] at q
    simp only [R.bind_ok] at q
    cases e2 : fr x.2 with
    | ok r =>
      rw [e2] at q
      cases q
      simp [h _ r e2]
    | exc c => rw [e2] at q; cases q
    | stuck => rw [e2] at q; cases q
  | exc c => rw [e1] at q; cases q
  | stuck => rw [e1] at q; cases q
theorem hne_S {fa : En → R (List PD)} {n : Nat} (h : ∀ (en : En) (ds : List PD), fa en = .ok ds → ds.length = n) : ∀ (en : En) (p : List PD × En), eaS fa en = .ok p → p.1.length = n := fun en p q => by
  unfold eaS at q
  cases e1 : fa en with
  | ok x =>
    rw [e1] at q
    cases q
    exact h en x e1
  | exc c => rw [e1] at q; cases q
  | stuck => rw [e1] at q; cases q
/-! ### a call that is lent what slots own; what it tells is flat -/
def dCallF (F : List PD → R PD) (fa : En → R (List PD)) : En → R PD := fun en => (fa en).bind fun ds => (F ds).bind fun d => if flatD d = true then .ok d else .stuck
theorem Rp.flatAny {K : PySem.W.Frag} {H H' : Hp} {v : V} {d : PD} (h : Rp K H v d) (f : flatD d = true) : Rp K H' v d := by
  cases h with
  | non => exact .non
  | bl b => exact .bl b
  | int b => exact .int b
  | str b => exact .str b
  | lst _ _ => cases f
  | tup _ _ => cases f
  | dct _ _ => cases f
theorem RpLA.rpa {K : PySem.W.Frag} {Hs H : Hp} (e : LeR K Hs H) (f : ∀ {v : V} {d : PD}, RpL K Hs H v d → Rp K H v d) : ∀ {vs : List V} {ds : List PD}, RpLA K Hs H vs ds → RpA K H vs ds
  | _, _, .nil => .nil
  | _, _, .cons h r => .cons (f h) (RpLA.rpa e f r)
theorem ed_callF {C : Cn} {n : Nat} {F : List PD → R PD} {ta : TA} {fa : En → R (List PD)} (hn : ∀ en ds, fa en = .ok ds → ds.length = n) (h : EdB C ta fa) : EdS C (tCall (spF C.K C.cl n F) [] C.E ta) (dCallF F fa) := fun H0 ext reg en σ H rs Q w => by
  refine h H0 ext reg en σ H rs _ ?_
  unfold dCallF at w
  cases e : fa en with
  | ok ds =>
    rw [e] at w
    simp only [R.bind_ok] at w
    intro vs H2 e2 h2
    have r2 := rs.ex e2
    have hl : vs.length = ds.length := by
      have : ∀ {vs : List V} {ds : List PD}, RpLA C.K (hid H2 (own ext reg)) (hid H2 ext) vs ds → vs.length = ds.length := fun {vs ds} q => by
        induction q with
        | nil => rfl
        | cons _ _ ih => simp [ih]
      exact this h2
    refine ⟨ext, ds, by rw [List.append_nil, hl, hn en ds e], r2.tb, fun a z => r2.so (.inl z), ?_, ?_⟩
    · rw [List.append_nil]
      exact h2.rpa ((Ex.refl H2).hidLess fun a z => .inl z).le fun q => q.rp (hid_less fun a z => .inl z)
    · generalize F ds = z at w ⊢
      cases z with
      | ok d =>
        simp only [R.bind_ok] at w
        intro v H3 e3 hv
        split at w
        · rename_i hf
          exact w v H3 (e2.trans e3) (hv.flatAny hf)
        · exact w.elim
      | exc c => exact fun H3 e3 => w H3 (e2.trans e3)
      | stuck => exact w
  | exc c => rw [e] at w; exact w
  | stuck => rw [e] at w; exact w.elim
/-! ### rows -/
section
variable {i k : Nat} {c : Str} {ns : List Str} {en : En} {fa : En → R PD} {fe fg : En → R (PD × En)} {f g : En → R Fl} {gt gu : En → R (Bool × En)} {ft : En → R Bool} {fl : En → R (List PD × En)} {fr : En → R (List PD)}
@[simp] theorem isOwn_ob (m : Bool) (c : Str) (ns : List Str) (fs : List FV) : isOwn (.ob m c ns fs) = true := nrf rfl
@[simp] theorem dFld_ap : dFld i c ns k en = (match en[i]? with
  | some (.ob _ c' ns' fs) => if c' = c ∧ ns' = ns then match fs[k]? with
      | some (.sh d) => .ok d
      | _ => .stuck
    else .stuck
  | _ => .stuck) := nrf rfl
@[simp] theorem dFldL_ap : dFldL i c ns k en = (match en[i]? with
  | some (.ob _ c' ns' fs) => if c' = c ∧ ns' = ns then match fs[k]? with
      | some (.sh d) => .ok d
      | some (.ol ds) => .ok (.list ds)
      | _ => .stuck
    else .stuck
  | _ => .stuck) := nrf rfl
@[simp] theorem setO_ap (fs : List FV) (k : Nat) (x : FV) : setO fs k x = if k < fs.length then fs.set k x else fs ++ [x] := nrf rfl
@[simp] theorem putO_ap {x : FV} : putO i c ns k x en = (match en[i]? with
  | some (.ob m c' ns' fs) => if c' = c ∧ ns' = ns ∧ k ≤ fs.length ∧ fs.length ≤ 100 then .ok (en.set i (.ob m c ns (setO fs k x))) else .stuck
  | _ => .stuck) := nrf rfl
@[simp] theorem sFldE_ap : sFldE i c ns k fe en = (fe en).bind fun p => (putO i c ns k (.sh p.1) p.2).bind fun e => .ok (.nx e) := nrf rfl
@[simp] theorem sFldF_ap : sFldF i c ns k fr en = (fr en).bind fun ds => (putO i c ns k (.ol ds) en).bind fun e => .ok (.nx e) := nrf rfl
@[simp] theorem sFldApp_ap : sFldApp i c ns k fa en = (match en[i]? with
  | some (.ob m c' ns' fs) => if c' = c ∧ ns' = ns then match fs[k]? with
      | some (.ol ds) => (fa en).bind fun d => if ds.length + 1 ≤ szN then .ok (.nx (en.set i (.ob m c ns (fs.set k (.ol (ds ++ [d])))))) else .stuck
      | _ => .stuck
    else .stuck
  | _ => .stuck) := nrf rfl
@[simp] theorem e2_ap {h : PD → PD → R PD} : e2 h fe fg en = (fe en).bind fun p => (fg p.2).bind fun q => (h p.1 q.1).bind fun z => .ok (z, q.2) := nrf rfl
@[simp] theorem e1_ap {h : PD → R PD} : e1 h fe en = (fe en).bind fun p => (h p.1).bind fun z => .ok (z, p.2) := nrf rfl
@[simp] theorem eAndV_ap : eAndV fe fg en = (fe en).bind fun p => match p.1 with
  | .bool true => fg p.2
  | .bool false => .ok (.bool false, p.2)
  | _ => .stuck := nrf rfl
@[simp] theorem eOrV_ap : eOrV fe fg en = (fe en).bind fun p => match p.1 with
  | .bool true => .ok (.bool true, p.2)
  | .bool false => fg p.2
  | _ => .stuck := nrf rfl
@[simp] theorem eaS_ap : eaS fr en = (fr en).bind fun ds => .ok (ds, en) := nrf rfl
@[simp] theorem eaNil_ap : eaNil en = .ok ([], en) := nrf rfl
@[simp] theorem eaCons_ap : eaCons fe fl en = (fe en).bind fun p => (fl p.2).bind fun q => .ok (p.1 :: q.1, q.2) := nrf rfl
@[simp] theorem eN_ap {h : List PD → R PD} : eN h fl en = (fl en).bind fun p => (h p.1).bind fun z => .ok (z, p.2) := nrf rfl
@[simp] theorem tS_ap : tS ft en = (ft en).bind fun b => .ok (b, en) := nrf rfl
@[simp] theorem tE_ap : tE fe en = (fe en).bind fun p => (asB p.1).bind fun b => .ok (b, p.2) := nrf rfl
@[simp] theorem tNo_ap : tNo gt en = (gt en).bind fun p => .ok (!p.1, p.2) := nrf rfl
@[simp] theorem tAn_ap : tAn gt gu en = (gt en).bind fun p => match p.1 with
  | true => gu p.2
  | false => .ok (false, p.2) := nrf rfl
@[simp] theorem tO_ap : tO gt gu en = (gt en).bind fun p => match p.1 with
  | true => .ok (true, p.2)
  | false => gu p.2 := nrf rfl
@[simp] theorem sIfE_ap : sIfE gt f g en = (gt en).bind fun p => match p.1 with
  | true => f p.2
  | false => g p.2 := nrf rfl
@[simp] theorem sRetE_ap : sRetE fe en = (fe en).bind fun p => .ok (.rt p.1) := nrf rfl
@[simp] theorem sRetM_ap : sRetM fe en = (fe en).bind fun p => .ok (.rm p.1 p.2) := nrf rfl
@[simp] theorem sRaiseM_ap : sRaiseM c en = .ok (.xm c en) := nrf rfl
@[simp] theorem sDropX_ap : sDropX fa en = (match fa en with
  | .ok _ => .ok (.nx en)
  | .exc c => .ok (.xm c en)
  | .stuck => .stuck) := nrf rfl
@[simp] theorem sAppE_ap : sAppE i fe en = (match en[i]? with
  | some (.ol _) => (fe en).bind fun p => match p.2[i]? with
    | some (.ol ds) => if ds.length + 1 ≤ szN then .ok (.nx (p.2.set i (.ol (ds ++ [p.1])))) else .stuck
    | _ => .stuck
  | _ => .stuck) := nrf rfl
@[simp] theorem eX_ap {fx : En → RX} : eX fx en = (match fx en with
  | .ok d e => .ok (d, e)
  | .exc c _ => .exc c
  | .stuck => .stuck) := nrf rfl
@[simp] theorem eTld_ap {cs : List Str} {fx : En → RX} : eTld cs fx en = (match fx en with
  | .ok d e => .ok (d, e)
  | .exc c e => if c ∈ cs then .ok (.str c, e) else .stuck
  | .stuck => .stuck) := nrf rfl
@[simp] theorem xMeth_ap {F : List FV → List PD → RO} : xMeth i c ns F fl en = (match en[i]? with
  | some (.ob _ c' ns' _) => if c' = c ∧ ns' = ns then match fl en with
      | .ok (ds, en1) => (match en1[i]? with
        | some (.ob m c'' ns'' o) => if c'' = c ∧ ns'' = ns then match F o ds with
            | .ok d o' => .ok d (en1.set i (.ob m c ns o'))
            | .exc x o' => .exc x (en1.set i (.ob m c ns o'))
            | .stuck => .stuck
          else .stuck
        | _ => .stuck)
      | _ => .stuck
    else .stuck
  | _ => .stuck) := nrf rfl
@[simp] theorem xCallO_ap {F : List FV → List PD → RO} : xCallO i c ns F fr en = (match en[i]? with
  | some (.ob m c' ns' o) => if c' = c ∧ ns' = ns then match fr en with
      | .ok ds => (match F o ds with
        | .ok d o' => .ok d (en.set i (.ob m c ns o'))
        | .exc x o' => .exc x (en.set i (.ob m c ns o'))
        | .stuck => .stuck)
      | _ => .stuck
    else .stuck
  | _ => .stuck) := nrf rfl
@[simp] theorem sMake_ap {F : List FV → List PD → RO} : sMake i c ns F fr en = (fr en).bind fun ds => match F [] ds with
  | .ok .none o => if i < en.length then .ok (.nx (en.set i (.ob false c ns o))) else .stuck
  | .exc x _ => .exc x
  | _ => .stuck := nrf rfl
@[simp] theorem dMakeX_ap {F : List FV → List PD → RO} : dMakeX F fr en = (fr en).bind fun ds => match F [] ds with
  | .exc x _ => .exc x
  | _ => .stuck := nrf rfl
@[simp] theorem eF_ap : eF fl en = (fl en).bind fun p => .ok (.list p.1, p.2) := nrf rfl
@[simp] theorem sAsgFE_ap : sAsgFE i fl en = (fl en).bind fun p => if i < p.2.length then .ok (.nx (p.2.set i (.ol p.1))) else .stuck := nrf rfl
@[simp] theorem eIt_ap {h : PD → R (List PD)} : eIt h fe en = (fe en).bind fun p => (h p.1).bind fun ds => .ok (ds, p.2) := nrf rfl
@[simp] theorem sRetP_ap {j : Nat} : sRetP i j en = (match en[i]?, en[j]? with
  | some (.ob _ _ _ _), some (.ol ds) => if i ≠ j then .ok (.pr i (.list ds) (sShare j en)) else .stuck
  | _, _ => .stuck) := nrf rfl
@[simp] theorem dK1_ap {F : List PD → RO} : dK1 F fr en = (fr en).bind fun ds => match F ds with
  | .ok d _ => .ok d
  | .exc x _ => .exc x
  | .stuck => .stuck := nrf rfl
@[simp] theorem dK0_ap {F : List PD → RO} {M : List FV → List PD → RO} : dK0 F M fr en = (fr en).bind fun ds => match F ds with
  | .ok _ o => (match M o [] with
    | .ok d _ => .ok d
    | .exc x _ => .exc x
    | .stuck => .stuck)
  | .exc x _ => .exc x
  | .stuck => .stuck := nrf rfl
@[simp] theorem dCallF_ap {F : List PD → R PD} : dCallF F fr en = (fr en).bind fun ds => (F ds).bind fun d => if flatD d = true then .ok d else .stuck := nrf rfl
theorem runM_nx {N : Nat} {f : En → R Fl} {o o' : List FV} {ds : List PD} {r : En} (h : f (.ob true c ns o :: (ds.map SV.sh ++ List.replicate (N - 1 - ds.length) SV.no)) = .ok (.nx (.ob true c ns o' :: r))) : runM N c ns f o ds = .ok .none o' := by
  unfold runM
  rw [h]
  show (if c = c ∧ ns = ns then _ else _) = _
  rw [if_pos ⟨rfl, rfl⟩]
theorem runM_rm {N : Nat} {f : En → R Fl} {o o' : List FV} {d : PD} {ds : List PD} {r : En} (h : f (.ob true c ns o :: (ds.map SV.sh ++ List.replicate (N - 1 - ds.length) SV.no)) = .ok (.rm d (.ob true c ns o' :: r))) : runM N c ns f o ds = .ok d o' := by
  unfold runM
  rw [h]
  show (if c = c ∧ ns = ns then _ else _) = _
  rw [if_pos ⟨rfl, rfl⟩]
theorem runM_xm {N : Nat} {f : En → R Fl} {o o' : List FV} {x : Str} {ds : List PD} {r : En} (h : f (.ob true c ns o :: (ds.map SV.sh ++ List.replicate (N - 1 - ds.length) SV.no)) = .ok (.xm x (.ob true c ns o' :: r))) : runM N c ns f o ds = .exc x o' := by
  unfold runM
  rw [h]
  show (if c = c ∧ ns = ns then _ else _) = _
  rw [if_pos ⟨rfl, rfl⟩]
end
end Dn

/-! * of ints, lists and texts. -/
namespace Dn
open PySem L2
variable [Tabl]
def rRep1 : R2 := fun x y H Q => ∃ z, x = .str z ∧ y = .int 1 ∧ Q (.str z) H
theorem op_rep1 {X : Cx} : OpR X (binaryOp .Mult) rRep1 := by
  intro pins s σ H x y v u Q I rx ry h
  obtain ⟨z, rfl, rfl, q⟩ := h
  obtain ⟨t, rfl⟩ := rx
  obtain ⟨t', rfl⟩ := ry
  refine PySem.P.mul_str (by decide) (fun _ h => by simp at h) (fun _ h => by simp at h) ?_
  rw [if_neg (by decide), if_pos (by simp)]
  exact ⟨.str z, H, I, ⟨_, rfl⟩, q⟩
def rMulA : R2 := rOr rMulD (rOr rRepS rRep1)
theorem op_mulA {X : Cx} : OpR X (binaryOp .Mult) rMulA := opOr op_mulD (opOr op_repS op_rep1)
def mulA (x y : PD) : R PD := match x with
  | .str z => (match y with
    | .int k => if k = 1 then .ok (.str z) else mulS x y
    | _ => .stuck)
  | _ => mulD x y
theorem o_mulA {C : Cn} : Op2 C rMulA mulA := fun Y Z H v w x y Q hyz hz hx hy q => by
  cases x with
  | str z =>
    cases y with
    | int k =>
      unfold mulA at q
      dsimp only at q
      split at q
      · rename_i hk
        subst hk
        exact .inr (.inr ⟨z, hx.str, hy.int, q _ H (Xt.refl H) (.str _)⟩)
      · exact .inr (.inl (o_mulS Y Z H v w (.str z) (.int k) Q hyz hz hx hy q))
    | _ => exact q.elim
  | _ => exact .inl (o_mul Y Z H v w _ y Q hyz hz hx hy q)
theorem mulA_st (l : List Nat) (k : Int) (h : 1 ≤ k ∧ k < 1000) (hl : l ≠ []) (hz : l.length ≤ 1000) : mulA (.str (st l)) (.int k) = .ok (.str (st (List.replicate k.toNat l).flatten)) := by
  by_cases e : k = 1
  · subst e
    show (if (1 : Int) = 1 then R.ok (PyData.str (st l)) else mulS (.str (st l)) (.int 1)) = _
    rw [if_pos rfl]
    simp
  · show (if k = 1 then R.ok (PyData.str (st l)) else mulS (.str (st l)) (.int k)) = _
    rw [if_neg e]
    exact mulS_st l k ⟨by omega, h.2⟩ hl hz
@[simp] theorem mulA_int (a b : Int) : mulA (.int a) (.int b) = mulD (.int a) (.int b) := nrf rfl
@[simp] theorem mulA_list (a : List PD) (b : Int) : mulA (.list a) (.int b) = mulD (.list a) (.int b) := nrf rfl
end Dn

/-! several names at once by a tuple; two lists made one; an item set. -/
namespace Dn
open PySem L2
variable [Tabl]
section
variable {C : Cn} {te ta tb : TE} {tA : TA} {fa fb : En → R PD}
theorem es_parT3 {i j l : Nat} {f : En → En → R En} (h : EdP C tA [i, j, l] f) : Es C (tAsg (tTup tA) (gTup C.K 3 (gCons (gName i) (gCons (gName j) (gCons (gName l) gNil))))) (sParM f) := fun H0 ext reg en σ H rs D w => h H0 ext reg en σ H rs H0 ext reg en σ rs (fun _ z => z) _ (by
  unfold sParM at w
  generalize f en en = x at w ⊢
  cases x with
  | ok e =>
    intro vs reg2 H2 e2 hl r2
    match vs, hl with
    | [u, v, z], _ => exact ⟨by simp [sizeLine], fun p hp => ⟨p, _, rfl, SqT.of upd_same, rfl, u, _, rfl, v, _, rfl, z, _, rfl, rfl, w _ _ _ (r2.ex (Xt.new hp))⟩⟩
  | exc c => exact WS.exc w rs.le rs.tb
  | stuck => exact w.elim)
/-- xs + ys, a new list -/
def catD : PD → PD → R (List PD)
  | .list a, .list b => if a.length + b.length ≤ szN then .ok (a ++ b) else .stuck
  | _, _ => .stuck
def dCat (fa fb : En → R PD) : En → R (List PD) := fun en => (fa en).bind fun x => (fb en).bind fun y => catD x y
theorem WrF.ex {Z : AS} {H H1 : Hp} {Q : VK} {r : R (List PD)} (w : WrF C Z H Q r) (e : Xt H H1) : WrF C Z H1 Q r := by
  cases r with
  | ok d => exact fun p xs H2 e2 hp h => w p xs H2 (e.trans e2) hp h
  | exc c => exact fun H2 e2 => w H2 (e.trans e2)
  | stuck => exact w
theorem ef_cat (ha : EdL C ta fa) (hb : EdL C tb fb) : EdF C (tOp rAddD ta tb) (dCat fa fb) := fun H0 ext reg en σ H rs Q w =>
  ha.seq rs (W := WrF C (own ext reg) H Q) w (fun _ q => q) (fun q => q) fun x v H2 e2 r2 h2 w2 =>
    hb.seq r2 (W := WrF C (own ext reg) H2 Q) (WrF.ex w2 e2) (fun _ q => q) (fun q => q) fun y u H3 e3 r3 h3 w3 => by
      have w4 := WrF.ex w3 e3
      have hx := h2.mono e3.toEx.hid.le e3.toEx.hid
      cases x with
      | list a =>
        cases y with
        | list b =>
          unfold catD at w4
          dsimp only at w4
          split at w4
          · rename_i hl
            obtain ⟨p, xs, rfl, q1, r1⟩ := hx.lst (fun a z => .inl z)
            obtain ⟨p', ys, rfl, q2, r2'⟩ := h3.lst (fun a z => .inl z)
            exact .inr (.inr ⟨p, p', xs, ys, rfl, rfl, q1, q2, sz_of (by rw [r1.length, r2'.length]; exact hl), fun n hn => w4 n _ _ (Xt.refl _) hn (r1.app r2')⟩)
          · exact w4.elim
        | _ => exact w4.elim
      | _ => exact w4.elim
/-- xs[k] = e, the slot's own list -/
def sSetI (i : Nat) (fi fa : En → R PD) : En → R Fl := fun en => match en[i]? with
  | some (.ol ds) => (fa en).bind fun d => (fi en).bind fun k => match k with
    | .int k => match ixN ds.length k with
      | some j => .ok (.nx (en.set i (.ol (ds.set j d))))
      | none => .stuck
    | _ => .stuck
  | _ => .stuck
theorem es_setI {i : Nat} {ti : TE} {fi : En → R PD} (hi : EdS C ti fi) (h : EdS C te fa) : Es C (tAsg te (gSub (tVar i) ti rSetL)) (sSetI i fi fa) := fun H0 ext reg en σ H rs D w => by
  unfold sSetI at w
  cases e : en[i]? with
  | none => rw [e] at w; exact w.elim
  | some sv =>
    rw [e] at w
    cases sv with
    | ol ds =>
      obtain ⟨p, xs, h1, h2, h3, h4⟩ := rs.at e
      refine h.seq rs (W := WS C H0 ext D) w (fun _ q => WS.exc q rs.le rs.tb) (fun q => q) fun d v H2 e2 r2 h5 w2 => ⟨_, h1, hi.seq r2 (W := WS C H0 ext D) w2 (fun _ q => WS.exc q r2.le r2.tb) (fun q => q) fun k vk H3 e3 r3 h6 w3 => ?_⟩
      cases k with
      | int k =>
        dsimp only at w3
        split at w3
        · rename_i j hj
          cases h6
          have e4 := e2.trans e3
          refine ⟨p, xs, k, j, rfl, rfl, e4.l h3, by rw [h4.length]; exact hj, w3 _ _ _ (r3.wr (sv := .ol (ds.set j d)) rfl ⟨_, e4.l h3, rfl⟩ h2 h1 ?_)⟩
          exact ⟨p, _, rfl, h2, upd_same, (h4.mono e4.toEx.hid.le).set (h5.mono e3.toEx.hid.le) j⟩
        · exact w3.elim
      | _ => exact w3.elim
    | _ => exact w.elim
end
section
variable {i : Nat} {en : En} {fa fb fi : En → R PD} {ds : List PD} {d : PD}
@[simp] theorem dCat_ap : dCat fa fb en = (fa en).bind fun x => (fb en).bind fun y => catD x y := nrf rfl
@[simp] theorem catD_l {a b : List PD} : catD (.list a) (.list b) = if a.length + b.length ≤ szN then .ok (a ++ b) else .stuck := nrf rfl
theorem sSetI_ap {k : Int} {j : Nat} (h : en[i]? = some (.ol ds)) (h1 : fa en = .ok d) (h2 : fi en = .ok (.int k)) (h3 : ixN ds.length k = some j) : sSetI i fi fa en = .ok (.nx (en.set i (.ol (ds.set j d)))) := by
  unfold sSetI
  rw [h]
  simp only [h1, h2, R.bind_ok, h3]
end
end Dn

/-! tuples made one; lists of what methods tell, owned. -/
namespace Dn
open PySem L2
variable [Tabl]
def addA (x y : PD) : R PD := match x, y with
  | .tuple a, .tuple b => if a ≠ [] ∧ b ≠ [] ∧ a.length + b.length ≤ szN then .ok (.tuple (a ++ b)) else .stuck
  | _, _ => addD x y
def rAddA (K : PySem.W.Frag) : R2 := rOr rAddD (rCatT K)
theorem op_addA {X : Cx} (K : PySem.W.Frag) (h : X.K = K) : OpR X (binaryOp .Add) (rAddA K) := by
  subst h
  exact opOr op_addD op_catT
section
variable {C : Cn}
theorem o_addA : Op2 C (rAddA C.K) addA := fun Y Z H v w x y Q hyz hz hx hy q => by
  unfold addA at q
  split at q
  · rename_i a b
    split at q
    · rename_i h
      obtain ⟨h1, h2, h3⟩ := h
      obtain ⟨p, xs, rfl, q1, r1⟩ := hx.tup hyz
      obtain ⟨p', ys, rfl, q2, r2⟩ := hy.tup hyz
      have n1 : xs ≠ [] := fun z => h1 (by cases r1 with | nil => rfl | cons _ _ => cases z)
      have n2 : ys ≠ [] := fun z => h2 (by cases r2 with | nil => rfl | cons _ _ => cases z)
      exact .inr ⟨p, p', xs, ys, rfl, rfl, q1, q2, n1, sz_of (by rw [r1.length, r2.length]; exact h3), fun z => absurd z n2, fun _ n hn => q _ _ (Xt.new hn) (Rp.newT hz hn (r1.app r2))⟩
    · exact q.elim
  · exact .inl (o_add Y Z H v w x y Q hyz hz hx hy q)
def dLstE (fa : En → R (List PD × En)) : En → R (List PD × En) := fun en => (fa en).bind fun p => (chk p.1).bind fun l => .ok (l, p.2)
theorem efe_lst {ta : TA} {fa : En → R (List PD × En)} (h : EdEA C ta fa) : EdFE C (tLst ta) (dLstE fa) := fun H0 ext reg en σ H rs Q w => h H0 ext reg en σ H rs _ (by
  unfold dLstE at w
  generalize fa en = x at w ⊢
  cases x with
  | ok p =>
    obtain ⟨ds, en'⟩ := p
    intro vs reg' H2 e2 r2 hv
    simp only [R.bind_ok] at w
    unfold chk at w
    split at w
    · rename_i hl
      exact ⟨sz_of (by rw [hv.length]; exact hl), fun p hp => w p vs reg' H2 e2 r2 hp hv⟩
    · exact w.elim
  | exc c => exact w
  | stuck => exact w.elim)
end
@[simp] theorem addA_tup (a b : List PD) : addA (.tuple a) (.tuple b) = if a ≠ [] ∧ b ≠ [] ∧ a.length + b.length ≤ szN then .ok (.tuple (a ++ b)) else .stuck := nrf rfl
@[simp] theorem addA_int (a b : Int) : addA (.int a) (.int b) = .ok (.int (a + b)) := nrf rfl
@[simp] theorem addA_list (a b : List PD) : addA (.list a) (.list b) = addD (.list a) (.list b) := nrf rfl
@[simp] theorem addA_str (a b : Str) : addA (.str a) (.str b) = addD (.str a) (.str b) := nrf rfl
@[simp] theorem dLstE_ap {fa : En → R (List PD × En)} {en : En} : dLstE fa en = (fa en).bind fun p => (chk p.1).bind fun l => .ok (l, p.2) := nrf rfl
end Dn

/-! replace of what a replace gave; a test of it. -/
namespace Dn
open PySem L2 PySem.Spec PyProof.Rows
section
variable {X : Cx}
theorem pet_replT {o : Expr} {to : TE} {y z : Str} {j0 j1 : Nat} {c0 c1 apos pos : Pos} (hyz : (y == z) = false) (ho : PET X o to)
    (hbase : attributeBase o "replace" X.env (eval o X.env) = eval o X.env := by rfl) (hline : (apos.endLine == pos.line) = true := by rfl) :
    PET X (.Call (.Attribute o "replace" apos) [.Constant (.str y) j0 c0, .Constant (.str z) j1 c1] [] pos) (tRepl y z to) := by
  intro pins s σ H Q h0 I h
  refine PySem.Call_method2 hbase rfl hline (wpAny_mono (PySem.wpAny_toks (ho pins s σ H _ h0 I h)) (fun v s1 q => ?_) fun _ _ z => z.2)
  obtain ⟨hk, x, H1, I1, r1, a, rfl, hb, q1⟩ := q
  obtain ⟨t, rfl⟩ := _root_.id r1
  refine ⟨"str", _, F.plainAttrs_str, F.slot_str_replace, F.type_str_replace, typeIs_str _ _ _, (fun _ e => nomatch e), Calls.callWith_builtin rfl (Calls.evalArgs_plain (Calls.spliced_cons ?_))⟩
  refine Calls.Constant_str (Calls.spliced_cons (Calls.Constant_str (Calls.spliced_nil ?_)))
  have h1 : 1 ≤ s1.toks := Nat.le_trans h0 hk
  exact PySem.SC.replace (show s1.toks ≠ 0 by omega) (show s1.toks + 1 ≠ 0 by omega) (show s1.toks ≠ s1.toks + 1 by omega) hyz hb fun t' k => ⟨.str (Txt.replace a y z), H1, I1.tok k, ⟨t', rfl⟩, q1⟩
theorem pst_ifR {op : CmpOp} {r : R2} {a b : Expr} {ta tb : TE} {c d : List Stmt} {t u : TS} {pos pos' : Pos} (ho : OpR X (compareOp op) r) (ha : PET X a ta) (hb : PE X b tb) (hm : behindInMarks op b = false) (hc : PSs X c t) (hd : PSs X d u) :
    PST X (.If (.Compare a [op] [b] pos) c d pos') (tIfS (tTest (tOp r ta tb)) t u) := by
  intro pins s σ H D h0 I h
  refine wpAny_If ?_
  refine wpAny_isTrue_Compare1 (thn (ha pins s σ H _ h0 I h) fun v s1 ⟨x, H1, I1, r1, q1⟩ => thn (hb.run pins s1 σ H1 _ I1 q1) fun w s2 ⟨y, H2, I2, r2, q2⟩ =>
    thn (ho pins s2 σ H2 x y v w _ I2 r1 r2 q2) fun c s3 ⟨z, H3, I3, r3, k, e, q3⟩ => ?_) hm
  subst e
  cases r3
  refine wpAny_truthy_bool ?_
  cases k with
  | true => exact hc.run pins s3 σ H3 D I3 q3
  | false => exact hd.run pins s3 σ H3 D I3 q3
end
end Dn

/-! a text times a number, nothing too. -/
namespace Dn
open PySem L2
variable [Tabl]
def rRep0 : R2 := fun x y H Q => ∃ z, x = .str z ∧ y = .int 0 ∧ Q (.str Str.empty) H
theorem op_rep0 {X : Cx} : OpR X (binaryOp .Mult) rRep0 := by
  intro pins s σ H x y v u Q I rx ry h
  obtain ⟨z, rfl, rfl, q⟩ := h
  obtain ⟨t, rfl⟩ := rx
  obtain ⟨t', rfl⟩ := ry
  exact PySem.P.mul_str_none (by decide) (by decide) ⟨.str Str.empty, H, I.tok _, ⟨_, rfl⟩, q⟩
def rMulB : R2 := rOr rMulA rRep0
theorem op_mulB {X : Cx} : OpR X (binaryOp .Mult) rMulB := opOr op_mulA op_rep0
def mulB (x y : PD) : R PD := match x with
  | .str z => (match y with
    | .int k => if k = 0 then .ok (.str Str.empty) else mulA x y
    | _ => .stuck)
  | _ => mulA x y
theorem o_mulB {C : Cn} : Op2 C rMulB mulB := fun Y Z H v w x y Q hyz hz hx hy q => by
  cases x with
  | str z =>
    cases y with
    | int k =>
      unfold mulB at q
      dsimp only at q
      split at q
      · rename_i hk
        subst hk
        exact .inr ⟨z, hx.str, hy.int, q _ H (Xt.refl H) (.str _)⟩
      · exact .inl (o_mulA Y Z H v w (.str z) (.int k) Q hyz hz hx hy q)
    | _ => exact q.elim
  | _ => exact .inl (o_mulA Y Z H v w _ y Q hyz hz hx hy q)
@[simp] theorem mulB_int (a b : Int) : mulB (.int a) (.int b) = mulD (.int a) (.int b) := nrf rfl
@[simp] theorem mulB_list (a : List PD) (b : Int) : mulB (.list a) (.int b) = mulD (.list a) (.int b) := nrf rfl
end Dn

/-! what is never reached; objects that are only read; items of a field's list. -/
namespace Dn
open PySem L2
variable [Tabl]
/-! ### never -/
def sNever : En → R Fl := fun _ => .stuck
theorem es_never {C : Cn} : Es C tNever sNever := fun H0 ext reg en σ H rs D w => w.elim
@[simp] theorem sNever_ap {en : En} : sNever en = .stuck := nrf rfl
section
variable {C : Cn} {te ta : TE} {fa : En → R PD}
/-! ### objects that are only read -/
def dFldV (i : Nat) (c : Str) (ns : List Str) (k : Nat) : En → R PD := fun en => match en[i]? with
  | some (.vw c' ns' ds) => if c' = c ∧ ns' = ns then match ds[k]? with
      | some d => .ok d
      | none => .stuck
    else .stuck
  | _ => .stuck
theorem ed_fldV {i k : Nat} {c f : Str} {ns : List Str} (h : ClF C.K (Tabl.C c) ns k f) : EdS C (tFld C.K (tVar i) f) (dFldV i c ns k) := fun H0 ext reg en σ H rs Q w => by
  unfold dFldV at w
  cases e : en[i]? with
  | none => rw [e] at w; exact w.elim
  | some sv =>
    rw [e] at w
    cases sv with
    | vw c' ns' ds =>
      dsimp only at w
      split at w
      · rename_i he
        obtain ⟨rfl, rfl⟩ := he
        obtain ⟨v0, h1, p, dx, vs, rfl, h4, h5, h6⟩ := rs.sl i _ e
        split at w
        · rename_i d ek
          obtain ⟨v, hv, hr⟩ := h6.get ek
          exact ⟨_, h1, p, _, dx, vs, v, rfl, (hid_some h4).2, h.cl, h.no, lookup_at h5 h.nd h.at_ hv, w v H (Xt.refl H) hr⟩
        · exact w.elim
      · exact w.elim
    | _ => exact w.elim
/-- what a method that only reads promises -/
def spV (K : PySem.W.Frag) (cl : Str → Addr) (c : Str) (ns : List Str) (n : Nat) (F : List PD → List PD → R PD) : Sp := fun vs H Q E => ∃ (ext : AS) (p dx : Addr) (fv : List (Str × V)) (us : List V) (fs ds : List PD), vs = .ref p :: us ∧ us.length = n ∧ LamX.Tabs Tabl.T H ∧ (∀ a, ext a → So H a) ∧
  hid H ext p = some (.ins (Tabl.C c) dx fv) ∧ fv.map (·.1) = ns.take fs.length ∧ RpA K (hid H ext) (fv.map (·.2)) fs ∧ RpA K (hid H ext) us ds ∧ WrS ⟨K, E, cl⟩ ext H Q (F fs ds)
def runV (N : Nat) (c : Str) (ns : List Str) (f : En → R Fl) (fs ds : List PD) : R PD := (f (.vw c ns fs :: (ds.map SV.sh ++ List.replicate (N - 1 - ds.length) SV.no))).bind fun fl => match fl with
  | .nx _ => .ok .none
  | .rt d => .ok d
  | _ => .stuck
theorem RS.startV {K : PySem.W.Frag} {H : Hp} {ext : AS} {p dx : Addr} {fv : List (Str × V)} {us : List V} {fs ds : List PD} {N : List Str} {c : Str} {ns : List Str} (tb : LamX.Tabs Tabl.T H) (hx : ∀ a, ext a → So H a) (ho : hid H ext p = some (.ins (Tabl.C c) dx fv)) (hn : fv.map (·.1) = ns.take fs.length) (hf : RpA K (hid H ext) (fv.map (·.2)) fs) (h : RpA K (hid H ext) us ds) (hN : 0 < N.length) :
    RS K H ext (fun _ _ => False) (.vw c ns fs :: (ds.map SV.sh ++ List.replicate (N.length - 1 - ds.length) SV.no)) (L2.start N (.ref p :: us)) H := by
  have hoe : own ext (fun _ _ => False) = ext := by
    funext a
    apply propext
    constructor
    · rintro (h | ⟨_, h⟩)
      · exact h
      · exact h.elim
    · exact fun h => .inl h
  refine ⟨Ex.refl H, tb, hx, fun _ _ h => h.elim, fun _ _ _ h => h.elim, fun _ _ h => h.elim, ?_, fun i sv e => ?_⟩
  · unfold L2.start
    simp only [List.length_cons, List.length_append, List.length_map, List.length_replicate, h.length]
    omega
  · rw [hoe]
    unfold L2.start
    cases i with
    | zero =>
      cases e
      exact ⟨_, rfl, p, dx, fv, rfl, ho, hn, hf⟩
    | succ i =>
      rw [List.getElem?_cons_succ] at e
      have hs : ∀ (x : Option V) (l : List (Option V)), (x :: l)[i + 1]? = l[i]? := fun _ _ => rfl
      rw [List.map_cons, List.cons_append, hs]
      by_cases hi : i < ds.length
      · rw [List.getElem?_append_left (by rw [List.length_map]; exact hi), List.getElem?_map, List.getElem?_eq_getElem hi] at e
        cases e
        obtain ⟨v, h1, h2⟩ := h.get (List.getElem?_eq_getElem hi)
        refine ⟨some v, ?_, v, rfl, h2⟩
        rw [List.getElem?_append_left (by rw [List.length_map, h.length]; exact hi), List.getElem?_map, h1]
        rfl
      · rw [List.getElem?_append_right (by rw [List.length_map]; omega), List.length_map, List.getElem?_replicate] at e
        split at e
        · rename_i hl
          cases e
          refine ⟨none, ?_, trivial⟩
          rw [List.getElem?_append_right (by rw [List.length_map, h.length]; omega), List.length_map, List.getElem?_replicate, h.length, if_pos (by have := h.length; simp only [List.length_cons]; omega)]
        · cases e
end
section
variable {P : Program} {w : World} {K : PySem.W.Frag} {mg : Str → Option Value} {base : Heap}
theorem def_okV {x qual : Str} {st : Stmt} {f : Addr} {fd : FuncData} {N : List Str} {s0 : Str} {ps : List Str} {k : Nat} {cl : Str → Addr} {c : Str} {ns : List Str} {body : En → R Fl} (F : Fun K x qual st f fd) (S : FnScope N (s0 :: ps) (defScope st)) (hN : 0 < N.length)
    (hb : ∀ (cdv : Value) (A : Around) (outer : List Env) (s : Shared) (H : Hp) (E : XK), Room k (A.deeper (PyProof.Rows.envOfC qual (defScope st) s.heap.objs.size f cdv)) →
      ∃ t, PSs (cxOf (L2N.CX P w) P w K mg base N qual (defScope st) f cdv A outer s H E) (defBody st) t ∧ Es ⟨K, E, cl⟩ t body) :
    FnOk P w K mg base (L2N.CX P w) (k + 1) f fd (s0 :: ps) (spV K cl c ns ps.length (runV N.length c ns body)) := by
  refine okN F S (fun vs H Q E h => ?_) fun cdv A outer s H vs Q E hr h => ?_
  · obtain ⟨ext, p, dx, fv, us, fs, ds, rfl, hl, _⟩ := h
    simp [hl]
  obtain ⟨t, ht, hs⟩ := hb cdv A outer s H E hr
  refine ⟨t, ht, ?_⟩
  obtain ⟨ext, p, dx, fv, us, fs, ds, rfl, hl, htb, hx, ho, hn, hf, hv, wr⟩ := h
  refine hs H ext (fun _ _ => False) _ _ H (RS.startV htb hx ho hn hf hv hN) _ ?_
  unfold runV at wr
  generalize body (.vw c ns fs :: (ds.map SV.sh ++ List.replicate (N.length - 1 - ds.length) SV.no)) = r at wr ⊢
  cases r with
  | ok fl =>
    cases fl with
    | nx e => exact fun reg σ H2 r2 => wr .non H2 ⟨r2.le, fun _ => r2.tb⟩ .non
    | rt d => exact fun v H2 e2 tb h2 => wr v H2 ⟨e2, fun _ => tb⟩ h2
    | bk e => exact wr.elim
    | ct e => exact wr.elim
    | rm d e => exact wr.elim
    | rn d e => exact wr.elim
    | xm d e => exact wr.elim
    | pr i d e => exact wr.elim
  | exc c => exact fun H2 e2 tb => wr H2 ⟨e2, fun _ => tb⟩
  | stuck => exact wr.elim
end
def fvD : FV → PD
  | .sh d => d
  | .ol ds => .list ds
theorem FsOk.rpa {K : PySem.W.Frag} {H : Hp} {r Y Z : AS} (hyz : ∀ a, Y a → Z a) (hr : ∀ a, r a → ¬ Y a) : ∀ {vs : List V} {fs : List FV} {L : List Addr}, FsOk K (hid H Z) H r vs fs L → RpA K (hid H Y) vs (fs.map fvD)
  | _, _, _, .nil => .nil
  | _, _, _, .sh h t => .cons (h.mono (hid_less hyz).le) (FsOk.rpa hyz hr t)
  | _, _, _, .ol a b c _ t => .cons (.lst (by rw [hid_at (hr _ a)]; exact b) (c.mono (hid_less hyz).le)) (FsOk.rpa hyz hr t)
def flatR (r : R PD) : R PD := r.bind fun d => if flatD d = true then .ok d else .stuck
/-- o.m(..), a method that only reads and tells a flat thing -/
def dMeV (i : Nat) (c : Str) (ns : List Str) (F : List PD → List PD → R PD) (fa : En → R (List PD)) : En → R PD := fun en => match en[i]? with
  | some (.ob _ c' ns' fs) => if c' = c ∧ ns' = ns then (fa en).bind fun ds => flatR (F (fs.map fvD) ds) else .stuck
  | some (.vw c' ns' fs) => if c' = c ∧ ns' = ns then (fa en).bind fun ds => flatR (F fs ds) else .stuck
  | _ => .stuck
section
variable {C : Cn} {te ta : TE} {fa : En → R PD}
theorem spV_of {n : Nat} {c : Str} {ns : List Str} {F : List PD → List PD → R PD} {H0 H : Hp} {ext : AS} {reg : Nat → AS} {en : En} {σ : L2.St} {Q : VK} {p dx : Addr} {fv : List (Str × V)} {us : List V} {fs ds : List PD} (rs : RS C.K H0 ext reg en σ H) (hl : us.length = n) (ho : hid H ext p = some (.ins (Tabl.C c) dx fv)) (hn : fv.map (·.1) = ns.take fs.length) (hf : RpA C.K (hid H ext) (fv.map (·.2)) fs) (hu : RpLA C.K (hid H (own ext reg)) (hid H ext) us ds)
    (w : WrS C (own ext reg) H Q (flatR (F fs ds))) : spV C.K C.cl c ns n F (.ref p :: us) H Q C.E := by
  refine ⟨ext, p, dx, fv, us, fs, ds, rfl, hl, rs.tb, fun a z => rs.so (.inl z), ho, hn, hf, hu.rpa ((Ex.refl H).hidLess fun a z => .inl z).le fun q => q.rp (hid_less fun a z => .inl z), ?_⟩
  unfold flatR at w
  generalize F fs ds = z at w ⊢
  cases z with
  | ok d =>
    simp only [R.bind_ok] at w
    intro v H3 e3 hv
    split at w
    · rename_i hf
      exact w v H3 e3 (hv.flatAny hf)
    · exact w.elim
  | exc c => exact w
  | stuck => exact w
theorem RpLA.len {K : PySem.W.Frag} {Hs H : Hp} : ∀ {vs : List V} {ds : List PD}, RpLA K Hs H vs ds → vs.length = ds.length
  | _, _, .nil => rfl
  | _, _, .cons _ r => by simp [RpLA.len r]
theorem ed_meV {i n : Nat} {c m : Str} {ns : List Str} {F : List PD → List PD → R PD} {tA : TA} {fa : En → R (List PD)} (hm : m ∉ ns) (hn : ∀ en ds, fa en = .ok ds → ds.length = n) (ha : EdB C tA fa) : EdS C (tMeth (Tabl.C c) m (spV C.K C.cl c ns n F) [] C.E (tVar i) tA) (dMeV i c ns F fa) := fun H0 ext reg en σ H rs Q w => by
  unfold dMeV at w
  cases e : en[i]? with
  | none => rw [e] at w; exact w.elim
  | some sv =>
    rw [e] at w
    cases sv with
    | ob m0 c' ns' o0 =>
      dsimp only at w
      split at w
      case isFalse => exact w.elim
      rename_i hc
      obtain ⟨rfl, rfl⟩ := hc
      obtain ⟨p, dx, vs, L, h1, h2, h3, h4, h5, hl, h6⟩ := rs.atO e
      refine ⟨_, h1, p, dx, vs, rfl, h4, lookup_no h5 hm, ha H0 ext reg en σ H rs _ ?_⟩
      cases ef : fa en with
      | exc x => rw [ef] at w; exact w
      | stuck => rw [ef] at w; exact w.elim
      | ok ds =>
        rw [ef] at w
        simp only [R.bind_ok] at w
        intro us H1 e1 hu
        rw [List.append_nil]
        have r1 := rs.ex e1
        obtain ⟨p', dx', vs', L', g1, g2, g3, g4, g5, gl, g6⟩ := r1.atO e
        have ep : p' = p := by
          rw [h1] at g1
          cases g1
          rfl
        subst ep
        refine spV_of (fs := o0.map fvD) r1 (by rw [hu.len]; exact hn en ds ef) (by rw [hid_at (r1.noext g3)]; exact g4) (by rw [List.length_map]; exact g5) (g6.rpa (fun a z => .inl z) fun a z => r1.noext z) hu (WrS.ex w e1)
    | vw c' ns' fs =>
      dsimp only at w
      split at w
      case isFalse => exact w.elim
      rename_i hc
      obtain ⟨rfl, rfl⟩ := hc
      obtain ⟨v0, h1, p, dx, vs, rfl, h4, h5, h6⟩ := rs.sl i _ e
      refine ⟨_, h1, p, dx, vs, rfl, (hid_some h4).2, lookup_no h5 hm, ha H0 ext reg en σ H rs _ ?_⟩
      cases ef : fa en with
      | exc x => rw [ef] at w; exact w
      | stuck => rw [ef] at w; exact w.elim
      | ok ds =>
        rw [ef] at w
        simp only [R.bind_ok] at w
        intro us H1 e1 hu
        rw [List.append_nil]
        have r1 := rs.ex e1
        have up := e1.toEx.hid (Z := own ext reg)
        have le : Ex (hid H1 (own ext reg)) (hid H1 ext) := hid_less fun a z => .inl z
        exact spV_of (fs := fs) r1 (by rw [hu.len]; exact hn en ds ef) (le.k _ _ (up.k _ _ h4 rfl) rfl) h5 (h6.mono (up.trans le).le) hu (WrS.ex w e1)
    | _ => exact w.elim
/-! ### o.f[k] = e -/
def sFldSetI (i : Nat) (c : Str) (ns : List Str) (k : Nat) (fi fa : En → R PD) : En → R Fl := fun en => match en[i]? with
  | some (.ob m c' ns' fs) => if c' = c ∧ ns' = ns then match fs[k]? with
      | some (.ol ds) => (fa en).bind fun d => (fi en).bind fun x => match x with
        | .int x => (match ixN ds.length x with
          | some j => .ok (.nx (en.set i (.ob m c ns (fs.set k (.ol (ds.set j d))))))
          | none => .stuck)
        | _ => .stuck
      | _ => .stuck
    else .stuck
  | _ => .stuck
theorem es_fldSetI {i k : Nat} {c f : Str} {ns : List Str} {ti : TE} {fi : En → R PD} (h : ClF C.K (Tabl.C c) ns k f) (hi : EdS C ti fi) (ha : EdS C te fa) : Es C (tAsg te (gSub (tFld C.K (tVar i) f) ti rSetL)) (sFldSetI i c ns k fi fa) := fun H0 ext reg en σ H rs D w => by
  unfold sFldSetI at w
  cases e : en[i]? with
  | none => rw [e] at w; exact w.elim
  | some sv =>
    rw [e] at w
    cases sv with
    | ob m c' ns' fs =>
      dsimp only at w
      split at w
      · rename_i hc
        obtain ⟨rfl, rfl⟩ := hc
        split at w
        · rename_i ds ek
          refine ha.seq rs (W := WS C H0 ext D) w (fun _ q => WS.exc q rs.le rs.tb) (fun q => q) fun d v H2 e2 r2 hd w2 => ?_
          obtain ⟨p, dx, vs, L, h1, h2, h3, h4, h5, hl, h6⟩ := r2.atO e
          obtain ⟨q, xs, hv, hqL, hrq, hq, hx⟩ := h6.getL ek
          refine ⟨_, h1, p, _, dx, vs, .ref q, rfl, h4, h.cl, h.no, lookup_at h5 h.nd h.at_ hv, hi.seq r2 (W := WS C H0 ext D) w2 (fun _ q => WS.exc q r2.le r2.tb) (fun q => q) fun x vx H3 e3 r3 h7 w3 => ?_⟩
          cases x with
          | int x =>
            dsimp only at w3
            split at w3
            · rename_i j hj
              cases h7
              refine ⟨q, xs, x, j, rfl, rfl, e3.l hq, by rw [hx.length]; exact hj, w3 _ _ _ (r3.wrF e h1 h2 h3 (e3.k _ _ h4 rfl) h5 (h6.mono e3.toEx.hid.le fun a o _ z n => e3.k a o z n) ek hv (e3.l hq) hrq ((hx.mono e3.toEx.hid.le).set (hd.mono e3.toEx.hid.le) j))⟩
            · exact w3.elim
          | _ => exact w3.elim
        · exact w.elim
      · exact w.elim
    | _ => exact w.elim
/-! ### a slice, a new list -/
def slF : PD → Option Int → Option Int → R (List PD)
  | .list xs, lo, hi => .ok (cutD xs lo hi)
  | _, _, _ => .stuck
def dSlF (fa : En → R PD) (fl fh : En → R (Option Int)) : En → R (List PD) := fun en => (fa en).bind fun x => (fl en).bind fun l => (fh en).bind fun h => slF x l h
theorem ef_sl {tl th : TO} {fl fh : En → R (Option Int)} (h : EdL C ta fa) (hl : EdO C tl fl) (hh : EdO C th fh) : EdF C (tSl (rSlD C.K) ta tl th) (dSlF fa fl fh) := fun H0 ext reg en σ H rs Q w =>
  h.seq rs (W := WrF C (own ext reg) H Q) w (fun _ q => q) (fun q => q) fun x v H2 e2 r2 h2 w2 =>
    hl.seq r2 (W := WrF C (own ext reg) H2 Q) (WrF.ex w2 e2) (fun _ q => q) (fun q => q) fun l H3 e3 r3 w3 =>
      hh.seq r3 (W := WrF C (own ext reg) H3 Q) (WrF.ex w3 e3) (fun _ q => q) (fun q => q) fun u H4 e4 r4 w4 => by
        have w5 := WrF.ex w4 e4
        have h5 := h2.mono (e3.trans e4).toEx.hid.le (e3.trans e4).toEx.hid
        clear w4 w3 w2 w h2
        unfold slF at w5
        split at w5
        · obtain ⟨p, xs, rfl, hp, hr⟩ := h5.lst fun a z => .inl z
          exact .inl ⟨p, xs, rfl, SqL.of hp, fun q hq => w5 q _ _ (Xt.refl _) hq (hr.cut l u)⟩
        · exact w5.elim
end
section
variable {i k : Nat} {c : Str} {ns : List Str} {en : En} {fa fi : En → R PD} {fl fh : En → R (Option Int)} {F : List PD → List PD → R PD} {fr : En → R (List PD)}
@[simp] theorem dFldV_ap : dFldV i c ns k en = (match en[i]? with
  | some (.vw c' ns' ds) => if c' = c ∧ ns' = ns then match ds[k]? with
      | some d => .ok d
      | none => .stuck
    else .stuck
  | _ => .stuck) := nrf rfl
@[simp] theorem dMeV_ap : dMeV i c ns F fr en = (match en[i]? with
  | some (.ob _ c' ns' fs) => if c' = c ∧ ns' = ns then (fr en).bind fun ds => flatR (F (fs.map fvD) ds) else .stuck
  | some (.vw c' ns' fs) => if c' = c ∧ ns' = ns then (fr en).bind fun ds => flatR (F fs ds) else .stuck
  | _ => .stuck) := nrf rfl
@[simp] theorem flatR_ok {d : PD} : flatR (.ok d) = if flatD d = true then .ok d else .stuck := nrf rfl
@[simp] theorem flatR_exc {x : Str} : flatR (.exc x) = .exc x := nrf rfl
@[simp] theorem flatD_none : flatD .none = true := nrf rfl
@[simp] theorem flatD_bool {b : Bool} : flatD (.bool b) = true := nrf rfl
@[simp] theorem flatD_int {b : Int} : flatD (.int b) = true := nrf rfl
@[simp] theorem flatD_str {b : Str} : flatD (.str b) = true := nrf rfl
@[simp] theorem fvD_sh {d : PD} : fvD (.sh d) = d := nrf rfl
@[simp] theorem fvD_ol {ds : List PD} : fvD (.ol ds) = .list ds := nrf rfl
@[simp] theorem dSlF_ap : dSlF fa fl fh en = (fa en).bind fun x => (fl en).bind fun l => (fh en).bind fun h => slF x l h := nrf rfl
@[simp] theorem slF_l {xs : List PD} {lo hi : Option Int} : slF (.list xs) lo hi = .ok (cutD xs lo hi) := nrf rfl
theorem sFldSetI_ap {m : Bool} {fs : List FV} {ds : List PD} {x : Int} {j : Nat} {d : PD} (h : en[i]? = some (.ob m c ns fs)) (hk : fs[k]? = some (.ol ds)) (h1 : fa en = .ok d) (h2 : fi en = .ok (.int x)) (h3 : ixN ds.length x = some j) : sFldSetI i c ns k fi fa en = .ok (.nx (en.set i (.ob m c ns (fs.set k (.ol (ds.set j d)))))) := by
  unfold sFldSetI
  rw [h]
  dsimp only
  rw [if_pos ⟨rfl, rfl⟩, hk]
  simp only [h1, h2, R.bind_ok, h3]
end
end Dn

/-! methods that tell a new list; objects made among several names. -/
namespace Dn
open PySem L2
variable [Tabl]
/-! ### methods that tell a new list -/
inductive RN where
  | ok (ds : List PD) (o : List FV)
  | exc (c : Str) (o : List FV)
  | stuck
def WrMN (C : Cn) (c : Str) (ns : List Str) (ext r : AS) (p : Addr) (H : Hp) (Q : VK) : RN → Prop
  | .ok ds o => ∀ q xs r' H2, MtS C.K c ns ext r p H r' o H2 → H2 q = none → RpA C.K (hid H2 (uni ext r')) xs ds → Q (.ref q) (upd H2 q (.lst xs))
  | .exc x o => ∀ r' H2, MtS C.K c ns ext r p H r' o H2 → C.E (.ref (C.cl x)) none H2
  | .stuck => False
def spMN (K : PySem.W.Frag) (cl : Str → Addr) (c : Str) (ns : List Str) (n : Nat) (F : List FV → List PD → RN) : Sp := fun vs H Q E => ∃ (ext r : AS) (p : Addr) (o : List FV) (us : List V) (ds : List PD), vs = .ref p :: us ∧ us.length = n ∧ LamX.Tabs Tabl.T H ∧ (∀ a, ext a → So H a) ∧ (∀ a, r a → So H a) ∧ (∀ a, r a → ¬ ext a) ∧
  SlotOk K (hid H (uni ext r)) H (some (.ref p)) r (.ob false c ns o) ∧ RpA K (hid H (uni ext r)) us ds ∧ WrMN ⟨K, E, cl⟩ c ns ext r p H Q (F o ds)
def atSelfN (c : Str) (ns : List Str) (e : En) (k : List FV → RN) : RN := match e[(0 : Nat)]? with
  | some (.ob true c' ns' o') => if c' = c ∧ ns' = ns then k o' else .stuck
  | _ => .stuck
def runMN (N : Nat) (c : Str) (ns : List Str) (f : En → R Fl) (o : List FV) (ds : List PD) : RN := match f (.ob true c ns o :: (ds.map SV.sh ++ List.replicate (N - 1 - ds.length) SV.no)) with
  | .ok (.rn l e) => atSelfN c ns e (.ok l)
  | .ok (.xm x e) => atSelfN c ns e (.exc x)
  | _ => .stuck
section
variable {P : Program} {w : World} {K : PySem.W.Frag} {mg : Str → Option Value} {base : Heap}
theorem def_okMN {x qual : Str} {st : Stmt} {f : Addr} {fd : FuncData} {N : List Str} {s0 : Str} {ps : List Str} {k : Nat} {cl : Str → Addr} {c : Str} {ns : List Str} {body : En → R Fl} (F : Fun K x qual st f fd) (S : FnScope N (s0 :: ps) (defScope st)) (hN : 0 < N.length)
    (hb : ∀ (p : Addr) (cdv : Value) (A : Around) (outer : List Env) (s : Shared) (H : Hp) (E : XK), Room k (A.deeper (PyProof.Rows.envOfC qual (defScope st) s.heap.objs.size f cdv)) →
      ∃ t, PSs (cxOf (L2N.CX P w) P w K mg base N qual (defScope st) f cdv A outer s H E) (defBody st) t ∧ @Es (meI ‹Tabl› p) ⟨K, E, cl⟩ t body) :
    FnOk P w K mg base (L2N.CX P w) (k + 1) f fd (s0 :: ps) (spMN K cl c ns ps.length (runMN N.length c ns body)) := by
  refine okN F S (fun vs H Q E h => ?_) fun cdv A outer s H vs Q E hr h => ?_
  · obtain ⟨ext, r, p, o, us, ds, rfl, hl, _⟩ := h
    simp [hl]
  obtain ⟨ext, r, p, o, us, ds, rfl, hl, tb, hx, hr1, hd, so, hu, wr⟩ := h
  obtain ⟨t, ht, hs⟩ := hb p cdv A outer s H E hr
  refine ⟨t, ht, ?_⟩
  refine hs (hid H r) ext _ _ _ H (RS.startM hN tb hx hr1 hd so hu) _ ?_
  unfold runMN at wr
  generalize body (.ob true c ns o :: (ds.map SV.sh ++ List.replicate (N.length - 1 - ds.length) SV.no)) = z at wr ⊢
  cases z with
  | exc c => exact wr.elim
  | stuck => exact wr.elim
  | ok fl =>
    cases fl with
    | rt d => exact wr.elim
    | bk d => exact wr.elim
    | ct d => exact wr.elim
    | pr i d e => exact wr.elim
    | nx e => exact wr.elim
    | rm d e => exact wr.elim
    | rn l e =>
      dsimp only at wr
      intro q xs reg σ H2 r2 hq hx2
      unfold atSelfN at wr
      split at wr
      · rename_i c' ns' o' ee
        split at wr
        · rename_i hc
          obtain ⟨rfl, rfl⟩ := hc
          obtain ⟨r', m, sub⟩ := RS.endM r2 ee
          exact wr q xs r' H2 m hq (hx2.mono ((Ex.refl H2).hidLess sub).le)
        · exact wr.elim
      · exact wr.elim
    | xm x e =>
      dsimp only at wr
      intro reg σ H2 r2
      unfold atSelfN at wr
      split at wr
      · rename_i c' ns' o' ee
        split at wr
        · rename_i hc
          obtain ⟨rfl, rfl⟩ := hc
          obtain ⟨r', m, sub⟩ := RS.endM r2 ee
          exact wr r' H2 m
        · exact wr.elim
      · exact wr.elim
end
section
variable {C : Cn} {te ta tb : TE} {fa fb : En → R PD} {H0 H : Hp} {ext : AS} {reg : Nat → AS} {en : En} {σ : L2.St} {Q : VK}
/-- return, a new list -/
def sRetL (fa : En → R (List PD)) : En → R Fl := fun en => (fa en).bind fun ds => .ok (.rn ds en)
theorem es_retL {fa : En → R (List PD)} (h : EdF C te fa) : Es C (tRet te) (sRetL fa) := fun H0 ext reg en σ H rs D w => h H0 ext reg en σ H rs _ (by
  unfold sRetL at w
  generalize fa en = x at w ⊢
  cases x with
  | ok ds => exact fun p xs H2 e2 hp hx => w p xs reg σ H2 (rs.ex e2) hp hx
  | exc c => exact WS.exc w rs.le rs.tb
  | stuck => exact w)
def dIfF (ft : En → R Bool) (fa fb : En → R (List PD)) : En → R (List PD) := fun en => (ft en).bind fun b => match b with
  | true => fa en
  | false => fb en
theorem ef_if {t : TT} {ft : En → R Bool} {fa fb : En → R (List PD)} (h : EdT C t ft) (h1 : EdF C ta fa) (h2 : EdF C tb fb) : EdF C (tIf t ta tb) (dIfF ft fa fb) := fun H0 ext reg en σ H rs Q w =>
  h.seq rs (W := WrF C (own ext reg) H Q) w (fun _ q => q) (fun q => q) fun b H2 e2 r2 w2 => by
    cases b with
    | true =>
      show ta σ H2 Q
      exact h1 H0 ext reg en σ H2 r2 Q (WrF.ex w2 e2)
    | false =>
      show tb σ H2 Q
      exact h2 H0 ext reg en σ H2 r2 Q (WrF.ex w2 e2)
theorem RS.spON {K : PySem.W.Frag} {cl : Str → Addr} {E : XK} (r1 : RS K H0 ext reg en σ H) {i n : Nat} {m : Bool} {c : Str} {ns : List Str} {o : List FV} {F : List FV → List PD → RN} {us : List V} {ds : List PD} {p : Addr} (e : en[i]? = some (.ob m c ns o)) (hp : σ[i]? = some (some (.ref p))) (hl : us.length = n) (hu : RpA K (hid H (own ext reg)) us ds)
    (w : match F o ds with
      | .ok l o' => ∀ q xs reg' H2, Ex (hid H (own ext reg)) (hid H2 (own ext reg')) → RS K H0 ext reg' (en.set i (.ob m c ns o')) σ H2 → H2 q = none → RpA K (hid H2 (own ext reg')) xs l → Q (.ref q) (upd H2 q (.lst xs))
      | .exc x o' => ∀ reg' H2, Ex (hid H (own ext reg)) (hid H2 (own ext reg')) → RS K H0 ext reg' (en.set i (.ob m c ns o')) σ H2 → E (.ref (cl x)) none H2
      | .stuck => False) : spMN K cl c ns n F (.ref p :: us) H Q E := by
  obtain ⟨p', dx, vs, L, h1, h2, h3, h4, h5, hlen, h6⟩ := r1.atO e
  have ep : p' = p := by
    rw [hp] at h1
    cases h1
    rfl
  subst ep
  refine ⟨own ext (drp reg i), reg i, p', o, us, ds, rfl, hl, r1.tb, fun a z => r1.so (own_drp z), fun a z => (r1.rg i a z).2, fun a z y => ?_, ?_, by rw [uni_own]; exact hu, ?_⟩
  · rcases y with y | ⟨j, hj, y⟩
    · exact r1.noext z y
    · exact hj (r1.dj j i a y z)
  · rw [uni_own]
    exact ⟨p', dx, vs, L, rfl, (fun z => nomatch z), h3, h4, h5, h6⟩
  · have key : ∀ r' o' H2, MtS K c ns (own ext (drp reg i)) (reg i) p' H r' o' H2 → Ex (hid H (own ext reg)) (hid H2 (own ext (upR reg i r'))) ∧ RS K H0 ext (upR reg i r') (en.set i (.ob m c ns o')) σ H2 := fun r' o' H2 M => by
      have k1 : ∀ a o, ¬ reg i a → H a = some o → isTb o = false → H2 a = some o := fun a o na ha n => M.k.k a o (by rw [hid_at na]; exact ha) n
      refine ⟨r1.chg_up k1 M.r1, r1.chg (lt_of_some e) rfl h1 k1 M.t M.r1 M.r2 ?_⟩
      obtain ⟨q, dx', vs', L', g1, g2, g3, g4, g5, g6⟩ := M.s
      cases g1
      rw [uni_upR] at g6
      exact ⟨p', dx', vs', L', rfl, h2, g3, g4, g5, g6⟩
    generalize F o ds = z at w ⊢
    cases z with
    | ok l o' =>
      intro q xs r' H2 M hq hx
      obtain ⟨a1, a2⟩ := key r' o' H2 M
      exact w q xs _ H2 a1 a2 hq (by rw [uni_upR] at hx; exact hx)
    | exc x o' =>
      intro r' H2 M
      obtain ⟨a1, a2⟩ := key r' o' H2 M
      exact w _ H2 a1 a2
    | stuck => exact w.elim
/-- o.m(..), a new list is told -/
def xMethN (i : Nat) (c : Str) (ns : List Str) (F : List FV → List PD → RN) (fa : En → R (List PD)) : En → R (List PD × En) := fun en => match en[i]? with
  | some (.ob m c' ns' o) => if c' = c ∧ ns' = ns then match fa en with
      | .ok ds => (match F o ds with
        | .ok l o' => .ok (l, en.set i (.ob m c ns o'))
        | .exc x _ => .exc x
        | .stuck => .stuck)
      | _ => .stuck
    else .stuck
  | _ => .stuck
theorem efe_meth {i n : Nat} {c m : Str} {ns : List Str} {F : List FV → List PD → RN} {tA : TA} {fa : En → R (List PD)} (hm : m ∉ ns) (hn : ∀ en ds, fa en = .ok ds → ds.length = n) (ha : EdA C.n tA fa) : EdFE C (tMeth (Tabl.C c) m (spMN C.K C.cl c ns n F) [] C.E (tVar i) tA) (xMethN i c ns F fa) := fun H0 ext reg en σ H rs Q w => by
  unfold xMethN at w
  cases e : en[i]? with
  | none => rw [e] at w; exact w.elim
  | some sv =>
    rw [e] at w
    cases sv with
    | ob m0 c' ns' o =>
      dsimp only at w
      split at w
      case isFalse => exact w.elim
      rename_i hc
      obtain ⟨rfl, rfl⟩ := hc
      obtain ⟨p, dx, vs, L, h1, h2, h3, h4, h5, hl, h6⟩ := rs.atO e
      refine ⟨_, h1, p, dx, vs, rfl, h4, lookup_no h5 hm, ha H0 ext reg en σ H rs _ ?_⟩
      cases ef : fa en with
      | exc x => rw [ef] at w; exact w.elim
      | stuck => rw [ef] at w; exact w.elim
      | ok ds =>
        rw [ef] at w
        dsimp only at w
        intro us H1 e1 hu
        rw [List.append_nil]
        refine (rs.ex e1).spON e h1 (by rw [hu.length]; exact hn en _ ef) hu ?_
        generalize F o ds = z at w ⊢
        cases z with
        | ok l o' => exact fun q xs reg' H2 e2 r2 hq hx => w q xs reg' H2 (e1.toEx.hid.trans e2) r2 hq hx
        | exc x o' => exact fun reg' H2 e2 r2 => w H2 r2.le r2.tb
        | stuck => exact w
    | _ => exact w.elim
/-- e.append(x), e a new list that nobody keeps -/
def sAppN (fe : En → R (List PD × En)) (fa : En → R PD) : En → R Fl := fun en => (fe en).bind fun p => (fa p.2).noexc.bind fun _ => if p.1.length + 1 ≤ szN then .ok (.nx p.2) else .stuck
theorem es_appN {fe : En → R (List PD × En)} (h : EdFE C te fe) (ha : EdS C ta fa) : Es C (tDrop (tBM C.K "list" rAppend te (tCons ta tNil))) (sAppN fe fa) := fun H0 ext reg en σ H rs D w => h H0 ext reg en σ H rs _ (by
  unfold sAppN at w
  generalize fe en = x at w ⊢
  cases x with
  | exc c => exact w
  | stuck => exact w
  | ok p =>
    obtain ⟨ds, en1⟩ := p
    simp only [R.bind_ok] at w
    intro q xs reg1 H1 e1 r1 hq hx
    have r2 := r1.ex (Xt.new (o := .lst xs) hq)
    have hq2 : upd H1 q (.lst xs) q = some (.lst xs) := upd_same
    refine ⟨.inl ⟨rfl, xs, SqL.of hq2⟩, ha H0 ext reg1 en1 σ _ r2 _ ?_⟩
    generalize fa en1 = y at w ⊢
    cases y with
    | exc c => exact w.elim
    | stuck => exact w.elim
    | ok d =>
      simp only [R.noexc_ok, R.bind_ok] at w
      split at w
      · rename_i hl
        intro v H2 e2 hv
        have r3 := r2.ex e2
        refine ⟨q, xs, v, rfl, rfl, e2.l hq2, sz_lt (by rw [hx.length]; omega), w reg1 σ _ ?_⟩
        have nq : ∀ j, ¬ reg1 j q := fun j z => r1.fresh hq (.inr ⟨j, z⟩)
        -- nothing that is kept has this place
        have base := r1
        refine ⟨⟨fun a o h0 n => ?_⟩, tabs_wr r3.tb (e2.l hq2) rfl fun a ha => upd_ne ha, r1.exd, fun j a z => ?_, r1.dj, r1.ro, r1.len, fun j sv z => ?_⟩
        · have h1 := r1.le.k a o h0 n
          have ne : a ≠ q := fun z => by rw [z, hq] at h1; cases h1
          rw [upd_ne ne]
          exact e2.k a o (by rw [upd_ne ne]; exact h1) n
        · obtain ⟨q1, o, q2, q3⟩ := r1.rg j a z
          have ne : a ≠ q := fun z2 => nq j (z2 ▸ z)
          exact ⟨q1, o, by rw [upd_ne ne]; exact e2.k a o (by rw [upd_ne ne]; exact q2) q3, q3⟩
        · obtain ⟨u, h1, h2⟩ := r1.sl j sv z
          refine ⟨u, h1, h2.mono ⟨fun a o ha n => ?_⟩ fun a o _ ha n => ?_⟩
          · obtain ⟨z1, ha⟩ := hid_some ha
            have ne : a ≠ q := fun z => by rw [z, hq] at ha; cases ha
            rw [hid_at z1, upd_ne ne]
            exact e2.k a o (by rw [upd_ne ne]; exact ha) n
          · have ne : a ≠ q := fun z => by rw [z, hq] at ha; cases ha
            rw [upd_ne ne]
            exact e2.k a o (by rw [upd_ne ne]; exact ha) n
      · exact w.elim)
/-! ### an object made among several names -/
theorem RS.alienR {K : PySem.W.Frag} {H2 : Hp} {r' : AS} (r : RS K H0 ext reg en σ H) (X : Xt H H2) (k2 : ∀ a, r' a → Nn H a) (k3 : ∀ a, r' a → So H2 a) : RS K (hid H2 fun a => ∃ i, reg i a) (fun a => ext a ∨ r' a) reg en σ H2 := by
  have q := (r.ex X).lift
  have nr : ∀ i a, r' a → ¬ reg i a := fun i a z y => (So.nn (r.rg i a y).2 (k2 a z))
  refine ⟨q.le, q.tb, fun a h => ?_, q.rg, q.dj, q.ro, q.len, fun j sv e => ?_⟩
  · rcases h with h | h
    · exact q.exd a h
    · obtain ⟨o, h1, h2⟩ := k3 a h
      exact ⟨o, by rw [hid_at fun ⟨i, z⟩ => nr i a h z]; exact h1, h2⟩
  · obtain ⟨v, h1, h2⟩ := r.sl j sv e
    refine ⟨v, h1, h2.mono ⟨fun a u q n => ?_⟩ fun a u z q n => X.k a u q n⟩
    obtain ⟨z, q⟩ := hid_some q
    rw [hid_at fun t => by
      rcases t with (t | t) | t
      · exact z (.inl t)
      · exact So.nn ⟨u, q, n⟩ (k2 a t)
      · exact z (.inr t)]
    exact X.k a u q n
def pM (i : Nat) (c : Str) (ns : List Str) (F : List FV → List PD → RO) (fa : En → R (List PD)) (fr : En → En → R En) : En → En → R En := fun en e => (fa en).bind fun ds => match F [] ds with
  | .ok .none o => if i < e.length then fr en (e.set i (.ob false c ns o)) else .stuck
  | .exc x _ => .exc x
  | _ => .stuck
theorem ep_M {tA ta : TA} {tg : List Nat} {fr : En → En → R En} {i n : Nat} {c : Str} {ns : List Str} {F : List FV → List PD → RO} {fa : En → R (List PD)} (hn : ∀ en ds, fa en = .ok ds → ds.length = n) (h : EdA C tA fa) (hr : EdP C ta tg fr) : EdP C (tCons (tMake (Tabl.C c) (spM C.K C.cl c ns n F) [] C.E tA) ta) (i :: tg) (pM i c ns F fa fr) := fun H0 ext reg en σ H rs H0' ext' reg' en' σ' rb hs Q w => h H0 ext reg en σ H rs _ (by
  unfold pM at w
  cases ef : fa en with
  | exc c => rw [ef] at w; exact w
  | stuck => rw [ef] at w; exact w.elim
  | ok ds =>
    rw [ef] at w
    simp only [R.bind_ok] at w
    intro us H1 e1 hu x dx nx nd ne
    have r1 := rs.ex e1
    have b1 := rb.ex e1
    rw [List.append_nil]
    refine mk_sp r1 (by rw [hu.length]; exact hn en ds ef) hu nx nd ne ?_
    generalize F [] ds = z at w ⊢
    cases z with
    | ok d o =>
      cases d with
      | none =>
        dsimp only at w
        split at w
        · rename_i hi
          intro r' H2 X k2 k3 s
          refine ⟨rfl, hr _ _ reg en σ _ (r1.alienR X k2 k3) H0' ext' _ _ _ (b1.newR (i := i) (r' := r') (v := .ref x) hi rfl (fun a o h t => X.k a o h t) (X.t r1.tb) k2 k3 ?_) (fun a z => ?_) _ (w.push (e1.trans X))⟩
          · obtain ⟨p, dx', vs, L, g1, g2, g3, g4, g5, g6⟩ := s
            refine ⟨p, dx', vs, L, g1, g2, g3, g4, g5, g6.mono ((Ex.refl H2).hidLess fun a z => ?_).le fun _ _ _ z _ => z⟩
            exact (upR_own z).imp (fun z => hs a z) fun z => z
          · rcases upR_own z with z | z
            · rcases hs a z with q | q
              · exact .inl (.inl q)
              · exact .inr q
            · exact .inl (.inr z)
        · exact w.elim
      | _ => exact w.elim
    | exc z o => exact fun H2 e2 => w H2 (e1.trans e2)
    | stuck => exact w.elim)
theorem es_parT2 {tA : TA} {i j : Nat} {f : En → En → R En} (h : EdP C tA [i, j] f) : Es C (tAsg (tTup tA) (gTup C.K 2 (gCons (gName i) (gCons (gName j) gNil)))) (sParM f) := fun H0 ext reg en σ H rs D w => h H0 ext reg en σ H rs H0 ext reg en σ rs (fun _ z => z) _ (by
  unfold sParM at w
  generalize f en en = x at w ⊢
  cases x with
  | ok e =>
    intro vs reg2 H2 e2 hl r2
    match vs, hl with
    | [u, v], _ => exact ⟨by simp [sizeLine], fun p hp => ⟨p, _, rfl, SqT.of upd_same, rfl, u, _, rfl, v, _, rfl, rfl, w _ _ _ (r2.ex (Xt.new hp))⟩⟩
  | exc c => exact WS.exc w rs.le rs.tb
  | stuck => exact w.elim)
end
section
variable {i : Nat} {c : Str} {ns : List Str} {en e : En} {F : List FV → List PD → RN} {G : List FV → List PD → RO} {fr : En → R (List PD)} {fa : En → R PD} {fe : En → R (List PD × En)} {ft : En → R Bool} {fp : En → En → R En} {ga gb : En → R (List PD)}
@[simp] theorem sRetL_ap : sRetL fr en = (fr en).bind fun ds => .ok (.rn ds en) := nrf rfl
@[simp] theorem dIfF_ap : dIfF ft ga gb en = (ft en).bind fun b => match b with
  | true => ga en
  | false => gb en := nrf rfl
@[simp] theorem xMethN_ap : xMethN i c ns F fr en = (match en[i]? with
  | some (.ob m c' ns' o) => if c' = c ∧ ns' = ns then match fr en with
      | .ok ds => (match F o ds with
        | .ok l o' => .ok (l, en.set i (.ob m c ns o'))
        | .exc x _ => .exc x
        | .stuck => .stuck)
      | _ => .stuck
    else .stuck
  | _ => .stuck) := nrf rfl
@[simp] theorem sAppN_ap : sAppN fe fa en = (fe en).bind fun p => (fa p.2).noexc.bind fun _ => if p.1.length + 1 ≤ szN then .ok (.nx p.2) else .stuck := nrf rfl
@[simp] theorem pM_ap : pM i c ns G fr fp en e = (fr en).bind fun ds => match G [] ds with
  | .ok .none o => if i < e.length then fp en (e.set i (.ob false c ns o)) else .stuck
  | .exc x _ => .exc x
  | _ => .stuck := nrf rfl
end
end Dn

/-! the greatest of a list; what a list has not. -/
namespace Dn
open PySem L2
variable [Tabl]
def maxI : Int → List Int → Int
  | m, [] => m
  | m, x :: r => maxI (if x > m then x else m) r
theorem maxI_spec : ∀ (r : List Int) (m : Int), (maxI m r = m ∨ maxI m r ∈ r) ∧ m ≤ maxI m r ∧ ∀ y ∈ r, y ≤ maxI m r
  | [], m => ⟨.inl rfl, Int.le_refl m, fun _ h => nomatch h⟩
  | x :: r, m => by
    obtain ⟨h1, h2, h3⟩ := maxI_spec r (if x > m then x else m)
    refine ⟨?_, ?_, fun y hy => ?_⟩
    · show maxI (if x > m then x else m) r = m ∨ maxI (if x > m then x else m) r ∈ x :: r
      rcases h1 with h1 | h1
      · rw [h1]
        split
        · exact .inr List.mem_cons_self
        · exact .inl rfl
      · exact .inr (List.mem_cons_of_mem _ h1)
    · show m ≤ maxI (if x > m then x else m) r
      split at h2 <;> rename_i h <;> simp only [h, if_true, if_false] <;> omega
    · show y ≤ maxI (if x > m then x else m) r
      rcases List.mem_cons.mp hy with rfl | hy
      · split at h2 <;> rename_i h <;> simp only [h, if_true, if_false] <;> omega
      · exact h3 y hy
def maxD : List PD → R PD
  | [.list ds] => match asInts ds with
    | some (m :: r) => .ok (.int (maxI m r))
    | _ => .stuck
  | _ => .stuck
theorem kx_max {X : Cx} (K : PySem.W.Frag) (h : X.K = K) (hc : X.calm = true) : CallR X (.builtin "max") (rMax K) := by subst h; exact cr_max hc
section
variable {C : Cn}
theorem n_max : OpN C (rMax C.K) maxD := fun Y Z H vs xs Q hyz hz hx q => by
  unfold maxD at q
  split at q
  · split at q
    · rename_i m r e
      obtain ⟨v, rfl, h⟩ := hx.one
      obtain ⟨p, ys, rfl, hp, hr⟩ := h.lst hyz
      rw [hr.asInts e] at hp
      refine ⟨p, m :: r, rfl, SqL.of hp, Nat.succ_pos _, fun k hk hle => ?_⟩
      obtain ⟨h1, h2, h3⟩ := maxI_spec r m
      have a1 : maxI m r ≤ k := hle _ (by
        rcases h1 with h1 | h1
        · rw [h1]; exact List.mem_cons_self
        · exact List.mem_cons_of_mem _ h1)
      have a2 : k ≤ maxI m r := by
        rcases List.mem_cons.mp hk with rfl | hk
        · exact h2
        · exact h3 k hk
      rw [show k = maxI m r by omega]
      exact q _ H (Xt.refl H) (.int _)
    · exact q.elim
  · exact q.elim
end
@[simp] theorem maxD_l {ds : List PD} : maxD [.list ds] = (match asInts ds with
    | some (m :: r) => .ok (.int (maxI m r))
    | _ => .stuck) := nrf rfl
/-! ### x in xs, where nothing is equal to it -/
def rNoIn (K : PySem.W.Frag) : R2 := fun x y H Q => ∃ d p xs ds, Dp K H x d ∧ y = .ref p ∧ SqL K H p xs ∧ DpAll K H xs ds ∧ SeqAt.shaped d = true ∧ d.depth ≤ 63 ∧ (∀ e ∈ ds, SeqAt.shaped e = true ∧ PyData.eqv e d = false) ∧ Q (.bl false) H
theorem readsAll_mem {h : Heap} : ∀ {us : List Value} {ds : List PyData} {as : List Addr}, ReadsAll h us ds as → ∀ u ∈ us, ∃ d ∈ ds, ∃ bs, Reads h u d bs
  | _, _, _, .nil, u, hu => nomatch hu
  | _, _, _, .cons h1 h2, u, hu => by
    rcases List.mem_cons.mp hu with rfl | hu
    · exact ⟨_, List.mem_cons_self, _, h1⟩
    · obtain ⟨d, hd, bs, hr⟩ := readsAll_mem h2 u hu
      exact ⟨d, List.mem_cons_of_mem _ hd, bs, hr⟩
theorem kx_noIn {X : Cx} (K : PySem.W.Frag) (h : X.K = K) (hu : X.A.units + 64 < cLine) : OpR X (compareOp .In) (rNoIn K) := by
  subst h
  intro pins s σ H x y v u Q I rx ry q
  obtain ⟨d, p, xs, ds, hd, rfl, hq, hds, sd, d63, he, q⟩ := q
  obtain rfl : u = Value.ref p := ry
  obtain ⟨its, r, pl, hz⟩ := I.list hq
  obtain ⟨as, r1⟩ := Dp.reads I d x v hd rx
  obtain ⟨bs, r2⟩ := Dp.readsAll I ds xs its hds r
  refine SeqAt.in_listAt (fun _ => false) pl.isList (fun w hw => ?_) ⟨.bl _, H, I, rfl, ?_⟩
  · obtain ⟨e, e1, cs, hr⟩ := readsAll_mem r2 w (by simpa using hw)
    obtain ⟨se, ne⟩ := he e e1
    have := SeqAt.eqAt_reads e d X.A.in1 s w v cs as hr r1 (SeqAt.canLay_of_shaped se) (SeqAt.canLay_of_shaped sd) (by show X.A.units + 1 + min e.depth d.depth < cLine; omega)
    rw [ne] at this
    exact this
  · rw [show its.toArray.any (fun _ => false) = false by simp]
    exact q
def noInD (x y : PD) : R PD := match y with
  | .list ds => if (SeqAt.shaped x && decide (x.depth ≤ 63) && ds.all fun e => SeqAt.shaped e && !PyData.eqv e x) = true then .ok (.bool false) else .stuck
  | _ => .stuck
theorem o_noIn {C : Cn} : Op2 C (rNoIn C.K) noInD := fun Y Z H v w x y Q hyz hz hx hy q => by
  unfold noInD at q
  split at q
  · rename_i ds
    split at q
    · rename_i hs
      rw [Bool.and_eq_true, Bool.and_eq_true] at hs
      obtain ⟨p, ys, rfl, hp, hr⟩ := hy.lst hyz
      have h2 : ∀ e ∈ ds, SeqAt.shaped e = true ∧ PyData.eqv e x = false := fun e he => by
        have := List.all_eq_true.mp hs.2 e he
        rw [Bool.and_eq_true] at this
        exact ⟨this.1, by simpa using this.2⟩
      have lay : ∀ l : List PD, (∀ e ∈ l, SeqAt.shaped e = true) → PyData.canLayAll0 l = true := fun l => by
        induction l with
        | nil => exact fun _ => rfl
        | cons a r ih =>
          intro h
          simp only [PyData.canLayAll0, Bool.and_eq_true]
          exact ⟨SeqAt.canLay_of_shaped (h a List.mem_cons_self), ih fun e he => h e (List.mem_cons_of_mem _ he)⟩
      exact ⟨x, p, ys, ds, (hx.rps hyz).dp (SeqAt.canLay_of_shaped hs.1.1), rfl, SqL.of hp, (hr.mono hid_ex.le).dp (lay ds fun e he => (h2 e he).1), hs.1.1, of_decide_eq_true hs.1.2, h2, q _ H (Xt.refl H) (.bl false)⟩
    · exact q.elim
  · exact q.elim
@[simp] theorem noInD_l {x : PD} {ds : List PD} : noInD x (.list ds) = if (SeqAt.shaped x && decide (x.depth ≤ 63) && ds.all fun e => SeqAt.shaped e && !PyData.eqv e x) = true then .ok (.bool false) else .stuck := nrf rfl
end Dn

/-! replace of a sign of a text in a written text. -/
namespace Dn
open PySem L2 PySem.Spec PyProof.Rows
section
variable {X : Cx}
def tReplIx (x z : Str) (ta tb : TE) : TE := fun σ H Q => ta σ H fun v H1 => tb σ H1 fun u H2 => ∃ y i c, v = .str y ∧ u = .int i ∧ y.length ≤ sizeLine ∧ atI y.cps.toList i = some c ∧ ((⟨#[c]⟩ : Str) == z) = false ∧ x.length + (x.length + 1) * z.length ≤ 16777216 ∧ Q (.str (Txt.replace x ⟨#[c]⟩ z)) H2
theorem pe_replIx {a b : Expr} {ta tb : TE} {x z : Str} {j0 j1 : Nat} {c0 c1 apos pos spos : Pos} (ha : PE X a ta) (hb : PE X b tb) (hs : PlainIx b)
    (hbase : attributeBase (.Constant (.str x) j0 c0) "replace" X.env (eval (.Constant (.str x) j0 c0) X.env) = eval (.Constant (.str x) j0 c0) X.env := by rfl) (hst : starEach [.Subscript a b spos, .Constant (.str z) j1 c1] X.env = [(false, eval (.Subscript a b spos) X.env), (false, eval (.Constant (.str z) j1 c1) X.env)] := by rfl) (hline : (apos.endLine == pos.line) = true := by rfl) :
    PE X (.Call (.Attribute (.Constant (.str x) j0 c0) "replace" apos) [.Subscript a b spos, .Constant (.str z) j1 c1] [] pos) (tReplIx x z ta tb) := by
  refine ⟨fun pins s σ H Q I h => ?_⟩
  refine PySem.Call_method2 hbase hst hline (Calls.Constant_str ?_)
  refine ⟨"str", _, F.plainAttrs_str, F.slot_str_replace, F.type_str_replace, typeIs_str _ _ _, (fun _ e => nomatch e), Calls.callWith_builtin rfl (Calls.evalArgs_plain (Calls.spliced_cons ?_))⟩
  have I0 : Inv X pins σ H { s with toks := s.toks + 1 } := I.tok _
  refine Subscript_ (wpAny_mono (PySem.wpAny_toks (ha.run pins _ σ H _ I0 h)) (fun v s1 q => ?_) fun _ _ z => z.2)
  obtain ⟨k1, v', H1, I1, r1, q1⟩ := q
  refine wpAny_mono (PySem.wpAny_toks (hb.run pins s1 σ H1 _ I1 q1)) (fun u s2 q => ?_) fun _ _ z => z.2
  obtain ⟨k2, u', H2, I2, r2, y, i, c, rfl, rfl, hy, he, hyz, hb', q2⟩ := q
  obtain ⟨t, rfl⟩ := r1
  obtain ⟨t', rfl⟩ := r2
  obtain ⟨j, h1, h2, h3, h4, h5⟩ := atI_get he
  have hl : y.cps.toList.length = y.length := by simp [Str.length]
  rw [hl] at h1 h4 h5
  have hn := line63
  have k1' : s.toks + 1 ≤ s1.toks := k1
  refine tail_any (typeIs_str s2 y t) slot_str_getitem.lookup (getItem_str (c := c) (by
    have e1 : decide (i < -(2 ^ 63 : Int)) = false := decide_eq_false (by omega)
    have e2 : decide (i ≥ 2 ^ 63) = false := decide_eq_false (by omega)
    rw [e1, e2, Bool.or_false]) (by rw [h1]; simpa using h2) ?_) (hs _ _)
  refine Calls.spliced_cons (Calls.Constant_str (Calls.spliced_nil ?_))
  exact PySem.SC.replace (show s2.toks ≠ 0 by omega) (show s2.toks + 1 ≠ 0 by omega) (show s2.toks ≠ s2.toks + 1 by omega) hyz hb' fun t' k => ⟨.str (Txt.replace x ⟨#[c]⟩ z), H2, I2.tok k, ⟨t', rfl⟩, q2⟩
end
variable [Tabl]
/-- 'x'.replace(a[b], 'z') -/
def replIxD (x z : Str) (v u : PD) : R PD := match v with
  | .str y => (match u with
    | .int i => (match atI y.cps.toList i with
      | some c => if y.length ≤ szN ∧ ((⟨#[c]⟩ : Str) == z) = false ∧ x.length + (x.length + 1) * z.length ≤ 16777216 then .ok (.str (Txt.replace x ⟨#[c]⟩ z)) else .stuck
      | none => .stuck)
    | _ => .stuck)
  | _ => .stuck
theorem ed_replIx {C : Cn} {ta tb : TE} {fa fb : En → R PD} {x z : Str} (ha : EdL C ta fa) (hb : EdL C tb fb) : EdS C (tReplIx x z ta tb) (d2 (replIxD x z) fa fb) := fun H0 ext reg en σ H rs Q w =>
  ha.seq rs (W := WrS C (own ext reg) H Q) w (fun _ q => q) (fun q => q) fun v v' H2 e2 r2 h2 w2 =>
    hb.seq r2 (W := WrS C (own ext reg) H2 Q) (w2.ex e2) (fun _ q => q) (fun q => q) fun u u' H3 e3 r3 h3 w3 => by
      have w4 := WrS.ex w3 e3
      unfold replIxD at w4
      split at w4
      · split at w4
        · split at w4
          · rename_i c ec
            split at w4
            · rename_i hc
              exact ⟨_, _, c, h2.str, h3.int, sz_of hc.1, ec, hc.2.1, hc.2.2, w4 _ H3 (Xt.refl H3) (.str _)⟩
            · exact w4.elim
          · exact w4.elim
        · exact w4.elim
      · exact w4.elim
end Dn

/-! zip of two texts. -/
namespace Dn
open PySem L2 PySem.Spec PyProof.Rows
/-- two texts side by side, their signs in new pairs -/
def ItZs (x y : Str) : It := ⟨fun i _ => i < x.cps.size ∧ i < y.cps.size, fun i H v H' => ∃ T c d, v = .ref T ∧ H T = none ∧ x.cps[i]? = some c ∧ y.cps[i]? = some d ∧ H' = upd H T (.tup [.str ⟨#[c]⟩, .str ⟨#[d]⟩]), fun i _ => i ≤ x.cps.size ∧ i ≤ y.cps.size ∧ (i = x.cps.size ∨ i = y.cps.size)⟩
/-- the five cells of such a walk -/
structure StZs (x y : Str) (t u : Tok) (N : Nat) (i : Nat) (h : Heap) : Prop where
  z : IsZip h (N + 4) (N + 2) (N + 3) .none
  ti : IsTupOf2 h (N + 2) (.ref N) (.ref (N + 1))
  to : ∃ p q, IsTupOf2 h (N + 3) p q
  a : h.IsStrIter N (strIterType x) x t i
  b : h.IsStrIter (N + 1) (strIterType y) y u i
abbrev fpZ (N : Nat) : List Addr := [N + 4, N + 2, N + 3, N, N + 1]
theorem five {N : Nat} {c : Addr} (h : c ∈ fpZ N) : c = N + 4 ∨ c = N + 2 ∨ c = N + 3 ∨ c = N ∨ c = N + 1 := by simpa using h
theorem turn_zipS {P : Program} {w : World} {K : PySem.W.Frag} {elts : List Expr} {kk : Nat} {tpos : Pos} (x y : Str) (t u : Tok) (N : Nat) :
    Turn P w K (.Tuple elts kk tpos) (ItZs x y) (fpZ N) (N + 4) (StZs x y t u N) where
  mem := List.mem_cons_self ..
  obj := fun i h st c hc => by
    obtain ⟨hz, hTI, ⟨p, q, hTO⟩, ⟨o1, e1, _, d1⟩, ⟨o2, e2, _, d2⟩⟩ := st
    rcases five hc with r | r | r | r | r
    · exact r ▸ ⟨_, hz, fun v q => nomatch q⟩
    · exact r ▸ ⟨_, hTI, fun v q => nomatch q⟩
    · exact r ▸ ⟨_, hTO, fun v q => nomatch q⟩
    · exact r ▸ ⟨o1, e1, fun v q => by rw [d1] at q; cases q⟩
    · exact r ▸ ⟨o2, e2, fun v q => by rw [d2] at q; cases q⟩
  keep := fun i h h' st k => by
    obtain ⟨hz, hTI, ⟨p, q, hTO⟩, ⟨o1, e1, r1⟩, ⟨o2, e2, r2⟩⟩ := st
    exact ⟨k _ (by simp) _ hz, k _ (by simp) _ hTI, ⟨p, q, k _ (by simp) _ hTO⟩, ⟨o1, k _ (by simp) _ e1, r1⟩, ⟨o2, k _ (by simp) _ e2, r2⟩⟩
  item := by
    intro X hP hw hK hc i pins s σ H E I hf st hg
    subst hP hw hK
    obtain ⟨hz, hTI, ⟨p, q, hTO⟩, h1, h2⟩ := st
    have S : ZipSep2 (N + 4) (N + 2) (N + 3) N (N + 1) [N] [N + 1] := zip_sep2 (fp1 := []) (fp2 := []) (fun _ h => nomatch h) fun _ h => nomatch h
    have hzl : N + 4 < s.heap.objs.size := Heap.lt_size hz
    refine wpAny_pyNext_zipD2_item S (Draws.text (A := X.A.in1) (I.ok.hd hc) N x t) (Draws.text (A := X.A.in1) (I.ok.hd hc) (N + 1) y u) hz hTI hTO h1 h2 hg.1 hg.2 fun v1 v2 h' tk p1 p2 z' to' a' b' hT hsz hk => ?_
    obtain ⟨c, tc, hcx, rfl⟩ := p1
    obtain ⟨d, td, hdx, rfl⟩ := p2
    refine ⟨_, rfl, wpAny_letOwnedTupleGo_zip (s := { s with heap := h', toks := tk }) z' fun h'' z'' sb => ?_⟩
    have ob : ObjOk X.prog X.w (upd H s.heap.objs.size (.tup [.str ⟨#[c]⟩, .str ⟨#[d]⟩])) h'' s.heap.objs.size (.tup [.str ⟨#[c]⟩, .str ⟨#[d]⟩]) :=
      ⟨by show 2 ≤ sizeLine; decide, [.str ⟨#[c]⟩ tc, .str ⟨#[d]⟩ td], .cons ⟨_, rfl⟩ (.cons ⟨_, rfl⟩ .nil), ⟨_, (sb.2 _ (Nat.ne_of_gt hzl)).trans hT, rfl, _, rfl⟩⟩
    have I1 : Inv X pins σ (upd H s.heap.objs.size (.tup [.str ⟨#[c]⟩, .str ⟨#[d]⟩])) { s with heap := h'', toks := tk } :=
      I.turnedNew (ch := fpZ N) (fun e o ne l => (sb.2 e fun r => ne (by simp [r])).trans (hk e o (fun r => ne (by simp [r])) (fun r => ne (by simp [r])) (fun r => ne (by simp [r])) (fun r => ne (by simp [r])) l)) hf (Nat.le_refl _) ob
    refine ⟨.ref s.heap.objs.size, _, I1, rfl, ⟨_, c, d, rfl, I.hok.fresh (Nat.le_refl _), hcx, hdx, rfl⟩, ⟨z'', (sb.2 _ S.TIz).trans (hk _ _ S.TIz S.TITO S.TIi1 S.TIi2 hTI), ⟨_, _, (sb.2 _ S.TOz).trans to'⟩, ?_, ?_⟩, fun e he => ?_⟩
    · obtain ⟨o, l, r⟩ := a'
      exact ⟨o, (sb.2 N S.zi1.symm).trans l, r⟩
    · obtain ⟨o, l, r⟩ := b'
      exact ⟨o, (sb.2 _ S.zi2.symm).trans l, r⟩
    · have lt : e < s.heap.objs.size := by
        have hzl' : (N + 4 : Nat) < s.heap.objs.size := hzl
        rcases five he with r | r | r | r | r <;> subst r <;> show (_ : Nat) < _ <;> omega
      rw [upd_ne (Nat.ne_of_lt lt)]
      exact (hf e he).1
  done := by
    intro X hP hw hK hc i pins s σ H E I hf st hg
    subst hP hw hK
    obtain ⟨hz, hTI, ⟨p, q, hTO⟩, h1, h2⟩ := st
    have S : ZipSep2 (N + 4) (N + 2) (N + 3) N (N + 1) [N] [N + 1] := zip_sep2 (fp1 := []) (fp2 := []) (fun _ h => nomatch h) fun _ h => nomatch h
    exact wpAny_pyNext_zipD2_end S (Draws.text (A := X.A.in1) (I.ok.hd hc) N x t) (Draws.text (A := X.A.in1) (I.ok.hd hc) (N + 1) y u) hz hTI hTO h1 h2 hg.1 hg.2.1 hg.2.2 fun h' tk hk =>
      ⟨rfl, I.turnedL (t' := tk) (ch := fpZ N) (fun e o ne l => hk e o (fun r => ne (by simp [r])) (fun r => ne (by simp [r])) (fun r => ne (by simp [r])) (fun r => ne (by simp [r])) l) hf⟩
  self := fun A i s Q E st h => wpAny_pyIter_zip st.z h
def iZipS (ta : TA) : TI := fun σ H R => ta σ H fun vs H1 => ∃ x y : Str, vs = [.str x, .str y] ∧ R (ItZs x y) H1
theorem pi_zipS {X : Cx} {e e2 : Expr} {ta : TA} {p pos tpos : Pos} {elts : List Expr} {kk : Nat} (hg : Gl X "zip") (hm : X.mg "zip" = none) (ha : PA X [e, e2] ta)
    (hs : starEach [e, e2] X.env = (false, eval e X.env) :: starEach [e2] X.env := by rfl) (hpl : (backTo pos (starEach [e2] X.env)).any (·.1) = false := by rfl) :
    PI X (.Tuple elts kk tpos) (.Call (.Name "zip" p) [e, e2] [] pos) (iZipS ta) := by
  refine ⟨fun pins s σ H R I h => Call_ (ld_blt I hg hm boot_zip (PyProof.Rows.callWith_type1 (thn (ha.run pos pins s σ H _ I h) fun us s1 ⟨vs, H1, I1, r1, x, y, ex, q⟩ => ?_) hs hpl))⟩
  subst ex
  cases r1 with
  | cons r rr =>
    cases rr with
    | cons r' rr =>
      cases rr
      obtain ⟨t, rfl⟩ := r
      obtain ⟨u, rfl⟩ := r'
      refine zip_begins2 (begins_text x t) (begins_text y u) trivial trivial fun h' hz hTI hTO g1 g2 hsz hk => wpAny_pyIter_zip hz ?_
      have I2 : Inv X pins σ H1 { s1 with heap := h' } := I1.kept (t' := s1.toks) hk
      refine ⟨_, fpZ s1.heap.objs.size, _, _, H1, rfl, I2, turn_zipS x y t u s1.heap.objs.size, ⟨hz, hTI, ⟨_, _, hTO⟩, ⟨_, g1, rfl, rfl⟩, ⟨_, g2, rfl, rfl⟩⟩, fun c hc => ?_, q⟩
      have hle : s1.heap.objs.size ≤ c := by
        rcases five hc with r | r | r | r | r <;> subst r <;> show (_ : Nat) ≤ _ <;> omega
      exact I1.fpOk hle (I1.hok.fresh hle)
def zipT : List PD → R (List PD)
  | [.str x, .str y] => .ok (zipD (signL x) (signL y))
  | _ => .stuck
theorem signL_get {x : Str} {i : Nat} {d : PD} (h : (signL x)[i]? = some d) : ∃ c, x.cps[i]? = some c ∧ d = .str ⟨#[c]⟩ := by
  unfold signL at h
  rw [List.getElem?_map] at h
  cases ec : x.cps.toList[i]? with
  | none => rw [ec] at h; cases h
  | some c =>
    rw [ec] at h
    rw [Array.getElem?_toList] at ec
    exact ⟨c, ec, (Option.some.inj h).symm⟩
theorem signL_len (x : Str) : (signL x).length = x.cps.size := by unfold signL; simp
section
variable [Tabl] {C : Cn}
theorem ei_zipS {ta : TA} {fa : En → R (List PD)} (h : EdB C ta fa) : EdI C (iZipS ta) (dItA zipT fa) := fun H0 ext reg en σ H rs Q w =>
  h.seq rs (W := WrI C (own ext reg) H Q) w (fun _ q => q) (fun q => q) fun x v H2 e2 r2 h2 w2 => by
    unfold zipT at w2
    split at w2
    · rename_i x y
      obtain ⟨v, u, rfl, hv, hu⟩ := h2.two
      obtain rfl := hv.str
      obtain rfl := hu.str
      refine ⟨x, y, rfl, w2 _ H2 e2 fun Z H' e' hz i => ⟨fun d hd => ?_, fun hl => ?_⟩⟩
      · obtain ⟨a, b, ha, hb, rfl⟩ := zipD_get hd
        obtain ⟨c, hc, rfl⟩ := signL_get ha
        obtain ⟨d, hdy, rfl⟩ := signL_get hb
        refine ⟨⟨(Array.getElem?_eq_some_iff.mp hc).1, (Array.getElem?_eq_some_iff.mp hdy).1⟩, ?_⟩
        rintro z H'' ⟨T, c', d', rfl, nT, hc', hd', rfl⟩
        obtain rfl := Option.some.inj (hc.symm.trans hc')
        obtain rfl := Option.some.inj (hdy.symm.trans hd')
        exact ⟨Xt.new nT, Rp.newT hz nT (.cons (.str _) (.cons (.str _) .nil))⟩
      · unfold zipD at hl
        rw [List.length_map, List.length_zip, signL_len, signL_len] at hl
        show i ≤ _ ∧ i ≤ _ ∧ (i = _ ∨ i = _)
        omega
    · exact w2.elim
end
end Dn

/-! data by their order: less, least, greatest, sorted, of any data that are alike. -/
namespace Dn
open PySem L2
variable [Tabl]
abbrev lessD (x y : PD) : Bool := PySem.W.dataLt x y
mutual
/-- of the same shape all through -/
def sal : PD → PD → Bool
  | .none, .none => true
  | .bool _, .bool _ => true
  | .int _, .int _ => true
  | .str _, .str _ => true
  | .list xs, .list ys => salA xs ys
  | .tuple xs, .tuple ys => salA xs ys
  | _, _ => false
def salA : List PD → List PD → Bool
  | x :: xs, y :: ys => sal x y && salA xs ys
  | [], [] => true
  | _, _ => false
end
mutual
theorem sal_symm : ∀ (x y : PD), sal x y = true → sal y x = true
  | .none, y, h => by cases y <;> simp_all [sal]
  | .bool _, y, h => by cases y <;> simp_all [sal]
  | .int _, y, h => by cases y <;> simp_all [sal]
  | .str _, y, h => by cases y <;> simp_all [sal]
  | .list xs, y, h => by
    cases y with
    | list ys =>
      simp only [sal] at h ⊢
      exact salA_symm xs ys h
    | _ => simp [sal] at h
  | .tuple xs, y, h => by
    cases y with
    | tuple ys =>
      simp only [sal] at h ⊢
      exact salA_symm xs ys h
    | _ => simp [sal] at h
  | .dict _, y, h => by cases y <;> simp [sal] at h
theorem salA_symm : ∀ (xs ys : List PD), salA xs ys = true → salA ys xs = true
  | [], [], _ => rfl
  | [], _ :: _, h => by simp [salA] at h
  | _ :: _, [], h => by simp [salA] at h
  | x :: xs, y :: ys, h => by
    simp only [salA, Bool.and_eq_true] at h ⊢
    exact ⟨sal_symm x y h.1, salA_symm xs ys h.2⟩
end
mutual
theorem sal_trans : ∀ (x y z : PD), sal x y = true → sal y z = true → PySem.W.alike x z = true
  | .none, y, z, h, g => by cases y <;> cases z <;> simp_all [sal, PySem.W.alike]
  | .bool _, y, z, h, g => by cases y <;> cases z <;> simp_all [sal, PySem.W.alike]
  | .int _, y, z, h, g => by cases y <;> cases z <;> simp_all [sal, PySem.W.alike]
  | .str _, y, z, h, g => by cases y <;> cases z <;> simp_all [sal, PySem.W.alike]
  | .list xs, y, z, h, g => by
    cases y with
    | list ys =>
      cases z with
      | list zs =>
        simp only [sal] at h g
        simp only [PySem.W.alike]
        exact salA_trans xs ys zs h g
      | _ => simp [sal] at g
    | _ => simp [sal] at h
  | .tuple xs, y, z, h, g => by
    cases y with
    | tuple ys =>
      cases z with
      | tuple zs =>
        simp only [sal] at h g
        simp only [PySem.W.alike]
        exact salA_trans xs ys zs h g
      | _ => simp [sal] at g
    | _ => simp [sal] at h
  | .dict _, y, z, h, g => by cases y <;> simp [sal] at h
theorem salA_trans : ∀ (xs ys zs : List PD), salA xs ys = true → salA ys zs = true → PySem.W.alikeAll xs zs = true
  | [], _, _, _, _ => by simp [PySem.W.alikeAll]
  | _ :: _, [], _, h, _ => by simp [salA] at h
  | _ :: _, _ :: _, [], _, g => by simp [salA] at g
  | x :: xs, y :: ys, z :: zs, h, g => by
    simp only [salA, Bool.and_eq_true] at h g
    simp only [PySem.W.alikeAll, Bool.and_eq_true]
    exact ⟨sal_trans x y z h.1 g.1, salA_trans xs ys zs h.2 g.2⟩
end
/-- flat enough, no None -/
def ordOne (x : PD) : Bool := SeqAt.shaped x && decide (x.depth ≤ 60) && (match x with | .none => false | _ => true)
/-- of one shape, flat enough, no None -/
def ordOk (ds : List PD) : Bool := ds.all ordOne && (match ds with | [] => true | d :: _ => ds.all fun y => sal d y)
theorem ordOk_get {ds : List PD} (h : ordOk ds = true) : ∀ x ∈ ds, SeqAt.shaped x = true ∧ x.depth ≤ 60 ∧ x ≠ .none ∧ ∀ y ∈ ds, PySem.W.alike x y = true := fun x hx => by
  unfold ordOk at h
  rw [Bool.and_eq_true] at h
  have a := List.all_eq_true.mp h.1 x hx
  unfold ordOne at a
  rw [Bool.and_eq_true, Bool.and_eq_true] at a
  refine ⟨a.1.1, of_decide_eq_true a.1.2, fun e => ?_, fun y hy => ?_⟩
  · rw [e] at a
    exact absurd a.2 (by simp)
  · cases ds with
    | nil => cases hx
    | cons d r =>
      have k := List.all_eq_true.mp h.2
      exact sal_trans x d y (sal_symm _ _ (k x hx)) (k y hy)
theorem ordOk_lay : ∀ {ds : List PD}, (∀ x ∈ ds, SeqAt.shaped x = true) → PyData.canLayAll0 ds = true
  | [], _ => rfl
  | x :: r, h => by
    simp only [PyData.canLayAll0, Bool.and_eq_true]
    exact ⟨SeqAt.canLay_of_shaped (h x List.mem_cons_self), ordOk_lay fun e he => h e (List.mem_cons_of_mem _ he)⟩
theorem depthAll_le : ∀ {ds : List PD}, (∀ x ∈ ds, x.depth ≤ 60) → PyData.depthAll ds ≤ 60
  | [], _ => by simp [PyData.depthAll]
  | x :: r, h => by
    have a := h x List.mem_cons_self
    have b := depthAll_le (ds := r) fun e he => h e (List.mem_cons_of_mem _ he)
    simp only [PyData.depthAll]
    omega
theorem ordOk_alikeAll {ds : List PD} (h : ordOk ds = true) : PySem.W.AlikeAll ds := ⟨fun x hx y hy => (ordOk_get h x hx).2.2.2 y hy, fun x hx => (ordOk_get h x hx).2.2.1⟩
/-! ### x < y -/
def ltA (x y : PD) : R PD := match x, y with
  | .int i, .int j => .ok (.bool (decide (i < j)))
  | _, _ => if ordOk [x, y] = true then .ok (.bool (lessD x y)) else .stuck
def rLtD (K : PySem.W.Frag) : R2 := fun x y H Q => ∃ d e, Dp K H x d ∧ Dp K H y e ∧ ordOk [d, e] = true ∧ Q (.bl (lessD d e)) H
def rLtA (K : PySem.W.Frag) : R2 := rOr (rI0 fun i j => .bl (decide (i < j))) (rLtD K)
theorem op_ltD {X : Cx} (hu : X.A.units + 64 < cLine) : OpR X (compareOp .Lt) (rLtD X.K) := by
  intro pins s σ H x y v u Q I rx ry q
  obtain ⟨d, e, hd, he, ok, q⟩ := q
  obtain ⟨as, r1⟩ := Dp.reads I d x v hd rx
  obtain ⟨bs, r2⟩ := Dp.reads I e y u he ry
  obtain ⟨o1, o2, o3, o4⟩ := ordOk_get ok d List.mem_cons_self
  refine PySem.W.lt_data r1 r2 (o4 e (List.mem_cons_of_mem _ List.mem_cons_self)) o3 (by omega) ⟨.bl _, H, I, rfl, q⟩
theorem kx_ltA {X : Cx} (K : PySem.W.Frag) (h : X.K = K) (hu : X.A.units + 64 < cLine) : OpR X (compareOp .Lt) (rLtA K) := by
  subst h
  exact opOr op_lt (op_ltD hu)
theorem o_ltA {C : Cn} : Op2 C (rLtA C.K) ltA := fun Y Z H v w x y Q hyz hz hx hy q => by
  unfold ltA at q
  split at q
  · rename_i i j
    exact .inl ⟨i, j, hx.int, hy.int, q _ H (Xt.refl H) (.bl _)⟩
  · split at q
    · rename_i ok
      obtain ⟨o1, _⟩ := ordOk_get ok x List.mem_cons_self
      obtain ⟨o2, _⟩ := ordOk_get ok y (List.mem_cons_of_mem _ List.mem_cons_self)
      exact .inr ⟨x, y, (hx.rps hyz).dp (SeqAt.canLay_of_shaped o1), (hy.rps hyz).dp (SeqAt.canLay_of_shaped o2), ok, q _ H (Xt.refl H) (.bl _)⟩
    · exact q.elim
/-! ### the least of a list -/
def minA : List PD → R PD
  | [.list (d :: ds)] => if ordOk (d :: ds) = true then .ok (PySem.W.minD d ds) else .stuck
  | _ => .stuck
def rMinB (K : PySem.W.Frag) : List V → Hp → VK → Prop := fun vs H Q => ∃ a xs d ds, vs = [.ref a] ∧ SqL K H a xs ∧ DpAll K H xs (d :: ds) ∧ ordOk (d :: ds) = true ∧
  ∀ (i : Nat) v, xs[i]? = some v → (d :: ds)[i]? = some (PySem.W.minD d ds) → Q v H
theorem vals_at : ∀ {xs : List V} {us : List Value}, Vals xs us → ∀ {i : Nat} {u : Value}, us[i]? = some u → ∃ v, xs[i]? = some v ∧ RelV v u
  | _, _, .nil, _, _, h => by simp at h
  | _, _, .cons h t, 0, u, e => by simp at e; subst e; exact ⟨_, rfl, h⟩
  | _, _, .cons h t, i + 1, u, e => by
    obtain ⟨v, h1, h2⟩ := vals_at t (i := i) (by simpa using e)
    exact ⟨v, by simpa using h1, h2⟩
theorem minD_mem (d : PD) (ds : List PD) : PySem.W.minD d ds ∈ d :: ds := by
  unfold PySem.W.minD
  induction ds generalizing d with
  | nil => exact List.mem_cons_self
  | cons e r ih =>
    rw [List.foldl_cons]
    split
    · exact List.mem_cons_of_mem _ (ih e)
    · rcases List.mem_cons.mp (ih d) with h | h
      · rw [h]; exact List.mem_cons_self
      · exact List.mem_cons_of_mem _ (List.mem_cons_of_mem _ h)
theorem cr_minB {X : Cx} (hc : X.calm = true) (hu : X.A.units + 64 < cLine) : CallR X (.builtin "min") (rMinB X.K) := by
  intro pins s σ H vs us Q I r h
  obtain ⟨a, xs, d, ds, rfl, hs, hd, ok, q⟩ := h
  obtain ⟨its, rv, hl, hz⟩ := I.list hs
  obtain ⟨u, rfl, ru⟩ := vals1 r
  obtain rfl : u = Value.ref a := ru
  obtain ⟨as, ra⟩ := Dp.readsAll I (d :: ds) xs its hd rv
  refine PySem.W.min_list_data (I.ok.hd hc) hl.isList (by simpa using ra) (ordOk_alikeAll ok) (by have := depthAll_le (ds := d :: ds) fun x hx => (ordOk_get ok x hx).2.1; omega) fun i v h' tk bs hi hr kp => ?_
  have hi' : its[i]? = some v := by simpa using hi
  obtain ⟨v', hv', rv'⟩ := vals_at rv hi'
  obtain ⟨cs, r1, r2, r3, _⟩ := PySem.W.readsAll_at ra i v hi'
  have e := PySem.W.alike_unique _ _ v _ _ ((ordOk_alikeAll ok).1 _ r3 _ (minD_mem d ds)) (PyProof.Rows.Reads.keeps kp r1) hr
  refine ⟨v', H, I.kept (t' := tk) kp, rv', q i v' hv' ?_⟩
  rw [← e, List.getD_eq_getElem?_getD, List.getElem?_eq_getElem r2]
  rfl
theorem kx_minA {X : Cx} (K : PySem.W.Frag) (h : X.K = K) (hc : X.calm = true) (hu : X.A.units + 64 < cLine) : CallR X (.builtin "min") (rMinB K) := by
  subst h
  exact cr_minB hc hu
theorem n_minA {C : Cn} : OpN C (rMinB C.K) minA := fun Y Z H vs xs Q hyz hz hx q => by
  unfold minA at q
  split at q
  · split at q
    · rename_i d ds ok
      obtain ⟨v, rfl, h⟩ := hx.one
      obtain ⟨p, ys, rfl, hp, hr⟩ := h.lst hyz
      refine ⟨p, ys, d, ds, rfl, SqL.of hp, (hr.mono hid_ex.le).dp (ordOk_lay fun x hx => (ordOk_get ok x hx).1), ok, fun i v hv hd => ?_⟩
      obtain ⟨d', e1, e2⟩ := hr.getV hv
      rw [hd] at e1
      cases e1
      exact q _ H (Xt.refl H) e2
    · exact q.elim
  · exact q.elim
/-! ### sorted -/
abbrev leAll : PD → PD → Bool := PySem.W.dataLe false id
/-- tuples that are not empty, or no tuples -/
def srtOk (ds : List PD) : Bool := (ds.all fun d => match d with | .tuple (_ :: _) => true | _ => false) || ds.all fun d => match d with | .tuple _ => false | _ => true
theorem srtOk_get {ds : List PD} (h : srtOk ds = true) (n : ∀ d ∈ ds, d ≠ .none) : PySem.W.Sortable ds := by
  unfold srtOk at h
  rw [Bool.or_eq_true] at h
  rcases h with h | h
  · refine .inl fun d hd => ?_
    have a := List.all_eq_true.mp h d hd
    split at a
    · exact ⟨_, _, rfl⟩
    · cases a
  · refine .inr fun d hd => ⟨n d hd, fun xs e => ?_⟩
    have a := List.all_eq_true.mp h d hd
    rw [e] at a
    cases a
def sortA : List PD → R (List PD)
  | [.list ds] => if (ordOk ds && srtOk ds && decide (ds.length ≤ szN)) = true then .ok (ds.mergeSort leAll) else .stuck
  | _ => .stuck
def rSortB (K : PySem.W.Frag) : List V → Hp → VK → Prop := fun vs H Q => ∃ a xs ds, vs = [.ref a] ∧ SqL K H a xs ∧ DpAll K H xs ds ∧ ordOk ds = true ∧ srtOk ds = true ∧
  ∀ p, H p = none → Q (.ref p) (upd H p (.lst (((xs.zip ds).mergeSort (PySem.W.dataLe false (·.2))).map (·.1))))
theorem each_zip {K : PySem.W.Frag} {H : Hp} : ∀ {us : List Value} {xs : List V} {ds : List PD}, Vals xs us → DpAll K H xs ds → PySem.W.EachIs (fun u (b : V × PD) => RelV b.1 u ∧ Dp K H b.1 b.2) us (xs.zip ds)
  | _, _, _, .nil, .nil => .nil
  | _, _, _, .cons h t, .cons g r => .cons ⟨h, g⟩ (each_zip t r)
theorem dpAll_length {K : PySem.W.Frag} {H : Hp} : ∀ {xs : List V} {ds : List PD}, DpAll K H xs ds → xs.length = ds.length
  | _, _, .nil => rfl
  | _, _, .cons _ r => by simp [dpAll_length r]
theorem each_vals {P : V × PD → Prop} : ∀ {us : List Value} {bs : List (V × PD)}, PySem.W.EachIs (fun u (b : V × PD) => RelV b.1 u ∧ P b) us bs → Vals (bs.map (·.1)) us
  | _, _, .nil => .nil
  | _, _, .cons h t => .cons h.1 (each_vals t)
theorem cr_sortB {X : Cx} (hu : X.A.units + 64 < cLine) : CallR X (.builtin "sorted") (rSortB X.K) := by
  intro pins s σ H vs us Q I r h
  obtain ⟨a, xs, ds, rfl, hs, hd, ok, so, q⟩ := h
  obtain ⟨its, rv, hl, hz⟩ := I.list hs
  obtain ⟨u, rfl, ru⟩ := vals1 r
  obtain rfl : u = Value.ref a := ru
  have hlen := dpAll_length hd
  have m2 : (xs.zip ds).map (·.2) = ds := List.map_snd_zip (by rw [hlen]; exact Nat.le_refl _)
  have ez := each_zip (K := X.K) (H := H) rv hd
  refine PySem.W.sorted_data (R := fun u (b : V × PD) => RelV b.1 u ∧ Dp X.K H b.1 b.2) (enc := (·.2)) (bs := xs.zip ds) hl.isList ez (ez.mono fun u b h => Dp.reads I b.2 b.1 u h.2 h.1) (by rw [m2]; exact fun x hx y hy => (ordOk_get ok x hx).2.2.2 y hy)
    (by rw [m2]; exact srtOk_get so fun d hd => (ordOk_get ok d hd).2.2.1) (by rw [List.length_zip, hlen, Nat.min_self, ← hlen]; exact hz) (fun b hb => ?_) fun out ho he => ?_
  · have := (ordOk_get ok b.2 (by rw [← m2]; exact List.mem_map.mpr ⟨b, hb, rfl⟩)).2.1
    omega
  · have hn : H (s.heap.objs.size + 1) = none := I.hok.fresh (Nat.le_succ _)
    obtain ⟨n, hat⟩ := PyProof.Rows.sortedAll_at s.heap its out.toArray
    refine ⟨.ref (s.heap.objs.size + 1), _, I.laid (t' := s.toks) (fun b o e => PyProof.Rows.sortedAll_old e) (Nat.le_succ _) (show ObjOk X.prog X.w _ _ _ (.lst (((xs.zip ds).mergeSort (PySem.W.dataLe false (·.2))).map (·.1))) from ⟨?_, out, n, each_vals he, hat⟩), rfl, q _ hn⟩
    rw [List.length_map, ← he.length, ho, List.length_zip, hlen, Nat.min_self, ← hlen]
    exact hz
theorem kx_sortB {X : Cx} (K : PySem.W.Frag) (h : X.K = K) (hu : X.A.units + 64 < cLine) : CallR X (.builtin "sorted") (rSortB K) := by
  subst h
  exact cr_sortB hu
theorem rpa_of_zip {K : PySem.W.Frag} {H : Hp} : ∀ {xs : List V} {ds : List PD}, RpA K H xs ds → ∀ b ∈ xs.zip ds, Rp K H b.1 b.2
  | _, _, .nil, b, h => by simp at h
  | _, _, .cons h t, b, hb => by
    rcases List.mem_cons.mp hb with rfl | hb
    · exact h
    · exact rpa_of_zip t b hb
theorem rpa_maps {K : PySem.W.Frag} {H : Hp} : ∀ {bs : List (V × PD)}, (∀ b ∈ bs, Rp K H b.1 b.2) → RpA K H (bs.map (·.1)) (bs.map (·.2))
  | [], _ => .nil
  | b :: r, h => .cons (h b List.mem_cons_self) (rpa_maps fun c hc => h c (List.mem_cons_of_mem _ hc))
theorem f_sortA {C : Cn} : OpF C (rSortB C.K) sortA := fun Y Z H vs xs Q hyz hz hx q => by
  unfold sortA at q
  split at q
  · split at q
    · rename_i ds ok
      rw [Bool.and_eq_true, Bool.and_eq_true] at ok
      obtain ⟨v, rfl, h⟩ := hx.one
      obtain ⟨p, ys, rfl, hp, hr⟩ := h.lst hyz
      refine ⟨p, ys, ds, rfl, SqL.of hp, (hr.mono hid_ex.le).dp (ordOk_lay fun x hx => (ordOk_get ok.1.1 x hx).1), ok.1.1, ok.1.2, fun l hl => ?_⟩
      have m2 : (ys.zip ds).map (·.2) = ds := List.map_snd_zip (by rw [hr.length]; exact Nat.le_refl _)
      have e : ((ys.zip ds).mergeSort (PySem.W.dataLe false (·.2))).map (·.2) = ds.mergeSort leAll := by
        rw [List.map_mergeSort (l := ys.zip ds) (f := fun x => x.2) (r := PySem.W.dataLe false (·.2)) (s := leAll) (fun a _ b _ => rfl), m2]
      refine q l _ H (Xt.refl H) hl ?_
      rw [← e]
      exact rpa_maps fun b hb => rpa_of_zip hr b ((List.mergeSort_perm _ _).mem_iff.mp hb)
    · exact q.elim
  · exact q.elim
end Dn

/-! dicts by pairs of truths. -/
namespace Dn
open PySem L2 PySem.Spec PyProof.Rows
/-! ### the object -/
def dumO (q : Str) : Obj := { cls := .none, data := .fields #[.none, .str q 0] }
theorem rep_get {n a : Nat} {x o : Obj} (h : ({ objs := Array.replicate n x } : Heap).get? a = some o) : o = x ∨ False := by
  unfold Heap.get? at h
  simp only [Array.getElem?_replicate] at h
  by_cases e : a < n
  · simp only [e, if_true] at h
    split at h
    · cases h
    · exact .inl (Option.some.inj h).symm
  · simp only [e, if_false] at h
    cases h
theorem rep_at {n a : Nat} {q : Str} (h : a < n) : ({ objs := Array.replicate n (dumO q) } : Heap).get? a = some (dumO q) := by
  unfold Heap.get?
  simp only [Array.getElem?_replicate, h, if_true]
  rfl
theorem bdO_ne (p : Addr) (xs : List ((Bool × Bool) × Addr × V)) (c : Addr) (q : Str) : BdO p xs ≠ LamX.CodeO c q := fun e => by
  unfold BdO LamX.CodeO at e
  have e1 := HO.ext.inj e
  have h1 : ∃ (oc : Obj) (vs : Array Value) (t : Tok), ({ objs := Array.replicate (c + 1) (dumO q) } : Heap).get? c = some oc ∧ oc.data = .fields vs ∧ vs[1]? = some (.str q t) := ⟨dumO q, _, 0, rep_at (Nat.lt_succ_self c), rfl, rfl⟩
  have h2 := (congrFun e1 ({ objs := Array.replicate (c + 1) (dumO q) } : Heap)).mpr h1
  obtain ⟨_, _, _, ys, _, o, es, ep, g, _, gd, _⟩ := h2
  rcases rep_get g with z | z
  · rw [z] at gd
    cases gd
  · exact z
theorem isLD_bd (p : Addr) (xs : List ((Bool × Bool) × Addr × V)) : isLD (BdO p xs) = true := by
  have h := bdO_ne p xs
  unfold BdO at h ⊢
  unfold isLD
  exact @decide_eq_true _ (_) h
def cvB (y : (Bool × Bool) × Addr × Value) : List Bool × Addr × Value := ([y.1.1, y.1.2], y.2.1, y.2.2)
abbrev PrB : List ((Bool × Bool) × Addr × V) → List ((Bool × Bool) × Addr × Value) → Prop := Paired fun (x : (Bool × Bool) × Addr × V) (y : (Bool × Bool) × Addr × Value) => x.1 = y.1 ∧ x.2.1 = y.2.1 ∧ RelV x.2.2 y.2.2
def KeysB (K : PySem.W.Frag) (H : Hp) (xs : List ((Bool × Bool) × Addr × V)) : Prop := ∀ x ∈ xs, SqT K H x.2.1 [.bl x.1.1, .bl x.1.2]
def lkB (xs : List ((Bool × Bool) × Addr × V)) (k : Bool × Bool) : Option V := (xs.find? fun x => decide (x.1 = k)).map (·.2.2)
def putB (xs : List ((Bool × Bool) × Addr × V)) (k : Bool × Bool) (q : Addr) (v : V) : List ((Bool × Bool) × Addr × V) :=
  if (lkB xs k).isSome then xs.map (fun x => if x.1 = k then (x.1, x.2.1, v) else x) else xs ++ [(k, q, v)]
section
variable {X : Cx} {pins : List (Addr × Obj)} {σ : L2.St} {H : Hp} {s : Shared} {p : Addr} {xs : List ((Bool × Bool) × Addr × V)} {ys : List ((Bool × Bool) × Addr × Value)}
theorem prB_keys : ∀ {xs : List ((Bool × Bool) × Addr × V)} {ys : List ((Bool × Bool) × Addr × Value)}, PrB xs ys → ys.map (·.1) = xs.map (·.1)
  | _, _, .nil => rfl
  | _, _, .cons h t => by rw [List.map_cons, List.map_cons, prB_keys t, h.1]
theorem prB_mem : ∀ {xs : List ((Bool × Bool) × Addr × V)} {ys : List ((Bool × Bool) × Addr × Value)}, PrB xs ys → ∀ y ∈ ys, ∃ x ∈ xs, x.1 = y.1 ∧ x.2.1 = y.2.1
  | _, _, .nil, _, h => nomatch h
  | _, _, .cons h t, y, hy => by
    rcases List.mem_cons.mp hy with rfl | hy
    · exact ⟨_, List.mem_cons_self, h.1, h.2.1⟩
    · obtain ⟨x, h1, h2⟩ := prB_mem t y hy
      exact ⟨x, List.mem_cons_of_mem _ h1, h2⟩
theorem tkB {q : Addr} {a b : Bool} (I : Inv X pins σ H s) (h : SqT X.K H q [.bl a, .bl b]) : (tupleKind (PpSet.boolK X.prog X.w)).is s.heap [a, b] q := by
  obtain ⟨its, rv, ⟨o, ho, hc, n, hd⟩, _⟩ := I.tuple h
  obtain ⟨u1, u2, rfl, r1, r2⟩ := vals2 rv
  cases r1
  cases r2
  exact ⟨o, _, n, ho, hc, hd, .cons (PpSet.boolK_is _ _ a) (.cons (PpSet.boolK_is _ _ b) .nil)⟩
theorem bd_rd (I : Inv X pins σ H s) (e : Rd H p (BdO p xs)) (hk : KeysB X.K H xs) : (p == sysModules) = false ∧ xs.length ≤ sizeLine ∧ (xs.map (·.1)).Nodup ∧ ∃ ys, PrB xs ys ∧ s.heap.DictOfH (tupleKind (PpSet.boolK X.prog X.w)) p (ys.map cvB) := by
  have hob : ObjOk X.prog X.w H s.heap p (BdO p xs) := e.ok I.hok
  obtain ⟨⟨h1, h2, h3, ys, h4, o, es, ep, g1, g2, g3, g4⟩, _⟩ := hob
  refine ⟨h1, h2, h3, ys, h4, o, es, ep, g1, g2, g3, by rw [g4, List.map_map]; rfl, fun x hx => ?_, ?_⟩
  · obtain ⟨y, hy, rfl⟩ := List.mem_map.mp hx
    obtain ⟨x, hx, e1, e2⟩ := prB_mem h4 y hy
    have := tkB I (hk x hx)
    rw [e1, e2] at this
    exact this
  · rw [List.map_map]
    rw [← prB_keys h4] at h3
    have : (ys.map ((fun x => x.1) ∘ cvB)) = (ys.map (·.1)).map fun k : Bool × Bool => [k.1, k.2] := by rw [List.map_map]; rfl
    rw [this]
    refine List.pairwise_map.mpr (List.Pairwise.imp (fun {a b} h z => h ?_) h3)
    cases a; cases b
    simp at z
    simp [z]
theorem lkB_rel (k : Bool × Bool) : ∀ {xs : List ((Bool × Bool) × Addr × V)} {ys : List ((Bool × Bool) × Addr × Value)}, PrB xs ys → RelO (lkB xs k) ((atKey (ys.map cvB) [k.1, k.2]).map (·.2))
  | _, _, .nil => True.intro
  | _, _, .cons (a := x) (b := y) (l₁ := xs) (l₂ := ys) h t => by
    have ih := lkB_rel k t
    unfold lkB atKey at ih ⊢
    rw [List.map_cons, List.find?_cons, List.find?_cons]
    by_cases e : x.1 = k
    · have e2 : (cvB y).1 = [k.1, k.2] := by rw [← e, h.1]; rfl
      simp only [e, e2, decide_true, Option.map_some]
      exact h.2.2
    · have e2 : ¬ (cvB y).1 = [k.1, k.2] := fun z => e (by
        rw [h.1]
        obtain ⟨⟨a, b⟩, q⟩ := y
        obtain ⟨c, d⟩ := k
        have z' : [a, b] = [c, d] := z
        simp at z'
        simp [z'])
      simp only [e, e2, decide_false]
      exact ih
theorem lkB_some (k : Bool × Bool) {v : V} (r : PrB xs ys) (h : lkB xs k = some v) : ∃ z, atKey (ys.map cvB) [k.1, k.2] = some z ∧ RelV v z.2 := by
  have q := lkB_rel k r
  rw [h] at q
  cases e : atKey (ys.map cvB) [k.1, k.2] with
  | none => rw [e] at q; exact q.elim
  | some z => rw [e] at q; exact ⟨z, rfl, q⟩
theorem lkB_isSome (k : Bool × Bool) (r : PrB xs ys) : (atKey (ys.map cvB) [k.1, k.2]).isSome = (lkB xs k).isSome := by
  have q := lkB_rel k r
  cases e : atKey (ys.map cvB) [k.1, k.2] with
  | none =>
    rw [e] at q
    cases e2 : lkB xs k with
    | none => rfl
    | some v => rw [e2] at q; exact q.elim
  | some z =>
    rw [e] at q
    cases e2 : lkB xs k with
    | none => rw [e2] at q; exact q.elim
    | some v => rfl
def putBV (ys : List ((Bool × Bool) × Addr × Value)) (b : Bool) (k : Bool × Bool) (q : Addr) (v : Value) : List ((Bool × Bool) × Addr × Value) :=
  if b then ys.map (fun x => if x.1 = k then (x.1, x.2.1, v) else x) else ys ++ [(k, q, v)]
theorem stored_cv (ys : List ((Bool × Bool) × Addr × Value)) (k : Bool × Bool) (q : Addr) (v : Value) : storedH (ys.map cvB) [k.1, k.2] q v = (putBV ys (atKey (ys.map cvB) [k.1, k.2]).isSome k q v).map cvB := by
  unfold storedH putBV
  by_cases e : (atKey (ys.map cvB) [k.1, k.2]).isSome = true
  · rw [if_pos e, if_pos e, List.map_map, List.map_map]
    refine List.map_congr_left fun y _ => ?_
    show putAt [k.1, k.2] v (cvB y) = cvB (if y.1 = k then (y.1, y.2.1, v) else y)
    unfold putAt
    by_cases z : y.1 = k
    · rw [if_pos z, if_pos (by rw [← z]; rfl)]
      rfl
    · rw [if_neg z, if_neg fun z' => z (by
        obtain ⟨⟨a, b⟩, q⟩ := y
        obtain ⟨c, d⟩ := k
        have z2 : [a, b] = [c, d] := z'
        simp at z2
        simp [z2])]
  · rw [if_neg e, if_neg e, List.map_append]
    rfl
theorem putB_rel {k : Bool × Bool} {q : Addr} {v : V} {u : Value} (r : PrB xs ys) (rv : RelV v u) : PrB (putB xs k q v) (putBV ys (lkB xs k).isSome k q u) := by
  unfold putB putBV
  by_cases e : (lkB xs k).isSome = true
  · rw [if_pos e, if_pos e]
    clear e
    induction r with
    | nil => exact .nil
    | @cons x y xs ys h t ih =>
      rw [List.map_cons, List.map_cons]
      refine .cons ?_ ih
      by_cases z : x.1 = k
      · rw [if_pos z, if_pos (by rw [← h.1]; exact z)]
        exact ⟨h.1, h.2.1, rv⟩
      · rw [if_neg z, if_neg (by rw [← h.1]; exact z)]
        exact h
  · rw [if_neg e, if_neg e]
    clear e
    induction r with
    | nil => exact .cons ⟨rfl, rfl, rv⟩ .nil
    | cons h t ih => exact .cons h ih
theorem putB_len (xs : List ((Bool × Bool) × Addr × V)) (k : Bool × Bool) (q : Addr) (v : V) : (putB xs k q v).length ≤ xs.length + 1 := by
  unfold putB
  split
  · rw [List.length_map]; omega
  · simp
theorem ext_bd {P : Program} {w : World} {H' : Hp} {h' : Heap} {o : Obj} {es : Array DictEntry} {ep : Nat} (h1 : (p == sysModules) = false) (h2 : xs.length ≤ sizeLine) (h3 : (xs.map (·.1)).Nodup) (h4 : PrB xs ys) (g1 : h'.get? p = some o) (g2 : o.ExactDict) (g3 : o.data = .dict es ep) (g4 : es.toList = ys.map entB) : ObjOk P w H' h' p (BdO p xs) :=
  ⟨⟨h1, h2, h3, ys, h4, o, es, ep, g1, g2, g3, g4⟩, ⟨o, g1⟩, fun h1 h2 ⟨a, b, c, ys, d, o, es, ep, e, f⟩ st => ⟨a, b, c, ys, d, o, es, ep, st _ e, f⟩⟩
theorem nodup_of {ys : List ((Bool × Bool) × Addr × Value)} (h : ((ys.map cvB).map (·.1)).Nodup) : (ys.map (·.1)).Nodup := by
  rw [List.map_map] at h
  have e : (ys.map ((fun x => x.1) ∘ cvB)) = (ys.map (·.1)).map fun k : Bool × Bool => [k.1, k.2] := by rw [List.map_map]; rfl
  rw [e] at h
  exact List.Pairwise.imp (fun {a b} h z => h (by rw [z])) (List.pairwise_map.mp h)
theorem bd_of_dict {P : Program} {w : World} {H' : Hp} {h' : Heap} (h1 : (p == sysModules) = false) (h2 : xs.length ≤ sizeLine) (h4 : PrB xs ys) (dd : h'.DictOfH (tupleKind (PpSet.boolK P w)) p (ys.map cvB)) : ObjOk P w H' h' p (BdO p xs) := by
  obtain ⟨o, es, ep, g1, g2, g3, g4, _, g5⟩ := dd
  refine ext_bd h1 h2 ?_ h4 g1 g2 g3 (by rw [g4, List.map_map]; rfl)
  rw [← prB_keys h4]
  exact nodup_of g5
end
/-! ### rules -/
section
variable {X : Cx} {o i e value : Expr} {pos pos' : Pos} {td ty tv : TE}
def rInB (K : PySem.W.Frag) : R2 := fun x y H Q => ∃ q p xs, ∃ k : Bool × Bool, x = .ref q ∧ y = .ref p ∧ Rd H p (BdO p xs) ∧ KeysB K H xs ∧ SqT K H q [.bl k.1, .bl k.2] ∧ Q (.bl (lkB xs k).isSome) H
def rNotInB (K : PySem.W.Frag) : R2 := fun x y H Q => ∃ q p xs, ∃ k : Bool × Bool, x = .ref q ∧ y = .ref p ∧ Rd H p (BdO p xs) ∧ KeysB K H xs ∧ SqT K H q [.bl k.1, .bl k.2] ∧ Q (.bl (!(lkB xs k).isSome)) H
theorem kx_inB (K : PySem.W.Frag) (h : X.K = K) (hu : X.A.units + 64 < cLine) : OpR X (compareOp .In) (rInB K) := by
  subst h
  intro pins s σ H x y v u Q I rx ry q
  obtain ⟨q, p, xs, k, rfl, rfl, hp, hk, hq, z⟩ := q
  cases rx
  cases ry
  obtain ⟨h1, h2, h3, ys, h4, dd⟩ := bd_rd I hp hk
  refine wpAny_in_heap (tupleKind_room_in1 (by omega)) (tkB I hq) h1 dd ?_
  rw [lkB_isSome k h4]
  exact ⟨.bl _, H, I.tok _, rfl, z⟩
theorem kx_notinB (K : PySem.W.Frag) (h : X.K = K) (hu : X.A.units + 64 < cLine) : OpR X (compareOp .NotIn) (rNotInB K) := by
  subst h
  intro pins s σ H x y v u Q I rx ry q
  obtain ⟨q, p, xs, k, rfl, rfl, hp, hk, hq, z⟩ := q
  cases rx
  cases ry
  obtain ⟨h1, h2, h3, ys, h4, dd⟩ := bd_rd I hp hk
  refine wpAny_notIn_heap (tupleKind_room_in1 (by omega)) (tkB I hq) h1 dd ?_
  rw [lkB_isSome k h4]
  exact ⟨.bl _, H, I.tok _, rfl, z⟩
def tBGet (K : PySem.W.Frag) (td ty : TE) : TE := fun σ H Q => td σ H fun x H1 => ty σ H1 fun y H2 => ∃ q p xs v, ∃ k : Bool × Bool, x = .ref p ∧ y = .ref q ∧ Rd H2 p (BdO p xs) ∧ KeysB K H2 xs ∧ SqT K H2 q [.bl k.1, .bl k.2] ∧ lkB xs k = some v ∧ Q v H2
theorem kpe_bget (K : PySem.W.Frag) (h : X.K = K) (hu : X.A.units + 64 < cLine) (ho : PE X o td) (hi : PE X i ty) (hs : NoSl i) : PE X (.Subscript o i pos) (tBGet K td ty) := by
  subst h
  refine ⟨fun pins s σ H Q I h => ?_⟩
  refine subD_of PySem.F.slot_dict_getitem.lookup hs (thn (ho.run pins s σ H _ I h) fun u s1 ⟨x, H1, I1, rx, q1⟩ => thn (hi.run pins s1 σ H1 _ I1 q1) fun iv s2 ⟨y, H2, I2, ry, q, p, xs, v, k, ex, ey, hp, hk, hq, l, z⟩ => ?_)
  subst ex
  subst ey
  obtain rfl : u = Value.ref p := rx
  obtain rfl : iv = Value.ref q := ry
  obtain ⟨h1, h2, h3, ys, h4, dd⟩ := bd_rd I2 hp hk
  obtain ⟨w', hw, rw'⟩ := lkB_some k h4 l
  exact ⟨dd.typeIs, wpAny_getItem_heap (tupleKind_room_in1 (by omega)) (tkB I2 hq) dd hw ⟨v, H2, I2.tok _, rw', z⟩⟩
def sBPutT (K : PySem.W.Frag) (td ty tv : TE) : TS := fun D σ H => tv σ H fun v H1 => td σ H1 fun x H2 => ty σ H2 fun y H3 => ∃ q p xs, ∃ k : Bool × Bool, x = .ref p ∧ y = .ref q ∧ H3 p = some (BdO p xs) ∧ KeysB K H3 xs ∧ SqT K H3 q [.bl k.1, .bl k.2] ∧ xs.length < sizeLine ∧ D.nx σ (upd H3 p (BdO p (putB xs k q v)))
theorem kps_bput (K : PySem.W.Frag) (h : X.K = K) (hu : X.A.units + 64 < cLine) (ho : PE X o td) (hi : PE X i ty) (hv : PE X value tv) (hs : swapsWith value (some (.Subscript o i pos')) pos.line X.env = pure false) :
    PS X (.Assign [.Subscript o i pos'] value pos) (sBPutT K td ty tv) := by
  subst h
  refine ⟨fun pins s σ H D I h => ?_⟩
  refine wpAny_Assign_Subscript (thn (hv.run pins s σ H _ I h) fun r s1 ⟨v, H1, I1, rv, q1⟩ => thn (ho.run pins s1 σ H1 _ I1 q1) fun u s2 ⟨x, H2, I2, rx, q2⟩ => thn (hi.run pins s2 σ H2 _ I2 q2) fun iv s3 ⟨y, H3, I3, ry, q, p, xs, k, ex, ey, hp, hk, hq, hl, z⟩ => ?_) hs
  subst ex
  subst ey
  obtain rfl : u = Value.ref p := rx
  obtain rfl : iv = Value.ref q := ry
  obtain ⟨h1, h2, h3, ys, h4, dd⟩ := bd_rd I3 (.inl hp) hk
  refine wpAny_setItem_heap (hsz := by rw [List.length_map, ← Paired.length h4]; exact h2) (tupleKind_room_in1 (by omega)) (tkB I3 hq) dd fun h' dd' hsb => ⟨σ, _, ?_, z⟩
  rw [stored_cv, lkB_isSome k h4] at dd'
  have he : ∃ q, h'.get? p = some q := let ⟨q, _, _, hq, _⟩ := dd'; ⟨q, hq⟩
  refine d_write I3 (by rw [hp]; exact True.intro) hsb he (bd_of_dict h1 (Nat.le_trans (putB_len xs k q v) (by omega)) (putB_rel h4 rv) dd')
def tBNew : TE := fun _ H Q => ∀ p, H p = none → Q (.ref p) (upd H p (BdO p []))
theorem bd_empty {P : Program} {w : World} {H : Hp} (h : Heap) (hb : sysModules < h.objs.size) : ObjOk P w H (h.push { cls := .type "dict", data := .dict #[] }) h.objs.size (BdO h.objs.size []) :=
  ext_bd (ys := []) (beq_eq_false_iff_ne.mpr (Ne.symm (Nat.ne_of_lt hb))) (Nat.zero_le _) List.nodup_nil .nil (Heap.get?_push_size _ rfl) ⟨rfl, rfl, rfl⟩ rfl rfl
theorem pe_bnew : PE X (.Dict [] [] pos) tBNew := ⟨fun pins s σ H Q I h =>
  wpAny_Dict_empty ⟨.ref s.heap.objs.size, _, I.laid (a := s.heap.objs.size) (o := BdO s.heap.objs.size []) (t' := s.toks) (fun _ _ q => Heap.get?_push_of_some _ q) (Nat.le_refl _) (bd_empty s.heap I.big), rfl, h _ (I.hok.fresh (Nat.le_refl _))⟩⟩
def tBDisp (K : PySem.W.Frag) (tk tv : TE) : TE := fun σ H Q => ∀ p, H p = none → tk σ (upd H p (BdO p [])) fun x H1 => tv σ H1 fun y H2 => ∃ q, ∃ k : Bool × Bool, x = .ref q ∧ SqT K H2 q [.bl k.1, .bl k.2] ∧ H2 p = some (BdO p []) ∧ Q (.ref p) (upd H2 p (BdO p [(k, q, y)]))
theorem kpe_bdisp (K : PySem.W.Frag) (h : X.K = K) (hu : X.A.units + 64 < cLine) (hk : PE X i ty) (hv : PE X value tv) : PE X (.Dict [some i] [value] pos) (tBDisp K ty tv) := by
  subst h
  refine ⟨fun pins s σ H Q I q => ?_⟩
  have hn := I.hok.fresh (Nat.le_refl s.heap.objs.size)
  have I1 := I.laid (a := s.heap.objs.size) (o := BdO s.heap.objs.size []) (h' := s.heap.push { cls := .type "dict", data := .dict #[] }) (t' := s.toks) (fun _ _ q => Heap.get?_push_of_some _ q) (Nat.le_refl _) (bd_empty s.heap I.big)
  refine wpAny_Dict_any rfl rfl (by simp) (show 1 ≤ 15 by decide) (pairTrees_cons_walk (thn (hk.run pins _ σ _ _ I1 (q _ hn)) fun u s1 ⟨x, H1, I1, rx, q1⟩ => thn (hv.run pins s1 σ H1 _ I1 q1) fun w2 s2 ⟨y, H2, I2, ry, qq, k, ex, hq, hp, z⟩ => pairTrees_nil_walk ?_))
  subst ex
  obtain rfl : u = Value.ref qq := rx
  obtain ⟨h1, h2, h3, ys, h4, dd⟩ := bd_rd I2 (.inl hp) (fun _ h => nomatch h)
  cases h4
  unfold storeAll
  refine wpAny_storeAllH (knd := tupleKind (PpSet.boolK X.prog X.w)) (show (tupleKind (PpSet.boolK X.prog X.w)).room X.A from (show X.A.units < cLine by omega)) [(.ref qq, w2)] [([k.1, k.2], qq, w2)] [] s2 _ ⟨rfl, rfl, tkB I2 hq, True.intro⟩ dd (by rw [sizeLine_eq]; simp) fun h' tk dd' hs => ?_
  have he : ∃ q, h'.get? s.heap.objs.size = some q := let ⟨q, _, _, hq, _⟩ := dd'; ⟨q, hq⟩
  exact ⟨.ref s.heap.objs.size, _, d_write I2 (by rw [hp]; exact True.intro) hs he (bd_of_dict (ys := [(k, qq, w2)]) h1 (by rw [sizeLine_eq]; simp) (.cons ⟨rfl, rfl, ry⟩ .nil) dd'), rfl, z⟩
end
end Dn

/-! dicts by pairs of truths: what a slot's dict comes to. -/
namespace Dn
open PySem L2
/-! ### the walk over one that never changes -/
def Itkb (K : PySem.W.Frag) (d : Addr) (o : Obj) (xs : List ((Bool × Bool) × Addr × V)) : It :=
  ⟨fun i H => H d = some (.frz o (BdO d xs)) ∧ i < xs.length, fun i H x H' => H' = H ∧ ∃ y, xs[i]? = some y ∧ x = .ref y.2.1, fun i H => H d = some (.frz o (BdO d xs)) ∧ xs.length ≤ i⟩
theorem frzB {X : Cx} {pins : List (Addr × Obj)} {σ : L2.St} {H : Hp} {s : Shared} {d : Addr} {o : Obj} {xs : List ((Bool × Bool) × Addr × V)} (I : Inv X pins σ H s) (h : H d = some (.frz o (BdO d xs))) :
    (d == sysModules) = false ∧ s.heap.get? d = some o ∧ o.ExactDict ∧ ∃ (es : Array DictEntry) (ep : Nat), o.data = .dict es ep ∧ es.size = xs.length ∧ ∀ (i : Nat) (y : (Bool × Bool) × Addr × V), xs[i]? = some y → ∃ en : DictEntry, es[i]? = some en ∧ en.key = .ref y.2.1 := by
  have hob : ObjOk X.prog X.w H s.heap d (.frz o (BdO d xs)) := I.hok d _ h
  obtain ⟨hd, ⟨h1, h2, h3, ys, h4, o', es, ep, g1, g2, g3, g4⟩, _⟩ := hob
  rw [hd] at g1
  cases g1
  have hl : es.size = ys.length := by rw [← Array.length_toList, g4, List.length_map]
  refine ⟨h1, hd, g2, es, ep, g3, by rw [hl]; exact (Paired.length h4).symm, fun i y e => ?_⟩
  obtain ⟨b, hb, e1, e2, _⟩ := paired_get h4 e
  refine ⟨entB b, ?_, by show Value.ref b.2.1 = _; rw [e2]⟩
  rw [← Array.getElem?_toList, g4, List.getElem?_map, hb]
  rfl
theorem turn_keysB {P : Program} {w : World} {K : PySem.W.Frag} {tg : Expr} {d : Addr} {o : Obj} {es : Array DictEntry} {ep : Nat} {xs : List ((Bool × Bool) × Addr × V)} (it : Addr) (hod : o.data = .dict es ep) : Turn P w K tg (Itkb K d o xs) [it] it (fun i h => h.IsKeyIter it d i xs.length ep) where
  mem := by simp
  obj := fun i h st b hb => by
    have e : b = it := by simpa using hb
    subst e
    obtain ⟨oi, e, c, dd⟩ := st
    exact ⟨oi, e, fun v z => by rw [dd] at z; cases z⟩
  keep := fun i h h' st k => st.at fun oi e => k it (by simp) oi e
  item := by
    intro X hP hw hK hc i pins s σ H E I hf st hg
    subst hP hw hK
    obtain ⟨hd, hi⟩ := hg
    obtain ⟨f0, f1, f2, f3, f4, f5⟩ := hf it (by simp)
    obtain ⟨hs, hgd, hx, es', ep', hdt, hsz, ent⟩ := frzB I hd
    obtain ⟨rfl, rfl⟩ := dict_ep hod hdt
    obtain ⟨y, hkv⟩ : ∃ p, xs[i]? = some p := ⟨xs[i], List.getElem?_eq_getElem hi⟩
    obtain ⟨en, hen, hkey⟩ := ent i y hkv
    refine next_key_item st hgd hdt hsz hen fun h' st' sb => ?_
    have I1 : Inv X pins σ H { s with heap := h' } := I.turned (t' := s.toks) (fun b ob hb e => (sb.2 b hb).trans e) f0 f1 f3 f4 f5
    obtain ⟨oi, e, c, dd⟩ := id st'
    exact ⟨en.key, rfl, go_of (s := { s with heap := h' }) e c dd (by decide) ⟨.ref y.2.1, H, I1, hkey, ⟨rfl, y, hkv, rfl⟩, st', fun b hb => (hf b hb).1⟩⟩
  done := by
    intro X hP hw hK hc i pins s σ H E I hf st hg
    subst hP hw hK
    obtain ⟨hd, hi⟩ := hg
    obtain ⟨f0, f1, f2, f3, f4, f5⟩ := hf it (by simp)
    obtain ⟨hs, hgd, hx, es', ep', hdt, hsz, ent⟩ := frzB I hd
    obtain ⟨rfl, rfl⟩ := dict_ep hod hdt
    exact next_key_end (I.ok.hd hc) st hgd hdt hsz hi fun h' eb => ⟨rfl, I.turned (t' := s.toks) (fun b ob hb e => eb b ob hb e) f0 f1 f3 f4 f5⟩
  self := fun A i s Q E st h => by
    refine wpAny_pyIter_slot st.typeIs F.slot_dict_keyiterator_iter (wpAny_call_entry F.slot_dict_keyiterator_iter st.typeIs F.entry_dict_keyiterator_iter ?_ (F.args_dict_keyiterator_iter_1 _))
    show wpAny _ _ (ret (.ref it)) _ _ s
    exact wpAny_pure ⟨_, rfl, "dict_keyiterator", _, st.typeIs, F.slot_dict_keyiterator_next.lookup, h⟩
def iKz (K : PySem.W.Frag) (td : TE) : TI := fun σ H R => td σ H fun x H1 => ∃ d o xs, x = .ref d ∧ H1 d = some (.frz o (BdO d xs)) ∧ R (Itkb K d o xs) H1
theorem pi_kz {X : Cx} {tg e : Expr} {td : TE} (he : PE X e td) : PI X tg e (iKz X.K td) := by
  refine ⟨fun pins s σ H R I h => ?_⟩
  refine thn (he.run pins s σ H _ I h) fun u s1 ⟨x, H1, I1, rx, d, o, xs, ex, hd, q⟩ => ?_
  subst ex
  obtain rfl : u = Value.ref d := rx
  obtain ⟨hs, hgd, hx, es, ep, hdt, hsz, ent⟩ := frzB I1 hd
  refine iter_keys hs hgd hx hdt (pi_one (tk := s1.toks) I1 _ (turn_keysB _ hdt) ⟨_, Heap.get?_push_size _ rfl, rfl, ?_⟩ q)
  rw [hsz] <;> rfl
theorem kpi_kz {X : Cx} {tg e : Expr} {td : TE} (K : PySem.W.Frag) (h : X.K = K) (he : PE X e td) : PI X tg e (iKz K td) := by
  subst h
  exact pi_kz he
/-- the thing stays as it is from now on -/
def tFix (t : TS) : TS := fun D σ H => ∃ d u, H d = some u ∧ Mut (some u) ∧ ∀ od, t D σ (upd H d (.frz od u))
theorem ps_fix {X : Cx} {st : Stmt} {t : TS} (h : PS X st t) : PS X st (tFix t) := by
  refine ⟨fun pins s σ H D I hw => ?_⟩
  obtain ⟨d, u, hd, mu, hw⟩ := hw
  obtain ⟨od, I1⟩ := I.lock hd mu
  exact h.run pins s σ _ D I1 (hw od)
variable [Tabl]
/-! ### slots -/
def bdOf : SV → Option (List ((Bool × Bool) × PD))
  | .bd es => some es
  | .bz es => some es
  | _ => none
def k2 : PD → Option (Bool × Bool)
  | .tuple [.bool a, .bool b] => some (a, b)
  | _ => none
def lkD (es : List ((Bool × Bool) × PD)) (k : Bool × Bool) : Option PD := (es.find? fun e => decide (e.1 = k)).map (·.2)
def putBD (es : List ((Bool × Bool) × PD)) (k : Bool × Bool) (d : PD) : List ((Bool × Bool) × PD) :=
  if (lkD es k).isSome then es.map (fun e => if e.1 = k then (e.1, d) else e) else es ++ [(k, d)]
section
variable {K : PySem.W.Frag} {H : Hp}
theorem BdR.keys : ∀ {xs : List ((Bool × Bool) × Addr × V)} {es : List ((Bool × Bool) × PD)}, BdR K H xs es → KeysB K H xs
  | _, _, .nil, _, h => nomatch h
  | _, _, .cons a b r, x, hx => by
    rcases List.mem_cons.mp hx with rfl | hx
    · exact a
    · exact BdR.keys r x hx
theorem BdR.len : ∀ {xs : List ((Bool × Bool) × Addr × V)} {es : List ((Bool × Bool) × PD)}, BdR K H xs es → xs.length = es.length
  | _, _, .nil => rfl
  | _, _, .cons a b r => by simp [BdR.len r]
theorem BdR.lk (k : Bool × Bool) : ∀ {xs : List ((Bool × Bool) × Addr × V)} {es : List ((Bool × Bool) × PD)}, BdR K H xs es → (lkB xs k).isSome = (lkD es k).isSome ∧ ∀ d, lkD es k = some d → ∃ v, lkB xs k = some v ∧ Rp K H v d
  | _, _, .nil => ⟨rfl, fun d h => by simp [lkD] at h⟩
  | _, _, .cons (k := j) (v := v) (d := d) a b r => by
    have ih := BdR.lk k r
    unfold lkB lkD at ih ⊢
    by_cases e : j = k
    · rw [List.find?_cons_of_pos (by simpa using e), List.find?_cons_of_pos (by simpa using e)]
      exact ⟨rfl, fun d' h => by cases h; exact ⟨v, rfl, b⟩⟩
    · rw [List.find?_cons_of_neg (by simpa using e), List.find?_cons_of_neg (by simpa using e)]
      exact ih
theorem BdR.put {k : Bool × Bool} {q : Addr} {v : V} {d : PD} (hq : SqT K H q [.bl k.1, .bl k.2]) (hv : Rp K H v d) {xs : List ((Bool × Bool) × Addr × V)} {es : List ((Bool × Bool) × PD)} (r : BdR K H xs es) : BdR K H (putB xs k q v) (putBD es k d) := by
  unfold putB putBD
  rw [(r.lk k).1]
  split
  · rename_i h
    clear h
    induction r with
    | nil => exact .nil
    | @cons j p u e xs es a b r ih =>
      rw [List.map_cons, List.map_cons]
      by_cases z : j = k
      · rw [if_pos z, if_pos z]
        exact .cons a hv ih
      · rw [if_neg z, if_neg z]
        exact .cons a b ih
  · rename_i h
    clear h
    induction r with
    | nil => exact .cons hq hv .nil
    | cons a b r ih => exact .cons a b ih
theorem BdR.get : ∀ {xs : List ((Bool × Bool) × Addr × V)} {es : List ((Bool × Bool) × PD)} {i : Nat} {e : (Bool × Bool) × PD}, BdR K H xs es → es[i]? = some e → ∃ y, xs[i]? = some y ∧ SqT K H y.2.1 [.bl e.1.1, .bl e.1.2]
  | _, _, _, _, .nil, h => by simp at h
  | _, _, 0, _, .cons a _ _, e => by simp at e; subst e; exact ⟨_, rfl, a⟩
  | _, _, i + 1, _, .cons _ _ r, e => by
    obtain ⟨y, h1, h2⟩ := BdR.get (i := i) r (by simpa using e)
    exact ⟨y, by simpa using h1, h2⟩
end
section
variable {K : PySem.W.Frag} {H0 H : Hp} {ext : AS} {reg : Nat → AS} {en : En} {σ : L2.St}
theorem RS.bdAt (r : RS K H0 ext reg en σ H) {i : Nat} {es : List ((Bool × Bool) × PD)} (h : (en[i]?).bind bdOf = some es) : ∃ p xs, σ[i]? = some (some (.ref p)) ∧ Rd H p (BdO p xs) ∧ BdR K (hid H (own ext reg)) xs es := by
  cases e : en[i]? with
  | none => rw [e] at h; cases h
  | some sv =>
    rw [e] at h
    cases sv with
    | bd es' =>
      cases h
      obtain ⟨v, h1, p, xs, rfl, h2, h3, h4⟩ := r.sl i _ e
      exact ⟨p, xs, h1, .inl h3, h4⟩
    | bz es' =>
      cases h
      obtain ⟨v, h1, p, o, xs, rfl, h2, h3⟩ := r.sl i _ e
      exact ⟨p, xs, h1, .inr ⟨o, hid_ex.k _ _ h2 rfl⟩, h3⟩
    | _ => cases h
theorem RS.bdIn (r : RS K H0 ext reg en σ H) {i : Nat} {es : List ((Bool × Bool) × PD)} (h : en[i]? = some (.bd es)) : ∃ p xs, σ[i]? = some (some (.ref p)) ∧ reg i p ∧ H p = some (BdO p xs) ∧ BdR K (hid H (own ext reg)) xs es := by
  obtain ⟨v, h1, p, xs, rfl, h2, h3, h4⟩ := r.sl i _ h
  exact ⟨p, xs, h1, h2, h3, h4⟩
/-- it never changes any more -/
theorem RS.fix (r : RS K H0 ext reg en σ H) {i : Nat} {es : List ((Bool × Bool) × PD)} {p : Addr} {xs : List ((Bool × Bool) × Addr × V)} (h : en[i]? = some (.bd es)) (hs : σ[i]? = some (some (.ref p))) (hi : reg i p) (hp : H p = some (BdO p xs)) (hr : BdR K (hid H (own ext reg)) xs es) (o : Obj) :
    RS K H0 ext (drp reg i) (en.set i (.bz es)) σ (upd H p (.frz o (BdO p xs))) := by
  have nj : ∀ j a, drp reg i j a → a ≠ p := fun j a ⟨hj, q⟩ z => hj (r.dj j i p (by rw [← z]; exact q) hi)
  have up : Ex (hid H (own ext reg)) (hid (upd H p (.frz o (BdO p xs))) (own ext (drp reg i))) := Ex.of fun a u q => by
    obtain ⟨z, q⟩ := hid_some q
    have ne : a ≠ p := fun e => z (.inr ⟨i, by rw [e]; exact hi⟩)
    rw [hid_at fun t => z (own_drp t), upd_ne ne]
    exact q
  refine ⟨r.le.mut (r.rg i p hi).1, tabs_wr r.tb hp (isLD_bd p xs) fun a ha => upd_ne ha, r.exd, fun j a hja => ⟨(r.rg j a hja.2).1, ?_⟩, fun j k a ⟨_, q⟩ ⟨_, q'⟩ => r.dj j k a q q', fun j a ⟨hj, q⟩ => ?_, by simp [r.len], fun j sv e => ?_⟩
  · obtain ⟨u, q2, q3⟩ := (r.rg j a hja.2).2
    exact ⟨u, by rw [upd_ne (nj j a hja)]; exact q2, q3⟩
  · obtain ⟨sv, h1, h2⟩ := r.ro j a q
    exact ⟨sv, by rw [List.getElem?_set_ne (Ne.symm hj)]; exact h1, h2⟩
  · by_cases hj : i = j
    · subst hj
      rw [List.getElem?_set_self (List.getElem?_eq_some_iff.mp h).1] at e
      cases e
      refine ⟨_, hs, p, o, xs, rfl, ?_, hr.mono up.le⟩
      rw [hid_at fun t => by
        rcases t with t | ⟨j, t⟩
        · exact r.noext hi t
        · exact nj j p t rfl, upd_same]
    · rw [List.getElem?_set_ne hj] at e
      obtain ⟨u, h1, h2⟩ := r.sl j sv e
      refine ⟨u, h1, (h2.mono (H' := upd H p (.frz o (BdO p xs))) up fun a u' z q n => ?_).rg fun a q => ⟨fun z => hj z.symm, q⟩⟩
      rw [upd_ne (nj j a ⟨fun z => hj z.symm, z⟩)]
      exact q
/-- it goes to another name -/
def mvR (reg : Nat → AS) (j i : Nat) : Nat → AS := fun k a => (k = i ∧ reg j a) ∨ (k ≠ i ∧ k ≠ j ∧ reg k a)
theorem own_mv {ext : AS} {reg : Nat → AS} {j i : Nat} {a : Addr} (h : own ext (mvR reg j i) a) : own ext reg a := by
  rcases h with h | ⟨k, ⟨_, h⟩ | ⟨_, _, h⟩⟩
  · exact .inl h
  · exact .inr ⟨j, h⟩
  · exact .inr ⟨k, h⟩
theorem RS.move (r : RS K H0 ext reg en σ H) {i j : Nat} {es : List ((Bool × Bool) × PD)} {p : Addr} (h : en[j]? = some (.bd es)) (hs : σ[j]? = some (some (.ref p))) (hij : i ≠ j) (hi : i < en.length) :
    RS K H0 ext (mvR reg j i) ((en.set j .no).set i (.bd es)) (σ.set i (some (.ref p))) H := by
  have up : Ex (hid H (own ext reg)) (hid H (own ext (mvR reg j i))) := (Ex.refl H).hidLess fun a z => own_mv z
  refine ⟨r.le, r.tb, r.exd, fun k a q => ?_, fun k l a q q' => ?_, fun k a q => ?_, by simp [r.len], fun k sv e => ?_⟩
  · rcases q with ⟨_, q⟩ | ⟨_, _, q⟩
    · exact r.rg j a q
    · exact r.rg k a q
  · rcases q with ⟨e1, q⟩ | ⟨n1, n2, q⟩
    · rcases q' with ⟨e2, q'⟩ | ⟨n3, n4, q'⟩
      · rw [e1, e2]
      · exact absurd (r.dj j l a q q').symm n4
    · rcases q' with ⟨e2, q'⟩ | ⟨n3, n4, q'⟩
      · exact absurd (r.dj k j a q q') n2
      · exact r.dj k l a q q'
  · rcases q with ⟨e1, q⟩ | ⟨n1, n2, q⟩
    · exact ⟨.bd es, by rw [e1, List.getElem?_set_self (by simpa using hi)], rfl⟩
    · obtain ⟨sv, h1, h2⟩ := r.ro k a q
      exact ⟨sv, by rw [List.getElem?_set_ne (Ne.symm n1), List.getElem?_set_ne (Ne.symm n2)]; exact h1, h2⟩
  · by_cases hk : i = k
    · subst hk
      rw [List.getElem?_set_self (by simpa using hi)] at e
      cases e
      obtain ⟨v, h1, p', xs, rfl, h2, h3, h4⟩ := r.sl j _ h
      rw [hs] at h1
      cases h1
      exact ⟨some (.ref p), by rw [List.getElem?_set_self (by rw [r.len]; exact hi)], p, xs, rfl, .inl ⟨rfl, h2⟩, h3, h4.mono up.le⟩
    · rw [List.getElem?_set_ne hk] at e
      by_cases hk2 : j = k
      · subst hk2
        rw [List.getElem?_set_self (List.getElem?_eq_some_iff.mp h).1] at e
        cases e
        obtain ⟨v, h1, _⟩ := r.sl j _ h
        exact ⟨v, by rw [List.getElem?_set_ne hk]; exact h1, True.intro⟩
      · rw [List.getElem?_set_ne hk2] at e
        obtain ⟨u, h1, h2⟩ := r.sl k sv e
        refine ⟨u, by rw [List.getElem?_set_ne hk]; exact h1, (h2.mono (H' := H) up fun a u' z q n => q).rg fun a q => .inr ⟨fun z => hk z.symm, fun z => hk2 z.symm, q⟩⟩
/-- a stranger's new thing becomes a slot's own -/
theorem RS.adopt {H3 : Hp} {G : Hp} {i : Nat} {p : Addr} {o o' : HO} {sv : SV} (r : RS K H0 ext reg en σ H) (r3 : RS K G (fun a => ext a ∨ a = p) reg en σ H3) (hp : H p = none) (e3 : Xt (upd H p o) H3) (hil : i < en.length) (ho : isOwn sv = true) (hl : ∃ o0, H3 p = some o0 ∧ isLD o0 = true) (ht' : isTb o' = false)
    (h : SlotOk K (hid H3 (own (fun a => ext a ∨ a = p) reg)) (upd H3 p o') (some (.ref p)) (fun a => a = p) sv) :
    RS K H0 ext (put reg i p) (en.set i sv) (σ.set i (some (.ref p))) (upd H3 p o') := by
  have np : ∀ j, ¬ reg j p := fun j z => by
    obtain ⟨u, e, _⟩ := (r.rg j p z).2
    rw [hp] at e
    cases e
  have nx : ¬ ext p := fun z => by
    obtain ⟨u, e, _⟩ := r.le.so (r.exd p z)
    rw [hp] at e
    cases e
  have sub : ∀ a, own ext (put reg i p) a → own ext reg a ∨ a = p := fun a z => by
    rcases z with z | ⟨j, ⟨_, z⟩ | ⟨_, z⟩⟩
    · exact .inl (.inl z)
    · exact .inl (.inr ⟨j, z⟩)
    · exact .inr z
  have up : Ex (hid H3 (own (fun a => ext a ∨ a = p) reg)) (hid (upd H3 p o') (own ext (put reg i p))) := Ex.of fun a u q => by
    obtain ⟨z, q⟩ := hid_some q
    have ne : a ≠ p := fun e => z (.inl (.inr e))
    rw [hid_at fun t => by
      rcases sub a t with (t | t) | t
      · exact z (.inl (.inl t))
      · exact z (.inr t)
      · exact ne t, upd_ne ne]
    exact q
  refine ⟨⟨fun a u ha n => ?_⟩, (let ⟨o0, q1, q2⟩ := hl; tabs_wr r3.tb q1 q2 fun a ha => upd_ne ha), r.exd, fun j a q => ?_, fun j k a q q' => ?_, fun j a q => ?_, by simp [r.len], fun j sv' e => ?_⟩
  · have h1 := r.le.k a u ha n
    have ne : a ≠ p := fun e => by
      rw [e, hp] at h1
      cases h1
    rw [upd_ne ne]
    exact e3.k a u (by rw [upd_ne ne]; exact h1) n
  · rcases q with ⟨_, q⟩ | ⟨_, q⟩
    · have ne : a ≠ p := fun e => np j (by rw [← e]; exact q)
      obtain ⟨u, q2, q3⟩ := (r3.rg j a q).2
      exact ⟨(r.rg j a q).1, u, by rw [upd_ne ne]; exact q2, q3⟩
    · have q' : a = p := q
      rw [q']
      exact ⟨r.le.nn (.of hp), o', upd_same, ht'⟩
  · rcases q with ⟨n1, q⟩ | ⟨n1, q⟩
    · rcases q' with ⟨n2, q'⟩ | ⟨n2, q'⟩
      · exact r.dj j k a q q'
      · have z : a = p := q'
        rw [z] at q
        exact absurd q (np j)
    · rcases q' with ⟨n2, q'⟩ | ⟨n2, q'⟩
      · have z : a = p := q
        rw [z] at q'
        exact absurd q' (np k)
      · rw [n1, n2]
  · rcases q with ⟨n1, q⟩ | ⟨n1, q⟩
    · obtain ⟨sv', h1, h2⟩ := r.ro j a q
      exact ⟨sv', by rw [List.getElem?_set_ne (Ne.symm n1)]; exact h1, h2⟩
    · rw [n1]
      exact ⟨sv, by rw [List.getElem?_set_self hil], ho⟩
  · by_cases hj : i = j
    · subst hj
      rw [List.getElem?_set_self hil] at e
      cases e
      exact ⟨some (.ref p), by rw [List.getElem?_set_self (by rw [r.len]; exact hil)], (h.mono (H' := upd H3 p o') up fun _ _ _ q _ => q).rg fun a q => .inr ⟨rfl, q⟩⟩
    · rw [List.getElem?_set_ne hj] at e
      obtain ⟨u, h1, h2⟩ := r3.sl j sv' e
      refine ⟨u, by rw [List.getElem?_set_ne hj]; exact h1, (h2.mono (H' := upd H3 p o') up fun a u' z q n => ?_).rg fun a q => .inl ⟨fun z => hj z.symm, q⟩⟩
      rw [upd_ne fun e => np j (by rw [← e]; exact z)]
      exact q
end
/-! ### what they come to -/
def dBGet (i : Nat) (fy : En → R PD) : En → R PD := fun en => match (en[i]?).bind bdOf with
  | some es => (fy en).bind fun y => match k2 y with
    | some k => match lkD es k with
      | some d => .ok d
      | none => .stuck
    | none => .stuck
  | none => .stuck
def dBIn (b : Bool) (i : Nat) (fy : En → R PD) : En → R PD := fun en => match (en[i]?).bind bdOf with
  | some es => (fy en).bind fun y => match k2 y with
    | some k => .ok (.bool (xor b (lkD es k).isSome))
    | none => .stuck
  | none => .stuck
def sBPut (i : Nat) (fy fv : En → R PD) : En → R Fl := fun en => match en[i]? with
  | some (.bd es) => (fv en).bind fun v => (fy en).bind fun y => match k2 y with
    | some k => if es.length + 1 ≤ szN then .ok (.nx (en.set i (.bd (putBD es k v)))) else .stuck
    | none => .stuck
  | _ => .stuck
def sBNew (i : Nat) : En → R Fl := fun en => if i < en.length then .ok (.nx (en.set i (.bd []))) else .stuck
def sBDisp (i : Nat) (fy fv : En → R PD) : En → R Fl := fun en => if i < en.length then (fy en).noexc.bind fun y => (fv en).noexc.bind fun v => match k2 y with
    | some k => .ok (.nx (en.set i (.bd [(k, v)])))
    | none => .stuck
  else .stuck
def sBMove (i l j : Nat) (fe : En → R PD) : En → R Fl := fun en => match en[j]? with
  | some (.bd es) => if i ≠ j ∧ i < en.length then (fe en).bind fun d => .ok (.nx (((en.set j .no).set i (.bd es)).set l (.sh d))) else .stuck
  | _ => .stuck
def dKeysB (i : Nat) : En → R (List PD) := fun en => match en[i]? with
  | some (.bz es) => .ok (es.map fun e => .tuple [.bool e.1.1, .bool e.1.2])
  | _ => .stuck
def sFix (i : Nat) (f : En → R Fl) : En → R Fl := fun en => match en[i]? with
  | some (.bd es) => f (en.set i (.bz es))
  | _ => .stuck
section
variable {C : Cn} {ty tv te : TE} {fy fv fe : En → R PD}
theorem k2_sqt {Hs : Hp} {u : V} {y : PD} {k : Bool × Bool} (h : Rp C.K Hs u y) (e : k2 y = some k) : ∃ q, u = .ref q ∧ SqT C.K Hs q [.bl k.1, .bl k.2] := by
  unfold k2 at e
  split at e
  · cases e
    cases h with
    | tup h1 h2 =>
      cases h2 with
      | cons a r =>
        cases a
        cases r with
        | cons b r =>
          cases b
          cases r
          exact ⟨_, rfl, h1⟩
  · cases e
theorem ed_bget {i : Nat} (h : EdS C ty fy) : EdS C (tBGet C.K (tVar i) ty) (dBGet i fy) := fun H0 ext reg en σ H rs Q w => by
  unfold dBGet at w
  cases e : (en[i]?).bind bdOf with
  | none => rw [e] at w; exact w.elim
  | some es =>
    rw [e] at w
    obtain ⟨p0, xs0, h0, _, _⟩ := rs.bdAt e
    refine ⟨_, h0, h.seq rs (W := WrS C (own ext reg) H Q) w (fun _ q => q) (fun q => q) fun y u H2 e2 r2 h2 w2 => ?_⟩
    split at w2
    · rename_i k ek
      split at w2
      · rename_i d ed
        obtain ⟨p, xs, h1, h3, h4⟩ := r2.bdAt e
        rw [h0] at h1
        cases h1
        obtain ⟨q, rfl, hq⟩ := k2_sqt h2 ek
        obtain ⟨v, hv, rv⟩ := (h4.lk k).2 d ed
        exact ⟨q, p0, xs, v, k, rfl, rfl, h3, fun x hx => hid_ex.le.t _ _ (h4.keys x hx), hid_ex.le.t _ _ hq, hv, w2 v H2 e2 rv⟩
      · exact w2.elim
    · exact w2.elim
theorem ed_bin {i : Nat} (h : EdS C ty fy) : EdS C (tOp (rInB C.K) ty (tVar i)) (dBIn false i fy) := fun H0 ext reg en σ H rs Q w => by
  unfold dBIn at w
  cases e : (en[i]?).bind bdOf with
  | none => rw [e] at w; exact w.elim
  | some es =>
    rw [e] at w
    refine h.seq rs (W := WrS C (own ext reg) H Q) w (fun _ q => q) (fun q => q) fun y u H2 e2 r2 h2 w2 => ?_
    split at w2
    · rename_i k ek
      obtain ⟨p, xs, h1, h3, h4⟩ := r2.bdAt e
      obtain ⟨q, rfl, hq⟩ := k2_sqt h2 ek
      refine ⟨_, h1, q, p, xs, k, rfl, rfl, h3, fun x hx => hid_ex.le.t _ _ (h4.keys x hx), hid_ex.le.t _ _ hq, ?_⟩
      rw [(h4.lk k).1]
      rw [Bool.false_xor] at w2
      exact w2 _ H2 e2 (.bl _)
    · exact w2.elim
theorem ed_bnotin {i : Nat} (h : EdS C ty fy) : EdS C (tOp (rNotInB C.K) ty (tVar i)) (dBIn true i fy) := fun H0 ext reg en σ H rs Q w => by
  unfold dBIn at w
  cases e : (en[i]?).bind bdOf with
  | none => rw [e] at w; exact w.elim
  | some es =>
    rw [e] at w
    refine h.seq rs (W := WrS C (own ext reg) H Q) w (fun _ q => q) (fun q => q) fun y u H2 e2 r2 h2 w2 => ?_
    split at w2
    · rename_i k ek
      obtain ⟨p, xs, h1, h3, h4⟩ := r2.bdAt e
      obtain ⟨q, rfl, hq⟩ := k2_sqt h2 ek
      refine ⟨_, h1, q, p, xs, k, rfl, rfl, h3, fun x hx => hid_ex.le.t _ _ (h4.keys x hx), hid_ex.le.t _ _ hq, ?_⟩
      rw [(h4.lk k).1]
      rw [Bool.true_xor] at w2
      exact w2 _ H2 e2 (.bl _)
    · exact w2.elim
theorem es_bput {i : Nat} (hy : EdS C ty fy) (hv : EdS C tv fv) : Es C (sBPutT C.K (tVar i) ty tv) (sBPut i fy fv) := fun H0 ext reg en σ H rs D w => by
  unfold sBPut at w
  cases e : en[i]? with
  | none => rw [e] at w; exact w.elim
  | some sv =>
    rw [e] at w
    cases sv with
    | bd es =>
      obtain ⟨p, xs0, h1, _, _, _⟩ := rs.bdIn e
      refine hv.seq rs (W := WS C H0 ext D) w (fun _ q => WS.exc q rs.le rs.tb) (fun q => q) fun d v H2 e2 r2 h2 w2 => ?_
      refine ⟨_, h1, hy.seq r2 (W := WS C H0 ext D) w2 (fun _ q => WS.exc q r2.le r2.tb) (fun q => q) fun y u H3 e3 r3 h3 w3 => ?_⟩
      split at w3
      · rename_i k ek
        split at w3
        · rename_i hl
          obtain ⟨p', xs, h4, h5, h6, h7⟩ := r3.bdIn e
          rw [h1] at h4
          cases h4
          obtain ⟨q, rfl, hq⟩ := k2_sqt h3 ek
          exact ⟨q, p, xs, k, rfl, rfl, h6, fun x hx => hid_ex.le.t _ _ (h7.keys x hx), hid_ex.le.t _ _ hq, sz_lt (by rw [h7.len]; omega), w3 reg σ _ (r3.wr (i := i) (sv := .bd (putBD es k d)) rfl ⟨_, h6, isLD_bd p xs⟩ h5 h1 ⟨p, _, rfl, h5, upd_same, h7.put hq (h2.mono e3.toEx.hid.le)⟩)⟩
        · exact w3.elim
      · exact w3.elim
    | _ => exact w.elim
theorem es_bnew {i : Nat} : Es C (tAsg tBNew (gName i)) (sBNew i) := fun H0 ext reg en σ H rs D w => fun p hp => by
  unfold sBNew at w
  split at w
  · rename_i hi
    exact w _ _ _ (rs.new (i := i) (sv := .bd []) hi rfl hp ⟨p, [], rfl, rfl, upd_same, .nil⟩)
  · exact w.elim
theorem es_bdisp {i : Nat} (hy : EdS C ty fy) (hv : EdS C tv fv) : Es C (tAsg (tBDisp C.K ty tv) (gName i)) (sBDisp i fy fv) := fun H0 ext reg en σ H rs D w => fun p hp => by
  unfold sBDisp at w
  split at w
  · rename_i hi
    have ra := rs.alien (o := BdO p []) hp
    refine hy _ _ reg en σ _ ra _ ?_
    generalize fy en = x at w ⊢
    cases x with
    | exc c => exact w.elim
    | stuck => exact w.elim
    | ok y =>
      simp only [R.noexc_ok, R.bind_ok] at w
      intro u H2 e2 h2
      have r2 := ra.ex e2
      refine hv _ _ reg en σ _ r2 _ ?_
      generalize fv en = x at w ⊢
      cases x with
      | exc c => exact w.elim
      | stuck => exact w.elim
      | ok v =>
        simp only [R.noexc_ok, R.bind_ok] at w
        intro v' H3 e3 h3
        split at w
        · rename_i k ek
          obtain ⟨q, rfl, hq⟩ := k2_sqt h2 ek
          have e13 := e2.trans e3
          have hp3 : H3 p = some (BdO p []) := e13.k _ _ upd_same rfl
          have hq3 : SqT C.K (hid H3 (own (fun a => ext a ∨ a = p) reg)) q [.bl k.1, .bl k.2] := e3.toEx.hid.le.t _ _ hq
          refine ⟨q, k, rfl, hid_ex.le.t _ _ hq3, hp3, w _ _ _ (RS.adopt (i := i) (o := BdO p []) (o' := BdO p [(k, q, v')]) rs (r2.ex e3) hp e13 hi rfl ⟨_, hp3, isLD_bd p []⟩ rfl ⟨p, _, rfl, rfl, upd_same, .cons hq3 h3 .nil⟩)⟩
        · exact w.elim
  · exact w.elim
theorem es_bmove {i l j : Nat} (he : EdS C te fe) : Es C (tPar i l (tCons (tVar j) (tCons te tNil))) (sBMove i l j fe) := fun H0 ext reg en σ H rs D w => by
  unfold sBMove at w
  cases e : en[j]? with
  | none => rw [e] at w; exact w.elim
  | some sv =>
    rw [e] at w
    cases sv with
    | bd es =>
      dsimp only at w
      split at w
      · rename_i hij
        obtain ⟨p, xs0, h1, _, _, _⟩ := rs.bdIn e
        refine ⟨_, h1, he.seq rs (W := WS C H0 ext D) w (fun _ q => WS.exc q rs.le rs.tb) (fun q => q) fun d v H2 e2 r2 h2 w2 => ?_⟩
        have r3 := r2.move (i := i) (p := p) e h1 hij.1 hij.2
        exact ⟨_, _, rfl, w2 _ _ _ (r3.set (i := l) (h2.mono ((Ex.refl H2).hidLess fun a z => own_mv z).le))⟩
      · exact w.elim
    | _ => exact w.elim
theorem es_fix {t : TS} {f : En → R Fl} (i : Nat) (h : Es C t f) : Es C (tFix t) (sFix i f) := fun H0 ext reg en σ H rs D w => by
  unfold sFix at w
  cases e : en[i]? with
  | none => rw [e] at w; exact w.elim
  | some sv =>
    rw [e] at w
    cases sv with
    | bd es =>
      obtain ⟨p, xs, h1, h2, h3, h4⟩ := rs.bdIn e
      exact ⟨p, BdO p xs, h3, True.intro, fun o => h H0 ext _ _ σ _ (rs.fix e h1 h2 h3 h4 o) D w⟩
    | _ => exact w.elim
theorem ei_keysB (i : Nat) : EdI C (iKz C.K (tVar i)) (dKeysB i) := fun H0 ext reg en σ H rs Q w => by
  unfold dKeysB at w
  cases e : en[i]? with
  | none => rw [e] at w; exact w.elim
  | some sv =>
    rw [e] at w
    cases sv with
    | bz es =>
      obtain ⟨v, h1, p, o, xs, rfl, h2, h3⟩ := rs.sl i _ e
      refine ⟨_, h1, p, o, xs, rfl, hid_ex.k _ _ h2 rfl, w _ H (Xt.refl H) fun Z H' e' hz j => ⟨fun d hd => ?_, fun hl => ?_⟩⟩
      · have q1 : H' p = some (.frz o (BdO p xs)) := hid_ex.k _ _ (e'.k _ _ h2 rfl) rfl
        rw [List.getElem?_map] at hd
        cases q : es[j]? with
        | none => rw [q] at hd; cases hd
        | some x =>
          rw [q] at hd
          cases hd
          obtain ⟨y, h4, h5⟩ := h3.get q
          refine ⟨⟨q1, (List.getElem?_eq_some_iff.mp h4).1⟩, ?_⟩
          rintro u H'' ⟨rfl, y', h6, rfl⟩
          rw [h4] at h6
          cases h6
          exact ⟨Xt.refl _, .tup (e'.sqt h5) (.cons (.bl _) (.cons (.bl _) .nil))⟩
      · refine ⟨hid_ex.k _ _ (e'.k _ _ h2 rfl) rfl, ?_⟩
        rw [h3.len]
        rw [List.length_map] at hl
        exact Nat.le_of_eq hl
    | _ => exact w.elim
end
end Dn

/-! zip of a text and a list; tuple(list); how many signs of a text are unlike. -/
namespace Dn
open PySem L2 PySem.Spec PyProof.Rows
theorem vals_at0 : ∀ {xs : List V} {us : List Value}, Vals xs us → ∀ {i : Nat} {u : Value}, us[i]? = some u → ∃ v, xs[i]? = some v ∧ RelV v u
  | _, _, .nil, _, _, h => by simp at h
  | _, _, .cons h t, 0, u, e => by simp at e; subst e; exact ⟨_, rfl, h⟩
  | _, _, .cons h t, i + 1, u, e => by
    obtain ⟨v, h1, h2⟩ := vals_at0 t (i := i) (by simpa using e)
    exact ⟨v, by simpa using h1, h2⟩
/-! ### zip(text, list) -/
def ItZm (K : PySem.W.Frag) (x : Str) (l : Addr) : It := ⟨fun i H => ∃ xs, SqL K H l xs ∧ i < x.cps.size ∧ i < xs.length, fun i H v H' => ∃ T c y, v = .ref T ∧ H T = none ∧ x.cps[i]? = some c ∧ (∀ xs, SqL K H l xs → xs[i]? = some y) ∧ H' = upd H T (.tup [.str ⟨#[c]⟩, y]), fun i H => ∃ xs, SqL K H l xs ∧ i ≤ x.cps.size ∧ i ≤ xs.length ∧ (i = x.cps.size ∨ i = xs.length)⟩
structure StZm (x : Str) (l : Addr) (t : Tok) (N : Nat) (i : Nat) (h : Heap) : Prop where
  z : IsZip h (N + 4) (N + 2) (N + 3) .none
  ti : IsTupOf2 h (N + 2) (.ref N) (.ref (N + 1))
  to : ∃ p q, IsTupOf2 h (N + 3) p q
  a : h.IsStrIter N (strIterType x) x t i
  b : h.IsListIter (N + 1) l i
theorem turn_zipM {P : Program} {w : World} {K : PySem.W.Frag} {elts : List Expr} {kk : Nat} {tpos : Pos} (x : Str) (l : Addr) (t : Tok) (N : Nat) (hlN : l < N) :
    Turn P w K (.Tuple elts kk tpos) (ItZm K x l) (fpZ N) (N + 4) (StZm x l t N) where
  mem := List.mem_cons_self ..
  obj := fun i h st c hc => by
    obtain ⟨hz, hTI, ⟨p, q, hTO⟩, ⟨o1, e1, _, d1⟩, ⟨o2, e2, _, d2⟩⟩ := st
    rcases five hc with r | r | r | r | r
    · exact r ▸ ⟨_, hz, fun v q => nomatch q⟩
    · exact r ▸ ⟨_, hTI, fun v q => nomatch q⟩
    · exact r ▸ ⟨_, hTO, fun v q => nomatch q⟩
    · exact r ▸ ⟨o1, e1, fun v q => by rw [d1] at q; cases q⟩
    · exact r ▸ ⟨o2, e2, fun v q => by rw [d2] at q; cases q⟩
  keep := fun i h h' st k => by
    obtain ⟨hz, hTI, ⟨p, q, hTO⟩, ⟨o1, e1, r1⟩, ⟨o2, e2, r2⟩⟩ := st
    exact ⟨k _ (by simp) _ hz, k _ (by simp) _ hTI, ⟨p, q, k _ (by simp) _ hTO⟩, ⟨o1, k _ (by simp) _ e1, r1⟩, ⟨o2, k _ (by simp) _ e2, r2⟩⟩
  item := by
    intro X hP hw hK hc i pins s σ H E I hf st hg
    subst hP hw hK
    obtain ⟨hz, hTI, ⟨p, q, hTO⟩, h1, h2⟩ := st
    obtain ⟨xs, hq, hg1, hg2⟩ := hg
    obtain ⟨its, rv, pl, hzl0⟩ := I.list hq
    have S : ZipSep2 (N + 4) (N + 2) (N + 3) N (N + 1) [N] [N + 1, l] := zip_sep2 (fp1 := []) (fp2 := [l]) (fun _ h => nomatch h) fun b hb => by rw [List.mem_singleton.mp hb]; exact hlN
    have hzl : N + 4 < s.heap.objs.size := Heap.lt_size hz
    have hne : l ≠ N + 1 := Nat.ne_of_lt (Nat.lt_succ_of_lt hlN)
    refine wpAny_pyNext_zipD2_item S (Draws.text (A := X.A.in1) (I.ok.hd hc) N x t) (Draws.list (A := X.A.in1) (I.ok.hd hc) (N + 1) l hne its.toArray) hz hTI hTO h1 ⟨h2, pl.isList⟩ hg1 (by rw [List.size_toArray, ← rv.length]; exact hg2) fun v1 v2 h' tk p1 p2 z' to' a' b' hT hsz hk => ?_
    obtain ⟨c, tc, hcx, rfl⟩ := p1
    have p2' : its[i]? = some v2 := by simpa using p2
    obtain ⟨y, hy, ry⟩ := vals_at0 rv p2'
    refine ⟨_, rfl, wpAny_letOwnedTupleGo_zip (s := { s with heap := h', toks := tk }) z' fun h'' z'' sb => ?_⟩
    have ob : ObjOk X.prog X.w (upd H s.heap.objs.size (.tup [.str ⟨#[c]⟩, y])) h'' s.heap.objs.size (.tup [.str ⟨#[c]⟩, y]) :=
      ⟨by show 2 ≤ sizeLine; decide, [.str ⟨#[c]⟩ tc, v2], .cons ⟨_, rfl⟩ (.cons ry .nil), ⟨_, (sb.2 _ (Nat.ne_of_gt hzl)).trans hT, rfl, _, rfl⟩⟩
    have I1 : Inv X pins σ (upd H s.heap.objs.size (.tup [.str ⟨#[c]⟩, y])) { s with heap := h'', toks := tk } :=
      I.turnedNew (ch := fpZ N) (fun e o ne l => (sb.2 e fun r => ne (by simp [r])).trans (hk e o (fun r => ne (by simp [r])) (fun r => ne (by simp [r])) (fun r => ne (by simp [r])) (fun r => ne (by simp [r])) l)) hf (Nat.le_refl _) ob
    refine ⟨.ref s.heap.objs.size, _, I1, rfl, ⟨_, c, y, rfl, I.hok.fresh (Nat.le_refl _), hcx, fun ys hys => by rw [I.list_inj hys hq]; exact hy, rfl⟩, ⟨z'', (sb.2 _ S.TIz).trans (hk _ _ S.TIz S.TITO S.TIi1 S.TIi2 hTI), ⟨_, _, (sb.2 _ S.TOz).trans to'⟩, ?_, ?_⟩, fun e he => ?_⟩
    · obtain ⟨o, l, r⟩ := a'
      exact ⟨o, (sb.2 N S.zi1.symm).trans l, r⟩
    · obtain ⟨⟨o, l, r⟩, _⟩ := b'
      exact ⟨o, (sb.2 _ S.zi2.symm).trans l, r⟩
    · have lt : e < s.heap.objs.size := by
        have hzl' : (N + 4 : Nat) < s.heap.objs.size := hzl
        rcases five he with r | r | r | r | r <;> subst r <;> show (_ : Nat) < _ <;> omega
      rw [upd_ne (Nat.ne_of_lt lt)]
      exact (hf e he).1
  done := by
    intro X hP hw hK hc i pins s σ H E I hf st hg
    subst hP hw hK
    obtain ⟨hz, hTI, ⟨p, q, hTO⟩, h1, h2⟩ := st
    obtain ⟨xs, hq, hg1, hg2, hg3⟩ := hg
    obtain ⟨its, rv, pl, hzl0⟩ := I.list hq
    have S : ZipSep2 (N + 4) (N + 2) (N + 3) N (N + 1) [N] [N + 1, l] := zip_sep2 (fp1 := []) (fp2 := [l]) (fun _ h => nomatch h) fun b hb => by rw [List.mem_singleton.mp hb]; exact hlN
    have hne : l ≠ N + 1 := Nat.ne_of_lt (Nat.lt_succ_of_lt hlN)
    have hsz : its.toArray.size = xs.length := by rw [List.size_toArray, ← rv.length]
    exact wpAny_pyNext_zipD2_end S (Draws.text (A := X.A.in1) (I.ok.hd hc) N x t) (Draws.list (A := X.A.in1) (I.ok.hd hc) (N + 1) l hne its.toArray) hz hTI hTO h1 ⟨h2, pl.isList⟩ hg1 (by rw [hsz]; exact hg2) (by rw [hsz]; exact hg3) fun h' tk hk =>
      ⟨rfl, I.turnedL (t' := tk) (ch := fpZ N) (fun e o ne l => hk e o (fun r => ne (by simp [r])) (fun r => ne (by simp [r])) (fun r => ne (by simp [r])) (fun r => ne (by simp [r])) l) hf⟩
  self := fun A i s Q E st h => wpAny_pyIter_zip st.z h
def iZipM (K : PySem.W.Frag) (ta : TA) : TI := fun σ H R => ta σ H fun vs H1 => ∃ (x : Str) (l : Addr) (xs : List V), vs = [.str x, .ref l] ∧ SqL K H1 l xs ∧ R (ItZm K x l) H1
theorem kpi_zipM {X : Cx} {e e2 : Expr} {ta : TA} {p pos tpos : Pos} {elts : List Expr} {kk : Nat} (K : PySem.W.Frag) (hK : X.K = K) (hg : Gl X "zip") (hm : X.mg "zip" = none) (ha : PA X [e, e2] ta)
    (hs : starEach [e, e2] X.env = (false, eval e X.env) :: starEach [e2] X.env := by rfl) (hpl : (backTo pos (starEach [e2] X.env)).any (·.1) = false := by rfl) :
    PI X (.Tuple elts kk tpos) (.Call (.Name "zip" p) [e, e2] [] pos) (iZipM K ta) := by
  subst hK
  refine ⟨fun pins s σ H R I h => Call_ (ld_blt I hg hm boot_zip (PyProof.Rows.callWith_type1 (thn (ha.run pos pins s σ H _ I h) fun us s1 ⟨vs, H1, I1, r1, x, l, xs, ex, hq, q⟩ => ?_) hs hpl))⟩
  subst ex
  cases r1 with
  | cons r rr =>
    cases rr with
    | cons r' rr =>
      cases rr
      obtain ⟨t, rfl⟩ := r
      cases r'
      obtain ⟨its, rv, pl, hzl0⟩ := I1.list hq
      refine zip_begins2 (begins_text x t) (begins_list l its.toArray) trivial pl.isList fun h' hz hTI hTO g1 g2 hsz hk => wpAny_pyIter_zip hz ?_
      have I2 : Inv X pins σ H1 { s1 with heap := h' } := I1.kept (t' := s1.toks) hk
      have hlN : l < s1.heap.objs.size := let ⟨o, ho, _⟩ := pl.isList; Heap.lt_size ho
      refine ⟨_, fpZ s1.heap.objs.size, _, _, H1, rfl, I2, turn_zipM x l t s1.heap.objs.size hlN, ⟨hz, hTI, ⟨_, _, hTO⟩, ⟨_, g1, rfl, rfl⟩, ⟨_, g2, rfl, rfl⟩⟩, fun c hc => ?_, q⟩
      have hle : s1.heap.objs.size ≤ c := by
        rcases five hc with r | r | r | r | r <;> subst r <;> show (_ : Nat) ≤ _ <;> omega
      exact I1.fpOk hle (I1.hok.fresh hle)
def zipM : List PD → R (List PD)
  | [.str x, .list ds] => .ok (zipD (signL x) ds)
  | _ => .stuck
section
variable [Tabl] {C : Cn}
theorem ei_zipM {ta : TA} {fa : En → R (List PD)} (h : EdA C ta fa) : EdI C (iZipM C.K ta) (dItA zipM fa) := fun H0 ext reg en σ H rs Q w =>
  h.seq rs (W := WrI C (own ext reg) H Q) w (fun _ q => q) (fun q => q) fun x v H2 e2 r2 h2 w2 => by
    unfold zipM at w2
    split at w2
    · rename_i x ds
      cases h2 with
      | cons hv h2 =>
        cases h2 with
        | cons hu h2 =>
          cases h2
          cases hv
          cases hu with
          | lst hp hr =>
            rename_i l xs
            refine ⟨x, l, xs, rfl, SqL.of (hid_some hp).2, w2 _ H2 e2 fun Z H' e' hz i => ⟨fun d hd => ?_, fun hl => ?_⟩⟩
            · have hq : SqL C.K H' l xs := SqL.of (hid_some (e'.l hp)).2
              obtain ⟨a, b, ha, hb, rfl⟩ := zipD_get hd
              obtain ⟨c, hc, rfl⟩ := signL_get ha
              obtain ⟨y, hy, ry⟩ := hr.get hb
              refine ⟨⟨xs, hq, (Array.getElem?_eq_some_iff.mp hc).1, (List.getElem?_eq_some_iff.mp hy).1⟩, ?_⟩
              rintro z H'' ⟨T, c', y', rfl, nT, hc', hy', rfl⟩
              obtain rfl := Option.some.inj (hc.symm.trans hc')
              obtain rfl := Option.some.inj (hy.symm.trans (hy' xs hq))
              exact ⟨Xt.new nT, Rp.newT hz nT (.cons (.str _) (.cons (ry.mono e'.le) .nil))⟩
            · have hq : SqL C.K H' l xs := SqL.of (hid_some (e'.l hp)).2
              unfold zipD at hl
              rw [List.length_map, List.length_zip, signL_len] at hl
              have := hr.length
              refine ⟨xs, hq, ?_⟩
              show i ≤ _ ∧ i ≤ _ ∧ (i = _ ∨ i = _)
              omega
    · exact w2.elim
/-! ### tuple(list) -/
def tupD : List PD → R PD
  | [.list ds] => .ok (.tuple ds)
  | _ => .stuck
def rTupOf (K : PySem.W.Frag) : List V → Hp → VK → Prop := fun xs H Q => ∃ p ys, xs = [.ref p] ∧ ((SqL K H p ys ∧ ∀ l, H l = none → Q (.ref l) (upd H l (.tup ys))) ∨ (SqT K H p ys ∧ Q (.ref p) H))
theorem kx_tuple {X : Cx} (K : PySem.W.Frag) (h : X.K = K) : CallR X (.type "tuple") (rTupOf K) := by
  subst h
  exact call_tuple_of
theorem n_tuple : OpN C (rTupOf C.K) tupD := fun Y Z H vs xs Q hyz hz hx q => by
  unfold tupD at q
  split at q
  · rename_i ds
    obtain ⟨v, rfl, h⟩ := hx.one
    obtain ⟨p, ys, rfl, hp, hr⟩ := h.lst hyz
    exact ⟨p, ys, rfl, .inl ⟨SqL.of hp, fun l hl => q _ _ (Xt.new hl) (Rp.newT hz hl hr)⟩⟩
  · exact q.elim
end
section
variable {prog : Program} {w : World} {A : Around} {E : Value → Shared → Prop} {s : Shared}
theorem call_set_text {x : Str} {tt : Tok} {xs : List Str} {Q : Value → Shared → Prop}
    (hh : A.handled = none) (hxs : xs = x.cps.toList.map fun c => ⟨#[c]⟩) (hn1 : xs.length + 1 < scanBound)
    (h : ∀ (h' : Heap) (tk : Nat), h'.SetOf (PySem.strKind prog w) s.heap.objs.size (fun k' => (xs.take x.cps.size).any (· == k')) (unlike xs x.cps.size) →
      (∀ b o, b < s.heap.objs.size → s.heap.get? b = some o → h'.get? b = some o) → Q (.ref s.heap.objs.size) { s with heap := h', toks := tk }) :
    wpAny (model prog w) A (call (.type "set") [.str x tt]) Q E s := by
  obtain ⟨c, tl, hmro⟩ := PySem.F.called_set.mro
  have hmade := PySem.F.called_set.made
  have hsub := PySem.F.called_set.sub
  refine wpAny_call (codeAny_of_tree ?_)
  show wpAny _ _ (callAny (.type "set") _) _ _ _
  refine wpAny_pure ⟨Code.quiet_builtin _ (by decide +kernel), codeAny_builtin PySem.F.entry_type_call ?_⟩
  rw [Around.under_plain (weight_type_call_type "set" [.str x tt] []) rfl]
  have h1 := PySem.F.called_set.notType
  have h2 := PySem.F.called_set.canCreate
  have hct := PySem.F.typeCall_set_1 (.str x tt)
  repeat (any_goals (first | assumption | wp_step))
  refine codeAny_mono (code_set_new_1 (.str x tt) (E := E) (Q₁ := fun obj s₁ => ∃ led : Bool, obj = .ref s.heap.objs.size ∧ s₁ = { s with heap := s.heap.push { cls := .type "set", dict := none, data := .set #[] 0 (.fresh 0 0 led) } }) fun led => ⟨led, rfl, rfl⟩) fun r s₁ hr => ?_
  cases r with
  | error e => exact hr
  | ok fl =>
    cases fl with
    | ret obj =>
      obtain ⟨led, rfl, rfl⟩ := hr
      have hS : (s.heap.push { cls := .type "set", dict := none, data := .set #[] 0 (.fresh 0 0 led) }).get? s.heap.objs.size = some { cls := .type "set", dict := none, data := .set #[] 0 (.fresh 0 0 led) } := Heap.get?_push_size _ rfl
      have hT : Shared.TypeIs { s with heap := s.heap.push { cls := .type "set", dict := none, data := .set #[] 0 (.fresh 0 0 led) } } (.ref s.heap.objs.size) "set" := ⟨_, hS, rfl⟩
      have hli := PySem.F.called_set.init.lookup
      have hbi := PySem.F.called_set.init.bind (.ref s.heap.objs.size)
      repeat (any_goals (first | assumption | wp_step))
      refine codeAny_mono (codeAny_call_builtin (R := wants (fun r s₂ => r = .none ∧ ∃ h' tk, s₂ = { s with heap := h', toks := tk } ∧
          h'.SetOf (PySem.strKind prog w) s.heap.objs.size (fun k' => (xs.take x.cps.size).any (· == k')) (unlike xs x.cps.size) ∧
          (∀ b o, b < s.heap.objs.size → s.heap.get? b = some o → h'.get? b = some o)) E) PySem.F.called_set.init.plain PySem.F.entry_set_init (check_set_init_1 hT ?_)) fun r₂ s₂ hr₂ => ?_
      · have hsls := PySem.F.sub_str_set
        have hslf := PySem.F.sub_str_frozenset
        have hne : (Value.type "str" == Value.type "dict") = false := by decide
        unfold Builtin.«set.__init__» noKeywords Builtin.Frozenset.updateFrom
        generalize hPI : pyIter = PI
        wp_walk
        subst hPI
        refine wpAny_pyIter_str fun oi St W st0 => ?_
        refine wpAny_bind (wpAny_runValue ?_)
        have hh3 : A.in1.in1.in1.handled = none := by simp [hh]
        have hSf : s.heap.objs.size ∉ [(s.heap.push { cls := .type "set", dict := none, data := .set #[] 0 (.fresh 0 0 led) }).objs.size] := by
          rw [Heap.size_push]; simp only [List.mem_cons, List.mem_singleton, List.not_mem_nil, or_false, not_or]
          exact Nat.ne_of_lt (Nat.lt_succ_self _)
        have hsz : xs.length = x.cps.size := by rw [hxs]; simp
        have hval : ∀ (i : Nat) (v : Value), SignAt x i v → ∃ t, v = .str (xs.getD i Str.empty) t := fun i v hv => by
          obtain ⟨c, u, hc, rfl⟩ := hv
          refine ⟨u, ?_⟩
          rw [hxs, List.getD_eq_getElem?_getD, List.getElem?_map, Array.getElem?_toList, hc]
          rfl
        refine loopTexts ((W _ hh3).toS) s.heap.objs.size
          hSf xs hsz (by rw [← hsz]; exact hn1) hval (x.cps.size - 0) 0 _ (by omega) (Nat.zero_le _)
          st0 ?hS0 ?hR
        case hS0 =>
          have hget : ((s.heap.push { cls := .type "set", dict := none, data := .set #[] 0 (.fresh 0 0 led) }).push oi).get? s.heap.objs.size
              = some { cls := .type "set", dict := none, data := .set #[] 0 (.fresh 0 0 led) } := Heap.get?_push_of_some _ hS
          exact PyProof.Rows.SetOf_congr ((PyProof.Rows.setObjOf_fresh (knd := PySem.strKind prog w) led).setOf hget (by unfold scanBound; omega)) (fun _ => rfl) rfl
        case hR =>
          intro s' hm hS'
          obtain ⟨h', g', d', tk', os'⟩ := s'
          have eg : g' = s.gens := hm.gens
          have ed : d' = s.drawn := hm.drawn
          have eo : os' = s.os := hm.os
          subst eg; subst ed; subst eo
          show wpAny _ _ _ _ _ _
          refine wpAny_pure ?_
          show wpAny _ _ (ret Value.none) _ _ _
          refine wpAny_pure ⟨rfl, h', tk', rfl, hS', fun b o hb e => ?_⟩
          have hb1 : b ≠ s.heap.objs.size := Nat.ne_of_lt hb
          have hb2 : b ≠ (s.heap.push { cls := .type "set", dict := none, data := .set #[] 0 (.fresh 0 0 led) }).objs.size := by
            rw [Heap.size_push]; exact Nat.ne_of_lt (Nat.lt_succ_of_lt hb)
          exact hm.heap b o (by simp only [List.mem_cons, List.mem_singleton, List.not_mem_nil, or_false, not_or]; exact ⟨hb1, hb2⟩) (Heap.get?_push_of_some _ (Heap.get?_push_of_some _ e))
      · cases r₂ with
        | error e => exact hr₂
        | ok fl₂ =>
          cases fl₂ with
          | ret r =>
            obtain ⟨rfl, h', tk, rfl, hS', hk'⟩ := hr₂
            repeat (any_goals (first | assumption | wp_step))
            exact h _ _ hS' hk'
          | _ => exact hr₂.elim
    | _ => exact hr.elim
end
/-! ### len(set(text)) -/
def tLenT (ta : TE) : TE := fun σ H Q => ta σ H fun x H1 => ∃ z : Str, x = .str z ∧ z.cps.size < 2000 ∧ Q (.int (unlike (z.cps.toList.map fun c => ⟨#[c]⟩) z.cps.size : Nat)) H1
theorem pe_lenT {X : Cx} {a : Expr} {ta : TE} {p p2 q pos : Pos} (hc : X.calm = true) (hg : Gl X "len") (hm : X.mg "len" = none) (hg2 : Gl X "set") (hm2 : X.mg "set" = none) (ha : PE X a ta)
    (na : starEach [a] X.env = (false, eval a X.env) :: starEach [] X.env := by rfl) : PE X (.Call (.Name "len" p) [.Call (.Name "set" p2) [a] [] q] [] pos) (tLenT ta) := by
  refine ⟨fun pins s σ H Q I h => ?_⟩
  refine Call_ (ld_blt I hg hm boot_len ?_)
  refine PyProof.Rows.callWith_builtin1 (PyProof.Rows.args_cons ?_ rfl) rfl rfl
  refine Call_ (ld_blt I hg2 hm2 boot_set ?_)
  refine PyProof.Rows.callWith_type1 (PyProof.Rows.args_cons (thn (ha.run pins s σ H _ I h) fun v s1 ⟨x, H1, I1, r1, q1⟩ => PyProof.Rows.args_nil ?_) na) na rfl
  obtain ⟨z, rfl, hz, q1⟩ := q1
  obtain ⟨tt, rfl⟩ := r1
  refine call_set_text (I1.ok.hd hc) rfl (by rw [List.length_map, Array.length_toList]; unfold scanBound; omega) fun h' tk hS hk => ?_
  refine PyProof.Rows.args_nil ?_
  obtain ⟨o, es, ep, t, ho, hex, hd, _, _, _, hf, hn⟩ := hS
  have I2 : Inv X pins σ H1 { s1 with heap := h', toks := tk } := I1.kept fun b o e => hk b o (Heap.lt_size e) e
  have hu := unlike_le (z.cps.toList.map fun c => (⟨#[c]⟩ : Str)) z.cps.size
  exact call_len_set ho hex hd hf (by rw [hn]; omega) ⟨.int (unlike (z.cps.toList.map fun c => ⟨#[c]⟩) z.cps.size : Nat), H1, I2.tok _, ⟨_, by rw [hn]⟩, q1⟩
variable [Tabl]
def lenT : PD → R PD
  | .str z => if z.cps.size < 2000 then .ok (.int (unlike (z.cps.toList.map fun c => ⟨#[c]⟩) z.cps.size : Nat)) else .stuck
  | _ => .stuck
theorem ed_lenT {C : Cn} {ta : TE} {fa : En → R PD} (h : EdL C ta fa) : EdS C (tLenT ta) (d1 lenT fa) := fun H0 ext reg en σ H rs Q w =>
  h.seq rs (W := WrS C (own ext reg) H Q) w (fun _ q => q) (fun q => q) fun x v H2 e2 r2 h2 w2 => by
    unfold lenT at w2
    split at w2
    · rename_i z
      split at w2
      · rename_i hl
        obtain rfl := h2.str
        exact ⟨z, rfl, hl, w2 _ H2 e2 (.int _)⟩
      · exact w2.elim
    · exact w2.elim
end Dn

/-! sorted(d, key=f), f a lambda of one name. -/
namespace Dn
open PySem L2 PySem.Spec PyProof.Rows
variable [Tabl]
/-- the keys made one behind the other -/
def loopK (step : Str → Hp → VK → Prop) : List Str → Hp → (List V → Hp → Prop) → Prop
  | [], H, Q => Q [] H
  | k :: r, H, Q => step k H fun v H' => loopK step r H' fun vs H2 => Q (v :: vs) H2
/-- what is fixed of a place that is not tracked -/
def Fst (X : Cx) (pins : List (Addr × Obj)) (b : Addr) : Prop := b ≠ X.env.locals ∧ b ∉ X.fs ∧ (b ∈ X.ex ∨ X.s_0.heap.objs.size ≤ b) ∧ (∀ x c, X.env.cells.lookup x = some c → c ≠ b) ∧ ∀ p ∈ X.pn ++ pins, p.1 ≠ b
theorem Fst.ok {X : Cx} {pins : List (Addr × Obj)} {H : Hp} {b : Addr} (h : Fst X pins b) (n : H b = none) : FpOk X pins H b := ⟨n, h.1, h.2.1, h.2.2.1, h.2.2.2.1, h.2.2.2.2⟩
theorem Fst.of {X : Cx} {pins : List (Addr × Obj)} {H : Hp} {b : Addr} (h : FpOk X pins H b) : Fst X pins b := ⟨h.2.1, h.2.2.1, h.2.2.2.1, h.2.2.2.2.1, h.2.2.2.2.2⟩
abbrev lo (xs : Array Value) (e : Nat) : Obj := seqObj "list" xs e
section
variable {X : Cx} {pins : List (Addr × Obj)} {σ : L2.St}
/-- the keys are made -/
theorem key_loop {f a kS : Addr} {fo : Obj} {e1 : Nat} {step : Str → Hp → VK → Prop} {A : Around} {E : Value → Shared → Prop} (fa : Fst X pins a) (fk : Fst X pins kS) (hak : a ≠ kS) (hfk : f ≠ kS)
    (call : ∀ (pins' : List (Addr × Obj)) (s' : Shared) (H' : Hp) (k : Str) (u : Value) (Q' : VK), Inv X pins' σ H' s' → (f, fo) ∈ pins' → (∃ t, u = .str k t) → step k H' Q' → wpAny (model X.prog X.w) A (PySem.call (.ref f) [u]) (EP X pins' σ Q') (fun _ _ => False) s')
    {Q : PUnit → Shared → Prop} {Fin : List V → Hp → Prop} {body : Value → PUnit → Sem (ForInStep PUnit)}
    (hb : ∀ (x : Value) (s' : Shared) (kA : Array Value) (e : Nat) (R : Shared → Prop), s'.heap.get? kS = some (lo kA e) → kA.size ≤ sizeLine →
      wpAny (model X.prog X.w) A (PySem.call (.ref f) [x]) (fun k s'' => s''.heap.get? kS = some (lo kA e) ∧ R { s'' with heap := s''.heap.update kS (Obj.mapSeq (·.push k)) }) (fun _ _ => False) s' →
      wpAny (model X.prog X.w) A (body x ⟨⟩) (fun r s'' => r = .yield ⟨⟩ ∧ R s'') E s')
    (hQ : ∀ (s' : Shared) (H' : Hp) (kv : List V) (kA : Array Value) (e : Nat), Inv X (pins ++ [(f, fo), (a, lo #[] e1), (kS, lo kA e)]) σ H' s' → Vals kv kA.toList → Fin kv H' → Q ⟨⟩ s') :
    ∀ (ks : List Str) (vs : List Value) (s : Shared) (H : Hp) (kv : List V) (kA : Array Value) (e : Nat), StrsAre vs ks → kA.size + ks.length ≤ sizeLine → Inv X (pins ++ [(f, fo), (a, lo #[] e1), (kS, lo kA e)]) σ H s → Vals kv kA.toList →
      loopK step ks H (fun vs H2 => Fin (kv ++ vs) H2) → wpAny (model X.prog X.w) A (forIn vs PUnit.unit body) Q E s
  | [], [], s, H, kv, kA, e, _, _, I, rv, h => by
    rw [List.forIn_nil]
    have h' : Fin (kv ++ []) H := h
    rw [List.append_nil] at h'
    exact wpAny_pure (hQ s H kv kA e I rv h')
  | [], _ :: _, _, _, _, _, _, hs, _, _, _, _ => by cases hs
  | _ :: _, [], _, _, _, _, _, hs, _, _, _, _ => by cases hs
  | k :: ks, v :: vs, s, H, kv, kA, e, hs, hz, I, rv, h => by
    rw [List.length_cons] at hz
    rw [List.forIn_cons]
    have hs1 : ∃ t, v = .str k t := by
      cases hs
      exact ⟨_, rfl⟩
    have hs2 : StrsAre vs ks := by
      cases hs
      assumption
    have pk := I.pin (kS, lo kA e) (List.mem_append_right _ (List.mem_append_right _ (by simp)))
    refine wpAny_bind (wpAny_mono (hb v s kA e (fun s'' => ∃ H' kv' kA' e', Inv X (pins ++ [(f, fo), (a, lo #[] e1), (kS, lo kA' e')]) σ H' s'' ∧ Vals kv' kA'.toList ∧ kA'.size = kA.size + 1 ∧ loopK step ks H' fun vs H2 => Fin (kv' ++ vs) H2) pk.1 (by omega) ?_) (fun r s'' hr => ?_) fun _ _ x => x)
    · refine wpAny_mono (call _ s H k v _ I (List.mem_append_right _ (by simp)) hs1 h) (fun u s'' hu => ?_) fun _ _ x => x
      obtain ⟨w, H', I', rw', q⟩ := hu
      have p1 := I'.pin (f, fo) (List.mem_append_right _ (List.mem_append_right _ (by simp)))
      have p2 := I'.pin (a, lo #[] e1) (List.mem_append_right _ (List.mem_append_right _ (by simp)))
      have p3 := I'.pin (kS, lo kA e) (List.mem_append_right _ (List.mem_append_right _ (by simp)))
      have s1 := Heap.SameBut.update s''.heap kS (Obj.mapSeq (·.push u))
      obtain ⟨c2, hc2⟩ : ∃ c2, (s''.heap.update kS (Obj.mapSeq (·.push u))).get? kS = some (lo (kA.push u) c2) := ⟨_, get?_update_seq p3.1 (·.push u)⟩
      have I0 : Inv X pins σ H' s'' := I'.unpinned
      have I1 : Inv X pins σ H' { s'' with heap := s''.heap.update kS (Obj.mapSeq (·.push u)) } := I0.turnedL (t' := s''.toks) (ch := [kS]) (fun b o hb e => (s1.2 b (fun z => hb (by simp [z]))).trans e) fun b hb => by rw [List.mem_singleton.mp hb]; exact fk.ok p3.2.1
      refine ⟨p3.1, H', kv ++ [w], kA.push u, c2, I1.pins_of fun p hp => ?_, ?_, by simp, ?_⟩
      · rcases List.mem_append.mp hp with hp | hp
        · exact I1.pin p (List.mem_append_right _ hp)
        · simp only [List.mem_cons, List.not_mem_nil, or_false] at hp
          rcases hp with rfl | rfl | rfl
          · exact ⟨(s1.2 _ hfk).trans p1.1, p1.2⟩
          · exact ⟨(s1.2 _ hak).trans p2.1, p2.2⟩
          · exact ⟨hc2, p3.2.1, p3.2.2.1, p3.2.2.2.1, fun v z => nomatch z⟩
      · have : (kA.push u).toList = kA.toList ++ [u] := by simp
        rw [this]
        exact rv.append (.cons rw' .nil)
      · have q' : loopK step ks H' fun vs H2 => Fin (kv ++ (w :: vs)) H2 := q
        have e : (fun (vs : List V) (H2 : Hp) => Fin (kv ++ (w :: vs)) H2) = fun vs H2 => Fin (kv ++ [w] ++ vs) H2 := by
          funext vs H2
          rw [List.append_assoc]
          rfl
        rw [e] at q'
        exact q'
    · obtain ⟨rfl, H', kv', kA', e', I', rv', hsz, hl⟩ := hr
      show wpAny (model X.prog X.w) A (forIn vs PUnit.unit body) Q E s''
      exact key_loop fa fk hak hfk call hb hQ ks vs s'' H' kv' kA' e' hs2 (by rw [hsz]; omega) I' rv' hl
end
end Dn
namespace Dn
open PySem L2 PySem.Spec PyProof.Rows
variable [Tabl]
section
variable {X : Cx} {pins : List (Addr × Obj)} {σ : L2.St} {H : Hp} {s : Shared}
/-- what the keys come to: the dict's own keys, sorted by them -/
def FinK (K : PySem.W.Frag) (ks : List Str) (Q : VK) : List V → Hp → Prop := fun kv H3 => ∃ kds : List PD, DpAll K H3 kv kds ∧ kds.length = ks.length ∧ ordOk kds = true ∧ srtOk kds = true ∧
  ∀ p, H3 p = none → Q (.ref p) (upd H3 p (.lst (((ks.zip kds).mergeSort (PySem.W.dataLe false (·.2))).map fun z => V.str z.1)))
theorem each_dp {I : Inv X pins σ H s} : ∀ {kv : List V} {us : List Value} {ds : List PD}, Vals kv us → DpAll X.K H kv ds → PySem.W.EachIs (fun u d => ∃ as, Reads s.heap u d as) us ds
  | _, _, _, .nil, .nil => .nil
  | _, _, _, .cons r t, .cons h g => .cons (Dp.reads I _ _ _ h r) (each_dp (I := I) t g)
theorem each_strs : ∀ {vs : List Value} {ks : List Str} {ds : List PD}, StrsAre vs ks → ds.length = ks.length → PySem.W.EachIs (fun u (b : Str × PD) => ∃ t, u = .str b.1 t) vs (ks.zip ds)
  | [], [], [], _, _ => .nil
  | _ :: _, _ :: _, _ :: _, h, e => by
    cases h
    rename_i h
    exact .cons ⟨_, rfl⟩ (each_strs h (by simpa using e))
  | [], [], _ :: _, _, e => by simp at e
  | [], _ :: _, _, h, _ => by cases h
  | _ :: _, [], _, h, _ => by cases h
  | _ :: _, _ :: _, [], _, e => by simp at e
theorem each_vs : ∀ {us : List Value} {bs : List (Str × PD)}, PySem.W.EachIs (fun u (b : Str × PD) => ∃ t, u = .str b.1 t) us bs → Vals (bs.map fun z => V.str z.1) us
  | _, _, .nil => .nil
  | _, _, .cons h t => .cons h (each_vs t)
theorem sorted_keys {f d : Addr} {fo : Obj} {kvs : List (Key × V)} {ks : List Str} {step : Str → Hp → VK → Prop} {E : Value → Shared → Prop} {Q : VK} (hcalm : X.calm = true) (hu : X.A.units + 64 < cLine) (I : Inv X pins σ H s)
    (hf : s.heap.get? f = some fo) (hfn : H f = none) (hfl : f ≠ X.env.locals) (hfs : f ∉ X.fs) (hfc : ∀ v, fo.data ≠ .cell v) (hd : Rd H d (.dK kvs)) (hks : kvs.map (·.1) = ks.map Sum.inr)
    (call : ∀ (pins' : List (Addr × Obj)) (s' : Shared) (H' : Hp) (k : Str) (u : Value) (Q' : VK), Inv X pins' σ H' s' → (f, fo) ∈ pins' → (∃ t, u = .str k t) → step k H' Q' → wpAny (model X.prog X.w) X.A.in1.in1 (PySem.call (.ref f) [u]) (EP X pins' σ Q') (fun _ _ => False) s')
    (h : loopK step ks H (FinK X.K ks Q)) : wpAny (model X.prog X.w) X.A (PySem.call (.builtin "sorted") [.ref d] [(Str.ofString "key", .ref f)]) (EP X pins σ Q) E s := by
  obtain ⟨z, lo', vs, rel, dd⟩ := dk_rd I.hok hd
  obtain ⟨ep, hat⟩ := dd.dictAt
  have hkeys : vs.map (·.1) = ks.map Sum.inr := rel.keys.symm.trans hks
  have hl : vs.length = ks.length := by
    have e := congrArg List.length hkeys
    rw [List.length_map, List.length_map] at e
    exact e
  have h16 : vs.length ≤ sizeLine := by rw [← rel.length]; exact z
  refine call_function_entry_kw kind_sorted plain_sorted entry_sorted (ksk_s1 _ _) ?_
  unfold Builtin.«sorted»
  refine wpAny_bind (m := checkCount "sorted" 1 1 _) (wpAny_pure ?_)
  refine wpAny_bind (PySem.W.kdu_collect (A := X.A.in1) (PySem.W.kdl_dict (knd := mixKind X.prog X.w) (kvs := vs) (ep := ep) lo') (I.ok.hd hcalm) hat h16 fun h' tk acc hk hacc => ?_)
  have hal : acc.toList.length = ks.length := by rw [Array.length_toList, hacc.1, hl]
  have hS : StrsAre acc.toList ks := strs_at hal fun j v e => by
    obtain ⟨k, x, e1, e2⟩ := hacc.2 j v (by rw [← Array.getElem?_toList]; exact e)
    have e3 : (vs.map (·.1))[j]? = some k := by rw [List.getElem?_map, e1]; all_goals rfl
    rw [hkeys, List.getElem?_map] at e3
    cases e4 : ks[j]? with
    | none => rw [e4] at e3; cases e3
    | some y =>
      rw [e4] at e3
      have e5 : Sum.inr y = k := Option.some.inj e3
      subst e5
      obtain ⟨t, ev⟩ := Value.isStrOf_shape (x := y) (v := v) e2
      exact ⟨y, t, rfl, ev⟩
  have I1 : Inv X pins σ H { s with heap := h', toks := tk } := I.kept hk
  have hZ : acc.toList.length ≤ sizeLine := by rw [hal, ← hl]; exact h16
  refine wpAny_bind (wpAny_newList ?_ hZ)
  have hoL : (h'.push (seqObj "list" acc.toList.toArray 0)).get? h'.objs.size = some (seqObj "list" acc.toList.toArray 0) := Heap.get?_push_size _ rfl
  show wpAny _ _ _ _ _ { s with heap := h'.push (seqObj "list" acc.toList.toArray 0), toks := tk }
  refine wpAny_bind (wpAny_holding (wpAny_call_entry_kw slot_list_sort ⟨_, hoL, rfl⟩ entry_list_sort ?body (ksk_l1 _ _)))
  case body =>
    show wpAny (model X.prog X.w) X.A.in1.in1 (Builtin.«list.sort» ⟨[.ref h'.objs.size], [(Str.ofString "key", .ref f)]⟩) _ _ _
    rw [ksk_t1]
    generalize hg : h'.push (seqObj "list" acc.toList.toArray 0) = g at hoL
    have kg : ∀ b o, h'.get? b = some o → g.get? b = some o ∧ b ≠ h'.objs.size := fun b o e => ⟨by rw [← hg]; exact Heap.get?_push_of_some _ e, Nat.ne_of_lt (Heap.lt_size e)⟩
    have hgs : g.objs.size = h'.objs.size + 1 := by rw [← hg, size_push']
    obtain ⟨e1, ho1⟩ : ∃ e1, (g.update h'.objs.size (Obj.mapSeq fun _ => (#[] : Array Value))).get? h'.objs.size = some (seqObj "list" #[] e1) := ⟨_, get?_update_seq hoL fun _ => #[]⟩
    unfold ksk_tree
    refine wpAny_bind (listItems_at hoL rfl ?_)
    refine wpAny_bind (listUpdate_at hoL rfl ?_ (by rw [List.size_toArray]; exact hZ) (Nat.zero_le _))
    refine wpAny_bind (seqEpoch_at ho1 rfl ?_)
    refine wpAny_bind (wpAny_newTuple ?_ (by show acc.toList.length ≤ _; exact hZ))
    refine wpAny_bind (wpAny_newList ?_ (Nat.zero_le _))
    refine wpAny_holding ?_
    generalize hg2 : ((g.update h'.objs.size (Obj.mapSeq fun _ => (#[] : Array Value))).push (seqObj "tuple" acc.toList.toArray 0)) = g2
    have hg2s : g2.objs.size = h'.objs.size + 2 := by rw [← hg2, size_push', Heap.size_update, hgs]
    have kg2 : ∀ b o, h'.get? b = some o → (g2.push (seqObj "list" #[] 0)).get? b = some o := fun b o e => by
      obtain ⟨q1, q2⟩ := kg b o e
      refine Heap.get?_push_of_some _ ?_
      rw [← hg2]
      exact Heap.get?_push_of_some _ ((Heap.get?_update_ne _ _ _ _ q2).trans q1)
    have na : (g2.push (seqObj "list" #[] 0)).get? h'.objs.size = some (seqObj "list" #[] e1) := Heap.get?_push_of_some _ (by rw [← hg2]; exact Heap.get?_push_of_some _ ho1)
    have nk : (g2.push (seqObj "list" #[] 0)).get? g2.objs.size = some (seqObj "list" #[] 0) := Heap.get?_push_size _ rfl
    have I5 : Inv X pins σ H { s with heap := g2.push (seqObj "list" #[] 0), toks := tk } := I1.kept (t' := tk) kg2
    have fa : Fst X pins h'.objs.size := Fst.of (I1.fpOk (H' := H) (Nat.le_refl _) (I1.hok.fresh (Nat.le_refl _)))
    have fkH : H g2.objs.size = none := I1.hok.fresh (by show h'.objs.size ≤ _; rw [hg2s]; omega)
    have fk : Fst X pins g2.objs.size := Fst.of (I1.fpOk (H' := H) (by show h'.objs.size ≤ _; rw [hg2s]; omega) fkH)
    have hak : h'.objs.size ≠ g2.objs.size := by rw [hg2s]; omega
    have hff : (g2.push (seqObj "list" #[] 0)).get? f = some fo := kg2 _ _ (hk _ _ hf)
    have hfk : f ≠ g2.objs.size := Nat.ne_of_lt (Nat.lt_of_lt_of_le (Heap.lt_size (hk _ _ hf)) (by rw [hg2s]; exact Nat.le_add_right _ _))
    have hfa : f ≠ h'.objs.size := Nat.ne_of_lt (Heap.lt_size (hk _ _ hf))
    have I6 : Inv X (pins ++ [(f, fo), (h'.objs.size, lo #[] e1), (g2.objs.size, lo #[] 0)]) σ H { s with heap := g2.push (seqObj "list" #[] 0), toks := tk } := I5.pins_of fun p hp => by
      rcases List.mem_append.mp hp with hp | hp
      · exact I5.pin p (List.mem_append_right _ hp)
      · simp only [List.mem_cons, List.not_mem_nil, or_false] at hp
        rcases hp with rfl | rfl | rfl
        · exact ⟨hff, hfn, hfl, hfs, hfc⟩
        · exact ⟨na, I1.hok.fresh (Nat.le_refl _), fa.1, fa.2.1, fun v z => nomatch z⟩
        · exact ⟨nk, fkH, fk.1, fk.2.1, fun v z => nomatch z⟩
    unfold ksk_rest
    refine wpAny_bind (wpAny_rule ?_)
    first
      | rw [List.forIn_toArray]
      | (rw [← Array.forIn_toList]; simp only [List.toList_toArray])
      | rw [← Array.forIn_toList]
    refine wpAny_bind (key_loop (f := f) (a := h'.objs.size) (kS := g2.objs.size) (e1 := e1) (Fin := FinK X.K ks Q) fa fk hak hfk call (fun x s' kA e R nk' hsz hx => ?_) (fun s' H' kv kA e I' rv hF => ?_) ks acc.toList _ H [] #[] 0 hS (by show 0 + ks.length ≤ _; rw [← hal]; omega) I6 .nil h)
    · refine wpAny_bind (wpAny_attempt (wpAny_mono hx (fun v s'' he => ?_) fun _ _ hF => hF.elim))
      obtain ⟨nk2, hR⟩ := he
      try dsimp only
      refine wpAny_bind (listUpdate_at nk2 rfl ?_ hsz (Nat.le_trans (Nat.le_of_eq (Array.size_push ..)) (Nat.succ_le_succ hsz)))
      exact wpAny_pure ⟨rfl, hR⟩
    · obtain ⟨kds, hdp, hlen, ok1, ok2, q⟩ := hF
      have p2 := I'.pin (h'.objs.size, lo #[] e1) (List.mem_append_right _ (List.mem_append_right _ (by simp)))
      have p3 := I'.pin (g2.objs.size, lo kA e) (List.mem_append_right _ (List.mem_append_right _ (by simp)))
      have hkl : kA.size = acc.toList.length := by
        have e1 := rv.length
        have e2 := dpAll_length hdp
        rw [Array.length_toList] at e1
        exact e1.symm.trans (e2.trans (hlen.trans hal.symm))
      have hee := each_dp (I := I') rv hdp
      have hal2 : PySem.W.AllAlike kds := fun x hx y hy => (ordOk_get ok1 x hx).2.2.2 y hy
      have hsk := srtOk_get ok2 fun d hd => (ordOk_get ok1 d hd).2.2.1
      try dsimp only
      refine wpAny_bind (listItems_at p3.1 rfl ?_)
      refine PySem.W.keyH_end (κ := PySem.W.dataKind s'.heap kds) (h₁ := PySem.W.hideAll s'.heap [g2.objs.size]) (fun b o hb e => PySem.W.of_hideAll _ e) (PySem.W.hideAll_none _ (by simp)) p3.1 p2.1 hak.symm
        (PySem.W.SortsAt.data hee hal2 hsk fun d hd => by have := (ordOk_get ok1 d hd).2.1; show X.A.units + 1 + 1 + d.depth < cLine; omega) hkl hZ fun h3 tk3 c k3 n3 => ⟨_, rfl, wpAny_pure ⟨_, rfl, ?_⟩⟩
      have ko : PySem.W.KeyedOut false kds acc.toList (PySem.W.sortVals (PySem.W.dataKind s'.heap kds) false kA.toList acc.toList) := ⟨s'.heap, kA.toList, hal2, rfl, hee⟩
      have m2 : (ks.zip kds).map (·.2) = kds := List.map_snd_zip (by rw [hlen]; exact Nat.le_refl _)
      have ke := PySem.W.keyedOut_each (rev := false) (bs := ks.zip kds) (·.2) (by rw [m2]; exact ko) (each_strs hS hlen)
      have vv := each_vs ke
      have I0 : Inv X pins σ H' s' := I'.unpinned
      have I7 : Inv X pins σ H' { s' with heap := h3, toks := tk3 } := I0.turnedL (t' := tk3) (ch := [h'.objs.size, g2.objs.size]) (fun b o hb e => k3 b o (fun z => hb (by simp [z])) (PySem.W.hideAll_get _ e fun z => hb (by simp at z; simp [z]))) fun b hb => by
        simp only [List.mem_cons, List.not_mem_nil, or_false] at hb
        rcases hb with rfl | rfl
        · exact fa.ok p2.2.1
        · exact fk.ok p3.2.1
      refine ⟨.ref h'.objs.size, _, I7.take (h' := h3) (t' := tk3) (o := .lst (((ks.zip kds).mergeSort (PySem.W.dataLe false (·.2))).map fun z => V.str z.1)) (fun b ob _ e => e) (fa.ok p2.2.1) ⟨?_, _, c, vv, n3⟩, rfl, q _ p2.2.1⟩
      rw [vv.length, PySem.W.sortVals_length false (by rw [Array.length_toList]; exact hkl)]
      exact hZ
end
end Dn

/-! a lambda of one name, called. -/
namespace Dn
open PySem PySem.Spec PyProof.Rows L2 L2H HotX
/-- one parameter, no other name of its own -/
structure LamS1 (sc scope : Scope) (p : Str) : Prop where
  kind : scope.kind = .function
  co : scope.isCoroutine = false
  gen : scope.isGenerator = false
  own : ∀ y ∈ scope.names, (y.2 = .local → y.1 = p) ∧ y.2 ≠ .cell
  free : ∀ y ∈ scope.names, y.2 = .free → sc.names.lookup y.1 = some .cell ∨ sc.names.lookup y.1 = some .free
  par : scope.names.lookup p = some .local
def lamS1B (sc scope : Scope) (p : Str) : Bool :=
  decide (scope.kind = .function) && !scope.isCoroutine && !scope.isGenerator && (scope.names.all fun y => (!decide (y.2 = .local) || decide (y.1 = p)) && !decide (y.2 = .cell) && (!decide (y.2 = .free) || decide (sc.names.lookup y.1 = some .cell) || decide (sc.names.lookup y.1 = some .free))) && decide (scope.names.lookup p = some .local)
theorem lamS1_by {sc scope : Scope} {p : Str} (h : lamS1B sc scope p = true) : LamS1 sc scope p := by
  unfold lamS1B at h
  simp only [Bool.and_eq_true, Bool.or_eq_true, Bool.not_eq_true', decide_eq_true_eq, decide_eq_false_iff_not, List.all_eq_true] at h
  obtain ⟨⟨⟨⟨h1, h2⟩, h3⟩, h4⟩, h5⟩ := h
  refine ⟨h1, h2, h3, fun y hy => ⟨fun e => ?_, (h4 y hy).1.2⟩, fun y hy e => ?_, h5⟩
  · rcases (h4 y hy).1.1 with z | z
    · exact absurd e z
    · exact z
  · rcases (h4 y hy).2 with (z | z) | z
    · exact absurd e z
    · exact .inl z
    · exact .inr z
theorem LamS1.has {X : Cx} {scope : Scope} {p : Str} (L : LamS1 X.env.scope scope p) (ok : X.Ok) : ∀ y ∈ scope.names, y.2 = .free → ∃ c, X.env.cells.lookup y.1 = some c := fun y hy e => by
  rcases L.free y hy e with k | k
  · exact ok.has _ (.inl k)
  · exact ok.has _ (.inr k)
section
variable {X : Cx} {pins : List (Addr × Obj)} {σ : L2.St} {H : Hp} {s : Shared}
theorem lam_start1 {A : Around} {outer : List Env} {E : XK} {scope : Scope} {p : Str} {j : Nat} {v : V} {u : Value} {f c' : Addr} {h₁ : Heap} {tk : Nat} (I : Inv X pins σ H s) (L : LamS1 X.env.scope scope p) (e0 : Env0 X.prog X.w X.K X.mg X.base A outer s H) (hd : A.handled = none)
    (hj : X.N[j]? = some p) (hN : X.N.Nodup) (rv : RelV v u)
    (hns : h₁.Ns s.heap.objs.size fun y => ([(p, u)] : List (Str × Value)).reverse.lookup y) (kp : ∀ b o, s.heap.get? b = some o → h₁.get? b = some o) :
    Inv (LamX.lamCx X A outer s H E scope f c') [] (σ.set j (some v)) H { s with heap := h₁, toks := tk } := by
  have hfree := L.has I.ok
  have cm : ∀ {y c}, (cloFrom X.env.cells scope.names []).lookup y = some c → X.env.cells.lookup y = some c := fun {y c} e => by
    rcases cloFrom_mem (PySem.mem_of_lookup e) with hm | ⟨h1, h2⟩
    · cases hm
    · obtain ⟨c1, hc⟩ := hfree _ h1 rfl
      have hc : X.env.cells.lookup y = some c1 := hc
      have e2 : c = c1 := by
        rw [h2, hc] <;> rfl
      rw [e2]
      exact hc
  have look : ∀ {y}, scope.names.lookup y = some .free → ∃ c, (cloFrom X.env.cells scope.names []).lookup y = some c := fun {y} hl => by
    have hy : (y, NameKind.free) ∈ scope.names := PySem.mem_of_lookup hl
    exact mem_lookup (cloFrom_has (cells := X.env.cells) (acc := []) hy)
  have cellK : ∀ {c : Addr} {v : Option Value}, H c = none → s.heap.IsCell c v → h₁.IsCell c v := fun {c v} n ⟨o, ho, hd⟩ => ⟨_, kp _ _ ho, hd⟩
  have noA : ∀ b : Addr, b ∉ (LamX.lamCx X A outer s H E scope f c').ex := fun b z => absurd (show b ∈ ([] : List Addr) from z) (by simp)
  refine ⟨⟨e0.mod, L.kind, rfl, rfl, Nat.le_refl _, fun y z c e1 e2 => I.ok.inj y z c (cm e1) (cm e2), fun y hy => ?_, fun y c z _ => ?_, fun _ => hd, Around.frames_deeper e0.frames, .inr ⟨rfl, rfl⟩, fun b z => absurd z (noA b), e0.bs, e0.bsz, fun b _ _ => noA b,
      fun b z => absurd z (noA b), e0.funs, e0.frf⟩,
    rfl, e0.bare, Un.kept kp, ⟨_, hns, fun i y v' e1 e2 e3 => ?_⟩, fun y c e => ?_, e0.hok.fresh (Nat.le_refl _), fun y c e => ?_, fun q hq => absurd (show q ∈ ([] : List (Addr × Obj)) ++ [] from hq) (by simp), e0.hok.kept kp, by rw [List.length_set]; exact I.len⟩
  · have hy : scope.names.lookup y = some .cell ∨ scope.names.lookup y = some .free := hy
    rcases hy with hy | hy
    · exact absurd rfl (L.own _ (PySem.mem_of_lookup hy)).2
    · exact look hy
  · have z : false = true := z
    cases z
  · have e3 : Vis scope y := e3
    have e1 : X.N[i]? = some y := e1
    rcases e3 with k | k | k
    · have ey : y = p := (L.own _ (PySem.mem_of_lookup k)).1 rfl
      subst ey
      have ij : i = j := by
        obtain ⟨l1, g1⟩ := List.getElem?_eq_some_iff.mp e1
        obtain ⟨l2, g2⟩ := List.getElem?_eq_some_iff.mp hj
        exact (List.getElem_inj hN).mp (g1.trans g2.symm)
      subst ij
      have ev : v' = v := by
        rw [List.getElem?_set] at e2
        simp only [if_true] at e2
        split at e2
        · exact (Option.some.inj (Option.some.inj e2)).symm
        · cases e2
      subst ev
      refine ⟨u, rv, .inl ⟨k, ?_⟩⟩
      simp [List.lookup]
    · exact absurd rfl (L.own _ (PySem.mem_of_lookup k)).2
    · have ne : i ≠ j := fun z => by
        rw [z, hj] at e1
        have e1 := Option.some.inj e1
        rw [← e1, L.par] at k
        cases k
      rw [List.getElem?_set_ne (fun z => ne z.symm)] at e2
      obtain ⟨m, hn, hl⟩ := I.loc
      have hvis : Vis X.env.scope y := (L.free _ (PySem.mem_of_lookup k) rfl).elim (fun k => .inr (.inl k)) (fun k => .inr (.inr k))
      obtain ⟨w', r, q⟩ := hl i y v' e1 e2 hvis
      obtain ⟨c2, h2⟩ := look k
      refine ⟨w', r, .inr ⟨.inr k, c2, h2, ?_⟩⟩
      have c1 := cm h2
      rcases q with ⟨k', _⟩ | ⟨_, c3, e', z⟩
      · have k' : X.env.scope.names.lookup y = some .local := k'
        rcases L.free _ (PySem.mem_of_lookup k) rfl with k2 | k2 <;> rw [show X.env.scope.names.lookup y = _ from k2] at k' <;> cases k'
      · rw [c1] at e'
        cases e'
        exact cellK (I.freeC y _ c1) z
  · obtain ⟨w', z⟩ := I.cell y c (cm e)
    exact ⟨w', cellK (I.freeC y c (cm e)) z⟩
  · exact I.freeC y c (cm e)
/-- the lambda at f is called with u -/
theorem lam_call1 {A : Around} {scope : Scope} {params : Arguments} {body : Expr} {p : Str} {j : Nat} {v : V} {u : Value} {f c : Addr} {pm ctv : Value} {k : Nat} {Q : VK} {tb : TE} (I : Inv X pins σ H s) (L : LamS1 X.env.scope scope p)
    (hf : s.heap.get? f = some (PySem.W.kla_obj "<lambda>" (X.env.qual ++ "<lambda>") params body scope (cloFrom X.env.cells scope.names []) pm c ctv))
    (hb : bindArgs (PySem.W.kla_fn "<lambda>" (X.env.qual ++ "<lambda>") params body scope (cloFrom X.env.cells scope.names []) pm (.ref c) ctv) ⟨[u], []⟩ = pure [(p, u)])
    (e0 : Env0 X.prog X.w X.K X.mg X.base A X.stack s H) (hr : Room (k + 1) A) (hj : X.N[j]? = some p) (hN : X.N.Nodup) (rv : RelV v u) (hc : H c = some (LamX.CodeO c (X.env.qual ++ "<lambda>")))
    (he : Room k (A.deeper (LamX.lamEnv X scope s.heap.objs.size f c)) → PE (lamN X A X.stack s H (fun _ _ _ => False) scope f c) body tb) (h : tb (σ.set j (some v)) H Q) :
    wpAny (model X.prog X.w) A (PySem.call (.ref f) [u]) (EP X pins σ Q) (fun _ _ => False) s := by
  have hco := e0.hok c _ hc
  obtain ⟨⟨oc, vc, tc, g1, g2, g3⟩, _⟩ := hco
  have rc : codeAny (model X.prog X.w) A (.call (.ref f) ⟨[u], []⟩) (CR (L2N.CX X.prog X.w) X.stack X.prog X.w H s Q (fun _ _ _ => False)) s := by
    refine PySem.W.kla_callFunE hr.depth hf rfl L.co L.gen rfl ⟨c, oc, vc, tc, rfl, g1, g2, g3⟩ ?_
    rw [hb]
    refine wpAny_pure (wpAny_newFunctionEnv (fun y q => (L.own y q).2) (fun y q => ?_) (fun g ns sb => ⟨I.nolimit.fresh _ sb, ?_⟩) L.kind)
    · rw [List.mem_singleton.mp q]
      exact L.par
    have keep : ∀ b o, s.heap.get? b = some o → g.get? b = some o := fun b o e => sb.extBut b o (Nat.ne_of_lt (Heap.lt_size e)) (Heap.get?_push_of_some _ e)
    have J := (lam_start1 (A := A) (outer := X.stack) (E := fun _ _ _ => False) (scope := scope) (f := f) (c' := c) (tk := s.toks + ([(p, u)] : List (Str × Value)).length) I L e0 hr.hd hj hN rv ns keep).toTry (lamN X A X.stack s H (fun _ _ _ => False) scope f c).xe
    refine PySem.W.kla_codeExpr (wpAny_mono ((he (hr.deeper _)).run [] _ _ H Q J h) (fun v t2 q => ?_) fun e t2 q => q)
    obtain ⟨x, H2, J2, rx, q⟩ := q
    exact ⟨x, H2, J2.os, J2.bare, J2.base, J2.hok, rx, q⟩
  refine wpAny_call (codeAny_mono rc fun r s2 q => ?_)
  cases r with
  | error e =>
    obtain ⟨_, _, _, _, _, _, _, _, _, _, _, _, z⟩ := q
    exact z.elim
  | ok fl =>
    cases fl with
    | ret u => exact I.after q
    | next => exact q.elim
    | brk => exact q.elim
    | cont => exact q.elim
end
end Dn

/-! sorted(d, key=lambda x: e), as one expression. -/
namespace Dn
open PySem PySem.Spec PyProof.Rows L2 L2H HotX
variable [Tabl]
def tSortK (K : PySem.W.Frag) (q : Str) (j : Nat) (ta : TA) (tb : TE) : TE := fun σ H Q => ta σ H fun vs H1 => LamX.Tabs Tabl.T H1 ∧ ∃ d kvs ks, vs = [.ref d] ∧ Rd H1 d (.dK kvs) ∧ kvs.map (·.1) = ks.map Sum.inr ∧
  ∀ H2, LamX.ExtN H1 H2 → LamX.Tabs Tabl.T H2 → ∀ c', H2 c' = some (LamX.CodeO c' q) → loopK (fun k H' Q' => H' c' = some (LamX.CodeO c' q) ∧ tb (σ.set j (some (.str k))) H' Q') ks H2 (FinK K ks Q)
theorem rd_extN {H H' : Hp} {d : Addr} {kvs : List (Key × V)} (h : Rd H d (.dK kvs)) (e : LamX.ExtN H H') : Rd H' d (.dK kvs) := by
  rcases h with h | ⟨o, h⟩
  · exact .inl (e _ _ h fun ps z => nomatch z)
  · exact .inr ⟨o, e _ _ h fun ps z => nomatch z⟩
theorem pe_sortK {X : Cx} {c P : Addr} {k j : Nat} {p : Str} {params : Arguments} {body a : Expr} {scope : Scope} {ta : TA} {tb : TE} {p0 lpos pos kpos : Pos} (K : PySem.W.Frag) (hK : X.K = K) (hcalm : X.calm = true) (ha : PA X (a :: []) ta) (hg : Gl X "sorted") (hm : X.mg "sorted" = none) (hv : bootBuiltins "sorted" = some (.builtin "sorted"))
    (TB : LamX.TabB X.base X.mg c P) (hcode : X.env.code = .ref c) (hmT : (P, X.env.qual ++ "<lambda>") ∈ Tabl.T) (hu : ∀ q ∈ Tabl.T, q.1 = P → q.2 = X.env.qual ++ "<lambda>") (hr : Room (k + 3) X.A) (L : LamS1 X.env.scope scope p) (hdef : defaultsOf params X.env = ([], []))
    (hbind : ∀ (q : Str) (cl : List (Str × Addr)) (pm cv ctv u : Value), bindArgs (PySem.W.kla_fn "<lambda>" q params body scope cl pm cv ctv) ⟨[u], []⟩ = pure [(p, u)]) (hj : X.N[j]? = some p) (hN : X.N.Nodup)
    (he : ∀ (A : Around) (outer : List Env) (s : Shared) (H : Hp) (E : XK) (f c' : Addr), Room k (A.deeper (LamX.lamEnv X scope s.heap.objs.size f c')) → PE (lamN X A outer s H E scope f c') body tb)
    (hst : backTo pos (starEach (a :: []) X.env) = (false, eval a X.env) :: backTo pos (starEach [] X.env) := by rfl) (hpl : (backTo pos (starEach (a :: []) X.env)).any (·.1) = false := by rfl) :
    PE X (.Call (.Name "sorted" p0) [a] [⟨some "key", .Lambda params body scope lpos, kpos⟩] pos) (tSortK K (X.env.qual ++ "<lambda>") j ta tb) := by
  subst hK
  refine ⟨fun pins s σ H Q I h => ?_⟩
  refine wpAny_Call_Name_kw (ld_blt I hg hm hv ?_ (by decide) (by decide))
  refine PyProof.Rows.callWith_kw (thn (ha.run pos pins s σ H _ I h) fun us s1 ⟨vs, H1, I1, r1, q1⟩ => ?_) hst hpl rfl rfl
  obtain ⟨hT, d, kvs, ks, rfl, hd, hks, hq⟩ := q1
  obtain ⟨u, rfl, ru⟩ := vals1 r1
  obtain rfl : u = Value.ref d := ru
  show wpAny _ _ (evalAll [do let v ← eval (.Lambda params body scope lpos) X.env; standAt pos; pure v]) _ _ s1
  refine evalAll_cons (wpAny_bind (LamX.lam_make2 I1 TB hcode hmT hu hT hdef (L.has I1.ok) fun f c' pm' ctv H2 s2 J eN T2 hf nf nfr hco => wpAny_bind (wpAny_standAt (wpAny_pure (evalAll_nil ?_)))))
  have fl : f ≠ X.env.locals := fun z => by
    obtain ⟨m, ⟨o, es, ep, ho, hd, _⟩, _⟩ := J.loc
    rw [z, ho] at hf
    cases hf
    cases hd
  have ff : f ∉ X.fs := fun z => nfr (by
    rcases J.ok.stk with e | ⟨e, e2⟩
    · rw [e]
      exact z
    · rw [e]
      unfold frs
      rw [List.filterMap_cons, e2]
      exact List.mem_cons_of_mem _ z)
  refine sorted_keys (f := f) (d := d) (kvs := kvs) (ks := ks) hcalm (by have := hr.un; omega) J hf nf fl ff (fun v z => nomatch z) (rd_extN hd eN) hks (fun pins' s' H' kk u Q' J' hp hu' hstep => ?_) (hq H2 eN T2 c' hco)
  · obtain ⟨h1, h2⟩ := hstep
    have hf' := (J'.pin (f, _) (List.mem_append_right _ hp)).1
    exact lam_call1 (A := X.A.in1.in1) (k := k) (v := .str kk) J' L hf' (hbind _ _ _ _ _ _) J'.env0.in1.in1 hr.in1.in1 hj hN hu' h1 (fun hr2 => he _ _ s' H' _ f c' hr2) h2
/-! ### as a function of the slots -/
def keysK (j : Nat) (fb : En → R PD) (en : En) : List Str → R (List PD)
  | [] => .ok []
  | k :: r => match fb (en.set j (.sh (.str k))) with
    | .ok d => (keysK j fb en r).bind fun ds => .ok (d :: ds)
    | _ => .stuck
def strsOf : List (PD × PD) → Option (List Str)
  | [] => some []
  | (.str k, _) :: r => (strsOf r).map (k :: ·)
  | _ => none
def sortK (ks : List Str) (kds : List PD) : R (List PD) := if (ordOk kds && srtOk kds) = true then .ok (((ks.zip kds).mergeSort (PySem.W.dataLe false (·.2))).map fun z => .str z.1) else .stuck
def ownAt (en : En) (j : Nat) : Bool := match en[j]? with | some sv => isOwn sv | none => true
theorem ownAt_get {en : En} {j : Nat} (h : ¬ ownAt en j = true) : ∀ sv, en[j]? = some sv → isOwn sv = false := fun sv e => by
  unfold ownAt at h
  rw [e] at h
  simpa using h
def dSortK (j : Nat) (fa : En → R (List PD)) (fb : En → R PD) : En → R (List PD) := fun en => (fa en).bind fun ds => match ds with
  | [.dict es] => match strsOf es with
    | some ks => if ownAt en j = true then .stuck else (keysK j fb en ks).bind fun kds => sortK ks kds
    | none => .stuck
  | _ => .stuck
theorem RS.setK {K : PySem.W.Frag} {H0 H : Hp} {ext : AS} {reg : Nat → AS} {en : En} {σ : L2.St} (r : RS K H0 ext reg en σ H) {i : Nat} {v : V} {d : PD} (hv : Rp K (hid H (own ext reg)) v d) (h : ∀ sv, en[i]? = some sv → isOwn sv = false) : RS K H0 ext reg (en.set i (.sh d)) (σ.set i (some v)) H :=
  ⟨r.le, r.tb, r.exd, r.rg, r.dj, fun j a q => by
    obtain ⟨sv, h1, h2⟩ := r.ro j a q
    have hj : i ≠ j := fun e => by
      subst e
      rw [h sv h1] at h2
      cases h2
    exact ⟨sv, by rw [List.getElem?_set_ne hj]; exact h1, h2⟩, by simp [r.len], fun j sv e => by
    by_cases hj : i = j
    · subst hj
      by_cases hi : i < en.length
      · rw [List.getElem?_set_self hi] at e
        cases e
        exact ⟨some v, by rw [List.getElem?_set_self (by rw [r.len]; exact hi)], v, rfl, hv⟩
      · rw [List.getElem?_eq_none (by simpa using hi)] at e
        cases e
    · rw [List.getElem?_set_ne hj] at e
      obtain ⟨u, h1, h2⟩ := r.sl j sv e
      exact ⟨u, by rw [List.getElem?_set_ne hj]; exact h1, h2⟩⟩
theorem strsOf_keys {K : PySem.W.Frag} {H : Hp} : ∀ {kvs : List (Key × V)} {es : List (PD × PD)} {ks : List Str}, RpK K H kvs es → strsOf es = some ks → kvs.map (·.1) = ks.map Sum.inr
  | _, _, ks, .nil, h => by cases h; rfl
  | (k, v) :: _, _, ks, .cons hv t, h => by
    cases k with
    | inl n => cases h
    | inr x =>
      rename_i ds
      have h : (strsOf ds).map (x :: ·) = some ks := h
      cases e : strsOf ds with
      | none => rw [e] at h; cases h
      | some r =>
        rw [e] at h
        cases h
        rw [List.map_cons, List.map_cons, strsOf_keys t e]
theorem keysK_length {j : Nat} {fb : En → R PD} {en : En} : ∀ {ks : List Str} {kds : List PD}, keysK j fb en ks = .ok kds → kds.length = ks.length
  | [], kds, h => by cases h; rfl
  | k :: r, kds, h => by
    unfold keysK at h
    split at h
    · rename_i d ed
      cases e : keysK j fb en r with
      | ok ds =>
        rw [e] at h
        cases h
        rw [List.length_cons, List.length_cons, keysK_length e]
      | exc c => rw [e] at h; cases h
      | stuck => rw [e] at h; cases h
    · cases h
theorem ed_loopK {C : Cn} {tb : TE} {fb : En → R PD} {j : Nat} {q : Str} {c' : Addr} {H0 : Hp} {ext : AS} {reg : Nat → AS} {en : En} {σ : L2.St} (hb : EdS ⟨C.K, fun _ _ _ => False, C.cl⟩ tb fb) (hj : ∀ sv, en[j]? = some sv → isOwn sv = false) : ∀ (ks : List Str) (kds : List PD) (H : Hp) (Q : List V → Hp → Prop), RS C.K H0 ext reg en σ H → H c' = some (LamX.CodeO c' q) → keysK j fb en ks = .ok kds →
    (∀ kv H3, Xt H H3 → RpA C.K (hid H3 (own ext reg)) kv kds → Q kv H3) → loopK (fun k H' Q' => H' c' = some (LamX.CodeO c' q) ∧ tb (σ.set j (some (.str k))) H' Q') ks H Q
  | [], kds, H, Q, rs, hc, hk, h => by
    cases hk
    exact h [] H (Xt.refl H) .nil
  | k :: r, kds, H, Q, rs, hc, hk, h => by
    unfold keysK at hk
    split at hk
    · rename_i d ed
      cases e : keysK j fb en r with
      | ok ds =>
        rw [e] at hk
        cases hk
        refine ⟨hc, hb H0 ext reg _ _ H (rs.setK (i := j) (d := .str k) (.str k) hj) _ ?_⟩
        rw [ed]
        intro v H2 e2 hv
        refine ed_loopK hb hj r ds H2 _ (rs.ex e2) (e2.k _ _ hc rfl) e fun kv H3 e3 hr => h (v :: kv) H3 (e2.trans e3) (.cons (hv.mono e3.toEx.hid.le) hr)
      | exc c => rw [e] at hk; cases hk
      | stuck => rw [e] at hk; cases hk
    · cases hk
theorem rpa_str {K : PySem.W.Frag} {H : Hp} : ∀ (zs : List (Str × PD)), RpA K H (zs.map fun z => V.str z.1) (zs.map fun z => PyData.str z.1)
  | [] => .nil
  | z :: r => .cons (.str _) (rpa_str r)
theorem keysK_noexc {j : Nat} {fb : En → R PD} {en : En} (c : Str) : ∀ {ks : List Str}, keysK j fb en ks ≠ .exc c
  | [], h => by cases h
  | k :: r, h => by
    unfold keysK at h
    split at h
    · cases e : keysK j fb en r with
      | ok ds => rw [e] at h; cases h
      | exc c' => exact keysK_noexc c' e
      | stuck => rw [e] at h; cases h
    · cases h
theorem ef_sortK {C : Cn} {q : Str} {j : Nat} {ta : TA} {tb : TE} {fa : En → R (List PD)} {fb : En → R PD} (ha : EdB C ta fa) (hb : EdS ⟨C.K, fun _ _ _ => False, C.cl⟩ tb fb) : EdF C (tSortK C.K q j ta tb) (dSortK j fa fb) := fun H0 ext reg en σ H rs Q w => by
  refine ha H0 ext reg en σ H rs _ ?_
  unfold dSortK at w
  generalize fa en = r at w ⊢
  cases r with
  | exc c => exact w
  | stuck => exact w.elim
  | ok ds =>
    rw [R.bind_ok] at w
    intro vs H1 e1 hv
    split at w
    · rename_i es
      split at w
      · rename_i ks ek
        split at w
        · exact w.elim
        · rename_i hj
          have hj' := ownAt_get hj
          obtain ⟨v, rfl, h⟩ := hv.one
          obtain ⟨p, kvs, rfl, hp, hr⟩ := h.dct fun a z => .inl z
          refine ⟨(rs.ex e1).tb, p, kvs, ks, rfl, hp, strsOf_keys hr ek, fun H2 e2 t2 c' hc => ?_⟩
          have x2 := xt_lam e2 t2
          cases ed : keysK j fb en ks with
          | exc c =>
            rw [ed] at w
            exact absurd ed (keysK_noexc c)
          | stuck => rw [ed] at w; exact w.elim
          | ok kds =>
            rw [ed, R.bind_ok] at w
            unfold sortK at w
            split at w
            · rename_i ok
              rw [Bool.and_eq_true] at ok
              refine ed_loopK hb hj' ks kds H2 _ ((rs.ex e1).ex x2) hc ed fun kv H3 e3 hr3 => ⟨kds, (hr3.mono hid_ex.le).dp (ordOk_lay fun x hx => (ordOk_get ok.1 x hx).1), keysK_length ed, ok.1, ok.2, fun l hl => ?_⟩
              exact w l _ H3 ((e1.trans x2).trans e3) hl (rpa_str _)
            · exact w.elim
      · exact w.elim
    · exact w.elim
end Dn

/-! list(zip(a, b)), a and b lists. -/
namespace Dn
open PySem PySem.Calls PySem.Spec PyProof.Rows L2 PySem.W
def KzSt (h : Heap) (z TI TO i1 i2 l1 l2 S : Addr) (i : Nat) : Prop := IsPair h TI (.ref i1) (.ref i2) ∧ h.IsListIter i1 l1 i ∧ h.IsListIter i2 l2 i ∧ ((IsZip h z TI TO .none ∧ ∃ x y, IsPair h TO x y) ∨ ∃ T f oT, IsZipHeld h z TI TO T f ∧ h.get? T = some oT ∧ S < T)
structure KzLo (z TI TO i1 i2 l1 l2 S : Addr) : Prop where
  ap : ZipApart z TI TO i1 i2 l1 l2
  z : z < S
  ti : TI < S
  to : TO < S
  i1 : i1 < S
  i2 : i2 < S
  l1 : l1 < S
  l2 : l2 < S
section
variable {prog : Program} {w : World} {A : Around} {E : Value → Shared → Prop} {s : Shared} {z TI TO i1 i2 l1 l2 S : Addr} {xs ys : Array Value}
theorem KzSt.keep {h h' : Heap} {i : Nat} (L : KzLo z TI TO i1 i2 l1 l2 S) (x : KzSt h z TI TO i1 i2 l1 l2 S i) (hk : ∀ b o, b ≠ S → h.get? b = some o → h'.get? b = some o) : KzSt h' z TI TO i1 i2 l1 l2 S i := by
  obtain ⟨a, b, c, d⟩ := x
  refine ⟨hk _ _ (Nat.ne_of_lt L.ti) a, b.at fun o e => hk _ _ (Nat.ne_of_lt L.i1) e, c.at fun o e => hk _ _ (Nat.ne_of_lt L.i2) e, ?_⟩
  rcases d with ⟨d1, x, y, d2⟩ | ⟨T, f, oT, d1, d2, d3⟩
  · exact .inl ⟨hk _ _ (Nat.ne_of_lt L.z) d1, x, y, hk _ _ (Nat.ne_of_lt L.to) d2⟩
  · exact .inr ⟨T, f, oT, hk _ _ (Nat.ne_of_lt L.z) d1, hk _ _ (Nat.ne_of_gt d3) d2, d3⟩
theorem kz_item {i : Nat} {x y : Value} {Q : Option Value → Shared → Prop} (L : KzLo z TI TO i1 i2 l1 l2 S) (hst : KzSt s.heap z TI TO i1 i2 l1 l2 S i) (hS : S < s.heap.objs.size) (hl1 : s.heap.IsList l1 xs) (hl2 : s.heap.IsList l2 ys) (hx : xs[i]? = some x) (hy : ys[i]? = some y)
    (hQ : ∀ h', KzSt h' z TI TO i1 i2 l1 l2 S (i + 1) → h'.get? s.heap.objs.size = some { cls := .type "tuple", data := .seq #[x, y] } → h'.objs.size = s.heap.objs.size + 1 →
      (∀ c o, c ≠ z → c ≠ TO → c ≠ i1 → c ≠ i2 → s.heap.get? c = some o → h'.get? c = some o) → Q (some (.ref s.heap.objs.size)) { s with heap := h' }) :
    wpAny (model prog w) A (pyNext (.ref z)) Q E s := by
  have D := L.ap
  obtain ⟨hTI, h1, h2, d⟩ := hst
  rcases d with ⟨hz, a, b, hTO⟩ | ⟨T, f, oT, hz, hT, hl⟩
  · exact wpAny_pyNext_zip_item D hz hTI hTO h1 h2 hl1 hl2 hx hy fun h' z' TO' h1' h2' hT hsz hk => hQ h' ⟨hk _ _ D.TIz D.TITO D.TIi1 D.TIi2 hTI, h1', h2', .inr ⟨_, false, _, z', hT, hS⟩⟩ hT hsz hk
  · exact wpAny_pyNext_zip_item_held D hz hT hTI h1 h2 hl1 hl2 hx hy fun h' z' h1' h2' hp hsz hk => hQ h' ⟨hk _ _ D.TIz D.TIi1 D.TIi2 hTI, h1', h2', .inr ⟨T, true, oT, z', hk _ _ (Nat.ne_of_gt (Nat.lt_trans L.z hl)) (Nat.ne_of_gt (Nat.lt_trans L.i1 hl)) (Nat.ne_of_gt (Nat.lt_trans L.i2 hl)) hT, hl⟩⟩ hp hsz fun c o c1 _ c3 c4 => hk c o c1 c3 c4
theorem kz_done {i : Nat} {Q : Option Value → Shared → Prop} (hh : A.handled = none) (L : KzLo z TI TO i1 i2 l1 l2 S) (hst : KzSt s.heap z TI TO i1 i2 l1 l2 S i) (hl1 : s.heap.IsList l1 xs) (hl2 : s.heap.IsList l2 ys) (hend : xs[i]? = none ∨ ys[i]? = none)
    (hQ : ∀ h', (∀ c o, c ≠ z → c ≠ TO → c ≠ i1 → c ≠ i2 → s.heap.get? c = some o → h'.get? c = some o) → Q none { s with heap := h' }) : wpAny (model prog w) A (pyNext (.ref z)) Q E s := by
  have D := L.ap
  obtain ⟨hTI, h1, h2, d⟩ := hst
  rcases d with ⟨hz, a, b, hTO⟩ | ⟨T, f, oT, hz, hT, hl⟩
  · exact wpAny_pyNext_zip_end hh D hz hTI hTO h1 h2 hl1 hl2 hend hQ
  · exact wpAny_pyNext_zip_end_held hh D hz hT hTI h1 h2 hl1 hl2 hend fun h' hk => hQ h' fun c o c1 _ c3 c4 => hk c o c1 c3 c4
structure KzG (xs ys : Array Value) (lo : Addr) (h : Heap) (as : List Addr) : Prop where
  rise : as.Pairwise (· < ·)
  above : ∀ a ∈ as, lo < a
  pairs : ∀ (j : Nat) (a : Addr), as[j]? = some a → ∃ x y, xs[j]? = some x ∧ ys[j]? = some y ∧ h.get? a = some { cls := .type "tuple", data := .seq #[x, y] }
theorem KzG.there {lo : Addr} {h : Heap} {as : List Addr} (g : KzG xs ys lo h as) {a : Addr} (ha : a ∈ as) : a < h.objs.size := by
  obtain ⟨j, hj⟩ := List.mem_iff_getElem?.mp ha
  obtain ⟨_, _, _, _, e⟩ := g.pairs j a hj
  exact Heap.lt_size e
theorem kz_loop {R : Result → Shared → Prop} {n : Nat} (hh : A.handled = none) (L : KzLo z TI TO i1 i2 l1 l2 S) (hnx : n ≤ xs.size) (hny : n ≤ ys.size) (hend : xs[n]? = none ∨ ys[n]? = none) (hn : n ≤ sizeLine) (res : Value) {h₁ : Heap}
    (hR : ∀ h' tk acc c as, (∀ b o, b ≠ S → b ≠ z → b ≠ TO → b ≠ i1 → b ≠ i2 → h₁.get? b = some o → h'.get? b = some o) → h'.get? S = some { cls := .type "list", dict := none, data := .seq acc c, slots := #[] } → as.length = n → KzG xs ys S h' as →
      acc.toList = as.map Value.ref → R (.ok (.ret res)) { s with heap := h', toks := tk }) :
    ∀ (k i : Nat) (h : Heap) (tk c : Nat) (acc : Array Value) (as : List Addr), n - i = k → i ≤ n → KzSt h z TI TO i1 i2 l1 l2 S i → h.IsList l1 xs → h.IsList l2 ys → (∀ b o, b ≠ S → b ≠ z → b ≠ TO → b ≠ i1 → b ≠ i2 → h₁.get? b = some o → h.get? b = some o) →
      h.get? S = some { cls := .type "list", dict := none, data := .seq acc c, slots := #[] } → acc.toList = as.map Value.ref → as.length = i → KzG xs ys S h as →
      codeAny (model prog w) A (.builtin "list.extend.loop" ⟨[.ref S, .ref z, res], []⟩) R { s with heap := h, toks := tk } := by
  have D := L.ap
  have gtS : ∀ {b}, S < b → b ≠ z ∧ b ≠ TO ∧ b ≠ i1 ∧ b ≠ i2 := fun {b} hb => ⟨Nat.ne_of_gt (Nat.lt_trans L.z hb), Nat.ne_of_gt (Nat.lt_trans L.to hb), Nat.ne_of_gt (Nat.lt_trans L.i1 hb), Nat.ne_of_gt (Nat.lt_trans L.i2 hb)⟩
  intro k
  induction k with
  | zero =>
    intro i h tk c acc as hk hi hst hl1 hl2 hkeep hS hacc hal hG
    have hin : i = n := by omega
    subst hin
    refine codeAny_builtin PySem.F.entry_extend_loop ?_
    rw [Around.under_plainId PySem.F.plain_extend_loop _]
    show wpAny _ A.in1 (pyNext (.ref z) >>= _) _ _ _
    refine wpAny_bind (kz_done (s := { s with heap := h, toks := tk }) (A := A.in1) hh L hst hl1 hl2 hend fun h' he => ?_)
    refine wpAny_pure (hR h' tk acc c as (fun b o c0 c1 c2 c3 c4 e => he b o c1 c2 c3 c4 (hkeep b o c0 c1 c2 c3 c4 e)) (he S _ (Nat.ne_of_gt L.z) (Nat.ne_of_gt L.to) (Nat.ne_of_gt L.i1) (Nat.ne_of_gt L.i2) hS) hal ⟨hG.rise, hG.above, fun j a hj => ?_⟩ hacc)
    obtain ⟨x, y, e1, e2, e3⟩ := hG.pairs j a hj
    obtain ⟨g1, g2, g3, g4⟩ := gtS (hG.above a (List.mem_of_getElem? hj))
    exact ⟨x, y, e1, e2, he a _ g1 g2 g3 g4 e3⟩
  | succ k ih =>
    intro i h tk c acc as hk hi hst hl1 hl2 hkeep hS hacc hal hG
    have hlt : i < n := by omega
    have hx : xs[i]? = some xs[i] := Array.getElem?_eq_getElem (by omega)
    have hy : ys[i]? = some ys[i] := Array.getElem?_eq_getElem (by omega)
    generalize xs[i] = x at hx
    generalize ys[i] = y at hy
    have hsz : acc.size = i := by rw [← Array.length_toList, hacc, List.length_map, hal]
    have hSl : S < h.objs.size := Heap.lt_size hS
    refine codeAny_builtin PySem.F.entry_extend_loop ?_
    rw [Around.under_plainId PySem.F.plain_extend_loop _]
    show wpAny _ A.in1 (pyNext (.ref z) >>= _) _ _ _
    refine wpAny_bind (kz_item (s := { s with heap := h, toks := tk }) L hst hSl hl1 hl2 hx hy fun h' hst' ht hz hkp => ?_)
    dsimp only at ht hz hkp ⊢
    have hS' := hkp S _ (Nat.ne_of_gt L.z) (Nat.ne_of_gt L.to) (Nat.ne_of_gt L.i1) (Nat.ne_of_gt L.i2) hS
    have up : ∀ b o, b ≠ S → h'.get? b = some o → (h'.update S (Obj.mapSeq (·.push (Value.ref h.objs.size)))).get? b = some o := fun b o hb e => (Heap.get?_update_other _ _ (Ne.symm hb)).trans e
    have k1 : ∀ o, h.get? l1 = some o → h'.get? l1 = some o := fun o e => hkp _ _ D.l1z D.l1TO D.l1i1 D.l1i2 e
    have k2 : ∀ o, h.get? l2 = some o → h'.get? l2 = some o := fun o e => hkp _ _ D.l2z D.l2TO D.l2i1 D.l2i2 e
    show wpAny _ A.in1 (updateSeq S (·.push (Value.ref h.objs.size)) >>= _) _ _ _
    refine wpAny_bind ?_
    refine wpAny_updateSeq hS' rfl (wpAny_pure ⟨plainId_quiet PySem.F.plain_extend_loop _, ih (i + 1) _ tk _ (acc.push (Value.ref h.objs.size)) (as ++ [h.objs.size]) (by omega) hlt (hst'.keep L up)
      (let ⟨o, ho, r⟩ := hl1; ⟨o, up _ _ (Nat.ne_of_lt L.l1) (k1 o ho), r⟩) (let ⟨o, ho, r⟩ := hl2; ⟨o, up _ _ (Nat.ne_of_lt L.l2) (k2 o ho), r⟩)
      (fun b o c0 c1 c2 c3 c4 e => up b o c0 (hkp b o c1 c2 c3 c4 (hkeep b o c0 c1 c2 c3 c4 e))) (Heap.get?_update_self _ hS' rfl) (by rw [Array.toList_push, hacc, List.map_append]; rfl) (by rw [List.length_append, hal]; rfl) ⟨?_, ?_, ?_⟩⟩) (by rw [hsz]; omega) (by show (acc.push (Value.ref h.objs.size)).size ≤ sizeLine + 1; rw [Array.size_push, hsz]; omega)
    · refine List.pairwise_append.mpr ⟨hG.rise, List.pairwise_singleton _ _, fun a ha b hb => ?_⟩
      rw [List.mem_singleton.mp hb]
      exact hG.there ha
    · intro a ha
      rcases List.mem_append.mp ha with ha | ha
      · exact hG.above a ha
      · rw [List.mem_singleton.mp ha]; exact hSl
    · intro j b hj
      rcases Nat.lt_trichotomy j as.length with h1 | h1 | h1
      · rw [List.getElem?_append_left h1] at hj
        obtain ⟨x', y', e1, e2, e3⟩ := hG.pairs j b hj
        have hb := hG.above b (List.mem_of_getElem? hj)
        obtain ⟨g1, g2, g3, g4⟩ := gtS hb
        exact ⟨x', y', e1, e2, up b _ (Nat.ne_of_gt hb) (hkp b _ g1 g2 g3 g4 e3)⟩
      · subst h1
        have hb : h.objs.size = b := by simpa using hj
        subst hb
        exact ⟨x, y, by rw [hal]; exact hx, by rw [hal]; exact hy, up _ _ (Nat.ne_of_gt hSl) ht⟩
      · have hnone : (as ++ [h.objs.size])[j]? = none := List.getElem?_eq_none (by rw [List.length_append, List.length_singleton]; omega)
        rw [hnone] at hj; cases hj
theorem zip_no_len : typeLookup (.type "zip") "__len__" = pure none := am_miss_of_fast (by decide +kernel)
theorem zip_no_hint : typeLookup (.type "zip") "__length_hint__" = pure none := am_miss_of_fast (by decide +kernel)
theorem kz_hint {r : Addr} (hT : s.TypeIs (.ref r) "zip") {Q : Bool → Shared → Prop} (h : Q true s) : wpAny (model prog w) A (Builtin.List.listLengthHint (.ref r)) Q E s := by
  unfold Builtin.List.listLengthHint
  refine wpAny_bind (wpAny_specialOf hT zip_no_len ?_)
  wp_delta
  refine wpAny_ite_split (fun hab => absurd hab (by decide)) (fun _ => ?_)
  refine wpAny_ite_split (fun hab => absurd hab (by decide)) (fun _ => ?_)
  refine wpAny_bind (wpAny_specialOf hT zip_no_hint ?_)
  exact wpAny_pure h
theorem kz_extend {R : Result → Shared → Prop} {n : Nat} (hh : A.handled = none) (L : KzLo z TI TO i1 i2 l1 l2 S) (hst : KzSt s.heap z TI TO i1 i2 l1 l2 S 0) (hz : IsZip s.heap z TI TO .none) (hl1 : s.heap.IsList l1 xs) (hl2 : s.heap.IsList l2 ys) (hnx : n ≤ xs.size) (hny : n ≤ ys.size) (hend : xs[n]? = none ∨ ys[n]? = none) (hn : n ≤ sizeLine) (res : Value) (c₀ : Nat)
    (hS : s.heap.get? S = some { cls := .type "list", data := .seq #[] c₀ })
    (hR : ∀ h' tk acc c as, (∀ b o, b ≠ S → b ≠ z → b ≠ TO → b ≠ i1 → b ≠ i2 → s.heap.get? b = some o → h'.get? b = some o) → h'.get? S = some { cls := .type "list", dict := none, data := .seq acc c, slots := #[] } → as.length = n → KzG xs ys S h' as →
      acc.toList = as.map Value.ref → R (.ok (.ret res)) { s with heap := h', toks := tk }) :
    wpAny (model prog w) A.in1 (Builtin.List.listExtendWith (.ref S) (.ref z) res)
      (fun fin s' => match fin with | .done f => R (.ok f) s' | .again c' => c'.quiet = true ∧ codeAny (model prog w) A c' R s') (fun e s' => R (.error e) s') s := by
  have hSI : S < s.heap.objs.size := Heap.lt_size hS
  have key : ∀ (h : Heap) (c₁ tk : Nat), (∀ b o, b ≠ S → s.heap.get? b = some o → h.get? b = some o) →
      h.get? S = some { cls := .type "list", data := .seq #[] c₁ } → codeAny (model prog w) A (.builtin "list.extend.loop" ⟨[.ref S, .ref z, res], []⟩) R { s with heap := h, toks := tk } := by
    intro h c₁ tk hk hS₁
    exact kz_loop (s := s) (h₁ := s.heap) hh L hnx hny hend hn res hR n 0 h tk c₁ #[] [] (Nat.sub_zero _) (Nat.zero_le _) (hst.keep L hk) (let ⟨o, ho, r⟩ := hl1; ⟨o, hk _ _ (Nat.ne_of_lt L.l1) ho, r⟩) (let ⟨o, ho, r⟩ := hl2; ⟨o, hk _ _ (Nat.ne_of_lt L.l2) ho, r⟩)
      (fun b o hb _ _ _ _ e => hk b o hb e) hS₁ rfl rfl ⟨List.Pairwise.nil, (fun _ ha => nomatch ha), (fun j a hj => by simp at hj)⟩
  have hT : s.TypeIs (.ref z) "zip" := ⟨_, hz, rfl⟩
  unfold Builtin.List.listExtendWith
  refine wpAny_bind (wpAny_typeOf (T := "zip") hT ?_)
  have h1 : Builtin.List.listSameRef (.ref S) (.ref z) = false := by simp [Builtin.List.listSameRef, Nat.ne_of_gt L.z]
  have h2 : (Value.type "zip" == Value.type "list") = false := by decide
  have h3 : (Value.type "zip" == Value.type "tuple") = false := by decide
  simp only [h1, h2, h3, Bool.or_false, Bool.false_eq_true, if_false]
  refine wpAny_bind (wpAny_pyIter_zip hz ?_)
  refine wpAny_bind (wpAny_holding (kz_hint hT ?_))
  refine wpAny_ite_split (fun _ => ?_) (fun _ => wpAny_pure ⟨plainId_quiet PySem.F.plain_extend_loop _, key _ c₀ _ (fun b o _ e => e) hS⟩)
  refine wpAny_bind (wpAny_rule ?_)
  refine wpAny_bind ?_
  show wpAny _ _ (updateSeq S (·.push .none) >>= fun _ => updateSeq S (·.pop)) _ _ _
  refine wpAny_bind (wpAny_updateSeq hS rfl ?_)
  have hS₂ := Heap.get?_update_self (Obj.mapSeq (·.push Value.none)) hS rfl
  refine wpAny_updateSeq (hz := by seq_fits) hS₂ rfl ?_
  have hS₃ := Heap.get?_update_self (Obj.mapSeq (·.pop)) hS₂ rfl
  refine wpAny_pure ⟨plainId_quiet PySem.F.plain_extend_loop _, key _ _ _ (fun b o hb e => ?_) hS₃⟩
  exact (Heap.get?_update_other _ _ (Ne.symm hb)).trans ((Heap.get?_update_other _ _ (Ne.symm hb)).trans e)
theorem kz_init {R : Result → Shared → Prop} {n : Nat} (hh : A.handled = none) (L : KzLo z TI TO i1 i2 l1 l2 S) (hst : KzSt s.heap z TI TO i1 i2 l1 l2 S 0) (hz : IsZip s.heap z TI TO .none) (hl1 : s.heap.IsList l1 xs) (hl2 : s.heap.IsList l2 ys) (hnx : n ≤ xs.size) (hny : n ≤ ys.size) (hend : xs[n]? = none ∨ ys[n]? = none) (hn : n ≤ sizeLine)
    (hS : s.heap.get? S = some { cls := .type "list", data := .seq #[] })
    (hR : ∀ h' tk acc c as, (∀ b o, b ≠ S → b ≠ z → b ≠ TO → b ≠ i1 → b ≠ i2 → s.heap.get? b = some o → h'.get? b = some o) → h'.get? S = some { cls := .type "list", dict := none, data := .seq acc c, slots := #[] } → as.length = n → KzG xs ys S h' as →
      acc.toList = as.map Value.ref → R (.ok (.ret .none)) { s with heap := h', toks := tk }) :
    wpAny (model prog w) A.in1 (Builtin.«list.__init__» ⟨[.ref S, .ref z], []⟩)
      (fun fin s' => match fin with | .done f => R (.ok f) s' | .again c' => c'.quiet = true ∧ codeAny (model prog w) A c' R s') (fun e s' => R (.error e) s') s := by
  show wpAny _ _ (do let old ← Builtin.List.listItems (.ref S); Builtin.List.listUpdate (.ref S) (fun _ => #[]); letGo old.toList.reverse; Builtin.List.listExtendWith (.ref S) (.ref z) .none) _ _ s
  refine wpAny_bind ?_
  unfold Builtin.List.listItems
  refine wpAny_bind (wpAny_seqItems hS rfl (wpAny_pure ?_))
  show wpAny _ _ (updateSeq S (fun _ => #[]) >>= fun _ => letGo (#[] : Array Value).toList.reverse >>= fun _ => Builtin.List.listExtendWith (.ref S) (.ref z) .none) _ _ s
  refine wpAny_bind (wpAny_updateSeq hS rfl ?_)
  have hS₂ := Heap.get?_update_self (Obj.mapSeq (fun _ => (#[] : Array Value))) hS rfl
  have oth : ∀ b o, b ≠ S → s.heap.get? b = some o → (s.heap.update S (Obj.mapSeq (fun _ => (#[] : Array Value)))).get? b = some o :=
    fun b o hb e => (Heap.get?_update_other _ _ (Ne.symm hb)).trans e
  refine wpAny_bind (wpAny_letGo ?_)
  refine kz_extend (s := { s with heap := s.heap.update S (Obj.mapSeq (fun _ => (#[] : Array Value))) }) (n := n) hh L (hst.keep L oth) (oth _ _ (Nat.ne_of_lt L.z) hz) (let ⟨o, ho, r⟩ := hl1; ⟨o, oth _ _ (Nat.ne_of_lt L.l1) ho, r⟩) (let ⟨o, ho, r⟩ := hl2; ⟨o, oth _ _ (Nat.ne_of_lt L.l2) ho, r⟩) hnx hny hend hn .none _ hS₂ (fun h' tk acc c as hk hS' hl hG hacc => ?_)
  exact hR h' tk acc c as (fun b o c0 c1 c2 c3 c4 e => hk b o c0 c1 c2 c3 c4 (oth b o c0 e)) hS' hl hG hacc
end
section
variable {prog : Program} {w : World} {A : Around} {E : Value → Shared → Prop} {s : Shared} {l1 l2 : Addr} {xs ys : Array Value}
/-- list(zip(l1, l2)), by values: zip's object is made, then list's -/
theorem kz_call {n : Nat} {Q : Value → Shared → Prop} (hh : A.handled = none) (hl1 : s.heap.IsList l1 xs) (hl2 : s.heap.IsList l2 ys) (hnx : n ≤ xs.size) (hny : n ≤ ys.size) (hend : xs[n]? = none ∨ ys[n]? = none) (hn : n ≤ sizeLine)
    (hQ : ∀ h' tk acc c as, (∀ b o, s.heap.get? b = some o → h'.get? b = some o) → h'.get? (s.heap.objs.size + 5) = some { cls := .type "list", dict := none, data := .seq acc c, slots := #[] } → as.length = n → KzG xs ys (s.heap.objs.size + 5) h' as →
      acc.toList = as.map Value.ref → Q (.ref (s.heap.objs.size + 5)) { s with heap := h', toks := tk }) :
    wpAny (model prog w) A (call (.type "zip") [.ref l1, .ref l2]) (fun zv s1 => wpAny (model prog w) A (call (.type "list") [zv]) Q E s1) E s := by
  refine call_zip_2 hl1 hl2 fun h' hz hTI hTO h1 h2 hsz hk => ?_
  have b1 : l1 < s.heap.objs.size := let ⟨_, ho, _⟩ := hl1; Heap.lt_size ho
  have b2 : l2 < s.heap.objs.size := let ⟨_, ho, _⟩ := hl2; Heap.lt_size ho
  have D := PySem.W.ktu_apart s.heap.objs.size l1 l2 b1 b2
  refine callType_codes (Q₁ := fun obj s₁ => obj = .ref h'.objs.size ∧ s₁ = { s with heap := h'.push { cls := .type "list", data := .seq #[] } }) PySem.F.called_list (PySem.F.typeCall_list_1 _) PySem.F.entry_list_init
    (code_list_new _ ⟨rfl, rfl⟩) fun obj s₁ h₁ => ?_
  obtain ⟨rfl, rfl⟩ := h₁
  rw [hsz]
  have hS : (h'.push { cls := .type "list", data := .seq #[] }).get? (s.heap.objs.size + 5) = some { cls := .type "list", data := .seq #[] } := by rw [← hsz]; exact Heap.get?_push_size _ rfl
  have up : ∀ b o, h'.get? b = some o → (h'.push { cls := .type "list", data := .seq #[] }).get? b = some o := fun b o e => Heap.get?_push_of_some _ e
  have L : KzLo (s.heap.objs.size + 4) (s.heap.objs.size + 2) (s.heap.objs.size + 3) s.heap.objs.size (s.heap.objs.size + 1) l1 l2 (s.heap.objs.size + 5) := ⟨D, Nat.lt_succ_self _, Nat.lt_add_of_pos_right (by decide : 0 < 3), Nat.lt_add_of_pos_right (by decide : 0 < 2), Nat.lt_add_of_pos_right (by decide : 0 < 5), Nat.lt_add_of_pos_right (by decide : 0 < 4), Nat.lt_of_lt_of_le b1 (Nat.le_add_right _ _), Nat.lt_of_lt_of_le b2 (Nat.le_add_right _ _)⟩
  refine ⟨⟨_, hS, rfl⟩, PySem.F.args_list_init_2 _ _, kz_init (n := n) (A := A.in1) hh L ⟨up _ _ hTI, h1.at fun o e => up _ _ e, h2.at fun o e => up _ _ e, .inl ⟨up _ _ hz, _, _, up _ _ hTO⟩⟩ (up _ _ hz) (let ⟨o, ho, r⟩ := hl1; ⟨o, up _ _ (hk _ _ ho), r⟩) (let ⟨o, ho, r⟩ := hl2; ⟨o, up _ _ (hk _ _ ho), r⟩) hnx hny hend hn hS (fun h2 tk acc c as hk2 hS' hl hG hacc => ?_)⟩
  refine ⟨rfl, hQ h2 tk acc c as (fun b o e => ?_) hS' hl hG hacc⟩
  have hb : b < s.heap.objs.size := Heap.lt_size e
  exact hk2 b o (Nat.ne_of_lt (Nat.lt_of_lt_of_le hb (Nat.le_add_right _ _))) (Nat.ne_of_lt (Nat.lt_of_lt_of_le hb (Nat.le_add_right _ _))) (Nat.ne_of_lt (Nat.lt_of_lt_of_le hb (Nat.le_add_right _ _))) (Nat.ne_of_lt hb) (Nat.ne_of_lt (Nat.lt_of_lt_of_le hb (Nat.le_add_right _ _))) (up _ _ (hk _ _ e))
end
end Dn

/-! list(zip(a, b)), a and b lists; dicts that are equal; dicts owned, made of others. -/
namespace Dn
open PySem PySem.Calls PySem.Spec PyProof.Rows L2
variable [Tabl]
def putZ : Hp → List Addr → List (V × V) → Hp
  | H, a :: as, p :: kvs => putZ (upd H a (.tup [p.1, p.2])) as kvs
  | H, _, _ => H
theorem putZ_off {b : Addr} : ∀ (as : List Addr) (kvs : List (V × V)) (H : Hp), b ∉ as → putZ H as kvs b = H b
  | [], _, _, _ => rfl
  | _ :: _, [], _, _ => rfl
  | a :: as, p :: kvs, H, h => by
    show putZ (upd H a (.tup [p.1, p.2])) as kvs b = H b
    rw [putZ_off as kvs _ (fun z => h (List.mem_cons_of_mem _ z)), upd_ne (fun z => h (by rw [z]; exact List.mem_cons_self))]
theorem putZ_at : ∀ (as : List Addr) (kvs : List (V × V)) (H : Hp), as.length = kvs.length → as.Nodup → Paired (fun (t : Addr) (p : V × V) => putZ H as kvs t = some (.tup [p.1, p.2])) as kvs
  | [], [], _, _, _ => .nil
  | [], _ :: _, _, h, _ => by cases h
  | _ :: _, [], _, h, _ => by cases h
  | a :: as, p :: kvs, H, h, hn => by
    have hn' := List.nodup_cons.mp hn
    have ih := putZ_at as kvs (upd H a (.tup [p.1, p.2])) (Nat.succ.inj h) hn'.2
    refine .cons ?_ ih
    show putZ (upd H a (.tup [p.1, p.2])) as kvs a = some (.tup [p.1, p.2])
    rw [putZ_off as kvs _ hn'.1, upd_same]
def tListZip (K : PySem.W.Frag) (ta : TA) : TE := fun σ H Q => ta σ H fun vs H1 => ∃ a b xs ys, vs = [.ref a, .ref b] ∧ SqL K H1 a xs ∧ SqL K H1 b ys ∧
  ∀ (H2 : Hp) (p : Addr) (ts : List Addr), (∀ b o, H1 b = some o → H2 b = some o) → (∀ t ∈ ts, H1 t = none) → H2 p = none → Paired (fun (t : Addr) (q : V × V) => H2 t = some (.tup [q.1, q.2])) ts (xs.zip ys) → Q (.ref p) (upd H2 p (.lst (ts.map V.ref)))
section
variable {X : Cx}
theorem zip_laid {pins : List (Addr × Obj)} {σ : L2.St} {H : Hp} {s : Shared} {h' : Heap} {tk : Nat} {xs ys : List V} {us ws : List Value} {acc : Array Value} {c : Nat} {S : Addr} {as : List Addr} (I : Inv X pins σ H s) (hz : (xs.zip ys).length ≤ sizeLine) (r1 : Vals xs us) (r2 : Vals ys ws) (hSs : s.heap.objs.size ≤ S)
    (hk : ∀ b o, s.heap.get? b = some o → h'.get? b = some o) (hS : h'.get? S = some { cls := .type "list", dict := none, data := .seq acc c, slots := #[] }) (hl : as.length = (xs.zip ys).length) (hG : KzG us.toArray ws.toArray S h' as) (hacc : acc.toList = as.map Value.ref) :
    ∃ H2 : Hp, (∀ b o, H b = some o → H2 b = some o) ∧ (∀ t ∈ as, H t = none) ∧ H2 S = none ∧ Paired (fun (t : Addr) (q : V × V) => H2 t = some (.tup [q.1, q.2])) as (xs.zip ys) ∧ Inv X pins σ (upd H2 S (.lst (as.map V.ref))) { s with heap := h', toks := tk } := by
  have hSn : S ∉ as := fun z => Nat.lt_irrefl _ (hG.above _ z)
  have nd : as.Nodup := List.Pairwise.imp (fun {a b} (h : a < b) => Nat.ne_of_lt h) hG.rise
  have new : ∀ t ∈ as, H t = none := fun t ht => I.hok.fresh (Nat.le_trans hSs (Nat.le_of_lt (hG.above t ht)))
  have newS : H S = none := I.hok.fresh hSs
  have atP := putZ_at as (xs.zip ys) H hl nd
  have off : ∀ b, b ∉ as → putZ H as (xs.zip ys) b = H b := fun b h1 => putZ_off as _ _ h1
  have kp : ∀ b u, H b = some u → (putZ H as (xs.zip ys)) b = some u := fun b u e => by
    rw [off b (fun z => by rw [new b z] at e; cases e)]
    exact e
  have eS : putZ H as (xs.zip ys) S = none := by rw [off _ hSn]; exact newS
  refine ⟨putZ H as (xs.zip ys), kp, new, eS, atP, ?_⟩
  have low : ∀ b o, s.heap.get? b = some o → b ∉ as ∧ b ≠ S := fun b o e => ⟨fun z => absurd (Heap.lt_size e) (Nat.not_lt.mpr (Nat.le_trans hSs (Nat.le_of_lt (hG.above b z)))), Nat.ne_of_lt (Nat.lt_of_lt_of_le (Heap.lt_size e) hSs)⟩
  have kp2 : ∀ b u, H b = some u → upd (putZ H as (xs.zip ys)) S (.lst (as.map V.ref)) b = some u := fun b u e => by
    rw [upd_ne (fun z => by rw [z, newS] at e; cases e)]
    exact kp b u e
  refine I.call' (ch := []) rfl ⟨fun b o q _ _ _ => hk b o q, fun b o q _ _ _ => ⟨o.slots, hk b o q⟩, fun b o q n _ => ?_, fun b o q _ => ⟨o, hk b o q⟩, fun b xs q => kp2 b _ q, fun b o u q => kp2 b _ q, fun b ps q => ⟨#[], by rw [kp2 b _ q]; simp⟩⟩ (fun b u q => ?_) I.bare fun b z => by simp at z
  · obtain ⟨z1, z2⟩ := low b o q
    rw [upd_ne z2, off b z1]
    exact n
  · by_cases hb2 : b = S
    · rw [hb2] at q ⊢
      rw [upd_same] at q
      cases q
      refine ⟨by rw [List.length_map, hl]; exact hz, acc.toList, c, by rw [hacc]; exact LiI.vals_refs as, ?_⟩
      rw [Array.toArray_toList]
      exact hS
    · rw [upd_ne hb2] at q
      by_cases hb : b ∈ as
      · obtain ⟨j, pk, e1, e2, e3⟩ := LiI.paired_ix atP hb
        rw [e3] at q
        cases q
        obtain ⟨x, y, f1, f2, f3⟩ := hG.pairs j b e1
        have f1' : us[j]? = some x := by simpa using f1
        have f2' : ws[j]? = some y := by simpa using f2
        obtain ⟨v1, g1, g2⟩ := vals_at r1 f1'
        obtain ⟨v2, g3, g4⟩ := vals_at r2 f2'
        have ez : (xs.zip ys)[j]? = some (v1, v2) := by
          rw [List.getElem?_zip_eq_some]
          exact ⟨g1, g3⟩
        rw [ez] at e2
        cases e2
        exact ⟨by show 2 ≤ sizeLine; decide, [x, y], .cons g2 (.cons g4 .nil), ⟨_, f3, rfl, _, rfl⟩⟩
      · rw [off b hb] at q
        exact (I.hok b u q).stay (fun d v _ y => hk d v y) (fun d y => kp2 d _ y) fun d xs y => kp2 d _ y
theorem pe_listZip {e e2 : Expr} {ta : TA} {p p2 pos pos2 : Pos} (K : PySem.W.Frag) (hK : X.K = K) (hc : X.calm = true) (ha : PA X [e, e2] ta) (hg : Gl X "list") (hm : X.mg "list" = none) (hg2 : Gl X "zip") (hm2 : X.mg "zip" = none)
    (hs : starEach [e, e2] X.env = (false, eval e X.env) :: starEach [e2] X.env := by rfl) (hpl : (backTo pos2 (starEach [e2] X.env)).any (·.1) = false := by rfl)
    (hs2 : starEach [.Call (.Name "zip" p2) [e, e2] [] pos2] X.env = (false, eval (.Call (.Name "zip" p2) [e, e2] [] pos2) X.env) :: starEach [] X.env := by rfl) :
    PE X (.Call (.Name "list" p) [.Call (.Name "zip" p2) [e, e2] [] pos2] [] pos) (tListZip K ta) := by
  subst hK
  refine ⟨fun pins s σ H Q I hq => ?_⟩
  refine wpAny_Call_Name_kw (ld_blt I hg hm (by decide +kernel : bootBuiltins "list" = some (.type "list")) ?_)
  refine PyProof.Rows.callWith_type1 ?_ hs2 rfl
  rw [hs2]
  show wpAny _ _ (spliced ((false, eval (.Call (.Name "zip" p2) [e, e2] [] pos2) X.env) :: backTo pos (starEach [] X.env))) _ _ s
  refine Calls.spliced_cons ?_
  refine wpAny_Call_Name_kw (ld_blt I hg2 hm2 PyProof.Rows.boot_zip ?_)
  refine PyProof.Rows.callWith_type1 (thn (ha.run pos2 pins s σ H _ I hq) fun us s1 ⟨vs, H1, I1, rv, q1⟩ => ?_) hs hpl
  obtain ⟨a, b, xs, ys, ex, h1, h2, q⟩ := q1
  subst ex
  cases rv with
  | cons ra rr =>
    cases rr with
    | cons rb rr =>
      cases rr
      cases ra
      cases rb
      obtain ⟨us, r1, p1, z1⟩ := I1.list h1
      obtain ⟨ws, r2, p2, z2⟩ := I1.list h2
      have l1 := r1.length
      have l2 := r2.length
      have ln : (xs.zip ys).length = min us.length ws.length := by rw [List.length_zip, l1, l2]
      refine wpAny_mono (kz_call (n := (xs.zip ys).length) (I1.ok.hd hc) p1.isList p2.isList (by rw [ln, List.size_toArray]; exact Nat.min_le_left _ _) (by rw [ln, List.size_toArray]; exact Nat.min_le_right _ _) ?_ (by rw [ln]; exact Nat.le_trans (Nat.min_le_left _ _) (by rw [← l1]; exact z1)) (E := X.xe) (Q := EP X pins σ Q)
        fun h' tk acc c as hk hS hl hG hacc => ?_) (fun zv s2 hz => Calls.spliced_nil hz) fun _ _ z => z
      · rw [ln]
        rcases Nat.le_total us.length ws.length with h | h
        · rw [Nat.min_eq_left h]
          exact .inl (by simp)
        · rw [Nat.min_eq_right h]
          exact .inr (by simp)
      · obtain ⟨H2, k1, k0, k2, k3, J⟩ := zip_laid (tk := tk) I1 (by rw [ln]; exact Nat.le_trans (Nat.min_le_left _ _) (by rw [← l1]; exact z1)) r1 r2 (Nat.le_add_right _ _) hk hS hl hG hacc
        exact ⟨.ref _, _, J, rfl, q H2 _ as k1 k0 k2 k3⟩
end
/-! ### as functions of the slots -/
def lzD : List PD → R (List PD)
  | [.list xs, .list ys] => .ok (zipD xs ys)
  | _ => .stuck
theorem rpa_zip {K : PySem.W.Frag} {H1 H2 : Hp} {Z : AS} (hz : ∀ a, Z a → ∃ o, H1 a = some o) (k : ∀ b o, H1 b = some o → H2 b = some o) : ∀ {ts : List Addr} {xs ys : List V} {ds es : List PD}, RpA K (hid H1 Z) xs ds → RpA K (hid H1 Z) ys es → (∀ t ∈ ts, H1 t = none) →
    Paired (fun (t : Addr) (q : V × V) => H2 t = some (.tup [q.1, q.2])) ts (xs.zip ys) → RpA K (hid H2 Z) (ts.map V.ref) (zipD ds es)
  | ts, [], ys, _, es, .nil, _, _, h => by
    rw [List.zip_nil_left] at h
    cases h
    exact .nil
  | ts, x :: xs, [], _, _, .cons _ _, .nil, _, h => by
    cases h
    exact .nil
  | ts, x :: xs, y :: ys, _, _, .cons h1 r1, .cons h2 r2, hn, h => by
    cases h with
    | cons a b =>
      have e : Ex (hid H1 Z) (hid H2 Z) := (Ex.of k).hid
      have n := hn _ List.mem_cons_self
      refine .cons (.tup (.inl (.inl ?_)) (.cons (h1.mono e.le) (.cons (h2.mono e.le) .nil))) (rpa_zip hz k r1 r2 (fun t ht => hn t (List.mem_cons_of_mem _ ht)) b)
      rw [hid_at fun z => by obtain ⟨o, q⟩ := hz _ z; rw [n] at q; cases q]
      exact a
theorem tabs_of {T : List (Addr × Str)} {H H2 : Hp} (t : LamX.Tabs T H) (k : ∀ b o, H b = some o → H2 b = some o) : LamX.Tabs T H2 := t.ext k
theorem ef_listZip {C : Cn} {ta : TA} {fa : En → R (List PD)} (ha : EdB C ta fa) : EdF C (tListZip C.K ta) (dNF lzD fa) := fun H0 ext reg en σ H rs Q w =>
  ha.seq rs (W := WrF C (own ext reg) H Q) w (fun _ q => q) (fun q => q) fun x v H1 e1 r1 h1 w1 => by
    unfold lzD at w1
    split at w1
    · rename_i xs ys
      cases h1 with
      | cons a b =>
        cases b with
        | cons b c =>
          cases c
          obtain ⟨p, vs, rfl, hp, hr⟩ := a.lst fun a z => .inl z
          obtain ⟨p2, ws, rfl, hp2, hr2⟩ := b.lst fun a z => .inl z
          refine ⟨p, p2, vs, ws, rfl, SqL.of hp, SqL.of hp2, fun H2 q ts k n hq hpr => w1 q _ H2 (e1.trans ⟨Ex.of k, fun t => tabs_of t k⟩) hq (rpa_zip (fun a z => r1.there z) k hr hr2 n hpr)⟩
    · exact w1.elim
/-! ### dicts of texts that are equal -/
def txtD : List (PD × PD) → Option (List (Str × Str))
  | [] => some []
  | (.str k, .str v) :: r => (txtD r).map ((k, v) :: ·)
  | _ => none
def neDD (x y : PD) : R PD := match x, y with
  | .dict es, .dict fs => match txtD es, txtD fs with
    | some l, some m => if l = m ∧ (l.map (·.1)).Nodup then .ok (.bool false) else .stuck
    | _, _ => .stuck
  | _, _ => .stuck
def txtV (l : List (Str × Str)) : List (Key × V) := l.map fun p => (Sum.inr p.1, V.str p.2)
theorem txtD_kvs {K : PySem.W.Frag} {H : Hp} : ∀ {kvs : List (Key × V)} {es : List (PD × PD)} {l : List (Str × Str)}, RpK K H kvs es → txtD es = some l → kvs = txtV l
  | _, _, l, .nil, h => by cases h; rfl
  | (k, v) :: _, _, l, .cons (d := d) hv t, h => by
    rename_i ds
    cases k with
    | inl n => cases h
    | inr x =>
      cases d with
      | str y =>
        have h : (txtD ds).map ((x, y) :: ·) = some l := h
        cases e : txtD ds with
        | none => rw [e] at h; cases h
        | some r =>
          rw [e] at h
          cases h
          cases hv
          rw [txtD_kvs t e]
          rfl
      | _ => cases h
def rNeS : R2 := fun x y H Q => ∃ a b l, x = .ref a ∧ y = .ref b ∧ Rd H a (.dK (txtV l)) ∧ Rd H b (.dK (txtV l)) ∧ (l.map (·.1)).Nodup ∧ Q (.bl false) H
theorem txtV_keys (l : List (Str × Str)) : (txtV l).map (·.1) = (l.map (·.1)).map Sum.inr := by
  unfold txtV
  simp [List.map_map, Function.comp_def]
theorem nodup_inr {l : List Str} (h : l.Nodup) : (l.map (Sum.inr : Str → Key)).Nodup := by
  induction l with
  | nil => exact List.nodup_nil
  | cons a r ih =>
    rw [List.nodup_cons] at h
    rw [List.map_cons, List.nodup_cons]
    refine ⟨fun z => ?_, ih h.2⟩
    obtain ⟨b, hb, e⟩ := List.mem_map.mp z
    cases e
    exact h.1 hb
theorem op_neS {X : Cx} (hu : X.A.units + 64 < cLine) : OpR X (compareOp .NotEq) rNeS := by
  intro pins s σ H x y v u Q I rx ry h
  obtain ⟨a, b, l, rfl, rfl, ea, eb, nd, q⟩ := h
  obtain rfl : v = Value.ref a := rx
  obtain rfl : u = Value.ref b := ry
  obtain ⟨_, ya, va, ra, da⟩ := dk_rd I.hok ea
  obtain ⟨_, yb, vb, rb, db⟩ := dk_rd I.hok eb
  have hl : va.length = vb.length := ra.length.symm.trans rb.length
  have nd2 : ((txtV l).map (·.1)).Nodup := by rw [txtV_keys]; exact nodup_inr nd
  exact PySem.W.keq_ne (knd := mixKind X.prog X.w) (r := true) ya yb da db (by omega) (fun _ => hits_all rb ra fun p hp => ⟨val_nodup nd2 p hp, by
    unfold txtV at hp
    obtain ⟨z, _, e⟩ := List.mem_map.mp hp
    rw [← e]
    rfl⟩) (fin_bl I q (by simp [hl]))
theorem o_neS {C : Cn} : Op2 C rNeS neDD := fun Y Z H v w x y Q hyz hz hx hy q => by
  unfold neDD at q
  split at q
  · split at q
    · split at q
      · rename_i es fs l m el em hlm
        obtain ⟨rfl, nd⟩ := hlm
        obtain ⟨a, kvs, rfl, ha, ra⟩ := hx.dct hyz
        obtain ⟨b, kws, rfl, hb, rb⟩ := hy.dct hyz
        rw [txtD_kvs ra el] at ha
        rw [txtD_kvs rb em] at hb
        exact ⟨a, b, l, rfl, rfl, ha, hb, nd, q _ H (Xt.refl H) (.bl _)⟩
      · exact q.elim
    · exact q.elim
  · exact q.elim
/-! ### x = dict(d), which the slot owns -/
def sAsgDc (i : Nat) (fa : En → R (List PD)) : En → R Fl := fun en => (fa en).bind fun ds => match ds with
  | [.dict es] => if i < en.length then .ok (.nx (en.set i (.od es))) else .stuck
  | _ => .stuck
theorem es_asgDc {C : Cn} {i : Nat} {ta : TA} {fa : En → R (List PD)} (ha : EdB C ta fa) : Es C (tAsg (tCB (rDictA C.K) ta) (gName i)) (sAsgDc i fa) := fun H0 ext reg en σ H rs D w =>
  ha.seq rs (W := WS C H0 ext D) w (fun _ q => WS.exc q rs.le rs.tb) (fun q => q) fun x v H1 e1 r1 h1 w1 => by
    split at w1
    · split at w1
      · rename_i es hi
        obtain ⟨v, rfl, h⟩ := h1.one
        obtain ⟨p, kvs, rfl, hp, hr⟩ := h.dct fun a z => .inl z
        refine .inr ⟨p, kvs, rfl, hp, fun n hn => w1 _ _ _ (r1.new (i := i) (sv := .od es) hi rfl hn ⟨n, kvs, rfl, rfl, upd_same, hr⟩)⟩
      · exact w1.elim
    · exact w1.elim
/-! ### a test in which an own dict is walked -/
def dOwnT (i : Nat) (f : En → R Bool) : En → R Bool := fun en => match en[i]? with
  | some (.od es) => f (en.set i (.sh (.dict es)))
  | _ => .stuck
theorem et_own {C : Cn} {t : TT} {f : En → R Bool} (i : Nat) (h : EdT C t f) : EdT C t (dOwnT i f) := fun H0 ext reg en σ H rs Q w => by
  unfold dOwnT at w
  split at w
  · rename_i es e
    exact h H0 ext _ _ σ H (rs.shareD e) Q w
  · exact w.elim
/-! ### d[x], d[y] = a, b, d owned -/
def putA (i : Nat) (y v : PD) (en : En) : R En := match en[i]?, kOf y with
  | some (.od es), some k => if es.length + 1 ≤ szN then .ok (en.set i (.od (putD es k v))) else .stuck
  | _, _ => .stuck
def sPut2 (i : Nat) (fv fy fz : En → R PD) : En → R Fl := fun en => (fv en).bind fun v => match v with
  | .tuple [a, b] => match en[i]? with
    | some (.od _) => (fy en).bind fun y => (putA i y a en).bind fun e1 => (fz e1).bind fun z => (putA i z b e1).bind fun e2 => .ok (.nx e2)
    | _ => .stuck
  | _ => .stuck
theorem putA_at {C : Cn} {i : Nat} {y d : PD} {en e1 : En} {H0 H : Hp} {ext : AS} {reg : Nat → AS} {σ : L2.St} {u v : V} (r : RS C.K H0 ext reg en σ H) (hu : Rp C.K (hid H (own ext reg)) u y) (hv : Rp C.K (hid H (own ext reg)) v d) (e : putA i y d en = .ok e1) :
    ∃ p H', σ[i]? = some (some (.ref p)) ∧ DPut H p u v H' ∧ RS C.K H0 ext reg e1 σ H' ∧ hid H' (own ext reg) = hid H (own ext reg) := by
  unfold putA at e
  split at e
  · rename_i es k ei ek
    split at e
    · rename_i hl
      cases e
      obtain ⟨p, kvs, h5, h6, h7, h8⟩ := r.atD ei
      have eu : u = kV k := (RpL.s (H := H) hu).key ek
      refine ⟨p, _, h5, by rw [eu]; exact DPut.k h7 (sz_lt (by rw [h8.length]; omega)), r.wr (i := i) (sv := .od (putD es k d)) rfl ⟨_, h7, rfl⟩ h6 h5 ⟨p, _, rfl, h6, upd_same, h8.put k hv⟩, hid_upd (.inr ⟨i, h6⟩)⟩
    · cases e
  · cases e
theorem putA_noexc {i : Nat} {y d : PD} {en : En} {c : Str} : putA i y d en ≠ .exc c := fun h => by
  unfold putA at h
  split at h
  · split at h <;> cases h
  · cases h
theorem es_put2 {C : Cn} {i : Nat} {tv ty tz : TE} {fv fy fz : En → R PD} (hv : EdS C tv fv) (hy : EdS C ty fy) (hz : EdS C tz fz) : Es C (tAsg tv (gTup C.K 2 (gCons (gSub (tVar i) ty rSetD) (gCons (gSub (tVar i) tz rSetD) gNil)))) (sPut2 i fv fy fz) := fun H0 ext reg en σ H rs D w =>
  hv.seq rs (W := WS C H0 ext D) w (fun _ q => WS.exc q rs.le rs.tb) (fun q => q) fun d v H1 e1 r1 h1 w1 => by
    split at w1
    · rename_i a b
      split at w1
      · rename_i es0 ei
        cases h1 with
        | tup hs hr =>
          cases hr with
          | cons ha hr =>
            cases hr with
            | cons hb hr =>
              cases hr
              obtain ⟨p, kvs, h5, h6, h7, h8⟩ := r1.atD ei
              refine ⟨_, _, rfl, hid_ex.sqt hs, rfl, _, _, rfl, .ref p, h5, ?_⟩
              refine hy.seq r1 (W := WS C H0 ext D) w1 (fun _ q => WS.exc q r1.le r1.tb) (fun q => q) fun y u H2 e2 r2 h2 w2 => ?_
              cases ep : putA i y a en with
              | exc c => exact absurd ep putA_noexc
              | stuck => rw [ep] at w2; exact w2.elim
              | ok en1 =>
                rw [ep, R.bind_ok] at w2
                obtain ⟨p', H3, g1, g2, g3, g4⟩ := putA_at r2 h2 (ha.mono e2.toEx.hid.le) ep
                rw [h5] at g1
                cases g1
                refine ⟨p, H3, rfl, g2, _, _, rfl, .ref p, h5, ?_⟩
                refine hz.seq g3 (W := WS C H0 ext D) w2 (fun _ q => WS.exc q g3.le g3.tb) (fun q => q) fun z u2 H4 e4 r4 h4 w4 => ?_
                cases ep2 : putA i z b en1 with
                | exc c => exact absurd ep2 putA_noexc
                | stuck => rw [ep2] at w4; exact w4.elim
                | ok en2 =>
                  rw [ep2, R.bind_ok] at w4
                  have hb2 := hb.mono e2.toEx.hid.le
                  rw [← g4] at hb2
                  obtain ⟨p2, H5, k1, k2, k3, k4⟩ := putA_at r4 h4 (hb2.mono e4.toEx.hid.le) ep2
                  rw [h5] at k1
                  cases k1
                  exact ⟨p, H5, rfl, k2, rfl, w4 _ _ _ k3⟩
      · exact w1.elim
    · exact w1.elim
/-! ### len of a dict -/
def lenDD : List PD → R PD
  | [.dict es] => .ok (.int es.length)
  | _ => .stuck
def rLenDc : List V → Hp → VK → Prop := fun xs H Q => ∃ a kvs, xs = [V.ref a] ∧ Rd H a (.dK kvs) ∧ Q (.int kvs.length) H
theorem cr_lenD {X : Cx} : CallR X (.builtin "len") rLenDc := by
  intro pins s σ H xs us Q I r h
  obtain ⟨a, kvs, rfl, ha, q⟩ := h
  obtain ⟨u, rfl, ru⟩ := vals1 r
  cases ru
  exact d_len I ha fun t s' I' => ⟨.int kvs.length, H, I', ⟨t, rfl⟩, q⟩
theorem n_lenD {C : Cn} : OpN C rLenDc lenDD := fun Y Z H vs xs Q hyz hz hx q => by
  unfold lenDD at q
  split at q
  · rename_i es
    obtain ⟨v, rfl, h⟩ := hx.one
    obtain ⟨p, kvs, rfl, hp, hr⟩ := h.dct hyz
    refine ⟨p, kvs, rfl, hp, q _ H (Xt.refl H) ?_⟩
    rw [hr.length]
    exact .int _
  · exact q.elim
end Dn

namespace Tk
open PySem L2 Dn

def excs : List Str := ["BadSign", "BadNumber", "BadBook"]
def excw : List Str := ["BadBook", "BadSign", "BadCode", "BadText", "BadNumber", "BadRuns", "BadManner", "BadHand"]

def topS (i : Nat) : Stmt := PySem.Challenge.pw_twokeys_k60_whole_planned.main.body.getD i (.Pass ⟨0, 0, 0, 0⟩)
abbrev s_is_code : Stmt := topS 13
abbrev s_is_count : Stmt := topS 17
abbrev s_units_of : Stmt := topS 18
abbrev s__law_cell : Stmt := topS 26
abbrev s__law_drawn : Stmt := topS 27
abbrev s__law_word : Stmt := topS 28
abbrev s__law_told : Stmt := topS 29
abbrev s__law_code : Stmt := topS 30
abbrev s__law_signs : Stmt := topS 31
abbrev s__law_units : Stmt := topS 32
abbrev s_is_book : Stmt := topS 14
abbrev s_need_counts : Stmt := topS 21
abbrev s_codes_in_order : Stmt := topS 22
abbrev s_need_book : Stmt := topS 15
abbrev s_total : Stmt := topS 24
abbrev s_book_for : Stmt := topS 23
abbrev s__law_totals_refused : Stmt := topS 33
abbrev s_law : Stmt := topS 34
structure Ads where
  is_code : Addr
  is_count : Addr
  units_of : Addr
  _law_cell : Addr
  _law_drawn : Addr
  _law_word : Addr
  _law_told : Addr
  _law_code : Addr
  _law_signs : Addr
  _law_units : Addr
  is_book : Addr
  need_counts : Addr
  codes_in_order : Addr
  need_book : Addr
  total : Addr
  book_for : Addr
  _law_totals_refused : Addr
  law : Addr
  cd_book_for : Addr
  tb_book_for : Addr
  cd__law_totals_refused : Addr
  tb__law_totals_refused : Addr
  cd_law : Addr
  tb_law : Addr
structure Fds where
  is_code : FuncData
  is_count : FuncData
  units_of : FuncData
  _law_cell : FuncData
  _law_drawn : FuncData
  _law_word : FuncData
  _law_told : FuncData
  _law_code : FuncData
  _law_signs : FuncData
  _law_units : FuncData
  is_book : FuncData
  need_counts : FuncData
  codes_in_order : FuncData
  need_book : FuncData
  total : FuncData
  book_for : FuncData
  _law_totals_refused : FuncData
  law : FuncData
def cv_SIGNS : PD := (.str "abcdefghijklmnopqrstuvwxyz0123456789.,?/=")
def cv_MOST_CODE : PD := (.int 6)
def cv_MOST_COUNT : PD := (.int 1000)
structure Txt (K : PySem.W.Frag) (mg : Str → Option Value) (cl ca : Str → Addr) (A : Ads) (D : Fds) : Prop where
  z_ValueError : mg "ValueError" = none
  z_all : mg "all" = none
  z_bool : mg "bool" = none
  z_dict : mg "dict" = none
  z_int : mg "int" = none
  z_isinstance : mg "isinstance" = none
  z_len : mg "len" = none
  z_list : mg "list" = none
  z_max : mg "max" = none
  z_min : mg "min" = none
  z_range : mg "range" = none
  z_set : mg "set" = none
  z_sorted : mg "sorted" = none
  z_str : mg "str" = none
  z_sum : mg "sum" = none
  z_zip : mg "zip" = none
  F_is_code : Fun K "is_code" "is_code" s_is_code A.is_code D.is_code
  g_is_code : mg "is_code" = some (.ref A.is_code)
  b_is_code : Binds K D.is_code ["thing"] []
  F_is_count : Fun K "is_count" "is_count" s_is_count A.is_count D.is_count
  g_is_count : mg "is_count" = some (.ref A.is_count)
  b_is_count : Binds K D.is_count ["thing", "low", "high"] []
  F_units_of : Fun K "units_of" "units_of" s_units_of A.units_of D.units_of
  g_units_of : mg "units_of" = some (.ref A.units_of)
  b_units_of : Binds K D.units_of ["code"] []
  F__law_cell : Fun K "_law_cell" "_law_cell" s__law_cell A._law_cell D._law_cell
  g__law_cell : mg "_law_cell" = some (.ref A._law_cell)
  b__law_cell : Binds K D._law_cell ["script", "k"] []
  F__law_drawn : Fun K "_law_drawn" "_law_drawn" s__law_drawn A._law_drawn D._law_drawn
  g__law_drawn : mg "_law_drawn" = some (.ref A._law_drawn)
  b__law_drawn : Binds K D._law_drawn ["cell", "k"] []
  F__law_word : Fun K "_law_word" "_law_word" s__law_word A._law_word D._law_word
  g__law_word : mg "_law_word" = some (.ref A._law_word)
  b__law_word : Binds K D._law_word ["e"] []
  F__law_told : Fun K "_law_told" "_law_told" s__law_told A._law_told D._law_told
  g__law_told : mg "_law_told" = some (.ref A._law_told)
  b__law_told : Binds K D._law_told ["deed"] []
  F__law_code : Fun K "_law_code" "_law_code" s__law_code A._law_code D._law_code
  g__law_code : mg "_law_code" = some (.ref A._law_code)
  b__law_code : Binds K D._law_code ["number"] []
  F__law_signs : Fun K "_law_signs" "_law_signs" s__law_signs A._law_signs D._law_signs
  g__law_signs : mg "_law_signs" = some (.ref A._law_signs)
  b__law_signs : Binds K D._law_signs [] []
  F__law_units : Fun K "_law_units" "_law_units" s__law_units A._law_units D._law_units
  g__law_units : mg "_law_units" = some (.ref A._law_units)
  b__law_units : Binds K D._law_units ["code"] []
  F_is_book : Fun K "is_book" "is_book" s_is_book A.is_book D.is_book
  g_is_book : mg "is_book" = some (.ref A.is_book)
  b_is_book : Binds K D.is_book ["thing"] []
  F_need_counts : Fun K "need_counts" "need_counts" s_need_counts A.need_counts D.need_counts
  g_need_counts : mg "need_counts" = some (.ref A.need_counts)
  b_need_counts : Binds K D.need_counts ["counts"] []
  F_codes_in_order : Fun K "codes_in_order" "codes_in_order" s_codes_in_order A.codes_in_order D.codes_in_order
  g_codes_in_order : mg "codes_in_order" = some (.ref A.codes_in_order)
  b_codes_in_order : Binds K D.codes_in_order ["many"] []
  F_need_book : Fun K "need_book" "need_book" s_need_book A.need_book D.need_book
  g_need_book : mg "need_book" = some (.ref A.need_book)
  b_need_book : Binds K D.need_book ["book"] []
  F_total : Fun K "total" "total" s_total A.total D.total
  g_total : mg "total" = some (.ref A.total)
  b_total : Binds K D.total ["book", "counts"] []
  F_book_for : FunC K "book_for" "book_for" s_book_for A.book_for D.book_for A.cd_book_for
  g_book_for : mg "book_for" = some (.ref A.book_for)
  b_book_for : Binds K D.book_for ["counts"] []
  F__law_totals_refused : FunC K "_law_totals_refused" "_law_totals_refused" s__law_totals_refused A._law_totals_refused D._law_totals_refused A.cd__law_totals_refused
  g__law_totals_refused : mg "_law_totals_refused" = some (.ref A._law_totals_refused)
  b__law_totals_refused : Binds K D._law_totals_refused [] []
  F_law : FunC K "law" "law" s_law A.law D.law A.cd_law
  g_law : mg "law" = some (.ref A.law)
  b_law : Binds K D.law ["script"] []
  ge_BadSign : mg "BadSign" = some (.ref (cl "BadSign"))
  x_BadSign : PySem.W.excIn K (cl "BadSign") [.type "ValueError", .type "Exception", .type "BaseException", .type "object"] "ValueError.__new__" = true
  k_BadSign : PySem.W.keepIn K (.ref (cl "BadSign")) = true
  eb_BadSign : PySem.W.subIn K (.ref (cl "BadSign")) (.type "BaseException") = some true
  t_BadSign : PySem.W.typeIn K (.ref (cl "BadSign")) = some (.type "type")
  ge_BadNumber : mg "BadNumber" = some (.ref (cl "BadNumber"))
  x_BadNumber : PySem.W.excIn K (cl "BadNumber") [.type "ValueError", .type "Exception", .type "BaseException", .type "object"] "ValueError.__new__" = true
  k_BadNumber : PySem.W.keepIn K (.ref (cl "BadNumber")) = true
  eb_BadNumber : PySem.W.subIn K (.ref (cl "BadNumber")) (.type "BaseException") = some true
  t_BadNumber : PySem.W.typeIn K (.ref (cl "BadNumber")) = some (.type "type")
  ge_BadBook : mg "BadBook" = some (.ref (cl "BadBook"))
  x_BadBook : PySem.W.excIn K (cl "BadBook") [.type "ValueError", .type "Exception", .type "BaseException", .type "object"] "ValueError.__new__" = true
  k_BadBook : PySem.W.keepIn K (.ref (cl "BadBook")) = true
  eb_BadBook : PySem.W.subIn K (.ref (cl "BadBook")) (.type "BaseException") = some true
  t_BadBook : PySem.W.typeIn K (.ref (cl "BadBook")) = some (.type "type")
  ge_BadCode : mg "BadCode" = some (.ref (cl "BadCode"))
  ge_BadText : mg "BadText" = some (.ref (cl "BadText"))
  ge_BadRuns : mg "BadRuns" = some (.ref (cl "BadRuns"))
  ge_BadManner : mg "BadManner" = some (.ref (cl "BadManner"))
  ge_BadHand : mg "BadHand" = some (.ref (cl "BadHand"))
  ge_KeysError : mg "KeysError" = some (.ref (cl "KeysError"))
  word : ∀ c ∈ excs, WordT K cl excw (cl "KeysError") c
  c_SIGNS : KC K mg "SIGNS" (.str "abcdefghijklmnopqrstuvwxyz0123456789.,?/=")
  c_MOST_CODE : KC K mg "MOST_CODE" (.int 6)
  c_MOST_COUNT : KC K mg "MOST_COUNT" (.int 1000)
theorem Txt.r_SIGNS {K : PySem.W.Frag} {mg : Str → Option Value} {cl ca : Str → Addr} {A : Ads} {D : Fds} (_ : Txt K mg cl ca A D) {V0 : V} (h : V0 = (.str "abcdefghijklmnopqrstuvwxyz0123456789.,?/=") := by rfl) : ∀ H, Rp K H V0 cv_SIGNS := fun H => by rw [h]; exact .str _
theorem Txt.r_MOST_CODE {K : PySem.W.Frag} {mg : Str → Option Value} {cl ca : Str → Addr} {A : Ads} {D : Fds} (_ : Txt K mg cl ca A D) {V0 : V} (h : V0 = (.int 6) := by rfl) : ∀ H, Rp K H V0 cv_MOST_CODE := fun H => by rw [h]; exact .int _
theorem Txt.r_MOST_COUNT {K : PySem.W.Frag} {mg : Str → Option Value} {cl ca : Str → Addr} {A : Ads} {D : Fds} (_ : Txt K mg cl ca A D) {V0 : V} (h : V0 = (.int 1000) := by rfl) : ∀ H, Rp K H V0 cv_MOST_COUNT := fun H => by rw [h]; exact .int _
structure Tbq [Tabl] (base : Heap) (mg : Str → Option Value) (A : Ads) : Prop where
  t_book_for : LamX.TabB base mg A.cd_book_for A.tb_book_for
  m_book_for : (A.tb_book_for, ((PyProof.Rows.envOfC "book_for" (defScope s_book_for) 0 0 .none).qual ++ "<lambda>")) ∈ Tabl.T
  u_book_for : ∀ q ∈ Tabl.T, q.1 = A.tb_book_for → q.2 = ((PyProof.Rows.envOfC "book_for" (defScope s_book_for) 0 0 .none).qual ++ "<lambda>")
  t__law_totals_refused : LamX.TabB base mg A.cd__law_totals_refused A.tb__law_totals_refused
  m__law_totals_refused : (A.tb__law_totals_refused, ((PyProof.Rows.envOfC "_law_totals_refused" (defScope s__law_totals_refused) 0 0 .none).qual ++ "<lambda>")) ∈ Tabl.T
  u__law_totals_refused : ∀ q ∈ Tabl.T, q.1 = A.tb__law_totals_refused → q.2 = ((PyProof.Rows.envOfC "_law_totals_refused" (defScope s__law_totals_refused) 0 0 .none).qual ++ "<lambda>")
  t_law : LamX.TabB base mg A.cd_law A.tb_law
  m_law : (A.tb_law, ((PyProof.Rows.envOfC "law" (defScope s_law) 0 0 .none).qual ++ "<lambda>")) ∈ Tabl.T
  u_law : ∀ q ∈ Tabl.T, q.1 = A.tb_law → q.2 = ((PyProof.Rows.envOfC "law" (defScope s_law) 0 0 .none).qual ++ "<lambda>")

def bd__law_word (c : Str) (a : Addr) : En → R Fl :=
    (sSeq (sAsg 1 (dN mkL (dCons (dIs 0 a (decide (c = "BadBook"))) (dCons (dIs 0 a (decide (c = "BadSign"))) (dCons (dIs 0 a (decide (c = "BadCode"))) (dCons (dIs 0 a (decide (c = "BadText"))) dNil))))))
    (sSeq (sAsg 1 (d2 addD (dVar 1) (dN mkL (dCons (dIs 0 a (decide (c = "BadNumber"))) (dCons (dIs 0 a (decide (c = "BadRuns"))) (dCons (dIs 0 a (decide (c = "BadManner"))) (dCons (dIs 0 a (decide (c = "BadHand"))) dNil)))))))
    (sSeq (sIf (dOr (dTest (d2 neD (dN sumD (dCons (d1 intsD (dVar 1)) dNil)) (dC (.int 1)))) (dNot (dTest (dIs 0 a true)))) (sRet (dC (.str "other"))) sNil)
    (sSeq (sAsg 2 (dN mkL (dCons (dC (.str "BadBook")) (dCons (dC (.str "BadSign")) (dCons (dC (.str "BadCode")) (dCons (dC (.str "BadText")) (dCons (dC (.str "BadNumber")) (dCons (dC (.str "BadRuns")) (dCons (dC (.str "BadManner")) (dCons (dC (.str "BadHand")) dNil))))))))))
    (sRet (d2 ixD (dVar 2) (dIdx (dVar 1) (dC (.bool true)))))))))

theorem word_all [Tabl] : ∀ c ∈ excs, ∀ a, runW 4 (bd__law_word c a) a = .ok (.str c) := by
  intro c hc a
  unfold excs at hc
  simp only [List.mem_cons, List.not_mem_nil, or_false] at hc
  rcases hc with rfl | rfl | rfl <;> (unfold runW bd__law_word; simp (decide := true) [intsD, asBools, Dn.bi, sumD, asInts, szN_eq, addD_li, idxD, idxF, flatD, eqF, ixD, atI, ixN])

def ce_is_code_1 : En → R PD :=
    (d2 (inD false) (dVar 1) (dC (.str ".-")))

def bd_is_code : En → R Fl :=
    (sRet (dAndV (d1 (isiD isStrD) (dVar 0)) (dAndV (dChain leD leD (dC (.int 1)) (dN lenD (dCons (dVar 0) dNil)) (dC cv_MOST_CODE)) (dN allD (dCons (dF (dLc (dIt signs (dVar 0)) (gN 1) dYes ce_is_code_1 [1])) dNil)))))

def dn_is_code : List PD → R PD := runB 2 (sNx bd_is_code)

def bd_is_count : En → R Fl :=
    (sRet (dAndV (d1 (isiD isIntD) (dVar 0)) (dAndV (d1 notD (d1 (isiD isBoolD) (dVar 0))) (dChain leD leD (dVar 1) (dVar 0) (dVar 2)))))

def dn_is_count : List PD → R PD := runB 3 (sNx bd_is_count)

def ce_units_of_1 : En → R PD :=
    (dIf (dTest (d2 eqD (dVar 1) (dC (.str ".")))) (dC (.int 1)) (dC (.int 3)))

def bd_units_of : En → R Fl :=
    (sRet (d2 subD (d2 addD (dN sumD (dCons (dF (dLc (dIt signs (dVar 0)) (gN 1) dYes ce_units_of_1 [1])) dNil)) (dN lenD (dCons (dVar 0) dNil))) (dC (.int 1))))

def dn_units_of : List PD → R PD := runB 2 (sNx bd_units_of)

def bd__law_drawn : En → R Fl :=
    (sSeq (sAsg 2 (d2 modD (d2 addD (d2 mulD (dVar 0) (dC (.int 6364136223846793005))) (d2 mulD (d2 addD (dVar 1) (dC (.int 1))) (dC (.int 1442695040888963407)))) (dC (.int 340282366920938463463374607431768211507))))
    (sSeq (sAsg 2 (d2 modD (d2 mulD (dVar 2) (dVar 2)) (dC (.int 340282366920938463463374607431768211297))))
    (sSeq (sAsg 2 (d2 mulD (d2 mulD (d2 addD (d2 modD (dVar 2) (dC (.int 18446744073709551557))) (dC (.int 1))) (d2 addD (d2 fdivD (dVar 2) (dC (.int 18446744073709551557))) (dC (.int 1)))) (dVar 2)))
    (sRet (d2 modD (dVar 2) (dC (.int 340282366920938463463374607431768211507)))))))

def dn__law_drawn : List PD → R PD := runB 3 (sNx bd__law_drawn)

def lp__law_code_1 : En → R Fl :=
    (sSeq (sAsg 1 (d2 addD (d2 ixD (dC (.str ".-")) (d2 modD (dVar 0) (dC (.int 2)))) (dVar 1)))
    (sAsg 0 (d2 fdivD (dVar 0) (dC (.int 2)))))

def lt__law_code_2 : En → R Bool :=
    (dTest (d2 gtD (dVar 0) (dC (.int 1))))

def bd__law_code : En → R Fl :=
    (sSeq (sAsg 1 (dC (.str "")))
    (sSeq (sWhile 130 lt__law_code_2 lp__law_code_1)
    (sRet (dVar 1))))

def dn__law_code : List PD → R PD := runB 2 (sNx bd__law_code)

def bd__law_signs : En → R Fl :=
    (sRet (dC (.str "abcdefghijklmnopqrstuvwxyz0123456789.,?/=")))

def dn__law_signs : List PD → R PD := runB 0 (sNx bd__law_signs)

def ce__law_units_1 : En → R PD :=
    (dIf (dTest (d2 eqD (dVar 1) (dC (.str ".")))) (dC (.int 2)) (dC (.int 4)))

def bd__law_units : En → R Fl :=
    (sRet (d2 addD (dN sumD (dCons (dF (dLc (dIt signs (dVar 0)) (gN 1) dYes ce__law_units_1 [1])) dNil)) (dC (.int 2))))

def dn__law_units : List PD → R PD := runB 2 (sNx bd__law_units)

def ce_is_book_1 : En → R PD :=
    (dAndV (d1 (isiD isStrD) (dVar 2)) (dAndV (d2 eqD (dN lenD (dCons (dVar 2) dNil)) (dC (.int 1))) (d2 (inD false) (dVar 2) (dC cv_SIGNS))))

def ce_is_book_2 : En → R PD :=
    (d2 ixD (dVar 0) (dVar 2))

def ce_is_book_3 : En → R PD :=
    (dCall dn_is_code (dCons (dVar 3) dNil))

def bd_is_book : En → R Fl :=
    (sSeq (sIf (dOr (dNot (dTest (d1 (isiD isDictD) (dVar 0)))) (dTest (d1 emptyD (dVar 0)))) (sRet (dC (.bool false))) sNil)
    (sSeq (sIf (dNot (dTest (dN allD (dCons (dF (dLk 0 (dLc (dKeys 0) (gN 2) dYes ce_is_book_1 [2]))) dNil)))) (sRet (dC (.bool false))) sNil)
    (sSeq (sLk 0 (sAsg 1 (dF (dLc (dKeys 0) (gN 2) dYes ce_is_book_2 [2]))))
    (sRet (dAndV (dN allD (dCons (dF (dLc (dIt asL (dVar 1)) (gN 3) dYes ce_is_book_3 [3])) dNil)) (d2 eqD (d1 lenU (dVar 1)) (dN lenD (dCons (dVar 1) dNil))))))))

def dn_is_book : List PD → R PD := runB 4 (sNx bd_is_book)

def ce_need_counts_1 : En → R PD :=
    (dAndV (d1 (isiD isStrD) (dVar 1)) (dAndV (d2 eqD (dN lenD (dCons (dVar 1) dNil)) (dC (.int 1))) (d2 (inD false) (dVar 1) (dC cv_SIGNS))))

def ce_need_counts_2 : En → R PD :=
    (dCall dn_is_count (dCons (d2 ixD (dVar 0) (dVar 1)) (dCons (dC (.int 0)) (dCons (dC cv_MOST_COUNT) dNil))))

def bd_need_counts : En → R Fl :=
    (sSeq (sIf (dOr (dNot (dTest (d1 (isiD isDictD) (dVar 0)))) (dTest (d1 emptyD (dVar 0)))) (sRaise "BadSign") sNil)
    (sSeq (sIf (dNot (dTest (dN allD (dCons (dF (dLk 0 (dLc (dKeys 0) (gN 1) dYes ce_need_counts_1 [1]))) dNil)))) (sRaise "BadSign") sNil)
    (sIf (dNot (dTest (dN allD (dCons (dF (dLk 0 (dLc (dKeys 0) (gN 1) dYes ce_need_counts_2 [1]))) dNil)))) (sRaise "BadNumber") sNil)))

def dn_need_counts : List PD → R PD := runB 2 bd_need_counts

def ce_codes_in_order_1 : En → R PD :=
    (d2 addD (dVar 4) (dC (.str ".")))

def ce_codes_in_order_2 : En → R PD :=
    (d2 addD (dVar 4) (dC (.str "-")))

def ce_codes_in_order_3 : En → R PD :=
    (dN mkT (dCons (dCall dn_units_of (dCons (dVar 4) dNil)) (dCons (dN lenD (dCons (dVar 4) dNil)) (dCons (dVar 4) dNil))))

def lp_codes_in_order_4 : En → R Fl :=
    (sSeq (sAsg 2 (d2 addD (dF (dLc (dIt asL (dVar 2)) (gN 4) dYes ce_codes_in_order_1 [4])) (dF (dLc (dIt asL (dVar 2)) (gN 4) dYes ce_codes_in_order_2 [4]))))
    (sExt 1 (dF (dLc (dIt asL (dVar 2)) (gN 4) dYes ce_codes_in_order_3 [4]))))

def ce_codes_in_order_5 : En → R PD :=
    (dVar 4)

def bd_codes_in_order : En → R Fl :=
    (sSeq (sParM (pF 1 (dLst dNil) (pS 2 (dN mkL (dCons (dC (.str "")) dNil)) pNil)))
    (sSeq (sFor (dItA rng1 (dCons (dC cv_MOST_CODE) dNil)) (gN 3) lp_codes_in_order_4)
    (sRet (dSl (dF (dLc (dIt asL (dF (dNF sortA (dCons (dVarL 1) dNil)))) (gT 3 (gCn (gN 5) (gCn (gN 6) (gCn (gN 4) gNl)))) dYes ce_codes_in_order_5 [5, 6, 4])) dOno (dOso (dVar 0))))))

def dn_codes_in_order : List PD → R PD := runB 7 (sNx bd_codes_in_order)

def bd_need_book : En → R Fl :=
    (sIf (dNot (dTest (dCall dn_is_book (dCons (dVar 0) dNil)))) (sRaise "BadBook") sNil)

def dn_need_book : List PD → R PD := runB 1 bd_need_book

def ce_total_1 : En → R PD :=
    (d2 (inD false) (dVar 2) (dVar 0))

def ce_total_2 : En → R PD :=
    (d2 mulD (d2 ixD (dVar 1) (dVar 2)) (d2 addD (dCall dn_units_of (dCons (d2 ixD (dVar 0) (dVar 2)) dNil)) (dC (.int 3))))

def bd_total : En → R Fl :=
    (sSeq (sDrop (dCall dn_need_book (dCons (dVar 0) dNil)))
    (sSeq (sDrop (dCall dn_need_counts (dCons (dVar 1) dNil)))
    (sSeq (sIf (dNot (dTest (dN allD (dCons (dF (dLk 1 (dLc (dKeys 1) (gN 2) dYes ce_total_1 [2]))) dNil)))) (sRaise "BadSign") sNil)
    (sRet (dN sumD (dCons (dF (dLk 1 (dLc (dKeys 1) (gN 2) dYes ce_total_2 [2]))) dNil))))))

def dn_total : List PD → R PD := runB 3 bd_total

def kl_book_for_1 : En → R PD :=
    (dN mkT (dCons (d2 subD (dC (.int 0)) (d2 ixD (dVar 0) (dVar 2))) (dCons (dVar 2) dNil)))

def bd_book_for : En → R Fl :=
    (sSeq (sDrop (dCall dn_need_counts (dCons (dVar 0) dNil)))
    (sSeq (sAsg 1 (dF (dSortK 2 (dCons (dVar 0) dNil) kl_book_for_1)))
    (sRet (dN dictPD (dCons (dF (dNF lzD (dCons (dVar 1) (dCons (dCall dn_codes_in_order (dCons (dN lenD (dCons (dVar 1) dNil)) dNil)) dNil)))) dNil)))))

def dn_book_for : List PD → R PD := runB 3 bd_book_for

def bd__law_totals_refused : En → R Fl :=
    (sSeq (sAsgF 0 (dLst (dCons (dTold excs (dCall dn_total (dCons dNewD (dCons (dC .none) dNil)))) dNil)))
    (sSeq (sApp 0 (dTold excs (dCall dn_total (dCons (dDisp (dqCons (dC (.str "a")) (dC (.str ".")) dqNil)) (dCons (dC .none) dNil)))))
    (sSeq (sApp 0 (dTold excs (dCall dn_total (dCons (dDisp (dqCons (dC (.str "a")) (dC (.str ".")) dqNil)) (dCons (dDisp (dqCons (dC (.str "b")) (dC (.int 1)) dqNil)) dNil)))))
    (sSeq (sApp 0 (dTold excs (dCall dn_total (dCons (dDisp (dqCons (dC (.str "a")) (dC (.str ".")) dqNil)) (dCons (dDisp (dqCons (dC (.str "a")) (d1 negD (dC (.int 1))) dqNil)) dNil)))))
    (sRet (d2 eqD (dVarL 0) (dN mkL (dCons (dC (.str "BadBook")) (dCons (dC (.str "BadSign")) (dCons (dC (.str "BadSign")) (dCons (dC (.str "BadNumber")) dNil)))))))))))

def dn__law_totals_refused : List PD → R PD := runB 1 (sNx bd__law_totals_refused)

def lp_law_1 : En → R Fl :=
    (sSeq (sAsg 6 (dCall dn__law_drawn (dCons (dVar 2) (dCons (d2 addD (dC (.int 10)) (dVar 5)) dNil))))
    (sPut 3 (ePop 4 (d2 modD (d2 fdivD (dVar 6) (dC (.int 8))) (dN lenD (dCons (dVarL 4) dNil)))) (d2 modD (d2 fdivD (dVar 6) (dC (.int 1024))) (d2 ixD (dN mkL (dCons (dC (.int 3)) (dCons (dC (.int 20)) (dCons (dC (.int 1001)) dNil)))) (d2 modD (d2 fdivD (dVar 6) (d2 powD (dC (.int 2)) (dC (.int 20)))) (dC (.int 3)))))))

def ce_law_2 : En → R PD :=
    (dCall dn__law_code (dCons (dVar 18) dNil))

def ce_law_3 : En → R PD :=
    (dN mkT (dCons (dCall dn__law_units (dCons (dVar 16) dNil)) (dCons (dN lenD (dCons (dVar 16) dNil)) (dCons (dVar 16) dNil))))

def ce_law_4 : En → R PD :=
    (dN mkT (dCons (d2 subD (dC (.int 0)) (d2 ixD (dVarL 3) (dVar 19))) (dCons (dVar 19) dNil)))

def ce_law_5 : En → R PD :=
    (dN mkT (dCons (d2 ixD (d2 ixD (dVar 10) (dVar 20)) (dC (.int 1))) (dCons (d2 ixD (d2 ixD (dVar 9) (dVar 20)) (dC (.int 2))) dNil)))

def ce_law_6 : En → R PD :=
    (d2 mulD (d2 ixD (dVarL 3) (dVar 19)) (dCall dn__law_units (dCons (d2 ixD (dVar 7) (dVar 19)) dNil)))

def ce_law_7 : En → R PD :=
    (d2 ixD (dVarL 15) (dVar 19))

def lp_law_8 : En → R Fl :=
    (sSeq (sAsg 6 (dCall dn__law_drawn (dCons (dVar 2) (dCons (d2 addD (dC (.int 80)) (dVar 5)) dNil))))
    (sSeq (sAsg 13 (d2 ixD (dF (dNF sortD (dCons (dVarL 3) dNil))) (d2 modD (d2 fdivD (dVar 6) (dC (.int 8))) (dN lenDD (dCons (dVarL 3) dNil)))))
    (sSeq (sAsg 14 (d2 ixD (dF (dNF sortD (dCons (dVarL 3) dNil))) (d2 modD (d2 fdivD (dVar 6) (dC (.int 512))) (dN lenDD (dCons (dVarL 3) dNil)))))
    (sSeq (sAsgDc 15 (dCons (dVar 7) dNil))
    (sSeq (sPut2 15 (dN mkT (dCons (d2 ixD (dVar 7) (dVar 14)) (dCons (d2 ixD (dVar 7) (dVar 13)) dNil))) (dVar 13) (dVar 14))
    (sSeq (sIf (dTest (d2 eqD (d2 modD (dVar 6) (dC (.int 2))) (dC (.int 0)))) (sSeq (sAsg 16 (dCall dn__law_code (dCons (d2 addD (dC (.int 2)) (d2 modD (d2 fdivD (dVar 6) (d2 powD (dC (.int 2)) (dC (.int 20)))) (dC (.int 126)))) dNil)))
    (sIf (dOwnT 15 (dTest (d2 (inD true) (dVar 16) (dF (dLk 15 (dLc (dKeys 15) (gN 19) dYes ce_law_7 [19])))))) (sPut 15 (eS (dVar 13)) (dVar 16)) sNil)) sNil)
    (sSh 3 (sSh 15 (sIf (dTest (d2 ltD (dCall dn_total (dCons (dVar 15) (dCons (dVar 3) dNil))) (dVar 12))) (sRet (dC (.bool false))) sNil)))))))))

def lp_law_9 : En → R Fl :=
    (sIf (dTest (d2 neD (dTold excs (dCall dn_book_for (dCons (dVar 17) dNil))) (dC (.str "BadSign")))) (sRet (dC (.bool false))) sNil)

def lp_law_10 : En → R Fl :=
    (sIf (dTest (d2 neD (dTold excs (dCall dn_book_for (dCons (dVar 17) dNil))) (dC (.str "BadNumber")))) (sRet (dC (.bool false))) sNil)

def lp_law_11 : En → R Fl :=
    (sSeq (sAsg 2 (dCall dn__law_drawn (dCons (dCell 0 (dVar 1)) (dCons (dVar 1) dNil))))
    (sSeq (sParM (pD 3 (pF 4 (dNF listD (dCons (dCall dn__law_signs dNil) dNil)) pNil)))
    (sSeq (sFor (dItA rng1 (dCons (d2 addD (dC (.int 1)) (d2 modD (dVar 2) (d2 ixD (dN mkL (dCons (dC (.int 5)) (dCons (dC (.int 41)) dNil))) (d2 modD (d2 fdivD (dVar 2) (dC (.int 64))) (dC (.int 2)))))) dNil)) (gN 5) lp_law_1)
    (sSeq (sSh 3 (sAsg 7 (dCall dn_book_for (dCons (dVar 3) dNil))))
    (sSeq (sAsg 8 (dF (dLc (dItA rng2 (dCons (dC (.int 2)) (dCons (dC (.int 128)) dNil))) (gN 18) dYes ce_law_2 [18])))
    (sSeq (sAsg 9 (dF (dNF sortA (dCons (dF (dLc (dIt asL (dVar 8)) (gN 16) dYes ce_law_3 [16])) dNil))))
    (sSeq (sAsg 10 (dF (dNF sortA (dCons (dF (dLk 3 (dLc (dKeys 3) (gN 19) dYes ce_law_4 [19]))) dNil))))
    (sSeq (sAsg 11 (dN dictPD (dCons (dF (dLc (dItA rng1 (dCons (dN lenDD (dCons (dVarL 3) dNil)) dNil)) (gN 20) dYes ce_law_5 [20])) dNil)))
    (sSeq (sIf (dOr (dTest (d2 neDD (dVar 7) (dVar 11))) (dTest (d2 isnD (dCall dn_need_book (dCons (dVar 7) dNil)) (dC .none)))) (sRet (dC (.bool false))) sNil)
    (sSeq (sAsg 12 (dN sumD (dCons (dF (dLk 3 (dLc (dKeys 3) (gN 19) dYes ce_law_6 [19]))) dNil)))
    (sSeq (sSh 3 (sIf (dTest (d2 neD (dCall dn_total (dCons (dVar 7) (dCons (dVar 3) dNil))) (dVar 12))) (sRet (dC (.bool false))) sNil))
    (sSeq (sFor (dItA rng1 (dCons (dC (.int 8)) dNil)) (gN 5) lp_law_8)
    (sSeq (sFor (dIt asL (dN mkL (dCons dNewD (dCons (dC .none) (dCons (dN mkL dNil) (dCons (dDisp (dqCons (dC (.str "A")) (dC (.int 1)) dqNil)) (dCons (dDisp (dqCons (dC (.str "ab")) (dC (.int 1)) dqNil)) (dCons (dDisp (dqCons (dC (.int 1)) (dC (.int 1)) dqNil)) (dCons (dDisp (dqCons (dC (.str " ")) (dC (.int 1)) dqNil)) dNil))))))))) (gN 17) lp_law_9)
    (sSeq (sFor (dIt asL (dN mkL (dCons (dDisp (dqCons (dC (.str "a")) (d1 negD (dC (.int 1))) dqNil)) (dCons (dDisp (dqCons (dC (.str "a")) (dC (.int 1001)) dqNil)) (dCons (dDisp (dqCons (dC (.str "a")) (dC .none) dqNil)) (dCons (dDisp (dqCons (dC (.str "a")) (dC (.bool true)) dqNil)) (dCons (dDisp (dqCons (dC (.str "a")) (dC (.str "1")) dqNil)) dNil))))))) (gN 17) lp_law_10)
    (sIf (dNot (dTest (dCall dn__law_totals_refused dNil))) (sRet (dC (.bool false))) sNil)))))))))))))))

def bd_law : En → R Fl :=
    (sSeq (sFor (dItA rng1 (dCons (dN max2D (dCons (dC (.int 1)) (dCons (dN minD (dCons (dC (.int 3)) (dCons (dLenR 0) dNil))) dNil))) dNil)) (gN 1) lp_law_11)
    (sRet (dC (.bool true))))

section
variable [Tabl] {P : Program} {w : World} {K : PySem.W.Frag} {mg : Str → Option Value} {base : Heap} {cl : Str → Addr} {A : Ads} {D : Fds}
theorem sc__law_word : FnScope ["e", "flags", "words_here", "flag"] ["e"] (defScope s__law_word) := ⟨rfl, rfl, rfl, by decide +kernel, rfl, by decide +kernel, by decide +kernel⟩
theorem wrd {k : Nat} (T : Txt K mg cl Tabl.C A D) : Wrd P w K mg base cl excs k := by
  refine wrd_by (bw := bd__law_word) T.F__law_word sc__law_word T.g__law_word T.b__law_word (by decide) word_all fun c hc E A' outer s H cdv p hot h1 h2 hr => ?_
  have W := T.word c hc
  obtain ⟨ea, eo⟩ := p
  have HC : L2H.HotC (L2H.cxH (L2N.CX P w) P w K mg base ["e", "flags", "words_here", "flag"] "_law_word" (defScope s__law_word) A._law_word cdv A' outer s H E (ea, eo)) := ⟨(ea, eo), hot, List.mem_cons_self⟩
  have HF : ∃ vs, eo.data = .fields vs := let ⟨_, v, z, _⟩ := hot; ⟨v, z⟩
  have HU : (A'.deeper (PyProof.Rows.envOfC "_law_word" (defScope s__law_word) s.heap.objs.size A._law_word cdv)).units + 64 < cLine := by have := hr.un; omega
  have HP : (ea, eo) ∈ (L2H.cxH (L2N.CX P w) P w K mg base ["e", "flags", "words_here", "flag"] "_law_word" (defScope s__law_word) A._law_word cdv A' outer s H E (ea, eo)).pn := List.mem_cons_self
  refine ⟨_, (pss_cons (ps_set (i := 1) sc__law_word.nd rfl (.inl rfl) (pe_lst (pa_cons (pe_callB (call_isP (W.exc) HP ⟨h1, h2⟩ HF) (by rfl) T.z_isinstance (by decide +kernel) (pa_cons (pv 0) (pa_cons (pe_glob (v := .ref (cl "BadBook")) (by rfl) T.ge_BadBook rfl) pa_nil))) (pa_cons (pe_callB (call_isP (W.exc) HP ⟨h1, h2⟩ HF) (by rfl) T.z_isinstance (by decide +kernel) (pa_cons (pv 0) (pa_cons (pe_glob (v := .ref (cl "BadSign")) (by rfl) T.ge_BadSign rfl) pa_nil))) (pa_cons (pe_callB (call_isP (W.exc) HP ⟨h1, h2⟩ HF) (by rfl) T.z_isinstance (by decide +kernel) (pa_cons (pv 0) (pa_cons (pe_glob (v := .ref (cl "BadCode")) (by rfl) T.ge_BadCode rfl) pa_nil))) (pa_cons (pe_callB (call_isP (W.exc) HP ⟨h1, h2⟩ HF) (by rfl) T.z_isinstance (by decide +kernel) (pa_cons (pv 0) (pa_cons (pe_glob (v := .ref (cl "BadText")) (by rfl) T.ge_BadText rfl) pa_nil))) pa_nil))))))
      (pss_cons (ps_set (i := 1) sc__law_word.nd rfl (.inl rfl) (pe_op op_addD (pv 1) (pe_lst (pa_cons (pe_callB (call_isP (W.exc) HP ⟨h1, h2⟩ HF) (by rfl) T.z_isinstance (by decide +kernel) (pa_cons (pv 0) (pa_cons (pe_glob (v := .ref (cl "BadNumber")) (by rfl) T.ge_BadNumber rfl) pa_nil))) (pa_cons (pe_callB (call_isP (W.exc) HP ⟨h1, h2⟩ HF) (by rfl) T.z_isinstance (by decide +kernel) (pa_cons (pv 0) (pa_cons (pe_glob (v := .ref (cl "BadRuns")) (by rfl) T.ge_BadRuns rfl) pa_nil))) (pa_cons (pe_callB (call_isP (W.exc) HP ⟨h1, h2⟩ HF) (by rfl) T.z_isinstance (by decide +kernel) (pa_cons (pv 0) (pa_cons (pe_glob (v := .ref (cl "BadManner")) (by rfl) T.ge_BadManner rfl) pa_nil))) (pa_cons (pe_callB (call_isP (W.exc) HP ⟨h1, h2⟩ HF) (by rfl) T.z_isinstance (by decide +kernel) (pa_cons (pv 0) (pa_cons (pe_glob (v := .ref (cl "BadHand")) (by rfl) T.ge_BadHand rfl) pa_nil))) pa_nil)))))))
      (pss_cons (ps_if (PW.pt (pw_or (pt_cmpR (kx_ne K rfl HU) (pe_callB (call_sumH HC) (by rfl) T.z_sum (by decide +kernel) (pa_cons (pe_intsH HC (pv 1) T.z_int rfl rfl rfl (by decide) (by decide) (by decide) (by decide)) pa_nil)) pe_int (nomark _)) (pw_or1 (pt_not (pt_val (pe_callB (call_isP (W.exc) HP ⟨h1, h2⟩ HF) (by rfl) T.z_isinstance (by decide +kernel) (pa_cons (pv 0) (pa_cons (pe_bltn (v := .ty "ValueError") (by rfl) T.z_ValueError (by decide +kernel) rfl) pa_nil)))))))) (pss_one (ps_ret pe_str)) pss_nil)
      (pss_cons (ps_set (i := 2) sc__law_word.nd rfl (.inl rfl) (pe_lst (pa_cons pe_str (pa_cons pe_str (pa_cons pe_str (pa_cons pe_str (pa_cons pe_str (pa_cons pe_str (pa_cons pe_str (pa_cons pe_str pa_nil))))))))))
      (pss_one (ps_ret (pe_ix (kx_ix K rfl HU) (pv 2) (pe_bm PySem.F.plainAttrs_list PySem.F.slot_list_index PySem.F.type_list_index mt_index (pv 1) (pa_cons pe_bl pa_nil)) (fun _ _ => rfl)))))))), ?_⟩
  exact (es_seq (es_asg (ed_lst (ea_cons (ed_is (c := .ref (cl "BadBook")) 0 (fun _ h => h) (W.kit "BadBook" (by simp [excw]))) (ea_cons (ed_is (c := .ref (cl "BadSign")) 0 (fun _ h => h) (W.kit "BadSign" (by simp [excw]))) (ea_cons (ed_is (c := .ref (cl "BadCode")) 0 (fun _ h => h) (W.kit "BadCode" (by simp [excw]))) (ea_cons (ed_is (c := .ref (cl "BadText")) 0 (fun _ h => h) (W.kit "BadText" (by simp [excw]))) ea_nil))))))
      (es_seq (es_asg (ed_op o_add ((ed_var 1)).l ((ed_lst (ea_cons (ed_is (c := .ref (cl "BadNumber")) 0 (fun _ h => h) (W.kit "BadNumber" (by simp [excw]))) (ea_cons (ed_is (c := .ref (cl "BadRuns")) 0 (fun _ h => h) (W.kit "BadRuns" (by simp [excw]))) (ea_cons (ed_is (c := .ref (cl "BadManner")) 0 (fun _ h => h) (W.kit "BadManner" (by simp [excw]))) (ea_cons (ed_is (c := .ref (cl "BadHand")) 0 (fun _ h => h) (W.kit "BadHand" (by simp [excw]))) ea_nil)))))).l))
      (es_seq (es_if (et_or (et_test ((ed_op o_ne ((ed_cb n_sum (eb_cons ((ed_ints ((ed_var 1)).l)).l eb_nil))).l ((ed_int 1)).l)).l) (et_not (et_B ((ed_is (c := .ty "ValueError") 0 (fun _ h => h) W.val)).l))) (es_ret ((ed_str "other")).l) es_nil)
      (es_seq (es_asg (ed_lst (ea_cons (ed_str "BadBook") (ea_cons (ed_str "BadSign") (ea_cons (ed_str "BadCode") (ea_cons (ed_str "BadText") (ea_cons (ed_str "BadNumber") (ea_cons (ed_str "BadRuns") (ea_cons (ed_str "BadManner") (ea_cons (ed_str "BadHand") ea_nil))))))))))
      (es_ret ((ed_op o_ix ((ed_var 2)).l ((ed_index ((ed_var 1)).l ((ed_bl true)).l)).l)).l)))))

theorem sc__law_told : FnScope ["deed", "e"] ["deed"] (defScope s__law_told) := ⟨rfl, rfl, rfl, by decide +kernel, rfl, by decide +kernel, by decide +kernel⟩
theorem tld (T : Txt K mg cl Tabl.C A D) : Tld K mg cl excs "KeysError" (cl "KeysError") := ⟨⟨s__law_told, _, _, _, _, _, _, _, _, _, _, _, _, T.F__law_told, sc__law_told, T.g__law_told, T.b__law_told, rfl, rfl, rfl, rfl, rfl⟩, by decide, T.ge_KeysError, fun c hc => (T.word c hc).cat⟩

theorem sc_is_code : FnScope ["thing", "one"] ["thing"] (defScope s_is_code) := ⟨rfl, rfl, rfl, by decide +kernel, rfl, by decide +kernel, by decide +kernel⟩
theorem ok_is_code (T : Txt K mg cl Tabl.C A D) : FnOk P w K mg base (L2N.CX P w) 1 A.is_code D.is_code ["thing"] (spF K cl 1 dn_is_code) := by
  refine def_ok (k := 0) T.F_is_code sc_is_code fun cdv A' outer s H E hr => ⟨_, (PSs.nox (pss_one (ps_ret (pe_and (pe_callB (kx_isi K rfl) (by rfl) T.z_isinstance (by decide +kernel) (pa_cons (pv 0) (pa_cons (pe_bltn (v := .ty "str") (by rfl) T.z_str (by decide +kernel) rfl) pa_nil))) (pe_and (pe_chain op_le op_le pe_int (pe_callB (kx_len K rfl) (by rfl) T.z_len (by decide +kernel) (pa_cons (pv 0) pa_nil)) (kpe_c K T.c_MOST_CODE rfl rfl)) (pe_one (pe_callB (kx_all K rfl rfl) (by rfl) T.z_all (by decide +kernel) (pa_cons (pe_lc (own := [("one", 1)]) rfl sc_is_code.nd (pi_str (pv 0)) (blkOk_by (N := ["thing", "one"]) (sc := defScope s_is_code) (own := [("one", 1)]) (by decide +kernel)) (fun _ _ _ _ _ => (pg_name (i := 1) sc_is_code.nd rfl (.inl rfl))) (fun _ _ _ _ _ => pts_nil) (fun _ _ _ _ _ => (pe_cmpR (kx_in K rfl hr.units) (pv 1) pe_str (by with_unfolding_all rfl)))) pa_nil)))))))), ?_⟩
  exact (es_nox (es_ret ((ed_andV ((ed_isi kit_str ((ed_var 0)).l)).l (ed_andV ((ed_chain o_le o_le ((ed_int 1)).l ((ed_cb n_len (eb_cons ((ed_var 0)).l eb_nil))).l ((ed_k T.r_MOST_CODE)).l)).l (ed_cb n_all (eb_cons (((ef_lc (vs := [1]) (ei_str ((ed_var 0)).l) (ek_name 1) et_yes (ed_op o_in ((ed_var 1)).l ((ed_str ".-")).l) (by decide))).s).l eb_nil))))).l))

theorem sc_is_count : FnScope ["thing", "low", "high"] ["thing", "low", "high"] (defScope s_is_count) := ⟨rfl, rfl, rfl, by decide +kernel, rfl, by decide +kernel, by decide +kernel⟩
theorem ok_is_count (T : Txt K mg cl Tabl.C A D) : FnOk P w K mg base (L2N.CX P w) 1 A.is_count D.is_count ["thing", "low", "high"] (spF K cl 3 dn_is_count) := by
  refine def_ok (k := 0) T.F_is_count sc_is_count fun cdv A' outer s H E hr => ⟨_, (PSs.nox (pss_one (ps_ret (pe_and (pe_callB (kx_isi K rfl) (by rfl) T.z_isinstance (by decide +kernel) (pa_cons (pv 0) (pa_cons (pe_bltn (v := .ty "int") (by rfl) T.z_int (by decide +kernel) rfl) pa_nil))) (pe_and (pe_not (pe_callB (kx_isi K rfl) (by rfl) T.z_isinstance (by decide +kernel) (pa_cons (pv 0) (pa_cons (pe_bltn (v := .ty "bool") (by rfl) T.z_bool (by decide +kernel) rfl) pa_nil)))) (pe_one (pe_chain op_le op_le (pv 1) (pv 0) (pv 2)))))))), ?_⟩
  exact (es_nox (es_ret ((ed_andV ((ed_isi kit_int ((ed_var 0)).l)).l (ed_andV ((ed_notV ((ed_isi kit_bool ((ed_var 0)).l)).l)).l (ed_chain o_le o_le ((ed_var 1)).l ((ed_var 0)).l ((ed_var 2)).l)))).l))

theorem sc_units_of : FnScope ["code", "element"] ["code"] (defScope s_units_of) := ⟨rfl, rfl, rfl, by decide +kernel, rfl, by decide +kernel, by decide +kernel⟩
theorem ok_units_of (T : Txt K mg cl Tabl.C A D) : FnOk P w K mg base (L2N.CX P w) 1 A.units_of D.units_of ["code"] (spF K cl 1 dn_units_of) := by
  refine def_ok (k := 0) T.F_units_of sc_units_of fun cdv A' outer s H E hr => ⟨_, (PSs.nox (pss_one (ps_ret (pe_op op_sub (pe_op op_addD (pe_callB (kx_sum K rfl rfl) (by rfl) T.z_sum (by decide +kernel) (pa_cons (pe_lc (own := [("element", 1)]) rfl sc_units_of.nd (pi_str (pv 0)) (blkOk_by (N := ["code", "element"]) (sc := defScope s_units_of) (own := [("element", 1)]) (by decide +kernel)) (fun _ _ _ _ _ => (pg_name (i := 1) sc_units_of.nd rfl (.inl rfl))) (fun _ _ _ _ _ => pts_nil) (fun _ _ _ _ _ => (pe_ifExp (pt_cmpR (kx_eq K rfl hr.units) (pv 1) pe_str (nomark _)) pe_int pe_int))) pa_nil)) (pe_callB (kx_len K rfl) (by rfl) T.z_len (by decide +kernel) (pa_cons (pv 0) pa_nil))) pe_int)))), ?_⟩
  exact (es_nox (es_ret ((ed_op o_sub ((ed_op o_add ((ed_cb n_sum (eb_cons (((ef_lc (vs := [1]) (ei_str ((ed_var 0)).l) (ek_name 1) et_yes (ed_if (et_test ((ed_op o_eq ((ed_var 1)).l ((ed_str ".")).l)).l) (ed_int 1) (ed_int 3)) (by decide))).s).l eb_nil))).l ((ed_cb n_len (eb_cons ((ed_var 0)).l eb_nil))).l)).l ((ed_int 1)).l)).l))

theorem sc__law_cell : FnScope ["script", "k"] ["script", "k"] (defScope s__law_cell) := ⟨rfl, rfl, rfl, by decide +kernel, rfl, by decide +kernel, by decide +kernel⟩
theorem ok__law_cell (T : Txt K mg cl Tabl.C A D) : FnOk P w K mg base (L2N.CX P w) 1 A._law_cell D._law_cell ["script", "k"] (Dn.spCell K) := by
  refine okN (k := 0) T.F__law_cell sc__law_cell (fun vs H Q E ⟨_, _, _, h, _⟩ => by rw [h]; rfl) (fun cdv A' outer s H vs Q E hr h => ⟨tCellB K, ?_, cell_reads h⟩)
  exact pss_cons (ps_if (pt_cmpR (op_eqA hr.units) (pv 0) (pe_lst pa_nil) (nomark _)) (pss_one (ps_ret (pe_op op_mulD (pv 1) pe_int))) pss_nil)
    (pss_one (ps_ret (pe_op op_addD (pe_ix ix_seq (pv 0) (pe_op op_mod (pv 1) (pe_callB c_len (by rfl) T.z_len (by decide +kernel) (pa_cons (pv 0) pa_nil))) (fun _ _ => rfl)) (pe_op op_mulD (pe_op op_fdivW (pv 1) (pe_callB c_len (by rfl) T.z_len (by decide +kernel) (pa_cons (pv 0) pa_nil))) pe_int))))

theorem sc__law_drawn : FnScope ["cell", "k", "more"] ["cell", "k"] (defScope s__law_drawn) := ⟨rfl, rfl, rfl, by decide +kernel, rfl, by decide +kernel, by decide +kernel⟩
theorem ok__law_drawn (T : Txt K mg cl Tabl.C A D) : FnOk P w K mg base (L2N.CX P w) 1 A._law_drawn D._law_drawn ["cell", "k"] (spF K cl 2 dn__law_drawn) := by
  refine def_ok (k := 0) T.F__law_drawn sc__law_drawn fun cdv A' outer s H E hr => ⟨_, (PSs.nox (pss_cons (ps_set (i := 2) sc__law_drawn.nd rfl (.inl rfl) (pe_op op_mod (pe_op op_addD (pe_op op_mulD (pv 0) pe_int) (pe_op op_mulD (pe_op op_addD (pv 1) pe_int) pe_int)) pe_int))
      (pss_cons (ps_set (i := 2) sc__law_drawn.nd rfl (.inl rfl) (pe_op op_mod (pe_op op_mulD (pv 2) (pv 2)) pe_int))
      (pss_cons (ps_set (i := 2) sc__law_drawn.nd rfl (.inl rfl) (pe_op op_mulD (pe_op op_mulD (pe_op op_addD (pe_op op_mod (pv 2) pe_int) pe_int) (pe_op op_addD (pe_op op_fdivW (pv 2) pe_int) pe_int)) (pv 2)))
      (pss_one (ps_ret (pe_op op_mod (pv 2) pe_int))))))), ?_⟩
  exact (es_nox (es_seq (es_asg (ed_op o_mod ((ed_op o_add ((ed_op o_mul ((ed_var 0)).l ((ed_int 6364136223846793005)).l)).l ((ed_op o_mul ((ed_op o_add ((ed_var 1)).l ((ed_int 1)).l)).l ((ed_int 1442695040888963407)).l)).l)).l ((ed_int 340282366920938463463374607431768211507)).l))
      (es_seq (es_asg (ed_op o_mod ((ed_op o_mul ((ed_var 2)).l ((ed_var 2)).l)).l ((ed_int 340282366920938463463374607431768211297)).l))
      (es_seq (es_asg (ed_op o_mul ((ed_op o_mul ((ed_op o_add ((ed_op o_mod ((ed_var 2)).l ((ed_int 18446744073709551557)).l)).l ((ed_int 1)).l)).l ((ed_op o_add ((ed_op o_fdiv ((ed_var 2)).l ((ed_int 18446744073709551557)).l)).l ((ed_int 1)).l)).l)).l ((ed_var 2)).l))
      (es_ret ((ed_op o_mod ((ed_var 2)).l ((ed_int 340282366920938463463374607431768211507)).l)).l)))))

theorem sc__law_code : FnScope ["number", "found"] ["number"] (defScope s__law_code) := ⟨rfl, rfl, rfl, by decide +kernel, rfl, by decide +kernel, by decide +kernel⟩
theorem ok__law_code (T : Txt K mg cl Tabl.C A D) : FnOk P w K mg base (L2N.CX P w) 1 A._law_code D._law_code ["number"] (spF K cl 1 dn__law_code) := by
  refine def_ok (k := 0) T.F__law_code sc__law_code fun cdv A' outer s H E hr => ⟨_, (PSs.nox (pss_cons (ps_set (i := 1) sc__law_code.nd rfl (.inl rfl) pe_str)
      (pss_cons (ps_while PassesOwn.never (pt_cmpR op_gt (pv 0) pe_int (nomark _)) (pss_cons (ps_set (i := 1) sc__law_code.nd rfl (.inl rfl) (pe_op op_addD (pe_ix (kx_ix K rfl hr.units) pe_str (pe_op op_mod (pv 0) pe_int) (fun _ _ => rfl)) (pv 1)))
      (pss_one (ps_set (i := 0) sc__law_code.nd rfl (.inl rfl) (pe_op op_fdivW (pv 0) pe_int)))))
      (pss_one (ps_ret (pv 1)))))), ?_⟩
  exact (es_nox (es_seq (es_asg (ed_str ""))
      (es_seq (es_while 130 (et_test ((ed_op o_gt ((ed_var 0)).l ((ed_int 1)).l)).l) (es_seq (es_asg (ed_op o_add ((ed_op o_ix ((ed_str ".-")).l ((ed_op o_mod ((ed_var 0)).l ((ed_int 2)).l)).l)).l ((ed_var 1)).l))
      (es_asg (ed_op o_fdiv ((ed_var 0)).l ((ed_int 2)).l))))
      (es_ret ((ed_var 1)).l))))

theorem sc__law_signs : FnScope [] [] (defScope s__law_signs) := ⟨rfl, rfl, rfl, by decide +kernel, rfl, by decide +kernel, by decide +kernel⟩
theorem ok__law_signs (T : Txt K mg cl Tabl.C A D) : FnOk P w K mg base (L2N.CX P w) 1 A._law_signs D._law_signs [] (spF K cl 0 dn__law_signs) := by
  refine def_ok (k := 0) T.F__law_signs sc__law_signs fun cdv A' outer s H E hr => ⟨_, (PSs.nox (pss_one (ps_ret pe_str))), ?_⟩
  exact (es_nox (es_ret ((ed_str "abcdefghijklmnopqrstuvwxyz0123456789.,?/=")).l))

theorem sc__law_units : FnScope ["code", "element"] ["code"] (defScope s__law_units) := ⟨rfl, rfl, rfl, by decide +kernel, rfl, by decide +kernel, by decide +kernel⟩
theorem ok__law_units (T : Txt K mg cl Tabl.C A D) : FnOk P w K mg base (L2N.CX P w) 1 A._law_units D._law_units ["code"] (spF K cl 1 dn__law_units) := by
  refine def_ok (k := 0) T.F__law_units sc__law_units fun cdv A' outer s H E hr => ⟨_, (PSs.nox (pss_one (ps_ret (pe_op op_addD (pe_callB (kx_sum K rfl rfl) (by rfl) T.z_sum (by decide +kernel) (pa_cons (pe_lc (own := [("element", 1)]) rfl sc__law_units.nd (pi_str (pv 0)) (blkOk_by (N := ["code", "element"]) (sc := defScope s__law_units) (own := [("element", 1)]) (by decide +kernel)) (fun _ _ _ _ _ => (pg_name (i := 1) sc__law_units.nd rfl (.inl rfl))) (fun _ _ _ _ _ => pts_nil) (fun _ _ _ _ _ => (pe_ifExp (pt_cmpR (kx_eq K rfl hr.units) (pv 1) pe_str (nomark _)) pe_int pe_int))) pa_nil)) pe_int)))), ?_⟩
  exact (es_nox (es_ret ((ed_op o_add ((ed_cb n_sum (eb_cons (((ef_lc (vs := [1]) (ei_str ((ed_var 0)).l) (ek_name 1) et_yes (ed_if (et_test ((ed_op o_eq ((ed_var 1)).l ((ed_str ".")).l)).l) (ed_int 2) (ed_int 4)) (by decide))).s).l eb_nil))).l ((ed_int 2)).l)).l))

theorem sc_is_book : FnScope ["thing", "codes", "sign", "code"] ["thing"] (defScope s_is_book) := ⟨rfl, rfl, rfl, by decide +kernel, rfl, by decide +kernel, by decide +kernel⟩
theorem ok_is_book (T : Txt K mg cl Tabl.C A D) : FnOk P w K mg base (L2N.CX P w) 2 A.is_book D.is_book ["thing"] (spF K cl 1 dn_is_book) := by
  refine def_ok (k := 1) T.F_is_book sc_is_book fun cdv A' outer s H E hr => ⟨_, (PSs.nox (pss_cons (ps_if (PW.pt (pw_or (pt_not (pt_val (pe_callB (kx_isi K rfl) (by rfl) T.z_isinstance (by decide +kernel) (pa_cons (pv 0) (pa_cons (pe_bltn (v := .ty "dict") (by rfl) T.z_dict (by decide +kernel) rfl) pa_nil))))) (pw_or1 (pt_cmpR (op_eqE hr.units) (pv 0) pe_dnewK (nomark _))))) (pss_one (ps_ret pe_bl)) pss_nil)
      (pss_cons (ps_if (pt_not (pt_val (pe_callB (kx_all K rfl rfl) (by rfl) T.z_all (by decide +kernel) (pa_cons (pe_lk (pe_lc (own := [("sign", 2)]) rfl sc_is_book.nd (pi_keys (pv 0)) (blkOk_by (N := ["thing", "codes", "sign", "code"]) (sc := defScope s_is_book) (own := [("sign", 2)]) (by decide +kernel)) (fun _ _ _ _ _ => (pg_name (i := 2) sc_is_book.nd rfl (.inl rfl))) (fun _ _ _ _ _ => pts_nil) (fun _ _ _ _ _ => (pe_and (pe_callB (kx_isi K rfl) (by rfl) T.z_isinstance (by decide +kernel) (pa_cons (pv 2) (pa_cons (pe_bltn (v := .ty "str") (by rfl) T.z_str (by decide +kernel) rfl) pa_nil))) (pe_and (pe_cmpR (kx_eq K rfl hr.units) (pe_callB (kx_len K rfl) (by rfl) T.z_len (by decide +kernel) (pa_cons (pv 2) pa_nil)) pe_int (nomark _)) (pe_one (pe_cmpR (kx_in K rfl hr.units) (pv 2) (kpe_c K T.c_SIGNS rfl rfl) (by with_unfolding_all rfl)))))))) pa_nil)))) (pss_one (ps_ret pe_bl)) pss_nil)
      (pss_cons (ps_lk (ps_setLc (i := 1) (own := [("sign", 2)]) rfl sc_is_book.nd rfl rfl (sw_true rfl rfl rfl (by decide +kernel)) (pi_keys (pv 0)) (blkOk_by (N := ["thing", "codes", "sign", "code"]) (sc := defScope s_is_book) (own := [("sign", 2)]) (by decide +kernel)) (fun _ _ _ _ _ => (pg_name (i := 2) sc_is_book.nd rfl (.inl rfl))) (fun _ _ _ _ _ => pts_nil) (fun _ _ _ _ _ => (pe_ix (kx_ix K rfl hr.units) (pv 0) (pv 2) (fun _ _ => rfl)))))
      (pss_one (ps_ret (pe_and (pe_callB (kx_all K rfl rfl) (by rfl) T.z_all (by decide +kernel) (pa_cons (pe_lc (own := [("code", 3)]) rfl sc_is_book.nd (kpi_list K rfl (pv 1)) (blkOk_by (N := ["thing", "codes", "sign", "code"]) (sc := defScope s_is_book) (own := [("code", 3)]) (by decide +kernel)) (fun _ _ _ _ _ => (pg_name (i := 3) sc_is_book.nd rfl (.inl rfl))) (fun _ _ _ _ _ => pts_nil) (fun _ _ _ _ _ => (pe_call (ok_is_code (K := K) T) (hr.mono (by decide)) (by rfl) T.g_is_code T.F_is_code.kp T.b_is_code .nil passN (pa_cons (pv 3) pa_nil)))) pa_nil)) (pe_one (pe_cmpR (kx_eq K rfl hr.units) (pe_lenU (K := K) rfl rfl (by rfl) T.z_len (by rfl) T.z_set (pv 1)) (pe_callB (kx_len K rfl) (by rfl) T.z_len (by decide +kernel) (pa_cons (pv 1) pa_nil)) (nomark _)))))))))), ?_⟩
  exact (es_nox (es_seq (es_if (et_or (et_not (et_B ((ed_isi kit_dict ((ed_var 0)).l)).l)) (et_test ((ed_eqE ((ed_var 0)).l)).l)) (es_ret ((ed_bl false)).l) es_nil)
      (es_seq (es_if (et_not (et_B ((ed_cb n_all (eb_cons ((ef_lk 0 (ef_lc (vs := [2]) (ei_keys 0) (ek_name 2) et_yes (ed_andV ((ed_isi kit_str ((ed_var 2)).l)).l (ed_andV ((ed_op o_eq ((ed_cb n_len (eb_cons ((ed_var 2)).l eb_nil))).l ((ed_int 1)).l)).l (ed_op o_in ((ed_var 2)).l ((ed_k T.r_SIGNS)).l))) (by decide))).s).l eb_nil))).l)) (es_ret ((ed_bl false)).l) es_nil)
      (es_seq (es_lk 0 (es_asg ((ef_lc (vs := [2]) (ei_keys 0) (ek_name 2) et_yes (ed_op o_ix ((ed_var 0)).l ((ed_var 2)).l) (by decide))).s))
      (es_ret ((ed_andV ((ed_cb n_all (eb_cons (((ef_lc (vs := [3]) (ei_list (ed_var 1)) (ek_name 3) et_yes (ed_call (hn_cons hn_nil) (ea_cons (ed_var 3) ea_nil)) (by decide))).s).l eb_nil))).l (ed_op o_eq ((ed_lenU ((ed_var 1)).l)).l ((ed_cb n_len (eb_cons ((ed_var 1)).l eb_nil))).l))).l)))))

theorem sc_need_counts : FnScope ["counts", "sign"] ["counts"] (defScope s_need_counts) := ⟨rfl, rfl, rfl, by decide +kernel, rfl, by decide +kernel, by decide +kernel⟩
theorem ok_need_counts (T : Txt K mg cl Tabl.C A D) : FnOk P w K mg base (L2N.CX P w) 2 A.need_counts D.need_counts ["counts"] (spF K cl 1 dn_need_counts) := by
  refine def_ok (k := 1) T.F_need_counts sc_need_counts fun cdv A' outer s H E hr => ⟨_, (pss_cons (ps_if (PW.pt (pw_or (pt_not (pt_val (pe_callB (kx_isi K rfl) (by rfl) T.z_isinstance (by decide +kernel) (pa_cons (pv 0) (pa_cons (pe_bltn (v := .ty "dict") (by rfl) T.z_dict (by decide +kernel) rfl) pa_nil))))) (pw_or1 (pt_cmpR (op_eqE hr.units) (pv 0) pe_dnewK (nomark _))))) (pss_one (L2N.ps_raise rfl (L2N.takes_of rfl rfl rfl rfl) (L2N.pmk_own PySem.F.excBase_ValueError T.x_BadSign T.ge_BadSign T.k_BadSign (raises_own T.eb_BadSign T.t_BadSign) rfl))) pss_nil)
      (pss_cons (ps_if (pt_not (pt_val (pe_callB (kx_all K rfl rfl) (by rfl) T.z_all (by decide +kernel) (pa_cons (pe_lk (pe_lc (own := [("sign", 1)]) rfl sc_need_counts.nd (pi_keys (pv 0)) (blkOk_by (N := ["counts", "sign"]) (sc := defScope s_need_counts) (own := [("sign", 1)]) (by decide +kernel)) (fun _ _ _ _ _ => (pg_name (i := 1) sc_need_counts.nd rfl (.inl rfl))) (fun _ _ _ _ _ => pts_nil) (fun _ _ _ _ _ => (pe_and (pe_callB (kx_isi K rfl) (by rfl) T.z_isinstance (by decide +kernel) (pa_cons (pv 1) (pa_cons (pe_bltn (v := .ty "str") (by rfl) T.z_str (by decide +kernel) rfl) pa_nil))) (pe_and (pe_cmpR (kx_eq K rfl hr.units) (pe_callB (kx_len K rfl) (by rfl) T.z_len (by decide +kernel) (pa_cons (pv 1) pa_nil)) pe_int (nomark _)) (pe_one (pe_cmpR (kx_in K rfl hr.units) (pv 1) (kpe_c K T.c_SIGNS rfl rfl) (by with_unfolding_all rfl)))))))) pa_nil)))) (pss_one (L2N.ps_raise rfl (L2N.takes_of rfl rfl rfl rfl) (L2N.pmk_own PySem.F.excBase_ValueError T.x_BadSign T.ge_BadSign T.k_BadSign (raises_own T.eb_BadSign T.t_BadSign) rfl))) pss_nil)
      (pss_one (ps_if (pt_not (pt_val (pe_callB (kx_all K rfl rfl) (by rfl) T.z_all (by decide +kernel) (pa_cons (pe_lk (pe_lc (own := [("sign", 1)]) rfl sc_need_counts.nd (pi_keys (pv 0)) (blkOk_by (N := ["counts", "sign"]) (sc := defScope s_need_counts) (own := [("sign", 1)]) (by decide +kernel)) (fun _ _ _ _ _ => (pg_name (i := 1) sc_need_counts.nd rfl (.inl rfl))) (fun _ _ _ _ _ => pts_nil) (fun _ _ _ _ _ => (pe_call (ok_is_count (K := K) T) (hr.mono (by decide)) (by rfl) T.g_is_count T.F_is_count.kp T.b_is_count .nil passN (pa_cons (pe_ix (kx_ix K rfl hr.units) (pv 0) (pv 1) (fun _ _ => rfl)) (pa_cons pe_int (pa_cons (kpe_c K T.c_MOST_COUNT rfl rfl) pa_nil))))))) pa_nil)))) (pss_one (L2N.ps_raise rfl (L2N.takes_of rfl rfl rfl rfl) (L2N.pmk_own PySem.F.excBase_ValueError T.x_BadNumber T.ge_BadNumber T.k_BadNumber (raises_own T.eb_BadNumber T.t_BadNumber) rfl))) pss_nil)))), ?_⟩
  exact (es_seq (es_if (et_or (et_not (et_B ((ed_isi kit_dict ((ed_var 0)).l)).l)) (et_test ((ed_eqE ((ed_var 0)).l)).l)) (es_raise "BadSign") es_nil)
      (es_seq (es_if (et_not (et_B ((ed_cb n_all (eb_cons ((ef_lk 0 (ef_lc (vs := [1]) (ei_keys 0) (ek_name 1) et_yes (ed_andV ((ed_isi kit_str ((ed_var 1)).l)).l (ed_andV ((ed_op o_eq ((ed_cb n_len (eb_cons ((ed_var 1)).l eb_nil))).l ((ed_int 1)).l)).l (ed_op o_in ((ed_var 1)).l ((ed_k T.r_SIGNS)).l))) (by decide))).s).l eb_nil))).l)) (es_raise "BadSign") es_nil)
      (es_if (et_not (et_B ((ed_cb n_all (eb_cons ((ef_lk 0 (ef_lc (vs := [1]) (ei_keys 0) (ek_name 1) et_yes (ed_call (hn_cons (hn_cons (hn_cons hn_nil))) (ea_cons (ed_op o_ix ((ed_var 0)).l ((ed_var 1)).l) (ea_cons (ed_int 0) (ea_cons (ed_k T.r_MOST_COUNT) ea_nil)))) (by decide))).s).l eb_nil))).l)) (es_raise "BadNumber") es_nil)))

theorem sc_codes_in_order : FnScope ["many", "found", "rows", "turn", "row", "own", "size"] ["many"] (defScope s_codes_in_order) := ⟨rfl, rfl, rfl, by decide +kernel, rfl, by decide +kernel, by decide +kernel⟩
theorem ok_codes_in_order (T : Txt K mg cl Tabl.C A D) : FnOk P w K mg base (L2N.CX P w) 2 A.codes_in_order D.codes_in_order ["many"] (spF K cl 1 dn_codes_in_order) := by
  refine def_ok (k := 1) T.F_codes_in_order sc_codes_in_order fun cdv A' outer s H E hr => ⟨_, (PSs.nox (pss_cons (ps_par (i := 1) (j := 2) rfl sc_codes_in_order.nd rfl rfl (by decide) rfl rfl (pa_cons (pe_lst pa_nil) (pa_cons (pe_lst (pa_cons pe_str pa_nil)) pa_nil)) (by rfl))
      (pss_cons (ps_for PassesOwn.never rfl (pi_range1 (by rfl) T.z_range (pa_cons (kpe_c K T.c_MOST_CODE rfl rfl) pa_nil)) (pg_name (i := 3) sc_codes_in_order.nd rfl (.inl rfl)) (pss_cons (ps_set (i := 2) sc_codes_in_order.nd rfl (.inl rfl) (pe_op op_addD (pe_lc (own := [("row", 4)]) rfl sc_codes_in_order.nd (kpi_list K rfl (pv 2)) (blkOk_by (N := ["many", "found", "rows", "turn", "row", "own", "size"]) (sc := defScope s_codes_in_order) (own := [("row", 4)]) (by decide +kernel)) (fun _ _ _ _ _ => (pg_name (i := 4) sc_codes_in_order.nd rfl (.inl rfl))) (fun _ _ _ _ _ => pts_nil) (fun _ _ _ _ _ => (pe_op op_addD (pv 4) pe_str))) (pe_lc (own := [("row", 4)]) rfl sc_codes_in_order.nd (kpi_list K rfl (pv 2)) (blkOk_by (N := ["many", "found", "rows", "turn", "row", "own", "size"]) (sc := defScope s_codes_in_order) (own := [("row", 4)]) (by decide +kernel)) (fun _ _ _ _ _ => (pg_name (i := 4) sc_codes_in_order.nd rfl (.inl rfl))) (fun _ _ _ _ _ => pts_nil) (fun _ _ _ _ _ => (pe_op op_addD (pv 4) pe_str)))))
      (pss_one (ps_expr (pe_bm PySem.F.plainAttrs_list PySem.F.slot_list_extend PySem.F.type_list_extend mt_extend (pv 1) (pa_cons (pe_lc (own := [("row", 4)]) rfl sc_codes_in_order.nd (kpi_list K rfl (pv 2)) (blkOk_by (N := ["many", "found", "rows", "turn", "row", "own", "size"]) (sc := defScope s_codes_in_order) (own := [("row", 4)]) (by decide +kernel)) (fun _ _ _ _ _ => (pg_name (i := 4) sc_codes_in_order.nd rfl (.inl rfl))) (fun _ _ _ _ _ => pts_nil) (fun _ _ _ _ _ => (pe_tup (pa_cons (pe_call (ok_units_of (K := K) T) (hr.mono (by decide)) (by rfl) T.g_units_of T.F_units_of.kp T.b_units_of .nil passN (pa_cons (pv 4) pa_nil)) (pa_cons (pe_callB (kx_len K rfl) (by rfl) T.z_len (by decide +kernel) (pa_cons (pv 4) pa_nil)) (pa_cons (pv 4) pa_nil)))))) pa_nil))))))
      (pss_one (ps_ret (pe_slice (kx_sl K rfl) (pe_lc (own := [("own", 5), ("size", 6), ("row", 4)]) rfl sc_codes_in_order.nd (kpi_list K rfl (pe_callB (kx_sortB K rfl hr.units) (by rfl) T.z_sorted (by decide +kernel) (pa_cons (pv 1) pa_nil))) (blkOk_by (N := ["many", "found", "rows", "turn", "row", "own", "size"]) (sc := defScope s_codes_in_order) (own := [("own", 5), ("size", 6), ("row", 4)]) (by decide +kernel)) (fun _ _ _ _ _ => (kpg_tup (n := 3) K rfl rfl (pgs_cons (pg_name (i := 5) sc_codes_in_order.nd rfl (.inl rfl)) (pgs_cons (pg_name (i := 6) sc_codes_in_order.nd rfl (.inl rfl)) (pgs_cons (pg_name (i := 4) sc_codes_in_order.nd rfl (.inl rfl)) pgs_nil))))) (fun _ _ _ _ _ => pts_nil) (fun _ _ _ _ _ => (pv 4))) po_none (po_some (pv 0)))))))), ?_⟩
  exact (es_nox (es_seq (es_par2 (ep_F (ef_lst ea_nil) (ep_S (ed_lst (ea_cons (ed_str "") ea_nil)) ep_nil)))
      (es_seq (es_for (ei_rng1 (eb_cons ((ed_k T.r_MOST_CODE)).l eb_nil)) (ek_name 3) (es_seq (es_asg (ed_op o_add (((ef_lc (vs := [4]) (ei_list (ed_var 2)) (ek_name 4) et_yes (ed_op o_add ((ed_var 4)).l ((ed_str ".")).l) (by decide))).s).l (((ef_lc (vs := [4]) (ei_list (ed_var 2)) (ek_name 4) et_yes (ed_op o_add ((ed_var 4)).l ((ed_str "-")).l) (by decide))).s).l))
      (es_ext ((ef_lc (vs := [4]) (ei_list (ed_var 2)) (ek_name 4) et_yes (ed_tup (ea_cons (ed_call (hn_cons hn_nil) (ea_cons (ed_var 4) ea_nil)) (ea_cons (ed_cb n_len (eb_cons ((ed_var 4)).l eb_nil)) (ea_cons (ed_var 4) ea_nil)))) (by decide))).s)))
      (es_ret ((ed_sl (((ef_lc (vs := [5, 6, 4]) (ei_list ((ef_cb f_sortA (eb_cons (el_var 1) eb_nil))).s) (ek_tup (ek_cons (ek_name 5) (ek_cons (ek_name 6) (ek_cons (ek_name 4) ek_nil)))) et_yes (ed_var 4) (by decide))).s).l eo_none (eo_some ((ed_var 0)).l))).l))))

theorem sc_need_book : FnScope ["book"] ["book"] (defScope s_need_book) := ⟨rfl, rfl, rfl, by decide +kernel, rfl, by decide +kernel, by decide +kernel⟩
theorem ok_need_book (T : Txt K mg cl Tabl.C A D) : FnOk P w K mg base (L2N.CX P w) 3 A.need_book D.need_book ["book"] (spF K cl 1 dn_need_book) := by
  refine def_ok (k := 2) T.F_need_book sc_need_book fun cdv A' outer s H E hr => ⟨_, (pss_one (ps_if (pt_not (pt_val (pe_call (ok_is_book (K := K) T) (hr.mono (by decide)) (by rfl) T.g_is_book T.F_is_book.kp T.b_is_book .nil (L2N.passes_call (L2N.takes_of rfl rfl rfl rfl) fun _ _ _ _ h => h) (pa_cons (pv 0) pa_nil)))) (pss_one (L2N.ps_raise rfl (L2N.takes_of rfl rfl rfl rfl) (L2N.pmk_own PySem.F.excBase_ValueError T.x_BadBook T.ge_BadBook T.k_BadBook (raises_own T.eb_BadBook T.t_BadBook) rfl))) pss_nil)), ?_⟩
  exact (es_if (et_not (et_B ((ed_call (hn_cons hn_nil) (ea_cons (ed_var 0) ea_nil))).l)) (es_raise "BadBook") es_nil)

theorem sc_total : FnScope ["book", "counts", "sign"] ["book", "counts"] (defScope s_total) := ⟨rfl, rfl, rfl, by decide +kernel, rfl, by decide +kernel, by decide +kernel⟩
theorem ok_total (T : Txt K mg cl Tabl.C A D) : FnOk P w K mg base (L2N.CX P w) 4 A.total D.total ["book", "counts"] (spF K cl 2 dn_total) := by
  refine def_ok (k := 3) T.F_total sc_total fun cdv A' outer s H E hr => ⟨_, (pss_cons (ps_expr (pe_call (ok_need_book (K := K) T) (hr.mono (by decide)) (by rfl) T.g_need_book T.F_need_book.kp T.b_need_book .nil (L2N.passes_call (L2N.takes_of rfl rfl rfl rfl) fun _ _ _ _ h => h) (pa_cons (pv 0) pa_nil)))
      (pss_cons (ps_expr (pe_call (ok_need_counts (K := K) T) (hr.mono (by decide)) (by rfl) T.g_need_counts T.F_need_counts.kp T.b_need_counts .nil (L2N.passes_call (L2N.takes_of rfl rfl rfl rfl) fun _ _ _ _ h => h) (pa_cons (pv 1) pa_nil)))
      (pss_cons (ps_if (pt_not (pt_val (pe_callB (kx_all K rfl rfl) (by rfl) T.z_all (by decide +kernel) (pa_cons (pe_lk (pe_lc (own := [("sign", 2)]) rfl sc_total.nd (pi_keys (pv 1)) (blkOk_by (N := ["book", "counts", "sign"]) (sc := defScope s_total) (own := [("sign", 2)]) (by decide +kernel)) (fun _ _ _ _ _ => (pg_name (i := 2) sc_total.nd rfl (.inl rfl))) (fun _ _ _ _ _ => pts_nil) (fun _ _ _ _ _ => (pe_cmpR (kx_in K rfl hr.units) (pv 2) (pv 0) (by with_unfolding_all rfl))))) pa_nil)))) (pss_one (L2N.ps_raise rfl (L2N.takes_of rfl rfl rfl rfl) (L2N.pmk_own PySem.F.excBase_ValueError T.x_BadSign T.ge_BadSign T.k_BadSign (raises_own T.eb_BadSign T.t_BadSign) rfl))) pss_nil)
      (pss_one (ps_ret (pe_callB (kx_sum K rfl rfl) (by rfl) T.z_sum (by decide +kernel) (pa_cons (pe_lk (pe_lc (own := [("sign", 2)]) rfl sc_total.nd (pi_keys (pv 1)) (blkOk_by (N := ["book", "counts", "sign"]) (sc := defScope s_total) (own := [("sign", 2)]) (by decide +kernel)) (fun _ _ _ _ _ => (pg_name (i := 2) sc_total.nd rfl (.inl rfl))) (fun _ _ _ _ _ => pts_nil) (fun _ _ _ _ _ => (pe_op op_mulD (pe_ix (kx_ix K rfl hr.units) (pv 1) (pv 2) (fun _ _ => rfl)) (pe_op op_addD (pe_call (ok_units_of (K := K) T) (hr.mono (by decide)) (by rfl) T.g_units_of T.F_units_of.kp T.b_units_of .nil passN (pa_cons (pe_ix (kx_ix K rfl hr.units) (pv 0) (pv 2) (fun _ _ => rfl)) pa_nil)) pe_int))))) pa_nil))))))), ?_⟩
  exact (es_seq (es_drop ((ed_call (hn_cons hn_nil) (ea_cons (ed_var 0) ea_nil))).l)
      (es_seq (es_drop ((ed_call (hn_cons hn_nil) (ea_cons (ed_var 1) ea_nil))).l)
      (es_seq (es_if (et_not (et_B ((ed_cb n_all (eb_cons ((ef_lk 1 (ef_lc (vs := [2]) (ei_keys 1) (ek_name 2) et_yes (ed_op o_in ((ed_var 2)).l ((ed_var 0)).l) (by decide))).s).l eb_nil))).l)) (es_raise "BadSign") es_nil)
      (es_ret ((ed_cb n_sum (eb_cons ((ef_lk 1 (ef_lc (vs := [2]) (ei_keys 1) (ek_name 2) et_yes (ed_op o_mul ((ed_op o_ix ((ed_var 1)).l ((ed_var 2)).l)).l ((ed_op o_add ((ed_call (hn_cons hn_nil) (ea_cons (ed_op o_ix ((ed_var 0)).l ((ed_var 2)).l) ea_nil))).l ((ed_int 3)).l)).l) (by decide))).s).l eb_nil))).l))))

theorem sc_book_for : FnScope ["counts", "signs", "sign"] ["counts"] (defScope s_book_for) := ⟨rfl, rfl, rfl, by decide +kernel, rfl, by decide +kernel, by decide +kernel⟩
theorem ok_book_for (T : Txt K mg cl Tabl.C A D) (B : Tbq base mg A) : FnOk P w K mg base (L2N.CX P w) 5 A.book_for D.book_for ["counts"] (spF K cl 1 dn_book_for) := by
  refine def_okC (k := 4) T.F_book_for sc_book_for fun A2 outer s H E hr => ⟨_, (pss_cons (ps_expr (pe_call (ok_need_counts (K := K) T) (hr.mono (by decide)) (by rfl) T.g_need_counts T.F_need_counts.kp T.b_need_counts .nil (L2N.passes_call (L2N.takes_of rfl rfl rfl rfl) fun _ _ _ _ h => h) (pa_cons (pv 0) pa_nil)))
      (pss_cons (ps_set (i := 1) sc_book_for.nd rfl (.inl rfl) (pe_sortK (k := 1) (j := 2) (p := "sign") K rfl rfl (pa_cons (pv 0) pa_nil) (by rfl) T.z_sorted (by decide +kernel) B.t_book_for rfl B.m_book_for B.u_book_for (hr.mono (by decide)) (lamS1_by (sc := defScope s_book_for) (by decide +kernel)) rfl (fun _ _ _ _ _ _ => rfl) rfl sc_book_for.nd (fun _ _ _ _ _ _ _ hr2 => (pe_tup (pa_cons (pe_op op_sub pe_int (pe_ix (kx_ix K rfl hr2.units) (pv 0) (pv 2) (fun _ _ => rfl))) (pa_cons (pv 2) pa_nil))))))
      (pss_one (ps_ret (pe_callTy (kx_dict K rfl rfl) (by rfl) T.z_dict (by decide +kernel) (pa_cons (pe_listZip K rfl rfl (pa_cons (pv 1) (pa_cons (pe_call (ok_codes_in_order (K := K) T) (hr.mono (by decide)) (by rfl) T.g_codes_in_order T.F_codes_in_order.kp T.b_codes_in_order .nil (L2N.passes_call (L2N.takes_of rfl rfl rfl rfl) fun _ _ _ _ h => h) (pa_cons (pe_callB (kx_len K rfl) (by rfl) T.z_len (by decide +kernel) (pa_cons (pv 1) pa_nil)) pa_nil)) pa_nil)) (by rfl) T.z_list (by rfl) T.z_zip) pa_nil)))))), ?_⟩
  exact (es_seq (es_drop ((ed_call (hn_cons hn_nil) (ea_cons (ed_var 0) ea_nil))).l)
      (es_seq (es_asg ((ef_sortK (eb_cons ((ed_var 0)).l eb_nil) (ed_tup (ea_cons (ed_op o_sub ((ed_int 0)).l ((ed_op o_ix ((ed_var 0)).l ((ed_var 2)).l)).l) (ea_cons (ed_var 2) ea_nil))))).s)
      (es_ret ((ed_cb n_dict (eb_cons (((ef_listZip (eb_cons ((ed_var 1)).l (eb_cons ((ed_call (hn_cons hn_nil) (ea_cons (ed_cb n_len (eb_cons ((ed_var 1)).l eb_nil)) ea_nil))).l eb_nil)))).s).l eb_nil))).l)))

theorem sc__law_totals_refused : FnScope ["some"] [] (defScope s__law_totals_refused) := ⟨rfl, rfl, rfl, by decide +kernel, rfl, by decide +kernel, by decide +kernel⟩
theorem ok__law_totals_refused (T : Txt K mg cl Tabl.C A D) (B : Tbq base mg A) : FnOk P w K mg base (L2N.CX P w) 7 A._law_totals_refused D._law_totals_refused [] (spF K cl 0 dn__law_totals_refused) := by
  refine def_okC (k := 6) T.F__law_totals_refused sc__law_totals_refused fun A2 outer s H E hr => ⟨_, (PSs.nox (pss_cons (ps_set (i := 0) sc__law_totals_refused.nd rfl (.inl rfl) (pe_lst (pa_cons (pe_told (k := 4) (tld T) (wrd T) (by rfl) B.t__law_totals_refused rfl B.m__law_totals_refused B.u__law_totals_refused (hr.mono (by decide)) (LamX.lamS_by (sc := defScope s__law_totals_refused) (by decide +kernel)) rfl (fun _ _ _ _ _ => rfl) (fun _ _ _ _ _ _ _ hr2 => (pe_call (ok_total (K := K) T) (hr2.mono (by decide)) (by rfl) T.g_total T.F_total.kp T.b_total .nil (L2N.passes_call (L2N.takes_of rfl rfl rfl rfl) fun _ _ _ _ h => h) (pa_cons pe_dnewK (pa_cons pe_non pa_nil))))) pa_nil)))
      (pss_cons (ps_expr (pe_bm PySem.F.plainAttrs_list PySem.F.slot_list_append PySem.F.type_list_append mt_append (pv 0) (pa_cons (pe_told (k := 4) (tld T) (wrd T) (by rfl) B.t__law_totals_refused rfl B.m__law_totals_refused B.u__law_totals_refused (hr.mono (by decide)) (LamX.lamS_by (sc := defScope s__law_totals_refused) (by decide +kernel)) rfl (fun _ _ _ _ _ => rfl) (fun _ _ _ _ _ _ _ hr2 => (pe_call (ok_total (K := K) T) (hr2.mono (by decide)) (by rfl) T.g_total T.F_total.kp T.b_total .nil (L2N.passes_call (L2N.takes_of rfl rfl rfl rfl) fun _ _ _ _ h => h) (pa_cons (pe_disp (pps_cons pe_str pe_str pps_nil) (by decide) (by decide) (by simp) (by decide)) (pa_cons pe_non pa_nil))))) pa_nil)))
      (pss_cons (ps_expr (pe_bm PySem.F.plainAttrs_list PySem.F.slot_list_append PySem.F.type_list_append mt_append (pv 0) (pa_cons (pe_told (k := 4) (tld T) (wrd T) (by rfl) B.t__law_totals_refused rfl B.m__law_totals_refused B.u__law_totals_refused (hr.mono (by decide)) (LamX.lamS_by (sc := defScope s__law_totals_refused) (by decide +kernel)) rfl (fun _ _ _ _ _ => rfl) (fun _ _ _ _ _ _ _ hr2 => (pe_call (ok_total (K := K) T) (hr2.mono (by decide)) (by rfl) T.g_total T.F_total.kp T.b_total .nil (L2N.passes_call (L2N.takes_of rfl rfl rfl rfl) fun _ _ _ _ h => h) (pa_cons (pe_disp (pps_cons pe_str pe_str pps_nil) (by decide) (by decide) (by simp) (by decide)) (pa_cons (pe_disp (pps_cons pe_str pe_int pps_nil) (by decide) (by decide) (by simp) (by decide)) pa_nil))))) pa_nil)))
      (pss_cons (ps_expr (pe_bm PySem.F.plainAttrs_list PySem.F.slot_list_append PySem.F.type_list_append mt_append (pv 0) (pa_cons (pe_told (k := 4) (tld T) (wrd T) (by rfl) B.t__law_totals_refused rfl B.m__law_totals_refused B.u__law_totals_refused (hr.mono (by decide)) (LamX.lamS_by (sc := defScope s__law_totals_refused) (by decide +kernel)) rfl (fun _ _ _ _ _ => rfl) (fun _ _ _ _ _ _ _ hr2 => (pe_call (ok_total (K := K) T) (hr2.mono (by decide)) (by rfl) T.g_total T.F_total.kp T.b_total .nil (L2N.passes_call (L2N.takes_of rfl rfl rfl rfl) fun _ _ _ _ h => h) (pa_cons (pe_disp (pps_cons pe_str pe_str pps_nil) (by decide) (by decide) (by simp) (by decide)) (pa_cons (pe_disp (pps_cons pe_str (pe_un un_neg pe_int) pps_nil) (by decide) (by decide) (by simp) (by decide)) pa_nil))))) pa_nil)))
      (pss_one (ps_ret (pe_cmpR (kx_eq K rfl hr.units) (pv 0) (pe_lst (pa_cons pe_str (pa_cons pe_str (pa_cons pe_str (pa_cons pe_str pa_nil))))) (nomark _))))))))), ?_⟩
  exact (es_nox (es_seq (es_asgF (ef_lst (ea_cons (ed_told fun _ => (ed_call (hn_cons (hn_cons hn_nil)) (ea_cons ed_dnew (ea_cons ed_non ea_nil)))) ea_nil)))
      (es_seq (es_app (ed_told fun _ => (ed_call (hn_cons (hn_cons hn_nil)) (ea_cons (ed_disp (eq_cons (ed_str "a") (ed_str ".") eq_nil)) (ea_cons ed_non ea_nil)))))
      (es_seq (es_app (ed_told fun _ => (ed_call (hn_cons (hn_cons hn_nil)) (ea_cons (ed_disp (eq_cons (ed_str "a") (ed_str ".") eq_nil)) (ea_cons (ed_disp (eq_cons (ed_str "b") (ed_int 1) eq_nil)) ea_nil)))))
      (es_seq (es_app (ed_told fun _ => (ed_call (hn_cons (hn_cons hn_nil)) (ea_cons (ed_disp (eq_cons (ed_str "a") (ed_str ".") eq_nil)) (ea_cons (ed_disp (eq_cons (ed_str "a") (ed_un o_neg ((ed_int 1)).l) eq_nil)) ea_nil)))))
      (es_ret ((ed_op o_eq (el_var 0) ((ed_lst (ea_cons (ed_str "BadBook") (ea_cons (ed_str "BadSign") (ea_cons (ed_str "BadSign") (ea_cons (ed_str "BadNumber") ea_nil)))))).l)).l))))))

theorem sc_law : FnScope ["script", "k", "more", "counts", "signs_left", "j", "here", "told", "codes", "rows", "signs_here", "due", "whole", "one", "other", "book", "code", "bad", "number", "sign", "at"] ["script"] (defScope s_law) := ⟨rfl, rfl, rfl, by decide +kernel, rfl, by decide +kernel, by decide +kernel⟩
theorem ok_law (T : Txt K mg cl Tabl.C A D) (B : Tbq base mg A) (hd : ∀ ns : List Int, ns.length ≤ 63 → runL 21 (sNx bd_law) ns = .ok (.bool true)) : FnOk P w K mg base (L2N.CX P w) 8 A.law D.law ["script"] (spLaw K) := by
  refine law_okC (k := 7) (cl := cl) (body := sNx bd_law) T.F_law sc_law (fun A2 outer s H E hr => ⟨_, (PSs.nox (pss_cons (ps_for PassesOwn.never rfl (pi_range1 (by rfl) T.z_range (pa_cons (pe_callB (c_max2 rfl) (by rfl) T.z_max (by decide +kernel) (pa_cons pe_int (pa_cons (pe_callB (kx_min K rfl rfl) (by rfl) T.z_min (by decide +kernel) (pa_cons pe_int (pa_cons (pe_callB (kx_len K rfl) (by rfl) T.z_len (by decide +kernel) (pa_cons (pv 0) pa_nil)) pa_nil))) pa_nil))) pa_nil)) (pg_name (i := 1) sc_law.nd rfl (.inl rfl)) (pss_cons (ps_set (i := 2) sc_law.nd rfl (.inl rfl) (pe_call (ok__law_drawn (K := K) T) (hr.mono (by decide)) (by rfl) T.g__law_drawn T.F__law_drawn.kp T.b__law_drawn .nil passN (pa_cons (pe_call (ok__law_cell (K := K) T) (hr.mono (by decide)) (by rfl) T.g__law_cell T.F__law_cell.kp T.b__law_cell .nil passN (pa_cons (pv 0) (pa_cons (pv 1) pa_nil))) (pa_cons (pv 1) pa_nil))))
      (pss_cons (ps_asg (pe_tup (pa_cons pe_dnewK (pa_cons (pe_callTy (kx_list K rfl rfl) (by rfl) T.z_list (by decide +kernel) (pa_cons (pe_call0 (ok__law_signs (K := K) T) (hr.mono (by decide)) (by rfl) T.g__law_signs T.F__law_signs.kp T.b__law_signs .nil passN) pa_nil)) pa_nil))) (kpg_tup (n := 2) K rfl rfl (pgs_cons (pg_name (i := 3) sc_law.nd rfl (.inr rfl)) (pgs_cons (pg_name (i := 4) sc_law.nd rfl (.inl rfl)) pgs_nil))))
      (pss_cons (ps_for PassesOwn.never rfl (pi_range1 (by rfl) T.z_range (pa_cons (pe_op op_addD pe_int (pe_op op_mod (pv 2) (pe_ix (kx_ix K rfl hr.units) (pe_lst (pa_cons pe_int (pa_cons pe_int pa_nil))) (pe_op op_mod (pe_op op_fdivW (pv 2) pe_int) pe_int) (fun _ _ => rfl)))) pa_nil)) (pg_name (i := 5) sc_law.nd rfl (.inl rfl)) (pss_cons (ps_set (i := 6) sc_law.nd rfl (.inl rfl) (pe_call (ok__law_drawn (K := K) T) (hr.mono (by decide)) (by rfl) T.g__law_drawn T.F__law_drawn.kp T.b__law_drawn .nil passN (pa_cons (pv 2) (pa_cons (pe_op op_addD pe_int (pv 5)) pa_nil))))
      (pss_one (kps_dput hr.units (pv 3) (pe_bm PySem.F.plainAttrs_list PySem.F.slot_list_pop PySem.F.type_list_pop mt_popAt (pv 4) (pa_cons (pe_op op_mod (pe_op op_fdivW (pv 6) pe_int) (pe_callB (kx_len K rfl) (by rfl) T.z_len (by decide +kernel) (pa_cons (pv 4) pa_nil))) pa_nil)) (pe_op op_mod (pe_op op_fdivW (pv 6) pe_int) (pe_ix (kx_ix K rfl hr.units) (pe_lst (pa_cons pe_int (pa_cons pe_int (pa_cons pe_int pa_nil)))) (pe_op op_mod (pe_op op_fdivW (pv 6) (pe_op op_pow pe_int pe_int)) pe_int) (fun _ _ => rfl)))))))
      (pss_cons (ps_set (i := 7) sc_law.nd rfl (.inr rfl) (pe_call (ok_book_for (K := K) T B) (hr.mono (by decide)) (by rfl) T.g_book_for T.F_book_for.kp T.b_book_for .nil passN (pa_cons (pv 3) pa_nil)))
      (pss_cons (ps_setLc (i := 8) (own := [("number", 18)]) rfl sc_law.nd rfl rfl (sw_true rfl rfl rfl (by decide +kernel)) (pi_range2 (by rfl) T.z_range (pa_cons pe_int (pa_cons pe_int pa_nil))) (blkOk_by (N := ["script", "k", "more", "counts", "signs_left", "j", "here", "told", "codes", "rows", "signs_here", "due", "whole", "one", "other", "book", "code", "bad", "number", "sign", "at"]) (sc := defScope s_law) (own := [("number", 18)]) (by decide +kernel)) (fun _ _ _ _ _ => (pg_name (i := 18) sc_law.nd rfl (.inl rfl))) (fun _ _ _ _ _ => pts_nil) (fun _ _ _ _ _ => (pe_call (ok__law_code (K := K) T) (hr.mono (by decide)) (by rfl) T.g__law_code T.F__law_code.kp T.b__law_code .nil passN (pa_cons (pv 18) pa_nil))))
      (pss_cons (ps_set (i := 9) sc_law.nd rfl (.inr rfl) (pe_callB (kx_sortB K rfl hr.units) (by rfl) T.z_sorted (by decide +kernel) (pa_cons (pe_lc (own := [("code", 16)]) rfl sc_law.nd (kpi_list K rfl (pv 8)) (blkOk_by (N := ["script", "k", "more", "counts", "signs_left", "j", "here", "told", "codes", "rows", "signs_here", "due", "whole", "one", "other", "book", "code", "bad", "number", "sign", "at"]) (sc := defScope s_law) (own := [("code", 16)]) (by decide +kernel)) (fun _ _ _ _ _ => (pg_name (i := 16) sc_law.nd rfl (.inl rfl))) (fun _ _ _ _ _ => pts_nil) (fun _ _ _ _ _ => (pe_tup (pa_cons (pe_call (ok__law_units (K := K) T) (hr.mono (by decide)) (by rfl) T.g__law_units T.F__law_units.kp T.b__law_units .nil passN (pa_cons (pv 16) pa_nil)) (pa_cons (pe_callB (kx_len K rfl) (by rfl) T.z_len (by decide +kernel) (pa_cons (pv 16) pa_nil)) (pa_cons (pv 16) pa_nil)))))) pa_nil)))
      (pss_cons (ps_set (i := 10) sc_law.nd rfl (.inr rfl) (pe_callB (kx_sortB K rfl hr.units) (by rfl) T.z_sorted (by decide +kernel) (pa_cons (pe_lk (pe_lc (own := [("sign", 19)]) rfl sc_law.nd (pi_keys (pv 3)) (blkOk_by (N := ["script", "k", "more", "counts", "signs_left", "j", "here", "told", "codes", "rows", "signs_here", "due", "whole", "one", "other", "book", "code", "bad", "number", "sign", "at"]) (sc := defScope s_law) (own := [("sign", 19)]) (by decide +kernel)) (fun _ _ _ _ _ => (pg_name (i := 19) sc_law.nd rfl (.inl rfl))) (fun _ _ _ _ _ => pts_nil) (fun _ _ _ _ _ => (pe_tup (pa_cons (pe_op op_sub pe_int (pe_ix (kx_ix K rfl hr.units) (pv 3) (pv 19) (fun _ _ => rfl))) (pa_cons (pv 19) pa_nil)))))) pa_nil)))
      (pss_cons (ps_set (i := 11) sc_law.nd rfl (.inl rfl) (pe_callTy (kx_dict K rfl rfl) (by rfl) T.z_dict (by decide +kernel) (pa_cons (pe_lc (own := [("at", 20)]) rfl sc_law.nd (pi_range1 (by rfl) T.z_range (pa_cons (pe_callB cr_lenD (by rfl) T.z_len (by decide +kernel) (pa_cons (pv 3) pa_nil)) pa_nil)) (blkOk_by (N := ["script", "k", "more", "counts", "signs_left", "j", "here", "told", "codes", "rows", "signs_here", "due", "whole", "one", "other", "book", "code", "bad", "number", "sign", "at"]) (sc := defScope s_law) (own := [("at", 20)]) (by decide +kernel)) (fun _ _ _ _ _ => (pg_name (i := 20) sc_law.nd rfl (.inl rfl))) (fun _ _ _ _ _ => pts_nil) (fun _ _ _ _ _ => (pe_tup (pa_cons (pe_ix (kx_ix K rfl hr.units) (pe_ix (kx_ix K rfl hr.units) (pv 10) (pv 20) (fun _ _ => rfl)) pe_int (fun _ _ => rfl)) (pa_cons (pe_ix (kx_ix K rfl hr.units) (pe_ix (kx_ix K rfl hr.units) (pv 9) (pv 20) (fun _ _ => rfl)) pe_int (fun _ _ => rfl)) pa_nil))))) pa_nil)))
      (pss_cons (ps_if (PW.pt (pw_or (pt_cmpR (op_neS hr.units) (pv 7) (pv 11) (nomark _)) (pw_or1 (pt_cmpR op_notA (pe_call (ok_need_book (K := K) T) (hr.mono (by decide)) (by rfl) T.g_need_book T.F_need_book.kp T.b_need_book .nil passN (pa_cons (pv 7) pa_nil)) pe_non (nomark _))))) (pss_one (ps_ret pe_bl)) pss_nil)
      (pss_cons (ps_set (i := 12) sc_law.nd rfl (.inl rfl) (pe_callB (kx_sum K rfl rfl) (by rfl) T.z_sum (by decide +kernel) (pa_cons (pe_lk (pe_lc (own := [("sign", 19)]) rfl sc_law.nd (pi_keys (pv 3)) (blkOk_by (N := ["script", "k", "more", "counts", "signs_left", "j", "here", "told", "codes", "rows", "signs_here", "due", "whole", "one", "other", "book", "code", "bad", "number", "sign", "at"]) (sc := defScope s_law) (own := [("sign", 19)]) (by decide +kernel)) (fun _ _ _ _ _ => (pg_name (i := 19) sc_law.nd rfl (.inl rfl))) (fun _ _ _ _ _ => pts_nil) (fun _ _ _ _ _ => (pe_op op_mulD (pe_ix (kx_ix K rfl hr.units) (pv 3) (pv 19) (fun _ _ => rfl)) (pe_call (ok__law_units (K := K) T) (hr.mono (by decide)) (by rfl) T.g__law_units T.F__law_units.kp T.b__law_units .nil passN (pa_cons (pe_ix (kx_ix K rfl hr.units) (pv 7) (pv 19) (fun _ _ => rfl)) pa_nil)))))) pa_nil)))
      (pss_cons (ps_if (pt_cmpR (kx_ne K rfl hr.units) (pe_call (ok_total (K := K) T) (hr.mono (by decide)) (by rfl) T.g_total T.F_total.kp T.b_total .nil passN (pa_cons (pv 7) (pa_cons (pv 3) pa_nil))) (pv 12) (nomark _)) (pss_one (ps_ret pe_bl)) pss_nil)
      (pss_cons (ps_for PassesOwn.never rfl (pi_range1 (by rfl) T.z_range (pa_cons pe_int pa_nil)) (pg_name (i := 5) sc_law.nd rfl (.inl rfl)) (pss_cons (ps_set (i := 6) sc_law.nd rfl (.inl rfl) (pe_call (ok__law_drawn (K := K) T) (hr.mono (by decide)) (by rfl) T.g__law_drawn T.F__law_drawn.kp T.b__law_drawn .nil passN (pa_cons (pv 2) (pa_cons (pe_op op_addD pe_int (pv 5)) pa_nil))))
      (pss_cons (ps_set (i := 13) sc_law.nd rfl (.inl rfl) (pe_ix (kx_ix K rfl hr.units) (pe_callB (kx_sorted K rfl rfl) (by rfl) T.z_sorted (by decide +kernel) (pa_cons (pv 3) pa_nil)) (pe_op op_mod (pe_op op_fdivW (pv 6) pe_int) (pe_callB cr_lenD (by rfl) T.z_len (by decide +kernel) (pa_cons (pv 3) pa_nil))) (fun _ _ => rfl)))
      (pss_cons (ps_set (i := 14) sc_law.nd rfl (.inl rfl) (pe_ix (kx_ix K rfl hr.units) (pe_callB (kx_sorted K rfl rfl) (by rfl) T.z_sorted (by decide +kernel) (pa_cons (pv 3) pa_nil)) (pe_op op_mod (pe_op op_fdivW (pv 6) pe_int) (pe_callB cr_lenD (by rfl) T.z_len (by decide +kernel) (pa_cons (pv 3) pa_nil))) (fun _ _ => rfl)))
      (pss_cons (ps_set (i := 15) sc_law.nd rfl (.inr rfl) (pe_callTy (kx_dict K rfl rfl) (by rfl) T.z_dict (by decide +kernel) (pa_cons (pv 7) pa_nil)))
      (pss_cons (ps_asg (pe_tup (pa_cons (pe_ix (kx_ix K rfl hr.units) (pv 7) (pv 14) (fun _ _ => rfl)) (pa_cons (pe_ix (kx_ix K rfl hr.units) (pv 7) (pv 13) (fun _ _ => rfl)) pa_nil))) (kpg_tup (n := 2) K rfl rfl (pgs_cons (pg_sub (pv 15) (pv 13) (set_dict (Nat.lt_of_le_of_lt (Nat.add_le_add_left (by decide : 1 ≤ 64) _) hr.units))) (pgs_cons (pg_sub (pv 15) (pv 14) (set_dict (Nat.lt_of_le_of_lt (Nat.add_le_add_left (by decide : 1 ≤ 64) _) hr.units))) pgs_nil))))
      (pss_cons (ps_if (pt_cmpR (kx_eq K rfl hr.units) (pe_op op_mod (pv 6) pe_int) pe_int (nomark _)) (pss_cons (ps_set (i := 16) sc_law.nd rfl (.inl rfl) (pe_call (ok__law_code (K := K) T) (hr.mono (by decide)) (by rfl) T.g__law_code T.F__law_code.kp T.b__law_code .nil passN (pa_cons (pe_op op_addD pe_int (pe_op op_mod (pe_op op_fdivW (pv 6) (pe_op op_pow pe_int pe_int)) pe_int)) pa_nil)))
      (pss_one (ps_if (pt_cmpR (kx_notin K rfl hr.units) (pv 16) (pe_lk (pe_lc (own := [("sign", 19)]) rfl sc_law.nd (pi_keys (pv 15)) (blkOk_by (N := ["script", "k", "more", "counts", "signs_left", "j", "here", "told", "codes", "rows", "signs_here", "due", "whole", "one", "other", "book", "code", "bad", "number", "sign", "at"]) (sc := defScope s_law) (own := [("sign", 19)]) (by decide +kernel)) (fun _ _ _ _ _ => (pg_name (i := 19) sc_law.nd rfl (.inl rfl))) (fun _ _ _ _ _ => pts_nil) (fun _ _ _ _ _ => (pe_ix (kx_ix K rfl hr.units) (pv 15) (pv 19) (fun _ _ => rfl))))) (by with_unfolding_all rfl)) (pss_one (kps_dput hr.units (pv 15) (pv 13) (pv 16))) pss_nil))) pss_nil)
      (pss_one (ps_if (pt_cmpR op_lt (pe_call (ok_total (K := K) T) (hr.mono (by decide)) (by rfl) T.g_total T.F_total.kp T.b_total .nil passN (pa_cons (pv 15) (pa_cons (pv 3) pa_nil))) (pv 12) (nomark _)) (pss_one (ps_ret pe_bl)) pss_nil)))))))))
      (pss_cons (ps_for PassesOwn.never rfl (kpi_list K rfl (pe_lst (pa_cons pe_dnewK (pa_cons pe_non (pa_cons (pe_lst pa_nil) (pa_cons (pe_disp (pps_cons pe_str pe_int pps_nil) (by decide) (by decide) (by simp) (by decide)) (pa_cons (pe_disp (pps_cons pe_str pe_int pps_nil) (by decide) (by decide) (by simp) (by decide)) (pa_cons (pe_disp (pps_cons pe_int pe_int pps_nil) (by decide) (by decide) (by simp) (by decide)) (pa_cons (pe_disp (pps_cons pe_str pe_int pps_nil) (by decide) (by decide) (by simp) (by decide)) pa_nil))))))))) (pg_name (i := 17) sc_law.nd rfl (.inr rfl)) (pss_one (ps_if (pt_cmpR (kx_ne K rfl hr.units) (pe_told (k := 5) (tld T) (wrd T) (by rfl) B.t_law rfl B.m_law B.u_law (hr.mono (by decide)) (LamX.lamS_by (sc := defScope s_law) (by decide +kernel)) rfl (fun _ _ _ _ _ => rfl) (fun _ _ _ _ _ _ _ hr2 => (pe_call (ok_book_for (K := K) T B) (hr2.mono (by decide)) (by rfl) T.g_book_for T.F_book_for.kp T.b_book_for .nil (L2N.passes_call (L2N.takes_of rfl rfl rfl rfl) fun _ _ _ _ h => h) (pa_cons (pv 17) pa_nil)))) pe_str (nomark _)) (pss_one (ps_ret pe_bl)) pss_nil)))
      (pss_cons (ps_for PassesOwn.never rfl (kpi_list K rfl (pe_lst (pa_cons (pe_disp (pps_cons pe_str (pe_un un_neg pe_int) pps_nil) (by decide) (by decide) (by simp) (by decide)) (pa_cons (pe_disp (pps_cons pe_str pe_int pps_nil) (by decide) (by decide) (by simp) (by decide)) (pa_cons (pe_disp (pps_cons pe_str pe_non pps_nil) (by decide) (by decide) (by simp) (by decide)) (pa_cons (pe_disp (pps_cons pe_str pe_bl pps_nil) (by decide) (by decide) (by simp) (by decide)) (pa_cons (pe_disp (pps_cons pe_str pe_str pps_nil) (by decide) (by decide) (by simp) (by decide)) pa_nil))))))) (pg_name (i := 17) sc_law.nd rfl (.inr rfl)) (pss_one (ps_if (pt_cmpR (kx_ne K rfl hr.units) (pe_told (k := 5) (tld T) (wrd T) (by rfl) B.t_law rfl B.m_law B.u_law (hr.mono (by decide)) (LamX.lamS_by (sc := defScope s_law) (by decide +kernel)) rfl (fun _ _ _ _ _ => rfl) (fun _ _ _ _ _ _ _ hr2 => (pe_call (ok_book_for (K := K) T B) (hr2.mono (by decide)) (by rfl) T.g_book_for T.F_book_for.kp T.b_book_for .nil (L2N.passes_call (L2N.takes_of rfl rfl rfl rfl) fun _ _ _ _ h => h) (pa_cons (pv 17) pa_nil)))) pe_str (nomark _)) (pss_one (ps_ret pe_bl)) pss_nil)))
      (pss_one (ps_if (pt_not (pt_val (pe_call0 (ok__law_totals_refused (K := K) T B) (hr.mono (by decide)) (by rfl) T.g__law_totals_refused T.F__law_totals_refused.kp T.b__law_totals_refused .nil passN))) (pss_one (ps_ret pe_bl)) pss_nil)))))))))))))))))
      (pss_one (ps_ret pe_bl)))), ?_⟩) (by decide) hd
  exact (es_nox (es_seq (es_for (ei_rng1 (eb_cons ((ed_cb n_max2 (eb_cons ((ed_int 1)).l (eb_cons ((ed_cb n_min (eb_cons ((ed_int 3)).l (eb_cons ((ed_lenR 0)).l eb_nil)))).l eb_nil)))).l eb_nil)) (ek_name 1) (es_seq (es_asg (ed_call (hn_cons (hn_cons hn_nil)) (ea_cons (ed_cell 0 ((ed_var 1)).l) (ea_cons (ed_var 1) ea_nil))))
      (es_seq (es_parT2 (ep_D (ep_F (ef_cb f_list (eb_cons ((ed_call hn_nil ea_nil)).l eb_nil)) ep_nil)))
      (es_seq (es_for (ei_rng1 (eb_cons ((ed_op o_add ((ed_int 1)).l ((ed_op o_mod ((ed_var 2)).l ((ed_op o_ix ((ed_lst (ea_cons (ed_int 5) (ea_cons (ed_int 41) ea_nil)))).l ((ed_op o_mod ((ed_op o_fdiv ((ed_var 2)).l ((ed_int 64)).l)).l ((ed_int 2)).l)).l)).l)).l)).l eb_nil)) (ek_name 5) (es_seq (es_asg (ed_call (hn_cons (hn_cons hn_nil)) (ea_cons (ed_var 2) (ea_cons (ed_op o_add ((ed_int 10)).l ((ed_var 5)).l) ea_nil))))
      (es_put (ee_pop ((ed_op o_mod ((ed_op o_fdiv ((ed_var 6)).l ((ed_int 8)).l)).l ((ed_cb n_len (eb_cons (el_var 4) eb_nil))).l)).l) (ed_op o_mod ((ed_op o_fdiv ((ed_var 6)).l ((ed_int 1024)).l)).l ((ed_op o_ix ((ed_lst (ea_cons (ed_int 3) (ea_cons (ed_int 20) (ea_cons (ed_int 1001) ea_nil))))).l ((ed_op o_mod ((ed_op o_fdiv ((ed_var 6)).l ((ed_op o_pow ((ed_int 2)).l ((ed_int 20)).l)).l)).l ((ed_int 3)).l)).l)).l))))
      (es_seq (es_share 3 (es_asg (ed_call (hn_cons hn_nil) (ea_cons (ed_var 3) ea_nil))))
      (es_seq (es_asg ((ef_lc (vs := [18]) (ei_rng2 (eb_cons ((ed_int 2)).l (eb_cons ((ed_int 128)).l eb_nil))) (ek_name 18) et_yes (ed_call (hn_cons hn_nil) (ea_cons (ed_var 18) ea_nil)) (by decide))).s)
      (es_seq (es_asg ((ef_cb f_sortA (eb_cons (((ef_lc (vs := [16]) (ei_list (ed_var 8)) (ek_name 16) et_yes (ed_tup (ea_cons (ed_call (hn_cons hn_nil) (ea_cons (ed_var 16) ea_nil)) (ea_cons (ed_cb n_len (eb_cons ((ed_var 16)).l eb_nil)) (ea_cons (ed_var 16) ea_nil)))) (by decide))).s).l eb_nil))).s)
      (es_seq (es_asg ((ef_cb f_sortA (eb_cons ((ef_lk 3 (ef_lc (vs := [19]) (ei_keys 3) (ek_name 19) et_yes (ed_tup (ea_cons (ed_op o_sub ((ed_int 0)).l ((ed_op o_ix (el_var 3) ((ed_var 19)).l)).l) (ea_cons (ed_var 19) ea_nil))) (by decide))).s).l eb_nil))).s)
      (es_seq (es_asg (ed_cb n_dict (eb_cons (((ef_lc (vs := [20]) (ei_rng1 (eb_cons ((ed_cb n_lenD (eb_cons (el_var 3) eb_nil))).l eb_nil)) (ek_name 20) et_yes (ed_tup (ea_cons (ed_op o_ix ((ed_op o_ix ((ed_var 10)).l ((ed_var 20)).l)).l ((ed_int 1)).l) (ea_cons (ed_op o_ix ((ed_op o_ix ((ed_var 9)).l ((ed_var 20)).l)).l ((ed_int 2)).l) ea_nil))) (by decide))).s).l eb_nil)))
      (es_seq (es_if (et_or (et_test ((ed_op o_neS ((ed_var 7)).l ((ed_var 11)).l)).l) (et_test ((ed_op o_isn ((ed_call (hn_cons hn_nil) (ea_cons (ed_var 7) ea_nil))).l (ed_non).l)).l)) (es_ret ((ed_bl false)).l) es_nil)
      (es_seq (es_asg (ed_cb n_sum (eb_cons ((ef_lk 3 (ef_lc (vs := [19]) (ei_keys 3) (ek_name 19) et_yes (ed_op o_mul ((ed_op o_ix (el_var 3) ((ed_var 19)).l)).l ((ed_call (hn_cons hn_nil) (ea_cons (ed_op o_ix ((ed_var 7)).l ((ed_var 19)).l) ea_nil))).l) (by decide))).s).l eb_nil)))
      (es_seq (es_share 3 (es_if (et_test ((ed_op o_ne ((ed_call (hn_cons (hn_cons hn_nil)) (ea_cons (ed_var 7) (ea_cons (ed_var 3) ea_nil)))).l ((ed_var 12)).l)).l) (es_ret ((ed_bl false)).l) es_nil))
      (es_seq (es_for (ei_rng1 (eb_cons ((ed_int 8)).l eb_nil)) (ek_name 5) (es_seq (es_asg (ed_call (hn_cons (hn_cons hn_nil)) (ea_cons (ed_var 2) (ea_cons (ed_op o_add ((ed_int 80)).l ((ed_var 5)).l) ea_nil))))
      (es_seq (es_asg (ed_op o_ix (((ef_cb f_sorted (eb_cons (el_var 3) eb_nil))).s).l ((ed_op o_mod ((ed_op o_fdiv ((ed_var 6)).l ((ed_int 8)).l)).l ((ed_cb n_lenD (eb_cons (el_var 3) eb_nil))).l)).l))
      (es_seq (es_asg (ed_op o_ix (((ef_cb f_sorted (eb_cons (el_var 3) eb_nil))).s).l ((ed_op o_mod ((ed_op o_fdiv ((ed_var 6)).l ((ed_int 512)).l)).l ((ed_cb n_lenD (eb_cons (el_var 3) eb_nil))).l)).l))
      (es_seq (es_asgDc (eb_cons ((ed_var 7)).l eb_nil))
      (es_seq (es_put2 (ed_tup (ea_cons (ed_op o_ix ((ed_var 7)).l ((ed_var 14)).l) (ea_cons (ed_op o_ix ((ed_var 7)).l ((ed_var 13)).l) ea_nil))) (ed_var 13) (ed_var 14))
      (es_seq (es_if (et_test ((ed_op o_eq ((ed_op o_mod ((ed_var 6)).l ((ed_int 2)).l)).l ((ed_int 0)).l)).l) (es_seq (es_asg (ed_call (hn_cons hn_nil) (ea_cons (ed_op o_add ((ed_int 2)).l ((ed_op o_mod ((ed_op o_fdiv ((ed_var 6)).l ((ed_op o_pow ((ed_int 2)).l ((ed_int 20)).l)).l)).l ((ed_int 126)).l)).l) ea_nil)))
      (es_if (et_own 15 (et_test ((ed_op o_notin ((ed_var 16)).l ((ef_lk 15 (ef_lc (vs := [19]) (ei_keys 15) (ek_name 19) et_yes (ed_op o_ix (el_var 15) ((ed_var 19)).l) (by decide))).s).l)).l)) (es_put (ee_S (ed_var 13)) (ed_var 16)) es_nil)) es_nil)
      (es_share 3 (es_share 15 (es_if (et_test ((ed_op o_lt ((ed_call (hn_cons (hn_cons hn_nil)) (ea_cons (ed_var 15) (ea_cons (ed_var 3) ea_nil)))).l ((ed_var 12)).l)).l) (es_ret ((ed_bl false)).l) es_nil))))))))))
      (es_seq (es_for (ei_list (ed_lst (ea_cons ed_dnew (ea_cons ed_non (ea_cons (ed_lst ea_nil) (ea_cons (ed_disp (eq_cons (ed_str "A") (ed_int 1) eq_nil)) (ea_cons (ed_disp (eq_cons (ed_str "ab") (ed_int 1) eq_nil)) (ea_cons (ed_disp (eq_cons (ed_int 1) (ed_int 1) eq_nil)) (ea_cons (ed_disp (eq_cons (ed_str " ") (ed_int 1) eq_nil)) ea_nil))))))))) (ek_name 17) (es_if (et_test ((ed_op o_ne ((ed_told fun _ => (ed_call (hn_cons hn_nil) (ea_cons (ed_var 17) ea_nil)))).l ((ed_str "BadSign")).l)).l) (es_ret ((ed_bl false)).l) es_nil))
      (es_seq (es_for (ei_list (ed_lst (ea_cons (ed_disp (eq_cons (ed_str "a") (ed_un o_neg ((ed_int 1)).l) eq_nil)) (ea_cons (ed_disp (eq_cons (ed_str "a") (ed_int 1001) eq_nil)) (ea_cons (ed_disp (eq_cons (ed_str "a") ed_non eq_nil)) (ea_cons (ed_disp (eq_cons (ed_str "a") (ed_bl true) eq_nil)) (ea_cons (ed_disp (eq_cons (ed_str "a") (ed_str "1") eq_nil)) ea_nil))))))) (ek_name 17) (es_if (et_test ((ed_op o_ne ((ed_told fun _ => (ed_call (hn_cons hn_nil) (ea_cons (ed_var 17) ea_nil)))).l ((ed_str "BadNumber")).l)).l) (es_ret ((ed_bl false)).l) es_nil))
      (es_if (et_not (et_B ((ed_call hn_nil ea_nil)).l)) (es_ret ((ed_bl false)).l) es_nil))))))))))))))))
      (es_ret ((ed_bl true)).l)))

end
end Tk
namespace Tk
open PySem L2 Dn
variable [Tabl]
/-! ### the draws -/
def M1 : Int := 340282366920938463463374607431768211507
def M2 : Int := 340282366920938463463374607431768211297
def A64 : Int := 18446744073709551557
def drw1 (c k : Int) : Int := (c * 6364136223846793005 + (k + 1) * 1442695040888963407) % M1
def drw2 (c k : Int) : Int := drw1 c k * drw1 c k % M2
def drawn (c k : Int) : Int := ((drw2 c k % A64 + 1) * (drw2 c k / A64 + 1) * drw2 c k) % M1
theorem drawn_nn (c k : Int) : 0 ≤ drawn c k := Int.emod_nonneg _ (by decide)
theorem nab_mul {a b : Int} {p r : Nat} (ha : a.natAbs < 2 ^ p) (hb : b.natAbs < 2 ^ r) : (a * b).natAbs < 2 ^ (p + r) := by
  rw [Int.natAbs_mul, Nat.pow_add]
  exact Nat.mul_lt_mul'' ha hb
theorem nab_of {a : Int} {p : Nat} (h0 : 0 ≤ a) (h1 : a < ((2 ^ p : Nat) : Int)) : a.natAbs < 2 ^ p := by omega
theorem pow_up {a p r : Nat} (h : a < 2 ^ p) (hp : p ≤ r) : a < 2 ^ r := Nat.lt_of_lt_of_le h (Nat.pow_le_pow_right (by decide) hp)
theorem mod_nab (a : Int) {m : Int} (p : Nat) (hm : 0 < m) (hp : m ≤ ((2 ^ p : Nat) : Int)) : (a % m).natAbs < 2 ^ p := by
  have h0 := Int.emod_nonneg a (show m ≠ 0 by omega)
  have h1 := Int.emod_lt_of_pos a hm
  exact nab_of h0 (by omega)
theorem drawn_eq (c k : Int) : dn__law_drawn [.int c, .int k] = .ok (.int (drawn c k)) := by
  have e1 : mulD (.int c) (.int 6364136223846793005) = .ok (.int (c * 6364136223846793005)) := mulD_r _ _ ⟨by decide, by decide⟩
  have e2 : mulD (.int (k + 1)) (.int 1442695040888963407) = .ok (.int ((k + 1) * 1442695040888963407)) := mulD_r _ _ ⟨by decide, by decide⟩
  have b1 : (drw1 c k).natAbs < 2 ^ 129 := mod_nab _ 129 (by decide) (by decide)
  have b2 : (drw2 c k).natAbs < 2 ^ 129 := mod_nab _ 129 (by decide) (by decide)
  have n2 : 0 ≤ drw2 c k := Int.emod_nonneg _ (by decide)
  have e3 : mulD (.int (drw1 c k)) (.int (drw1 c k)) = .ok (.int (drw1 c k * drw1 c k)) := mulD_w _ _ ⟨pow_up b1 (by decide), pow_up b1 (by decide)⟩
  have b3 : (drw2 c k % A64 + 1).natAbs < 2 ^ 65 := by
    have h0 := Int.emod_nonneg (drw2 c k) (show A64 ≠ 0 by decide)
    have h1 := Int.emod_lt_of_pos (drw2 c k) (show (0 : Int) < A64 by decide)
    have h2 : A64 < ((2 ^ 64 : Nat) : Int) := by decide
    exact nab_of (by omega) (by omega)
  have b4 : (drw2 c k / A64 + 1).natAbs < 2 ^ 130 := by
    have h0 : 0 ≤ drw2 c k / A64 := Int.ediv_nonneg n2 (by decide)
    have h1 : drw2 c k / A64 ≤ drw2 c k := Int.ediv_le_self _ n2
    have h2 : drw2 c k < ((2 ^ 129 : Nat) : Int) := by omega
    exact nab_of (by omega) (by omega)
  have e4 : mulD (.int (drw2 c k % A64 + 1)) (.int (drw2 c k / A64 + 1)) = .ok (.int ((drw2 c k % A64 + 1) * (drw2 c k / A64 + 1))) := mulD_w _ _ ⟨pow_up b3 (by decide), pow_up b4 (by decide)⟩
  have e5 : mulD (.int ((drw2 c k % A64 + 1) * (drw2 c k / A64 + 1))) (.int (drw2 c k)) = .ok (.int ((drw2 c k % A64 + 1) * (drw2 c k / A64 + 1) * drw2 c k)) := mulD_w _ _ ⟨pow_up (nab_mul b3 b4) (by decide), pow_up b2 (by decide)⟩
  have m1 : ∀ a : Int, modD (.int a) (.int 340282366920938463463374607431768211507) = .ok (.int (a % M1)) := fun a => modD_int _ _ (by decide)
  have m2 : ∀ a : Int, modD (.int a) (.int 340282366920938463463374607431768211297) = .ok (.int (a % M2)) := fun a => modD_int _ _ (by decide)
  have m3 : ∀ a : Int, modD (.int a) (.int 18446744073709551557) = .ok (.int (a % A64)) := fun a => modD_int _ _ (by decide)
  have m4 : ∀ a : Int, fdivD (.int a) (.int 18446744073709551557) = .ok (.int (a / A64)) := fun a => fdivD_int _ _ (by decide)
  unfold dn__law_drawn runB sNx bd__law_drawn
  simp only [List.map_cons, List.map_nil, List.length_cons, List.length_nil, Nat.reduceSub, Nat.reduceAdd, List.replicate_succ, List.replicate_zero, List.cons_append, List.nil_append, sSeq_ap, sAsg_ap, d2_ap, dVar_ap, dC_ap, List.getElem?_cons_zero, List.getElem?_cons_succ, R.bind_ok, e1, e2, addD_int, m1, List.set_cons_succ, List.set_cons_zero]
  show (noXm (R.bind (R.bind (R.bind (mulD (.int (drw1 c k)) (.int (drw1 c k))) _) _) _).noexc).bind _ = _
  rw [e3]
  simp only [R.bind_ok, m2, sSeq_ap, sAsg_ap, d2_ap, dVar_ap, dC_ap, List.getElem?_cons_zero, List.getElem?_cons_succ, List.set_cons_succ, List.set_cons_zero, m3, m4, addD_int]
  show (noXm (R.bind (R.bind (R.bind (mulD (.int (drw2 c k % A64 + 1)) (.int (drw2 c k / A64 + 1))) _) _) _).noexc).bind _ = _
  rw [e4]
  simp only [R.bind_ok]
  show (noXm (R.bind (R.bind (mulD (.int ((drw2 c k % A64 + 1) * (drw2 c k / A64 + 1))) (.int (drw2 c k))) _) _).noexc).bind _ = _
  rw [e5]
  simp only [R.bind_ok, sRet_ap, d2_ap, dVar_ap, dC_ap, List.getElem?_cons_zero, List.getElem?_cons_succ, m1, R.noexc_ok, noXm_rt, noXm_nx]
  rfl
end Tk

namespace Tk
open PySem L2 Dn
variable [Tabl]
/-- the sign as a text -/
abbrev sg (c : Nat) : PD := .str ⟨#[c]⟩
theorem signs_st (l : List Nat) : signs (.str (st l)) = .ok (l.map sg) := rfl
def elB (c : Nat) : Bool := decide (c ∈ [46, 45])
def codeB (l : List Nat) : Bool := decide (1 ≤ l.length) && decide (l.length ≤ 6) && l.all elB
theorem str_dotdash : (".-" : Str).cps.toList = [46, 45] := by decide +kernel
theorem asBools_of {α : Type} (f : α → Bool) (l : List α) : asBools (l.map fun a => .bool (f a)) = some (l.map f) := by
  rw [← asBools_map (l.map f), List.map_map]
  rfl
theorem allD_of {α : Type} (f : α → Bool) (l : List α) : allD [.list (l.map fun a => .bool (f a))] = .ok (.bool (l.all f)) := by
  show (match asBools (l.map fun a => PyData.bool (f a)) with
    | some bs => R.ok (PyData.bool (bs.all id))
    | none => R.stuck) = _
  rw [asBools_of]
  simp [List.all_map]
theorem inD_sign (c : Nat) (z : Str) : inD false (sg c) (.str z) = .ok (.bool (decide (c ∈ z.cps.toList))) := rfl
end Tk

namespace Tk
open PySem L2 Dn
variable [Tabl]
theorem ce_is_code_ap (d : PD) (c : Nat) : ce_is_code_1 [.sh d, .sh (sg c)] = .ok (.bool (elB c)) := by
  unfold ce_is_code_1 elB
  simp only [d2_ap, dVar_ap, dC_ap, R.bind_ok, List.getElem?_cons_succ, List.getElem?_cons_zero]
  rw [inD_sign, str_dotdash]
theorem is_code_st (l : List Nat) (hl : l.length ≤ szN) : dn_is_code [.str (st l)] = .ok (.bool (codeB l)) := by
  have hlc : lcL (gN 1) dYes ce_is_code_1 [.sh (.str (st l)), .no] (l.map sg) = .ok (l.map fun c => .bool (elB c)) :=
    lcL_map sg (fun c => .bool (elB c)) (fun c => ⟨_, rfl, ce_is_code_ap _ c⟩) l
  unfold dn_is_code runB bd_is_code
  simp [isStrD, lenD_str (st l) (by rw [st_len]; exact hl), st_len, cv_MOST_CODE, dLc, signs_st, free, isOwn, wipeE, hlc, chk_ok _ (show (l.map fun c => PyData.bool (elB c)).length ≤ szN by simpa using hl), allD_of]
  unfold codeB
  by_cases h1 : 1 ≤ l.length
  · by_cases h2 : l.length ≤ 6
    · simp [show (1 : Int) ≤ (l.length : Int) by omega, show (l.length : Int) ≤ 6 by omega, h1, h2]
    · simp [show (1 : Int) ≤ (l.length : Int) by omega, show ¬ (l.length : Int) ≤ 6 by omega, h1, h2]
  · simp [show ¬ (1 : Int) ≤ (l.length : Int) by omega, h1]
end Tk

namespace Tk
open PySem L2 Dn
variable [Tabl]
/-! ### the law's codes -/
def el (k : Nat) : Nat := if k = 0 then 46 else 45
def codeF : Nat → Nat → List Nat → List Nat
  | 0, _, acc => acc
  | f + 1, n, acc => if n ≤ 1 then acc else codeF f (n / 2) (el (n % 2) :: acc)
def codeOf (n : Nat) : List Nat := codeF 8 n []
theorem codeF_one : ∀ (f n : Nat) (acc : List Nat), n ≤ 1 → codeF f n acc = acc
  | 0, _, _, _ => rfl
  | f + 1, n, acc, h => if_pos h
theorem ix_dotdash (n : Nat) : ixD (.str ".-") (.int ((n : Int) % 2)) = .ok (.str (st [el (n % 2)])) := by
  have h : (n : Int) % 2 = 0 ∧ n % 2 = 0 ∨ (n : Int) % 2 = 1 ∧ n % 2 = 1 := by omega
  rcases h with ⟨h, h'⟩ | ⟨h, h'⟩ <;> rw [h, h'] <;> rfl
theorem code_loop : ∀ (f n : Nat) (acc : List Nat) (m : Nat), n < 2 ^ f → acc.length + f ≤ 1000 → f < m → ∃ k : Int, loopW lt__law_code_2 lp__law_code_1 m [.sh (.int (n : Int)), .sh (.str (st acc))] = .ok (.nx [.sh (.int k), .sh (.str (st (codeF f n acc)))])
  | f, n, acc, 0, _, _, hm => absurd hm (Nat.not_lt_zero _)
  | f, n, acc, m + 1, hn, ha, hm => by
    by_cases h1 : n ≤ 1
    · refine ⟨n, ?_⟩
      rw [codeF_one f n acc h1]
      unfold loopW lt__law_code_2
      simp [show ¬ (1 : Int) < (n : Int) by omega]
    · cases f with
      | zero => omega
      | succ f =>
        have hn2 : n / 2 < 2 ^ f := by rw [Nat.pow_succ] at hn; omega
        obtain ⟨k, ih⟩ := code_loop f (n / 2) (el (n % 2) :: acc) m hn2 (by simp; omega) (by omega)
        refine ⟨k, ?_⟩
        unfold loopW
        have e1 : lt__law_code_2 [.sh (.int (n : Int)), .sh (.str (st acc))] = .ok true := by
          unfold lt__law_code_2
          simp [show (1 : Int) < (n : Int) by omega]
        have e2 : lp__law_code_1 [.sh (.int (n : Int)), .sh (.str (st acc))] = .ok (.nx [.sh (.int ((n / 2 : Nat) : Int)), .sh (.str (st (el (n % 2) :: acc)))]) := by
          have m1 : modD (.int (n : Int)) (.int 2) = .ok (.int ((n : Int) % 2)) := modD_int _ _ (by decide)
          have m2 : fdivD (.int (n : Int)) (.int 2) = .ok (.int ((n : Int) / 2)) := fdivD_int _ _ (by decide)
          have m3 : addD (.str (st [el (n % 2)])) (.str (st acc)) = .ok (.str (st (el (n % 2) :: acc))) := by
            rw [addD_str _ _ (by rw [st_len, st_len]; unfold szN; simp; omega), st_app]
            rfl
          unfold lp__law_code_1
          simp [m1, m2, m3, ix_dotdash]
        rw [e1]
        simp only [R.bind_ok]
        rw [e2]
        simp only [R.bind_ok]
        rw [ih]
        show _ = R.ok (Fl.nx [_, .sh (.str (st (if n ≤ 1 then acc else codeF f (n / 2) (el (n % 2) :: acc))))])
        rw [if_neg h1]
theorem law_code_eq (n : Nat) (h : n < 128) : dn__law_code [.int (n : Int)] = .ok (.str (st (codeOf n))) := by
  obtain ⟨k, hl⟩ := code_loop 8 n [] 130 (by omega) (by simp) (by decide)
  unfold dn__law_code runB sNx bd__law_code
  simp only [List.map_cons, List.map_nil, sSeq_ap, sAsg_ap, dC_ap, R.bind_ok]
  have e : (("" : Str)) = st [] := by decide +kernel
  rw [e]
  show (noXm ((((sWhile 130 lt__law_code_2 lp__law_code_1) [.sh (.int (n : Int)), .sh (.str (st []))]).bind _).noexc)).bind _ = _
  rw [sWhile_ap, hl]
  rfl
theorem codes_good : ∀ n, 2 ≤ n → n < 128 → codeB (codeOf n) = true := by
  have : (List.range 128).all (fun n => decide (n < 2) || codeB (codeOf n)) = true := by decide +kernel
  intro n h2 h
  have := List.all_eq_true.mp this n (List.mem_range.mpr h)
  simp only [Bool.or_eq_true, decide_eq_true_eq] at this
  exact this.resolve_left (by omega)
theorem codeOf_inj {m n : Nat} (hm : 2 ≤ m ∧ m < 128) (hn : 2 ≤ n ∧ n < 128) (h : codeOf m = codeOf n) : m = n := by
  have key : (List.range 128).all (fun a => (List.range 128).all fun b => decide (a < 2) || decide (b < 2) || decide (a = b) || !decide (codeOf a = codeOf b)) = true := by decide +kernel
  have := List.all_eq_true.mp (List.all_eq_true.mp key m (List.mem_range.mpr hm.2)) n (List.mem_range.mpr hn.2)
  simp only [Bool.or_eq_true, decide_eq_true_eq, Bool.not_eq_true', decide_eq_false_iff_not] at this
  rcases this with ((a | a) | a) | a
  · omega
  · omega
  · exact a
  · exact absurd h a
end Tk

namespace Tk
open PySem L2 Dn
variable [Tabl]
/-! ### sorting -/
theorem tot_le {β : Type} (k : β → PD) : PySem.W.TotalLe (PySem.W.dataLe false k) := PySem.W.sortLe_total _ _ _
theorem anti_le {β : Type} (k : β → PD) {a b : β} (h1 : PySem.W.dataLe false k a b = true) (h2 : PySem.W.dataLe false k b a = true) : PySem.W.keyToks (k a) = PySem.W.keyToks (k b) := by
  rw [PySem.W.dataLe_eq] at h1 h2
  have a1 : PySem.W.dataLt (k b) (k a) = false := by simpa using h1
  have a2 : PySem.W.dataLt (k a) (k b) = false := by simpa using h2
  exact (PyProof.Rows.listOrd PyProof.Rows.itemOrd).total _ _ a2 a1
theorem eq_of_perm {α : Type} {le : α → α → Prop} : ∀ {l m : List α}, l.Perm m → l.Pairwise le → m.Pairwise le → (∀ a ∈ l, ∀ b ∈ l, le a b → le b a → a = b) → l = m
  | [], m, hp, _, _, _ => by rw [List.nil_perm.mp hp]
  | a :: l, [], hp, _, _, _ => by cases (List.perm_nil.mp hp)
  | a :: l, b :: m, hp, h1, h2, h => by
    have e : a = b := by
      have m1 : a ∈ b :: m := hp.mem_iff.mp List.mem_cons_self
      have m2 : b ∈ a :: l := hp.mem_iff.mpr List.mem_cons_self
      rcases List.mem_cons.mp m1 with q | q
      · exact q
      · rcases List.mem_cons.mp m2 with p | p
        · exact p.symm
        · exact h a List.mem_cons_self b m2 ((List.pairwise_cons.mp h1).1 b p) ((List.pairwise_cons.mp h2).1 a q)
    subst e
    rw [eq_of_perm (le := le) ((List.perm_cons a).mp hp) (List.pairwise_cons.mp h1).2 (List.pairwise_cons.mp h2).2 fun x hx y hy => h x (List.mem_cons_of_mem _ hx) y (List.mem_cons_of_mem _ hy)]
theorem eqv_int (a b : Int) : PyData.eqv (.int a) (.int b) = decide (a = b) := by
  simp [PyData.eqv]
  try rfl
theorem lt_head (u v : Int) (r s : List PD) : PySem.W.dataLt (.tuple (.int u :: r)) (.tuple (.int v :: s)) = if u = v then PySem.W.rowLt r s else decide (u < v) := by
  rw [PySem.W.dataLt_tuple, PySem.W.dataLt_cons rfl, eqv_int, PySem.W.dataLt_int]
  by_cases h : u = v
  · simp [h, PySem.W.rowLt]
  · simp [h]
theorem lt_shift (u v : Int) (r s : List PD) : PySem.W.dataLt (.tuple (.int (u + 3) :: r)) (.tuple (.int (v + 3) :: s)) = PySem.W.dataLt (.tuple (.int u :: r)) (.tuple (.int v :: s)) := by
  rw [lt_head, lt_head]
  by_cases h : u = v
  · rw [if_pos h, if_pos (by omega)]
  · rw [if_neg h, if_neg (by omega)]
    by_cases h2 : u < v
    · rw [decide_eq_true h2, decide_eq_true (by omega)]
    · rw [decide_eq_false h2, decide_eq_false (by omega)]
theorem le_head {β : Type} (k : β → PD) {a b : β} {u v : Int} {r s : List PD} (ea : k a = .tuple (.int u :: r)) (eb : k b = .tuple (.int v :: s)) (h : PySem.W.dataLe false k a b = true) : u ≤ v := by
  rw [PySem.W.dataLe_eq] at h
  have a1 : PySem.W.dataLt (k b) (k a) = false := by simpa using h
  rw [ea, eb, lt_head] at a1
  by_cases e : v = u
  · omega
  · rw [if_neg e] at a1
    have := of_decide_eq_false a1
    omega
/-! ### all codes -/
def elU (c : Nat) : Int := if c = 46 then 1 else 3
def unitsL (l : List Nat) : Int := (l.map elU).sum + l.length - 1
def encP (l : List Nat) : PD := .tuple [.int (unitsL l), .int l.length, .str (st l)]
def encL (l : List Nat) : PD := .tuple [.int (unitsL l + 3), .int l.length, .str (st l)]
def nxt (R : List (List Nat)) : List (List Nat) := R.map (· ++ [46]) ++ R.map (· ++ [45])
def genP : List (List Nat) := nxt [[]] ++ nxt (nxt [[]]) ++ nxt (nxt (nxt [[]])) ++ nxt (nxt (nxt (nxt [[]]))) ++ nxt (nxt (nxt (nxt (nxt [[]])))) ++ nxt (nxt (nxt (nxt (nxt (nxt [[]])))))
def genL : List (List Nat) := (List.range 126).map fun i => codeOf (2 + i)
theorem gen_perm : genL.Perm genP := List.isPerm_iff.mp (by decide +kernel)
theorem gen_nodup : genL.Nodup := by decide +kernel
theorem toks_inj {a b : List Nat} (h : PySem.W.keyToks (encP a) = PySem.W.keyToks (encP b)) : a = b := by
  unfold encP at h
  simp only [PySem.W.keyToks, PySem.W.keyToksAll, List.cons_append, List.nil_append, List.cons.injEq, Sum.inr.injEq, Sum.inl.injEq, true_and, and_true] at h
  exact h.2.2
@[irreducible] def ord : List (List Nat) := genP.mergeSort (PySem.W.dataLe false encP)
theorem ord_perm : ord.Perm genL := by
  unfold ord
  exact (List.mergeSort_perm _ _).trans gen_perm.symm
theorem ord_len : ord.length = 126 := by
  rw [ord_perm.length_eq]
  decide +kernel
theorem ord_nodup : ord.Nodup := ord_perm.nodup_iff.mpr gen_nodup
theorem ord_sorted : ord.Pairwise fun a b => PySem.W.dataLe false encP a b = true := by
  unfold ord
  exact PySem.W.sort_pairwise (tot_le _) _
theorem ord_units : ord.Pairwise fun a b => unitsL a ≤ unitsL b := ord_sorted.imp fun {a b} h => le_head encP (u := unitsL a) (v := unitsL b) rfl rfl h
theorem ordP : (genP.map encP).mergeSort leAll = ord.map encP := by
  unfold ord
  exact (PySem.W.sort_maps encP fun a _ b _ => rfl).symm
theorem ordL : (genL.map encL).mergeSort leAll = ord.map encL := by
  have e : genL.mergeSort (PySem.W.dataLe false encP) = ord := by
    refine eq_of_perm (le := fun a b => PySem.W.dataLe false encP a b = true) ((List.mergeSort_perm _ _).trans ord_perm.symm) (PySem.W.sort_pairwise (tot_le _) _) ord_sorted fun a _ b _ h1 h2 => toks_inj (anti_le encP h1 h2)
  rw [← e]
  refine (PySem.W.sort_maps encL fun a _ b _ => ?_).symm
  show (!PySem.W.dataLt (encP b) (encP a)) = !PySem.W.dataLt (encL b) (encL a)
  unfold encP encL
  rw [lt_shift]
theorem ord_code {k : List Nat} (h : k ∈ ord) : codeB k = true := by
  have := ord_perm.mem_iff.mp h
  unfold genL at this
  obtain ⟨i, hi, rfl⟩ := List.mem_map.mp this
  have := List.mem_range.mp hi
  exact codes_good _ (by omega) (by omega)
theorem code_ord {n : Nat} (h1 : 2 ≤ n) (h2 : n < 128) : codeOf n ∈ ord := by
  refine ord_perm.mem_iff.mpr ?_
  unfold genL
  refine List.mem_map.mpr ⟨n - 2, List.mem_range.mpr (by omega), ?_⟩
  congr 1
  omega
end Tk

namespace Tk
open PySem L2 Dn
variable [Tabl]
abbrev Bk := List (Nat × List Nat)
def bkE (b : Bk) : List (PD × PD) := b.map fun p => (sg p.1, .str (st p.2))
abbrev bkD (b : Bk) : PD := .dict (bkE b)
@[irreducible] def signsL : List Nat := ("abcdefghijklmnopqrstuvwxyz0123456789.,?/=" : Str).cps.toList
structure BookOk (b : Bk) : Prop where
  ne : b ≠ []
  sgn : ∀ p ∈ b, p.1 ∈ signsL
  code : ∀ p ∈ b, codeB p.2 = true
  keys : (b.map (·.1)).Nodup
  codes : (b.map (·.2)).Nodup
  len : b.length ≤ 41
theorem codeB_len {l : List Nat} (h : codeB l = true) : 1 ≤ l.length ∧ l.length ≤ 6 := by
  unfold codeB at h
  simp only [Bool.and_eq_true, decide_eq_true_eq] at h
  exact h.1
def codeAt (b : Bk) (c : Nat) : Option (List Nat) := (b.find? fun p => p.1 == c).map (·.2)
theorem look_bk (b : Bk) (c : Nat) : lookD (bkE b) (.inr ⟨#[c]⟩) = (codeAt b c).map fun l => .str (st l) := by
  unfold lookD codeAt bkE
  induction b with
  | nil => rfl
  | cons p r ih =>
    have e : eqK (sg p.1) (.inr ⟨#[c]⟩) = (p.1 == c) := by
      show decide ((⟨#[p.1]⟩ : Str) = ⟨#[c]⟩) = _
      by_cases h : p.1 = c
      · rw [h]; simp
      · rw [decide_eq_false fun z => h (by cases z; rfl)]
        simp [h]
    rw [List.map_cons, List.find?_cons, List.find?_cons]
    dsimp only
    rw [e]
    cases p.1 == c with
    | true => rfl
    | false => exact ih
theorem codeAt_mem {b : Bk} (h : (b.map (·.1)).Nodup) : ∀ {p : Nat × List Nat}, p ∈ b → codeAt b p.1 = some p.2 := by
  unfold codeAt
  induction b with
  | nil => intro p hp; cases hp
  | cons q r ih =>
    intro p hp
    rw [List.map_cons, List.nodup_cons] at h
    rw [List.find?_cons]
    rcases List.mem_cons.mp hp with rfl | hp
    · simp
    · have : (q.1 == p.1) = false := by
        simp only [beq_eq_false_iff_ne]
        exact fun z => h.1 (by rw [z]; exact List.mem_map_of_mem hp)
      rw [this]
      exact ih h.2 hp
theorem codeAt_some {b : Bk} {c : Nat} {l : List Nat} (h : codeAt b c = some l) : (c, l) ∈ b := by
  unfold codeAt at h
  cases e : b.find? fun p => p.1 == c with
  | none => rw [e] at h; cases h
  | some p =>
    rw [e] at h
    cases h
    have h1 := List.find?_some e
    have h2 := List.mem_of_find?_eq_some e
    have : p.1 = c := by simpa using h1
    rw [← this]
    exact h2
theorem ix_bk {b : Bk} {c : Nat} {l : List Nat} (h : codeAt b c = some l) : ixD (bkD b) (sg c) = .ok (.str (st l)) := by
  show (match lookD (bkE b) (.inr ⟨#[c]⟩) with
    | some d => R.ok d
    | none => .stuck) = _
  rw [look_bk, h]
  rfl
theorem in_bk (b : Bk) (c : Nat) : inD false (sg c) (bkD b) = .ok (.bool (codeAt b c).isSome) := by
  show R.ok (PyData.bool (lookD (bkE b) (.inr ⟨#[c]⟩)).isSome) = _
  rw [look_bk]
  cases codeAt b c <;> rfl
theorem keys_bk (b : Bk) : (bkE b).map (·.1) = b.map fun p => sg p.1 := by
  unfold bkE
  rw [List.map_map]
  rfl
theorem unlike_nodup {xs : List Str} (h : xs.Nodup) : ∀ i, i ≤ xs.length → unlike xs i = i
  | 0, _ => rfl
  | i + 1, hi => by
    unfold unlike
    have hx : xs.getD i Str.empty = xs[i]'(by omega) := by
      rw [List.getD_eq_getElem?_getD, List.getElem?_eq_getElem (by omega)]
      rfl
    have : (xs.take i).any (· == xs.getD i Str.empty) = false := by
      rw [List.any_eq_false]
      intro y hy hyx
      have hyx : y = xs.getD i Str.empty := by simpa using hyx
      obtain ⟨j, hj, e⟩ := List.mem_iff_getElem.mp hy
      rw [List.length_take] at hj
      rw [List.getElem_take] at e
      have : j = i := (List.getElem_inj h).mp (e.trans (hyx.trans hx))
      omega
    rw [this, unlike_nodup h i (by omega)]
    simp
theorem asStrs_of {α : Type} (f : α → Str) (l : List α) : asStrs (l.map fun a => .str (f a)) = some (l.map f) := by
  rw [← asStrs_map (l.map f), List.map_map]
  rfl
theorem st_nodup {α : Type} {f : α → List Nat} {l : List α} (h : (l.map f).Nodup) : (l.map fun a => st (f a)).Nodup := by
  have : (l.map fun a => st (f a)) = (l.map f).map st := by rw [List.map_map]; rfl
  rw [this]
  exact List.Pairwise.map st (fun a b hn z => hn (st_inj z)) h
section
variable {b : Bk}
theorem ce_is_book_1_ap (h : BookOk b) {p : Nat × List Nat} (hp : p ∈ b) (es : List (PD × PD)) : ce_is_book_1 [.fz es, .no, .sh (sg p.1), .no] = .ok (.bool true) := by
  have h1 : lenD [sg p.1] = .ok (.int 1) := rfl
  have h2 : inD false (sg p.1) cv_SIGNS = .ok (.bool true) := by
    show inD false (sg p.1) (.str _) = _
    rw [inD_sign]
    have := h.sgn p hp
    unfold signsL at this
    exact congrArg (fun x => R.ok (PyData.bool x)) (decide_eq_true this)
  unfold ce_is_book_1
  simp [isStrD, h1, h2]
theorem ce_is_book_2_ap (h : BookOk b) {p : Nat × List Nat} (hp : p ∈ b) : ce_is_book_2 [.fz (bkE b), .no, .sh (sg p.1), .no] = .ok (.str (st p.2)) := by
  unfold ce_is_book_2
  simp [ix_bk (codeAt_mem h.keys hp)]
theorem ce_is_book_3_ap (h : BookOk b) {p : Nat × List Nat} (hp : p ∈ b) (x y : SV) (z : SV) : ce_is_book_3 [x, y, z, .sh (.str (st p.2))] = .ok (.bool true) := by
  unfold ce_is_book_3
  have := codeB_len (h.code p hp)
  simp [is_code_st p.2 (by (have : szN = 1000000 := rfl); omega), h.code p hp]
theorem is_book_ok (h : BookOk b) : dn_is_book [bkD b] = .ok (.bool true) := by
  have hl := h.len
  have hz : szN = 1000000 := rfl
  have l1 : lcL (gN 2) dYes ce_is_book_1 [.fz (bkE b), .no, .no, .no] (b.map fun p => sg p.1) = .ok (b.map fun _ => .bool true) :=
    lcL_mapM (fun p : Nat × List Nat => sg p.1) (fun _ => .bool true) b fun p hp => ⟨_, rfl, ce_is_book_1_ap h hp _⟩
  have l2 : lcL (gN 2) dYes ce_is_book_2 [.fz (bkE b), .no, .no, .no] (b.map fun p => sg p.1) = .ok (b.map fun p => .str (st p.2)) :=
    lcL_mapM (fun p : Nat × List Nat => sg p.1) (fun p => .str (st p.2)) b fun p hp => ⟨_, rfl, ce_is_book_2_ap h hp⟩
  have l3 : ∀ x y z, lcL (gN 3) dYes ce_is_book_3 [x, y, z, .no] (b.map fun p => .str (st p.2)) = .ok (b.map fun _ => .bool true) := fun x y z =>
    lcL_mapM (fun p : Nat × List Nat => .str (st p.2)) (fun _ => .bool true) b fun p hp => ⟨_, rfl, ce_is_book_3_ap h hp x y z⟩
  have a1 : allD [.list (b.map fun _ => .bool true)] = .ok (.bool true) := by
    rw [allD_of (fun _ => true) b]
    simp
  have u1 : lenU (.list (b.map fun p => .str (st p.2))) = .ok (.int b.length) := by
    show (match asStrs (b.map fun p => PyData.str (st p.2)) with
      | some ys => if ys.length < 2000 then R.ok (PyData.int (unlike ys ys.length : Nat)) else .stuck
      | none => .stuck) = _
    rw [asStrs_of fun p : Nat × List Nat => st p.2]
    dsimp only
    rw [if_pos (by simp; omega), unlike_nodup (st_nodup h.codes) _ (Nat.le_refl _)]
    simp
  have em : (bkE b).isEmpty = false := by
    unfold bkE
    cases b with
    | nil => exact (h.ne rfl).elim
    | cons p r => rfl
  unfold dn_is_book runB bd_is_book
  simp [isDictD, em, dLc, keys_bk, free, isOwn, wipeE, l1, l2, l3, a1, u1, chk_ok _ (show (b.map fun _ => PyData.bool true).length ≤ szN by simp; omega), chk_ok _ (show (b.map fun p => PyData.str (st p.2)).length ≤ szN by simp; omega), unFl, unFz, isFz]
theorem need_book_ok (h : BookOk b) : dn_need_book [bkD b] = .ok .none := by
  unfold dn_need_book runB bd_need_book
  simp [is_book_ok h]
end
end Tk

namespace Tk
open PySem L2 Dn
variable [Tabl]
/-! ### is_count -/
def isCnt (d : PD) (lo hi : Int) : Bool := match d with
  | .int v => decide (lo ≤ v) && decide (v ≤ hi)
  | _ => false
theorem is_count_eq (d : PD) (lo hi : Int) : dn_is_count [d, .int lo, .int hi] = .ok (.bool (isCnt d lo hi)) := by
  unfold dn_is_count runB sNx bd_is_count
  cases d with
  | int v =>
    by_cases h : lo ≤ v
    · simp [isIntD, isBoolD, isCnt, h]
    · simp [isIntD, isBoolD, isCnt, h]
  | _ => simp [isIntD, isBoolD, isCnt]
end Tk

namespace Tk
open PySem L2 Dn
variable [Tabl]
theorem erase_perm : ∀ (L : List Nat) (i : Nat) (h : i < L.length), (L[i] :: L.eraseIdx i).Perm L
  | a :: r, 0, _ => .refl _
  | a :: r, i + 1, h => by
    have ih := erase_perm r i (by simpa using h)
    show (r[i]'(by simpa using h) :: a :: r.eraseIdx i).Perm (a :: r)
    exact (List.Perm.swap _ _ _).trans (ih.cons a)
abbrev ni (n : Nat) : PD := .int (n : Int)
theorem nodup_pop {A L : List Nat} {i : Nat} (hi : i < L.length) (h : (A ++ L).Nodup) : ((A ++ [L[i]]) ++ L.eraseIdx i).Nodup := by
  have p : ((A ++ [L[i]]) ++ L.eraseIdx i).Perm (A ++ L) := by
    rw [List.append_assoc]
    exact List.Perm.append_left A (erase_perm L i hi)
  exact p.nodup_iff.mpr h
theorem pop_at {i : Nat} {fa : En → R PD} {en : En} {ds : List PD} {j : Nat} {x : Int} {d : PD} (h : en[i]? = some (.ol ds)) (hf : fa en = .ok (.int x)) (hx : x = (j : Int)) (hj : ds[j]? = some d) (hl : ds.length ≤ 1000) : ePop i fa en = .ok (d, en.set i (.ol (ds.eraseIdx j))) := by
  have hlt : j < ds.length := (List.getElem?_eq_some_iff.mp hj).1
  rw [ePop_ap, h, hf]
  simp only [R.bind_ok]
  subst hx
  have e : seqIndex? (j : Int) ds.length = some j := by
    unfold seqIndex?
    have h1 : ¬ (j : Int) < 0 := by omega
    simp only [h1, if_false]
    rw [if_pos (by simp; omega)]
    simp
  rw [if_pos (by omega), e]
  dsimp only
  rw [hj]
theorem map_erase {α β : Type} (f : α → β) : ∀ (l : List α) (i : Nat), (l.map f).eraseIdx i = (l.eraseIdx i).map f
  | [], _ => rfl
  | a :: r, 0 => rfl
  | a :: r, i + 1 => by
    rw [List.map_cons, List.eraseIdx_cons_succ, List.eraseIdx_cons_succ, List.map_cons, map_erase f r i]
theorem signsL_len : signsL.length = 41 := by unfold signsL; decide +kernel
theorem signsL_nodup : signsL.Nodup := by unfold signsL; decide +kernel
theorem st_tl (z : Str) : st z.cps.toList = z := rfl
theorem law_signs_eq : dn__law_signs [] = .ok (.str (st signsL)) := by
  unfold signsL
  rw [st_tl]
  unfold dn__law_signs runB sNx bd__law_signs
  simp only [List.map_nil, sRet_ap, dC_ap, R.bind_ok, R.noexc_ok, noXm_rt, noXm_nx]
theorem listD_st (l : List Nat) (h : l.length ≤ szN) : listD [.str (st l)] = .ok (l.map sg) := if_pos (by rw [st_len]; exact h)
theorem put_new (b : Bk) (c : Nat) (l : List Nat) (h : c ∉ b.map (·.1)) : putD (bkE b) (.inr ⟨#[c]⟩) (.str (st l)) = bkE (b ++ [(c, l)]) := by
  unfold putD
  rw [if_neg]
  · unfold bkE
    rw [List.map_append]
    rfl
  · rw [Bool.not_eq_true, List.any_eq_false]
    intro e he
    unfold bkE at he
    obtain ⟨p, hp, rfl⟩ := List.mem_map.mp he
    show ¬ decide ((⟨#[p.1]⟩ : Str) = ⟨#[c]⟩) = true
    rw [decide_eq_true_eq]
    intro z
    cases z
    exact h (List.mem_map_of_mem hp)
end Tk

namespace Tk
open PySem L2 Dn
variable [Tabl]
theorem sumD_of {α : Type} (f : α → Int) (l : List α) : sumD [.list (l.map fun a => .int (f a))] = .ok (.int (l.map f).sum) := by
  have e : asInts (l.map fun a => PyData.int (f a)) = some (l.map f) := by
    rw [← asInts_map (l.map f), List.map_map]
    rfl
  show (match asInts (l.map fun a => PyData.int (f a)) with
    | some ns => R.ok (PyData.int ns.sum)
    | none => .stuck) = _
  rw [e]
theorem units_of_eq (l : List Nat) (hl : l.length ≤ 1000) : dn_units_of [.str (st l)] = .ok (.int (unitsL l)) := by
  have h1 : lcL (gN 1) dYes ce_units_of_1 [.sh (.str (st l)), .no] (l.map sg) = .ok (l.map fun c => .int (elU c)) := by
    refine lcL_mapM sg (fun c => .int (elU c)) l fun c hc => ⟨[.sh (.str (st l)), .sh (sg c)], rfl, ?_⟩
    unfold ce_units_of_1
    by_cases h : c = 46
    · simp [s_dot, sg_st, st_eq, h, elU]
    · simp [s_dot, sg_st, st_eq, h, elU]
  unfold dn_units_of runB sNx bd_units_of
  simp [dLc, signs_st, free, isOwn, wipeE, h1, chk_ok _ (show (l.map fun c => PyData.int (elU c)).length ≤ szN by simp [szN_eq]; omega), sumD_of, lenD_st l (by omega), unitsL]
def elV (c : Nat) : Int := if c = 46 then 2 else 4
theorem elV_sum (l : List Nat) : (l.map elV).sum = (l.map elU).sum + l.length := by
  induction l with
  | nil => rfl
  | cons c r ih =>
    rw [List.map_cons, List.map_cons, List.sum_cons, List.sum_cons, ih, List.length_cons]
    unfold elV elU
    split <;> omega
theorem law_units_eq (l : List Nat) (hl : l.length ≤ 1000) : dn__law_units [.str (st l)] = .ok (.int (unitsL l + 3)) := by
  have h1 : lcL (gN 1) dYes ce__law_units_1 [.sh (.str (st l)), .no] (l.map sg) = .ok (l.map fun c => .int (elV c)) := by
    refine lcL_mapM sg (fun c => .int (elV c)) l fun c hc => ⟨[.sh (.str (st l)), .sh (sg c)], rfl, ?_⟩
    unfold ce__law_units_1
    by_cases h : c = 46
    · simp [s_dot, sg_st, st_eq, h, elV]
    · simp [s_dot, sg_st, st_eq, h, elV]
  have e : (l.map elV).sum + 2 = unitsL l + 3 := by
    rw [elV_sum]
    unfold unitsL
    omega
  unfold dn__law_units runB sNx bd__law_units
  simp [dLc, signs_st, free, isOwn, wipeE, h1, chk_ok _ (show (l.map fun c => PyData.int (elV c)).length ≤ szN by simp [szN_eq]; omega), sumD_of, e]
abbrev tx (l : List Nat) : PD := .str (st l)
theorem cio_turn (m : PD) (F W : List (List Nat)) (t : Int) (hR : W.length ≤ 32) (hl : ∀ r ∈ W, r.length ≤ 5) (hF : F.length ≤ 62) :
    lp_codes_in_order_4 [.sh m, .ol (F.map encP), .sh (.list (W.map tx)), .sh (.int t), .no, .no, .no] = .ok (.nx [.sh m, .ol ((F ++ nxt W).map encP), .sh (.list ((nxt W).map tx)), .sh (.int t), .no, .no, .no]) := by
  have h1 : lcL (gN 4) dYes ce_codes_in_order_1 [.sh m, .ol (F.map encP), .sh (.list (W.map tx)), .sh (.int t), .no, .no, .no] (W.map tx) = .ok (W.map fun r => tx (r ++ [46])) := by
    refine lcL_mapM tx (fun r => tx (r ++ [46])) W fun r hr => ⟨[.sh m, .ol (F.map encP), .sh (.list (W.map tx)), .sh (.int t), .sh (tx r), .no, .no], rfl, ?_⟩
    have := hl r hr
    unfold ce_codes_in_order_1
    simp [s_dot, addD_st r [46] (by simp; omega)]
  have h2 : lcL (gN 4) dYes ce_codes_in_order_2 [.sh m, .ol (F.map encP), .sh (.list (W.map tx)), .sh (.int t), .no, .no, .no] (W.map tx) = .ok (W.map fun r => tx (r ++ [45])) := by
    refine lcL_mapM tx (fun r => tx (r ++ [45])) W fun r hr => ⟨[.sh m, .ol (F.map encP), .sh (.list (W.map tx)), .sh (.int t), .sh (tx r), .no, .no], rfl, ?_⟩
    have := hl r hr
    unfold ce_codes_in_order_2
    simp [s_dash, addD_st r [45] (by simp; omega)]
  have hn : ∀ r ∈ nxt W, r.length ≤ 6 := fun r hr => by
    unfold nxt at hr
    rcases List.mem_append.mp hr with h | h <;> obtain ⟨q, hq, rfl⟩ := List.mem_map.mp h <;> have := hl q hq <;> simp <;> omega
  have h3 : lcL (gN 4) dYes ce_codes_in_order_3 [.sh m, .ol (F.map encP), .sh (.list ((nxt W).map tx)), .sh (.int t), .no, .no, .no] ((nxt W).map tx) = .ok ((nxt W).map encP) := by
    refine lcL_mapM tx encP (nxt W) fun r hr => ⟨[.sh m, .ol (F.map encP), .sh (.list ((nxt W).map tx)), .sh (.int t), .sh (tx r), .no, .no], rfl, ?_⟩
    have := hn r hr
    unfold ce_codes_in_order_3 encP
    simp [units_of_eq r (by omega), lenD_st r (by omega)]
  have hc : (W.map fun r => tx (r ++ [46])) ++ (W.map fun r => tx (r ++ [45])) = (nxt W).map tx := by
    unfold nxt
    rw [List.map_append, List.map_map, List.map_map]
    rfl
  have hnl : (nxt W).length = W.length + W.length := by unfold nxt; simp
  have a1 : addD (.list (W.map fun r => tx (r ++ [46]))) (.list (W.map fun r => tx (r ++ [45]))) = .ok (.list ((nxt W).map tx)) := by
    rw [addD_li _ _ (by simp; omega), hc]
  unfold lp_codes_in_order_4
  simp [dLc, free, isOwn, wipeE, h1, h2, h3, a1, chk_ok _ (show (W.map fun r => tx (r ++ [46])).length ≤ szN by simp [szN_eq]; omega), chk_ok _ (show (W.map fun r => tx (r ++ [45])).length ≤ szN by simp [szN_eq]; omega), chk_ok _ (show ((nxt W).map encP).length ≤ szN by simp [szN_eq]; omega)]
  simp [szN_eq]
  omega
end Tk

namespace Tk
open PySem L2 Dn
variable [Tabl]
theorem cut_take (xs : List PD) (n : Nat) (h : n ≤ xs.length) : cutD xs none (some (n : Int)) = xs.take n := by
  unfold cutD
  rw [HT.sIx_none, HT.sIx_nat, Nat.min_eq_left h]
  simp
def cioE (m : PD) (F W : List (List Nat)) (x : SV) : En := [.sh m, .ol (F.map encP), .sh (.list (W.map tx)), x, .no, .no, .no]
theorem cio_step (m : PD) (F W : List (List Nat)) (x : SV) (t : Int) (r : List PD) (hR : W.length ≤ 32) (hl : ∀ r ∈ W, r.length ≤ 5) (hF : F.length ≤ 62) :
    loopF (gN 3) lp_codes_in_order_4 (.int t :: r) (cioE m F W x) = loopF (gN 3) lp_codes_in_order_4 r (cioE m (F ++ nxt W) (nxt W) (.sh (.int t))) := by
  rw [loopF_cons]
  unfold cioE
  simp only [gN_ap, R.noexc_ok, R.bind_ok, List.set_cons_succ, List.set_cons_zero]
  rw [cio_turn m F W t hR hl hF]
  rfl
theorem cio_loop (m : PD) : ∃ x, loopF (gN 3) lp_codes_in_order_4 (rngL 0 6) (cioE m [] [[]] .no) = .ok (.nx (cioE m genP (nxt (nxt (nxt (nxt (nxt (nxt [[]])))))) x)) := by
  have e : rngL 0 6 = [.int 0, .int 1, .int 2, .int 3, .int 4, .int 5] := by with_unfolding_all rfl
  refine ⟨.sh (.int 5), ?_⟩
  rw [e, cio_step _ _ _ _ _ _ (by decide) (by decide) (by decide), cio_step _ _ _ _ _ _ (by decide) (by decide) (by decide), cio_step _ _ _ _ _ _ (by decide) (by decide) (by decide), cio_step _ _ _ _ _ _ (by decide) (by decide) (by decide), cio_step _ _ _ _ _ _ (by decide) (by decide) (by decide), cio_step _ _ _ _ _ _ (by decide) (by decide) (by decide)]
  rfl
theorem genP_ok : (ordOk (genP.map encP) && srtOk (genP.map encP) && decide ((genP.map encP).length ≤ szN)) = true := by decide +kernel
theorem sort_genP : sortA [.list (genP.map encP)] = .ok (ord.map encP) := by
  show (if (ordOk (genP.map encP) && srtOk (genP.map encP) && decide ((genP.map encP).length ≤ szN)) = true then R.ok ((genP.map encP).mergeSort leAll) else .stuck) = _
  rw [if_pos genP_ok, ordP]
theorem codes_eq (n : Nat) (hn : n ≤ 126) : dn_codes_in_order [.int (n : Int)] = .ok (.list ((ord.take n).map tx)) := by
  obtain ⟨x, hx⟩ := cio_loop (.int (n : Int))
  have h1 : lcL (gT 3 (gCn (gN 5) (gCn (gN 6) (gCn (gN 4) gNl)))) dYes ce_codes_in_order_5 (cioE (.int (n : Int)) genP (nxt (nxt (nxt (nxt (nxt (nxt [[]])))))) x) (ord.map encP) = .ok (ord.map tx) := by
    refine lcL_mapM encP tx ord fun r hr => ⟨[.sh (.int (n : Int)), .ol (genP.map encP), .sh (.list ((nxt (nxt (nxt (nxt (nxt (nxt [[]])))))).map tx)), x, .sh (tx r), .sh (.int (unitsL r)), .sh (.int r.length)], rfl, rfl⟩
  have r1 : rng1 [cv_MOST_CODE] = .ok (rngL 0 6) := by
    with_unfolding_all rfl
  have e0 : ([.sh (.int (n : Int)), .ol [], .sh (.list [.str ""]), .no, .no, .no, .no] : En) = cioE (.int (n : Int)) [] [[]] .no := by
    unfold cioE
    rfl
  have c1 : cutD (ord.map tx) none (some (n : Int)) = (ord.take n).map tx := by
    rw [cut_take _ _ (by rw [List.length_map, ord_len]; exact hn), List.map_take]
  have k1 : chk (ord.map tx) = .ok (ord.map tx) := chk_ok _ (by rw [List.length_map, ord_len]; decide)
  have k2 : dSl (dF (dLc (dIt asL (dF (dNF sortA (dCons (dVarL 1) dNil)))) (gT 3 (gCn (gN 5) (gCn (gN 6) (gCn (gN 4) gNl)))) dYes ce_codes_in_order_5 [5, 6, 4])) dOno (dOso (dVar 0)) (cioE (.int (n : Int)) genP (nxt (nxt (nxt (nxt (nxt (nxt [[]])))))) x) = .ok (.list ((ord.take n).map tx)) := by
    have k3 : (dIt asL (dF (dNF sortA (dCons (dVarL 1) dNil)))) (cioE (.int (n : Int)) genP (nxt (nxt (nxt (nxt (nxt (nxt [[]])))))) x) = .ok (ord.map encP) := by
      simp only [dIt_ap, dF_ap, dNF_ap, dCons_ap, dNil_ap, dVarL_ap, cioE, List.getElem?_cons_succ, List.getElem?_cons_zero, R.bind_ok, sort_genP, asL_ap]
    have k4 : free (cioE (.int (n : Int)) genP (nxt (nxt (nxt (nxt (nxt (nxt [[]])))))) x) [5, 6, 4] = true := rfl
    have k5 : wipeE (cioE (.int (n : Int)) genP (nxt (nxt (nxt (nxt (nxt (nxt [[]])))))) x) [5, 6, 4] = cioE (.int (n : Int)) genP (nxt (nxt (nxt (nxt (nxt (nxt [[]])))))) x := rfl
    simp only [dSl_ap, dF_ap, dLc, k3, R.bind_ok, k4, if_true, k5, h1, k1, dOno_ap, dOso_ap]
    simp only [R.noexc_ok, R.bind_ok, k1, cioE, dVar_ap, List.getElem?_cons_zero, slD_list, c1]
  unfold dn_codes_in_order runB sNx bd_codes_in_order
  simp only [List.map_cons, List.map_nil, List.length_cons, List.length_nil, Nat.reduceSub, Nat.reduceAdd, List.replicate_succ, List.replicate_zero, List.cons_append, List.nil_append, sSeq_ap, sParM_ap, pF_ap, pS_ap, pNil_ap, dLst_ap, dNil_ap, dN_ap, dCons_ap, dC_ap, R.bind_ok, List.set_cons_succ, List.set_cons_zero, Nat.reduceLT, if_true, sFor_ap, dItA_ap]
  rw [show chk [] = .ok [] from chk_ok [] (by decide), mkL_1]
  simp only [R.bind_ok]
  rw [r1]
  simp only [R.bind_ok]
  rw [e0, hx]
  simp only [R.bind_ok, sRet_ap]
  rw [k2]
  rfl
end Tk

namespace Tk
open PySem L2 Dn
variable [Tabl]
/-! ### counts of signs -/
abbrev Ct := List (Nat × Nat)
def cE (cs : Ct) : List (PD × PD) := cs.map fun p => (sg p.1, ni p.2)
abbrev cD (cs : Ct) : PD := .dict (cE cs)
structure CtOk (cs : Ct) : Prop where
  ne : cs ≠ []
  sgn : ∀ p ∈ cs, p.1 ∈ signsL
  cnt : ∀ p ∈ cs, p.2 ≤ 1000
  keys : (cs.map (·.1)).Nodup
  len : cs.length ≤ 41
theorem keys_ct (cs : Ct) : (cE cs).map (·.1) = cs.map fun p => sg p.1 := by
  unfold cE
  rw [List.map_map]
  rfl
theorem sg_key (a c : Nat) : eqK (sg a) (.inr ⟨#[c]⟩) = (a == c) := by
  show decide ((⟨#[a]⟩ : Str) = ⟨#[c]⟩) = _
  by_cases h : a = c
  · rw [h]; simp
  · rw [decide_eq_false fun z => h (by cases z; rfl)]
    simp [h]
theorem look_ct : ∀ {cs : Ct}, (cs.map (·.1)).Nodup → ∀ {p : Nat × Nat}, p ∈ cs → lookD (cE cs) (.inr ⟨#[p.1]⟩) = some (ni p.2)
  | q :: r, h, p, hp => by
    rw [List.map_cons, List.nodup_cons] at h
    have ih := @look_ct r h.2 p
    unfold lookD cE at ih ⊢
    rw [List.map_cons, List.find?_cons]
    dsimp only
    rw [sg_key]
    rcases List.mem_cons.mp hp with rfl | hp
    · simp
    · have : (q.1 == p.1) = false := by
        simp only [beq_eq_false_iff_ne]
        exact fun z => h.1 (by rw [z]; exact List.mem_map_of_mem hp)
      rw [this]
      exact ih hp
theorem ix_ct {cs : Ct} (h : (cs.map (·.1)).Nodup) {p : Nat × Nat} (hp : p ∈ cs) : ixD (cD cs) (sg p.1) = .ok (ni p.2) := by
  show (match lookD (cE cs) (.inr ⟨#[p.1]⟩) with
    | some d => R.ok d
    | none => .stuck) = _
  rw [look_ct h hp]
theorem sign_in {c : Nat} (h : c ∈ signsL) : inD false (sg c) cv_SIGNS = .ok (.bool true) := by
  show inD false (sg c) (.str _) = _
  rw [inD_sign]
  unfold signsL at h
  exact congrArg (fun x => R.ok (PyData.bool x)) (decide_eq_true h)
theorem all_true {α : Type} (l : List α) : allD [.list (l.map fun _ => .bool true)] = .ok (.bool true) := by
  rw [allD_of (fun _ => true) l]
  simp
theorem ct_em {cs : Ct} (h : CtOk cs) : (cE cs).isEmpty = false := by
  unfold cE
  cases cs with
  | nil => exact (h.ne rfl).elim
  | cons p r => rfl
theorem need_counts_ok {cs : Ct} (h : CtOk cs) : dn_need_counts [cD cs] = .ok .none := by
  have hl := h.len
  have hz : szN = 1000000 := rfl
  have l1 : lcL (gN 1) dYes ce_need_counts_1 [.fz (cE cs), .no] (cs.map fun p => sg p.1) = .ok (cs.map fun _ => .bool true) :=
    lcL_mapM (fun p : Nat × Nat => sg p.1) (fun _ => .bool true) cs fun p hp => ⟨[.fz (cE cs), .sh (sg p.1)], rfl, by
      have h1 : lenD [sg p.1] = .ok (.int 1) := rfl
      unfold ce_need_counts_1
      simp [isStrD, h1, sign_in (h.sgn p hp)]⟩
  have l2 : lcL (gN 1) dYes ce_need_counts_2 [.fz (cE cs), .no] (cs.map fun p => sg p.1) = .ok (cs.map fun _ => .bool true) :=
    lcL_mapM (fun p : Nat × Nat => sg p.1) (fun _ => .bool true) cs fun p hp => ⟨[.fz (cE cs), .sh (sg p.1)], rfl, by
      have h1 := h.cnt p hp
      have h2 : dn_is_count [ni p.2, .int 0, cv_MOST_COUNT] = .ok (.bool true) := by
        show dn_is_count [.int (p.2 : Int), .int 0, .int 1000] = _
        rw [is_count_eq]
        show R.ok (PyData.bool (decide ((0 : Int) ≤ (p.2 : Int)) && decide ((p.2 : Int) ≤ 1000))) = _
        rw [decide_eq_true (by omega), decide_eq_true (by omega)]
        rfl
      unfold ce_need_counts_2
      simp [ix_ct h.keys hp, h2]⟩
  unfold dn_need_counts runB bd_need_counts
  simp [isDictD, ct_em h, dLc, keys_ct, free, isOwn, wipeE, l1, l2, all_true, chk_ok _ (show (cs.map fun _ => PyData.bool true).length ≤ szN by simp; omega)]
/-! ### the signs in order -/
def encS (p : Nat × Nat) : PD := .tuple [.int (0 - (p.2 : Int)), sg p.1]
@[irreducible] def srt (cs : Ct) : Ct := cs.mergeSort (PySem.W.dataLe false encS)
theorem srt_perm (cs : Ct) : (srt cs).Perm cs := by unfold srt; exact List.mergeSort_perm _ _
theorem srt_sorted (cs : Ct) : (srt cs).Pairwise fun p q => q.2 ≤ p.2 := by
  unfold srt
  refine (PySem.W.sort_pairwise (tot_le encS) cs).imp fun {p q} h => ?_
  have := le_head encS (u := 0 - (p.2 : Int)) (v := 0 - (q.2 : Int)) rfl rfl h
  omega
theorem srt_law (cs : Ct) : (cs.map encS).mergeSort leAll = (srt cs).map encS := by
  unfold srt
  exact (PySem.W.sort_maps encS fun a _ b _ => rfl).symm
theorem strs_ct : ∀ cs : Ct, strsOf (cE cs) = some (cs.map fun p => (⟨#[p.1]⟩ : Str))
  | [] => rfl
  | p :: r => by
    show (strsOf (cE r)).map _ = _
    rw [strs_ct r]
    rfl
theorem zip_ct (cs : Ct) : (cs.map fun p => (⟨#[p.1]⟩ : Str)).zip (cs.map encS) = cs.map fun p => (⟨#[p.1]⟩, encS p) := by
  induction cs with
  | nil => rfl
  | cons p r ih => rw [List.map_cons, List.map_cons, List.zip_cons_cons, ih, List.map_cons]
theorem sal_encS (p q : Nat × Nat) : sal (encS p) (encS q) = true := rfl
theorem sign_ok : ∀ c ∈ signsL, PyData.strOk ⟨#[c]⟩ = true := by
  unfold signsL
  decide +kernel
theorem ord_encS (p : Nat × Nat) (h : p.1 ∈ signsL) : ordOne (encS p) = true := by
  unfold ordOne encS
  simp [SeqAt.shaped, PyData.depth, PyData.depthAll, PyData.canLay0, PyData.canLayAll0, sign_ok _ h]
theorem ordOk_S (cs : Ct) (hs : ∀ p ∈ cs, p.1 ∈ signsL) : ordOk (cs.map encS) = true := by
  unfold ordOk
  rw [Bool.and_eq_true]
  constructor
  · rw [List.all_eq_true]
    intro x hx
    obtain ⟨p, hp, rfl⟩ := List.mem_map.mp hx
    exact ord_encS p (hs p hp)
  · cases cs with
    | nil => rfl
    | cons q r =>
      rw [List.map_cons]
      show ((encS q :: r.map encS).all fun y => sal (encS q) y) = true
      rw [List.all_eq_true]
      intro x hx
      rcases List.mem_cons.mp hx with rfl | hx
      · exact sal_encS _ _
      · obtain ⟨p, _, rfl⟩ := List.mem_map.mp hx
        exact sal_encS _ _
theorem srtOk_S (cs : Ct) : srtOk (cs.map encS) = true := by
  unfold srtOk
  rw [Bool.or_eq_true]
  left
  rw [List.all_eq_true]
  intro x hx
  obtain ⟨p, _, rfl⟩ := List.mem_map.mp hx
  rfl
theorem keys_eval {cs : Ct} (h : (cs.map (·.1)).Nodup) (x : SV) : ∀ r : Ct, (∀ p ∈ r, p ∈ cs) → keysK 2 kl_book_for_1 [.sh (cD cs), x, .no] (r.map fun (p : Nat × Nat) => (⟨#[p.1]⟩ : Str)) = .ok (r.map encS)
  | [], _ => rfl
  | p :: r, hr => by
    have e : kl_book_for_1 [.sh (cD cs), x, .sh (sg p.1)] = .ok (encS p) := by
      unfold kl_book_for_1 encS
      simp [ix_ct h (hr p List.mem_cons_self)]
    rw [List.map_cons]
    unfold keysK
    show (match kl_book_for_1 [.sh (cD cs), x, .sh (sg p.1)] with
      | .ok d => (keysK 2 kl_book_for_1 [.sh (cD cs), x, .no] (r.map fun (p : Nat × Nat) => (⟨#[p.1]⟩ : Str))).bind fun ds => R.ok (d :: ds)
      | _ => .stuck) = _
    rw [e, keys_eval h x r fun q hq => hr q (List.mem_cons_of_mem _ hq)]
    rfl
theorem sort_book {cs : Ct} (h : CtOk cs) (x : SV) : dSortK 2 (dCons (dVar 0) dNil) kl_book_for_1 [.sh (cD cs), x, .no] = .ok ((srt cs).map fun (p : Nat × Nat) => sg p.1) := by
  unfold dSortK
  show (match strsOf (cE cs) with
    | some ks => if ownAt [.sh (cD cs), x, .no] 2 = true then R.stuck else (keysK 2 kl_book_for_1 [.sh (cD cs), x, .no] ks).bind fun kds => sortK ks kds
    | none => .stuck) = _
  rw [strs_ct]
  dsimp only
  rw [if_neg (by show ¬ (false = true); decide), keys_eval h.keys x cs fun p hp => hp, R.bind_ok]
  unfold sortK
  rw [if_pos (by rw [ordOk_S cs h.sgn, srtOk_S]; rfl), zip_ct]
  have e := PySem.W.sort_maps (r := PySem.W.dataLe false encS) (s := PySem.W.dataLe false (fun z : Str × PD => z.2)) (fun p : Nat × Nat => ((⟨#[p.1]⟩ : Str), encS p)) (l := cs) fun a _ b _ => rfl
  rw [← e, List.map_map]
  unfold srt
  rfl
end Tk

namespace Tk
open PySem L2 Dn
variable [Tabl]
/-! ### the book told -/
@[irreducible] def bk (cs : Ct) : Bk := ((srt cs).map (·.1)).zip ord
theorem srt_len (cs : Ct) : (srt cs).length = cs.length := (srt_perm cs).length_eq
theorem bk_fst {cs : Ct} (h : CtOk cs) : (bk cs).map (·.1) = (srt cs).map (·.1) := by
  unfold bk
  exact List.map_fst_zip (by rw [List.length_map, srt_len, ord_len]; have := h.len; omega)
theorem bk_snd {cs : Ct} (h : CtOk cs) : (bk cs).map (·.2) = ord.take cs.length := by
  unfold bk
  rw [List.zip_eq_zip_take_min, List.map_snd_zip]
  · rw [List.length_map, srt_len, ord_len, Nat.min_eq_left (by have := h.len; omega)]
  · simp
theorem bk_len {cs : Ct} (h : CtOk cs) : (bk cs).length = cs.length := by
  have := congrArg List.length (bk_fst h)
  rw [List.length_map, List.length_map, srt_len] at this
  exact this
theorem bk_get {cs : Ct} (h : CtOk cs) {i : Nat} {p : Nat × List Nat} (e : (bk cs)[i]? = some p) : ∃ c, (srt cs)[i]? = some (p.1, c) ∧ ord[i]? = some p.2 := by
  unfold bk at e
  rw [List.getElem?_zip_eq_some, List.getElem?_map] at e
  obtain ⟨e1, e2⟩ := e
  cases q : (srt cs)[i]? with
  | none => rw [q] at e1; cases e1
  | some z =>
    rw [q] at e1
    have e1 : z.1 = p.1 := Option.some.inj e1
    exact ⟨z.2, by rw [← e1], e2⟩
theorem bk_ok {cs : Ct} (h : CtOk cs) : BookOk (bk cs) where
  ne := fun e => by
    have := bk_len h
    rw [e] at this
    exact h.ne (List.length_eq_zero_iff.mp this.symm)
  sgn := fun p hp => by
    have : p.1 ∈ (srt cs).map (·.1) := by rw [← bk_fst h]; exact List.mem_map_of_mem hp
    obtain ⟨q, hq, e⟩ := List.mem_map.mp this
    rw [← e]
    exact h.sgn q ((srt_perm cs).mem_iff.mp hq)
  code := fun p hp => by
    have : p.2 ∈ ord.take cs.length := by rw [← bk_snd h]; exact List.mem_map_of_mem hp
    exact ord_code (List.mem_of_mem_take this)
  keys := by
    rw [bk_fst h]
    exact ((srt_perm cs).map _).nodup_iff.mpr h.keys
  codes := by
    rw [bk_snd h]
    exact ord_nodup.sublist (List.take_sublist _ _)
  len := by rw [bk_len h]; exact h.len
theorem pairs_bk : ∀ b : Bk, pairsD (b.map fun p => .tuple [sg p.1, tx p.2]) = some (bkE b)
  | [] => rfl
  | p :: r => by
    show (pairsD (r.map fun p => .tuple [sg p.1, tx p.2])).map _ = _
    rw [pairs_bk r]
    rfl
theorem merge_bk : ∀ (r a : Bk), ((a ++ r).map (·.1)).Nodup → mergeD (bkE a) (bkE r) = some (bkE (a ++ r))
  | [], a, _ => by rw [List.append_nil]; rfl
  | p :: r, a, h => by
    have hp : p.1 ∉ a.map (·.1) := fun z => by
      rw [List.map_append, List.map_cons, List.nodup_append] at h
      exact h.2.2 _ z _ List.mem_cons_self rfl
    show mergeD (putD (bkE a) (.inr ⟨#[p.1]⟩) (.str (st p.2))) (bkE r) = _
    rw [put_new a p.1 p.2 hp, merge_bk r (a ++ [p]) (by rw [List.append_assoc]; exact h), List.append_assoc]
    rfl
theorem dict_bk {b : Bk} (h : (b.map (·.1)).Nodup) : dictPD [.list (b.map fun p => .tuple [sg p.1, tx p.2])] = .ok (bkD b) := by
  show (match pairsD (b.map fun p => .tuple [sg p.1, tx p.2]) with
    | some es => match mergeD [] es with
      | some out => R.ok (PyData.dict out)
      | none => .stuck
    | none => .stuck) = _
  rw [pairs_bk]
  have m : mergeD [] (bkE b) = some (bkE b) := merge_bk b [] h
  show (match mergeD [] (bkE b) with
      | some out => R.ok (PyData.dict out)
      | none => .stuck) = _
  rw [m]
theorem zip_bk {cs : Ct} (h : CtOk cs) : zipD ((srt cs).map fun p => sg p.1) ((ord.take cs.length).map tx) = (bk cs).map fun p => .tuple [sg p.1, tx p.2] := by
  have e1 : ((srt cs).map fun p => sg p.1) = ((bk cs).map (·.1)).map sg := by rw [bk_fst h, List.map_map]; rfl
  rw [← bk_snd h, e1]
  unfold zipD
  generalize bk cs = b
  induction b with
  | nil => rfl
  | cons p r ih =>
    simp only [List.map_cons, List.zip_cons_cons]
    rw [ih]
theorem lenD_map {α : Type} (f : α → PD) (l : List α) : lenD [.list (l.map f)] = .ok (ni l.length) := by
  rw [lenD_list, List.length_map]
theorem book_for_eq {cs : Ct} (h : CtOk cs) : dn_book_for [cD cs] = .ok (bkD (bk cs)) := by
  have hl := h.len
  have l1 := lenD_map (fun p : Nat × Nat => sg p.1) (srt cs)
  rw [srt_len] at l1
  have l2 : lzD [.list ((srt cs).map fun p => sg p.1), .list ((ord.take cs.length).map tx)] = .ok ((bk cs).map fun p => .tuple [sg p.1, tx p.2]) := by
    show R.ok (zipD _ _) = _
    rw [zip_bk h]
  unfold dn_book_for runB bd_book_for
  simp [-List.map_take, need_counts_ok h, sort_book h, -lenD_list, l1, codes_eq cs.length (by omega), l2, dict_bk (bk_ok h).keys]
/-! ### totals -/
def un (b : Bk) (c : Nat) : Int := unitsL ((codeAt b c).getD []) + 3
def tot (b : Bk) (cs : Ct) : Int := (cs.map fun p => (p.2 : Int) * un b p.1).sum
theorem codeAt_of {b : Bk} (h : BookOk b) {c : Nat} (hc : c ∈ b.map (·.1)) : ∃ l, codeAt b c = some l ∧ l.length ≤ 6 ∧ (c, l) ∈ b := by
  obtain ⟨p, hp, rfl⟩ := List.mem_map.mp hc
  exact ⟨p.2, codeAt_mem h.keys hp, (codeB_len (h.code p hp)).2, hp⟩
theorem total_eq {b : Bk} {cs : Ct} (hb : BookOk b) (h : CtOk cs) (hk : ∀ p ∈ cs, p.1 ∈ b.map (·.1)) : dn_total [bkD b, cD cs] = .ok (.int (tot b cs)) := by
  have hl := h.len
  have hz : szN = 1000000 := rfl
  have l1 : lcL (gN 2) dYes ce_total_1 [.sh (bkD b), .fz (cE cs), .no] (cs.map fun p => sg p.1) = .ok (cs.map fun _ => .bool true) :=
    lcL_mapM (fun p : Nat × Nat => sg p.1) (fun _ => .bool true) cs fun p hp => ⟨[.sh (bkD b), .fz (cE cs), .sh (sg p.1)], rfl, by
      obtain ⟨l, e, _⟩ := codeAt_of hb (hk p hp)
      unfold ce_total_1
      simp [in_bk, e]⟩
  have l2 : lcL (gN 2) dYes ce_total_2 [.sh (bkD b), .fz (cE cs), .no] (cs.map fun p => sg p.1) = .ok (cs.map fun p => .int ((p.2 : Int) * un b p.1)) :=
    lcL_mapM (fun p : Nat × Nat => sg p.1) (fun p => .int ((p.2 : Int) * un b p.1)) cs fun p hp => ⟨[.sh (bkD b), .fz (cE cs), .sh (sg p.1)], rfl, by
      obtain ⟨l, e, hl6, _⟩ := codeAt_of hb (hk p hp)
      have hc := h.cnt p hp
      unfold ce_total_2 un
      simp [ix_ct h.keys hp, ix_bk e, units_of_eq l (by omega), e]
      exact mulD_l _ _ (by omega)⟩
  have s1 := sumD_of (fun p : Nat × Nat => (p.2 : Int) * un b p.1) cs
  unfold dn_total runB bd_total
  simp [need_book_ok hb, need_counts_ok h, dLc, keys_ct, free, isOwn, wipeE, l1, l2, all_true, s1, tot, chk_ok _ (show (cs.map fun _ => PyData.bool true).length ≤ szN by simp; omega), chk_ok _ (show (cs.map fun p => PyData.int ((p.2 : Int) * un b p.1)).length ≤ szN by simp; omega)]
end Tk

namespace Tk
open PySem L2 Dn
variable [Tabl]
/-! ### sums over counts -/
def sumF (cs : Ct) (f : Nat → Int) : Int := (cs.map fun q => (q.2 : Int) * f q.1).sum
theorem sum_same : ∀ {cs : Ct} {f g : Nat → Int}, (∀ q ∈ cs, g q.1 = f q.1) → sumF cs g = sumF cs f
  | [], _, _, _ => rfl
  | q :: r, f, g, h => by
    have ih := @sum_same r f g fun x hx => h x (List.mem_cons_of_mem _ hx)
    unfold sumF at ih ⊢
    rw [List.map_cons, List.map_cons, List.sum_cons, List.sum_cons, ih, h q List.mem_cons_self]
theorem sum_upd : ∀ {cs : Ct}, (cs.map (·.1)).Nodup → ∀ {p : Nat × Nat}, p ∈ cs → ∀ {f g : Nat → Int}, (∀ c, c ≠ p.1 → g c = f c) → sumF cs g = sumF cs f + (p.2 : Int) * (g p.1 - f p.1)
  | q :: r, h, p, hp, f, g, hf => by
    rw [List.map_cons, List.nodup_cons] at h
    rcases List.mem_cons.mp hp with rfl | hp
    · have e : sumF r g = sumF r f := sum_same fun x hx => hf _ fun z => h.1 (by rw [← z]; exact List.mem_map_of_mem hx)
      unfold sumF at e ⊢
      rw [List.map_cons, List.map_cons, List.sum_cons, List.sum_cons, e, Int.mul_sub]
      omega
    · have ih := sum_upd h.2 hp hf
      have e : g q.1 = f q.1 := hf _ fun z => h.1 (by rw [z]; exact List.mem_map_of_mem hp)
      unfold sumF at ih ⊢
      rw [List.map_cons, List.map_cons, List.sum_cons, List.sum_cons, ih, e]
      omega
theorem sum_swap {cs : Ct} (h : (cs.map (·.1)).Nodup) {p q : Nat × Nat} (hp : p ∈ cs) (hq : q ∈ cs) {f g : Nat → Int} (h1 : g p.1 = f q.1) (h2 : g q.1 = f p.1) (h3 : ∀ c, c ≠ p.1 → c ≠ q.1 → g c = f c) (hm : 0 ≤ ((p.2 : Int) - q.2) * (f q.1 - f p.1)) : sumF cs f ≤ sumF cs g := by
  by_cases e : p.1 = q.1
  · have : sumF cs g = sumF cs f := sum_same fun x _ => by
      by_cases z : x.1 = p.1
      · rw [z, h1, ← e]
      · exact h3 _ z fun y => z (y.trans e.symm)
    omega
  · have a := sum_upd h hp (f := f) (g := fun c => if c = p.1 then f q.1 else f c) fun c hc => if_neg hc
    have b := sum_upd h hq (f := fun c => if c = p.1 then f q.1 else f c) (g := g) fun c hc => by
      by_cases z : c = p.1
      · rw [z, h1, if_pos rfl]
      · rw [if_neg z]
        exact h3 c z hc
    have x1 : (if q.1 = p.1 then f q.1 else f q.1) = f q.1 := by split <;> rfl
    rw [if_pos rfl] at a
    rw [x1, h2, a] at b
    rw [Int.sub_mul, Int.mul_sub, Int.mul_sub] at hm
    rw [Int.mul_sub, Int.mul_sub] at b
    omega
/-! ### codes set -/
def setC (b : Bk) (a : Nat) (l : List Nat) : Bk := b.map fun p => if p.1 = a then (p.1, l) else p
theorem setC_fst (b : Bk) (a : Nat) (l : List Nat) : (setC b a l).map (·.1) = b.map (·.1) := by
  unfold setC
  rw [List.map_map]
  refine List.map_congr_left fun p _ => ?_
  show (if p.1 = a then (p.1, l) else p).1 = p.1
  split <;> rfl
theorem setC_at : ∀ (b : Bk) (a : Nat) (l : List Nat), a ∈ b.map (·.1) → ∀ c, codeAt (setC b a l) c = if c = a then some l else codeAt b c
  | [], a, l, h, c => by simp at h
  | p :: r, a, l, h, c => by
    have ih := setC_at r a l
    unfold codeAt setC at ih ⊢
    rw [List.map_cons, List.find?_cons, List.find?_cons]
    by_cases e : p.1 = a
    · rw [if_pos e]
      dsimp only
      by_cases z : c = a
      · rw [if_pos z, z, ← e]
        simp
      · have : (p.1 == c) = false := by simp; intro q; exact z (q.symm.trans e)
        rw [if_neg z, this]
        dsimp only
        by_cases m : a ∈ r.map (·.1)
        · rw [ih m c, if_neg z]
        · have : (r.map fun p => if p.1 = a then (p.1, l) else p) = r := by
            conv => rhs; rw [← List.map_id r]
            refine List.map_congr_left fun x hx => ?_
            rw [if_neg fun q => m (by rw [← q]; exact List.mem_map_of_mem hx)]
            rfl
          rw [this]
    · have hm : a ∈ r.map (·.1) := by
        rw [List.map_cons] at h
        rcases List.mem_cons.mp h with q | q
        · exact absurd q.symm e
        · exact q
      rw [if_neg e]
      by_cases z : p.1 = c
      · have : (p.1 == c) = true := by simp [z]
        rw [this, if_neg fun q => e (z.trans q)]
      · have : (p.1 == c) = false := by simp [z]
        rw [this]
        exact ih hm c
theorem mem_set {b : Bk} {a : Nat} {l : List Nat} {x : Nat × List Nat} (h : x ∈ setC b a l) : (x.1 = a ∧ x.2 = l ∧ a ∈ b.map (·.1)) ∨ (x.1 ≠ a ∧ x ∈ b) := by
  unfold setC at h
  obtain ⟨p, hp, e⟩ := List.mem_map.mp h
  by_cases z : p.1 = a
  · rw [if_pos z] at e
    subst e
    exact .inl ⟨z, rfl, by rw [← z]; exact List.mem_map_of_mem hp⟩
  · rw [if_neg z] at e
    subst e
    exact .inr ⟨z, hp⟩
theorem inj_of : ∀ {b : Bk}, (b.map (·.2)).Nodup → ∀ p ∈ b, ∀ q ∈ b, p.2 = q.2 → p = q
  | x :: r, h, p, hp, q, hq, e => by
    rw [List.map_cons, List.nodup_cons] at h
    rcases List.mem_cons.mp hp with k1 | m1
    · rcases List.mem_cons.mp hq with k2 | m2
      · rw [k1, k2]
      · exact absurd (by rw [← k1, e]; exact List.mem_map_of_mem m2) h.1
    · rcases List.mem_cons.mp hq with k2 | m2
      · exact absurd (by rw [← k2, ← e]; exact List.mem_map_of_mem m1) h.1
      · exact inj_of h.2 p m1 q m2 e
theorem nodup_of : ∀ {b : Bk}, (b.map (·.1)).Nodup → (∀ p ∈ b, ∀ q ∈ b, p.2 = q.2 → p.1 = q.1) → (b.map (·.2)).Nodup
  | [], _, _ => List.nodup_nil
  | x :: r, h, hi => by
    rw [List.map_cons, List.nodup_cons] at h ⊢
    refine ⟨fun z => ?_, nodup_of h.2 fun p hp q hq => hi p (List.mem_cons_of_mem _ hp) q (List.mem_cons_of_mem _ hq)⟩
    obtain ⟨q, hq, e⟩ := List.mem_map.mp z
    exact h.1 (by rw [hi x List.mem_cons_self q (List.mem_cons_of_mem _ hq) e.symm]; exact List.mem_map_of_mem hq)
theorem put_set {b : Bk} {a : Nat} {l : List Nat} (h : a ∈ b.map (·.1)) : putD (bkE b) (.inr ⟨#[a]⟩) (.str (st l)) = bkE (setC b a l) := by
  unfold putD
  have hk : ∀ p : Nat × List Nat, eqK (sg p.1) (.inr ⟨#[a]⟩) = (p.1 == a) := fun p => sg_key _ _
  rw [if_pos]
  · unfold bkE setC
    rw [List.map_map, List.map_map]
    refine List.map_congr_left fun p _ => ?_
    show (if eqK (sg p.1) (.inr ⟨#[a]⟩) = true then (sg p.1, PyData.str (st l)) else (sg p.1, PyData.str (st p.2))) = _
    rw [hk]
    show _ = (sg (if p.1 = a then (p.1, l) else p).1, PyData.str (st (if p.1 = a then (p.1, l) else p).2))
    by_cases z : p.1 = a
    · rw [if_pos z, if_pos (by simp [z])]
    · rw [if_neg z, if_neg (by simp [z])]
  · rw [List.any_eq_true]
    obtain ⟨p, hp, e⟩ := List.mem_map.mp h
    refine ⟨(sg p.1, .str (st p.2)), ?_, ?_⟩
    · unfold bkE
      exact List.mem_map.mpr ⟨p, hp, rfl⟩
    · show eqK (sg p.1) (.inr ⟨#[a]⟩) = true
      rw [hk]
      simp [e]
end Tk

namespace Tk
open PySem L2 Dn
variable [Tabl]
theorem at_bk {cs : Ct} (h : CtOk cs) {p : Nat × Nat} (hp : p ∈ cs) : ∃ i l, (srt cs)[i]? = some p ∧ ord[i]? = some l ∧ i < cs.length ∧ codeAt (bk cs) p.1 = some l := by
  obtain ⟨i, hi, e⟩ := List.mem_iff_getElem.mp ((srt_perm cs).mem_iff.mpr hp)
  have hn : i < cs.length := by rw [← srt_len]; exact hi
  have hb : i < (bk cs).length := by rw [bk_len h]; exact hn
  obtain ⟨c, e1, e2⟩ := bk_get h (List.getElem?_eq_getElem hb)
  rw [List.getElem?_eq_getElem hi, e] at e1
  have e1 := Option.some.inj e1
  refine ⟨i, (bk cs)[i].2, by rw [List.getElem?_eq_getElem hi, e], e2, hn, ?_⟩
  have := codeAt_mem (bk_ok h).keys (List.getElem_mem hb)
  rw [show p.1 = (bk cs)[i].1 from by rw [e1]]
  exact this
theorem ord_le {i j : Nat} {a b : List Nat} (hi : ord[i]? = some a) (hj : ord[j]? = some b) (h : i < j) : unitsL a ≤ unitsL b := by
  obtain ⟨l1, e1⟩ := List.getElem?_eq_some_iff.mp hi
  obtain ⟨l2, e2⟩ := List.getElem?_eq_some_iff.mp hj
  have := List.pairwise_iff_getElem.mp ord_units i j l1 l2 h
  rw [e1, e2] at this
  exact this
theorem srt_le {cs : Ct} {i j : Nat} {a b : Nat × Nat} (hi : (srt cs)[i]? = some a) (hj : (srt cs)[j]? = some b) (h : i < j) : b.2 ≤ a.2 := by
  obtain ⟨l1, e1⟩ := List.getElem?_eq_some_iff.mp hi
  obtain ⟨l2, e2⟩ := List.getElem?_eq_some_iff.mp hj
  have := List.pairwise_iff_getElem.mp (srt_sorted cs) i j l1 l2 h
  rw [e1, e2] at this
  exact this
theorem mono_un {cs : Ct} (h : CtOk cs) {p q : Nat × Nat} (hp : p ∈ cs) (hq : q ∈ cs) : 0 ≤ ((p.2 : Int) - q.2) * (un (bk cs) q.1 - un (bk cs) p.1) := by
  obtain ⟨i, l, a1, a2, a3, a4⟩ := at_bk h hp
  obtain ⟨j, m, b1, b2, b3, b4⟩ := at_bk h hq
  have e1 : un (bk cs) p.1 = unitsL l + 3 := by unfold un; rw [a4]; rfl
  have e2 : un (bk cs) q.1 = unitsL m + 3 := by unfold un; rw [b4]; rfl
  rw [e1, e2]
  rcases Nat.lt_trichotomy i j with z | z | z
  · have x := ord_le a2 b2 z
    have y := srt_le a1 b1 z
    exact Int.mul_nonneg (by omega) (by omega)
  · subst z
    rw [a1] at b1
    cases b1
    rw [Int.sub_self, Int.zero_mul]
    exact Int.le_refl 0
  · have x := ord_le b2 a2 z
    have y := srt_le b1 a1 z
    exact Int.mul_nonneg_of_nonpos_of_nonpos (by omega) (by omega)
theorem tot_sum (b : Bk) (cs : Ct) : tot b cs = sumF cs (un b) := rfl
theorem key_bk {cs : Ct} (h : CtOk cs) {p : Nat × Nat} (hp : p ∈ cs) : p.1 ∈ (bk cs).map (·.1) := by
  rw [bk_fst h]
  exact ((srt_perm cs).map (·.1)).mem_iff.mpr (List.mem_map_of_mem hp)
/-- two codes exchanged -/
def swp (b : Bk) (x y : Nat) (lx ly : List Nat) : Bk := setC (setC b x ly) y lx
theorem swp_fst (b : Bk) (x y : Nat) (lx ly : List Nat) : (swp b x y lx ly).map (·.1) = b.map (·.1) := by
  unfold swp
  rw [setC_fst, setC_fst]
theorem swp_mem {b : Bk} (hb : BookOk b) {x y : Nat} {lx ly : List Nat} (hx : codeAt b x = some lx) (hy : codeAt b y = some ly) {p : Nat × List Nat} (hp : p ∈ swp b x y lx ly) : ((if p.1 = y then x else if p.1 = x then y else p.1), p.2) ∈ b := by
  unfold swp at hp
  rcases mem_set hp with ⟨e1, e2, _⟩ | ⟨e1, hp⟩
  · rw [if_pos e1, e2]
    exact codeAt_some hx
  · rcases mem_set hp with ⟨e3, e4, _⟩ | ⟨e3, hp⟩
    · rw [if_neg e1, if_pos e3, e4]
      exact codeAt_some hy
    · rw [if_neg e1, if_neg e3]
      exact hp
theorem sw_inj {a b x y : Nat} (h : (if a = y then x else if a = x then y else a) = (if b = y then x else if b = x then y else b)) : a = b := by
  by_cases p1 : a = y
  · rw [if_pos p1] at h
    by_cases q1 : b = y
    · omega
    · rw [if_neg q1] at h
      by_cases q2 : b = x
      · rw [if_pos q2] at h; omega
      · rw [if_neg q2] at h; omega
  · rw [if_neg p1] at h
    by_cases p2 : a = x
    · rw [if_pos p2] at h
      by_cases q1 : b = y
      · rw [if_pos q1] at h; omega
      · rw [if_neg q1] at h
        by_cases q2 : b = x
        · omega
        · rw [if_neg q2] at h; omega
    · rw [if_neg p2] at h
      by_cases q1 : b = y
      · rw [if_pos q1] at h; omega
      · rw [if_neg q1] at h
        by_cases q2 : b = x
        · rw [if_pos q2] at h; omega
        · rw [if_neg q2] at h; omega
theorem swp_ok {b : Bk} (hb : BookOk b) {x y : Nat} {lx ly : List Nat} (hx : codeAt b x = some lx) (hy : codeAt b y = some ly) : BookOk (swp b x y lx ly) where
  ne := fun e => hb.ne (by
    have := congrArg List.length (swp_fst b x y lx ly)
    rw [e] at this
    simp at this
    exact List.length_eq_zero_iff.mp this.symm)
  sgn := fun p hp => by
    have : p.1 ∈ b.map (·.1) := by rw [← swp_fst b x y lx ly]; exact List.mem_map_of_mem hp
    obtain ⟨q, hq, e⟩ := List.mem_map.mp this
    rw [← e]
    exact hb.sgn q hq
  code := fun p hp => by
    have := hb.code _ (swp_mem hb hx hy hp)
    exact this
  keys := by rw [swp_fst]; exact hb.keys
  codes := nodup_of (by rw [swp_fst]; exact hb.keys) fun p hp q hq e => by
    have := congrArg Prod.fst (inj_of hb.codes _ (swp_mem hb hx hy hp) _ (swp_mem hb hx hy hq) e)
    exact sw_inj this
  len := by
    have := congrArg List.length (swp_fst b x y lx ly)
    rw [List.length_map, List.length_map] at this
    rw [this]
    exact hb.len
theorem swp_tot {cs : Ct} (h : CtOk cs) {p q : Nat × Nat} (hp : p ∈ cs) (hq : q ∈ cs) {lx ly : List Nat} (hx : codeAt (bk cs) p.1 = some lx) (hy : codeAt (bk cs) q.1 = some ly) : tot (bk cs) cs ≤ tot (swp (bk cs) p.1 q.1 lx ly) cs := by
  rw [tot_sum, tot_sum]
  have k1 := key_bk h hp
  have k2 : q.1 ∈ (setC (bk cs) p.1 ly).map (·.1) := by rw [setC_fst]; exact key_bk h hq
  have e : ∀ c, codeAt (swp (bk cs) p.1 q.1 lx ly) c = if c = q.1 then some lx else if c = p.1 then some ly else codeAt (bk cs) c := fun c => by
    unfold swp
    rw [setC_at _ _ _ k2, setC_at _ _ _ k1]
  refine sum_swap h.keys hp hq ?_ ?_ (fun c h1 h2 => ?_) (mono_un h hp hq)
  · unfold un
    rw [e, hy]
    by_cases z : p.1 = q.1
    · rw [if_pos z]
      rw [z, hy] at hx
      rw [hx]
    · rw [if_neg z, if_pos rfl]
  · unfold un
    rw [e, if_pos rfl, hx]
  · unfold un
    rw [e, if_neg h2, if_neg h1]
/-- one other code -/
theorem set_ok {b : Bk} (hb : BookOk b) {x : Nat} {l : List Nat} (hl : codeB l = true) (hn : l ∉ b.map (·.2)) : BookOk (setC b x l) where
  ne := fun e => hb.ne (by
    have := congrArg List.length (setC_fst b x l)
    rw [e] at this
    simp at this
    exact List.length_eq_zero_iff.mp this.symm)
  sgn := fun p hp => by
    have : p.1 ∈ b.map (·.1) := by rw [← setC_fst b x l]; exact List.mem_map_of_mem hp
    obtain ⟨q, hq, e⟩ := List.mem_map.mp this
    rw [← e]
    exact hb.sgn q hq
  code := fun p hp => by
    rcases mem_set hp with ⟨_, e, _⟩ | ⟨_, hp⟩
    · rw [e]; exact hl
    · exact hb.code p hp
  keys := by rw [setC_fst]; exact hb.keys
  codes := nodup_of (by rw [setC_fst]; exact hb.keys) fun p hp q hq e => by
    rcases mem_set hp with ⟨a1, a2, _⟩ | ⟨a1, a2⟩
    · rcases mem_set hq with ⟨b1, b2, _⟩ | ⟨b1, b2⟩
      · rw [a1, b1]
      · exact absurd (by rw [← a2, e]; exact List.mem_map_of_mem b2) hn
    · rcases mem_set hq with ⟨b1, b2, _⟩ | ⟨b1, b2⟩
      · exact absurd (by rw [← b2, ← e]; exact List.mem_map_of_mem a2) hn
      · rw [inj_of hb.codes p a2 q b2 e]
  len := by
    have := congrArg List.length (setC_fst b x l)
    rw [List.length_map, List.length_map] at this
    rw [this]
    exact hb.len
theorem far_code {cs : Ct} (h : CtOk cs) {l m : List Nat} (hl : l ∈ ord) (hn : l ∉ ord.take cs.length) (hm : m ∈ ord.take cs.length) : unitsL m ≤ unitsL l := by
  obtain ⟨i, hi, e⟩ := List.mem_iff_getElem.mp hm
  obtain ⟨j, hj, e2⟩ := List.mem_iff_getElem.mp hl
  rw [List.length_take] at hi
  rw [List.getElem_take] at e
  have hij : i < j := by
    apply Nat.lt_of_not_le
    intro z
    refine hn (List.mem_iff_getElem.mpr ⟨j, by rw [List.length_take]; omega, ?_⟩)
    rw [List.getElem_take, e2]
  exact ord_le (i := i) (j := j) (by rw [List.getElem?_eq_getElem (by omega), e]) (by rw [List.getElem?_eq_getElem hj, e2]) hij
theorem set_tot {cs : Ct} (h : CtOk cs) {b : Bk} (hb : BookOk b) (hs : ∀ m ∈ b.map (·.2), m ∈ ord.take cs.length) {p : Nat × Nat} (hp : p ∈ cs) (hk : p.1 ∈ b.map (·.1)) {l : List Nat} (hl : l ∈ ord) (hn : l ∉ ord.take cs.length) : tot b cs ≤ tot (setC b p.1 l) cs := by
  rw [tot_sum, tot_sum]
  have e := sum_upd h.keys hp (f := un b) (g := un (setC b p.1 l)) fun c hc => by
    unfold un
    rw [setC_at _ _ _ hk, if_neg hc]
  obtain ⟨m, m1, m2, m3⟩ := codeAt_of hb hk
  have e1 : un b p.1 = unitsL m + 3 := by unfold un; rw [m1]; rfl
  have e2 : un (setC b p.1 l) p.1 = unitsL l + 3 := by unfold un; rw [setC_at _ _ _ hk, if_pos rfl]; rfl
  have e3 := far_code h hl hn (hs m (List.mem_map.mpr ⟨_, m3, rfl⟩))
  have e4 : 0 ≤ (p.2 : Int) * (un (setC b p.1 l) p.1 - un b p.1) := Int.mul_nonneg (by omega) (by rw [e1, e2]; omega)
  omega
end Tk

namespace Tk
open PySem L2 Dn
variable [Tabl]
/-! ### the law's counts -/
structure LC (L : List Nat) (F : Ct) : Prop where
  s1 : ∀ c ∈ L, c ∈ signsL
  s2 : ∀ p ∈ F, p.1 ∈ signsL
  s3 : (F.map (·.1) ++ L).Nodup
  c1 : ∀ p ∈ F, p.2 ≤ 1000
  len : F.length + L.length = 41
theorem LC.step {L : List Nat} {F : Ct} (h : LC L F) {i v : Nat} (hi : i < L.length) (hv : v ≤ 1000) : LC (L.eraseIdx i) (F ++ [(L[i], v)]) where
  s1 := fun c hc => h.s1 c (List.mem_of_mem_eraseIdx hc)
  s2 := fun p hp => by
    rcases List.mem_append.mp hp with hp | hp
    · exact h.s2 p hp
    · rw [List.mem_singleton.mp hp]
      exact h.s1 _ (List.getElem_mem hi)
  s3 := by
    rw [List.map_append]
    exact nodup_pop hi h.s3
  c1 := fun p hp => by
    rcases List.mem_append.mp hp with hp | hp
    · exact h.c1 p hp
    · rw [List.mem_singleton.mp hp]
      exact hv
  len := by
    have := h.len
    rw [List.length_append, List.length_eraseIdx_of_lt hi]
    simp
    omega
theorem LC.ok {L : List Nat} {F : Ct} (h : LC L F) (hF : F ≠ []) : CtOk F := ⟨hF, h.s2, h.c1, (List.nodup_append.mp h.s3).1, by have := h.len; omega⟩
theorem put_newC (F : Ct) (c v : Nat) (h : c ∉ F.map (·.1)) : putD (cE F) (.inr ⟨#[c]⟩) (ni v) = cE (F ++ [(c, v)]) := by
  unfold putD
  rw [if_neg]
  · unfold cE
    rw [List.map_append]
    rfl
  · rw [Bool.not_eq_true, List.any_eq_false]
    intro e he
    unfold cE at he
    obtain ⟨p, hp, rfl⟩ := List.mem_map.mp he
    show ¬ eqK (sg p.1) (.inr ⟨#[c]⟩) = true
    rw [sg_key]
    intro z
    have : p.1 = c := by simpa using z
    exact h (by rw [← this]; exact List.mem_map_of_mem hp)
def bnd3 (t : Int) : Nat := ([3, 20, 1001] : List Nat).getD t.toNat 3
theorem bnd3_ix (m : Int) : ixD (.list [.int 3, .int 20, .int 1001]) (.int (m % 3)) = .ok (ni (bnd3 (m % 3))) ∧ 1 ≤ bnd3 (m % 3) ∧ bnd3 (m % 3) ≤ 1001 := by
  have h1 := Int.emod_nonneg m (show (3 : Int) ≠ 0 by decide)
  have h2 := Int.emod_lt_of_pos m (show (0 : Int) < 3 by decide)
  have : m % 3 = 0 ∨ m % 3 = 1 ∨ m % 3 = 2 := by omega
  unfold bnd3
  rcases this with e | e | e <;> rw [e] <;> exact ⟨rfl, by decide, by decide⟩
def bnd2 (t : Int) : Nat := ([5, 41] : List Nat).getD t.toNat 5
theorem bnd2_ix (m : Int) : ixD (.list [.int 5, .int 41]) (.int (m % 2)) = .ok (ni (bnd2 (m % 2))) ∧ 1 ≤ bnd2 (m % 2) ∧ bnd2 (m % 2) ≤ 41 := by
  have h1 := Int.emod_nonneg m (show (2 : Int) ≠ 0 by decide)
  have h2 := Int.emod_lt_of_pos m (show (0 : Int) < 2 by decide)
  have : m % 2 = 0 ∨ m % 2 = 1 := by omega
  unfold bnd2
  rcases this with e | e <;> rw [e] <;> exact ⟨rfl, by decide, by decide⟩
def ctE (a0 a1 : SV) (m : Int) (F : Ct) (L : List Nat) (x y : SV) (tl : List SV) : En := a0 :: a1 :: .sh (.int m) :: .od (cE F) :: .ol (L.map sg) :: x :: y :: tl
theorem ct_turn (a0 a1 : SV) (tl : List SV) (m : Int) (L : List Nat) (F : Ct) (y : SV) (j : Nat) (h : LC L F) (hL : L ≠ []) :
    ∃ L' F' y', LC L' F' ∧ L'.length + 1 = L.length ∧ F' ≠ [] ∧ lp_law_1 (ctE a0 a1 m F L (.sh (.int (0 + (j : Int)))) y tl) = .ok (.nx (ctE a0 a1 m F' L' (.sh (.int (0 + (j : Int)))) y' tl)) := by
  generalize hd : drawn m (10 + (0 + (j : Int))) = d
  have hn : 0 ≤ d := by rw [← hd]; exact drawn_nn _ _
  have hd2 : drawn m (10 + (j : Int)) = d := by rw [← hd]; congr 1; omega
  have hLp : 0 < L.length := List.length_pos_iff.mpr hL
  have hLl : L.length ≤ 41 := by have := h.len; omega
  obtain ⟨x1, x2, x3⟩ := bnd3_ix (d / 1048576)
  have b1 := Int.emod_nonneg (d / 8) (show (L.length : Int) ≠ 0 by omega)
  have b2 := Int.emod_lt_of_pos (d / 8) (show (0 : Int) < (L.length : Int) by omega)
  have b3 := Int.emod_nonneg (d / 1024) (show (bnd3 (d / 1048576 % 3) : Int) ≠ 0 by omega)
  have b4 := Int.emod_lt_of_pos (d / 1024) (show (0 : Int) < (bnd3 (d / 1048576 % 3) : Int) by omega)
  generalize hi1 : (d / 8 % (L.length : Int)).toNat = i1
  generalize hv1 : (d / 1024 % (bnd3 (d / 1048576 % 3) : Int)).toNat = v1
  have e1 : d / 8 % (L.length : Int) = (i1 : Int) := by omega
  have e2 : d / 1024 % (bnd3 (d / 1048576 % 3) : Int) = (v1 : Int) := by omega
  have hi : i1 < L.length := by omega
  have hv : v1 ≤ 1000 := by omega
  refine ⟨L.eraseIdx i1, F ++ [(L[i1], v1)], .sh (.int d), h.step hi hv, ?_, by simp, ?_⟩
  · rw [List.length_eraseIdx_of_lt hi]; omega
  have m1 : fdivD (.int d) (.int 8) = .ok (.int (d / 8)) := fdivD_int _ _ (by decide)
  have m2 : modD (.int (d / 8)) (.int (L.length : Int)) = .ok (.int (d / 8 % (L.length : Int))) := modD_int _ _ (by omega)
  have m3 : powD (.int 2) (.int 20) = .ok (.int 1048576) := rfl
  have m4 : fdivD (.int d) (.int 1048576) = .ok (.int (d / 1048576)) := fdivD_int _ _ (by decide)
  have m5 : modD (.int (d / 1048576)) (.int 3) = .ok (.int (d / 1048576 % 3)) := modD_int _ _ (by decide)
  have m6 : fdivD (.int d) (.int 1024) = .ok (.int (d / 1024)) := fdivD_int _ _ (by decide)
  have m7 : modD (.int (d / 1024)) (ni (bnd3 (d / 1048576 % 3))) = .ok (.int (d / 1024 % (bnd3 (d / 1048576 % 3) : Int))) := modD_int _ _ (by omega)
  have p2 : ePop 4 (d2 modD (d2 fdivD (dVar 6) (dC (.int 8))) (dN lenD (dCons (dVarL 4) dNil))) (ctE a0 a1 m F L (.sh (.int (0 + (j : Int)))) (.sh (.int d)) tl) = .ok (sg L[i1], ctE a0 a1 m F (L.eraseIdx i1) (.sh (.int (0 + (j : Int)))) (.sh (.int d)) tl) := by
    rw [pop_at (j := i1) (x := d / 8 % (L.length : Int)) (ds := L.map sg) (d := sg L[i1]) rfl (by unfold ctE; simp [m1, m2]) e1 (by rw [List.getElem?_map, List.getElem?_eq_getElem hi]; rfl) (by simp; omega), map_erase]
    rfl
  have hk : L[i1] ∉ F.map (·.1) := fun hm => (List.nodup_append.mp h.s3).2.2 _ hm _ (List.getElem_mem hi) rfl
  have p3 := put_newC F L[i1] v1 hk
  have hlen : (cE F).length + 1 ≤ szN := by
    have := h.len
    unfold cE szN
    simp
    omega
  have p4 : (d2 modD (d2 fdivD (dVar 6) (dC (.int 1024))) (d2 ixD (dN mkL (dCons (dC (.int 3)) (dCons (dC (.int 20)) (dCons (dC (.int 1001)) dNil)))) (d2 modD (d2 fdivD (dVar 6) (d2 powD (dC (.int 2)) (dC (.int 20)))) (dC (.int 3))))) (ctE a0 a1 m F L (.sh (.int (0 + (j : Int)))) (.sh (.int d)) tl) = .ok (ni v1) := by
    unfold ctE
    simp [m3, m4, m5, m6, m7, x1]
    exact e2
  have s1 : sAsg 6 (dCall dn__law_drawn (dCons (dVar 2) (dCons (d2 addD (dC (.int 10)) (dVar 5)) dNil))) (ctE a0 a1 m F L (.sh (.int (0 + (j : Int)))) y tl) = .ok (.nx (ctE a0 a1 m F L (.sh (.int (0 + (j : Int)))) (.sh (.int d)) tl)) := by
    unfold ctE
    simp [drawn_eq, hd2]
  unfold lp_law_1
  rw [sSeq_ap, s1]
  simp only [R.bind_ok]
  rw [sPut_ap, p4, p2]
  show (if (cE F).length + 1 ≤ szN then R.ok (Fl.nx (List.set _ 3 (.od (putD (cE F) (.inr ⟨#[L[i1]]⟩) (ni v1))))) else .stuck) = _
  rw [if_pos hlen, p3]
  rfl
theorem ct_loop (a0 a1 : SV) (tl : List SV) (m : Int) : ∀ (l : List Nat) (L : List Nat) (F : Ct) (x y : SV), LC L F → l.length ≤ L.length →
    ∃ L' F' x' y', LC L' F' ∧ (F ≠ [] → F' ≠ []) ∧ (l ≠ [] → F' ≠ []) ∧ loopF (gN 5) lp_law_1 (l.map fun (i : Nat) => PyData.int (0 + (i : Int))) (ctE a0 a1 m F L x y tl) = .ok (.nx (ctE a0 a1 m F' L' x' y' tl))
  | [], L, F, x, y, h, _ => ⟨L, F, x, y, h, fun q => q, fun q => absurd rfl q, rfl⟩
  | j :: r, L, F, x, y, h, hl => by
    have hL : L ≠ [] := fun e => by rw [e] at hl; simp at hl
    obtain ⟨L1, F1, y1, h1, h2, h3, e1⟩ := ct_turn a0 a1 tl m L F y j h hL
    obtain ⟨L2, F2, x2, y2, k1, k2, k3, e2⟩ := ct_loop a0 a1 tl m r L1 F1 (.sh (.int (0 + (j : Int)))) y1 h1 (by rw [List.length_cons] at hl; omega)
    refine ⟨L2, F2, x2, y2, k1, fun _ => k2 h3, fun _ => k2 h3, ?_⟩
    rw [List.map_cons, loopF_cons, gN_ap]
    show ((lp_law_1 (ctE a0 a1 m F L (.sh (.int (0 + (j : Int)))) y tl))).bind _ = _
    rw [e1]
    exact e2
end Tk

namespace Tk
open PySem L2 Dn
variable [Tabl]
theorem sorted_ct (cs : Ct) (hl : cs.length < 64) : ∃ S : List Nat, S.Perm (cs.map (·.1)) ∧ sortD [cD cs] = .ok (S.map sg) := by
  have hp := sortT_perm ((cs.map (·.1)).map fun c => (⟨#[c]⟩ : Str))
  have he : asStrs ((cE cs).map (·.1)) = some ((cs.map (·.1)).map fun c => (⟨#[c]⟩ : Str)) := by
    rw [keys_ct, ← asStrs_map]
    rw [List.map_map, List.map_map]
    rfl
  have hx : ∀ T : List Str, T.Perm ((cs.map (·.1)).map fun c => (⟨#[c]⟩ : Str)) → ∃ S : List Nat, T = S.map (fun c => (⟨#[c]⟩ : Str)) := by
    intro T hT
    have : ∀ x ∈ T, ∃ c : Nat, x = ⟨#[c]⟩ := fun x hx => by
      obtain ⟨c, _, e⟩ := List.mem_map.mp (hT.mem_iff.mp hx)
      exact ⟨c, e.symm⟩
    clear hT
    induction T with
    | nil => exact ⟨[], rfl⟩
    | cons x r ih =>
      obtain ⟨S, hS⟩ := ih fun y hy => this y (List.mem_cons_of_mem _ hy)
      obtain ⟨c, hc⟩ := this x List.mem_cons_self
      exact ⟨c :: S, by rw [hS, hc]; rfl⟩
  obtain ⟨S, hS⟩ := hx _ hp
  refine ⟨S, ?_, ?_⟩
  · rw [hS] at hp
    have h2 := hp.map (fun z : Str => z.cps.toList.headD 0)
    rw [List.map_map, List.map_map] at h2
    have e : ((fun z : Str => z.cps.toList.headD 0) ∘ fun c : Nat => (⟨#[c]⟩ : Str)) = id := by funext c; rfl
    rw [e, List.map_id, List.map_id] at h2
    exact h2
  · show (match asStrs ((cE cs).map (·.1)) with
      | some ks => if ks.length < 64 then R.ok ((sortT ks).map PyData.str) else .stuck
      | none => .stuck) = _
    rw [he]
    dsimp only
    rw [if_pos (by simpa using hl), hS, List.map_map]
    rfl
theorem ix_map {α : Type} (f : α → PD) (l : List α) (i : Int) (h0 : 0 ≤ i) (h1 : i < l.length) : ∃ a, a ∈ l ∧ l[i.toNat]? = some a ∧ ixD (.list (l.map f)) (.int i) = .ok (f a) := by
  have hi : i.toNat < l.length := by omega
  refine ⟨l[i.toNat], List.getElem_mem hi, List.getElem?_eq_getElem hi, ixD_list _ _ _ ?_⟩
  generalize hn : i.toNat = n at hi
  have e : i = (n : Int) := by omega
  subst e
  rw [atI_nat', List.getElem?_map]
  simp [List.getElem?_eq_getElem hi]
theorem lenDD_ct (cs : Ct) : lenDD [cD cs] = .ok (ni cs.length) := by
  show R.ok (PyData.int ((cE cs).length : Nat)) = _
  unfold cE
  rw [List.length_map]
theorem inF_strs (l : List Nat) : ∀ L : Bk, inF (.str (st l)) (L.map fun w => .str (st w.2)) = decide (l ∈ L.map (·.2))
  | [] => rfl
  | w :: r => by
    have ih := inF_strs l r
    unfold inF at ih ⊢
    rw [List.map_cons, List.any_cons, ih, List.map_cons]
    have e : eqF (.str (st w.2)) (.str (st l)) = decide (w.2 = l) := by
      show decide (st w.2 = st l) = _
      by_cases h : w.2 = l
      · rw [h]; simp
      · rw [decide_eq_false h, decide_eq_false fun z => h (st_inj z)]
    rw [e]
    by_cases h : w.2 = l
    · simp [h]
    · by_cases h2 : l ∈ r.map (·.2)
      · simp [h2]
      · simp [h, h2, Ne.symm h]
theorem in_codes (l : List Nat) (b : Bk) : inD true (.str (st l)) (.list (b.map fun w => .str (st w.2))) = .ok (.bool (!decide (l ∈ b.map (·.2)))) := by
  show (if (flatD (.str (st l)) && (b.map fun w => PyData.str (st w.2)).all flatD) = true then R.ok (PyData.bool (!inF (.str (st l)) (b.map fun w => .str (st w.2)))) else .stuck) = _
  rw [if_pos, inF_strs]
  rw [Bool.and_eq_true]
  refine ⟨rfl, ?_⟩
  rw [List.all_eq_true]
  intro x hx
  obtain ⟨w, _, rfl⟩ := List.mem_map.mp hx
  rfl
theorem putA_set {b : Bk} {a : Nat} {l : List Nat} {en : En} (h : en[15]? = some (.od (bkE b))) (ha : a ∈ b.map (·.1)) (hl : b.length ≤ 41) : putA 15 (sg a) (tx l) en = .ok (en.set 15 (.od (bkE (setC b a l)))) := by
  unfold putA
  rw [h]
  show (if (bkE b).length + 1 ≤ szN then R.ok (en.set 15 (.od (putD (bkE b) (.inr ⟨#[a]⟩) (.str (st l))))) else .stuck) = _
  rw [if_pos (by unfold bkE szN; simp; omega), put_set ha]
abbrev E60 (a0 a1 : SV) (m : Int) (cs : Ct) (a4 x5 x6 a8 a9 a10 a11 : SV) (w : Int) (x13 x14 x15 x16 a17 : SV) : En := [a0, a1, .sh (.int m), .sh (cD cs), a4, x5, x6, .sh (bkD (bk cs)), a8, a9, a10, a11, .sh (.int w), x13, x14, x15, x16, a17, .no, .no, .no]
end Tk

namespace Tk
open PySem L2 Dn
variable [Tabl]
theorem swp_code_sub {cs : Ct} (h : CtOk cs) {x y : Nat} {lx ly : List Nat} (hx : codeAt (bk cs) x = some lx) (hy : codeAt (bk cs) y = some ly) : ∀ m ∈ (swp (bk cs) x y lx ly).map (·.2), m ∈ ord.take cs.length := fun m hm => by
  obtain ⟨p, hp, rfl⟩ := List.mem_map.mp hm
  rw [← bk_snd h]
  exact List.mem_map.mpr ⟨_, swp_mem (bk_ok h) hx hy hp, rfl⟩
theorem swp_code_sup {cs : Ct} (h : CtOk cs) {x y : Nat} {lx ly : List Nat} (hx : codeAt (bk cs) x = some lx) (hy : codeAt (bk cs) y = some ly) {l : List Nat} (hl : l ∈ ord.take cs.length) : l ∈ (swp (bk cs) x y lx ly).map (·.2) := by
  -- as many codes, all different, all of them among the first
  have hs := swp_code_sub h hx hy
  have hn := (swp_ok (bk_ok h) hx hy).codes
  have hlen : ((swp (bk cs) x y lx ly).map (·.2)).length = (ord.take cs.length).length := by
    have e1 := congrArg List.length (swp_fst (bk cs) x y lx ly)
    rw [List.length_map, List.length_map] at e1
    rw [List.length_map, e1, bk_len h, List.length_take, ord_len]
    have := h.len
    omega
  rw [← bk_snd h] at hl
  obtain ⟨p, hp, rfl⟩ := List.mem_map.mp hl
  -- the sign that has it now
  have hk : ∀ c, c ∈ (bk cs).map (·.1) → ∀ l', codeAt (swp (bk cs) x y lx ly) c = some l' → l' ∈ (swp (bk cs) x y lx ly).map (·.2) := fun c _ l' e => List.mem_map.mpr ⟨_, codeAt_some e, rfl⟩
  have kx : x ∈ (bk cs).map (·.1) := List.mem_map.mpr ⟨_, codeAt_some hx, rfl⟩
  have ky : y ∈ (bk cs).map (·.1) := List.mem_map.mpr ⟨_, codeAt_some hy, rfl⟩
  have e : ∀ c, codeAt (swp (bk cs) x y lx ly) c = if c = y then some lx else if c = x then some ly else codeAt (bk cs) c := fun c => by
    unfold swp
    rw [setC_at _ _ _ (by rw [setC_fst]; exact ky), setC_at _ _ _ kx]
  have hpc := codeAt_mem (bk_ok h).keys hp
  by_cases z1 : p.1 = x
  · have : p.2 = lx := by rw [z1, hx] at hpc; exact (Option.some.inj hpc).symm
    exact hk y ky _ (by rw [e, if_pos rfl, this])
  · by_cases z2 : p.1 = y
    · have : p.2 = ly := by rw [z2, hy] at hpc; exact (Option.some.inj hpc).symm
      have hxy : ¬ x = y := fun q => z1 (z2.trans q.symm)
      exact hk x kx _ (by rw [e, if_neg hxy, if_pos rfl, this])
    · exact hk p.1 (List.mem_map_of_mem hp) _ (by rw [e, if_neg z2, if_neg z1]; exact hpc)
section
variable {cs : Ct}
theorem swp_turn (h : CtOk cs) (a0 a1 : SV) (m : Int) (a4 : SV) (j : Nat) (x6 a8 a9 a10 a11 x13 x14 x15 x16 a17 : SV) (h16 : isOwn x16 = false) : ∃ y6 y13 y14 y15 y16, isOwn y16 = false ∧
    lp_law_8 (E60 a0 a1 m cs a4 (.sh (.int (0 + (j : Int)))) x6 a8 a9 a10 a11 (tot (bk cs) cs) x13 x14 x15 x16 a17) = .ok (.nx (E60 a0 a1 m cs a4 (.sh (.int (0 + (j : Int)))) y6 a8 a9 a10 a11 (tot (bk cs) cs) y13 y14 y15 y16 a17)) := by
  have hl := h.len
  have hlp : 0 < cs.length := List.length_pos_iff.mpr h.ne
  generalize hd : drawn m (80 + (0 + (j : Int))) = d
  have hn : 0 ≤ d := by rw [← hd]; exact drawn_nn _ _
  have hd2 : drawn m (80 + (j : Int)) = d := by rw [← hd]; congr 1; omega
  obtain ⟨S, hS, eSo⟩ := sorted_ct cs (by omega)
  have lS : S.length = cs.length := by rw [hS.length_eq, List.length_map]
  have m1 : fdivD (.int d) (.int 8) = .ok (.int (d / 8)) := fdivD_int _ _ (by decide)
  have m2 : modD (.int (d / 8)) (ni cs.length) = .ok (.int (d / 8 % (cs.length : Int))) := modD_int _ _ (by omega)
  have m3 : fdivD (.int d) (.int 512) = .ok (.int (d / 512)) := fdivD_int _ _ (by decide)
  have m4 : modD (.int (d / 512)) (ni cs.length) = .ok (.int (d / 512 % (cs.length : Int))) := modD_int _ _ (by omega)
  have b1 := Int.emod_nonneg (d / 8) (show (cs.length : Int) ≠ 0 by omega)
  have b2 := Int.emod_lt_of_pos (d / 8) (show (0 : Int) < (cs.length : Int) by omega)
  have b3 := Int.emod_nonneg (d / 512) (show (cs.length : Int) ≠ 0 by omega)
  have b4 := Int.emod_lt_of_pos (d / 512) (show (0 : Int) < (cs.length : Int) by omega)
  obtain ⟨c1, hc1, _, ix1⟩ := ix_map sg S (d / 8 % (cs.length : Int)) b1 (by rw [lS]; exact b2)
  obtain ⟨c2, hc2, _, ix2⟩ := ix_map sg S (d / 512 % (cs.length : Int)) b3 (by rw [lS]; exact b4)
  obtain ⟨p, hp, rfl⟩ := List.mem_map.mp (hS.mem_iff.mp hc1)
  obtain ⟨q, hq, rfl⟩ := List.mem_map.mp (hS.mem_iff.mp hc2)
  obtain ⟨_, lx, _, _, _, hx⟩ := at_bk h hp
  obtain ⟨_, ly, _, _, _, hy⟩ := at_bk h hq
  have kp := key_bk h hp
  have kq := key_bk h hq
  have hb := bk_ok h
  have hb1 := swp_ok hb hx hy
  have ht1 := swp_tot h hp hq hx hy
  have hks : ∀ c ∈ cs, c.1 ∈ (swp (bk cs) p.1 q.1 lx ly).map (·.1) := fun c hc => by rw [swp_fst]; exact key_bk h hc
  have s1 : sAsg 6 (dCall dn__law_drawn (dCons (dVar 2) (dCons (d2 addD (dC (.int 80)) (dVar 5)) dNil))) (E60 a0 a1 m cs a4 (.sh (.int (0 + (j : Int)))) x6 a8 a9 a10 a11 (tot (bk cs) cs) x13 x14 x15 x16 a17) = .ok (.nx (E60 a0 a1 m cs a4 (.sh (.int (0 + (j : Int)))) (.sh (.int d)) a8 a9 a10 a11 (tot (bk cs) cs) x13 x14 x15 x16 a17)) := by
    simp [drawn_eq, hd2]
  have s2 : sAsg 13 (d2 ixD (dF (dNF sortD (dCons (dVarL 3) dNil))) (d2 modD (d2 fdivD (dVar 6) (dC (.int 8))) (dN lenDD (dCons (dVarL 3) dNil)))) (E60 a0 a1 m cs a4 (.sh (.int (0 + (j : Int)))) (.sh (.int d)) a8 a9 a10 a11 (tot (bk cs) cs) x13 x14 x15 x16 a17) = .ok (.nx (E60 a0 a1 m cs a4 (.sh (.int (0 + (j : Int)))) (.sh (.int d)) a8 a9 a10 a11 (tot (bk cs) cs) (.sh (sg p.1)) x14 x15 x16 a17)) := by
    simp [-List.map_map, eSo, lenDD_ct, m1, m2, ix1]
  have s3 : sAsg 14 (d2 ixD (dF (dNF sortD (dCons (dVarL 3) dNil))) (d2 modD (d2 fdivD (dVar 6) (dC (.int 512))) (dN lenDD (dCons (dVarL 3) dNil)))) (E60 a0 a1 m cs a4 (.sh (.int (0 + (j : Int)))) (.sh (.int d)) a8 a9 a10 a11 (tot (bk cs) cs) (.sh (sg p.1)) x14 x15 x16 a17) = .ok (.nx (E60 a0 a1 m cs a4 (.sh (.int (0 + (j : Int)))) (.sh (.int d)) a8 a9 a10 a11 (tot (bk cs) cs) (.sh (sg p.1)) (.sh (sg q.1)) x15 x16 a17)) := by
    simp [-List.map_map, eSo, lenDD_ct, m3, m4, ix2]
  have s4 : sAsgDc 15 (dCons (dVar 7) dNil) (E60 a0 a1 m cs a4 (.sh (.int (0 + (j : Int)))) (.sh (.int d)) a8 a9 a10 a11 (tot (bk cs) cs) (.sh (sg p.1)) (.sh (sg q.1)) x15 x16 a17) = .ok (.nx (E60 a0 a1 m cs a4 (.sh (.int (0 + (j : Int)))) (.sh (.int d)) a8 a9 a10 a11 (tot (bk cs) cs) (.sh (sg p.1)) (.sh (sg q.1)) (.od (bkE (bk cs))) x16 a17)) := by
    unfold sAsgDc
    simp
  have s5 : sPut2 15 (dN mkT (dCons (d2 ixD (dVar 7) (dVar 14)) (dCons (d2 ixD (dVar 7) (dVar 13)) dNil))) (dVar 13) (dVar 14) (E60 a0 a1 m cs a4 (.sh (.int (0 + (j : Int)))) (.sh (.int d)) a8 a9 a10 a11 (tot (bk cs) cs) (.sh (sg p.1)) (.sh (sg q.1)) (.od (bkE (bk cs))) x16 a17) = .ok (.nx (E60 a0 a1 m cs a4 (.sh (.int (0 + (j : Int)))) (.sh (.int d)) a8 a9 a10 a11 (tot (bk cs) cs) (.sh (sg p.1)) (.sh (sg q.1)) (.od (bkE (swp (bk cs) p.1 q.1 lx ly))) x16 a17)) := by
    have pa1 : putA 15 (sg p.1) (tx ly) (E60 a0 a1 m cs a4 (.sh (.int (0 + (j : Int)))) (.sh (.int d)) a8 a9 a10 a11 (tot (bk cs) cs) (.sh (sg p.1)) (.sh (sg q.1)) (.od (bkE (bk cs))) x16 a17) = .ok (E60 a0 a1 m cs a4 (.sh (.int (0 + (j : Int)))) (.sh (.int d)) a8 a9 a10 a11 (tot (bk cs) cs) (.sh (sg p.1)) (.sh (sg q.1)) (.od (bkE (setC (bk cs) p.1 ly))) x16 a17) := putA_set rfl kp (by rw [bk_len h]; omega)
    have pa2 : putA 15 (sg q.1) (tx lx) (E60 a0 a1 m cs a4 (.sh (.int (0 + (j : Int)))) (.sh (.int d)) a8 a9 a10 a11 (tot (bk cs) cs) (.sh (sg p.1)) (.sh (sg q.1)) (.od (bkE (setC (bk cs) p.1 ly))) x16 a17) = .ok (E60 a0 a1 m cs a4 (.sh (.int (0 + (j : Int)))) (.sh (.int d)) a8 a9 a10 a11 (tot (bk cs) cs) (.sh (sg p.1)) (.sh (sg q.1)) (.od (bkE (swp (bk cs) p.1 q.1 lx ly))) x16 a17) := putA_set rfl (by rw [setC_fst]; exact kq) (by unfold setC; rw [List.length_map, bk_len h]; omega)
    unfold sPut2
    simp only [dN_ap, dCons_ap, d2_ap, dVar_ap, dNil_ap, List.getElem?_cons_succ, List.getElem?_cons_zero, R.bind_ok, ix_bk hx, ix_bk hy, mkT_2]
    rw [pa1]
    simp only [R.bind_ok, dVar_ap, List.getElem?_cons_succ, List.getElem?_cons_zero]
    rw [pa2]
    simp only [R.bind_ok]
  -- at the end: the totals
  have fin : ∀ (b : Bk) (y16 : SV), BookOk b → (∀ c ∈ cs, c.1 ∈ b.map (·.1)) → tot (bk cs) cs ≤ tot b cs →
      sSh 3 (sSh 15 (sIf (dTest (d2 ltD (dCall dn_total (dCons (dVar 15) (dCons (dVar 3) dNil))) (dVar 12))) (sRet (dC (.bool false))) sNil)) (E60 a0 a1 m cs a4 (.sh (.int (0 + (j : Int)))) (.sh (.int d)) a8 a9 a10 a11 (tot (bk cs) cs) (.sh (sg p.1)) (.sh (sg q.1)) (.od (bkE b)) y16 a17) = .ok (.nx (E60 a0 a1 m cs a4 (.sh (.int (0 + (j : Int)))) (.sh (.int d)) a8 a9 a10 a11 (tot (bk cs) cs) (.sh (sg p.1)) (.sh (sg q.1)) (.sh (bkD b)) y16 a17)) := fun b y16 hb hk ht => by
    have e1 : sShare 15 (sShare 3 (E60 a0 a1 m cs a4 (.sh (.int (0 + (j : Int)))) (.sh (.int d)) a8 a9 a10 a11 (tot (bk cs) cs) (.sh (sg p.1)) (.sh (sg q.1)) (.od (bkE b)) y16 a17)) = E60 a0 a1 m cs a4 (.sh (.int (0 + (j : Int)))) (.sh (.int d)) a8 a9 a10 a11 (tot (bk cs) cs) (.sh (sg p.1)) (.sh (sg q.1)) (.sh (bkD b)) y16 a17 := rfl
    rw [sSh_ap, sSh_ap, e1]
    have lt : ltD (.int (tot b cs)) (.int (tot (bk cs) cs)) = .ok (.bool false) := by
      show R.ok (PyData.bool (decide (tot b cs < tot (bk cs) cs))) = _
      rw [decide_eq_false (by omega)]
    simp [total_eq hb h hk, lt]
  have hnm : modD (.int d) (.int 2) = .ok (.int (d % 2)) := modD_int _ _ (by decide)
  have m5 : powD (.int 2) (.int 20) = .ok (.int 1048576) := rfl
  have m6 : fdivD (.int d) (.int 1048576) = .ok (.int (d / 1048576)) := fdivD_int _ _ (by decide)
  have m7 : modD (.int (d / 1048576)) (.int 126) = .ok (.int (d / 1048576 % 126)) := modD_int _ _ (by decide)
  have b5 := Int.emod_nonneg (d / 1048576) (show (126 : Int) ≠ 0 by decide)
  have b6 := Int.emod_lt_of_pos (d / 1048576) (show (0 : Int) < 126 by decide)
  unfold lp_law_8
  rw [sSeq_ap, s1]
  simp only [R.bind_ok]
  rw [sSeq_ap, s2]
  simp only [R.bind_ok]
  rw [sSeq_ap, s3]
  simp only [R.bind_ok]
  rw [sSeq_ap, s4]
  simp only [R.bind_ok]
  rw [sSeq_ap, s5]
  simp only [R.bind_ok]
  by_cases hev : d % 2 = 0
  · generalize hk1 : (2 + d / 1048576 % 126).toNat = k1
    have ek : 2 + d / 1048576 % 126 = (k1 : Int) := by omega
    have lc : dn__law_code [.int (2 + d / 1048576 % 126)] = .ok (tx (codeOf k1)) := by
      rw [ek]
      exact law_code_eq k1 (by omega)
    have hco := code_ord (n := k1) (by omega) (by omega)
    have c1 : dTest (d2 eqD (d2 modD (dVar 6) (dC (.int 2))) (dC (.int 0))) (E60 a0 a1 m cs a4 (.sh (.int (0 + (j : Int)))) (.sh (.int d)) a8 a9 a10 a11 (tot (bk cs) cs) (.sh (sg p.1)) (.sh (sg q.1)) (.od (bkE (swp (bk cs) p.1 q.1 lx ly))) x16 a17) = .ok true := by
      simp [hnm, hev]
    have c2 : sAsg 16 (dCall dn__law_code (dCons (d2 addD (dC (.int 2)) (d2 modD (d2 fdivD (dVar 6) (d2 powD (dC (.int 2)) (dC (.int 20)))) (dC (.int 126)))) dNil)) (E60 a0 a1 m cs a4 (.sh (.int (0 + (j : Int)))) (.sh (.int d)) a8 a9 a10 a11 (tot (bk cs) cs) (.sh (sg p.1)) (.sh (sg q.1)) (.od (bkE (swp (bk cs) p.1 q.1 lx ly))) x16 a17) = .ok (.nx (E60 a0 a1 m cs a4 (.sh (.int (0 + (j : Int)))) (.sh (.int d)) a8 a9 a10 a11 (tot (bk cs) cs) (.sh (sg p.1)) (.sh (sg q.1)) (.od (bkE (swp (bk cs) p.1 q.1 lx ly))) (.sh (tx (codeOf k1))) a17)) := by
      simp [m5, m6, m7, lc]
    have c3 : dOwnT 15 (dTest (d2 (inD true) (dVar 16) (dF (dLk 15 (dLc (dKeys 15) (gN 19) dYes ce_law_7 [19]))))) (E60 a0 a1 m cs a4 (.sh (.int (0 + (j : Int)))) (.sh (.int d)) a8 a9 a10 a11 (tot (bk cs) cs) (.sh (sg p.1)) (.sh (sg q.1)) (.od (bkE (swp (bk cs) p.1 q.1 lx ly))) (.sh (tx (codeOf k1))) a17) = .ok (!decide (codeOf k1 ∈ (swp (bk cs) p.1 q.1 lx ly).map (·.2))) := by
      generalize swp (bk cs) p.1 q.1 lx ly = b at hb1 ⊢
      generalize SV.sh (PyData.int (0 + (j : Int))) = x5
      have lcl : lcL (gN 19) dYes ce_law_7 (E60 a0 a1 m cs a4 x5 (.sh (.int d)) a8 a9 a10 a11 (tot (bk cs) cs) (.sh (sg p.1)) (.sh (sg q.1)) (.fz (bkE b)) (.sh (tx (codeOf k1))) a17) (b.map fun p => sg p.1) = .ok (b.map fun p => .str (st p.2)) :=
        lcL_mapM (fun p : Nat × List Nat => sg p.1) (fun p => .str (st p.2)) b fun w hw => ⟨[a0, a1, .sh (.int m), .sh (cD cs), a4, x5, .sh (.int d), .sh (bkD (bk cs)), a8, a9, a10, a11, .sh (.int (tot (bk cs) cs)), .sh (sg p.1), .sh (sg q.1), .fz (bkE b), .sh (tx (codeOf k1)), a17, .no, .sh (sg w.1), .no], rfl, by
          unfold ce_law_7
          simp [ix_bk (codeAt_mem hb1.keys hw)]⟩
      have ck := chk_ok (b.map fun p => PyData.str (st p.2)) (by rw [List.length_map, szN_eq]; have := hb1.len; omega)
      unfold dOwnT
      simp [-List.map_map, dLc, keys_bk, free, isOwn, wipeE, lcl, ck, in_codes]
    by_cases hmem : codeOf k1 ∈ (swp (bk cs) p.1 q.1 lx ly).map (·.2)
    · rw [decide_eq_true hmem] at c3
      refine ⟨.sh (.int d), .sh (sg p.1), .sh (sg q.1), .sh (bkD (swp (bk cs) p.1 q.1 lx ly)), .sh (tx (codeOf k1)), rfl, ?_⟩
      rw [sSeq_ap, sIf_ap, c1]
      simp only [R.bind_ok, if_true]
      rw [sSeq_ap, c2]
      simp only [R.bind_ok]
      rw [sIf_ap, c3]
      simp only [R.bind_ok, Bool.not_true, if_false, Bool.false_eq_true, sNil_ap]
      exact fin _ _ hb1 hks ht1
    · rw [decide_eq_false hmem] at c3
      have hfar : codeOf k1 ∉ ord.take cs.length := fun z => hmem (swp_code_sup h hx hy z)
      have hset := set_tot h hb1 (swp_code_sub h hx hy) hp (hks p hp) hco hfar
      have hb2 := set_ok hb1 (x := p.1) (codes_good k1 (by omega) (by omega)) hmem
      refine ⟨.sh (.int d), .sh (sg p.1), .sh (sg q.1), .sh (bkD (setC (swp (bk cs) p.1 q.1 lx ly) p.1 (codeOf k1))), .sh (tx (codeOf k1)), rfl, ?_⟩
      have c4 : sPut 15 (eS (dVar 13)) (dVar 16) (E60 a0 a1 m cs a4 (.sh (.int (0 + (j : Int)))) (.sh (.int d)) a8 a9 a10 a11 (tot (bk cs) cs) (.sh (sg p.1)) (.sh (sg q.1)) (.od (bkE (swp (bk cs) p.1 q.1 lx ly))) (.sh (tx (codeOf k1))) a17) = .ok (.nx (E60 a0 a1 m cs a4 (.sh (.int (0 + (j : Int)))) (.sh (.int d)) a8 a9 a10 a11 (tot (bk cs) cs) (.sh (sg p.1)) (.sh (sg q.1)) (.od (bkE (setC (swp (bk cs) p.1 q.1 lx ly) p.1 (codeOf k1)))) (.sh (tx (codeOf k1))) a17)) := by
        rw [sPut_ap]
        show (if (bkE (swp (bk cs) p.1 q.1 lx ly)).length + 1 ≤ szN then R.ok (Fl.nx (List.set _ 15 (.od (putD (bkE (swp (bk cs) p.1 q.1 lx ly)) (.inr ⟨#[p.1]⟩) (.str (st (codeOf k1))))))) else .stuck) = _
        rw [if_pos (by have := hb1.len; unfold bkE szN; rw [List.length_map]; omega), put_set (hks p hp)]
        rfl
      rw [sSeq_ap, sIf_ap, c1]
      simp only [R.bind_ok, if_true]
      rw [sSeq_ap, c2]
      simp only [R.bind_ok]
      rw [sIf_ap, c3]
      simp only [R.bind_ok, Bool.not_false, if_true]
      rw [c4]
      simp only [R.bind_ok]
      exact fin _ _ hb2 (fun c hc => by rw [setC_fst]; exact hks c hc) (Int.le_trans ht1 hset)
  · have c1 : dTest (d2 eqD (d2 modD (dVar 6) (dC (.int 2))) (dC (.int 0))) (E60 a0 a1 m cs a4 (.sh (.int (0 + (j : Int)))) (.sh (.int d)) a8 a9 a10 a11 (tot (bk cs) cs) (.sh (sg p.1)) (.sh (sg q.1)) (.od (bkE (swp (bk cs) p.1 q.1 lx ly))) x16 a17) = .ok false := by
      simp [hnm, hev]
    refine ⟨.sh (.int d), .sh (sg p.1), .sh (sg q.1), .sh (bkD (swp (bk cs) p.1 q.1 lx ly)), x16, h16, ?_⟩
    rw [sSeq_ap, sIf_ap, c1]
    simp only [R.bind_ok, if_false, Bool.false_eq_true, sNil_ap]
    exact fin _ _ hb1 hks ht1
theorem swp_loop (h : CtOk cs) (a0 a1 : SV) (m : Int) (a4 a8 a9 a10 a11 a17 : SV) : ∀ (l : List Nat) (x5 x6 x13 x14 x15 x16 : SV), isOwn x16 = false → ∃ y5 y6 y13 y14 y15 y16, isOwn y16 = false ∧
    loopF (gN 5) lp_law_8 (l.map fun (i : Nat) => PyData.int (0 + (i : Int))) (E60 a0 a1 m cs a4 x5 x6 a8 a9 a10 a11 (tot (bk cs) cs) x13 x14 x15 x16 a17) = .ok (.nx (E60 a0 a1 m cs a4 y5 y6 a8 a9 a10 a11 (tot (bk cs) cs) y13 y14 y15 y16 a17))
  | [], x5, x6, x13, x14, x15, x16, h16 => ⟨x5, x6, x13, x14, x15, x16, h16, rfl⟩
  | j :: r, x5, x6, x13, x14, x15, x16, h16 => by
    obtain ⟨z6, z13, z14, z15, z16, g16, e1⟩ := swp_turn h a0 a1 m a4 j x6 a8 a9 a10 a11 x13 x14 x15 x16 a17 h16
    obtain ⟨y5, y6, y13, y14, y15, y16, k16, e2⟩ := swp_loop h a0 a1 m a4 a8 a9 a10 a11 a17 r (.sh (.int (0 + (j : Int)))) z6 z13 z14 z15 z16 g16
    refine ⟨y5, y6, y13, y14, y15, y16, k16, ?_⟩
    rw [List.map_cons, loopF_cons, ← e2]
    simp only [gN_ap, R.noexc_ok, R.bind_ok, List.set_cons_succ, List.set_cons_zero, e1]
end
end Tk

namespace Tk
open PySem L2 Dn
variable [Tabl]
def told (cs : List Str) (r : R PD) : R PD := match r with
  | .ok d => .ok d
  | .exc c => if c ∈ cs then .ok (.str c) else .stuck
  | .stuck => .stuck
theorem told_ap (cs : List Str) (fa : En → R PD) (en : En) : dTold cs fa en = told cs (fa en) := by
  unfold dTold told
  cases fa en <;> rfl
theorem told_ok (cs : List Str) (d : PD) : told cs (.ok d) = .ok d := nrf rfl
theorem told_exc (cs : List Str) (c : Str) (h : c ∈ cs) : told cs (.exc c) = .ok (.str c) := if_pos h
end Tk

namespace Tk
open PySem L2 Dn
variable [Tabl]
/-! ### refusals -/
theorem bf_exc {d : PD} {c : Str} (h : dn_need_counts [d] = .exc c) : dn_book_for [d] = .exc c := by
  unfold dn_book_for runB bd_book_for
  simp [h]
theorem bad_sign : ∀ d ∈ ([.dict [], .none, .list [], .dict [(.str "A", .int 1)], .dict [(.str "ab", .int 1)], .dict [(.int 1, .int 1)], .dict [(.str " ", .int 1)]] : List PD), dn_book_for [d] = .exc "BadSign" := by
  intro d hd
  refine bf_exc ?_
  simp only [List.mem_cons, List.not_mem_nil, or_false] at hd
  rcases hd with rfl | rfl | rfl | rfl | rfl | rfl | rfl
  all_goals with_unfolding_all rfl
theorem bad_number : ∀ d ∈ ([.dict [(.str "a", .int (-1))], .dict [(.str "a", .int 1001)], .dict [(.str "a", .none)], .dict [(.str "a", .bool true)], .dict [(.str "a", .str "1")]] : List PD), dn_book_for [d] = .exc "BadNumber" := by
  intro d hd
  refine bf_exc ?_
  simp only [List.mem_cons, List.not_mem_nil, or_false] at hd
  rcases hd with rfl | rfl | rfl | rfl | rfl
  all_goals with_unfolding_all rfl
theorem tot_bad1 : dn_total [.dict [], .none] = .exc "BadBook" := by with_unfolding_all rfl
theorem tot_bad2 : dn_total [.dict [(.str "a", .str ".")], .none] = .exc "BadSign" := by with_unfolding_all rfl
theorem tot_bad3 : dn_total [.dict [(.str "a", .str ".")], .dict [(.str "b", .int 1)]] = .exc "BadSign" := by with_unfolding_all rfl
theorem tot_bad4 : dn_total [.dict [(.str "a", .str ".")], .dict [(.str "a", .int (-1))]] = .exc "BadNumber" := by with_unfolding_all rfl
end Tk

namespace Tk
open PySem L2 Dn
variable [Tabl]
theorem refused : dn__law_totals_refused [] = .ok (.bool true) := by with_unfolding_all rfl
theorem genL_ok : (ordOk (genL.map encL) && srtOk (genL.map encL) && decide ((genL.map encL).length ≤ szN)) = true := by decide +kernel
theorem sort_genL : sortA [.list (genL.map encL)] = .ok (ord.map encL) := by
  show (if (ordOk (genL.map encL) && srtOk (genL.map encL) && decide ((genL.map encL).length ≤ szN)) = true then R.ok ((genL.map encL).mergeSort leAll) else .stuck) = _
  rw [if_pos genL_ok, ordL]
theorem sort_S {cs : Ct} (h : CtOk cs) : sortA [.list (cs.map encS)] = .ok ((srt cs).map encS) := by
  show (if (ordOk (cs.map encS) && srtOk (cs.map encS) && decide ((cs.map encS).length ≤ szN)) = true then R.ok ((cs.map encS).mergeSort leAll) else .stuck) = _
  rw [if_pos (by rw [ordOk_S cs h.sgn, srtOk_S]; have := h.len; simp [szN_eq]; omega), srt_law]
theorem txt_bk : ∀ b : Bk, txtD (bkE b) = some (b.map fun p => ((⟨#[p.1]⟩ : Str), st p.2))
  | [] => rfl
  | p :: r => by
    show (txtD (bkE r)).map _ = _
    rw [txt_bk r]
    rfl
theorem ne_bk {b : Bk} (h : (b.map (·.1)).Nodup) : neDD (bkD b) (bkD b) = .ok (.bool false) := by
  have nd : ((b.map fun p => ((⟨#[p.1]⟩ : Str), st p.2)).map fun x : Str × Str => x.1).Nodup := by
    rw [List.map_map]
    have e : ((fun x : Str × Str => x.1) ∘ fun p : Nat × List Nat => ((⟨#[p.1]⟩ : Str), st p.2)) = (fun c : Nat => (⟨#[c]⟩ : Str)) ∘ (·.1) := rfl
    rw [e, ← List.map_map]
    exact List.Pairwise.map _ (fun a b hn z => hn (by cases z; rfl)) h
  have e1 := txt_bk b
  unfold neDD
  dsimp only
  rw [e1]
  exact if_pos ⟨rfl, nd⟩
theorem bad9 (a0 a1 : SV) (m : Int) (cs : Ct) (a4 x5 x6 a8 a9 a10 a11 : SV) (w : Int) (x13 x14 x15 x16 : SV) : ∀ (ds : List PD) (x17 : SV), (∀ d ∈ ds, dn_book_for [d] = .exc "BadSign") → ∃ y17, loopF (gN 17) lp_law_9 ds (E60 a0 a1 m cs a4 x5 x6 a8 a9 a10 a11 w x13 x14 x15 x16 x17) = .ok (.nx (E60 a0 a1 m cs a4 x5 x6 a8 a9 a10 a11 w x13 x14 x15 x16 y17))
  | [], x17, _ => ⟨x17, rfl⟩
  | d :: r, x17, h => by
    obtain ⟨y17, ih⟩ := bad9 a0 a1 m cs a4 x5 x6 a8 a9 a10 a11 w x13 x14 x15 x16 r (.sh d) fun q hq => h q (List.mem_cons_of_mem _ hq)
    have h1 : ("BadSign" : Str) ∈ excs := by decide +kernel
    refine ⟨y17, ?_⟩
    rw [loopF_cons, ← ih]
    unfold lp_law_9
    simp [told_ap, h d List.mem_cons_self, told_exc _ _ h1]
theorem bad10 (a0 a1 : SV) (m : Int) (cs : Ct) (a4 x5 x6 a8 a9 a10 a11 : SV) (w : Int) (x13 x14 x15 x16 : SV) : ∀ (ds : List PD) (x17 : SV), (∀ d ∈ ds, dn_book_for [d] = .exc "BadNumber") → ∃ y17, loopF (gN 17) lp_law_10 ds (E60 a0 a1 m cs a4 x5 x6 a8 a9 a10 a11 w x13 x14 x15 x16 x17) = .ok (.nx (E60 a0 a1 m cs a4 x5 x6 a8 a9 a10 a11 w x13 x14 x15 x16 y17))
  | [], x17, _ => ⟨x17, rfl⟩
  | d :: r, x17, h => by
    obtain ⟨y17, ih⟩ := bad10 a0 a1 m cs a4 x5 x6 a8 a9 a10 a11 w x13 x14 x15 x16 r (.sh d) fun q hq => h q (List.mem_cons_of_mem _ hq)
    have h1 : ("BadNumber" : Str) ∈ excs := by decide +kernel
    refine ⟨y17, ?_⟩
    rw [loopF_cons, ← ih]
    unfold lp_law_10
    simp [told_ap, h d List.mem_cons_self, told_exc _ _ h1]
end Tk

namespace Tk
open PySem L2 Dn
variable [Tabl]
abbrev EV (a0 a1 a2 a3 a4 a5 a6 a7 a8 a9 a10 a11 a12 a13 a14 a15 a16 a17 : SV) : En := [a0, a1, a2, a3, a4, a5, a6, a7, a8, a9, a10, a11, a12, a13, a14, a15, a16, a17, .no, .no, .no]
theorem rng1_any (n : Int) (h0 : 0 ≤ n) (h : n < 1000) : rng1 [.int n] = .ok (rngL 0 n.toNat) := if_pos (by omega)
theorem rng1_nat (n : Nat) (h : n < 1000) : rng1 [ni n] = .ok (rngL 0 n) := by
  have := rng1_any (n : Int) (by omega) (by omega)
  rw [Int.toNat_natCast] at this
  exact this
section
variable {cs : Ct} (h : CtOk cs) (a0 a1 a2 a4 a5 a6 a7 a8 a9 a10 a11 a12 a13 a14 a15 a16 a17 : SV)
include h in
theorem s_told : sSh 3 (sAsg 7 (dCall dn_book_for (dCons (dVar 3) dNil))) (EV a0 a1 a2 (.od (cE cs)) a4 a5 a6 a7 a8 a9 a10 a11 a12 a13 a14 a15 a16 a17) = .ok (.nx (EV a0 a1 a2 (.sh (cD cs)) a4 a5 a6 (.sh (bkD (bk cs))) a8 a9 a10 a11 a12 a13 a14 a15 a16 a17)) := by
  have e1 : sShare 3 (EV a0 a1 a2 (.od (cE cs)) a4 a5 a6 a7 a8 a9 a10 a11 a12 a13 a14 a15 a16 a17) = EV a0 a1 a2 (.sh (cD cs)) a4 a5 a6 a7 a8 a9 a10 a11 a12 a13 a14 a15 a16 a17 := rfl
  rw [sSh_ap, e1]
  simp [book_for_eq h]
theorem s_codes (a3 : SV) : sAsg 8 (dF (dLc (dItA rng2 (dCons (dC (.int 2)) (dCons (dC (.int 128)) dNil))) (gN 18) dYes ce_law_2 [18])) (EV a0 a1 a2 a3 a4 a5 a6 a7 a8 a9 a10 a11 a12 a13 a14 a15 a16 a17) = .ok (.nx (EV a0 a1 a2 a3 a4 a5 a6 a7 (.sh (.list (genL.map tx))) a9 a10 a11 a12 a13 a14 a15 a16 a17)) := by
  have r1 : rng2 [.int 2, .int 128] = .ok ((List.range 126).map fun i => ni (2 + i)) := by
    have e : rng2 [.int 2, .int 128] = .ok (rngL 2 126) := by with_unfolding_all rfl
    rw [e]
    unfold rngL
    congr 1
  have l1 : lcL (gN 18) dYes ce_law_2 (EV a0 a1 a2 a3 a4 a5 a6 a7 a8 a9 a10 a11 a12 a13 a14 a15 a16 a17) ((List.range 126).map fun i => ni (2 + i)) = .ok (genL.map tx) := by
    have e : genL.map tx = (List.range 126).map fun i => tx (codeOf (2 + i)) := by
      unfold genL
      rw [List.map_map]
      rfl
    rw [e]
    refine lcL_mapM (fun i => ni (2 + i)) (fun i => tx (codeOf (2 + i))) (List.range 126) fun i hi => ⟨[a0, a1, a2, a3, a4, a5, a6, a7, a8, a9, a10, a11, a12, a13, a14, a15, a16, a17, .sh (ni (2 + i)), .no, .no], rfl, ?_⟩
    have := List.mem_range.mp hi
    have lc : dn__law_code [ni (2 + i)] = .ok (tx (codeOf (2 + i))) := law_code_eq (2 + i) (by omega)
    unfold ce_law_2
    simp only [dCall_ap, dCons_ap, dVar_ap, dNil_ap, List.getElem?_cons_succ, List.getElem?_cons_zero, R.bind_ok, lc]
  have ck := chk_ok (genL.map tx) (by rw [List.length_map]; decide)
  have fr : free (EV a0 a1 a2 a3 a4 a5 a6 a7 a8 a9 a10 a11 a12 a13 a14 a15 a16 a17) [18] = true := rfl
  have wi : wipeE (EV a0 a1 a2 a3 a4 a5 a6 a7 a8 a9 a10 a11 a12 a13 a14 a15 a16 a17) [18] = EV a0 a1 a2 a3 a4 a5 a6 a7 a8 a9 a10 a11 a12 a13 a14 a15 a16 a17 := rfl
  simp only [sAsg_ap, dF_ap, dLc, dItA_ap, dCons_ap, dC_ap, dNil_ap, R.bind_ok, r1, fr, if_true, wi, l1, R.noexc_ok, ck, List.set_cons_succ, List.set_cons_zero]
theorem s_rows (a3 : SV) (h16 : isOwn a16 = false) : sAsg 9 (dF (dNF sortA (dCons (dF (dLc (dIt asL (dVar 8)) (gN 16) dYes ce_law_3 [16])) dNil))) (EV a0 a1 a2 a3 a4 a5 a6 a7 (.sh (.list (genL.map tx))) a9 a10 a11 a12 a13 a14 a15 a16 a17) = .ok (.nx (EV a0 a1 a2 a3 a4 a5 a6 a7 (.sh (.list (genL.map tx))) (.sh (.list (ord.map encL))) a10 a11 a12 a13 a14 a15 a16 a17)) := by
  have l1 : lcL (gN 16) dYes ce_law_3 (EV a0 a1 a2 a3 a4 a5 a6 a7 (.sh (.list (genL.map tx))) a9 a10 a11 a12 a13 a14 a15 .no a17) (genL.map tx) = .ok (genL.map encL) := by
    refine lcL_mapM tx encL genL fun r hr => ⟨[a0, a1, a2, a3, a4, a5, a6, a7, .sh (.list (genL.map tx)), a9, a10, a11, a12, a13, a14, a15, .sh (tx r), a17, .no, .no, .no], rfl, ?_⟩
    have hc := codeB_len (ord_code (ord_perm.mem_iff.mpr hr))
    unfold ce_law_3 encL
    simp only [dN_ap, dCall_ap, dCons_ap, dVar_ap, dNil_ap, List.getElem?_cons_succ, List.getElem?_cons_zero, R.bind_ok, law_units_eq r (by omega), lenD_st r (by omega), mkT_3]
  have ck := chk_ok (genL.map encL) (by rw [List.length_map]; decide)
  have fr : free (EV a0 a1 a2 a3 a4 a5 a6 a7 (.sh (.list (genL.map tx))) a9 a10 a11 a12 a13 a14 a15 a16 a17) [16] = true := by
    show (!isOwn a16 && true) = true
    rw [h16]
    rfl
  have wi : wipeE (EV a0 a1 a2 a3 a4 a5 a6 a7 (.sh (.list (genL.map tx))) a9 a10 a11 a12 a13 a14 a15 a16 a17) [16] = EV a0 a1 a2 a3 a4 a5 a6 a7 (.sh (.list (genL.map tx))) a9 a10 a11 a12 a13 a14 a15 .no a17 := rfl
  simp only [sAsg_ap, dF_ap, dNF_ap, dLc, dIt_ap, dCons_ap, dVar_ap, dNil_ap, List.getElem?_cons_succ, List.getElem?_cons_zero, asL_ap, R.bind_ok, fr, if_true, wi, l1, R.noexc_ok, ck, sort_genL, List.set_cons_succ, List.set_cons_zero]
include h in
theorem s_signs : sAsg 10 (dF (dNF sortA (dCons (dF (dLk 3 (dLc (dKeys 3) (gN 19) dYes ce_law_4 [19]))) dNil))) (EV a0 a1 a2 (.sh (cD cs)) a4 a5 a6 a7 a8 a9 a10 a11 a12 a13 a14 a15 a16 a17) = .ok (.nx (EV a0 a1 a2 (.sh (cD cs)) a4 a5 a6 a7 a8 a9 (.sh (.list ((srt cs).map encS))) a11 a12 a13 a14 a15 a16 a17)) := by
  have l1 : lcL (gN 19) dYes ce_law_4 (EV a0 a1 a2 (.fz (cE cs)) a4 a5 a6 a7 a8 a9 a10 a11 a12 a13 a14 a15 a16 a17) (cs.map fun p => sg p.1) = .ok (cs.map encS) := by
    refine lcL_mapM (fun p : Nat × Nat => sg p.1) encS cs fun p hp => ⟨[a0, a1, a2, .fz (cE cs), a4, a5, a6, a7, a8, a9, a10, a11, a12, a13, a14, a15, a16, a17, .no, .sh (sg p.1), .no], rfl, ?_⟩
    unfold ce_law_4 encS
    simp [ix_ct h.keys hp]
  have ck := chk_ok (cs.map encS) (by rw [List.length_map, szN_eq]; have := h.len; omega)
  have fr : free (EV a0 a1 a2 (.fz (cE cs)) a4 a5 a6 a7 a8 a9 a10 a11 a12 a13 a14 a15 a16 a17) [19] = true := rfl
  have wi : wipeE (EV a0 a1 a2 (.fz (cE cs)) a4 a5 a6 a7 a8 a9 a10 a11 a12 a13 a14 a15 a16 a17) [19] = EV a0 a1 a2 (.fz (cE cs)) a4 a5 a6 a7 a8 a9 a10 a11 a12 a13 a14 a15 a16 a17 := rfl
  simp only [sAsg_ap, dF_ap, dNF_ap, dLk_ap, dLc, dKeys_ap, dCons_ap, dNil_ap, List.getElem?_cons_succ, List.getElem?_cons_zero, R.bind_ok, List.set_cons_succ, List.set_cons_zero, keys_ct, fr, if_true, wi, l1, R.noexc_ok, ck, sort_S h]
include h in
theorem s_due : sAsg 11 (dN dictPD (dCons (dF (dLc (dItA rng1 (dCons (dN lenDD (dCons (dVarL 3) dNil)) dNil)) (gN 20) dYes ce_law_5 [20])) dNil)) (EV a0 a1 a2 (.sh (cD cs)) a4 a5 a6 a7 a8 (.sh (.list (ord.map encL))) (.sh (.list ((srt cs).map encS))) a11 a12 a13 a14 a15 a16 a17) = .ok (.nx (EV a0 a1 a2 (.sh (cD cs)) a4 a5 a6 a7 a8 (.sh (.list (ord.map encL))) (.sh (.list ((srt cs).map encS))) (.sh (bkD (bk cs))) a12 a13 a14 a15 a16 a17)) := by
  have hl := h.len
  have r1 : rng1 [ni cs.length] = .ok ((List.range cs.length).map fun (i : Nat) => PyData.int (0 + (i : Int))) := by
    rw [rng1_nat cs.length (by omega)]
    rfl
  have eb : (bk cs).map (fun p => PyData.tuple [sg p.1, tx p.2]) = (List.range cs.length).map fun i => match (bk cs)[i]? with | some p => PyData.tuple [sg p.1, tx p.2] | none => .none := by
    refine List.ext_getElem? fun i => ?_
    rw [List.getElem?_map, List.getElem?_map]
    by_cases hi : i < cs.length
    · rw [List.getElem?_range hi, List.getElem?_eq_getElem (by rw [bk_len h]; exact hi)]
      show some _ = some (match (bk cs)[i]? with | some p => PyData.tuple [sg p.1, tx p.2] | none => .none)
      rw [List.getElem?_eq_getElem (by rw [bk_len h]; exact hi)]
    · rw [List.getElem?_eq_none (by rw [bk_len h]; omega), List.getElem?_eq_none (by rw [List.length_range]; omega)]
      rfl
  have l1 : lcL (gN 20) dYes ce_law_5 (EV a0 a1 a2 (.sh (cD cs)) a4 a5 a6 a7 a8 (.sh (.list (ord.map encL))) (.sh (.list ((srt cs).map encS))) a11 a12 a13 a14 a15 a16 a17) ((List.range cs.length).map fun (i : Nat) => PyData.int (0 + (i : Int))) = .ok ((bk cs).map fun p => .tuple [sg p.1, tx p.2]) := by
    rw [eb]
    refine lcL_mapM (fun (i : Nat) => PyData.int (0 + (i : Int))) _ (List.range cs.length) fun i hi => ⟨[a0, a1, a2, .sh (cD cs), a4, a5, a6, a7, a8, .sh (.list (ord.map encL)), .sh (.list ((srt cs).map encS)), a11, a12, a13, a14, a15, a16, a17, .no, .no, .sh (.int (0 + (i : Int)))], rfl, ?_⟩
    have hi := List.mem_range.mp hi
    have hb : i < (bk cs).length := by rw [bk_len h]; exact hi
    rw [List.getElem?_eq_getElem hb]
    obtain ⟨c, e1, e2⟩ := bk_get h (List.getElem?_eq_getElem hb)
    generalize (bk cs)[i] = p at e1 e2 ⊢
    have x1 : ixD (.list ((srt cs).map encS)) (.int (0 + (i : Int))) = .ok (encS (p.1, c)) := ixD_list _ _ _ (by rw [Int.zero_add, atI_nat', List.getElem?_map, e1]; rfl)
    have x2 : ixD (.list (ord.map encL)) (.int (0 + (i : Int))) = .ok (encL p.2) := ixD_list _ _ _ (by rw [Int.zero_add, atI_nat', List.getElem?_map, e2]; rfl)
    have x3 : ixD (encS (p.1, c)) (.int 1) = .ok (sg p.1) := by with_unfolding_all rfl
    have x4 : ixD (encL p.2) (.int 2) = .ok (tx p.2) := by with_unfolding_all rfl
    unfold ce_law_5
    simp only [dN_ap, dCons_ap, d2_ap, dVar_ap, dC_ap, dNil_ap, List.getElem?_cons_succ, List.getElem?_cons_zero, R.bind_ok, x1, x2, x3, x4, mkT_2]
  have ck := chk_ok ((bk cs).map fun p => PyData.tuple [sg p.1, tx p.2]) (by rw [List.length_map, szN_eq, bk_len h]; omega)
  have fr : free (EV a0 a1 a2 (.sh (cD cs)) a4 a5 a6 a7 a8 (.sh (.list (ord.map encL))) (.sh (.list ((srt cs).map encS))) a11 a12 a13 a14 a15 a16 a17) [20] = true := rfl
  have wi : wipeE (EV a0 a1 a2 (.sh (cD cs)) a4 a5 a6 a7 a8 (.sh (.list (ord.map encL))) (.sh (.list ((srt cs).map encS))) a11 a12 a13 a14 a15 a16 a17) [20] = EV a0 a1 a2 (.sh (cD cs)) a4 a5 a6 a7 a8 (.sh (.list (ord.map encL))) (.sh (.list ((srt cs).map encS))) a11 a12 a13 a14 a15 a16 a17 := rfl
  simp only [sAsg_ap, dN_ap, dF_ap, dLc, dItA_ap, dCons_ap, dVarL_ap, dNil_ap, List.getElem?_cons_succ, List.getElem?_cons_zero, R.bind_ok, lenDD_ct, r1, fr, if_true, wi, l1, R.noexc_ok, ck, dict_bk (bk_ok h).keys, List.set_cons_succ, List.set_cons_zero]
include h in
theorem s_whole : sAsg 12 (dN sumD (dCons (dF (dLk 3 (dLc (dKeys 3) (gN 19) dYes ce_law_6 [19]))) dNil)) (EV a0 a1 a2 (.sh (cD cs)) a4 a5 a6 (.sh (bkD (bk cs))) a8 a9 a10 a11 a12 a13 a14 a15 a16 a17) = .ok (.nx (EV a0 a1 a2 (.sh (cD cs)) a4 a5 a6 (.sh (bkD (bk cs))) a8 a9 a10 a11 (.sh (.int (tot (bk cs) cs))) a13 a14 a15 a16 a17)) := by
  have l1 : lcL (gN 19) dYes ce_law_6 (EV a0 a1 a2 (.fz (cE cs)) a4 a5 a6 (.sh (bkD (bk cs))) a8 a9 a10 a11 a12 a13 a14 a15 a16 a17) (cs.map fun p => sg p.1) = .ok (cs.map fun p => .int ((p.2 : Int) * un (bk cs) p.1)) := by
    refine lcL_mapM (fun p : Nat × Nat => sg p.1) (fun p => .int ((p.2 : Int) * un (bk cs) p.1)) cs fun p hp => ⟨[a0, a1, a2, .fz (cE cs), a4, a5, a6, .sh (bkD (bk cs)), a8, a9, a10, a11, a12, a13, a14, a15, a16, a17, .no, .sh (sg p.1), .no], rfl, ?_⟩
    obtain ⟨l, e, hl6, _⟩ := codeAt_of (bk_ok h) (key_bk h hp)
    have hc := h.cnt p hp
    unfold ce_law_6 un
    simp [ix_ct h.keys hp, ix_bk e, law_units_eq l (by omega), e]
    exact mulD_l _ _ (by omega)
  have ck := chk_ok (cs.map fun p => PyData.int ((p.2 : Int) * un (bk cs) p.1)) (by rw [List.length_map, szN_eq]; have := h.len; omega)
  have s1 := sumD_of (fun p : Nat × Nat => (p.2 : Int) * un (bk cs) p.1) cs
  have fr : free (EV a0 a1 a2 (.fz (cE cs)) a4 a5 a6 (.sh (bkD (bk cs))) a8 a9 a10 a11 a12 a13 a14 a15 a16 a17) [19] = true := rfl
  have wi : wipeE (EV a0 a1 a2 (.fz (cE cs)) a4 a5 a6 (.sh (bkD (bk cs))) a8 a9 a10 a11 a12 a13 a14 a15 a16 a17) [19] = EV a0 a1 a2 (.fz (cE cs)) a4 a5 a6 (.sh (bkD (bk cs))) a8 a9 a10 a11 a12 a13 a14 a15 a16 a17 := rfl
  simp only [sAsg_ap, dN_ap, dF_ap, dLk_ap, dLc, dKeys_ap, dCons_ap, dNil_ap, List.getElem?_cons_succ, List.getElem?_cons_zero, R.bind_ok, List.set_cons_succ, List.set_cons_zero, keys_ct, fr, if_true, wi, l1, R.noexc_ok, ck, s1, tot]
end
end Tk

namespace Tk
open PySem L2 Dn
variable [Tabl]
theorem k60_turn (ns : List Int) (hn : ns.length ≤ 63) (k : Int) (hk : 0 ≤ k ∧ k < 1000) (x2 x3 x4 x5 x6 x7 x8 x9 x10 x11 x12 x13 x14 x15 x16 x17 : SV) (h16 : isOwn x16 = false) :
    ∃ y2 y3 y4 y5 y6 y7 y8 y9 y10 y11 y12 y13 y14 y15 y16 y17, isOwn y16 = false ∧ lp_law_11 (EV (.rl (ns.map .int)) (.sh (.int k)) x2 x3 x4 x5 x6 x7 x8 x9 x10 x11 x12 x13 x14 x15 x16 x17) = .ok (.nx (EV (.rl (ns.map .int)) (.sh (.int k)) y2 y3 y4 y5 y6 y7 y8 y9 y10 y11 y12 y13 y14 y15 y16 y17)) := by
  generalize hm : drawn (cellF ns k) k = m
  have hm0 : 0 ≤ m := by rw [← hm]; exact drawn_nn _ _
  have dc := dCell_ok ns hn k hk
  obtain ⟨q1, q2, q3⟩ := bnd2_ix (m / 64)
  have b1 := Int.emod_nonneg m (show (bnd2 (m / 64 % 2) : Int) ≠ 0 by omega)
  have b2 := Int.emod_lt_of_pos m (show (0 : Int) < (bnd2 (m / 64 % 2) : Int) by omega)
  have m1 : fdivD (.int m) (.int 64) = .ok (.int (m / 64)) := fdivD_int _ _ (by decide)
  have m2 : modD (.int (m / 64)) (.int 2) = .ok (.int (m / 64 % 2)) := modD_int _ _ (by decide)
  have m3 : modD (.int m) (ni (bnd2 (m / 64 % 2))) = .ok (.int (m % (bnd2 (m / 64 % 2) : Int))) := modD_int _ _ (by omega)
  have h0 : LC signsL [] := ⟨fun c hc => hc, (fun p hp => nomatch hp), signsL_nodup, (fun p hp => nomatch hp), by rw [signsL_len]; rfl⟩
  obtain ⟨L, cs, y5, y6, k1, _, k3, e3⟩ := ct_loop (.rl (ns.map .int)) (.sh (.int k)) [x7, x8, x9, x10, x11, x12, x13, x14, x15, x16, x17, .no, .no, .no] m (List.range (1 + m % (bnd2 (m / 64 % 2) : Int)).toNat) signsL [] x5 x6 h0 (by rw [signsL_len]; simp; omega)
  have hcs : cs ≠ [] := k3 fun e => by
    have := congrArg List.length e
    simp at this
    omega
  have h := k1.ok hcs
  obtain ⟨y5', y6', y13, y14, y15, y16, g16, e12⟩ := swp_loop h (.rl (ns.map .int)) (.sh (.int k)) m (.ol (L.map sg)) (.sh (.list (genL.map tx))) (.sh (.list (ord.map encL))) (.sh (.list ((srt cs).map encS))) (.sh (bkD (bk cs))) x17 (List.range 8) y5 y6 x13 x14 x15 x16 h16
  obtain ⟨z17, e13⟩ := bad9 (.rl (ns.map .int)) (.sh (.int k)) m cs (.ol (L.map sg)) y5' y6' (.sh (.list (genL.map tx))) (.sh (.list (ord.map encL))) (.sh (.list ((srt cs).map encS))) (.sh (bkD (bk cs))) (tot (bk cs) cs) y13 y14 y15 y16 _ x17 bad_sign
  obtain ⟨w17, e14⟩ := bad10 (.rl (ns.map .int)) (.sh (.int k)) m cs (.ol (L.map sg)) y5' y6' (.sh (.list (genL.map tx))) (.sh (.list (ord.map encL))) (.sh (.list ((srt cs).map encS))) (.sh (bkD (bk cs))) (tot (bk cs) cs) y13 y14 y15 y16 _ z17 bad_number
  refine ⟨.sh (.int m), .sh (cD cs), .ol (L.map sg), y5', y6', .sh (bkD (bk cs)), .sh (.list (genL.map tx)), .sh (.list (ord.map encL)), .sh (.list ((srt cs).map encS)), .sh (bkD (bk cs)), .sh (.int (tot (bk cs) cs)), y13, y14, y15, y16, w17, g16, ?_⟩
  have s1 : sAsg 2 (dCall dn__law_drawn (dCons (dCell 0 (dVar 1)) (dCons (dVar 1) dNil))) (EV (.rl (ns.map .int)) (.sh (.int k)) x2 x3 x4 x5 x6 x7 x8 x9 x10 x11 x12 x13 x14 x15 x16 x17) = .ok (.nx (EV (.rl (ns.map .int)) (.sh (.int k)) (.sh (.int m)) x3 x4 x5 x6 x7 x8 x9 x10 x11 x12 x13 x14 x15 x16 x17)) := by
    simp [dc, drawn_eq, hm]
  have r3 : listD [.str (st signsL)] = .ok (signsL.map sg) := listD_st signsL (by rw [signsL_len]; decide)
  have s2 : sParM (pD 3 (pF 4 (dNF listD (dCons (dCall dn__law_signs dNil) dNil)) pNil)) (EV (.rl (ns.map .int)) (.sh (.int k)) (.sh (.int m)) x3 x4 x5 x6 x7 x8 x9 x10 x11 x12 x13 x14 x15 x16 x17) = .ok (.nx (ctE (.rl (ns.map .int)) (.sh (.int k)) m [] signsL x5 x6 [x7, x8, x9, x10, x11, x12, x13, x14, x15, x16, x17, .no, .no, .no])) := by
    simp only [sParM_ap, pD_ap, pF_ap, pNil_ap, dNF_ap, dCons_ap, dCall_ap, dNil_ap, R.bind_ok, law_signs_eq, r3, List.set_cons_succ, List.set_cons_zero, List.length_cons, List.length_nil, Nat.reduceAdd, Nat.reduceLT, if_true]
    rfl
  have s3 : sFor (dItA rng1 (dCons (d2 addD (dC (.int 1)) (d2 modD (dVar 2) (d2 ixD (dN mkL (dCons (dC (.int 5)) (dCons (dC (.int 41)) dNil))) (d2 modD (d2 fdivD (dVar 2) (dC (.int 64))) (dC (.int 2)))))) dNil)) (gN 5) lp_law_1 (ctE (.rl (ns.map .int)) (.sh (.int k)) m [] signsL x5 x6 [x7, x8, x9, x10, x11, x12, x13, x14, x15, x16, x17, .no, .no, .no]) = .ok (.nx (EV (.rl (ns.map .int)) (.sh (.int k)) (.sh (.int m)) (.od (cE cs)) (.ol (L.map sg)) y5 y6 x7 x8 x9 x10 x11 x12 x13 x14 x15 x16 x17)) := by
    have k5 : dItA rng1 (dCons (d2 addD (dC (.int 1)) (d2 modD (dVar 2) (d2 ixD (dN mkL (dCons (dC (.int 5)) (dCons (dC (.int 41)) dNil))) (d2 modD (d2 fdivD (dVar 2) (dC (.int 64))) (dC (.int 2)))))) dNil) (ctE (.rl (ns.map .int)) (.sh (.int k)) m [] signsL x5 x6 [x7, x8, x9, x10, x11, x12, x13, x14, x15, x16, x17, .no, .no, .no]) = .ok (rngL 0 (1 + m % (bnd2 (m / 64 % 2) : Int)).toNat) := by
      unfold ctE
      simp [m1, m2, m3, q1, rng1_any (1 + m % (bnd2 (m / 64 % 2) : Int)) (by omega) (by omega)]
    rw [sFor_ap, k5]
    simp only [R.bind_ok]
    exact e3
  have s9 : sIf (dOr (dTest (d2 neDD (dVar 7) (dVar 11))) (dTest (d2 isnD (dCall dn_need_book (dCons (dVar 7) dNil)) (dC .none)))) (sRet (dC (.bool false))) sNil (EV (.rl (ns.map .int)) (.sh (.int k)) (.sh (.int m)) (.sh (cD cs)) (.ol (L.map sg)) y5 y6 (.sh (bkD (bk cs))) (.sh (.list (genL.map tx))) (.sh (.list (ord.map encL))) (.sh (.list ((srt cs).map encS))) (.sh (bkD (bk cs))) x12 x13 x14 x15 x16 x17) = .ok (.nx (EV (.rl (ns.map .int)) (.sh (.int k)) (.sh (.int m)) (.sh (cD cs)) (.ol (L.map sg)) y5 y6 (.sh (bkD (bk cs))) (.sh (.list (genL.map tx))) (.sh (.list (ord.map encL))) (.sh (.list ((srt cs).map encS))) (.sh (bkD (bk cs))) x12 x13 x14 x15 x16 x17)) := by
    have e1 : isnD .none .none = .ok (.bool false) := by with_unfolding_all rfl
    simp [ne_bk (bk_ok h).keys, need_book_ok (bk_ok h), e1]
    all_goals rfl
  have s11 : sSh 3 (sIf (dTest (d2 neD (dCall dn_total (dCons (dVar 7) (dCons (dVar 3) dNil))) (dVar 12))) (sRet (dC (.bool false))) sNil) (EV (.rl (ns.map .int)) (.sh (.int k)) (.sh (.int m)) (.sh (cD cs)) (.ol (L.map sg)) y5 y6 (.sh (bkD (bk cs))) (.sh (.list (genL.map tx))) (.sh (.list (ord.map encL))) (.sh (.list ((srt cs).map encS))) (.sh (bkD (bk cs))) (.sh (.int (tot (bk cs) cs))) x13 x14 x15 x16 x17) = .ok (.nx (EV (.rl (ns.map .int)) (.sh (.int k)) (.sh (.int m)) (.sh (cD cs)) (.ol (L.map sg)) y5 y6 (.sh (bkD (bk cs))) (.sh (.list (genL.map tx))) (.sh (.list (ord.map encL))) (.sh (.list ((srt cs).map encS))) (.sh (bkD (bk cs))) (.sh (.int (tot (bk cs) cs))) x13 x14 x15 x16 x17)) := by
    have e1 : sShare 3 (EV (.rl (ns.map .int)) (.sh (.int k)) (.sh (.int m)) (.sh (cD cs)) (.ol (L.map sg)) y5 y6 (.sh (bkD (bk cs))) (.sh (.list (genL.map tx))) (.sh (.list (ord.map encL))) (.sh (.list ((srt cs).map encS))) (.sh (bkD (bk cs))) (.sh (.int (tot (bk cs) cs))) x13 x14 x15 x16 x17) = EV (.rl (ns.map .int)) (.sh (.int k)) (.sh (.int m)) (.sh (cD cs)) (.ol (L.map sg)) y5 y6 (.sh (bkD (bk cs))) (.sh (.list (genL.map tx))) (.sh (.list (ord.map encL))) (.sh (.list ((srt cs).map encS))) (.sh (bkD (bk cs))) (.sh (.int (tot (bk cs) cs))) x13 x14 x15 x16 x17 := rfl
    rw [sSh_ap, e1]
    simp [total_eq (bk_ok h) h fun p hp => key_bk h hp]
  have l8 : dItA rng1 (dCons (dC (.int 8)) dNil) = fun _ : En => R.ok ((List.range 8).map fun (i : Nat) => PyData.int (0 + (i : Int))) := by
    funext en
    with_unfolding_all rfl
  have l9 : (dIt asL (dN mkL (dCons dNewD (dCons (dC .none) (dCons (dN mkL dNil) (dCons (dDisp (dqCons (dC (.str "A")) (dC (.int 1)) dqNil)) (dCons (dDisp (dqCons (dC (.str "ab")) (dC (.int 1)) dqNil)) (dCons (dDisp (dqCons (dC (.int 1)) (dC (.int 1)) dqNil)) (dCons (dDisp (dqCons (dC (.str " ")) (dC (.int 1)) dqNil)) dNil))))))))) = fun _ : En => R.ok [.dict [], .none, .list [], .dict [(.str "A", .int 1)], .dict [(.str "ab", .int 1)], .dict [(.int 1, .int 1)], .dict [(.str " ", .int 1)]] := by
    funext en
    with_unfolding_all rfl
  have l10 : (dIt asL (dN mkL (dCons (dDisp (dqCons (dC (.str "a")) (d1 negD (dC (.int 1))) dqNil)) (dCons (dDisp (dqCons (dC (.str "a")) (dC (.int 1001)) dqNil)) (dCons (dDisp (dqCons (dC (.str "a")) (dC .none) dqNil)) (dCons (dDisp (dqCons (dC (.str "a")) (dC (.bool true)) dqNil)) (dCons (dDisp (dqCons (dC (.str "a")) (dC (.str "1")) dqNil)) dNil))))))) = fun _ : En => R.ok [.dict [(.str "a", .int (-1))], .dict [(.str "a", .int 1001)], .dict [(.str "a", .none)], .dict [(.str "a", .bool true)], .dict [(.str "a", .str "1")]] := by
    funext en
    with_unfolding_all rfl
  unfold lp_law_11
  rw [sSeq_ap, s1]; simp only [R.bind_ok]
  rw [sSeq_ap, s2]; simp only [R.bind_ok]
  rw [sSeq_ap, s3]; simp only [R.bind_ok]
  rw [sSeq_ap, s_told h]; simp only [R.bind_ok]
  rw [sSeq_ap, s_codes]; simp only [R.bind_ok]
  rw [sSeq_ap, s_rows _ _ _ _ _ _ _ _ _ _ _ _ _ _ _ _ _ h16]; simp only [R.bind_ok]
  rw [sSeq_ap, s_signs h]; simp only [R.bind_ok]
  rw [sSeq_ap, s_due h]; simp only [R.bind_ok]
  rw [sSeq_ap, s9]; simp only [R.bind_ok]
  rw [sSeq_ap, s_whole h]; simp only [R.bind_ok]
  rw [sSeq_ap, s11]; simp only [R.bind_ok]
  rw [sSeq_ap, sFor_ap, l8]; simp only [R.bind_ok]
  rw [e12]; simp only [R.bind_ok]
  rw [sSeq_ap, sFor_ap, l9]; simp only [R.bind_ok]
  rw [e13]; simp only [R.bind_ok]
  rw [sSeq_ap, sFor_ap, l10]; simp only [R.bind_ok]
  rw [e14]; simp only [R.bind_ok]
  simp [refused]
theorem law_true (ns : List Int) (h : ns.length ≤ 63) : runL 21 (sNx bd_law) ns = .ok (.bool true) := by
  refine law_of (N := 3) (by decide) ns (fun en => ∃ x1 x2 x3 x4 x5 x6 x7 x8 x9 x10 x11 x12 x13 x14 x15 x16 x17, isOwn x16 = false ∧ en = EV (.rl (ns.map .int)) x1 x2 x3 x4 x5 x6 x7 x8 x9 x10 x11 x12 x13 x14 x15 x16 x17) 20 ⟨.no, .no, .no, .no, .no, .no, .no, .no, .no, .no, .no, .no, .no, .no, .no, .no, .no, rfl, rfl⟩ ?_
  rintro k k0 k1 en ⟨x1, x2, x3, x4, x5, x6, x7, x8, x9, x10, x11, x12, x13, x14, x15, x16, x17, h16, rfl⟩
  obtain ⟨y2, y3, y4, y5, y6, y7, y8, y9, y10, y11, y12, y13, y14, y15, y16, y17, g16, e⟩ := k60_turn ns h k ⟨k0, k1⟩ x2 x3 x4 x5 x6 x7 x8 x9 x10 x11 x12 x13 x14 x15 x16 x17 h16
  exact ⟨_, .inl e, .sh (.int k), y2, y3, y4, y5, y6, y7, y8, y9, y10, y11, y12, y13, y14, y15, y16, y17, g16, rfl⟩
end Tk

namespace Tk
open PySem L2 Dn
theorem all_mk {l : PySem.W.OpenLaw} {w : World} {K : PySem.W.Frag} {h : Heap} {mg : Str → Option Value} {fa : Addr} (X : K.In h) (G : h.Ns mainGlobals mg) (hfa : mg "law" = some (.ref fa))
    {f0 : Addr} {od0 an0 : Option Addr} {sl0 : Array (Option Value)} {oc0 kV0 dc0 pm0 cd0 ct0 : Value} {f1 : Addr} {od1 an1 : Option Addr} {sl1 : Array (Option Value)} {oc1 kV1 dc1 pm1 cd1 ct1 : Value} {f2 : Addr} {od2 an2 : Option Addr} {sl2 : Array (Option Value)} {oc2 kV2 dc2 pm2 cd2 ct2 : Value} {f3 : Addr} {od3 an3 : Option Addr} {sl3 : Array (Option Value)} {oc3 kV3 dc3 pm3 cd3 ct3 : Value} {f4 : Addr} {od4 an4 : Option Addr} {sl4 : Array (Option Value)} {oc4 kV4 dc4 pm4 cd4 ct4 : Value} {f5 : Addr} {od5 an5 : Option Addr} {sl5 : Array (Option Value)} {oc5 kV5 dc5 pm5 cd5 ct5 : Value} {f6 : Addr} {od6 an6 : Option Addr} {sl6 : Array (Option Value)} {oc6 kV6 dc6 pm6 cd6 ct6 : Value} {f7 : Addr} {od7 an7 : Option Addr} {sl7 : Array (Option Value)} {oc7 kV7 dc7 pm7 cd7 ct7 : Value} {f8 : Addr} {od8 an8 : Option Addr} {sl8 : Array (Option Value)} {oc8 kV8 dc8 pm8 cd8 ct8 : Value} {f9 : Addr} {od9 an9 : Option Addr} {sl9 : Array (Option Value)} {oc9 kV9 dc9 pm9 cd9 ct9 : Value} {f10 : Addr} {od10 an10 : Option Addr} {sl10 : Array (Option Value)} {oc10 kV10 dc10 pm10 cd10 ct10 : Value} {f11 : Addr} {od11 an11 : Option Addr} {sl11 : Array (Option Value)} {oc11 kV11 dc11 pm11 cd11 ct11 : Value} {f12 : Addr} {od12 an12 : Option Addr} {sl12 : Array (Option Value)} {oc12 kV12 dc12 pm12 cd12 ct12 : Value} {f13 : Addr} {od13 an13 : Option Addr} {sl13 : Array (Option Value)} {oc13 kV13 dc13 pm13 cd13 ct13 : Value} {f14 : Addr} {od14 an14 : Option Addr} {sl14 : Array (Option Value)} {oc14 kV14 dc14 pm14 cd14 ct14 : Value} {f15 cc15 tb15 : Addr} {od15 an15 : Option Addr} {sl15 : Array (Option Value)} {oc15 kV15 dc15 pm15 ct15 : Value} {f16 cc16 tb16 : Addr} {od16 an16 : Option Addr} {sl16 : Array (Option Value)} {oc16 kV16 dc16 pm16 ct16 : Value} {f17 cc17 tb17 : Addr} {od17 an17 : Option Addr} {sl17 : Array (Option Value)} {oc17 kV17 dc17 pm17 ct17 : Value} {e0 : Addr} {e1 : Addr} {e2 : Addr} {e3 : Addr} {e4 : Addr} {e5 : Addr} {e6 : Addr} {e7 : Addr} {e8 : Addr} {t0 : Tok} {t1 : Tok} {t2 : Tok}
    (tq15 : PySem.W.CodeHd h cc15 tb15 ∧ h.get? tb15 = some { cls := .none, data := .fields #[] }) (tq16 : PySem.W.CodeHd h cc16 tb16 ∧ h.get? tb16 = some { cls := .none, data := .fields #[] }) (tq17 : PySem.W.CodeHd h cc17 tb17 ∧ h.get? tb17 = some { cls := .none, data := .fields #[] })
    (a0 : PySem.W.nsIn K mainGlobals "is_code" = some (some (.ref f0)))
    (l0 : K.lookup f0 = some ⟨oc0, od0, .func (PySem.W.fnOf "is_code" "is_code" (defArgs s_is_code) (defBody s_is_code) (defScope s_is_code) .none kV0 dc0 pm0 an0 cd0 ct0), sl0⟩)
    (c0 : PySem.W.codeIn K cd0 "is_code" = true)
    (k0 : PySem.W.keepIn K (.ref f0) = true)
    (a1 : PySem.W.nsIn K mainGlobals "is_count" = some (some (.ref f1)))
    (l1 : K.lookup f1 = some ⟨oc1, od1, .func (PySem.W.fnOf "is_count" "is_count" (defArgs s_is_count) (defBody s_is_count) (defScope s_is_count) .none kV1 dc1 pm1 an1 cd1 ct1), sl1⟩)
    (c1 : PySem.W.codeIn K cd1 "is_count" = true)
    (k1 : PySem.W.keepIn K (.ref f1) = true)
    (a2 : PySem.W.nsIn K mainGlobals "units_of" = some (some (.ref f2)))
    (l2 : K.lookup f2 = some ⟨oc2, od2, .func (PySem.W.fnOf "units_of" "units_of" (defArgs s_units_of) (defBody s_units_of) (defScope s_units_of) .none kV2 dc2 pm2 an2 cd2 ct2), sl2⟩)
    (c2 : PySem.W.codeIn K cd2 "units_of" = true)
    (k2 : PySem.W.keepIn K (.ref f2) = true)
    (a3 : PySem.W.nsIn K mainGlobals "_law_cell" = some (some (.ref f3)))
    (l3 : K.lookup f3 = some ⟨oc3, od3, .func (PySem.W.fnOf "_law_cell" "_law_cell" (defArgs s__law_cell) (defBody s__law_cell) (defScope s__law_cell) .none kV3 dc3 pm3 an3 cd3 ct3), sl3⟩)
    (c3 : PySem.W.codeIn K cd3 "_law_cell" = true)
    (k3 : PySem.W.keepIn K (.ref f3) = true)
    (a4 : PySem.W.nsIn K mainGlobals "_law_drawn" = some (some (.ref f4)))
    (l4 : K.lookup f4 = some ⟨oc4, od4, .func (PySem.W.fnOf "_law_drawn" "_law_drawn" (defArgs s__law_drawn) (defBody s__law_drawn) (defScope s__law_drawn) .none kV4 dc4 pm4 an4 cd4 ct4), sl4⟩)
    (c4 : PySem.W.codeIn K cd4 "_law_drawn" = true)
    (k4 : PySem.W.keepIn K (.ref f4) = true)
    (a5 : PySem.W.nsIn K mainGlobals "_law_word" = some (some (.ref f5)))
    (l5 : K.lookup f5 = some ⟨oc5, od5, .func (PySem.W.fnOf "_law_word" "_law_word" (defArgs s__law_word) (defBody s__law_word) (defScope s__law_word) .none kV5 dc5 pm5 an5 cd5 ct5), sl5⟩)
    (c5 : PySem.W.codeIn K cd5 "_law_word" = true)
    (k5 : PySem.W.keepIn K (.ref f5) = true)
    (a6 : PySem.W.nsIn K mainGlobals "_law_told" = some (some (.ref f6)))
    (l6 : K.lookup f6 = some ⟨oc6, od6, .func (PySem.W.fnOf "_law_told" "_law_told" (defArgs s__law_told) (defBody s__law_told) (defScope s__law_told) .none kV6 dc6 pm6 an6 cd6 ct6), sl6⟩)
    (c6 : PySem.W.codeIn K cd6 "_law_told" = true)
    (k6 : PySem.W.keepIn K (.ref f6) = true)
    (a7 : PySem.W.nsIn K mainGlobals "_law_code" = some (some (.ref f7)))
    (l7 : K.lookup f7 = some ⟨oc7, od7, .func (PySem.W.fnOf "_law_code" "_law_code" (defArgs s__law_code) (defBody s__law_code) (defScope s__law_code) .none kV7 dc7 pm7 an7 cd7 ct7), sl7⟩)
    (c7 : PySem.W.codeIn K cd7 "_law_code" = true)
    (k7 : PySem.W.keepIn K (.ref f7) = true)
    (a8 : PySem.W.nsIn K mainGlobals "_law_signs" = some (some (.ref f8)))
    (l8 : K.lookup f8 = some ⟨oc8, od8, .func (PySem.W.fnOf "_law_signs" "_law_signs" (defArgs s__law_signs) (defBody s__law_signs) (defScope s__law_signs) .none kV8 dc8 pm8 an8 cd8 ct8), sl8⟩)
    (c8 : PySem.W.codeIn K cd8 "_law_signs" = true)
    (k8 : PySem.W.keepIn K (.ref f8) = true)
    (a9 : PySem.W.nsIn K mainGlobals "_law_units" = some (some (.ref f9)))
    (l9 : K.lookup f9 = some ⟨oc9, od9, .func (PySem.W.fnOf "_law_units" "_law_units" (defArgs s__law_units) (defBody s__law_units) (defScope s__law_units) .none kV9 dc9 pm9 an9 cd9 ct9), sl9⟩)
    (c9 : PySem.W.codeIn K cd9 "_law_units" = true)
    (k9 : PySem.W.keepIn K (.ref f9) = true)
    (a10 : PySem.W.nsIn K mainGlobals "is_book" = some (some (.ref f10)))
    (l10 : K.lookup f10 = some ⟨oc10, od10, .func (PySem.W.fnOf "is_book" "is_book" (defArgs s_is_book) (defBody s_is_book) (defScope s_is_book) .none kV10 dc10 pm10 an10 cd10 ct10), sl10⟩)
    (c10 : PySem.W.codeIn K cd10 "is_book" = true)
    (k10 : PySem.W.keepIn K (.ref f10) = true)
    (a11 : PySem.W.nsIn K mainGlobals "need_counts" = some (some (.ref f11)))
    (l11 : K.lookup f11 = some ⟨oc11, od11, .func (PySem.W.fnOf "need_counts" "need_counts" (defArgs s_need_counts) (defBody s_need_counts) (defScope s_need_counts) .none kV11 dc11 pm11 an11 cd11 ct11), sl11⟩)
    (c11 : PySem.W.codeIn K cd11 "need_counts" = true)
    (k11 : PySem.W.keepIn K (.ref f11) = true)
    (a12 : PySem.W.nsIn K mainGlobals "codes_in_order" = some (some (.ref f12)))
    (l12 : K.lookup f12 = some ⟨oc12, od12, .func (PySem.W.fnOf "codes_in_order" "codes_in_order" (defArgs s_codes_in_order) (defBody s_codes_in_order) (defScope s_codes_in_order) .none kV12 dc12 pm12 an12 cd12 ct12), sl12⟩)
    (c12 : PySem.W.codeIn K cd12 "codes_in_order" = true)
    (k12 : PySem.W.keepIn K (.ref f12) = true)
    (a13 : PySem.W.nsIn K mainGlobals "need_book" = some (some (.ref f13)))
    (l13 : K.lookup f13 = some ⟨oc13, od13, .func (PySem.W.fnOf "need_book" "need_book" (defArgs s_need_book) (defBody s_need_book) (defScope s_need_book) .none kV13 dc13 pm13 an13 cd13 ct13), sl13⟩)
    (c13 : PySem.W.codeIn K cd13 "need_book" = true)
    (k13 : PySem.W.keepIn K (.ref f13) = true)
    (a14 : PySem.W.nsIn K mainGlobals "total" = some (some (.ref f14)))
    (l14 : K.lookup f14 = some ⟨oc14, od14, .func (PySem.W.fnOf "total" "total" (defArgs s_total) (defBody s_total) (defScope s_total) .none kV14 dc14 pm14 an14 cd14 ct14), sl14⟩)
    (c14 : PySem.W.codeIn K cd14 "total" = true)
    (k14 : PySem.W.keepIn K (.ref f14) = true)
    (a15 : PySem.W.nsIn K mainGlobals "book_for" = some (some (.ref f15)))
    (l15 : K.lookup f15 = some ⟨oc15, od15, .func (PySem.W.fnOf "book_for" "book_for" (defArgs s_book_for) (defBody s_book_for) (defScope s_book_for) .none kV15 dc15 pm15 an15 (.ref cc15) ct15), sl15⟩)
    (c15 : PySem.W.codeIn K (.ref cc15) "book_for" = true)
    (k15 : PySem.W.keepIn K (.ref f15) = true)
    (tn15 : K.lookup tb15 = none)
    (a16 : PySem.W.nsIn K mainGlobals "_law_totals_refused" = some (some (.ref f16)))
    (l16 : K.lookup f16 = some ⟨oc16, od16, .func (PySem.W.fnOf "_law_totals_refused" "_law_totals_refused" (defArgs s__law_totals_refused) (defBody s__law_totals_refused) (defScope s__law_totals_refused) .none kV16 dc16 pm16 an16 (.ref cc16) ct16), sl16⟩)
    (c16 : PySem.W.codeIn K (.ref cc16) "_law_totals_refused" = true)
    (k16 : PySem.W.keepIn K (.ref f16) = true)
    (tn16 : K.lookup tb16 = none)
    (a17 : PySem.W.nsIn K mainGlobals "law" = some (some (.ref f17)))
    (l17 : K.lookup f17 = some ⟨oc17, od17, .func (PySem.W.fnOf "law" "law" (defArgs s_law) (defBody s_law) (defScope s_law) .none kV17 dc17 pm17 an17 (.ref cc17) ct17), sl17⟩)
    (c17 : PySem.W.codeIn K (.ref cc17) "law" = true)
    (k17 : PySem.W.keepIn K (.ref f17) = true)
    (tn17 : K.lookup tb17 = none)
    (ea0 : PySem.W.nsIn K mainGlobals "BadSign" = some (some (.ref e0)))
    (ex0 : PySem.W.excIn K e0 [.type "ValueError", .type "Exception", .type "BaseException", .type "object"] "ValueError.__new__" = true)
    (ek0 : PySem.W.keepIn K (.ref e0) = true)
    (eb0 : PySem.W.subIn K (.ref e0) (.type "BaseException") = some true)
    (et0 : PySem.W.typeIn K (.ref e0) = some (.type "type"))
    (ea1 : PySem.W.nsIn K mainGlobals "BadNumber" = some (some (.ref e1)))
    (ex1 : PySem.W.excIn K e1 [.type "ValueError", .type "Exception", .type "BaseException", .type "object"] "ValueError.__new__" = true)
    (ek1 : PySem.W.keepIn K (.ref e1) = true)
    (eb1 : PySem.W.subIn K (.ref e1) (.type "BaseException") = some true)
    (et1 : PySem.W.typeIn K (.ref e1) = some (.type "type"))
    (ea2 : PySem.W.nsIn K mainGlobals "BadBook" = some (some (.ref e2)))
    (ex2 : PySem.W.excIn K e2 [.type "ValueError", .type "Exception", .type "BaseException", .type "object"] "ValueError.__new__" = true)
    (ek2 : PySem.W.keepIn K (.ref e2) = true)
    (eb2 : PySem.W.subIn K (.ref e2) (.type "BaseException") = some true)
    (et2 : PySem.W.typeIn K (.ref e2) = some (.type "type"))
    (ea3 : PySem.W.nsIn K mainGlobals "BadCode" = some (some (.ref e3)))
    (ea4 : PySem.W.nsIn K mainGlobals "BadText" = some (some (.ref e4)))
    (ea5 : PySem.W.nsIn K mainGlobals "BadRuns" = some (some (.ref e5)))
    (ea6 : PySem.W.nsIn K mainGlobals "BadManner" = some (some (.ref e6)))
    (ea7 : PySem.W.nsIn K mainGlobals "BadHand" = some (some (.ref e7)))
    (ea8 : PySem.W.nsIn K mainGlobals "KeysError" = some (some (.ref e8)))
    (xn : PySem.W.specialIn K (.builtin "object.__class__") "__get__" = some (some (.builtin "getset_descriptor.__get__")))
    (xt : PySem.W.takesIn K (.builtin "object.__class__") = some true)
    (kt0_0 : PySem.W.kitOne K (.ref e0) (.ref e2) = some false)
    (kt0_1 : PySem.W.kitOne K (.ref e0) (.ref e0) = some true)
    (kt0_2 : PySem.W.kitOne K (.ref e0) (.ref e3) = some false)
    (kt0_3 : PySem.W.kitOne K (.ref e0) (.ref e4) = some false)
    (kt0_4 : PySem.W.kitOne K (.ref e0) (.ref e1) = some false)
    (kt0_5 : PySem.W.kitOne K (.ref e0) (.ref e5) = some false)
    (kt0_6 : PySem.W.kitOne K (.ref e0) (.ref e6) = some false)
    (kt0_7 : PySem.W.kitOne K (.ref e0) (.ref e7) = some false)
    (kv0 : PySem.W.kitOne K (.ref e0) (.type "ValueError") = some true)
    (kc0 : PySem.W.exmOne K (.ref e0) (.ref e8) = some true)
    (xg0 : PySem.W.findIn K (.ref e0) "__getattribute__" = some (some (.builtin "BaseException.__getattribute__")))
    (xk0 : PySem.W.findIn K (.ref e0) "__getattr__" = some none)
    (xd0 : PySem.W.hasDictIn K e0 = true)
    (xa0 : PySem.W.findIn K (.ref e0) "__class__" = some (some (.builtin "object.__class__")))
    (xm0 : PySem.W.mroIn K e0 (.type "object") = some true)
    (kt1_0 : PySem.W.kitOne K (.ref e1) (.ref e2) = some false)
    (kt1_1 : PySem.W.kitOne K (.ref e1) (.ref e0) = some false)
    (kt1_2 : PySem.W.kitOne K (.ref e1) (.ref e3) = some false)
    (kt1_3 : PySem.W.kitOne K (.ref e1) (.ref e4) = some false)
    (kt1_4 : PySem.W.kitOne K (.ref e1) (.ref e1) = some true)
    (kt1_5 : PySem.W.kitOne K (.ref e1) (.ref e5) = some false)
    (kt1_6 : PySem.W.kitOne K (.ref e1) (.ref e6) = some false)
    (kt1_7 : PySem.W.kitOne K (.ref e1) (.ref e7) = some false)
    (kv1 : PySem.W.kitOne K (.ref e1) (.type "ValueError") = some true)
    (kc1 : PySem.W.exmOne K (.ref e1) (.ref e8) = some true)
    (xg1 : PySem.W.findIn K (.ref e1) "__getattribute__" = some (some (.builtin "BaseException.__getattribute__")))
    (xk1 : PySem.W.findIn K (.ref e1) "__getattr__" = some none)
    (xd1 : PySem.W.hasDictIn K e1 = true)
    (xa1 : PySem.W.findIn K (.ref e1) "__class__" = some (some (.builtin "object.__class__")))
    (xm1 : PySem.W.mroIn K e1 (.type "object") = some true)
    (kt2_0 : PySem.W.kitOne K (.ref e2) (.ref e2) = some true)
    (kt2_1 : PySem.W.kitOne K (.ref e2) (.ref e0) = some false)
    (kt2_2 : PySem.W.kitOne K (.ref e2) (.ref e3) = some false)
    (kt2_3 : PySem.W.kitOne K (.ref e2) (.ref e4) = some false)
    (kt2_4 : PySem.W.kitOne K (.ref e2) (.ref e1) = some false)
    (kt2_5 : PySem.W.kitOne K (.ref e2) (.ref e5) = some false)
    (kt2_6 : PySem.W.kitOne K (.ref e2) (.ref e6) = some false)
    (kt2_7 : PySem.W.kitOne K (.ref e2) (.ref e7) = some false)
    (kv2 : PySem.W.kitOne K (.ref e2) (.type "ValueError") = some true)
    (kc2 : PySem.W.exmOne K (.ref e2) (.ref e8) = some true)
    (xg2 : PySem.W.findIn K (.ref e2) "__getattribute__" = some (some (.builtin "BaseException.__getattribute__")))
    (xk2 : PySem.W.findIn K (.ref e2) "__getattr__" = some none)
    (xd2 : PySem.W.hasDictIn K e2 = true)
    (xa2 : PySem.W.findIn K (.ref e2) "__class__" = some (some (.builtin "object.__class__")))
    (xm2 : PySem.W.mroIn K e2 (.type "object") = some true)
    (td15_16 : tb15 ≠ tb16)
    (td15_17 : tb15 ≠ tb17)
    (td16_17 : tb16 ≠ tb17)
    (z_ValueError : PySem.W.nsIn K mainGlobals "ValueError" = some none)
    (z_all : PySem.W.nsIn K mainGlobals "all" = some none)
    (z_bool : PySem.W.nsIn K mainGlobals "bool" = some none)
    (z_dict : PySem.W.nsIn K mainGlobals "dict" = some none)
    (z_int : PySem.W.nsIn K mainGlobals "int" = some none)
    (z_isinstance : PySem.W.nsIn K mainGlobals "isinstance" = some none)
    (z_len : PySem.W.nsIn K mainGlobals "len" = some none)
    (z_list : PySem.W.nsIn K mainGlobals "list" = some none)
    (z_max : PySem.W.nsIn K mainGlobals "max" = some none)
    (z_min : PySem.W.nsIn K mainGlobals "min" = some none)
    (z_range : PySem.W.nsIn K mainGlobals "range" = some none)
    (z_set : PySem.W.nsIn K mainGlobals "set" = some none)
    (z_sorted : PySem.W.nsIn K mainGlobals "sorted" = some none)
    (z_str : PySem.W.nsIn K mainGlobals "str" = some none)
    (z_sum : PySem.W.nsIn K mainGlobals "sum" = some none)
    (z_zip : PySem.W.nsIn K mainGlobals "zip" = some none)
    (cc0 : PySem.W.nsIn K mainGlobals "SIGNS" = some (some (.str "abcdefghijklmnopqrstuvwxyz0123456789.,?/=" t0)))
    (cc1 : PySem.W.nsIn K mainGlobals "MOST_CODE" = some (some (.int 6 t1)))
    (cc2 : PySem.W.nsIn K mainGlobals "MOST_COUNT" = some (some (.int 1000 t2))) :
    LamX.LawAtS l w K (L2N.CX l.prog w) 8 63 "script" mg fa h := by
  have e := hfa.symm.trans (PySem.W.mg_of X G a17)
  cases e
  have F0 := fun_mk (st := s_is_code) l0 c0 k0
  have F1 := fun_mk (st := s_is_count) l1 c1 k1
  have F2 := fun_mk (st := s_units_of) l2 c2 k2
  have F3 := fun_mk (st := s__law_cell) l3 c3 k3
  have F4 := fun_mk (st := s__law_drawn) l4 c4 k4
  have F5 := fun_mk (st := s__law_word) l5 c5 k5
  have F6 := fun_mk (st := s__law_told) l6 c6 k6
  have F7 := fun_mk (st := s__law_code) l7 c7 k7
  have F8 := fun_mk (st := s__law_signs) l8 c8 k8
  have F9 := fun_mk (st := s__law_units) l9 c9 k9
  have F10 := fun_mk (st := s_is_book) l10 c10 k10
  have F11 := fun_mk (st := s_need_counts) l11 c11 k11
  have F12 := fun_mk (st := s_codes_in_order) l12 c12 k12
  have F13 := fun_mk (st := s_need_book) l13 c13 k13
  have F14 := fun_mk (st := s_total) l14 c14 k14
  have F15 := (letI : Tabl := ⟨[], fun _ => 0, 0⟩; funC_mk (st := s_book_for) l15 c15 k15)
  have F16 := (letI : Tabl := ⟨[], fun _ => 0, 0⟩; funC_mk (st := s__law_totals_refused) l16 c16 k16)
  have F17 := (letI : Tabl := ⟨[], fun _ => 0, 0⟩; funC_mk (st := s_law) l17 c17 k17)
  have b0 := F0.binds (ps := ["thing"]) fun _ _ _ _ _ _ us hl => match us, hl with | [_], _ => rfl
  have b1 := F1.binds (ps := ["thing", "low", "high"]) fun _ _ _ _ _ _ us hl => match us, hl with | [_, _, _], _ => rfl
  have b2 := F2.binds (ps := ["code"]) fun _ _ _ _ _ _ us hl => match us, hl with | [_], _ => rfl
  have b3 := F3.binds (ps := ["script", "k"]) fun _ _ _ _ _ _ us hl => match us, hl with | [_, _], _ => rfl
  have b4 := F4.binds (ps := ["cell", "k"]) fun _ _ _ _ _ _ us hl => match us, hl with | [_, _], _ => rfl
  have b5 := F5.binds (ps := ["e"]) fun _ _ _ _ _ _ us hl => match us, hl with | [_], _ => rfl
  have b6 := F6.binds (ps := ["deed"]) fun _ _ _ _ _ _ us hl => match us, hl with | [_], _ => rfl
  have b7 := F7.binds (ps := ["number"]) fun _ _ _ _ _ _ us hl => match us, hl with | [_], _ => rfl
  have b8 := F8.binds (ps := []) fun _ _ _ _ _ _ us hl => match us, hl with | [], _ => rfl
  have b9 := F9.binds (ps := ["code"]) fun _ _ _ _ _ _ us hl => match us, hl with | [_], _ => rfl
  have b10 := F10.binds (ps := ["thing"]) fun _ _ _ _ _ _ us hl => match us, hl with | [_], _ => rfl
  have b11 := F11.binds (ps := ["counts"]) fun _ _ _ _ _ _ us hl => match us, hl with | [_], _ => rfl
  have b12 := F12.binds (ps := ["many"]) fun _ _ _ _ _ _ us hl => match us, hl with | [_], _ => rfl
  have b13 := F13.binds (ps := ["book"]) fun _ _ _ _ _ _ us hl => match us, hl with | [_], _ => rfl
  have b14 := F14.binds (ps := ["book", "counts"]) fun _ _ _ _ _ _ us hl => match us, hl with | [_, _], _ => rfl
  have b15 := (letI : Tabl := ⟨[], fun _ => 0, 0⟩; F15.f).binds (ps := ["counts"]) fun _ _ _ _ _ _ us hl => match us, hl with | [_], _ => rfl
  have b16 := (letI : Tabl := ⟨[], fun _ => 0, 0⟩; F16.f).binds (ps := []) fun _ _ _ _ _ _ us hl => match us, hl with | [], _ => rfl
  have b17 := (letI : Tabl := ⟨[], fun _ => 0, 0⟩; F17.f).binds (ps := ["script"]) fun _ _ _ _ _ _ us hl => match us, hl with | [_], _ => rfl
  obtain ⟨cl, hc0, hc1, hc2, hc3, hc4, hc5, hc6, hc7, hc8⟩ : ∃ cl : Str → Addr, cl "BadSign" = e0 ∧ cl "BadNumber" = e1 ∧ cl "BadBook" = e2 ∧ cl "BadCode" = e3 ∧ cl "BadText" = e4 ∧ cl "BadRuns" = e5 ∧ cl "BadManner" = e6 ∧ cl "BadHand" = e7 ∧ cl "KeysError" = e8 := ⟨fun s => if s = "BadSign" then e0 else if s = "BadNumber" then e1 else if s = "BadBook" then e2 else if s = "BadCode" then e3 else if s = "BadText" then e4 else if s = "BadRuns" then e5 else if s = "BadManner" then e6 else if s = "BadHand" then e7 else if s = "KeysError" then e8 else 0, (by dsimp only; rw [if_pos rfl]), (by dsimp only; rw [if_neg (by decide), if_pos rfl]), (by dsimp only; rw [if_neg (by decide), if_neg (by decide), if_pos rfl]), (by dsimp only; rw [if_neg (by decide), if_neg (by decide), if_neg (by decide), if_pos rfl]), (by dsimp only; rw [if_neg (by decide), if_neg (by decide), if_neg (by decide), if_neg (by decide), if_pos rfl]), (by dsimp only; rw [if_neg (by decide), if_neg (by decide), if_neg (by decide), if_neg (by decide), if_neg (by decide), if_pos rfl]), (by dsimp only; rw [if_neg (by decide), if_neg (by decide), if_neg (by decide), if_neg (by decide), if_neg (by decide), if_neg (by decide), if_pos rfl]), (by dsimp only; rw [if_neg (by decide), if_neg (by decide), if_neg (by decide), if_neg (by decide), if_neg (by decide), if_neg (by decide), if_neg (by decide), if_pos rfl]), (by dsimp only; rw [if_neg (by decide), if_neg (by decide), if_neg (by decide), if_neg (by decide), if_neg (by decide), if_neg (by decide), if_neg (by decide), if_neg (by decide), if_pos rfl])⟩
  obtain ⟨ca, _⟩ : ∃ ca : Str → Addr, True := ⟨fun _ => 0, trivial⟩
  have wd : ∀ c ∈ excs, WordT K cl excw (cl "KeysError") c := by
    intro c hc
    unfold excs at hc
    simp only [List.mem_cons, List.not_mem_nil, or_false] at hc
    rcases hc with rfl | rfl | rfl
    · refine ⟨fun x hx => ?_, by rw [hc0]; exact kv0, by rw [hc0]; exact ⟨xg0, xk0, eb0, xd0, xa0, xn, xt, xm0⟩, by rw [hc0, hc8]; exact kc0⟩
      unfold excw at hx
      simp only [List.mem_cons, List.not_mem_nil, or_false] at hx
      rcases hx with rfl | rfl | rfl | rfl | rfl | rfl | rfl | rfl
      · rw [hc0, hc2]; exact kt0_0.trans (by decide)
      · rw [hc0]; exact kt0_1.trans (by decide)
      · rw [hc0, hc3]; exact kt0_2.trans (by decide)
      · rw [hc0, hc4]; exact kt0_3.trans (by decide)
      · rw [hc0, hc1]; exact kt0_4.trans (by decide)
      · rw [hc0, hc5]; exact kt0_5.trans (by decide)
      · rw [hc0, hc6]; exact kt0_6.trans (by decide)
      · rw [hc0, hc7]; exact kt0_7.trans (by decide)
    · refine ⟨fun x hx => ?_, by rw [hc1]; exact kv1, by rw [hc1]; exact ⟨xg1, xk1, eb1, xd1, xa1, xn, xt, xm1⟩, by rw [hc1, hc8]; exact kc1⟩
      unfold excw at hx
      simp only [List.mem_cons, List.not_mem_nil, or_false] at hx
      rcases hx with rfl | rfl | rfl | rfl | rfl | rfl | rfl | rfl
      · rw [hc1, hc2]; exact kt1_0.trans (by decide)
      · rw [hc1, hc0]; exact kt1_1.trans (by decide)
      · rw [hc1, hc3]; exact kt1_2.trans (by decide)
      · rw [hc1, hc4]; exact kt1_3.trans (by decide)
      · rw [hc1]; exact kt1_4.trans (by decide)
      · rw [hc1, hc5]; exact kt1_5.trans (by decide)
      · rw [hc1, hc6]; exact kt1_6.trans (by decide)
      · rw [hc1, hc7]; exact kt1_7.trans (by decide)
    · refine ⟨fun x hx => ?_, by rw [hc2]; exact kv2, by rw [hc2]; exact ⟨xg2, xk2, eb2, xd2, xa2, xn, xt, xm2⟩, by rw [hc2, hc8]; exact kc2⟩
      unfold excw at hx
      simp only [List.mem_cons, List.not_mem_nil, or_false] at hx
      rcases hx with rfl | rfl | rfl | rfl | rfl | rfl | rfl | rfl
      · rw [hc2]; exact kt2_0.trans (by decide)
      · rw [hc2, hc0]; exact kt2_1.trans (by decide)
      · rw [hc2, hc3]; exact kt2_2.trans (by decide)
      · rw [hc2, hc4]; exact kt2_3.trans (by decide)
      · rw [hc2, hc1]; exact kt2_4.trans (by decide)
      · rw [hc2, hc5]; exact kt2_5.trans (by decide)
      · rw [hc2, hc6]; exact kt2_6.trans (by decide)
      · rw [hc2, hc7]; exact kt2_7.trans (by decide)
  have T : Txt K mg cl ca (A := ⟨f0, f1, f2, f3, f4, f5, f6, f7, f8, f9, f10, f11, f12, f13, f14, f15, f16, fa, cc15, tb15, cc16, tb16, cc17, tb17⟩) (D := ⟨_, _, _, _, _, _, _, _, _, _, _, _, _, _, _, _, _, _⟩) := { z_ValueError := PySem.W.mg_none_of X G z_ValueError, z_all := PySem.W.mg_none_of X G z_all, z_bool := PySem.W.mg_none_of X G z_bool, z_dict := PySem.W.mg_none_of X G z_dict, z_int := PySem.W.mg_none_of X G z_int, z_isinstance := PySem.W.mg_none_of X G z_isinstance, z_len := PySem.W.mg_none_of X G z_len, z_list := PySem.W.mg_none_of X G z_list, z_max := PySem.W.mg_none_of X G z_max, z_min := PySem.W.mg_none_of X G z_min, z_range := PySem.W.mg_none_of X G z_range, z_set := PySem.W.mg_none_of X G z_set, z_sorted := PySem.W.mg_none_of X G z_sorted, z_str := PySem.W.mg_none_of X G z_str, z_sum := PySem.W.mg_none_of X G z_sum, z_zip := PySem.W.mg_none_of X G z_zip, F_is_code := F0, b_is_code := b0, g_is_code := PySem.W.mg_of X G a0, F_is_count := F1, b_is_count := b1, g_is_count := PySem.W.mg_of X G a1, F_units_of := F2, b_units_of := b2, g_units_of := PySem.W.mg_of X G a2, F__law_cell := F3, b__law_cell := b3, g__law_cell := PySem.W.mg_of X G a3, F__law_drawn := F4, b__law_drawn := b4, g__law_drawn := PySem.W.mg_of X G a4, F__law_word := F5, b__law_word := b5, g__law_word := PySem.W.mg_of X G a5, F__law_told := F6, b__law_told := b6, g__law_told := PySem.W.mg_of X G a6, F__law_code := F7, b__law_code := b7, g__law_code := PySem.W.mg_of X G a7, F__law_signs := F8, b__law_signs := b8, g__law_signs := PySem.W.mg_of X G a8, F__law_units := F9, b__law_units := b9, g__law_units := PySem.W.mg_of X G a9, F_is_book := F10, b_is_book := b10, g_is_book := PySem.W.mg_of X G a10, F_need_counts := F11, b_need_counts := b11, g_need_counts := PySem.W.mg_of X G a11, F_codes_in_order := F12, b_codes_in_order := b12, g_codes_in_order := PySem.W.mg_of X G a12, F_need_book := F13, b_need_book := b13, g_need_book := PySem.W.mg_of X G a13, F_total := F14, b_total := b14, g_total := PySem.W.mg_of X G a14, F_book_for := F15, b_book_for := b15, g_book_for := PySem.W.mg_of X G a15, F__law_totals_refused := F16, b__law_totals_refused := b16, g__law_totals_refused := PySem.W.mg_of X G a16, F_law := F17, b_law := b17, g_law := PySem.W.mg_of X G a17, ge_BadSign := (by rw [hc0]; exact PySem.W.mg_of X G ea0), x_BadSign := (by rw [hc0]; exact ex0), k_BadSign := (by rw [hc0]; exact ek0), eb_BadSign := (by rw [hc0]; exact eb0), t_BadSign := (by rw [hc0]; exact et0), ge_BadNumber := (by rw [hc1]; exact PySem.W.mg_of X G ea1), x_BadNumber := (by rw [hc1]; exact ex1), k_BadNumber := (by rw [hc1]; exact ek1), eb_BadNumber := (by rw [hc1]; exact eb1), t_BadNumber := (by rw [hc1]; exact et1), ge_BadBook := (by rw [hc2]; exact PySem.W.mg_of X G ea2), x_BadBook := (by rw [hc2]; exact ex2), k_BadBook := (by rw [hc2]; exact ek2), eb_BadBook := (by rw [hc2]; exact eb2), t_BadBook := (by rw [hc2]; exact et2), ge_BadCode := (by rw [hc3]; exact PySem.W.mg_of X G ea3), ge_BadText := (by rw [hc4]; exact PySem.W.mg_of X G ea4), ge_BadRuns := (by rw [hc5]; exact PySem.W.mg_of X G ea5), ge_BadManner := (by rw [hc6]; exact PySem.W.mg_of X G ea6), ge_BadHand := (by rw [hc7]; exact PySem.W.mg_of X G ea7), ge_KeysError := (by rw [hc8]; exact PySem.W.mg_of X G ea8), word := wd, c_SIGNS := ⟨⟨_, PySem.W.mg_of X G cc0, ⟨_, rfl⟩⟩⟩, c_MOST_CODE := ⟨⟨_, PySem.W.mg_of X G cc1, ⟨_, rfl⟩⟩⟩, c_MOST_COUNT := ⟨⟨_, PySem.W.mg_of X G cc2, ⟨_, rfl⟩⟩⟩ }
  letI : Tabl := ⟨[(tb15, ((PyProof.Rows.envOfC "book_for" (defScope s_book_for) 0 0 .none).qual ++ "<lambda>")), (tb16, ((PyProof.Rows.envOfC "_law_totals_refused" (defScope s__law_totals_refused) 0 0 .none).qual ++ "<lambda>")), (tb17, ((PyProof.Rows.envOfC "law" (defScope s_law) 0 0 .none).qual ++ "<lambda>"))], ca, 0⟩
  have eT : (Tabl.T : List (Addr × Str)) = [(tb15, ((PyProof.Rows.envOfC "book_for" (defScope s_book_for) 0 0 .none).qual ++ "<lambda>")), (tb16, ((PyProof.Rows.envOfC "_law_totals_refused" (defScope s__law_totals_refused) 0 0 .none).qual ++ "<lambda>")), (tb17, ((PyProof.Rows.envOfC "law" (defScope s_law) 0 0 .none).qual ++ "<lambda>"))] := rfl
  refine ⟨_, [(cc15, tb15), (cc16, tb16), (cc17, tb17)], spLaw K, ?h1, ?h2, ?h3, ?h4, ?h5, fun base _ _ hB => ok_law T { t_book_for := hB (cc15, tb15) List.mem_cons_self, m_book_for := (by rw [eT]; exact List.mem_cons_self), u_book_for := (by intro r hr; simp only [eT, List.mem_cons, List.not_mem_nil, or_false] at hr; rcases hr with rfl | rfl | rfl; exact fun _ => rfl; (first | exact fun z => absurd z td15_16 | exact fun z => absurd z.symm td15_16); (first | exact fun z => absurd z td15_17 | exact fun z => absurd z.symm td15_17)), t__law_totals_refused := hB (cc16, tb16) (List.mem_cons_of_mem _ List.mem_cons_self), m__law_totals_refused := (by rw [eT]; exact (List.mem_cons_of_mem _ List.mem_cons_self)), u__law_totals_refused := (by intro r hr; simp only [eT, List.mem_cons, List.not_mem_nil, or_false] at hr; rcases hr with rfl | rfl | rfl; (first | exact fun z => absurd z td15_16 | exact fun z => absurd z.symm td15_16); exact fun _ => rfl; (first | exact fun z => absurd z td16_17 | exact fun z => absurd z.symm td16_17)), t_law := hB (cc17, tb17) (List.mem_cons_of_mem _ (List.mem_cons_of_mem _ List.mem_cons_self)), m_law := (by rw [eT]; exact (List.mem_cons_of_mem _ (List.mem_cons_of_mem _ List.mem_cons_self))), u_law := (by intro r hr; simp only [eT, List.mem_cons, List.not_mem_nil, or_false] at hr; rcases hr with rfl | rfl | rfl; (first | exact fun z => absurd z td15_17 | exact fun z => absurd z.symm td15_17); (first | exact fun z => absurd z td16_17 | exact fun z => absurd z.symm td16_17); exact fun _ => rfl) } law_true⟩
  case h4 => exact fun s v => .of_eq rfl
  case h1 => intro p hp; simp only [List.mem_cons, List.not_mem_nil, or_false] at hp; rcases hp with rfl | rfl | rfl; exact tq15.2; exact tq16.2; exact tq17.2
  case h2 => intro p hp; simp only [List.mem_cons, List.not_mem_nil, or_false] at hp; rcases hp with rfl | rfl | rfl; exact tn15; exact tn16; exact tn17
  case h3 => intro p hp; simp only [List.mem_cons, List.not_mem_nil, or_false] at hp; rcases hp with rfl | rfl | rfl; exact tq15.1; exact tq16.1; exact tq17.1
  case h5 =>
    intro H a ns hl _ hH hS
    refine ⟨a, ns, rfl, hS, hl, ?_, fun _ => rfl⟩
    intro p hp; simp only [eT, List.mem_cons, List.not_mem_nil, or_false] at hp; rcases hp with rfl | rfl | rfl; exact LamX.TabS.nil (hH (cc15, tb15) List.mem_cons_self); exact LamX.TabS.nil (hH (cc16, tb16) (List.mem_cons_of_mem _ List.mem_cons_self)); exact LamX.TabS.nil (hH (cc17, tb17) (List.mem_cons_of_mem _ (List.mem_cons_of_mem _ List.mem_cons_self)))
end Tk
open PySem PySem.W PyProof.Rows
set_option maxHeartbeats 0 in
theorem PySem.Challenge.cw_twokeys_k60_whole_planned_holds : PySem.Challenge.rw_twokeys_k60_whole_planned.Holds := by
  w_on; o_law; k_head; (case hw => w_witness2)
  k_fill
  letI : Dn.Tabl := ⟨[], fun _ => 0, 0⟩
  refine Dn.walk_T (l := PySem.Challenge.rw_twokeys_k60_whole_planned) (n := 63) (k := 8) (x := "script") (CX := fun w => L2N.CX PySem.Challenge.rw_twokeys_k60_whole_planned.prog w) rfl (by decide) rfl ⟨rfl, by decide, by decide⟩ (fun w h Y => PySem.W.km_in_of Y) ?F (fun _ _ _ _ _ h => (haveI : Dn.Tabl := ⟨[], fun _ => 0, 0⟩; Dn.cx_false h))
  case F =>
    intro w mg fa h Y KX G hmg tabs
    refine' Tk.all_mk KX G hmg (tabs "book_for" _ _ _ ?r15 ?t15) (tabs "_law_totals_refused" _ _ _ ?r16 ?t16) (tabs "law" _ _ _ ?r17 ?t17) ?a0 ?l0 ?c0 ?k0 ?a1 ?l1 ?c1 ?k1 ?a2 ?l2 ?c2 ?k2 ?a3 ?l3 ?c3 ?k3 ?a4 ?l4 ?c4 ?k4 ?a5 ?l5 ?c5 ?k5 ?a6 ?l6 ?c6 ?k6 ?a7 ?l7 ?c7 ?k7 ?a8 ?l8 ?c8 ?k8 ?a9 ?l9 ?c9 ?k9 ?a10 ?l10 ?c10 ?k10 ?a11 ?l11 ?c11 ?k11 ?a12 ?l12 ?c12 ?k12 ?a13 ?l13 ?c13 ?k13 ?a14 ?l14 ?c14 ?k14 ?a15 ?l15 ?c15 ?k15 ?tn15 ?a16 ?l16 ?c16 ?k16 ?tn16 ?a17 ?l17 ?c17 ?k17 ?tn17 ?ea0 ?ex0 ?ek0 ?eb0 ?et0 ?ea1 ?ex1 ?ek1 ?eb1 ?et1 ?ea2 ?ex2 ?ek2 ?eb2 ?et2 ?ea3 ?ea4 ?ea5 ?ea6 ?ea7 ?ea8 ?xn ?xt ?kt0_0 ?kt0_1 ?kt0_2 ?kt0_3 ?kt0_4 ?kt0_5 ?kt0_6 ?kt0_7 ?kv0 ?kc0 ?xg0 ?xk0 ?xd0 ?xa0 ?xm0 ?kt1_0 ?kt1_1 ?kt1_2 ?kt1_3 ?kt1_4 ?kt1_5 ?kt1_6 ?kt1_7 ?kv1 ?kc1 ?xg1 ?xk1 ?xd1 ?xa1 ?xm1 ?kt2_0 ?kt2_1 ?kt2_2 ?kt2_3 ?kt2_4 ?kt2_5 ?kt2_6 ?kt2_7 ?kv2 ?kc2 ?xg2 ?xk2 ?xd2 ?xa2 ?xm2 ?td15_16 ?td15_17 ?td16_17 ?z_ValueError ?z_all ?z_bool ?z_dict ?z_int ?z_isinstance ?z_len ?z_list ?z_max ?z_min ?z_range ?z_set ?z_sorted ?z_str ?z_sum ?z_zip ?cc0 ?cc1 ?cc2
    (case t15 => first | k_is | rfl | decide +kernel); (case t16 => first | k_is | rfl | decide +kernel); (case t17 => first | k_is | rfl | decide +kernel)
    (case r15 => first | rfl | decide +kernel); (case r16 => first | rfl | decide +kernel); (case r17 => first | rfl | decide +kernel)
    (case a0 => first | k_is | k_exc | kernel_rfl | decide +kernel); (case l0 => first | k_is | k_exc | kernel_rfl | decide +kernel); (case c0 => first | k_is | k_exc | kernel_rfl | decide +kernel); (case k0 => first | k_is | k_exc | kernel_rfl | decide +kernel); (case a1 => first | k_is | k_exc | kernel_rfl | decide +kernel); (case l1 => first | k_is | k_exc | kernel_rfl | decide +kernel); (case c1 => first | k_is | k_exc | kernel_rfl | decide +kernel); (case k1 => first | k_is | k_exc | kernel_rfl | decide +kernel); (case a2 => first | k_is | k_exc | kernel_rfl | decide +kernel); (case l2 => first | k_is | k_exc | kernel_rfl | decide +kernel); (case c2 => first | k_is | k_exc | kernel_rfl | decide +kernel); (case k2 => first | k_is | k_exc | kernel_rfl | decide +kernel); (case a3 => first | k_is | k_exc | kernel_rfl | decide +kernel); (case l3 => first | k_is | k_exc | kernel_rfl | decide +kernel); (case c3 => first | k_is | k_exc | kernel_rfl | decide +kernel); (case k3 => first | k_is | k_exc | kernel_rfl | decide +kernel); (case a4 => first | k_is | k_exc | kernel_rfl | decide +kernel); (case l4 => first | k_is | k_exc | kernel_rfl | decide +kernel); (case c4 => first | k_is | k_exc | kernel_rfl | decide +kernel); (case k4 => first | k_is | k_exc | kernel_rfl | decide +kernel); (case a5 => first | k_is | k_exc | kernel_rfl | decide +kernel); (case l5 => first | k_is | k_exc | kernel_rfl | decide +kernel); (case c5 => first | k_is | k_exc | kernel_rfl | decide +kernel); (case k5 => first | k_is | k_exc | kernel_rfl | decide +kernel); (case a6 => first | k_is | k_exc | kernel_rfl | decide +kernel); (case l6 => first | k_is | k_exc | kernel_rfl | decide +kernel); (case c6 => first | k_is | k_exc | kernel_rfl | decide +kernel); (case k6 => first | k_is | k_exc | kernel_rfl | decide +kernel); (case a7 => first | k_is | k_exc | kernel_rfl | decide +kernel); (case l7 => first | k_is | k_exc | kernel_rfl | decide +kernel); (case c7 => first | k_is | k_exc | kernel_rfl | decide +kernel); (case k7 => first | k_is | k_exc | kernel_rfl | decide +kernel); (case a8 => first | k_is | k_exc | kernel_rfl | decide +kernel); (case l8 => first | k_is | k_exc | kernel_rfl | decide +kernel); (case c8 => first | k_is | k_exc | kernel_rfl | decide +kernel); (case k8 => first | k_is | k_exc | kernel_rfl | decide +kernel); (case a9 => first | k_is | k_exc | kernel_rfl | decide +kernel); (case l9 => first | k_is | k_exc | kernel_rfl | decide +kernel); (case c9 => first | k_is | k_exc | kernel_rfl | decide +kernel); (case k9 => first | k_is | k_exc | kernel_rfl | decide +kernel); (case a10 => first | k_is | k_exc | kernel_rfl | decide +kernel); (case l10 => first | k_is | k_exc | kernel_rfl | decide +kernel); (case c10 => first | k_is | k_exc | kernel_rfl | decide +kernel); (case k10 => first | k_is | k_exc | kernel_rfl | decide +kernel); (case a11 => first | k_is | k_exc | kernel_rfl | decide +kernel); (case l11 => first | k_is | k_exc | kernel_rfl | decide +kernel); (case c11 => first | k_is | k_exc | kernel_rfl | decide +kernel); (case k11 => first | k_is | k_exc | kernel_rfl | decide +kernel); (case a12 => first | k_is | k_exc | kernel_rfl | decide +kernel); (case l12 => first | k_is | k_exc | kernel_rfl | decide +kernel); (case c12 => first | k_is | k_exc | kernel_rfl | decide +kernel); (case k12 => first | k_is | k_exc | kernel_rfl | decide +kernel); (case a13 => first | k_is | k_exc | kernel_rfl | decide +kernel); (case l13 => first | k_is | k_exc | kernel_rfl | decide +kernel); (case c13 => first | k_is | k_exc | kernel_rfl | decide +kernel); (case k13 => first | k_is | k_exc | kernel_rfl | decide +kernel); (case a14 => first | k_is | k_exc | kernel_rfl | decide +kernel); (case l14 => first | k_is | k_exc | kernel_rfl | decide +kernel); (case c14 => first | k_is | k_exc | kernel_rfl | decide +kernel); (case k14 => first | k_is | k_exc | kernel_rfl | decide +kernel); (case a15 => first | k_is | k_exc | kernel_rfl | decide +kernel); (case l15 => first | k_is | k_exc | kernel_rfl | decide +kernel); (case c15 => first | k_is | k_exc | kernel_rfl | decide +kernel); (case k15 => first | k_is | k_exc | kernel_rfl | decide +kernel); (case tn15 => first | k_is | k_exc | kernel_rfl | decide +kernel); (case a16 => first | k_is | k_exc | kernel_rfl | decide +kernel); (case l16 => first | k_is | k_exc | kernel_rfl | decide +kernel); (case c16 => first | k_is | k_exc | kernel_rfl | decide +kernel); (case k16 => first | k_is | k_exc | kernel_rfl | decide +kernel); (case tn16 => first | k_is | k_exc | kernel_rfl | decide +kernel); (case a17 => first | k_is | k_exc | kernel_rfl | decide +kernel); (case l17 => first | k_is | k_exc | kernel_rfl | decide +kernel); (case c17 => first | k_is | k_exc | kernel_rfl | decide +kernel); (case k17 => first | k_is | k_exc | kernel_rfl | decide +kernel); (case tn17 => first | k_is | k_exc | kernel_rfl | decide +kernel); (case ea0 => first | k_is | k_exc | kernel_rfl | decide +kernel); (case ex0 => first | k_is | k_exc | kernel_rfl | decide +kernel); (case ek0 => first | k_is | k_exc | kernel_rfl | decide +kernel); (case eb0 => first | k_is | k_exc | kernel_rfl | decide +kernel); (case et0 => first | k_is | k_exc | kernel_rfl | decide +kernel); (case ea1 => first | k_is | k_exc | kernel_rfl | decide +kernel); (case ex1 => first | k_is | k_exc | kernel_rfl | decide +kernel); (case ek1 => first | k_is | k_exc | kernel_rfl | decide +kernel); (case eb1 => first | k_is | k_exc | kernel_rfl | decide +kernel); (case et1 => first | k_is | k_exc | kernel_rfl | decide +kernel); (case ea2 => first | k_is | k_exc | kernel_rfl | decide +kernel); (case ex2 => first | k_is | k_exc | kernel_rfl | decide +kernel); (case ek2 => first | k_is | k_exc | kernel_rfl | decide +kernel); (case eb2 => first | k_is | k_exc | kernel_rfl | decide +kernel); (case et2 => first | k_is | k_exc | kernel_rfl | decide +kernel); (case ea3 => first | k_is | k_exc | kernel_rfl | decide +kernel); (case ea4 => first | k_is | k_exc | kernel_rfl | decide +kernel); (case ea5 => first | k_is | k_exc | kernel_rfl | decide +kernel); (case ea6 => first | k_is | k_exc | kernel_rfl | decide +kernel); (case ea7 => first | k_is | k_exc | kernel_rfl | decide +kernel); (case ea8 => first | k_is | k_exc | kernel_rfl | decide +kernel); (case xn => first | k_is | k_exc | kernel_rfl | decide +kernel); (case xt => first | k_is | k_exc | kernel_rfl | decide +kernel); (case kt0_0 => first | k_is | k_exc | kernel_rfl | decide +kernel); (case kt0_1 => first | k_is | k_exc | kernel_rfl | decide +kernel); (case kt0_2 => first | k_is | k_exc | kernel_rfl | decide +kernel); (case kt0_3 => first | k_is | k_exc | kernel_rfl | decide +kernel); (case kt0_4 => first | k_is | k_exc | kernel_rfl | decide +kernel); (case kt0_5 => first | k_is | k_exc | kernel_rfl | decide +kernel); (case kt0_6 => first | k_is | k_exc | kernel_rfl | decide +kernel); (case kt0_7 => first | k_is | k_exc | kernel_rfl | decide +kernel); (case kv0 => first | k_is | k_exc | kernel_rfl | decide +kernel); (case kc0 => first | k_is | k_exc | kernel_rfl | decide +kernel); (case xg0 => first | k_is | k_exc | kernel_rfl | decide +kernel); (case xk0 => first | k_is | k_exc | kernel_rfl | decide +kernel); (case xd0 => first | k_is | k_exc | kernel_rfl | decide +kernel); (case xa0 => first | k_is | k_exc | kernel_rfl | decide +kernel); (case xm0 => first | k_is | k_exc | kernel_rfl | decide +kernel); (case kt1_0 => first | k_is | k_exc | kernel_rfl | decide +kernel); (case kt1_1 => first | k_is | k_exc | kernel_rfl | decide +kernel); (case kt1_2 => first | k_is | k_exc | kernel_rfl | decide +kernel); (case kt1_3 => first | k_is | k_exc | kernel_rfl | decide +kernel); (case kt1_4 => first | k_is | k_exc | kernel_rfl | decide +kernel); (case kt1_5 => first | k_is | k_exc | kernel_rfl | decide +kernel); (case kt1_6 => first | k_is | k_exc | kernel_rfl | decide +kernel); (case kt1_7 => first | k_is | k_exc | kernel_rfl | decide +kernel); (case kv1 => first | k_is | k_exc | kernel_rfl | decide +kernel); (case kc1 => first | k_is | k_exc | kernel_rfl | decide +kernel); (case xg1 => first | k_is | k_exc | kernel_rfl | decide +kernel); (case xk1 => first | k_is | k_exc | kernel_rfl | decide +kernel); (case xd1 => first | k_is | k_exc | kernel_rfl | decide +kernel); (case xa1 => first | k_is | k_exc | kernel_rfl | decide +kernel); (case xm1 => first | k_is | k_exc | kernel_rfl | decide +kernel); (case kt2_0 => first | k_is | k_exc | kernel_rfl | decide +kernel); (case kt2_1 => first | k_is | k_exc | kernel_rfl | decide +kernel); (case kt2_2 => first | k_is | k_exc | kernel_rfl | decide +kernel); (case kt2_3 => first | k_is | k_exc | kernel_rfl | decide +kernel); (case kt2_4 => first | k_is | k_exc | kernel_rfl | decide +kernel); (case kt2_5 => first | k_is | k_exc | kernel_rfl | decide +kernel); (case kt2_6 => first | k_is | k_exc | kernel_rfl | decide +kernel); (case kt2_7 => first | k_is | k_exc | kernel_rfl | decide +kernel); (case kv2 => first | k_is | k_exc | kernel_rfl | decide +kernel); (case kc2 => first | k_is | k_exc | kernel_rfl | decide +kernel); (case xg2 => first | k_is | k_exc | kernel_rfl | decide +kernel); (case xk2 => first | k_is | k_exc | kernel_rfl | decide +kernel); (case xd2 => first | k_is | k_exc | kernel_rfl | decide +kernel); (case xa2 => first | k_is | k_exc | kernel_rfl | decide +kernel); (case xm2 => first | k_is | k_exc | kernel_rfl | decide +kernel); (case td15_16 => first | k_is | k_exc | kernel_rfl | decide +kernel); (case td15_17 => first | k_is | k_exc | kernel_rfl | decide +kernel); (case td16_17 => first | k_is | k_exc | kernel_rfl | decide +kernel); (case z_ValueError => first | k_is | k_exc | kernel_rfl | decide +kernel); (case z_all => first | k_is | k_exc | kernel_rfl | decide +kernel); (case z_bool => first | k_is | k_exc | kernel_rfl | decide +kernel); (case z_dict => first | k_is | k_exc | kernel_rfl | decide +kernel); (case z_int => first | k_is | k_exc | kernel_rfl | decide +kernel); (case z_isinstance => first | k_is | k_exc | kernel_rfl | decide +kernel); (case z_len => first | k_is | k_exc | kernel_rfl | decide +kernel); (case z_list => first | k_is | k_exc | kernel_rfl | decide +kernel); (case z_max => first | k_is | k_exc | kernel_rfl | decide +kernel); (case z_min => first | k_is | k_exc | kernel_rfl | decide +kernel); (case z_range => first | k_is | k_exc | kernel_rfl | decide +kernel); (case z_set => first | k_is | k_exc | kernel_rfl | decide +kernel); (case z_sorted => first | k_is | k_exc | kernel_rfl | decide +kernel); (case z_str => first | k_is | k_exc | kernel_rfl | decide +kernel); (case z_sum => first | k_is | k_exc | kernel_rfl | decide +kernel); (case z_zip => first | k_is | k_exc | kernel_rfl | decide +kernel); (case cc0 => first | k_is | k_exc | kernel_rfl | decide +kernel); (case cc1 => first | k_is | k_exc | kernel_rfl | decide +kernel); (case cc2 => first | k_is | k_exc | kernel_rfl | decide +kernel)
