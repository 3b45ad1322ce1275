import PyProof.Rows.All
import Wide.All
import OpenK.AllK
import Wide.FinOn
import HandS.Base
import HandS.Call
import HandS.List
import HandS.Comp
import HandS.Ends
import HandS.Dict
import HandS.Iter
import HandS.Walk
import HandS.Words
import HandS.WordsList
import HandS.Exc
import HandS.ExcOwn
import HandS.ExcCtx
import HandS.WordsExc
import HandS.Evl
import KE.DataEq
import HandS.HeadHook1
import HandS.Lambda
import HandS.HeadHook4
import HandS.TupAny
import HandS.TupMul
import HandS.Text
import HandS.Style
import HandS.Deep
import KE.DataIsa
import KE.DataAny
import KE.KTupSum
import HandS.Conv
import HandS.Zip
import HandS.Rev
import HandS.RevRange
import KE.GoesMore
import KE.GoesEnum
import HandS.Defaults
import KE.SortData
import KE.SortCalls
import KE.LtData
import HandS.IsInst
import KE.DataMinMax
import KE.KRevSl
import KE.DataFind
import HandS.TupSets
import HandS.SetFor
import HandS.Strs
import HandS.SortKw
import HandS.DictTup
import KE.KDictDisplayH
import HandS.HotCalls
import HandS.Hot
import HandS.ExcIs
import HandS.HeadHook2
import PyProof.StrOps2
import PyProof.SumAnyB
import KE.GoesRaise
import HandS.EndTab
import KE.DataCmp
import KE.KNestM
import KE.KeyNested
import KE.KStateDown
import HandS.More
import HandS.Codes
import HandS.Head0
import HandS.Head1
import HandS.Head2
import HandS.HeadEnd
import PySem.Challenge.RW_stairbox_k51_whole_counted_fillings
set_option Elab.async false
set_option linter.all false
set_option maxRecDepth 100000
set_option maxHeartbeats 8000000
section
set_option Elab.async false
set_option linter.all false
set_option maxRecDepth 100000
set_option maxHeartbeats 2000000
/-! The data layer: denotations over plain data for the hand layer's judgements. -/
noncomputable section
namespace SB
open PySem L2 Evl

abbrev D := PyData

/-- what a piece of code comes to: a thing, an exception (by its number), or: not covered -/
inductive Res (α : Type) where
  | ok (a : α)
  | exc (c : Nat)
  | bad

namespace Res
def bind {α β : Type} : Res α → (α → Res β) → Res β
  | .ok a, f => f a
  | .exc c, _ => .exc c
  | .bad, _ => .bad
@[simp] theorem bind_ok {α β : Type} (a : α) (f : α → Res β) : (Res.ok a).bind f = f a := rfl
@[simp] theorem bind_exc {α β : Type} (c : Nat) (f : α → Res β) : (Res.exc c).bind f = .exc c := rfl
@[simp] theorem bind_bad {α β : Type} (f : α → Res β) : (Res.bad).bind f = .bad := rfl
end Res

/-- an object that changes: an instance of the one class; a dict with tuple keys -/
inductive OV where
  | ins (ds : List D)
  | dT (kvs : List (List Key × D))
/-- what a local name holds: shared data that never changes; a list that is this frame's own -/
inductive LV where
  | dat (d : D)
  | own (ds : List D)
  | ndt (ds : List D)
  | dct (kvs : List (Key × D))
  | dctT (kvs : List (List Key × D))
  | dctL (kvs : List (Key × D))
  | grid (rows : List (List Int))
  | obj (p : Option Nat) (o : OV)
  | tabs

/-- the parameter whose object it is -/
def parOf : LV → Option Nat
  | .obj p _ => p
  | _ => none

abbrev DEnv := List (Option LV)

/-! ### heaps: the shared part Hs of H -/
/-- new shared things are old shared things or new ones -/
def Away (Hs H Hs' : Hp) : Prop := ∀ a o, H a = some o → Hs a = none → Hs' a = none
structure Step (Hs H Hs' H' : Hp) : Prop where
  sh : Ex Hs Hs'
  wh : Ex H H'
  sub : Ex Hs' H'
  away : Away Hs H Hs'
theorem Step.refl {Hs H : Hp} (h : Ex Hs H) : Step Hs H Hs H := ⟨Ex.refl _, Ex.refl _, h, fun _ _ _ e => e⟩
theorem Step.trans {Hs H Hs1 H1 Hs2 H2 : Hp} (a : Step Hs H Hs1 H1) (b : Step Hs1 H1 Hs2 H2) : Step Hs H Hs2 H2 :=
  ⟨a.sh.trans b.sh, a.wh.trans b.wh, b.sub, fun x o h e => b.away x o (a.wh x o h) (a.away x o h e)⟩
theorem sub_none {Hs H : Hp} (h : Ex Hs H) {p : Addr} (e : H p = none) : Hs p = none := fresh_back h e
/-- a new shared object -/
theorem Step.new {Hs H : Hp} {p : Addr} {o : HO} (h : Ex Hs H) (e : H p = none) : Step Hs H (upd Hs p o) (upd H p o) := by
  refine ⟨Ex.new (sub_none h e), Ex.new e, ?_, ?_⟩
  · intro a u q
    by_cases hp : a = p
    · subst hp; rw [upd_same] at q ⊢; exact q
    · rw [upd_ne hp] at q ⊢; exact h a u q
  · intro a u q n
    have hp : a ≠ p := ne_of_none q e
    rw [upd_ne hp]; exact n

/-! ### where a frame began -/
def soft : HO → Bool
  | .lst _ => true
  | .dK _ => true
  | .dT _ => true
  | .ins _ _ _ => true
  | .frz _ (.dK _) => true
  | _ => false
def hard (o : HO) : Bool := !(soft o) && (match o with | .tbl _ => false | _ => true)
theorem hard_soft {o : HO} (h : hard o = true) : soft o = false := by
  unfold hard at h
  cases hs : soft o with
  | true => rw [hs] at h; cases h
  | false => rfl
/-- the heap at the start (without what the frame may change), the things handed in, what holds all along -/
structure Hp0 where
  hp : Hp
  vs : List V
  iv : Hp → Prop
  st : ∀ H H' : Hp, (∀ a o, H a = some o → hard o = true → H' a = some o) → iv H → iv H'
instance : CoeFun Hp0 (fun _ => Addr → Option HO) := ⟨Hp0.hp⟩
instance : Coe Hp0 Hp := ⟨Hp0.hp⟩
def hp0 (H : Hp) : Hp0 := ⟨H, [], fun _ => True, fun _ _ _ h => h⟩
theorem Hp0.ex {H0 : Hp0} {H H' : Hp} (e : Ex H H') (h : H0.iv H) : H0.iv H' := H0.st _ _ (fun a o q _ => e a o q) h
theorem Hp0.mut {H0 : Hp0} {H : Hp} {a : Addr} {o : HO} (e : ∀ u, H a = some u → soft u = true) (h : H0.iv H) : H0.iv (upd H a o) := H0.st _ _ (fun b u q n => by
  have : b ≠ a := fun z => by
    subst z
    have n := hard_soft n
    rw [e u q] at n
    cases n
  rw [upd_ne this]
  exact q) h
theorem Hp0.new {H0 : Hp0} {H : Hp} {a : Addr} {o : HO} (e : H a = none) (h : H0.iv H) : H0.iv (upd H a o) := Hp0.mut (fun u q => by rw [e] at q; cases q) h

/-! ### data in a heap -/
variable {K : PySem.W.Frag}
/-- a tuple that may be a dict's key -/
def TAt (H : Hp) (a : Addr) (xs : List V) : Prop := H a = some (.tup xs)
theorem tat_of {H : Hp} {a : Addr} {xs : List V} (h : H a = some (.tup xs)) : TAt H a xs := h
theorem tat_ex {H H' : Hp} {a : Addr} {xs : List V} (e : Ex H H') (h : TAt H a xs) : TAt H' a xs := e _ _ h
theorem tat_rd {H : Hp} {a : Addr} {xs : List V} (h : TAt H a xs) : Rd H a (.tup xs) := .inl h
theorem ex_td {H H' : Hp} {a : Addr} {xs : List V} (e : Ex H H') (h : TAt H a xs) : Rd H' a (.tup xs) := .inl (e _ _ h)
mutual
/-- the value v is the data d, over the heap H -/
inductive Rp (K : PySem.W.Frag) (H : Hp) : V → D → Prop
  | non : Rp K H .non .none
  | bl (b : Bool) : Rp K H (.bl b) (.bool b)
  | int (i : Int) : Rp K H (.int i) (.int i)
  | str (x : Str) : Rp K H (.str x) (.str x)
  | lst {a : Addr} {xs : List V} {ds : List D} : SqL K H a xs → RpAll K H xs ds → Rp K H (.ref a) (.list ds)
  | tup {a : Addr} {xs : List V} {ds : List D} : TAt H a xs → RpAll K H xs ds → Rp K H (.ref a) (.tuple ds)
inductive RpAll (K : PySem.W.Frag) (H : Hp) : List V → List D → Prop
  | nil : RpAll K H [] []
  | cons {v : V} {vs : List V} {d : D} {ds : List D} : Rp K H v d → RpAll K H vs ds → RpAll K H (v :: vs) (d :: ds)
end
mutual
theorem Rp.ex {H H' : Hp} (e : Ex H H') : ∀ {v : V} {d : D}, Rp K H v d → Rp K H' v d
  | _, _, .non => .non
  | _, _, .bl b => .bl b
  | _, _, .int i => .int i
  | _, _, .str x => .str x
  | _, _, .lst h q => .lst (ex_l e h) (RpAll.ex e q)
  | _, _, .tup h q => .tup (tat_ex e h) (RpAll.ex e q)
theorem RpAll.ex {H H' : Hp} (e : Ex H H') : ∀ {vs : List V} {ds : List D}, RpAll K H vs ds → RpAll K H' vs ds
  | _, _, .nil => .nil
  | _, _, .cons h q => .cons (Rp.ex e h) (RpAll.ex e q)
end
mutual
theorem Rp.dp {H : Hp} : ∀ {v : V} {d : D}, Rp K H v d → Dp K H v d
  | _, _, .non => .non
  | _, _, .bl b => .bl b
  | _, _, .int i => .int i
  | _, _, .str x => .str x
  | _, _, .lst h q => .lst h (RpAll.dp q)
  | _, _, .tup h q => .tup (.inl (tat_rd h)) (RpAll.dp q)
theorem RpAll.dp {H : Hp} : ∀ {vs : List V} {ds : List D}, RpAll K H vs ds → DpAll K H vs ds
  | _, _, .nil => .nil
  | _, _, .cons h q => .cons (Rp.dp h) (RpAll.dp q)
end
mutual
theorem Rp.plain {H : Hp} : ∀ {v : V} {d : D}, Rp K H v d → d.plain = true
  | _, _, .non => rfl
  | _, _, .bl _ => rfl
  | _, _, .int _ => rfl
  | _, _, .str _ => rfl
  | _, _, .lst _ q => by simp only [PyData.plain]; exact RpAll.plain q
  | _, _, .tup _ q => by simp only [PyData.plain]; exact RpAll.plain q
theorem RpAll.plain {H : Hp} : ∀ {vs : List V} {ds : List D}, RpAll K H vs ds → PyData.plainAll ds = true
  | _, _, .nil => rfl
  | _, _, .cons h q => by simp only [PyData.plainAll, Rp.plain h, RpAll.plain q, Bool.and_self]
end
theorem RpAll.len {H : Hp} : ∀ {vs : List V} {ds : List D}, RpAll K H vs ds → vs.length = ds.length
  | _, _, .nil => rfl
  | _, _, .cons _ q => by simp [RpAll.len q]
theorem RpAll.append {H : Hp} : ∀ {vs ws : List V} {ds es : List D}, RpAll K H vs ds → RpAll K H ws es → RpAll K H (vs ++ ws) (ds ++ es)
  | _, _, _, _, .nil, q => q
  | _, _, _, _, .cons h r, q => .cons h (RpAll.append r q)
theorem RpAll.get {H : Hp} : ∀ {vs : List V} {ds : List D} {i : Nat} {d : D}, RpAll K H vs ds → ds[i]? = some d → ∃ v, vs[i]? = some v ∧ Rp K H v d
  | _, _, _, _, .nil, e => by simp at e
  | _, _, 0, _, .cons h _, e => by simp at e; subst e; exact ⟨_, rfl, h⟩
  | _, _, i + 1, _, .cons _ r, e => by
    obtain ⟨v, h1, h2⟩ := RpAll.get (i := i) r (by simpa using e)
    exact ⟨v, by simpa using h1, h2⟩
theorem RpAll.getV {H : Hp} : ∀ {vs : List V} {ds : List D} {i : Nat} {v : V}, RpAll K H vs ds → vs[i]? = some v → ∃ d, ds[i]? = some d ∧ Rp K H v d
  | _, _, _, _, .nil, e => by simp at e
  | _, _, 0, _, .cons h _, e => by simp at e; subst e; exact ⟨_, rfl, h⟩
  | _, _, i + 1, _, .cons _ r, e => by
    obtain ⟨v, h1, h2⟩ := RpAll.getV (i := i) r (by simpa using e)
    exact ⟨v, by simpa using h1, h2⟩
theorem RpAll.take {H : Hp} : ∀ {vs : List V} {ds : List D} (n : Nat), RpAll K H vs ds → RpAll K H (vs.take n) (ds.take n)
  | _, _, 0, _ => by simp; exact .nil
  | _, _, _ + 1, .nil => by simp; exact .nil
  | _, _, n + 1, .cons h r => by simp; exact .cons h (RpAll.take n r)
theorem RpAll.drop {H : Hp} : ∀ {vs : List V} {ds : List D} (n : Nat), RpAll K H vs ds → RpAll K H (vs.drop n) (ds.drop n)
  | _, _, 0, q => by simpa using q
  | _, _, _ + 1, .nil => by simp; exact .nil
  | _, _, n + 1, .cons _ r => by simp; exact RpAll.drop n r
theorem RpAll.set {H : Hp} {v : V} {d : D} (h : Rp K H v d) : ∀ {vs : List V} {ds : List D} (n : Nat), RpAll K H vs ds → RpAll K H (vs.set n v) (ds.set n d)
  | _, _, _, .nil => by simp; exact .nil
  | _, _, 0, .cons _ r => by simp; exact .cons h r
  | _, _, n + 1, .cons q r => by simp; exact .cons q (RpAll.set h n r)
theorem RpAll.reverse {H : Hp} : ∀ {vs : List V} {ds : List D}, RpAll K H vs ds → RpAll K H vs.reverse ds.reverse
  | _, _, .nil => .nil
  | _, _, .cons h r => by simp; exact RpAll.append (RpAll.reverse r) (.cons h .nil)
/-- data, or a list of the frame's own -/
def Rep (b : Bool) (K : PySem.W.Frag) (Hs H : Hp) (v : V) (d : D) : Prop :=
  Rp K Hs v d ∨ (b = true ∧ ∃ a ds vs, v = .ref a ∧ d = .list ds ∧ H a = some (.lst vs) ∧ RpAll K Hs vs ds)
theorem Rep.of {b : Bool} {Hs H : Hp} {v : V} {d : D} (h : Rp K Hs v d) : Rep b K Hs H v d := .inl h
theorem Rep.rp {Hs H : Hp} {v : V} {d : D} (h : Rep false K Hs H v d) : Rp K Hs v d := by
  rcases h with h | ⟨h, _⟩
  · exact h
  · cases h
theorem Rep.whole {b : Bool} {Hs H : Hp} {v : V} {d : D} (e : Ex Hs H) (h : Rep b K Hs H v d) : Rp K H v d := by
  rcases h with h | ⟨_, a, ds, vs, rfl, rfl, h1, h2⟩
  · exact Rp.ex e h
  · exact .lst (sq_of h1) (RpAll.ex e h2)
theorem Rep.up {b : Bool} {Hs H : Hp} {v : V} {d : D} (h : Rep b K Hs H v d) : Rep true K Hs H v d := by
  rcases h with h | ⟨_, h⟩
  · exact .inl h
  · exact .inr ⟨rfl, h⟩
theorem Rep.step {b : Bool} {Hs H Hs' H' : Hp} {v : V} {d : D} (s : Step Hs H Hs' H') (h : Rep b K Hs H v d) : Rep b K Hs' H' v d := by
  rcases h with h | ⟨hb, a, ds, vs, rfl, rfl, h1, h2⟩
  · exact .inl (Rp.ex s.sh h)
  · exact .inr ⟨hb, a, ds, vs, rfl, rfl, s.wh _ _ h1, RpAll.ex s.sh h2⟩

/-- several things -/
inductive RpsAll (b : Bool) (K : PySem.W.Frag) (Hs H : Hp) : List V → List D → Prop
  | nil : RpsAll b K Hs H [] []
  | cons {v : V} {vs : List V} {d : D} {ds : List D} : Rep b K Hs H v d → RpsAll b K Hs H vs ds → RpsAll b K Hs H (v :: vs) (d :: ds)
theorem RpsAll.step {b : Bool} {Hs H Hs' H' : Hp} (s : Step Hs H Hs' H') : ∀ {vs : List V} {ds : List D}, RpsAll b K Hs H vs ds → RpsAll b K Hs' H' vs ds
  | _, _, .nil => .nil
  | _, _, .cons h q => .cons (h.step s) (RpsAll.step s q)
theorem RpsAll.rp {Hs H : Hp} : ∀ {vs : List V} {ds : List D}, RpsAll false K Hs H vs ds → RpAll K Hs vs ds
  | _, _, .nil => .nil
  | _, _, .cons h q => .cons h.rp (RpsAll.rp q)
theorem Rep.int {b : Bool} {Hs H : Hp} {v : V} {i : Int} (h : Rep b K Hs H v (.int i)) : v = .int i := by
  rcases h with h | ⟨_, a, ds, vs, _, e, _⟩
  · cases h; rfl
  · cases e
theorem Rep.bool {b : Bool} {Hs H : Hp} {v : V} {i : Bool} (h : Rep b K Hs H v (.bool i)) : v = .bl i := by
  rcases h with h | ⟨_, a, ds, vs, _, e, _⟩
  · cases h; rfl
  · cases e
theorem Rep.str {b : Bool} {Hs H : Hp} {v : V} {i : Str} (h : Rep b K Hs H v (.str i)) : v = .str i := by
  rcases h with h | ⟨_, a, ds, vs, _, e, _⟩
  · cases h; rfl
  · cases e
theorem Rep.none {b : Bool} {Hs H : Hp} {v : V} (h : Rep b K Hs H v .none) : v = .non := by
  rcases h with h | ⟨_, a, ds, vs, _, e, _⟩
  · cases h; rfl
  · cases e
theorem Rep.tuple {b : Bool} {Hs H : Hp} {v : V} {ds : List D} (h : Rep b K Hs H v (.tuple ds)) : ∃ a vs, v = .ref a ∧ TAt Hs a vs ∧ RpAll K Hs vs ds := by
  rcases h with h | ⟨_, a, ds, vs, _, e, _⟩
  · cases h with
    | tup h1 h2 => exact ⟨_, _, rfl, h1, h2⟩
  · cases e
theorem Rep.list {b : Bool} {Hs H : Hp} {v : V} {ds : List D} (e : Ex Hs H) (h : Rep b K Hs H v (.list ds)) : ∃ a vs, v = .ref a ∧ SqL K H a vs ∧ RpAll K Hs vs ds := by
  rcases h with h | ⟨_, a, es, vs, rfl, q, h1, h2⟩
  · cases h with
    | lst h1 h2 => exact ⟨_, _, rfl, ex_l e h1, h2⟩
  · cases q
    exact ⟨a, vs, rfl, sq_of h1, h2⟩

/-! ### what the frame holds -/
/-- entries of a dict -/
inductive RpKs {κ : Type} (K : PySem.W.Frag) (H : Hp) : List (κ × V) → List (κ × D) → Prop
  | nil : RpKs K H [] []
  | cons {k : κ} {v : V} {d : D} {vs : List (κ × V)} {ds : List (κ × D)} : Rp K H v d → RpKs K H vs ds → RpKs K H ((k, v) :: vs) ((k, d) :: ds)
theorem RpKs.ex {κ : Type} {H H' : Hp} (e : Ex H H') : ∀ {vs : List (κ × V)} {ds : List (κ × D)}, RpKs K H vs ds → RpKs K H' vs ds
  | _, _, .nil => .nil
  | _, _, .cons h r => .cons (Rp.ex e h) (RpKs.ex e r)
/-- the one class's attributes, in the order in which they are made -/
def fldN : List Str := ["filling", "rows", "gone"]
/-- the one class -/
def theC (K : PySem.W.Frag) : Addr := He.ga K "Stair"
/-- an object of the frame's own, as its slot tells it -/
def ownR (K : PySem.W.Frag) (Hs : Hp) : LV → HO → Prop
  | .own ds, .lst vs => RpAll K Hs vs ds
  | .dct kvs, .dK ws => RpKs K Hs ws kvs
  | .dctT kvs, .dT ws => RpKs K Hs ws kvs
  | .dctL kvs, .frz _ (.dK ws) => RpKs K Hs ws kvs
  | .obj _ (.ins ds), .ins C _ gs => C = theC K ∧ ∃ vs : List V, vs.length ≤ 3 ∧ gs = fldN.zip vs ∧ RpAll K Hs vs ds
  | .obj _ (.dT kvs), .dT ws => RpKs K Hs ws kvs
  | _, _ => False
def isOwn : LV → Bool
  | .own _ => true
  | .dct _ => true
  | .dctT _ => true
  | .dctL _ => true
  | .obj _ _ => true
  | _ => false
theorem ownR.soft {H : Hp} {x : LV} {o : HO} (h : ownR K H x o) : soft o = true := by
  cases x with
  | own ds => cases o <;> first | rfl | exact h.elim
  | dct kvs => cases o <;> first | rfl | exact h.elim
  | dctT kvs => cases o <;> first | rfl | exact h.elim
  | dctL kvs =>
    cases o with
    | frz ob u => cases u <;> first | rfl | exact h.elim
    | _ => exact h.elim
  | obj p y => cases y <;> cases o <;> first | rfl | exact h.elim
  | _ => exact h.elim
theorem ownR.ex {H H' : Hp} (e : Ex H H') {x : LV} {o : HO} (h : ownR K H x o) : ownR K H' x o := by
  cases x with
  | own ds => cases o <;> first | exact RpAll.ex e h | exact h
  | dct kvs => cases o <;> first | exact RpKs.ex e h | exact h
  | dctT kvs => cases o <;> first | exact RpKs.ex e h | exact h
  | dctL kvs =>
    cases o with
    | frz ob u => cases u <;> first | exact RpKs.ex e h | exact h
    | _ => exact h
  | obj p y => cases y <;> cases o <;> first | exact ⟨h.1, h.2.choose, h.2.choose_spec.1, h.2.choose_spec.2.1, RpAll.ex e h.2.choose_spec.2.2⟩ | exact RpKs.ex e h | exact h
  | _ => exact h
/-- a tuple whose object is known to have no names of its own -/
def NdT (K : PySem.W.Frag) (Hs : Hp) (a : Addr) (ds : List D) : Prop := ds = [PyData.none, PyData.int ((a : Nat) : Int)] ∨ (ds.head? ≠ some .none ∧ ∃ ob vs, Hs a = some (.frz ob (.tup vs)) ∧ ob.dict = none ∧ RpAll K Hs vs ds)
theorem NdT.ex {H H' : Hp} (e : Ex H H') {a : Addr} {ds : List D} (h : NdT K H a ds) : NdT K H' a ds := by
  rcases h with h | ⟨h0, ob, vs, h1, h2, h3⟩
  · exact .inl h
  · exact .inr ⟨h0, ob, vs, e _ _ h1, h2, RpAll.ex e h3⟩
/-- a list of lists of numbers, all of them the frame's own -/
inductive GrRows (H : Hp) : List Addr → List (List Int) → Prop
  | nil : GrRows H [] []
  | cons {c : Addr} {as : List Addr} {r : List Int} {rows : List (List Int)} : H c = some (.lst (r.map V.int)) → GrRows H as rows → GrRows H (c :: as) (r :: rows)
theorem GrRows.mono {H H' : Hp} : ∀ {as : List Addr} {rows : List (List Int)}, GrRows H as rows → (∀ c, c ∈ as → ∀ o, H c = some o → H' c = some o) → GrRows H' as rows
  | _, _, .nil, _ => .nil
  | _, _, .cons h q, k => .cons (k _ (by simp) _ h) (q.mono fun c hc => k c (by simp [hc]))
theorem GrRows.has {H : Hp} : ∀ {as : List Addr} {rows : List (List Int)}, GrRows H as rows → ∀ c, c ∈ as → ∃ o, H c = some o
  | _, _, .nil, _, hc => absurd hc (by simp)
  | _, _, .cons h q, c, hc => by
    rcases List.mem_cons.mp hc with rfl | hc
    · exact ⟨_, h⟩
    · exact q.has c hc
theorem refs_inj : ∀ {as bs : List Addr}, as.map V.ref = bs.map V.ref → as = bs
  | [], [], _ => rfl
  | [], _ :: _, h => by simp at h
  | _ :: _, [], h => by simp at h
  | a :: as, b :: bs, h => by
    rw [List.map_cons, List.map_cons, List.cons.injEq] at h
    rw [refs_inj h.2, V.ref.inj h.1]
structure GrAt (Hs H0 H : Hp) (a : Addr) (as : List Addr) (rows : List (List Int)) : Prop where
  nd : (a :: as).Nodup
  new : ∀ c, c ∈ a :: as → Hs c = none ∧ H0 c = none
  out : H a = some (.lst (as.map V.ref))
  ins : GrRows H as rows
theorem GrAt.has {Hs H0 H : Hp} {a : Addr} {as : List Addr} {rows : List (List Int)} (g : GrAt Hs H0 H a as rows) : ∀ c, c ∈ a :: as → ∃ o, H c = some o := fun c hc => by
  rcases List.mem_cons.mp hc with rfl | hc
  · exact ⟨_, g.out⟩
  · exact g.ins.has c hc
theorem GrAt.mono {Hs H0 H Hs' H' : Hp} {a : Addr} {as : List Addr} {rows : List (List Int)} (g : GrAt Hs H0 H a as rows) (h1 : ∀ c, c ∈ a :: as → Hs' c = none) (h2 : ∀ c, c ∈ a :: as → ∀ o, H c = some o → H' c = some o) : GrAt Hs' H0 H' a as rows :=
  ⟨g.nd, fun c hc => ⟨h1 c hc, (g.new c hc).2⟩, h2 a (by simp) _ g.out, g.ins.mono fun c hc => h2 c (by simp [hc])⟩
/-! ### the table of code objects that a frame's lambdas change -/
def theD : Str × Option Str := ("law", none)
def theQ : Str := "law.<locals>.<lambda>"
def theT (K : PySem.W.Frag) : List (Addr × Str) := [((He.cT K theD).2, theQ)]
def Tb (K : PySem.W.Frag) (Hs H0 H : Hp) : Prop := LamX.Tabs (theT K) H ∧ ∀ p, p ∈ theT K → Hs p.1 = none ∧ H0 p.1 = none
theorem tabs_soft {T : List (Addr × Str)} {H H' : Hp} (t : LamX.Tabs T H) (h : ∀ a o, H a = some o → soft o = false → H' a = some o) : LamX.Tabs T H' := fun p hp => by
  obtain ⟨ps, h1, h2, h3⟩ := t p hp
  refine ⟨ps, h _ _ h1 rfl, h2, fun pos cv hc => ?_⟩
  obtain ⟨c, e1, e2⟩ := h3 pos cv hc
  exact ⟨c, e1, h _ _ e2 rfl⟩
theorem tabs_at {T : List (Addr × Str)} {H : Hp} {p : Addr × Str} (t : LamX.Tabs T H) (hp : p ∈ T) : ∃ ps, H p.1 = some (.tbl ps) := by
  obtain ⟨ps, h1, _⟩ := t p hp
  exact ⟨ps, h1⟩
theorem Tb.step {Hs H0 H Hs' H' : Hp} (t : Tb K Hs H0 H) (s : Step Hs H Hs' H') : Tb K Hs' H0 H' :=
  ⟨t.1.ext s.wh, fun p hp => ⟨let ⟨_, h⟩ := tabs_at t.1 hp; s.away _ _ h (t.2 p hp).1, (t.2 p hp).2⟩⟩
theorem Tb.mut {Hs H0 H : Hp} {a : Addr} {o : HO} (t : Tb K Hs H0 H) (e : ∀ u, H a = some u → soft u = true) : Tb K Hs H0 (upd H a o) :=
  ⟨tabs_soft t.1 fun b u q n => by
    have : b ≠ a := fun z => by
      subst z
      rw [e u q] at n
      cases n
    rw [upd_ne this]
    exact q, t.2⟩
theorem Tb.new {Hs H0 H : Hp} {a : Addr} {o : HO} (t : Tb K Hs H0 H) (e : H a = none) : Tb K Hs H0 (upd H a o) := t.mut fun u q => by rw [e] at q; cases q
structure EnvOk (K : PySem.W.Frag) (Hs0 : Hp) (H0 : Hp0) (ρ : DEnv) (σ : L2.St) (Hs H : Hp) : Prop where
  len : ρ.length = σ.length
  iv : H0.iv H
  tb : ∀ i : Nat, ρ[i]? = some (some LV.tabs) → Tb K Hs H0.hp H
  pa : ∀ (i k : Nat) (x : LV), ρ[i]? = some (some x) → parOf x = some k → ∃ v, H0.vs[k]? = some v ∧ σ[i]? = some (some v)
  sub : Ex Hs H
  sh0 : Ex Hs0 Hs
  wh0 : Ex H0 H
  aw0 : Away Hs0 H0 Hs
  dat : ∀ (i : Nat) (d : D), ρ[i]? = some (some (LV.dat d)) → ∃ v, σ[i]? = some (some v) ∧ Rp K Hs v d
  nd : ∀ (i : Nat) (ds : List D), ρ[i]? = some (some (LV.ndt ds)) → ∃ a, σ[i]? = some (some (V.ref a)) ∧ NdT K Hs a ds
  ow : ∀ (i : Nat) (x : LV), isOwn x = true → ρ[i]? = some (some x) → ∃ a o, σ[i]? = some (some (V.ref a)) ∧ Hs a = none ∧ H0 a = none ∧ H a = some o ∧ ownR K Hs x o
  inj : ∀ (i j : Nat) (x y : LV) (a : Addr), isOwn x = true → isOwn y = true → ρ[i]? = some (some x) → ρ[j]? = some (some y) → σ[i]? = some (some (V.ref a)) → σ[j]? = some (some (V.ref a)) → i = j
  gr : ∀ (i : Nat) (rows : List (List Int)), ρ[i]? = some (some (LV.grid rows)) → ∃ a as, σ[i]? = some (some (V.ref a)) ∧ GrAt Hs H0 H a as rows ∧ ∀ (j : Nat) (y : LV) (c : Addr), isOwn y = true → ρ[j]? = some (some y) → σ[j]? = some (some (V.ref c)) → c ∉ a :: as

section
variable {Hs0 : Hp} {H0 : Hp0} {Hs H Hs' H' : Hp} {ρ : DEnv} {σ : L2.St}
theorem EnvOk.own (e : EnvOk K Hs0 H0 ρ σ Hs H) (i : Nat) (ds : List D) (h : ρ[i]? = some (some (LV.own ds))) : ∃ a vs, σ[i]? = some (some (V.ref a)) ∧ Hs a = none ∧ H0 a = none ∧ H a = some (.lst vs) ∧ RpAll K Hs vs ds := by
  obtain ⟨a, o, h1, h2, h3, h4, h5⟩ := e.ow i _ rfl h
  cases o with
  | lst vs => exact ⟨a, vs, h1, h2, h3, h4, h5⟩
  | _ => exact h5.elim
theorem EnvOk.step (e : EnvOk K Hs0 H0 ρ σ Hs H) (s : Step Hs H Hs' H') : EnvOk K Hs0 H0 ρ σ Hs' H' where
  len := e.len
  iv := Hp0.ex s.wh e.iv
  tb := fun i q => (e.tb i q).step s
  pa := e.pa
  sub := s.sub
  sh0 := e.sh0.trans s.sh
  wh0 := e.wh0.trans s.wh
  aw0 := fun a o h n => s.away a o (e.wh0 a o h) (e.aw0 a o h n)
  dat := fun i d h => let ⟨v, a, b⟩ := e.dat i d h; ⟨v, a, Rp.ex s.sh b⟩
  nd := fun i d h => let ⟨v, a, b⟩ := e.nd i d h; ⟨v, a, b.ex s.sh⟩
  ow := fun i x hx h => let ⟨a, o, h1, h2, h3, h4, h5⟩ := e.ow i x hx h; ⟨a, o, h1, s.away a _ h4 h2, h3, s.wh _ _ h4, h5.ex s.sh⟩
  inj := e.inj
  gr := fun i rows h => let ⟨a, as, h1, h2, h3⟩ := e.gr i rows h; ⟨a, as, h1, h2.mono (fun c hc => let ⟨o, ho⟩ := h2.has c hc; s.away c o ho (h2.new c hc).1) (fun c _ o ho => s.wh c o ho), h3⟩
theorem EnvOk.step0 (e : EnvOk K Hs0 H0 ρ σ Hs H) : Step Hs0 H0 Hs H := ⟨e.sh0, e.wh0, e.sub, e.aw0⟩
/-- fewer things known -/
theorem EnvOk.less {ρ' : DEnv} (e : EnvOk K Hs0 H0 ρ σ Hs H) (hl : ρ'.length = ρ.length) (h : ∀ (i : Nat) (x : LV), ρ'[i]? = some (some x) → ρ[i]? = some (some x)) : EnvOk K Hs0 H0 ρ' σ Hs H where
  len := hl.trans e.len
  iv := e.iv
  tb := fun i q => e.tb i (h i _ q)
  pa := fun i k x q r => e.pa i k x (h i x q) r
  sub := e.sub
  sh0 := e.sh0
  wh0 := e.wh0
  aw0 := e.aw0
  dat := fun i d q => e.dat i d (h i _ q)
  nd := fun i d q => e.nd i d (h i _ q)
  ow := fun i x hx q => e.ow i x hx (h i _ q)
  inj := fun i j x y a hx hy p q r s => e.inj i j x y a hx hy (h i _ p) (h j _ q) r s
  gr := fun i rows q => let ⟨a, as, h1, h2, h3⟩ := e.gr i rows (h i _ q); ⟨a, as, h1, h2, fun j y c hy p r => h3 j y c hy (h j _ p) r⟩
theorem set_back {i j : Nat} {x y : LV} (h : (ρ.set i (some x))[j]? = some (some y)) : (i = j ∧ i < ρ.length ∧ y = x) ∨ (i ≠ j ∧ ρ[j]? = some (some y)) := by
  by_cases hj : i = j
  · subst hj
    have hlt : i < ρ.length := by
      have := (List.getElem?_eq_some_iff.mp h).1
      simpa using this
    rw [List.getElem?_set_self hlt] at h
    cases h
    exact .inl ⟨rfl, hlt, rfl⟩
  · rw [List.getElem?_set_ne hj] at h
    exact .inr ⟨hj, h⟩
theorem EnvOk.set {i : Nat} {v : V} {d : D} (e : EnvOk K Hs0 H0 ρ σ Hs H) (h : Rp K Hs v d) : EnvOk K Hs0 H0 (ρ.set i (some (.dat d))) (σ.set i (some v)) Hs H where
  len := by simp [e.len]
  iv := e.iv
  tb := fun j q => by
    rcases set_back q with ⟨_, _, z⟩ | ⟨_, q⟩
    · cases z
    · exact e.tb j q
  pa := fun j k x q r => by
    rcases set_back q with ⟨_, _, z⟩ | ⟨hj, q⟩
    · subst z; cases r
    · rw [List.getElem?_set_ne hj]
      exact e.pa j k x q r
  sub := e.sub
  sh0 := e.sh0
  wh0 := e.wh0
  aw0 := e.aw0
  dat := fun j d' q => by
    rcases set_back q with ⟨rfl, hl, z⟩ | ⟨hj, q⟩
    · cases z
      exact ⟨v, List.getElem?_set_self (by rw [← e.len]; exact hl), h⟩
    · rw [List.getElem?_set_ne hj]
      exact e.dat j d' q
  nd := fun j d' q => by
    rcases set_back q with ⟨_, _, z⟩ | ⟨hj, q⟩
    · cases z
    · rw [List.getElem?_set_ne hj]
      exact e.nd j d' q
  ow := fun j x hx q => by
    rcases set_back q with ⟨_, _, z⟩ | ⟨hj, q⟩
    · subst z; cases hx
    · rw [List.getElem?_set_ne hj]
      exact e.ow j x hx q
  inj := fun j k x y a hx hy p q r s => by
    rcases set_back p with ⟨_, _, z⟩ | ⟨hj, p⟩
    · subst z; cases hx
    rcases set_back q with ⟨_, _, z⟩ | ⟨hk, q⟩
    · subst z; cases hy
    rw [List.getElem?_set_ne hj] at r
    rw [List.getElem?_set_ne hk] at s
    exact e.inj j k x y a hx hy p q r s
  gr := fun j rows q => by
    rcases set_back q with ⟨_, _, z⟩ | ⟨hj, q⟩
    · cases z
    obtain ⟨a, as, h1, h2, h3⟩ := e.gr j rows q
    refine ⟨a, as, by rw [List.getElem?_set_ne hj]; exact h1, h2, fun k y c hy p r => ?_⟩
    rcases set_back p with ⟨_, _, z⟩ | ⟨hk, p⟩
    · subst z; cases hy
    rw [List.getElem?_set_ne hk] at r
    exact h3 k y c hy p r
/-- a tuple without names of its own, stored -/
theorem EnvOk.setNd {i : Nat} {a : Addr} {ds : List D} (e : EnvOk K Hs0 H0 ρ σ Hs H) (h : NdT K Hs a ds) : EnvOk K Hs0 H0 (ρ.set i (some (.ndt ds))) (σ.set i (some (.ref a))) Hs H where
  len := by simp [e.len]
  iv := e.iv
  tb := fun j q => by
    rcases set_back q with ⟨_, _, z⟩ | ⟨_, q⟩
    · cases z
    · exact e.tb j q
  pa := fun j k x q r => by
    rcases set_back q with ⟨_, _, z⟩ | ⟨hj, q⟩
    · subst z; cases r
    · rw [List.getElem?_set_ne hj]
      exact e.pa j k x q r
  sub := e.sub
  sh0 := e.sh0
  wh0 := e.wh0
  aw0 := e.aw0
  dat := fun j d' q => by
    rcases set_back q with ⟨_, _, z⟩ | ⟨hj, q⟩
    · cases z
    · rw [List.getElem?_set_ne hj]
      exact e.dat j d' q
  nd := fun j d' q => by
    rcases set_back q with ⟨rfl, hl, z⟩ | ⟨hj, q⟩
    · cases z
      exact ⟨a, List.getElem?_set_self (by rw [← e.len]; exact hl), h⟩
    · rw [List.getElem?_set_ne hj]
      exact e.nd j d' q
  ow := fun j x hx q => by
    rcases set_back q with ⟨_, _, z⟩ | ⟨hj, q⟩
    · subst z; cases hx
    · rw [List.getElem?_set_ne hj]
      exact e.ow j x hx q
  inj := fun j k x y b hx hy p q r s => by
    rcases set_back p with ⟨_, _, z⟩ | ⟨hj, p⟩
    · subst z; cases hx
    rcases set_back q with ⟨_, _, z⟩ | ⟨hk, q⟩
    · subst z; cases hy
    rw [List.getElem?_set_ne hj] at r
    rw [List.getElem?_set_ne hk] at s
    exact e.inj j k x y b hx hy p q r s
  gr := fun j rows q => by
    rcases set_back q with ⟨_, _, z⟩ | ⟨hj, q⟩
    · cases z
    obtain ⟨a, as, h1, h2, h3⟩ := e.gr j rows q
    refine ⟨a, as, by rw [List.getElem?_set_ne hj]; exact h1, h2, fun k y c hy p r => ?_⟩
    rcases set_back p with ⟨_, _, z⟩ | ⟨hk, p⟩
    · subst z; cases hy
    rw [List.getElem?_set_ne hk] at r
    exact h3 k y c hy p r
/-- a new object of the frame's own -/
theorem EnvOk.setObj {i : Nat} {a : Addr} {x : LV} {o : HO} (e : EnvOk K Hs0 H0 ρ σ Hs H) (hx : isOwn x = true) (hp : H a = none) (r : ownR K Hs x o) (hpn : parOf x = none := by rfl) :
    EnvOk K Hs0 H0 (ρ.set i (some x)) (σ.set i (some (.ref a))) Hs (upd H a o) := by
  have sa : Hs a = none := sub_none e.sub hp
  have oa : H0 a = none := sub_none e.wh0 hp
  have other : ∀ {j : Nat} {y : LV} {c : Addr}, isOwn y = true → ρ[j]? = some (some y) → σ[j]? = some (some (V.ref c)) → c ≠ a := fun {j y c} hy q r => by
    obtain ⟨c', o', h1, h2, h3, h4, h5⟩ := e.ow j y hy q
    rw [r] at h1
    cases h1
    exact ne_of_none h4 hp
  refine ⟨by simp [e.len], Hp0.new hp e.iv, fun j q => (by
    rcases set_back q with ⟨_, _, z⟩ | ⟨_, q⟩
    · rw [← z] at hx; cases hx
    · exact (e.tb j q).new hp), fun j k y q rk => ?_, Ex.mut e.sub sa, e.sh0, Ex.mut e.wh0 oa, e.aw0, fun j d q => ?_, fun j d q => ?_, fun j y hy q => ?_, fun j k y z c hy hz p q r s => ?_, fun j rows q => ?_⟩
  · rcases set_back q with ⟨_, _, z⟩ | ⟨hj, q⟩
    · subst z
      rw [hpn] at rk
      cases rk
    · rw [List.getElem?_set_ne hj]
      exact e.pa j k y q rk
  · rcases set_back q with ⟨_, _, z⟩ | ⟨hj, q⟩
    · subst z; cases hx
    · rw [List.getElem?_set_ne hj]
      exact e.dat j d q
  · rcases set_back q with ⟨_, _, z⟩ | ⟨hj, q⟩
    · subst z; cases hx
    · rw [List.getElem?_set_ne hj]
      exact e.nd j d q
  · rcases set_back q with ⟨rfl, hl, z⟩ | ⟨hj, q⟩
    · subst z
      exact ⟨a, o, List.getElem?_set_self (by rw [← e.len]; exact hl), sa, oa, upd_same, r⟩
    · rw [List.getElem?_set_ne hj]
      obtain ⟨c, o', h1, h2, h3, h4, h5⟩ := e.ow j y hy q
      exact ⟨c, o', h1, h2, h3, by rw [upd_ne (ne_of_none h4 hp)]; exact h4, h5⟩
  · have mine : ∀ {j : Nat}, i < ρ.length → (σ.set i (some (V.ref a)))[i]? = some (some (V.ref c)) → c = a := fun {j} hl r => by
      rw [List.getElem?_set_self (by rw [← e.len]; exact hl)] at r
      cases r
      rfl
    rcases set_back p with ⟨hj, hl, _⟩ | ⟨hj, p⟩
    · rcases set_back q with ⟨hk, _, _⟩ | ⟨hk, q⟩
      · exact hj.symm.trans hk
      · subst hj
        rw [List.getElem?_set_ne hk] at s
        exact absurd (mine (j := 0) hl r) (other hz q s)
    · rcases set_back q with ⟨hk, hl, _⟩ | ⟨hk, q⟩
      · subst hk
        rw [List.getElem?_set_ne hj] at r
        exact absurd (mine (j := 0) hl s) (other hy p r)
      · rw [List.getElem?_set_ne hj] at r
        rw [List.getElem?_set_ne hk] at s
        exact e.inj j k y z c hy hz p q r s
  · rcases set_back q with ⟨_, _, z⟩ | ⟨hj, q⟩
    · subst z; cases hx
    obtain ⟨b, as, h1, h2, h3⟩ := e.gr j rows q
    have far : ∀ c, c ∈ b :: as → c ≠ a := fun c hc => let ⟨o', ho⟩ := h2.has c hc; ne_of_none ho hp
    refine ⟨b, as, by rw [List.getElem?_set_ne hj]; exact h1, h2.mono (fun c hc => (h2.new c hc).1) (fun c hc o' ho => by rw [upd_ne (far c hc)]; exact ho), fun k y c hy p r => ?_⟩
    rcases set_back p with ⟨rfl, hl, z⟩ | ⟨hk, p⟩
    · rw [List.getElem?_set_self (by rw [← e.len]; exact hl)] at r
      cases r
      exact fun hc => far _ hc rfl
    · rw [List.getElem?_set_ne hk] at r
      exact h3 k y c hy p r
/-- the own object at slot i becomes another -/
theorem EnvOk.putObj {i : Nat} {a : Addr} {x y : LV} {o : HO} (e : EnvOk K Hs0 H0 ρ σ Hs H) (hx : isOwn x = true) (hy : isOwn y = true) (hr : ρ[i]? = some (some x)) (hs : σ[i]? = some (some (.ref a))) (r : ownR K Hs y o) (hpe : parOf y = parOf x := by rfl) :
    EnvOk K Hs0 H0 (ρ.set i (some y)) σ Hs (upd H a o) := by
  obtain ⟨a', o', g1, sa, oa, g4, g5⟩ := e.ow i x hx hr
  rw [hs] at g1
  cases g1
  refine ⟨by simp [e.len], Hp0.mut (fun u q => by rw [g4] at q; cases q; exact g5.soft) e.iv, fun j q => (by
    rcases set_back q with ⟨_, _, z⟩ | ⟨_, q⟩
    · rw [← z] at hy; cases hy
    · exact (e.tb j q).mut fun u hu => by rw [g4] at hu; cases hu; exact g5.soft), fun j k z q rk => ?_, Ex.mut e.sub sa, e.sh0, Ex.mut e.wh0 oa, e.aw0, fun j d q => ?_, fun j d q => ?_, fun j z hz q => ?_, fun j k z z' c hz hz' p q r s => ?_, fun j rows q => ?_⟩
  · rcases set_back q with ⟨hj, _, z⟩ | ⟨hj, q⟩
    · subst z
      subst hj
      exact e.pa _ k x hr (hpe ▸ rk)
    · exact e.pa j k z q rk
  · rcases set_back q with ⟨_, _, z⟩ | ⟨hj, q⟩
    · subst z; cases hy
    · exact e.dat j d q
  · rcases set_back q with ⟨_, _, z⟩ | ⟨hj, q⟩
    · subst z; cases hy
    · exact e.nd j d q
  · rcases set_back q with ⟨rfl, hl, w⟩ | ⟨hj, q⟩
    · subst w
      exact ⟨a, o, hs, sa, oa, upd_same, r⟩
    · obtain ⟨c, o2, h1, h2, h3, h4, h5⟩ := e.ow j z hz q
      have : c ≠ a := fun w => by
        subst w
        exact hj (e.inj i j x z c hx hz hr q hs h1)
      exact ⟨c, o2, h1, h2, h3, by rw [upd_ne this]; exact h4, h5⟩
  · have back : ∀ {j : Nat} {z : LV}, isOwn z = true → (ρ.set i (some y))[j]? = some (some z) → ∃ z', isOwn z' = true ∧ ρ[j]? = some (some z') := fun {j z} hz q => by
      rcases set_back q with ⟨rfl, _, _⟩ | ⟨_, q⟩
      · exact ⟨x, hx, hr⟩
      · exact ⟨z, hz, q⟩
    obtain ⟨f1, o1, p1⟩ := back hz p
    obtain ⟨f2, o2, p2⟩ := back hz' q
    exact e.inj j k f1 f2 c o1 o2 p1 p2 r s
  · rcases set_back q with ⟨_, _, z⟩ | ⟨hj, q⟩
    · subst z; cases hy
    obtain ⟨b, as, h1, h2, h3⟩ := e.gr j rows q
    have far : ∀ c, c ∈ b :: as → c ≠ a := fun c hc z => h3 i x c hx hr (by rw [z]; exact hs) hc
    refine ⟨b, as, h1, h2.mono (fun c hc => (h2.new c hc).1) (fun c hc o' ho => by rw [upd_ne (far c hc)]; exact ho), fun k y c hy p r => ?_⟩
    rcases set_back p with ⟨rfl, hl, z⟩ | ⟨hk, p⟩
    · exact h3 _ x c hx hr r
    · exact h3 k y c hy p r
end

/-- a slot's thing; a slot stored (by the recursors themselves: the kernel runs these) -/
def lk (ρ : DEnv) (n : Nat) : Option LV := List.rec (motive := fun _ => Nat → Option LV) (fun _ => none) (fun a _ ih n => Nat.rec (motive := fun _ => Option LV) a (fun m _ => ih m) n) ρ n
def st (ρ : DEnv) (n : Nat) (v : Option LV) : DEnv := List.rec (motive := fun _ => Nat → DEnv) (fun _ => []) (fun a r ih n => Nat.rec (motive := fun _ => DEnv) (v :: r) (fun m _ => a :: ih m) n) ρ n
@[simp] theorem lk_nil (n : Nat) : lk [] n = none := rfl
@[simp] theorem lk_zero (a : Option LV) (r : DEnv) : lk (a :: r) 0 = a := rfl
@[simp] theorem lk_succ (a : Option LV) (r : DEnv) (n : Nat) : lk (a :: r) (n + 1) = lk r n := rfl
@[simp] theorem st_nil (n : Nat) (v : Option LV) : st [] n v = [] := rfl
@[simp] theorem st_zero (a : Option LV) (r : DEnv) (v : Option LV) : st (a :: r) 0 v = v :: r := rfl
@[simp] theorem st_succ (a : Option LV) (r : DEnv) (n : Nat) (v : Option LV) : st (a :: r) (n + 1) v = a :: st r n v := rfl
theorem st_eq : ∀ (ρ : DEnv) (n : Nat) (v : Option LV), st ρ n v = ρ.set n v
  | [], _, _ => rfl
  | _ :: _, 0, _ => rfl
  | a :: r, n + 1, v => by rw [st_succ, st_eq r n v]; rfl
theorem lk_some : ∀ {ρ : DEnv} {n : Nat} {x : LV}, lk ρ n = some x → ρ[n]? = some (some x)
  | [], _, _, h => by cases h
  | _ :: _, 0, _, h => by rw [lk_zero] at h; rw [h]; rfl
  | a :: r, n + 1, x, h => by
    rw [lk_succ] at h
    rw [List.getElem?_cons_succ]
    exact lk_some h
/-- some slots forgotten -/
def kill (ρ : DEnv) (vs : List Nat) : DEnv := List.rec (motive := fun _ => DEnv) ρ (fun v _ ih => st ih v none) vs
@[simp] theorem kill_nil (ρ : DEnv) : kill ρ [] = ρ := rfl
@[simp] theorem kill_cons (ρ : DEnv) (v : Nat) (vs : List Nat) : kill ρ (v :: vs) = st (kill ρ vs) v none := rfl
theorem kill_length (ρ : DEnv) : ∀ vs : List Nat, (kill ρ vs).length = ρ.length
  | [] => rfl
  | v :: vs => by rw [kill_cons, st_eq, List.length_set, kill_length ρ vs]
theorem kill_some {ρ : DEnv} {i : Nat} {x : LV} : ∀ {vs : List Nat}, (kill ρ vs)[i]? = some (some x) → ρ[i]? = some (some x) ∧ i ∉ vs
  | [], h => ⟨h, by simp⟩
  | v :: vs, h => by
    rw [kill_cons, st_eq] at h
    by_cases e : v = i
    · subst e
      have hlt : v < (kill ρ vs).length := by
        have := (List.getElem?_eq_some_iff.mp h).1
        simpa using this
      rw [List.getElem?_set_self hlt] at h
      cases h
    · rw [List.getElem?_set_ne e] at h
      obtain ⟨a, b⟩ := kill_some h
      exact ⟨a, by simp [b, Ne.symm e]⟩
theorem wipe_get {σ : L2.St} {i : Nat} : ∀ {vs : List Nat}, i ∉ vs → (wipe σ vs)[i]? = σ[i]?
  | [], _ => rfl
  | v :: vs, h => by
    have h1 : v ≠ i := fun z => h (by simp [z])
    have h2 : i ∉ vs := fun z => h (by simp [z])
    unfold wipe
    rw [List.getElem?_set_ne h1]
    exact wipe_get h2
section
variable {Hs0 : Hp} {H0 : Hp0} {Hs H Hs' H' : Hp} {ρ : DEnv} {σ : L2.St}
theorem EnvOk.kill (e : EnvOk K Hs0 H0 ρ σ Hs H) (vs : List Nat) : EnvOk K Hs0 H0 (kill ρ vs) σ Hs H := e.less (kill_length ρ vs) fun _ _ h => (kill_some h).1
theorem EnvOk.wipe (e : EnvOk K Hs0 H0 ρ σ Hs H) (vs : List Nat) : EnvOk K Hs0 H0 (SB.kill ρ vs) (L2.wipe σ vs) Hs H where
  len := by rw [kill_length, wipe_length, e.len]
  iv := e.iv
  tb := fun i q => e.tb i (kill_some q).1
  pa := fun i k x q r => by
    obtain ⟨h1, h2⟩ := kill_some q
    rw [wipe_get h2]
    exact e.pa i k x h1 r
  sub := e.sub
  sh0 := e.sh0
  wh0 := e.wh0
  aw0 := e.aw0
  dat := fun i d q => by
    obtain ⟨h1, h2⟩ := kill_some q
    rw [wipe_get h2]
    exact e.dat i d h1
  nd := fun i d q => by
    obtain ⟨h1, h2⟩ := kill_some q
    rw [wipe_get h2]
    exact e.nd i d h1
  ow := fun i x hx q => by
    obtain ⟨h1, h2⟩ := kill_some q
    rw [wipe_get h2]
    exact e.ow i x hx h1
  inj := fun i j x y a hx hy p q r s => by
    obtain ⟨h1, h2⟩ := kill_some p
    obtain ⟨h3, h4⟩ := kill_some q
    rw [wipe_get h2] at r
    rw [wipe_get h4] at s
    exact e.inj i j x y a hx hy h1 h3 r s
  gr := fun i rows q => by
    obtain ⟨h1, h2⟩ := kill_some q
    obtain ⟨a, as, g1, g2, g3⟩ := e.gr i rows h1
    refine ⟨a, as, by rw [wipe_get h2]; exact g1, g2, fun j y c hy p r => ?_⟩
    obtain ⟨h3, h4⟩ := kill_some p
    rw [wipe_get h4] at r
    exact g3 j y c hy h3 r
end
end SB
end
end

section
set_option Elab.async false
set_option linter.all false
set_option maxRecDepth 100000
set_option maxHeartbeats 2000000
noncomputable section
namespace SB
open PySem PySem.Spec L2 Evl PyProof.Rows

/-! ### what is wanted behind a piece of code -/
abbrev WD := Nat → L2.St → Hp → Prop
def W0 : WD := fun _ _ _ => False
def PostA {α : Type} (W : WD) (σ : L2.St) (Hs H : Hp) (K : α → Hp → Hp → Prop) : Res α → Prop
  | .ok a => ∀ Hs' H', Step Hs H Hs' H' → K a Hs' H'
  | .exc c => ∀ Hs' H', Step Hs H Hs' H' → W c σ H'
  | .bad => False
section
variable {α β : Type} {W : WD} {σ : L2.St} {Hs H Hs' H' : Hp} {K K' : α → Hp → Hp → Prop} {r : Res α}
theorem PostA.step (s : Step Hs H Hs' H') (h : PostA W σ Hs H K r) : PostA W σ Hs' H' K r := by
  cases r with
  | ok a => exact fun _ _ s' => h _ _ (s.trans s')
  | exc c => exact fun _ _ s' => h _ _ (s.trans s')
  | bad => exact h
theorem PostA.mono (h : PostA W σ Hs H K r) (k : ∀ a Hs' H', Step Hs H Hs' H' → K a Hs' H' → K' a Hs' H') : PostA W σ Hs H K' r := by
  cases r with
  | ok a => exact fun _ _ s' => k _ _ _ s' (h _ _ s')
  | exc c => exact h
  | bad => exact h
theorem PostA.bind {f : α → Res β} {K : β → Hp → Hp → Prop} (h : PostA W σ Hs H K (r.bind f)) : PostA W σ Hs H (fun a Hs' H' => PostA W σ Hs' H' K (f a)) r := by
  cases r with
  | ok a => exact fun _ _ s' => PostA.step s' (show PostA W σ Hs H K (f a) from h)
  | exc c => exact h
  | bad => exact h
theorem PostA.now {a : α} (e : Ex Hs H) (h : PostA W σ Hs H K (.ok a)) : K a Hs H := h Hs H (Step.refl e)
end
/-- .. behind an expression -/
abbrev Post (K : PySem.W.Frag) (b : Bool) (W : WD) (σ : L2.St) (Hs H : Hp) (Q : VK) : Res D → Prop := PostA W σ Hs H fun d Hs' H' => ∀ v, Rep b K Hs' H' v d → Q v H'

structure DE (X : Cx) (W : WD) (b : Bool) (e : Expr) (f : DEnv → Res D) : Prop where
  ex : ∃ t : TE, PE X e t ∧ ∀ Hs0 H0 ρ σ Hs H Q, EnvOk X.K Hs0 H0 ρ σ Hs H → Post X.K b W σ Hs H Q (f ρ) → t σ H Q
structure DT (X : Cx) (W : WD) (e : Expr) (f : DEnv → Res Bool) : Prop where
  ex : ∃ t : TT, PT X e t ∧ ∀ Hs0 H0 ρ σ Hs H Q, EnvOk X.K Hs0 H0 ρ σ Hs H → PostA W σ Hs H (fun b _ H' => Q b H') (f ρ) → t σ H Q
/-- a test whatever its whole is -/
structure DW (X : Cx) (W : WD) (e : Expr) (f : DEnv → Res Bool) : Prop where
  ex : ∃ t : TT, PW X e t ∧ ∀ Hs0 H0 ρ σ Hs H Q, EnvOk X.K Hs0 H0 ρ σ Hs H → PostA W σ Hs H (fun b _ H' => Q b H') (f ρ) → t σ H Q
structure DA (X : Cx) (W : WD) (b : Bool) (es : List Expr) (f : DEnv → Res (List D)) : Prop where
  ex : ∃ t : TA, PA X es t ∧ ∀ Hs0 H0 ρ σ Hs H Q, EnvOk X.K Hs0 H0 ρ σ Hs H → PostA W σ Hs H (fun ds Hs' H' => ∀ vs, RpsAll b X.K Hs' H' vs ds → Q vs H') (f ρ) → t σ H Q

/-! ### expressions -/
section
variable {X : Cx} {W : WD} {b bb : Bool} {a c e : Expr} {fa fb f : DEnv → Res D} {pos : Pos}
theorem DE.up (h : DE X W b e f) : DE X W true e f := by
  obtain ⟨t, p, q⟩ := h.ex
  exact ⟨t, p, fun Hs0 H0 ρ σ Hs H Q e hp => q Hs0 H0 ρ σ Hs H Q e (hp.mono fun d Hs' H' _ k v r => k v r.up)⟩
theorem DE.any (h : DE X W false e f) : DE X W b e f := by
  obtain ⟨t, p, q⟩ := h.ex
  exact ⟨t, p, fun Hs0 H0 ρ σ Hs H Q e hp => q Hs0 H0 ρ σ Hs H Q e (hp.mono fun d Hs' H' _ k v r => k v (.inl r.rp))⟩

/-- a name -/
def xVar (i : Nat) : DEnv → Res D := fun ρ => match lk ρ i with
  | some (.dat d) => .ok d
  | _ => .bad
def xOwn (i : Nat) : DEnv → Res D := fun ρ => match lk ρ i with
  | some (.own ds) => .ok (.list ds)
  | _ => .bad
theorem de_var (i : Nat) {x : Str} (hN : X.N[i]? = some x := by rfl) (hv : Vis X.env.scope x := by first | exact Or.inl rfl | exact Or.inr (Or.inl rfl) | exact Or.inr (Or.inr rfl)) (hd : (x == ("__debug__" : Str)) = false := by decide)
    (hcd : (x == ("__classdict__" : Str)) = false := by decide) : DE X W b (.Name x pos) (xVar i) := by
  refine ⟨tVar i, pe_var hN hv hd hcd, fun Hs0 H0 ρ σ Hs H Q e hp => ?_⟩
  unfold xVar at hp
  split at hp
  · rename_i d h
    obtain ⟨v, h1, h2⟩ := e.dat i d (lk_some h)
    exact ⟨v, h1, hp.now e.sub v (.of h2)⟩
  · exact hp.elim
theorem de_own (i : Nat) {x : Str} (hN : X.N[i]? = some x := by rfl) (hv : Vis X.env.scope x := by first | exact Or.inl rfl | exact Or.inr (Or.inl rfl) | exact Or.inr (Or.inr rfl)) (hd : (x == ("__debug__" : Str)) = false := by decide)
    (hcd : (x == ("__classdict__" : Str)) = false := by decide) : DE X W true (.Name x pos) (xOwn i) := by
  refine ⟨tVar i, pe_var hN hv hd hcd, fun Hs0 H0 ρ σ Hs H Q e hp => ?_⟩
  unfold xOwn at hp
  split at hp
  · rename_i ds h
    obtain ⟨a, vs, h1, h2, h3, h4, h5⟩ := e.own i ds (lk_some h)
    exact ⟨_, h1, hp.now e.sub _ (.inr ⟨rfl, a, ds, vs, rfl, rfl, h4, h5⟩)⟩
  · exact hp.elim
def xC (d : D) : DEnv → Res D := fun _ => .ok d
theorem de_c {v : V} {d : D} (h : PE X e (tC v)) (r : ∀ H, Rp X.K H v d) : DE X W b e (xC d) :=
  ⟨tC v, h, fun Hs0 H0 ρ σ Hs H Q e hp => hp.now e.sub v (.of (r Hs))⟩
theorem de_int {i : Int} {j : Nat} : DE X W b (.Constant (.int i) j pos) (xC (.int i)) := de_c pe_int fun _ => .int i
theorem de_bl {i : Bool} {j : Nat} : DE X W b (.Constant (.bool i) j pos) (xC (.bool i)) := de_c pe_bl fun _ => .bl i
theorem de_non {j : Nat} : DE X W b (.Constant .none j pos) (xC .none) := de_c pe_non fun _ => .non
theorem de_str {x : Str} {j : Nat} : DE X W b (.Constant (.str x) j pos) (xC (.str x)) := de_c pe_str fun _ => .str x
/-- a constant of the module -/
theorem de_glob {x : Str} {v : V} {d : D} {u : Value} (hg : Gl X x) (hm : X.mg x = some u) (r : RelV v u) (q : ∀ H, Rp X.K H v d) (hd : (x == ("__debug__" : Str)) = false := by decide) : DE X W b (.Name x pos) (xC d) := de_c (pe_glob hg hm r hd) q

/-- two-place operations by values -/
structure OpD (X : Cx) (F : Value → Value → Sem Value) (g : D → D → Res D) : Prop where
  ex : ∃ r : R2, OpR X F r ∧ ∀ (W : WD) (σ : L2.St) (Hs H : Hp) (x y : V) (a c : D) (Q : VK), Ex Hs H → Rep true X.K Hs H x a → Rep true X.K Hs H y c → Post X.K false W σ Hs H Q (g a c) → r x y H Q
def xOp (g : D → D → Res D) (fa fb : DEnv → Res D) : DEnv → Res D := fun ρ => (fa ρ).bind fun x => (fb ρ).bind fun y => g x y
theorem op_read {F : Value → Value → Sem Value} {g : D → D → Res D} {ta tb : TE} {r : R2} {ρ : DEnv} {σ : L2.St} {Hs0 : Hp} {H0 : Hp0} {Hs H : Hp} {Q : VK}
    (hr : ∀ (W : WD) (σ : L2.St) (Hs H : Hp) (x y : V) (a c : D) (Q : VK), Ex Hs H → Rep true X.K Hs H x a → Rep true X.K Hs H y c → Post X.K false W σ Hs H Q (g a c) → r x y H Q)
    (ha : ∀ Hs0 H0 ρ σ Hs H Q, EnvOk X.K Hs0 H0 ρ σ Hs H → Post X.K true W σ Hs H Q (fa ρ) → ta σ H Q) (hb : ∀ Hs0 H0 ρ σ Hs H Q, EnvOk X.K Hs0 H0 ρ σ Hs H → Post X.K true W σ Hs H Q (fb ρ) → tb σ H Q)
    (e : EnvOk X.K Hs0 H0 ρ σ Hs H) (h : Post X.K bb W σ Hs H Q (xOp g fa fb ρ)) : tOp r ta tb σ H Q := by
  have h' : Post X.K false W σ Hs H Q (xOp g fa fb ρ) := h.mono fun d Hs' H' _ k v rv => k v (.inl rv.rp)
  refine ha _ _ ρ σ Hs H _ e (h'.bind.mono fun x Hs1 H1 s1 h1 v rv => ?_)
  refine hb _ _ ρ σ Hs1 H1 _ (e.step s1) (h1.bind.mono fun y Hs2 H2 s2 h2 u ru => ?_)
  exact hr W σ Hs2 H2 v u x y Q s2.sub (rv.step s2) ru h2
theorem de_op {op : Operator} {g : D → D → Res D} (ho : OpD X (binaryOp op) g) (ha : DE X W true a fa) (hb : DE X W true c fb) : DE X W b (.BinOp a op c pos) (xOp g fa fb) := by
  obtain ⟨r, hor, hr⟩ := ho.ex
  obtain ⟨ta, pa, ha⟩ := ha.ex
  obtain ⟨tb, pb, hb⟩ := hb.ex
  exact ⟨tOp r ta tb, pe_op hor pa pb, fun Hs0 H0 ρ σ Hs H Q e h => op_read (F := binaryOp op) hr ha hb e h⟩
theorem de_cmp {op : CmpOp} {g : D → D → Res D} (ho : OpD X (compareOp op) g) (ha : DE X W true a fa) (hb : DE X W true c fb) (hm : behindInMarks op c = false) : DE X W b (.Compare a [op] [c] pos) (xOp g fa fb) := by
  obtain ⟨r, hor, hr⟩ := ho.ex
  obtain ⟨ta, pa, ha⟩ := ha.ex
  obtain ⟨tb, pb, hb⟩ := hb.ex
  exact ⟨tOp r ta tb, pe_cmpR hor pa pb hm, fun Hs0 H0 ρ σ Hs H Q e h => op_read (F := compareOp op) hr ha hb e h⟩
/-- a truth's bit -/
def asB : D → Res Bool
  | .bool k => .ok k
  | _ => .bad
def xB (f : DEnv → Res D) : DEnv → Res Bool := fun ρ => (f ρ).bind asB
theorem asB_post {σ : L2.St} {Hs H : Hp} {Q : Bool → Hp → Prop} {r : Res D} (h : PostA W σ Hs H (fun k _ H' => Q k H') (r.bind asB)) : Post X.K true W σ Hs H (fun x H' => ∃ k, x = .bl k ∧ Q k H') r := by
  refine h.bind.mono fun d Hs' H' s k v rv => ?_
  cases d with
  | bool i =>
    have := rv.bool
    subst this
    exact ⟨i, rfl, k.now s.sub⟩
  | _ => exact k.elim
theorem dt_cmp {op : CmpOp} {g : D → D → Res D} (ho : OpD X (compareOp op) g) (ha : DE X W true a fa) (hb : DE X W true c fb) (hm : behindInMarks op c = false) : DT X W (.Compare a [op] [c] pos) (xB (xOp g fa fb)) := by
  obtain ⟨r, hor, hr⟩ := ho.ex
  obtain ⟨ta, pa, ha⟩ := ha.ex
  obtain ⟨tb, pb, hb⟩ := hb.ex
  exact ⟨tTest (tOp r ta tb), pt_cmpR hor pa pb hm, fun Hs0 H0 ρ σ Hs H Q e h => op_read (F := compareOp op) hr ha hb e (asB_post h)⟩
/-- a value as a test -/
theorem dt_val (h : DE X W b e f) (he : ∀ whole, isTrue e X.env whole = (do let v ← whole; standAt e.pos; holding [v] (truthy v)) := by intro _; rfl) : DT X W e (xB f) := by
  obtain ⟨t, p, q⟩ := h.up.ex
  exact ⟨tB t, pt_val p he, fun Hs0 H0 ρ σ Hs H Q e h => q Hs0 H0 ρ σ Hs H _ e (asB_post h)⟩
/-- a op b op' c -/
def xChain (g g' : D → D → Res D) (fa fb fc : DEnv → Res D) : DEnv → Res D := fun ρ => (fa ρ).bind fun x => (fb ρ).bind fun y => (g x y).bind fun z => (asB z).bind fun k => if k = true then (fc ρ).bind fun w => g' y w else .ok (.bool false)
theorem chain_read {g g' : D → D → Res D} {ta tb tc : TE} {r r' : R2} {fc : DEnv → Res D} {ρ : DEnv} {σ : L2.St} {Hs0 : Hp} {H0 : Hp0} {Hs H : Hp} {Q : VK}
    (hr : ∀ (W : WD) (σ : L2.St) (Hs H : Hp) (x y : V) (a c : D) (Q : VK), Ex Hs H → Rep true X.K Hs H x a → Rep true X.K Hs H y c → Post X.K false W σ Hs H Q (g a c) → r x y H Q)
    (hr' : ∀ (W : WD) (σ : L2.St) (Hs H : Hp) (x y : V) (a c : D) (Q : VK), Ex Hs H → Rep true X.K Hs H x a → Rep true X.K Hs H y c → Post X.K false W σ Hs H Q (g' a c) → r' x y H Q)
    (ha : ∀ Hs0 H0 ρ σ Hs H Q, EnvOk X.K Hs0 H0 ρ σ Hs H → Post X.K true W σ Hs H Q (fa ρ) → ta σ H Q) (hb : ∀ Hs0 H0 ρ σ Hs H Q, EnvOk X.K Hs0 H0 ρ σ Hs H → Post X.K true W σ Hs H Q (fb ρ) → tb σ H Q)
    (hc : ∀ Hs0 H0 ρ σ Hs H Q, EnvOk X.K Hs0 H0 ρ σ Hs H → Post X.K true W σ Hs H Q (fc ρ) → tc σ H Q)
    (e : EnvOk X.K Hs0 H0 ρ σ Hs H) (h : Post X.K bb W σ Hs H Q (xChain g g' fa fb fc ρ)) : tChain r r' ta tb tc σ H Q := by
  have h' : Post X.K false W σ Hs H Q (xChain g g' fa fb fc ρ) := h.mono fun d Hs' H' _ k v rv => k v (.inl rv.rp)
  refine ha _ _ ρ σ Hs H _ e (h'.bind.mono fun x Hs1 H1 s1 h1 v rv => ?_)
  refine hb _ _ ρ σ Hs1 H1 _ (e.step s1) (h1.bind.mono fun y Hs2 H2 s2 h2 u ru => ?_)
  refine hr W σ Hs2 H2 v u x y _ s2.sub (rv.step s2) ru (h2.bind.mono fun z Hs3 H3 s3 h3 zv rz => ?_)
  cases z with
  | bool k =>
    have := rz.bool
    subst this
    refine ⟨k, rfl, ?_⟩
    have h3 : Post X.K false W σ Hs3 H3 Q (if k = true then (fc ρ).bind fun w => g' y w else .ok (.bool false)) := h3
    cases k with
    | true =>
      show tc σ H3 _
      refine hc _ _ ρ σ Hs3 H3 _ ((e.step (s1.trans s2)).step s3) (PostA.bind (f := fun w => g' y w) h3 |>.mono fun w Hs4 H4 s4 h4 wv rw => ?_)
      exact hr' W σ Hs4 H4 u wv y w Q s4.sub ((ru.step s3).step s4) rw h4
    | false =>
      show Q (.bl false) H3
      exact h3.now s3.sub _ (.of (.bl false))
  | _ => exact h3.elim
theorem de_chain {op op' : CmpOp} {d : Expr} {g g' : D → D → Res D} {fc : DEnv → Res D} (ho : OpD X (compareOp op) g) (ho' : OpD X (compareOp op') g') (ha : DE X W true a fa) (hb : DE X W true c fb) (hc : DE X W true d fc)
    (hm : lastMarks [op, op'] [c, d] = false := by with_unfolding_all rfl) : DE X W b (.Compare a [op, op'] [c, d] pos) (xChain g g' fa fb fc) := by
  obtain ⟨r, hor, hr⟩ := ho.ex
  obtain ⟨r', hor', hr'⟩ := ho'.ex
  obtain ⟨ta, pa, ha⟩ := ha.ex
  obtain ⟨tb, pb, hb⟩ := hb.ex
  obtain ⟨tc, pc, hc⟩ := hc.ex
  exact ⟨tChain r r' ta tb tc, pe_chain hor hor' pa pb pc hm, fun Hs0 H0 ρ σ Hs H Q e h => chain_read hr hr' ha hb hc e h⟩
theorem dt_chain {op op' : CmpOp} {d : Expr} {g g' : D → D → Res D} {fc : DEnv → Res D} (ho : OpD X (compareOp op) g) (ho' : OpD X (compareOp op') g') (ha : DE X W true a fa) (hb : DE X W true c fb) (hc : DE X W true d fc)
    (hm : lastMarks [op, op'] [c, d] = false := by with_unfolding_all rfl) : DT X W (.Compare a [op, op'] [c, d] pos) (xB (xChain g g' fa fb fc)) := by
  obtain ⟨r, hor, hr⟩ := ho.ex
  obtain ⟨r', hor', hr'⟩ := ho'.ex
  obtain ⟨ta, pa, ha⟩ := ha.ex
  obtain ⟨tb, pb, hb⟩ := hb.ex
  obtain ⟨tc, pc, hc⟩ := hc.ex
  exact ⟨tTest (tChain r r' ta tb tc), pt_chain hor hor' pa pb pc hm, fun Hs0 H0 ρ σ Hs H Q e h => chain_read hr hr' ha hb hc e (asB_post h)⟩

/-! ### and, or, not -/
variable {rest : List Expr} {ga gb : DEnv → Res Bool}
def xAnd (ga gb : DEnv → Res Bool) : DEnv → Res Bool := fun ρ => (ga ρ).bind fun k => if k = true then gb ρ else .ok false
def xOr (ga gb : DEnv → Res Bool) : DEnv → Res Bool := fun ρ => (ga ρ).bind fun k => if k = true then .ok true else gb ρ
def xNot (ga : DEnv → Res Bool) : DEnv → Res Bool := fun ρ => (ga ρ).bind fun k => .ok (!k)
theorem dw_and1 (h : DT X W a ga) : DW X W (.BoolOp .And [a] pos) ga := by
  obtain ⟨t, p, q⟩ := h.ex
  exact ⟨t, pw_and1 p, q⟩
theorem dw_or1 (h : DT X W a ga) : DW X W (.BoolOp .Or [a] pos) ga := by
  obtain ⟨t, p, q⟩ := h.ex
  exact ⟨t, pw_or1 p, q⟩
theorem dw_and (h : DT X W a ga) (h2 : DW X W (.BoolOp .And (c :: rest) pos) gb) : DW X W (.BoolOp .And (a :: c :: rest) pos) (xAnd ga gb) := by
  obtain ⟨t, p, q⟩ := h.ex
  obtain ⟨t2, p2, q2⟩ := h2.ex
  refine ⟨tAnd t t2, pw_and p p2, fun Hs0 H0 ρ σ Hs H Q e h => ?_⟩
  refine q _ _ ρ σ Hs H _ e (h.bind.mono fun k Hs1 H1 s1 h1 => ?_)
  cases k with
  | true => exact q2 _ _ ρ σ Hs1 H1 _ (e.step s1) h1
  | false => exact h1.now s1.sub
theorem dw_or (h : DT X W a ga) (h2 : DW X W (.BoolOp .Or (c :: rest) pos) gb) : DW X W (.BoolOp .Or (a :: c :: rest) pos) (xOr ga gb) := by
  obtain ⟨t, p, q⟩ := h.ex
  obtain ⟨t2, p2, q2⟩ := h2.ex
  refine ⟨tOr t t2, pw_or p p2, fun Hs0 H0 ρ σ Hs H Q e h => ?_⟩
  refine q _ _ ρ σ Hs H _ e (h.bind.mono fun k Hs1 H1 s1 h1 => ?_)
  cases k with
  | true => exact h1.now s1.sub
  | false => exact q2 _ _ ρ σ Hs1 H1 _ (e.step s1) h1
theorem DW.t (h : DW X W e ga) : DT X W e ga := by
  obtain ⟨t, p, q⟩ := h.ex
  exact ⟨t, p.pt, q⟩
theorem dt_not (h : DT X W a ga) : DT X W (.UnaryOp .Not a pos) (xNot ga) := by
  obtain ⟨t, p, q⟩ := h.ex
  refine ⟨tNot t, pt_not p, fun Hs0 H0 ρ σ Hs H Q e h => ?_⟩
  exact q _ _ ρ σ Hs H _ e (h.bind.mono fun k Hs1 H1 s1 h1 => h1.now s1.sub)
/-- as values -/
def xAndV (fa fb : DEnv → Res D) : DEnv → Res D := fun ρ => (fa ρ).bind fun x => (asB x).bind fun k => if k = true then fb ρ else .ok (.bool false)
def xOrV (fa fb : DEnv → Res D) : DEnv → Res D := fun ρ => (fa ρ).bind fun x => (asB x).bind fun k => if k = true then .ok (.bool true) else fb ρ
def xNotV (fa : DEnv → Res D) : DEnv → Res D := fun ρ => (fa ρ).bind fun x => (asB x).bind fun k => .ok (.bool (!k))
theorem de_one {op : BoolOp} (h : DE X W b a fa) : DE X W b (.BoolOp op [a] pos) fa := by
  obtain ⟨t, p, q⟩ := h.ex
  exact ⟨t, pe_one p, q⟩
theorem de_and (h : DE X W true a fa) (h2 : DE X W b (.BoolOp .And (c :: rest) pos) fb) : DE X W b (.BoolOp .And (a :: c :: rest) pos) (xAndV fa fb) := by
  obtain ⟨t, p, q⟩ := h.ex
  obtain ⟨t2, p2, q2⟩ := h2.ex
  refine ⟨tAndV t t2, pe_and p p2, fun Hs0 H0 ρ σ Hs H Q e h => ?_⟩
  refine q _ _ ρ σ Hs H _ e (h.bind.mono fun x Hs1 H1 s1 h1 v rv => ?_)
  cases x with
  | bool k =>
    have := rv.bool
    subst this
    refine ⟨k, rfl, ?_⟩
    cases k with
    | true => exact q2 _ _ ρ σ Hs1 H1 _ (e.step s1) h1
    | false => exact h1.now s1.sub _ (.of (.bl false))
  | _ => exact h1.elim
theorem de_or (h : DE X W true a fa) (h2 : DE X W b (.BoolOp .Or (c :: rest) pos) fb) : DE X W b (.BoolOp .Or (a :: c :: rest) pos) (xOrV fa fb) := by
  obtain ⟨t, p, q⟩ := h.ex
  obtain ⟨t2, p2, q2⟩ := h2.ex
  refine ⟨tOrV t t2, pe_or p p2, fun Hs0 H0 ρ σ Hs H Q e h => ?_⟩
  refine q _ _ ρ σ Hs H _ e (h.bind.mono fun x Hs1 H1 s1 h1 v rv => ?_)
  cases x with
  | bool k =>
    have := rv.bool
    subst this
    refine ⟨k, rfl, ?_⟩
    cases k with
    | true => exact h1.now s1.sub _ (.of (.bl true))
    | false => exact q2 _ _ ρ σ Hs1 H1 _ (e.step s1) h1
  | _ => exact h1.elim
theorem de_not (h : DE X W true a fa) : DE X W b (.UnaryOp .Not a pos) (xNotV fa) := by
  obtain ⟨t, p, q⟩ := h.ex
  refine ⟨tNotV t, pe_not p, fun Hs0 H0 ρ σ Hs H Q e h => ?_⟩
  refine q _ _ ρ σ Hs H _ e (h.bind.mono fun x Hs1 H1 s1 h1 v rv => ?_)
  cases x with
  | bool k =>
    have := rv.bool
    subst this
    exact ⟨k, rfl, h1.now s1.sub _ (.of (.bl _))⟩
  | _ => exact h1.elim
/-- -a -/
def negD : D → Res D
  | .int i => .ok (.int (-i))
  | _ => .bad
def xNeg (fa : DEnv → Res D) : DEnv → Res D := fun ρ => (fa ρ).bind negD
theorem de_neg (h : DE X W true a fa) : DE X W b (.UnaryOp .USub a pos) (xNeg fa) := by
  obtain ⟨t, p, q⟩ := h.ex
  refine ⟨tUn (rU fun i => .int (-i)) t, pe_un un_neg p, fun Hs0 H0 ρ σ Hs H Q e h => ?_⟩
  refine q _ _ ρ σ Hs H _ e (h.bind.mono fun x Hs1 H1 s1 h1 v rv => ?_)
  cases x with
  | int i =>
    have := rv.int
    subst this
    exact ⟨i, rfl, h1.now s1.sub _ (.of (.int _))⟩
  | _ => exact h1.elim

/-! ### several expressions, displays -/
variable {es : List Expr} {fs : DEnv → Res (List D)}
def xNil : DEnv → Res (List D) := fun _ => .ok []
def xCons (fa : DEnv → Res D) (fs : DEnv → Res (List D)) : DEnv → Res (List D) := fun ρ => (fa ρ).bind fun x => (fs ρ).bind fun xs => .ok (x :: xs)
theorem da_nil : DA X W b [] xNil := ⟨tNil, pa_nil, fun Hs0 H0 ρ σ Hs H Q e h => h.now e.sub [] .nil⟩
theorem da_cons (h : DE X W b e fa) (hr : DA X W b es fs) (hs : starEach (e :: es) X.env = (false, eval e X.env) :: starEach es X.env := by rfl) : DA X W b (e :: es) (xCons fa fs) := by
  obtain ⟨t, p, q⟩ := h.ex
  obtain ⟨t2, p2, q2⟩ := hr.ex
  refine ⟨tCons t t2, pa_cons p p2 hs, fun Hs0 H0 ρ σ Hs H Q e h => ?_⟩
  refine q _ _ ρ σ Hs H _ e (h.bind.mono fun x Hs1 H1 s1 h1 v rv => ?_)
  refine q2 _ _ ρ σ Hs1 H1 _ (e.step s1) (h1.bind.mono fun xs Hs2 H2 s2 h2 vs rvs => ?_)
  exact h2.now s2.sub _ (.cons (rv.step s2) rvs)
def small (n : Nat) : Bool := Nat.ble n 1000000
theorem small_line {n : Nat} (h : small n = true) : n ≤ sizeLine := Nat.le_trans (Nat.le_of_ble_eq_true h) (by decide)
theorem small_lt {n : Nat} (h : small n = true) : n < sizeLine := Nat.lt_of_le_of_lt (Nat.le_of_ble_eq_true h) (by decide)
/-- a new tuple, a new list -/
def mkT (ds : List D) : Res D := if small ds.length = true then .ok (.tuple ds) else .bad
def mkL (ds : List D) : Res D := if small ds.length = true then .ok (.list ds) else .bad
theorem post_mk {α : Type} {σ : L2.St} {Hs H : Hp} {r : Res α} {g : Prop} {c : Prop} [Decidable c] {K : α → Hp → Hp → Prop} (h : PostA W σ Hs H K (if c then r else .bad)) (k : c → PostA W σ Hs H K r → g) : g := by
  by_cases hc : c
  · rw [if_pos hc] at h
    exact k hc h
  · rw [if_neg hc] at h
    exact h.elim
theorem mkT_post {σ : L2.St} {Hs H : Hp} {Q : VK} {ds : List D} {vs : List V} {p : Addr} (h : Post X.K bb W σ Hs H Q (.ok (.tuple ds))) (e : Ex Hs H) (r : RpAll X.K Hs vs ds) (hp : H p = none) : Q (.ref p) (upd H p (.tup vs)) :=
  h _ _ (Step.new e hp) _ (.inl (.tup (tat_of upd_same) (RpAll.ex (Ex.new (sub_none e hp)) r)))
theorem mkL_post {σ : L2.St} {Hs H : Hp} {Q : VK} {ds : List D} {vs : List V} {p : Addr} (h : Post X.K bb W σ Hs H Q (.ok (.list ds))) (e : Ex Hs H) (r : RpAll X.K Hs vs ds) (hp : H p = none) : Q (.ref p) (upd H p (.lst vs)) :=
  h _ _ (Step.new e hp) _ (.inl (.lst (sq_of upd_same) (RpAll.ex (Ex.new (sub_none e hp)) r)))
def xTup (fs : DEnv → Res (List D)) : DEnv → Res D := fun ρ => (fs ρ).bind mkT
def xLst (fs : DEnv → Res (List D)) : DEnv → Res D := fun ρ => (fs ρ).bind mkL
theorem de_tup {x1 : Nat} (h : DA X W false es fs) : DE X W b (.Tuple es x1 pos) (xTup fs) := by
  obtain ⟨t, p, q⟩ := h.ex
  refine ⟨tTup t, pe_tup p, fun Hs0 H0 ρ σ Hs H Q e h => ?_⟩
  refine q _ _ ρ σ Hs H _ e (h.bind.mono fun xs Hs1 H1 s1 h1 vs rv => ?_)
  refine post_mk h1 fun hz h1 => ⟨?_, fun p hp => mkT_post h1 s1.sub rv.rp hp⟩
  rw [RpAll.len rv.rp]
  exact small_line hz
theorem de_lst (h : DA X W false es fs) : DE X W b (.List es pos) (xLst fs) := by
  obtain ⟨t, p, q⟩ := h.ex
  refine ⟨tLst t, pe_lst p, fun Hs0 H0 ρ σ Hs H Q e h => ?_⟩
  refine q _ _ ρ σ Hs H _ e (h.bind.mono fun xs Hs1 H1 s1 h1 vs rv => ?_)
  refine post_mk h1 fun hz h1 => ⟨?_, fun p hp => mkL_post h1 s1.sub rv.rp hp⟩
  rw [RpAll.len rv.rp]
  exact small_line hz
end
end SB
end
end

section
set_option Elab.async false
set_option linter.all false
set_option maxRecDepth 100000
set_option maxHeartbeats 2000000
noncomputable section
namespace SB
open PySem PySem.Spec L2 Evl PyProof.Rows
section
variable {X : Cx} {W : WD}

/-! ### + -/
def rCatR (K : PySem.W.Frag) : R2 := fun x y H Q => ∃ l b xs zs, x = .ref l ∧ y = .ref b ∧ SqL K H l xs ∧ SqL K H b zs ∧ xs.length + zs.length ≤ sizeLine ∧ ∀ p, H p = none → Q (.ref p) (upd H p (.lst (xs ++ zs)))
theorem op_catR : OpR X (binaryOp .Add) (rCatR X.K) := by
  intro pins s σ H x y v u Q I rx ry h
  obtain ⟨l, b, xs, zs, rfl, rfl, h1, h2, hz, q⟩ := h
  cases rx
  cases ry
  obtain ⟨vals, r1, p1, _⟩ := I.list h1
  obtain ⟨vals2, r2, p2, _⟩ := I.list h2
  have n1 := r1.length
  have n2 := r2.length
  obtain ⟨⟨c1, d1, t1, s1⟩, g1, k1, m1, e1⟩ := p1.isList
  obtain ⟨⟨c2, d2, t2, s2⟩, g2, k2, m2, e2⟩ := p2.isList
  simp only at k1 e1 k2 e2
  subst k1 e1 k2 e2
  refine concat_meets ⟨_, g1, rfl⟩ ⟨_, g2, rfl⟩ noFill_list_add seq_list_add PySem.F.slot_list_add PySem.F.entry_list_add (PySem.F.args_list_add_2 _ _)
    (list_addW l b vals.toArray vals2.toArray m1 m2 d1 d2 s1 s2 (by rw [List.size_toArray, List.size_toArray]; omega)) ⟨g1, g2, ?_⟩
  have ea : vals.toArray ++ vals2.toArray = (vals ++ vals2).toArray := by simp
  rw [ea]
  exact ⟨.ref _, _, I.lnew (t' := s.toks) (r1.append r2) (by rw [List.length_append]; omega), rfl, q _ I.fresh⟩
def addD : D → D → Res D
  | .int i, .int j => .ok (.int (i + j))
  | .tuple xs, .tuple ys => if small (xs.length + ys.length) = true then .ok (.tuple (xs ++ ys)) else .bad
  | .list xs, .list ys => if small (xs.length + ys.length) = true then .ok (.list (xs ++ ys)) else .bad
  | .str x, .str y => if small (x.length + y.length) = true then .ok (.str (x ++ y)) else .bad
  | _, _ => .bad
theorem opd_add : OpD X (binaryOp .Add) addD := by
  refine ⟨_, op_add.or (op_catA.or (op_catR.or op_add_str)), fun W σ Hs H x y a c Q e rx ry h => ?_⟩
  cases a with
  | int i =>
    cases c with
    | int j => exact .inl ⟨i, j, rx.int, ry.int, h.now e _ (.of (.int _))⟩
    | _ => exact h.elim
  | tuple xs =>
    cases c with
    | tuple ys =>
      refine post_mk h fun hz h => ?_
      obtain ⟨p, vs, rfl, h1, r1⟩ := rx.tuple
      obtain ⟨q, ws, rfl, h2, r2⟩ := ry.tuple
      refine .inr (.inl ⟨p, q, vs, ws, rfl, rfl, .inl (ex_td e h1), .inl (ex_td e h2), ?_, ?_, ?_, ?_⟩)
      · rw [RpAll.len r1, RpAll.len r2]
        exact small_line hz
      · intro z
        subst z
        cases r1
        exact h.now e _ (.of (.tup h2 r2))
      · intro _ z
        subst z
        cases r2
        rw [List.append_nil] at h
        exact h.now e _ (.of (.tup h1 r1))
      · intro _ _ p hp
        exact mkT_post h e (RpAll.append r1 r2) hp
    | _ => exact h.elim
  | list xs =>
    cases c with
    | list ys =>
      refine post_mk h fun hz h => ?_
      obtain ⟨p, vs, rfl, h1, r1⟩ := rx.list e
      obtain ⟨q, ws, rfl, h2, r2⟩ := ry.list e
      refine .inr (.inr (.inl ⟨p, q, vs, ws, rfl, rfl, h1, h2, ?_, fun p hp => mkL_post h e (RpAll.append r1 r2) hp⟩))
      rw [RpAll.len r1, RpAll.len r2]
      exact small_line hz
    | _ => exact h.elim
  | str i =>
    cases c with
    | str j =>
      refine post_mk h fun hz h => ?_
      exact .inr (.inr (.inr ⟨i, j, rx.str, ry.str, small_line hz, h.now e _ (.of (.str _))⟩))
    | _ => exact h.elim
  | _ => cases c <;> exact h.elim
def subD : D → D → Res D
  | .int i, .int j => .ok (.int (i - j))
  | _, _ => .bad
theorem opd_int {F : Value → Value → Sem Value} {C : Int → Int → Prop} [∀ i j, Decidable (C i j)] {g : Int → Int → Int} {gd : D → D → Res D} (ho : OpR X F (rI C fun i j => .int (g i j)))
    (h1 : ∀ i j, gd (.int i) (.int j) = if C i j then .ok (.int (g i j)) else .bad) (h2 : ∀ a c, (∀ i j, ¬ (a = .int i ∧ c = .int j)) → gd a c = .bad) : OpD X F gd := by
  refine ⟨_, ho, fun W σ Hs H x y a c Q e rx ry h => ?_⟩
  cases a with
  | int i =>
    cases c with
    | int j =>
      rw [h1] at h
      exact post_mk h fun hc h => ⟨i, j, rx.int, ry.int, hc, h.now e _ (.of (.int _))⟩
    | _ => rw [h2 _ _ (by rintro _ _ ⟨_, z⟩; cases z)] at h; exact h.elim
  | _ => rw [h2 _ _ (by rintro _ _ ⟨z, _⟩; cases z)] at h; exact h.elim
theorem opd_sub : OpD X (binaryOp .Sub) subD := by
  refine ⟨_, op_sub, fun W σ Hs H x y a c Q e rx ry h => ?_⟩
  cases a with
  | int i =>
    cases c with
    | int j => exact ⟨i, j, rx.int, ry.int, h.now e _ (.of (.int _))⟩
    | _ => exact h.elim
  | _ => cases c <;> exact h.elim
instance (i j : Int) : Decidable (CMul i j) := by unfold CMul; exact inferInstance
instance (i j : Int) : Decidable (CDiv i j) := by unfold CDiv; exact inferInstance
def mulC (i j : Int) : Bool := decide (i.natAbs < 18446744073709551616) || decide (j.natAbs < 18446744073709551616)
theorem mulC_ok {i j : Int} (h : mulC i j = true) : CMul i j := by
  unfold mulC at h
  rw [Bool.or_eq_true] at h
  rcases h with h | h
  · have := of_decide_eq_true h
    exact .inl ⟨by omega, by omega⟩
  · have := of_decide_eq_true h
    exact .inr ⟨by omega, by omega⟩
/-- a tuple some times -/
theorem tuple_mul1 (l : Addr) (items : Array Value) (n : Nat) (dd : Option Addr) (sl : Array (Option Value)) (u : Tok) :
    Meets (Builtin.«tuple.__mul__» ⟨[.ref l, .int 1 u], []⟩) (fun _ R s => s.heap.get? l = some { cls := .type "tuple", dict := dd, data := .seq items n, slots := sl } ∧
      R (.ok (.ret (Value.ref l))) s) :=
  .of_wp fun prog w A R s h => by
    obtain ⟨hp, g, d, tk, os⟩ := s
    obtain ⟨hl, h⟩ := h
    have f1 := AutoSeq1.idx_int
    have c1 : (items.isEmpty || (1 : Int) == 1) = true := by cases items.isEmpty <;> rfl
    wp_walk using wpAny_loadPart' hl
    repeat (first
      | (refine wpAny_ite_false (decide_eq_false (by decide)) ?_; wp_walk using wpAny_loadPart' hl)
      | (refine wpAny_ite_true (decide_eq_true c1) ?_; wp_walk using wpAny_loadPart' hl))
    exact ⟨_, rfl, h⟩
def rRep1 (K : PySem.W.Frag) : R2 := fun x y H Q => ∃ l xs, x = .ref l ∧ y = .int 1 ∧ SqT K H l xs ∧ Q (.ref l) H
theorem op_rep1 : OpR X (binaryOp .Mult) (rRep1 X.K) := by
  intro pins s σ H x y v u Q I rx ry h
  obtain ⟨l, xs, rfl, rfl, hT, q⟩ := h
  cases rx
  obtain ⟨t, rfl⟩ := ry
  obtain ⟨its, r, ⟨⟨cls, dd, data, sl⟩, ho, hc, n, hd⟩, hs⟩ := I.tuple hT
  simp only at hc hd
  subst hc hd
  refine wpAny_binaryOp_repeat_ref (T := "tuple") (U := "int") (by decide) ⟨_, ho, rfl⟩ (fun s' => typeIs_int s' 1 t) noFill_tuple_mul F.fills_int_mul F.slot_int_rmul repeat_tuple F.slot_int_index.lookup
    (call_meets F.slot_int_rmul (typeIs_int s 1 t) F.entry_int_rmul (F.args_int_rmul_2 _ _) (int_rmul_tuple 1 t l its.toArray n dd sl)
      ⟨ho, rfl, ⟨_, ho, rfl⟩, call_meets F.slot_tuple_mul ⟨_, ho, rfl⟩ F.entry_tuple_mul (F.args_tuple_mul_2 _ _) (tuple_mul1 l its.toArray n dd sl t) ⟨ho, ?_⟩⟩)
  exact ⟨.ref l, H, I, rfl, q⟩
def repT (xs : List D) (k : Int) : Res D := if decide (2 ≤ k) && decide (k ≤ 1000) && decide (xs.length ≤ 1000) && !xs.isEmpty then .ok (.tuple (List.replicate k.toNat xs).flatten) else .bad
def mulD : D → D → Res D
  | .int i, .int j => if mulC i j = true then .ok (.int (i * j)) else .bad
  | .tuple xs, .int k => if decide (k = 1) = true then .ok (.tuple xs) else repT xs k
  | _, _ => .bad
theorem RpAll.rep {H : Hp} {vs : List V} {ds : List D} (r : RpAll X.K H vs ds) : ∀ n : Nat, RpAll X.K H (List.replicate n vs).flatten (List.replicate n ds).flatten
  | 0 => by simp; exact .nil
  | n + 1 => by
    rw [List.replicate_succ, List.replicate_succ, List.flatten_cons, List.flatten_cons]
    exact RpAll.append r (RpAll.rep r n)
theorem opd_mul : OpD X (binaryOp .Mult) mulD := by
  refine ⟨_, op_mul.or (op_repT.or op_rep1), fun W σ Hs H x y a c Q e rx ry h => ?_⟩
  cases a with
  | int i =>
    cases c with
    | int j =>
      refine post_mk h fun hc h => ?_
      exact .inl ⟨i, j, rx.int, ry.int, mulC_ok hc, h.now e _ (.of (.int _))⟩
    | _ => exact h.elim
  | tuple xs =>
    cases c with
    | int k =>
      obtain ⟨p, vs, rfl, h1, r1⟩ := rx.tuple
      change Post X.K false W σ Hs H Q (if decide (k = 1) = true then .ok (.tuple xs) else repT xs k) at h
      by_cases k1 : k = 1
      · subst k1
        rw [if_pos (by decide)] at h
        exact .inr (.inr ⟨p, vs, rfl, ry.int, .inl (ex_td e h1), h.now e _ (.of (.tup h1 r1))⟩)
      rw [if_neg (by simpa using k1)] at h
      refine post_mk h fun hc h => ?_
      simp only [Bool.and_eq_true, decide_eq_true_eq] at hc
      refine .inr (.inl ⟨p, k, vs, rfl, ry.int, .inl (ex_td e h1), ?_, hc.1.1.1, hc.1.1.2, ?_, fun q hq => mkT_post h e (RpAll.rep r1 _) hq⟩)
      · rintro rfl
        cases r1
        simp at hc
      · rw [RpAll.len r1]
        exact hc.1.2
    | _ => exact h.elim
  | _ => cases c <;> exact h.elim
/-- divisors that are served (a test that does not run down a great number) -/
def divC : Int → Bool
  | .ofNat n => Nat.ble 1 n && Nat.ble n 1000000000
  | .negSucc _ => false
theorem divC_ok {i j : Int} (h : divC j = true) : CDiv i j := by
  cases j with
  | ofNat n =>
    have h' : (Nat.ble 1 n && Nat.ble n 1000000000) = true := h
    rw [Bool.and_eq_true] at h'
    have h1 := Nat.le_of_ble_eq_true h'.1
    have h2 := Nat.le_of_ble_eq_true h'.2
    exact ⟨by simp only [Int.ofNat_eq_natCast]; omega, by simp only [Int.ofNat_eq_natCast]; omega⟩
  | negSucc n => cases h
def fdivD : D → D → Res D
  | .int i, .int j => if divC j = true then .ok (.int (i / j)) else .bad
  | _, _ => .bad
theorem opd_fdiv : OpD X (binaryOp .FloorDiv) fdivD := by
  refine ⟨_, op_fdiv, fun W σ Hs H x y a c Q e rx ry h => ?_⟩
  cases a with
  | int i =>
    cases c with
    | int j =>
      refine post_mk h fun hc h => ?_
      exact ⟨i, j, rx.int, ry.int, divC_ok hc, h.now e _ (.of (.int _))⟩
    | _ => exact h.elim
  | _ => cases c <;> exact h.elim
def modD : D → D → Res D
  | .int i, .int j => if 0 < j then .ok (.int (i % j)) else .bad
  | _, _ => .bad
theorem opd_mod : OpD X (binaryOp .Mod) modD := opd_int (C := fun _ j => 0 < j) op_mod (fun _ _ => rfl) (fun a c h => by
  cases a with
  | int i => cases c with
    | int j => exact absurd ⟨rfl, rfl⟩ (h i j)
    | _ => rfl
  | _ => cases c <;> rfl)

/-! ### comparisons -/
theorem opd_cmp {F : Value → Value → Sem Value} {g : Int → Int → Bool} {gd : D → D → Res D} (ho : OpR X F (rI0 fun i j => .bl (g i j)))
    (h1 : ∀ i j, gd (.int i) (.int j) = .ok (.bool (g i j))) (h2 : ∀ a c, (∀ i j, ¬ (a = .int i ∧ c = .int j)) → gd a c = .bad) : OpD X F gd := by
  refine ⟨_, ho, fun W σ Hs H x y a c Q e rx ry h => ?_⟩
  cases a with
  | int i =>
    cases c with
    | int j =>
      rw [h1] at h
      exact ⟨i, j, rx.int, ry.int, h.now e _ (.of (.bl _))⟩
    | _ => rw [h2 _ _ (by rintro _ _ ⟨_, z⟩; cases z)] at h; exact h.elim
  | _ => rw [h2 _ _ (by rintro _ _ ⟨z, _⟩; cases z)] at h; exact h.elim
def cmpD (g : Int → Int → Bool) : D → D → Res D
  | .int i, .int j => .ok (.bool (g i j))
  | _, _ => .bad
theorem cmpD_bad {g : Int → Int → Bool} (a c : D) (h : ∀ i j, ¬ (a = .int i ∧ c = .int j)) : cmpD g a c = .bad := by
  cases a with
  | int i => cases c with
    | int j => exact absurd ⟨rfl, rfl⟩ (h i j)
    | _ => rfl
  | _ => cases c <;> rfl
def ltD : D → D → Res D := cmpD fun i j => decide (i < j)
def leD : D → D → Res D := cmpD fun i j => decide (i ≤ j)
def gtD : D → D → Res D := cmpD fun i j => decide (j < i)
def geD : D → D → Res D := cmpD fun i j => decide (j ≤ i)
theorem opd_lt : OpD X (compareOp .Lt) ltD := opd_cmp op_lt (fun _ _ => rfl) cmpD_bad
theorem opd_le : OpD X (compareOp .LtE) leD := opd_cmp op_le (fun _ _ => rfl) cmpD_bad
theorem opd_gt : OpD X (compareOp .Gt) gtD := opd_cmp op_gt (fun _ _ => rfl) cmpD_bad
theorem opd_ge : OpD X (compareOp .GtE) geD := opd_cmp op_ge (fun _ _ => rfl) cmpD_bad
/-- == and != of any data; dp n d: d is at most n deep; eqF: by steps of depth -/
def allL {α : Type} (f : α → Bool) (xs : List α) : Bool := List.rec (motive := fun _ => Bool) true (fun a _ ih => cond (f a) ih false) xs
def anyL {α : Type} (f : α → Bool) (xs : List α) : Bool := List.rec (motive := fun _ => Bool) false (fun a _ ih => cond (f a) true ih) xs
def all2 {α : Type} (f : α → α → Bool) (xs : List α) : List α → Bool := List.rec (motive := fun _ => List α → Bool)
  (fun ys => List.rec (motive := fun _ => Bool) true (fun _ _ _ => false) ys)
  (fun a _ ih ys => List.rec (motive := fun _ => Bool) false (fun b r _ => cond (f a b) (ih r) false) ys) xs
def dpStep (f : D → Bool) : D → Bool
  | .list xs => allL f xs
  | .tuple xs => allL f xs
  | .dict _ => false
  | _ => true
def dpN (n : Nat) : D → Bool := Nat.rec (motive := fun _ => D → Bool) (fun d => dpStep (fun _ => false) d) (fun _ ih d => dpStep ih d) n
def eqStep (f : D → D → Bool) : D → D → Bool
  | .int i, .int j => decide (i = j)
  | .tuple xs, .tuple ys => all2 f xs ys
  | .list xs, .list ys => all2 f xs ys
  | .none, .none => true
  | .str x, .str y => x == y
  | .bool a, .bool b => a == b
  | .bool a, .int j => (if a then 1 else 0) == j
  | .int i, .bool b => i == (if b then 1 else 0)
  | _, _ => false
def eqN (n : Nat) : D → D → Bool := Nat.rec (motive := fun _ => D → D → Bool) (fun a c => eqStep (fun _ _ => false) a c) (fun _ ih a c => eqStep ih a c) n
theorem allL_eq {α : Type} (f : α → Bool) : ∀ xs : List α, allL f xs = xs.all f
  | [] => rfl
  | a :: r => by
    show cond (f a) (allL f r) false = (f a && r.all f)
    rw [allL_eq f r]
    cases f a <;> rfl
theorem anyL_eq {α : Type} (f : α → Bool) : ∀ xs : List α, anyL f xs = xs.any f
  | [] => rfl
  | a :: r => by
    show cond (f a) true (anyL f r) = (f a || r.any f)
    rw [anyL_eq f r]
    cases f a <;> rfl
theorem dpAll_le : ∀ (xs : List D) (n : Nat), xs.all (fun d => Nat.ble d.depth n) = true → PyData.depthAll xs ≤ n
  | [], _, _ => Nat.zero_le _
  | x :: xs, n, h => by
    simp only [List.all_cons, Bool.and_eq_true] at h
    have h1 := Nat.le_of_ble_eq_true h.1
    have h2 := dpAll_le xs n h.2
    simp only [PyData.depthAll]
    omega
theorem dpN_ok : ∀ (n : Nat) (d : D), dpN n d = true → d.depth ≤ n + 1
  | n, d, h => by
    have step : ∀ (f : D → Bool) (m : Nat), (∀ e, f e = true → e.depth ≤ m) → ∀ e, dpStep f e = true → e.depth ≤ m + 1 := by
      intro f m hf e he
      have lst : ∀ xs : List D, allL f xs = true → PyData.depthAll xs ≤ m := fun xs hx => by
        rw [allL_eq] at hx
        refine dpAll_le xs m ?_
        rw [List.all_eq_true] at hx ⊢
        exact fun z hz => Nat.ble_eq_true_of_le (hf z (hx z hz))
      cases e with
      | list xs => simp only [PyData.depth]; exact Nat.succ_le_succ (lst xs he)
      | tuple xs => simp only [PyData.depth]; exact Nat.succ_le_succ (lst xs he)
      | dict _ => cases he
      | _ => simp [PyData.depth]
    induction n generalizing d with
    | zero => exact step (fun _ => false) 0 (fun _ z => nomatch z) d h
    | succ n ih => exact step (dpN n) (n + 1) (fun e he => ih e he) d h
theorem all2_eqv (f : D → D → Bool) : ∀ (xs ys : List D), (∀ x, x ∈ xs → ∀ y, f x y = PyData.eqv x y) → all2 f xs ys = PyData.eqvAll xs ys
  | [], [], _ => rfl
  | [], _ :: _, _ => rfl
  | _ :: _, [], _ => rfl
  | x :: xs, y :: ys, h => by
    show cond (f x y) (all2 f xs ys) false = _
    rw [h x (by simp) y, all2_eqv f xs ys fun z hz => h z (by simp [hz])]
    simp only [PyData.eqvAll]
    cases PyData.eqv x y <;> rfl
theorem eqN_ok : ∀ (n : Nat) (a c : D), dpN n a = true → eqN n a c = PyData.eqv a c := by
  have step : ∀ (f : D → D → Bool) (g : D → Bool), (∀ x, g x = true → ∀ y, f x y = PyData.eqv x y) → ∀ a c, dpStep g a = true → eqStep f a c = PyData.eqv a c := by
    intro f g hf a c ha
    have lst : ∀ xs ys : List D, allL g xs = true → all2 f xs ys = PyData.eqvAll xs ys := fun xs ys hx => by
      rw [allL_eq, List.all_eq_true] at hx
      exact all2_eqv f xs ys fun x hm y => hf x (hx x hm) y
    cases a with
    | list xs =>
      cases c with
      | list ys => simp only [PyData.eqv]; exact lst xs ys ha
      | _ => simp [eqStep, PyData.eqv]
    | tuple xs =>
      cases c with
      | tuple ys => simp only [PyData.eqv]; exact lst xs ys ha
      | _ => simp [eqStep, PyData.eqv]
    | int i =>
      cases c with
      | int j => simp only [eqStep, PyData.eqv]; rw [Bool.eq_iff_iff]; simp
      | _ => simp [eqStep, PyData.eqv]
    | dict _ => cases ha
    | _ => cases c <;> simp [eqStep, PyData.eqv]
  intro n
  induction n with
  | zero => exact fun a c h => step (fun _ _ => false) (fun _ => false) (fun _ z => nomatch z) a c h
  | succ n ih => exact fun a c h => step (eqN n) (dpN n) (fun x hx y => ih x y hx) a c h
def depOk (a : D) : Bool := dpN 30 a
def eqvD (a c : D) : Bool := eqN 30 a c
theorem eqvD_ok {a c : D} (h : depOk a = true) : eqvD a c = PyData.eqv a c := eqN_ok 30 a c h
def eqD (a c : D) : Res D := if depOk a = true then .ok (.bool (eqvD a c)) else .bad
def neD (a c : D) : Res D := if depOk a = true then .ok (.bool (!eqvD a c)) else .bad
def rEqP (K : PySem.W.Frag) : R2 := fun x y H Q => ∃ d e, Rp K H x d ∧ Rp K H y e ∧ depOk d = true ∧ Q (.bl (PyData.eqv d e)) H
def rNeP (K : PySem.W.Frag) : R2 := fun x y H Q => ∃ d e, Rp K H x d ∧ Rp K H y e ∧ depOk d = true ∧ Q (.bl (!PyData.eqv d e)) H
theorem min_dep {A : Around} {d e : D} (hu : A.units + 64 < cLine) (h : depOk d = true) : A.units + min d.depth e.depth < cLine := by
  have h1 : d.depth ≤ 31 := dpN_ok 30 d h
  have h2 : min d.depth e.depth ≤ d.depth := Nat.min_le_left _ _
  omega
theorem op_eqP (hu : X.A.units + 64 < cLine) : OpR X (compareOp .Eq) (rEqP X.K) := by
  intro pins s σ H x y v u Q I rx ry h
  obtain ⟨d, e, hd, he, h1, q⟩ := h
  obtain ⟨as, r1⟩ := Dp.reads I d x v (Rp.dp hd) rx
  obtain ⟨bs, r2⟩ := Dp.reads I e y u (Rp.dp he) ry
  exact SeqAt.eq_plain r1 r2 (Rp.plain hd) (Rp.plain he) (min_dep hu h1) ⟨.bl _, H, I, rfl, q⟩
theorem op_neP (hu : X.A.units + 64 < cLine) : OpR X (compareOp .NotEq) (rNeP X.K) := by
  intro pins s σ H x y v u Q I rx ry h
  obtain ⟨d, e, hd, he, h1, q⟩ := h
  obtain ⟨as, r1⟩ := Dp.reads I d x v (Rp.dp hd) rx
  obtain ⟨bs, r2⟩ := Dp.reads I e y u (Rp.dp he) ry
  exact SeqAt.ne_plain r1 r2 (Rp.plain hd) (Rp.plain he) (min_dep hu h1) ⟨.bl _, H, I, rfl, q⟩
theorem opd_eq {k : Nat} (hr : Room k X.A) : OpD X (compareOp .Eq) eqD := by
  refine ⟨_, op_eqP (by have := hr.un; omega), fun W σ Hs H x y a c Q e rx ry h => ?_⟩
  exact post_mk h fun hc h => ⟨a, c, rx.whole e, ry.whole e, hc, by rw [← eqvD_ok hc]; exact h.now e _ (.of (.bl _))⟩
theorem opd_ne {k : Nat} (hr : Room k X.A) : OpD X (compareOp .NotEq) neD := by
  refine ⟨_, op_neP (by have := hr.un; omega), fun W σ Hs H x y a c Q e rx ry h => ?_⟩
  exact post_mk h fun hc h => ⟨a, c, rx.whole e, ry.whole e, hc, by rw [← eqvD_ok hc]; exact h.now e _ (.of (.bl _))⟩
/-- in, not in of tuples and lists -/
def inD (a : D) : D → Res D
  | .list xs => if (depOk a && allL depOk xs) = true then .ok (.bool (anyL (fun z => eqvD z a) xs)) else .bad
  | .tuple xs => if (depOk a && allL depOk xs) = true then .ok (.bool (anyL (fun z => eqvD z a) xs)) else .bad
  | _ => .bad
def notInD (a : D) : D → Res D
  | .list xs => if (depOk a && allL depOk xs) = true then .ok (.bool (!anyL (fun z => eqvD z a) xs)) else .bad
  | .tuple xs => if (depOk a && allL depOk xs) = true then .ok (.bool (!anyL (fun z => eqvD z a) xs)) else .bad
  | _ => .bad
def rInP (K : PySem.W.Frag) (neg : Bool) : R2 := fun x y H Q => ∃ d e, Rp K H x d ∧ Rp K H y e ∧ depOk d = true ∧ ∃ ds, (e = .list ds ∨ e = .tuple ds) ∧ Q (.bl (if neg then !(ds.any fun z => PyData.eqv z d) else ds.any fun z => PyData.eqv z d)) H
theorem min_depA {A : Around} {d : D} {ds : List D} (hu : A.units + 65 < cLine) (h : depOk d = true) : A.units + 1 + min (PyData.depthAll ds) d.depth < cLine := by
  have h1 : d.depth ≤ 31 := dpN_ok 30 d h
  have h2 : min (PyData.depthAll ds) d.depth ≤ d.depth := Nat.min_le_right _ _
  omega
theorem op_inP (hu : X.A.units + 65 < cLine) : OpR X (compareOp .In) (rInP X.K false) := by
  intro pins s σ H x y v u Q I rx ry h
  obtain ⟨d, e, hd, he, h1, ds, hh, q⟩ := h
  obtain ⟨as, r1⟩ := Dp.reads I d x v (Rp.dp hd) rx
  obtain ⟨bs, r2⟩ := Dp.reads I e y u (Rp.dp he) ry
  have hp := Rp.plain he
  rcases hh with rfl | rfl
  · simp only [PyData.plain] at hp
    exact SeqAt.in_list_data r2 r1 hp (Rp.plain hd) (min_depA hu h1) ⟨.bl _, H, I, rfl, q⟩
  · simp only [PyData.plain] at hp
    exact SeqAt.in_tuple_data r2 r1 hp (Rp.plain hd) (min_depA hu h1) ⟨.bl _, H, I, rfl, q⟩
theorem op_notInP (hu : X.A.units + 65 < cLine) : OpR X (compareOp .NotIn) (rInP X.K true) := by
  intro pins s σ H x y v u Q I rx ry h
  obtain ⟨d, e, hd, he, h1, ds, hh, q⟩ := h
  obtain ⟨as, r1⟩ := Dp.reads I d x v (Rp.dp hd) rx
  obtain ⟨bs, r2⟩ := Dp.reads I e y u (Rp.dp he) ry
  have hp := Rp.plain he
  rcases hh with rfl | rfl
  · simp only [PyData.plain] at hp
    exact SeqAt.notIn_list_data r2 r1 hp (Rp.plain hd) (min_depA hu h1) ⟨.bl _, H, I, rfl, q⟩
  · simp only [PyData.plain] at hp
    exact SeqAt.notIn_tuple_data r2 r1 hp (Rp.plain hd) (min_depA hu h1) ⟨.bl _, H, I, rfl, q⟩
theorem anyL_eqv {a : D} {xs : List D} (h : (depOk a && allL depOk xs) = true) : (depOk a = true) ∧ anyL (fun z => eqvD z a) xs = xs.any fun z => PyData.eqv z a := by
  rw [Bool.and_eq_true, allL_eq, List.all_eq_true] at h
  refine ⟨h.1, ?_⟩
  rw [anyL_eq]
  have go : ∀ ys : List D, (∀ z, z ∈ ys → depOk z = true) → (ys.any fun z => eqvD z a) = ys.any fun z => PyData.eqv z a := by
    intro ys
    induction ys with
    | nil => intro _; rfl
    | cons y ys ih =>
      intro hy
      rw [List.any_cons, List.any_cons, eqvD_ok (hy y (by simp)), ih fun z hz => hy z (by simp [hz])]
  exact go xs h.2
theorem opd_in {k : Nat} (hr : Room k X.A) : OpD X (compareOp .In) inD := by
  refine ⟨_, op_inP (by have := hr.un; omega), fun W σ Hs H x y a c Q e rx ry h => ?_⟩
  cases c with
  | list xs => exact post_mk h fun hc h => ⟨a, _, rx.whole e, ry.whole e, (anyL_eqv hc).1, xs, .inl rfl, by rw [← (anyL_eqv hc).2]; exact h.now e _ (.of (.bl _))⟩
  | tuple xs => exact post_mk h fun hc h => ⟨a, _, rx.whole e, ry.whole e, (anyL_eqv hc).1, xs, .inr rfl, by rw [← (anyL_eqv hc).2]; exact h.now e _ (.of (.bl _))⟩
  | _ => exact h.elim
theorem opd_notIn {k : Nat} (hr : Room k X.A) : OpD X (compareOp .NotIn) notInD := by
  refine ⟨_, op_notInP (by have := hr.un; omega), fun W σ Hs H x y a c Q e rx ry h => ?_⟩
  cases c with
  | list xs => exact post_mk h fun hc h => ⟨a, _, rx.whole e, ry.whole e, (anyL_eqv hc).1, xs, .inl rfl, by rw [← (anyL_eqv hc).2]; exact h.now e _ (.of (.bl _))⟩
  | tuple xs => exact post_mk h fun hc h => ⟨a, _, rx.whole e, ry.whole e, (anyL_eqv hc).1, xs, .inr rfl, by rw [← (anyL_eqv hc).2]; exact h.now e _ (.of (.bl _))⟩
  | _ => exact h.elim
/-- is, is not: None, True, False on the right -/
def isNoneD : D → Bool
  | .none => true
  | _ => false
def isD (a : D) : D → Res D
  | .none => .ok (.bool (isNoneD a))
  | .bool k => match a with | .bool i => .ok (.bool (decide (i = k))) | _ => .bad
  | _ => .bad
def isNotD (a : D) : D → Res D
  | .none => .ok (.bool (!isNoneD a))
  | .bool k => match a with | .bool i => .ok (.bool (!decide (i = k))) | _ => .bad
  | _ => .bad
theorem non_iff {Hs H : Hp} {x : V} {a : D} (rx : Rep true X.K Hs H x a) : decide (x = .non) = isNoneD a := by
  rcases rx with h | ⟨_, p, ds, vs, rfl, rfl, _⟩
  · cases h <;> rfl
  · rfl
theorem opd_is : OpD X (compareOp .Is) isD := by
  refine ⟨_, op_isN.or op_isBl, fun W σ Hs H x y a c Q e rx ry h => ?_⟩
  cases c with
  | none => exact .inl ⟨ry.none, by rw [non_iff rx]; exact h.now e _ (.of (.bl _))⟩
  | bool k =>
    cases a with
    | bool i => exact .inr ⟨i, k, rx.bool, ry.bool, h.now e _ (.of (.bl _))⟩
    | _ => exact h.elim
  | _ => exact h.elim
theorem opd_isNot : OpD X (compareOp .IsNot) isNotD := by
  refine ⟨_, op_notN.or op_notBl, fun W σ Hs H x y a c Q e rx ry h => ?_⟩
  cases c with
  | none =>
    refine .inl ⟨ry.none, ?_⟩
    rw [non_iff rx]
    exact h.now e _ (.of (.bl _))
  | bool k =>
    cases a with
    | bool i => exact .inr ⟨i, k, rx.bool, ry.bool, h.now e _ (.of (.bl _))⟩
    | _ => exact h.elim
  | _ => exact h.elim

/-! ### items and slices -/
def ixD : D → D → Res D
  | .list xs, .int i => match atI xs i with | some d => .ok d | none => .bad
  | .tuple xs, .int i => match atI xs i with | some d => .ok d | none => .bad
  | .str x, .int i => if small x.length = true then (match atI x.cps.toList i with | some c => .ok (.str ⟨#[c]⟩) | none => .bad) else .bad
  | _, _ => .bad
theorem atI_rp {H : Hp} {vs : List V} {ds : List D} {i : Int} {d : D} (r : RpAll X.K H vs ds) (h : atI ds i = some d) : ∃ v, atI vs i = some v ∧ Rp X.K H v d := by
  unfold atI at h ⊢
  rw [RpAll.len r]
  cases e : ixN ds.length i with
  | none => rw [e] at h; cases h
  | some j =>
    rw [e] at h
    exact RpAll.get r h
theorem de_ix {a c : Expr} {fa fb : DEnv → Res D} {b : Bool} {pos : Pos} (ha : DE X W true a fa) (hb : DE X W true c fb) (hs : PlainIx c := by exact fun _ _ => rfl) : DE X W b (.Subscript a c pos) (xOp ixD fa fb) := by
  obtain ⟨ta, pa, ha⟩ := ha.ex
  obtain ⟨tb, pb, hb⟩ := hb.ex
  refine ⟨tOp (rIx X.K) ta tb, pe_ix ix_seq pa pb hs, fun Hs0 H0 ρ σ Hs H Q e h => op_read (F := fun _ _ => pure .none) ?_ ha hb e h⟩
  intro W σ Hs H x y a c Q e rx ry h
  cases c with
  | int i =>
    have := ry.int
    subst this
    cases a with
    | list xs =>
      obtain ⟨p, vs, rfl, h1, r1⟩ := rx.list e
      change Post X.K false W σ Hs H Q (match atI xs i with | some d => .ok d | none => .bad) at h
      cases q : atI xs i with
      | none => rw [q] at h; exact h.elim
      | some d =>
        rw [q] at h
        obtain ⟨v, h2, h3⟩ := atI_rp r1 q
        exact .inl ⟨p, vs, i, v, rfl, rfl, h1, h2, h.now e _ (.of h3)⟩
    | tuple xs =>
      obtain ⟨p, vs, rfl, h1, r1⟩ := rx.tuple
      change Post X.K false W σ Hs H Q (match atI xs i with | some d => .ok d | none => .bad) at h
      cases q : atI xs i with
      | none => rw [q] at h; exact h.elim
      | some d =>
        rw [q] at h
        obtain ⟨v, h2, h3⟩ := atI_rp r1 q
        exact .inr (.inl ⟨p, vs, i, v, rfl, rfl, .inl (ex_td e h1), h2, h.now e _ (.of h3)⟩)
    | str z =>
      have := rx.str
      subst this
      change Post X.K false W σ Hs H Q (if small z.length = true then (match atI z.cps.toList i with | some c => .ok (.str ⟨#[c]⟩) | none => .bad) else .bad) at h
      refine post_mk h fun hz h => ?_
      cases q : atI z.cps.toList i with
      | none => rw [q] at h; exact h.elim
      | some c =>
        rw [q] at h
        exact .inr (.inr ⟨z, i, c, rfl, rfl, small_line hz, q, h.now e _ (.of (.str _))⟩)
    | _ => exact h.elim
  | _ => cases a <;> exact h.elim
/-- the part of a list between two places -/
def cutD (xs : List D) (lo hi : Option Int) : List D := (xs.drop (HT.sIx xs.length 0 lo)).take (HT.sIx xs.length xs.length hi - HT.sIx xs.length 0 lo)
theorem cutD_rp {H : Hp} {vs : List V} {ds : List D} (r : RpAll X.K H vs ds) (lo hi : Option Int) : RpAll X.K H (cutV vs lo hi) (cutD ds lo hi) := by
  unfold cutV cutD
  rw [RpAll.len r]
  exact RpAll.take _ (RpAll.drop _ r)
theorem cutD_whole {ds : List D} {lo hi : Option Int} (h : HT.sIx ds.length 0 lo = 0 ∧ HT.sIx ds.length ds.length hi = ds.length) : cutD ds lo hi = ds := by
  unfold cutD
  rw [h.1, h.2]
  simp
def slD (lo hi : Option Int) : D → Res D
  | .list xs => .ok (.list (cutD xs lo hi))
  | .tuple xs => .ok (.tuple (cutD xs lo hi))
  | .str x => if small x.length = true then .ok (.str (cutS x lo hi)) else .bad
  | _ => .bad
structure DO (X : Cx) (W : WD) (e : Option Expr) (f : DEnv → Res (Option Int)) : Prop where
  ex : ∃ t : TO, PO X e t ∧ ∀ Hs0 H0 ρ σ Hs H Q, EnvOk X.K Hs0 H0 ρ σ Hs H → PostA W σ Hs H (fun o _ H' => Q o H') (f ρ) → t σ H Q
def xNoPart : DEnv → Res (Option Int) := fun _ => .ok none
def asI : D → Res (Option Int)
  | .int i => .ok (some i)
  | _ => .bad
def xPart (f : DEnv → Res D) : DEnv → Res (Option Int) := fun ρ => (f ρ).bind asI
theorem do_none : DO X W none xNoPart := ⟨tNoPart, po_none, fun Hs0 H0 ρ σ Hs H Q e h => h.now e.sub⟩
theorem do_some {e : Expr} {f : DEnv → Res D} (h : DE X W true e f) : DO X W (some e) (xPart f) := by
  obtain ⟨t, p, q⟩ := h.ex
  refine ⟨tPart t, po_some p, fun Hs0 H0 ρ σ Hs H Q e h => ?_⟩
  refine q _ _ ρ σ Hs H _ e (h.bind.mono fun x Hs1 H1 s1 h1 v rv => ?_)
  cases x with
  | int i => exact ⟨i, rv.int, h1.now s1.sub⟩
  | _ => exact h1.elim
def xSl (fa : DEnv → Res D) (fl fh : DEnv → Res (Option Int)) : DEnv → Res D := fun ρ => (fa ρ).bind fun x => (fl ρ).bind fun lo => (fh ρ).bind fun hi => slD lo hi x
theorem de_sl {a : Expr} {lo hi : Option Expr} {fa : DEnv → Res D} {fl fh : DEnv → Res (Option Int)} {b : Bool} {pos p2 : Pos} (ha : DE X W true a fa) (hl : DO X W lo fl) (hh : DO X W hi fh) : DE X W b (.Subscript a (.Slice lo hi none p2) pos) (xSl fa fl fh) := by
  obtain ⟨ta, pa, qa⟩ := ha.ex
  obtain ⟨tl, pl, ql⟩ := hl.ex
  obtain ⟨th, ph, qh⟩ := hh.ex
  refine ⟨tSl _ ta tl th, pe_slice (sl_list.or (sl_tupA.or sl_str)) pa pl ph, fun Hs0 H0 ρ σ Hs H Q e h => ?_⟩
  refine qa _ _ ρ σ Hs H _ e (h.bind.mono fun x Hs1 H1 s1 h1 v rv => ?_)
  refine ql _ _ ρ σ Hs1 H1 _ (e.step s1) (h1.bind.mono fun lo Hs2 H2 s2 h2 => ?_)
  refine qh _ _ ρ σ Hs2 H2 _ ((e.step s1).step s2) (h2.bind.mono fun hi Hs3 H3 s3 h3 => ?_)
  have rv := (rv.step s2).step s3
  have e3 := s3.sub
  cases x with
  | list xs =>
    obtain ⟨p, vs, rfl, q1, r1⟩ := rv.list e3
    exact .inl ⟨p, vs, rfl, q1, fun p hp => mkL_post h3 e3 (cutD_rp r1 lo hi) hp⟩
  | tuple xs =>
    obtain ⟨p, vs, rfl, q1, r1⟩ := rv.tuple
    refine .inr (.inl ⟨p, vs, rfl, .inl (ex_td e3 q1), fun hw => ?_, fun _ p hp => mkT_post h3 e3 (cutD_rp r1 lo hi) hp⟩)
    have h3' : Post X.K b W σ Hs3 H3 Q (.ok (.tuple (cutD xs lo hi))) := h3
    rw [cutD_whole (by rw [← RpAll.len r1]; exact hw)] at h3'
    exact h3'.now e3 _ (.of (.tup q1 r1))
  | str z =>
    have := rv.str
    subst this
    exact post_mk h3 fun hz h3 => .inr (.inr ⟨z, rfl, small_line hz, h3.now e3 _ (.of (.str _))⟩)
  | _ => exact h3.elim
end
end SB
end
end

section
set_option Elab.async false
set_option linter.all false
set_option maxRecDepth 100000
set_option maxHeartbeats 2000000
noncomputable section
namespace SB
open PySem PySem.Spec L2 Evl PyProof.Rows

/-! ### calls of built-ins -/
structure CallD (X : Cx) (f : Value) (g : List D → Res D) : Prop where
  ex : ∃ r : List V → Hp → VK → Prop, CallR X f r ∧ ∀ (W : WD) (σ : L2.St) (Hs H : Hp) (vs : List V) (ds : List D) (Q : VK), Ex Hs H → RpsAll true X.K Hs H vs ds → Post X.K false W σ Hs H Q (g ds) → r vs H Q
def xCall (g : List D → Res D) (fs : DEnv → Res (List D)) : DEnv → Res D := fun ρ => (fs ρ).bind g
section
variable {X : Cx} {W : WD} {b : Bool} {x : Str} {e : Expr} {es : List Expr} {p pos : Pos} {fs : DEnv → Res (List D)} {g : List D → Res D}
theorem de_callB {id : String} (hc : CallD X (.builtin id) g) (hg : Gl X x) (hm : X.mg x = none) (hv : bootBuiltins x = some (.builtin id)) (ha : DA X W true (e :: es) fs) (hn : x ≠ "__name__" := by decide) (hdb : (x == ("__debug__" : Str)) = false := by decide)
    (he : starEach (e :: es) X.env = (false, eval e X.env) :: starEach es X.env := by rfl) (hpl : (backTo pos (starEach es X.env)).any (·.1) = false := by rfl) : DE X W b (.Call (.Name x p) (e :: es) [] pos) (xCall g fs) := by
  obtain ⟨r, hr, q⟩ := hc.ex
  obtain ⟨t, pt, qa⟩ := ha.ex
  refine ⟨tCB r t, pe_callB hr hg hm hv pt hn hdb he hpl, fun Hs0 H0 ρ σ Hs H Q e h => ?_⟩
  have h' : Post X.K false W σ Hs H Q (xCall g fs ρ) := h.mono fun d Hs' H' _ k v rv => k v (.inl rv.rp)
  exact qa _ _ ρ σ Hs H _ e (h'.bind.mono fun ds Hs1 H1 s1 h1 vs rvs => q W σ Hs1 H1 vs ds Q s1.sub rvs h1)
theorem de_callTy {T : String} (hc : CallD X (.type T) g) (hg : Gl X x) (hm : X.mg x = none) (hv : bootBuiltins x = some (.type T)) (ha : DA X W true (e :: es) fs) (hn : x ≠ "__name__" := by decide) (hdb : (x == ("__debug__" : Str)) = false := by decide)
    (he : starEach (e :: es) X.env = (false, eval e X.env) :: starEach es X.env := by rfl) (hpl : (backTo pos (starEach es X.env)).any (·.1) = false := by rfl) : DE X W b (.Call (.Name x p) (e :: es) [] pos) (xCall g fs) := by
  obtain ⟨r, hr, q⟩ := hc.ex
  obtain ⟨t, pt, qa⟩ := ha.ex
  refine ⟨tCB r t, pe_callTy hr hg hm hv pt hn hdb he hpl, fun Hs0 H0 ρ σ Hs H Q e h => ?_⟩
  have h' : Post X.K false W σ Hs H Q (xCall g fs ρ) := h.mono fun d Hs' H' _ k v rv => k v (.inl rv.rp)
  exact qa _ _ ρ σ Hs H _ e (h'.bind.mono fun ds Hs1 H1 s1 h1 vs rvs => q W σ Hs1 H1 vs ds Q s1.sub rvs h1)
end
section
variable {X : Cx} {W : WD}
theorem rps1 {b : Bool} {Hs H : Hp} {vs : List V} {d : D} (h : RpsAll b X.K Hs H vs [d]) : ∃ v, vs = [v] ∧ Rep b X.K Hs H v d := by
  cases h with
  | cons h1 h2 => cases h2; exact ⟨_, rfl, h1⟩
theorem rps2 {b : Bool} {Hs H : Hp} {vs : List V} {d d' : D} (h : RpsAll b X.K Hs H vs [d, d']) : ∃ v v', vs = [v, v'] ∧ Rep b X.K Hs H v d ∧ Rep b X.K Hs H v' d' := by
  cases h with
  | cons h1 h2 =>
    obtain ⟨v', rfl, h3⟩ := rps1 h2
    exact ⟨_, v', rfl, h1, h3⟩
def on1 (g : D → Res D) : List D → Res D
  | [d] => g d
  | _ => .bad
def on2 (g : D → D → Res D) : List D → Res D
  | [d, d'] => g d d'
  | _ => .bad
theorem cd1 {f : Value} {g : D → Res D} {r : List V → Hp → VK → Prop} (hr : CallR X f r) (k : ∀ (W : WD) (σ : L2.St) (Hs H : Hp) (v : V) (d : D) (Q : VK), Ex Hs H → Rep true X.K Hs H v d → Post X.K false W σ Hs H Q (g d) → r [v] H Q) : CallD X f (on1 g) := by
  refine ⟨r, hr, fun W σ Hs H vs ds Q e q h => ?_⟩
  cases ds with
  | nil => exact False.elim h
  | cons d tl =>
    cases tl with
    | nil =>
      obtain ⟨v, rfl, rv⟩ := rps1 q
      exact k W σ Hs H v d Q e rv h
    | cons _ _ => exact False.elim h
theorem cd2 {f : Value} {g : D → D → Res D} {r : List V → Hp → VK → Prop} (hr : CallR X f r) (k : ∀ (W : WD) (σ : L2.St) (Hs H : Hp) (v v' : V) (d d' : D) (Q : VK), Ex Hs H → Rep true X.K Hs H v d → Rep true X.K Hs H v' d' → Post X.K false W σ Hs H Q (g d d') → r [v, v'] H Q) : CallD X f (on2 g) := by
  refine ⟨r, hr, fun W σ Hs H vs ds Q e q h => ?_⟩
  cases ds with
  | nil => exact False.elim h
  | cons d tl =>
    cases tl with
    | nil => exact False.elim h
    | cons d' tl =>
      cases tl with
      | nil =>
        obtain ⟨v, v', rfl, rv, rv'⟩ := rps2 q
        exact k W σ Hs H v v' d d' Q e rv rv' h
      | cons _ _ => exact False.elim h
def lenD : D → Res D
  | .tuple xs => .ok (.int xs.length)
  | .list xs => .ok (.int xs.length)
  | .str x => if small x.length = true then .ok (.int x.length) else .bad
  | _ => .bad
theorem cd_len : CallD X (.builtin "len") (on1 lenD) := by
  refine cd1 (call_len_seq.or call_len_str) fun W σ Hs H v d Q e rv h => ?_
  cases d with
  | tuple xs =>
    obtain ⟨p, ws, rfl, h1, r1⟩ := rv.tuple
    refine .inl ⟨p, ws, rfl, .inr (.inl (ex_td e h1)), ?_⟩
    rw [RpAll.len r1]
    exact h.now e _ (.of (.int _))
  | list xs =>
    obtain ⟨p, ws, rfl, h1, r1⟩ := rv.list e
    refine .inl ⟨p, ws, rfl, .inl h1, ?_⟩
    rw [RpAll.len r1]
    exact h.now e _ (.of (.int _))
  | str z =>
    have := rv.str
    subst this
    exact post_mk h fun hz h => .inr ⟨z, rfl, small_line hz, h.now e _ (.of (.int _))⟩
  | _ => exact h.elim
/-- tuple(x), list(x) -/
def tupleD : D → Res D
  | .tuple xs => .ok (.tuple xs)
  | .list xs => .ok (.tuple xs)
  | _ => .bad
def listD : D → Res D
  | .tuple xs => .ok (.list xs)
  | .list xs => .ok (.list xs)
  | _ => .bad
theorem cd_tuple : CallD X (.type "tuple") (on1 tupleD) := by
  refine cd1 call_tuple_of fun W σ Hs H v d Q e rv h => ?_
  cases d with
  | tuple xs =>
    obtain ⟨p, ws, rfl, h1, r1⟩ := rv.tuple
    exact ⟨p, ws, rfl, .inr ⟨.inl (ex_td e h1), h.now e _ (.of (.tup h1 r1))⟩⟩
  | list xs =>
    obtain ⟨p, ws, rfl, h1, r1⟩ := rv.list e
    exact ⟨p, ws, rfl, .inl ⟨h1, fun l hl => mkT_post h e r1 hl⟩⟩
  | _ => exact h.elim
theorem cd_list : CallD X (.type "list") (on1 listD) := by
  refine cd1 call_list_of fun W σ Hs H v d Q e rv h => ?_
  cases d with
  | tuple xs =>
    obtain ⟨p, ws, rfl, h1, r1⟩ := rv.tuple
    exact ⟨p, ws, rfl, .inr (.inl (ex_td e h1)), fun l hl => mkL_post h e r1 hl⟩
  | list xs =>
    obtain ⟨p, ws, rfl, h1, r1⟩ := rv.list e
    exact ⟨p, ws, rfl, .inl h1, fun l hl => mkL_post h e r1 hl⟩
  | _ => exact h.elim
/-- the ints of a list of data -/
def intsOf : List D → Option (List Int)
  | [] => some []
  | .int i :: r => (intsOf r).map (i :: ·)
  | _ => none
theorem intsOf_map (ns : List Int) : intsOf (ns.map .int) = some ns := by
  induction ns with
  | nil => rfl
  | cons n r ih => simp [intsOf, ih]
theorem intsOf_rp {H : Hp} : ∀ {vs : List V} {ds : List D} {ns : List Int}, RpAll X.K H vs ds → intsOf ds = some ns → vs = ns.map V.int
  | _, _, ns, .nil, e => by cases e; rfl
  | _, _, ns, .cons (ds := ds) h r, e => by
    cases h with
    | int i =>
      simp only [intsOf] at e
      cases q : intsOf ds with
      | none => rw [q] at e; cases e
      | some ms =>
        rw [q] at e
        cases e
        rw [intsOf_rp r q]
        rfl
    | _ => cases e
def sumD : D → Res D
  | .tuple xs => match intsOf xs with | some ns => .ok (.int ns.sum) | none => .bad
  | .list xs => match intsOf xs with | some ns => .ok (.int ns.sum) | none => .bad
  | _ => .bad
def rSumT (K : PySem.W.Frag) : List V → Hp → VK → Prop := fun vs H Q => ∃ (a : Addr) (ns : List Int), vs = [V.ref a] ∧ SqT K H a (ns.map V.int) ∧ Q (.int ns.sum) H
theorem cr_sumT (hc : X.calm = true) : CallR X (.builtin "sum") (rSumT X.K) := by
  intro pins s σ H vs us Q I r h
  obtain ⟨a, ns, rfl, hs, q⟩ := h
  obtain ⟨its, rv, hl, _⟩ := I.tuple hs
  rw [Vals.ref1 r]
  have hi := rv.ints
  obtain ⟨xs, hx⟩ := hi.allInts.items
  have hn : numsOf its.toArray.toList = ns := by rw [show its.toArray.toList = its from rfl, hi.numsOf]
  rw [hx] at hl hn
  rw [nums_intItems] at hn
  refine PySem.W.ktm_sumG (I.ok.hd hc) hl fun h' tk t' hk => ?_
  rw [PySem.preSum_eq, List.take_of_length_le (by simp), hn]
  exact ⟨.int _, H, I.kept hk, ⟨_, rfl⟩, q⟩
theorem cd_sum (hc : X.calm = true) : CallD X (.builtin "sum") (on1 sumD) := by
  refine cd1 ((cr_sum hc).or (cr_sumT hc)) fun W σ Hs H v d Q e rv h => ?_
  cases d with
  | tuple xs =>
    obtain ⟨p, ws, rfl, h1, r1⟩ := rv.tuple
    change Post X.K false W σ Hs H Q (match intsOf xs with | some ns => .ok (.int ns.sum) | none => .bad) at h
    cases q : intsOf xs with
    | none => rw [q] at h; exact h.elim
    | some ns =>
      rw [q] at h
      have := intsOf_rp r1 q
      subst this
      exact .inr ⟨p, ns, rfl, .inl (ex_td e h1), h.now e _ (.of (.int _))⟩
  | list xs =>
    obtain ⟨p, ws, rfl, h1, r1⟩ := rv.list e
    change Post X.K false W σ Hs H Q (match intsOf xs with | some ns => .ok (.int ns.sum) | none => .bad) at h
    cases q : intsOf xs with
    | none => rw [q] at h; exact h.elim
    | some ns =>
      rw [q] at h
      have := intsOf_rp r1 q
      subst this
      exact .inl ⟨p, ns, rfl, h1, h.now e _ (.of (.int _))⟩
  | _ => exact h.elim
end
end SB
end
end

section
set_option Elab.async false
set_option linter.all false
set_option maxRecDepth 100000
set_option maxHeartbeats 2000000
noncomputable section
namespace SB
open PySem PySem.Spec L2 Evl PyProof.Rows

/-! ### what is walked -/
/-- the iterator J gives the items, as long as the shared things stand (b: all things) -/
def Walked (K : PySem.W.Frag) (b : Bool) (items : List D) (Hs1 H1 : Hp) (J : It) : Prop :=
  ∃ G Y, Walk J items.length G Y ∧ (∀ H', Ex Hs1 H' → (b = true → Ex H1 H') → G H') ∧
    ∀ (i : Nat) (x : V) (Hs' H' H'' : Hp), Ex Hs1 Hs' → Ex Hs' H' → i < items.length → Y i H' x H'' → ∃ Hs'', Step Hs' H' Hs'' H'' ∧ ∃ d, items[i]? = some d ∧ Rp K Hs'' x d
structure DI (X : Cx) (W : WD) (b : Bool) (tg iter : Expr) (f : DEnv → Res (List D)) : Prop where
  ex : ∃ wi : TI, PI X tg iter wi ∧ ∀ Hs0 H0 ρ σ Hs H R, EnvOk X.K Hs0 H0 ρ σ Hs H → PostA W σ Hs H (fun items Hs1 H1 => ∀ J, Walked X.K b items Hs1 H1 J → R J H1) (f ρ) → wi σ H R
section
variable {X : Cx} {W : WD} {b : Bool} {tg : Expr}
theorem pi_or {iter : Expr} {w1 w2 : TI} (h1 : PI X tg iter w1) (h2 : PI X tg iter w2) : PI X tg iter (fun σ H R => w1 σ H R ∨ w2 σ H R) :=
  ⟨fun pins s σ H R I h => h.elim (fun h => h1.run pins s σ H R I h) fun h => h2.run pins s σ H R I h⟩
theorem walked_at {items : List D} {Hs1 H1 : Hp} {J : It} {G : Hp → Prop} {xs : List V} (r : RpAll X.K Hs1 xs items) (w : Walk J xs.length G (YAt xs)) (g : ∀ H', Ex Hs1 H' → (b = true → Ex H1 H') → G H') : Walked X.K b items Hs1 H1 J := by
  refine ⟨G, YAt xs, by rw [← RpAll.len r]; exact w, g, fun i x Hs' H' H'' e1 e2 hi y => ?_⟩
  obtain ⟨rfl, hx⟩ := y
  obtain ⟨d, h1, h2⟩ := RpAll.getV r hx
  exact ⟨Hs', Step.refl e2, d, h1, Rp.ex e1 h2⟩
/-- the items of a list, a tuple, a text -/
def itemsD : D → Res (List D)
  | .list xs => .ok xs
  | .tuple xs => .ok xs
  | .str x => .ok (x.cps.toList.map fun c => .str ⟨#[c]⟩)
  | _ => .bad
def xItems (f : DEnv → Res D) : DEnv → Res (List D) := fun ρ => (f ρ).bind itemsD
theorem rep_list_g {Hs H : Hp} {v : V} {ds : List D} (e : Ex Hs H) (h : Rep b X.K Hs H v (.list ds)) : ∃ a vs, v = .ref a ∧ SqL X.K H a vs ∧ RpAll X.K Hs vs ds ∧ ∀ H', Ex Hs H' → (b = true → Ex H H') → SqL X.K H' a vs := by
  rcases h with h | ⟨hb, a, es, vs, rfl, q, h1, h2⟩
  · cases h with
    | lst h1 h2 => exact ⟨_, _, rfl, ex_l e h1, h2, fun H' x _ => ex_l x h1⟩
  · cases q
    exact ⟨a, vs, rfl, sq_of h1, h2, fun H' _ y => sq_of (y hb _ _ h1)⟩
theorem walked_str {x : Str} {Hs1 H1 : Hp} : Walked X.K b (x.cps.toList.map fun c => (PyData.str ⟨#[c]⟩ : D)) Hs1 H1 (Its x) := by
  have e0 : (x.cps.toList.map fun c => (PyData.str ⟨#[c]⟩ : D)).length = x.cps.size := by simp
  have w := walk_str (z := x)
  rw [← e0] at w
  refine ⟨_, _, w, fun _ _ _ => trivial, fun i y Hs' H' H'' e1 e2 hi yy => ?_⟩
  obtain ⟨rfl, c, hc, rfl⟩ := yy
  exact ⟨Hs', Step.refl e2, .str ⟨#[c]⟩, by simp [hc], .str _⟩
theorem di_seq {iter : Expr} {f : DEnv → Res D} (h : DE X W b iter f) : DI X W b tg iter (xItems f) := by
  obtain ⟨t, p, q⟩ := h.ex
  refine ⟨_, pi_or (pi_list p) (pi_or (pi_tup p) (pi_str p)), fun Hs0 H0 ρ σ Hs H R e h => ?_⟩
  have hb := h.bind
  cases hf : f ρ with
  | bad => rw [hf] at hb; exact hb.elim
  | exc c =>
    rw [hf] at hb
    refine .inl (q _ _ ρ σ Hs H _ e ?_)
    rw [hf]
    exact hb
  | ok d =>
    rw [hf] at hb
    cases d with
    | list xs =>
      refine .inl (q _ _ ρ σ Hs H _ e ?_)
      rw [hf]
      intro Hs1 H1 s1 v rv
      have k := (hb Hs1 H1 s1).now s1.sub
      obtain ⟨p, vs, rfl, h1, r1, g⟩ := rep_list_g s1.sub rv
      exact ⟨p, rfl, ⟨vs, h1⟩, k _ (walked_at (X := X) r1 walk_list fun H' a c => g H' a c)⟩
    | tuple xs =>
      refine .inr (.inl (q _ _ ρ σ Hs H _ e ?_))
      rw [hf]
      intro Hs1 H1 s1 v rv
      have k := (hb Hs1 H1 s1).now s1.sub
      obtain ⟨p, vs, rfl, h1, r1⟩ := rv.tuple
      exact ⟨p, rfl, ⟨vs, .inl (ex_td s1.sub h1)⟩, k _ (walked_at r1 walk_tup fun H' a c => .inl (ex_td a h1))⟩
    | str x =>
      refine .inr (.inr (q _ _ ρ σ Hs H _ e ?_))
      rw [hf]
      intro Hs1 H1 s1 v rv
      have k := (hb Hs1 H1 s1).now s1.sub
      have := rv.str
      subst this
      exact ⟨x, rfl, k _ walked_str⟩
    | _ => exact ((hb Hs H (Step.refl e.sub)) : False).elim
/-! ranges -/
def big : Int → Bool
  | .ofNat n => Nat.ble n 1000000000000
  | .negSucc n => Nat.ble n 1000000000000
theorem big_ok {i : Int} (h : big i = true) : -(2 ^ 62) ≤ i ∧ i < 2 ^ 62 := by
  cases i with
  | ofNat n =>
    have h1 : n ≤ 1000000000000 := Nat.le_of_ble_eq_true h
    exact ⟨by simp only [Int.ofNat_eq_natCast]; omega, by simp only [Int.ofNat_eq_natCast]; omega⟩
  | negSucc n =>
    have h1 : n ≤ 1000000000000 := Nat.le_of_ble_eq_true h
    exact ⟨by omega, by omega⟩
/-- lo, lo + 1, .. (n of them); by steps of c -/
def upFrom (lo : Int) (n : Nat) : List D := (List.range n).map fun (i : Nat) => (PyData.int (lo + (i : Int)) : D)
def stepFrom (lo c : Int) (n : Nat) : List D := (List.range n).map fun (i : Nat) => (PyData.int (lo + (i : Int) * c) : D)
theorem walked_fn {items : List D} {Hs1 H1 : Hp} {J : It} {n : Nat} {f : Nat → Int} (hn : items = (List.range n).map fun (i : Nat) => (PyData.int (f i) : D)) (w : Walk J n (fun _ => True) (YFn fun i => .int (f i))) : Walked X.K b items Hs1 H1 J := by
  subst hn
  refine ⟨_, _, by rw [List.length_map, List.length_range]; exact w, fun _ _ _ => trivial, fun i x Hs' H' H'' e1 e2 hi y => ?_⟩
  obtain ⟨rfl, rfl⟩ := y
  rw [List.length_map, List.length_range] at hi
  exact ⟨Hs', Step.refl e2, .int (f i), by simp [hi], .int _⟩
def range1D : List D → Res (List D)
  | [.int n] => if big n = true then .ok (upFrom 0 n.toNat) else .bad
  | _ => .bad
def range2D : List D → Res (List D)
  | [.int i, .int j] => if (big i && big j) = true then .ok (upFrom i (j - i).toNat) else .bad
  | _ => .bad
def xIt (g : List D → Res (List D)) (fs : DEnv → Res (List D)) : DEnv → Res (List D) := fun ρ => (fs ρ).bind g
variable {fs : DEnv → Res (List D)} {p pos : Pos}
theorem di_range1 {a : Expr} (hg : Gl X "range") (hm : X.mg "range" = none) (ha : DA X W true [a] fs) (hs : starEach [a] X.env = [(false, eval a X.env)] := by rfl) : DI X W b tg (.Call (.Name "range" p) [a] [] pos) (xIt range1D fs) := by
  obtain ⟨t, pt, q⟩ := ha.ex
  refine ⟨_, pi_range1 hg hm pt hs, fun Hs0 H0 ρ σ Hs H R e h => ?_⟩
  refine q _ _ ρ σ Hs H _ e (h.bind.mono fun ds Hs1 H1 s1 h1 vs rv => ?_)
  match ds, rv, h1 with
  | [.int n], rv, h1 =>
    obtain ⟨v, rfl, r⟩ := rps1 rv
    have := r.int
    subst this
    refine post_mk h1 fun hb h1 => ⟨n, rfl, (big_ok hb).1, (big_ok hb).2, h1.now s1.sub _ (walked_fn rfl walk_range)⟩
theorem di_range2 {a c : Expr} (hg : Gl X "range") (hm : X.mg "range" = none) (ha : DA X W true [a, c] fs) (hs : starEach [a, c] X.env = [(false, eval a X.env), (false, eval c X.env)] := by rfl) (hs2 : starEach [c] X.env = [(false, eval c X.env)] := by rfl) :
    DI X W b tg (.Call (.Name "range" p) [a, c] [] pos) (xIt range2D fs) := by
  obtain ⟨t, pt, q⟩ := ha.ex
  refine ⟨_, pi_range2 hg hm pt hs hs2, fun Hs0 H0 ρ σ Hs H R e h => ?_⟩
  refine q _ _ ρ σ Hs H _ e (h.bind.mono fun ds Hs1 H1 s1 h1 vs rv => ?_)
  match ds, rv, h1 with
  | [.int i, .int j], rv, h1 =>
    obtain ⟨v, v', rfl, r, r'⟩ := rps2 rv
    have := r.int
    subst this
    have := r'.int
    subst this
    refine post_mk h1 fun hb h1 => ?_
    rw [Bool.and_eq_true] at hb
    exact ⟨i, j, rfl, ⟨(big_ok hb.1).1, (big_ok hb.1).2, (big_ok hb.2).1, (big_ok hb.2).2⟩, h1.now s1.sub _ (walked_fn rfl walk_range)⟩
/-! pairs: enumerate, zip -/
theorem walked_pair {items : List D} {Hs1 H1 : Hp} {J : It} {G : Hp → Prop} {n : Nat} {xs ys : Nat → Option V} (hn : n = items.length) (w : Walk J n G (YPair xs ys)) (g : ∀ H', Ex Hs1 H' → (b = true → Ex H1 H') → G H')
    (hi : ∀ i x y, i < n → xs i = some x → ys i = some y → ∃ d e, items[i]? = some (.tuple [d, e]) ∧ Rp X.K Hs1 x d ∧ Rp X.K Hs1 y e) : Walked X.K b items Hs1 H1 J := by
  subst hn
  refine ⟨G, _, w, g, fun i v Hs' H' H'' e1 e2 h y => ?_⟩
  obtain ⟨T, x, y, rfl, hT, rfl, h1, h2⟩ := y
  obtain ⟨d, e, h3, h4, h5⟩ := hi i x y h h1 h2
  refine ⟨_, Step.new e2 hT, _, h3, .tup (tat_of upd_same) (.cons ?_ (.cons ?_ .nil))⟩
  · exact Rp.ex (e1.trans (Ex.new (sub_none e2 hT))) h4
  · exact Rp.ex (e1.trans (Ex.new (sub_none e2 hT))) h5
def enumFrom (k : Int) : List D → List D
  | [] => []
  | d :: r => .tuple [.int k, d] :: enumFrom (k + 1) r
theorem enumFrom_len : ∀ (k : Int) (ds : List D), (enumFrom k ds).length = ds.length
  | _, [] => rfl
  | k, d :: r => by simp [enumFrom, enumFrom_len (k + 1) r]
theorem enumFrom_get : ∀ (k : Int) (ds : List D) (i : Nat) (d : D), ds[i]? = some d → (enumFrom k ds)[i]? = some (.tuple [.int (k + (i : Int)), d])
  | _, [], i, d, h => by simp at h
  | k, d' :: r, 0, d, h => by
    simp at h
    subst h
    simp [enumFrom]
  | k, d' :: r, i + 1, d, h => by
    simp only [List.getElem?_cons_succ] at h
    simp only [enumFrom, List.getElem?_cons_succ]
    rw [enumFrom_get (k + 1) r i d h]
    have : k + 1 + (i : Int) = k + ((i + 1 : Nat) : Int) := by omega
    rw [this]
/-! enumerate(tuple): the tuple's own iterator within an enumerate object -/
def IteT (K : PySem.W.Frag) (tp : Addr) : It where
  go := fun k H => ∃ (items : List V) (v : V), SqT K H tp items ∧ items[k]? = some v
  yld := fun k H v H' => ∃ pr y, v = .ref pr ∧ H pr = none ∧ H' = upd H pr (.tup [.int (k : Nat), y]) ∧ ∀ items, SqT K H tp items → items[k]? = some y
  stop := fun k H => ∃ items : List V, SqT K H tp items ∧ items.length ≤ k
theorem enumT_end {prog : Program} {w : World} {A : Around} {E : Value → Shared → Prop} {s : Shared} {en it tp : Addr} {k : Nat} {vals : Array Value} {prev : Value} {Q : Option Value → Shared → Prop} (calm : A.handled = none)
    (hen : IsEnum s.heap en it k prev) (hit : s.heap.IsTupleIter it tp k) (htp : s.heap.IsTuple tp vals) (none : vals[k]? = none) (fin : ∀ h', Heap.ExtBut it s.heap h' → Q Option.none { s with heap := h' }) : wpAny (model prog w) A (pyNext (.ref en)) Q E s := by
  unfold pyNext
  have ty : s.TypeIs (.ref en) "enumerate" := ⟨_, hen, rfl⟩
  apply wpAny_bind
  apply wpAny_attempt
  apply wpAny_callSpecial?_slot (name := Str.ofString "__next__") ty F.slot_enumerate_next
  refine wpAny_call_entry F.slot_enumerate_next ty F.entry_enumerate_next ?_ (F.args_enumerate_next_1 _)
  show wpAny _ _ (field (.ref en) 2 >>= _) _ _ _
  refine wpAny_bind (wpAny_field hen rfl (x := .ref it) rfl (wpAny_bind (wpAny_nextOf_tuple_end calm hit htp none fun h' ex keep here => ?_)))
  obtain ⟨ob, g1, g2⟩ := here
  exact wpAny_bind (wpAny_isInstance (T := "StopIteration") (b := true) ⟨ob, g1, g2⟩ isSubtype_stop (wpAny_pure (fin _ keep)))
theorem two_of {b en it : Addr} (h : b ∈ [en, it]) : b = en ∨ b = it := by simpa using h
theorem turn_enumT {P : Program} {w : World} {K : PySem.W.Frag} {elts : List Expr} {n1 : Nat} {q1 : Pos} (tp en it : Addr) (d1 : tp ≠ it) (d2 : tp ≠ en) :
    Turn P w K (.Tuple elts n1 q1) (IteT K tp) [en, it] en (fun k h => (∃ prev, IsEnum h en it ((k : Nat) : Int) prev) ∧ h.IsTupleIter it tp k ∧ en ≠ it) where
  mem := List.mem_cons_self
  obj := by
    rintro k h ⟨⟨prev, g1⟩, ⟨ob, g2, g3, g4⟩, _⟩ b hb
    rcases two_of hb with rfl | rfl
    · exact ⟨_, g1, by intro v q; cases q⟩
    · exact ⟨ob, g2, by intro v q; rw [g4] at q; cases q⟩
  keep := by
    rintro k h h' ⟨⟨prev, g1⟩, g2, g3⟩ kp
    exact ⟨⟨prev, kp en (by simp) _ g1⟩, g2.at fun ob z => kp it (by simp) ob z, g3⟩
  item := by
    rintro X rfl rfl rfl calm k pins s σ H E I fp ⟨⟨prev, g1⟩, g2, g3⟩ ⟨items, v, sq, at_⟩
    obtain ⟨vals, rel, tup, _⟩ := I.tuple sq
    obtain ⟨u, u1, u2⟩ := rel.get at_
    have enOld : en < s.heap.objs.size := Heap.lt_size g1
    have itOld : it < s.heap.objs.size := by
      obtain ⟨ob, z, _⟩ := g2
      exact Heap.lt_size z
    have inn : k < vals.toArray.size := by simpa using (List.getElem?_eq_some_iff.mp u1).1
    refine wpAny_pyNext_enum_itemD (Draws.tuple (show X.A.in1.handled = none from I.ok.hd calm) it tp d1 vals.toArray) g1 ⟨g2, tup⟩ inn g3 (by simp [g3, Ne.symm d2]) fun y h1 tk got out after pr _ kp => ⟨_, rfl, ?_⟩
    have same : y = u := by
      have z : vals.toArray[k]? = some y := got
      have z2 : vals.toArray[k]? = some u := by simpa using u1
      exact Option.some.inj (z.symm.trans z2)
    subst same
    refine wpAny_letOwnedTupleGo_enum (s := { s with heap := h1, toks := tk + 1 }) out fun h2 en2 but => ?_
    have made : ObjOk X.prog X.w (upd H s.heap.objs.size (.tup [.int (k : Nat), v])) h2 s.heap.objs.size (.tup [.int (k : Nat), v]) := by
      refine ⟨by show 2 ≤ sizeLine; decide, [.int k tk, y], .cons ⟨_, rfl⟩ (.cons u2 .nil), _, (but.2 _ (Nat.ne_of_gt enOld)).trans pr, rfl, _, rfl⟩
    have J : Inv X pins σ (upd H s.heap.objs.size (.tup [.int (k : Nat), v])) { s with heap := h2, toks := tk + 1 } := by
      refine I.turnedNew (ch := [en, it]) (fun b ob nb z => ?_) fp (Nat.le_refl _) made
      exact (but.2 b fun z1 => nb (by simp [z1])).trans (kp b ob (fun z1 => nb (by simp [z1])) (fun z1 => nb (by simp [z1])) z)
    refine ⟨.ref s.heap.objs.size, _, J, rfl, ⟨_, v, rfl, I.hok.fresh (Nat.le_refl _), rfl, fun other z => ?_⟩, ⟨⟨y, ?_⟩, after.1.at fun ob z => (but.2 it (Ne.symm g3)).trans z, g3⟩, fun b hb => ?_⟩
    · rw [I.tuple_inj z sq]
      exact at_
    · rw [show ((k + 1 : Nat) : Int) = (k : Int) + 1 by omega]
      exact en2
    · have old : b < s.heap.objs.size := by rcases two_of hb with rfl | rfl <;> assumption
      rw [upd_ne (Nat.ne_of_lt old)]
      exact (fp b hb).1
  done := by
    rintro X rfl rfl rfl calm k pins s σ H E I fp ⟨⟨prev, g1⟩, g2, g3⟩ ⟨items, sq, past⟩
    obtain ⟨vals, rel, tup, _⟩ := I.tuple sq
    have ln := rel.length
    obtain ⟨f0, f1, _, f3, f4, f5⟩ := fp it (by simp)
    refine enumT_end (I.ok.hd calm) g1 g2 tup (by simp; omega) fun h1 kp => ⟨rfl, ?_⟩
    exact I.turned (t' := s.toks) (fun b ob nb z => kp b ob nb z) f0 f1 f3 f4 f5
  self := by
    rintro A k s Q E ⟨⟨prev, g1⟩, _⟩ h
    exact wpAny_pyIter_enum g1 h
theorem meets_enumT (tp : Addr) (vals : Array Value) :
    Meets (Builtin.«enumerate.__new__» ⟨[.type "enumerate", .ref tp], []⟩) (fun _ R s => s.heap.IsTuple tp vals ∧
      R (.ok (.ret (.ref (s.heap.push { cls := .type "tuple_iterator", data := .fields #[.ref tp, .int 0 0] }).objs.size)))
        { s with heap := (s.heap.push { cls := .type "tuple_iterator", data := .fields #[.ref tp, .int 0 0] }).push { cls := .type "enumerate", data := .fields #[.none, .bool false, .ref s.heap.objs.size, rawInt 0, .none, .none] } }) :=
  .of_wp fun prog w A R s h => by
    obtain ⟨hp, g, d, tk, os⟩ := s
    obtain ⟨ht, h⟩ := h
    have hsub := sub_enumerate
    wp_walk
    refine wpAny_stack_any fun st => wpAny_pure ?_
    split
    · rename_i c _ _ _ _ _
      cases (c == Value.type "enumerate") <;> (wp_walk using (wpAny_pyIter_tuple ht); exact ⟨_, rfl, h⟩)
    · wp_walk using (wpAny_pyIter_tuple ht)
      exact ⟨_, rfl, h⟩
end
end SB
end
end

section
set_option Elab.async false
set_option linter.all false
set_option maxRecDepth 100000
set_option maxHeartbeats 2000000
noncomputable section
namespace SB
open PySem PySem.Spec L2 Evl PyProof.Rows
section
variable {X : Cx} {W : WD} {b : Bool}
theorem call_enumT {prog : Program} {w : World} {A : Around} {E : Value → Shared → Prop} {s : Shared} {tp : Addr} {vals : Array Value} {Q : Value → Shared → Prop} (ht : s.heap.IsTuple tp vals)
    (fin : ∀ h', IsEnum h' (s.heap.objs.size + 1) s.heap.objs.size 0 .none → h'.IsTupleIter s.heap.objs.size tp 0 → (∀ b o, s.heap.get? b = some o → h'.get? b = some o) → Q (.ref (s.heap.objs.size + 1)) { s with heap := h' }) :
    wpAny (model prog w) A (call (.type "enumerate") [.ref tp]) Q E s := by
  apply callType_new F.called_enumerate (by decide) (F.typeCall_enumerate_1 _) (F.newCall_enumerate_1 _) (fun obj => F.args_object_init_2 obj _) F.entry_enumerate_new (meets_enumT tp vals)
  refine ⟨ht, ?_⟩
  generalize hit : ({ cls := .type "tuple_iterator", data := .fields #[.ref tp, .int 0 0] } : Obj) = oi
  generalize hen : ({ cls := .type "enumerate", data := .fields #[.none, .bool false, .ref s.heap.objs.size, rawInt 0, .none, .none] } : Obj) = oe
  have grown : (s.heap.push oi).objs.size = s.heap.objs.size + 1 := Heap.size_push ..
  have at2 : ((s.heap.push oi).push oe).get? (s.heap.objs.size + 1) = some oe := by
    have z := Heap.get?_push_size (s.heap.push oi) (o := oe) (by subst hen; rfl)
    rwa [grown] at z
  have at1 : ((s.heap.push oi).push oe).get? s.heap.objs.size = some oi := Heap.get?_push_of_some _ (Heap.get?_push_size _ (by subst hit; rfl))
  rw [grown]
  refine ⟨⟨_, at2, by subst hen; rfl⟩, fin _ ?_ ⟨_, at1, by subst hit; rfl, by subst hit; rfl⟩ fun b o z => Heap.get?_push_of_some _ (Heap.get?_push_of_some _ z)⟩
  show Heap.get? _ _ = some _
  rw [at2, ← hen]
theorem walk_enumT {K : PySem.W.Frag} {a : Addr} {xs : List V} : Walk (IteT K a) xs.length (fun H => SqT K H a xs) (YPair (fun i => some (.int (i : Nat))) (fun i => xs[i]?)) := by
  refine ⟨fun k H lt sq => ⟨xs, xs[k], sq, List.getElem?_eq_getElem lt⟩, fun H sq => ⟨xs, sq, Nat.le_refl _⟩, ?_⟩
  rintro k H v H' _ sq ⟨pr, y, rfl, z1, z2, z3⟩
  exact ⟨pr, .int (k : Nat), y, rfl, z1, z2, rfl, z3 xs sq⟩
/-- the pair's first and second thing are walked by the same rule for lists and tuples -/
def iEnumA (K : PySem.W.Frag) (ta : TA) : TI := fun σ H R => ta σ H fun vs H1 => ∃ a xs, vs = [.ref a] ∧ SqT K H1 a xs ∧ R (IteT K a) H1
theorem pi_enumT {e : Expr} {ta : TA} {p pos tpos : Pos} {elts : List Expr} {kk : Nat} (hg : Gl X "enumerate") (hm : X.mg "enumerate" = none) (ha : PA X [e] ta) (hs : starEach [e] X.env = [(false, eval e X.env)] := by rfl) :
    PI X (.Tuple elts kk tpos) (.Call (.Name "enumerate" p) [e] [] pos) (iEnumA X.K ta) := by
  constructor
  intro pins s σ H R I h
  refine Call_ (ld_blt I hg hm boot_enumerate ?_)
  refine PyProof.Rows.callWith_type1 (thn (ha.run pos pins s σ H _ I h) ?_) hs rfl
  rintro us s1 ⟨vs, H1, I1, rel, tp, xs, rfl, sq, q⟩
  cases rel with
  | cons r0 rest =>
    cases rest
    cases r0
    obtain ⟨vals, rv, tup, _⟩ := I1.tuple sq
    have young : tp < s1.heap.objs.size := tup.lt
    apply call_enumT tup
    intro h' en it kp
    apply wpAny_pyIter_enum en
    refine ⟨s1.heap.objs.size + 1, [s1.heap.objs.size + 1, s1.heap.objs.size], _, _, H1, rfl, I1.kept (t' := s1.toks) kp, turn_enumT tp _ _ (Nat.ne_of_lt young) (Nat.ne_of_lt (Nat.lt_succ_of_lt young)), ⟨⟨.none, en⟩, it, Nat.succ_ne_self _⟩, ?_, q⟩
    intro b hb
    have le : s1.heap.objs.size ≤ b := by
      rcases two_of hb with rfl | rfl
      · exact Nat.le_add_right _ _
      · exact Nat.le_refl _
    exact I1.fpOk le (I1.hok.fresh le)
def enumD : List D → Res (List D)
  | [.tuple xs] => .ok (enumFrom 0 xs)
  | [.list xs] => .ok (enumFrom 0 xs)
  | _ => .bad
variable {fs : DEnv → Res (List D)} {p pos tpos : Pos} {elts : List Expr} {kk : Nat}
theorem enum_items {Hs : Hp} {vs : List V} {ds : List D} (r : RpAll X.K Hs vs ds) : ∀ (i : Nat) (x y : V), i < vs.length → some (V.int (i : Nat)) = some x → vs[i]? = some y → ∃ d e, (enumFrom 0 ds)[i]? = some (.tuple [d, e]) ∧ Rp X.K Hs x d ∧ Rp X.K Hs y e := by
  intro i x y hi hx hy
  cases hx
  obtain ⟨d, h1, h2⟩ := RpAll.getV r hy
  refine ⟨_, d, enumFrom_get 0 ds i d h1, ?_, h2⟩
  rw [Int.zero_add]
  exact .int _
theorem di_enum {e : Expr} (hg : Gl X "enumerate") (hm : X.mg "enumerate" = none) (ha : DA X W b [e] fs) (hs : starEach [e] X.env = [(false, eval e X.env)] := by rfl) :
    DI X W b (.Tuple elts kk tpos) (.Call (.Name "enumerate" p) [e] [] pos) (xIt enumD fs) := by
  obtain ⟨t, pt, q⟩ := ha.ex
  refine ⟨_, pi_or (pi_enum hg hm pt hs) (pi_enumT hg hm pt hs), fun Hs0 H0 ρ σ Hs H R e h => ?_⟩
  have hb := h.bind
  cases hf : fs ρ with
  | bad => rw [hf] at hb; exact hb.elim
  | exc c =>
    rw [hf] at hb
    refine .inl (q _ _ ρ σ Hs H _ e ?_)
    rw [hf]
    exact hb
  | ok ds =>
    rw [hf] at hb
    match ds, hf, hb with
    | [.list xs], hf, hb =>
      refine .inl (q _ _ ρ σ Hs H _ e ?_)
      rw [hf]
      intro Hs1 H1 s1 vs rvs
      have k := (hb Hs1 H1 s1).now s1.sub
      obtain ⟨v, rfl, rv⟩ := rps1 rvs
      obtain ⟨p, ws, rfl, h1, r1, g⟩ := rep_list_g s1.sub rv
      refine ⟨p, ws, rfl, h1, k _ (walked_pair ?_ walk_enum (fun H' a c => g H' a c) (enum_items r1))⟩
      rw [enumFrom_len, RpAll.len r1]
    | [.tuple xs], hf, hb =>
      refine .inr (q _ _ ρ σ Hs H _ e ?_)
      rw [hf]
      intro Hs1 H1 s1 vs rvs
      have k := (hb Hs1 H1 s1).now s1.sub
      obtain ⟨v, rfl, rv⟩ := rps1 rvs
      obtain ⟨p, ws, rfl, h1, r1⟩ := rv.tuple
      refine ⟨p, ws, rfl, .inl (ex_td s1.sub h1), k _ (walked_pair ?_ walk_enumT (fun H' a c => .inl (ex_td a h1)) (enum_items r1))⟩
      rw [enumFrom_len, RpAll.len r1]
    | [], _, hb => exact ((hb Hs H (Step.refl e.sub)) : False).elim
    | [.none], _, hb => exact ((hb Hs H (Step.refl e.sub)) : False).elim
    | [.bool _], _, hb => exact ((hb Hs H (Step.refl e.sub)) : False).elim
    | [.int _], _, hb => exact ((hb Hs H (Step.refl e.sub)) : False).elim
    | [.str _], _, hb => exact ((hb Hs H (Step.refl e.sub)) : False).elim
    | [.dict _], _, hb => exact ((hb Hs H (Step.refl e.sub)) : False).elim
    | d1 :: d2 :: r, _, hb =>
      have z := hb Hs H (Step.refl e.sub)
      cases d1 <;> exact (z : False).elim
end
end SB
end
end

section
set_option Elab.async false
set_option linter.all false
set_option maxRecDepth 100000
set_option maxHeartbeats 2000000
noncomputable section
namespace SB
open PySem PySem.Spec L2 Evl PyProof.Rows

theorem wipe_wipe (σ : L2.St) (vs : List Nat) : wipe (wipe σ vs) vs = wipe σ vs := by
  apply List.ext_getElem?
  intro i
  by_cases h : i ∈ vs
  · have gone : ∀ (τ : L2.St) (ws : List Nat), i ∈ ws → (wipe τ ws)[i]? = if i < τ.length then some none else none := by
      intro τ ws
      induction ws with
      | nil => intro z; cases z
      | cons w ws ih =>
        intro z
        show ((wipe τ ws).set w none)[i]? = _
        rw [List.getElem?_set, wipe_length]
        by_cases e : w = i
        · simp [e]
        · rw [if_neg e]
          exact ih ((List.mem_cons.mp z).resolve_left (Ne.symm e))
    rw [gone _ vs h, gone _ vs h, wipe_length]
  · rw [wipe_get h]
/-! ### targets -/
theorem wipe_set {σ : L2.St} {i : Nat} {x : Option V} : ∀ {vs : List Nat}, i ∈ vs → wipe (σ.set i x) vs = wipe σ vs
  | v :: vs, h => by
    unfold wipe
    by_cases e : i ∈ vs
    · rw [wipe_set e]
    · have hv : v = i := by
        rcases List.mem_cons.mp h with z | z
        · exact z.symm
        · exact absurd z e
      subst hv
      have out : ∀ (ws : List Nat), v ∉ ws → wipe (σ.set v x) ws = (wipe σ ws).set v x := by
        intro ws
        induction ws with
        | nil => intro _; rfl
        | cons w ws ih =>
          intro hn
          have n1 : v ≠ w := fun z => hn (by simp [z])
          have n2 : v ∉ ws := fun z => hn (by simp [z])
          show (wipe (σ.set v x) ws).set w none = ((wipe σ ws).set w none).set v x
          rw [ih n2, List.set_comm _ _ n1]
      rw [out vs e, List.set_set]
abbrev GD := D → DEnv → Option DEnv
/-- the slots ts are stored -/
def OutOf (ts : List Nat) (σ σ' : L2.St) : Prop := ∀ vs : List Nat, (∀ i, i ∈ ts → i ∈ vs) → wipe σ' vs = wipe σ vs
structure DG (X : Cx) (tg : Expr) (ts : List Nat) (g : GD) : Prop where
  ex : ∃ t : TG, PG X tg t ∧ ∀ Hs0 H0 ρ σ Hs H v d ρ' Q, EnvOk X.K Hs0 H0 ρ σ Hs H → Rp X.K Hs v d → g d ρ = some ρ' → (∀ σ', OutOf ts σ σ' → EnvOk X.K Hs0 H0 ρ' σ' Hs H → Q σ' H) → t v σ H Q
structure DGs (X : Cx) (es : List Expr) (ts : List Nat) (g : List D → DEnv → Option DEnv) : Prop where
  ex : ∃ t : TGs, PGs X es t ∧ ∀ Hs0 H0 ρ σ Hs H vs ds ρ' Q, EnvOk X.K Hs0 H0 ρ σ Hs H → RpAll X.K Hs vs ds → g ds ρ = some ρ' → (∀ σ', OutOf ts σ σ' → EnvOk X.K Hs0 H0 ρ' σ' Hs H → Q σ' H) → t vs σ H Q
section
variable {X : Cx} {pos : Pos}
def yName (i : Nat) : GD := fun d ρ => some (st ρ i (some (.dat d)))
theorem dg_name (i : Nat) {x : Str} (hN : X.N.Nodup) (hi : X.N[i]? = some x := by rfl) (hx : Loc X.env.scope x := by first | exact Or.inl rfl | exact Or.inr rfl) (hf : X.fn x = true ∨ X.env.scope.names.lookup x = some .local := by first | exact .inl rfl | exact .inr rfl | assumption) : DG X (.Name x pos) [i] (yName i) := by
  refine ⟨gName i, pg_name hN hi hx hf, fun Hs0 H0 ρ σ Hs H v d ρ' Q e r h k => ?_⟩
  cases h
  rw [st_eq] at k
  exact k _ (fun vs hv => wipe_set (hv i (by simp))) (e.set r)
def yNil : List D → DEnv → Option DEnv := fun ds ρ => match ds with
  | [] => some ρ
  | _ => none
def yCons (g : GD) (gs : List D → DEnv → Option DEnv) : List D → DEnv → Option DEnv := fun ds ρ => match ds with
  | d :: r => (g d ρ).bind fun ρ' => gs r ρ'
  | [] => none
theorem dgs_nil : DGs X [] [] yNil := by
  refine ⟨gNil, pgs_nil, fun Hs0 H0 ρ σ Hs H vs ds ρ' Q e r h k => ?_⟩
  cases ds with
  | nil => cases r; cases h; exact ⟨rfl, k _ (fun _ _ => rfl) e⟩
  | cons _ _ => cases h
theorem dgs_cons {t : Expr} {es : List Expr} {ts us : List Nat} {g : GD} {gs : List D → DEnv → Option DEnv} (h1 : DG X t ts g) (h2 : DGs X es us gs) (he : (assignEach (t :: es) X.env).map (·.2) = assign t X.env :: (assignEach es X.env).map (·.2) := by rfl) : DGs X (t :: es) (ts ++ us) (yCons g gs) := by
  obtain ⟨u, p, q⟩ := h1.ex
  obtain ⟨u2, p2, q2⟩ := h2.ex
  refine ⟨gCons u u2, pgs_cons p p2 he, fun Hs0 H0 ρ σ Hs H vs ds ρ' Q e r h k => ?_⟩
  cases r with
  | nil => cases h
  | cons r1 r2 =>
    rename_i v vs d ds
    change ((g d ρ).bind fun ρ' => gs ds ρ') = some ρ' at h
    cases hg : g d ρ with
    | none => rw [hg] at h; cases h
    | some ρ1 =>
      rw [hg] at h
      refine ⟨v, vs, rfl, q _ _ ρ σ Hs H v d ρ1 _ e r1 hg fun σ1 o1 e1 => q2 _ _ ρ1 σ1 Hs H vs ds ρ' _ e1 r2 h fun σ2 o2 e2 => k σ2 (fun ws hw => ?_) e2⟩
      rw [o2 ws fun i hi => hw i (by simp [hi]), o1 ws fun i hi => hw i (by simp [hi])]
def yTup (n : Nat) (gs : List D → DEnv → Option DEnv) : GD := fun d ρ => match d with
  | .tuple ds => if ds.length = n then gs ds ρ else none
  | _ => none
theorem dg_tup {es : List Expr} {ts : List Nat} {k n : Nat} {gs : List D → DEnv → Option DEnv} (hc : X.calm = true) (h : DGs X es ts gs) (hn : (assignEach es X.env).length = n := by rfl) (hst : (assignEach es X.env).findIdx? (·.1) = none := by rfl) : DG X (.Tuple es k pos) ts (yTup n gs) := by
  obtain ⟨t, p, q⟩ := h.ex
  refine ⟨gTup X.K n t, pg_tup hc p hn hst, fun Hs0 H0 ρ σ Hs H v d ρ' Q e r h k => ?_⟩
  cases r with
  | tup h1 h2 =>
    rename_i a xs ds
    change (if ds.length = n then gs ds ρ else none) = some ρ' at h
    by_cases hl : ds.length = n
    · rw [if_pos hl] at h
      exact ⟨a, xs, rfl, .inl (ex_td e.sub h1), by rw [RpAll.len h2]; exact hl, q _ _ ρ σ Hs H xs ds ρ' Q e h2 h k⟩
    · rw [if_neg hl] at h
      cases h
  | _ => cases h
end

/-! ### list comprehensions -/
structure DTs (X : Cx) (ifs : List Expr) (f : DEnv → Res Bool) : Prop where
  ex : ∃ t : TT, PTs X ifs t ∧ ∀ Hs0 H0 ρ σ Hs H Q, EnvOk X.K Hs0 H0 ρ σ Hs H → PostA W0 σ Hs H (fun b _ H' => Q b H') (f ρ) → t σ H Q
def xYes : DEnv → Res Bool := fun _ => .ok true
theorem dts_nil {X : Cx} : DTs X [] xYes := ⟨tYes, pts_nil, fun Hs0 H0 ρ σ Hs H Q e h => h.now e.sub⟩
theorem dts_one {X : Cx} {c : Expr} {f : DEnv → Res Bool} (h : DT X W0 c f) : DTs X [c] f := by
  obtain ⟨t, p, q⟩ := h.ex
  exact ⟨t, pts_one p, q⟩
/-- the items of a comprehension -/
def lcGo (g : GD) (ft : DEnv → Res Bool) (fe : DEnv → Res D) (ρ : DEnv) : List D → Res (List D)
  | [] => .ok []
  | d :: r => match g d ρ with
    | none => .bad
    | some ρ1 => (ft ρ1).bind fun k => if k = true then (fe ρ1).bind fun y => (lcGo g ft fe ρ r).bind fun ys => .ok (y :: ys) else lcGo g ft fe ρ r
/-- no exception comes of a comprehension's block -/
def noExc {α : Type} : Res α → Res α
  | .exc _ => .bad
  | r => r
def xLc (fi : DEnv → Res (List D)) (g : GD) (ft : DEnv → Res Bool) (fe : DEnv → Res D) (vs : List Nat) : DEnv → Res D := fun ρ => (fi ρ).bind fun items => if small items.length = true then (noExc (lcGo g ft fe (kill ρ vs) items)).bind fun ys => .ok (.list ys) else .bad

section
variable {X : Cx} {W : WD} {b : Bool}
/-- the comprehension's state ahead of turn i: D holds what is made so far -/
def LcInv (K : PySem.W.Frag) (g : GD) (ft : DEnv → Res Bool) (fe : DEnv → Res D) (ρ : DEnv) (items ys : List D) (Hs1 H1 : Hp) (Dl : Addr) (i : Nat) (H' : Hp) : Prop :=
  ∃ Hs', Step Hs1 H1 Hs' H' ∧ Hs' Dl = none ∧ ∃ acc rest vs, H' Dl = some (.lst vs) ∧ RpAll K Hs' vs acc ∧ lcGo g ft fe ρ (items.drop i) = .ok rest ∧ ys = acc ++ rest ∧ acc.length ≤ i
theorem step_mut {Hs1 H1 Hs' H' : Hp} {p : Addr} {o : HO} (s : Step Hs1 H1 Hs' H') (h1 : H1 p = none) (h2 : Hs' p = none) : Step Hs1 H1 Hs' (upd H' p o) :=
  ⟨s.sh, Ex.mut s.wh h1, Ex.mut s.sub h2, s.away⟩
theorem lc_read {tg iter : Expr} {wi : TI} {gt : TG} {tt : TT} {te : TE} {fi : DEnv → Res (List D)} {g : GD} {ts vs : List Nat} {ft : DEnv → Res Bool} {fe : DEnv → Res D} {ρ : DEnv} {σ : L2.St} {Hs0 : Hp} {H0 : Hp0} {Hs H : Hp} {Q : VK}
    (qi : ∀ Hs0 H0 ρ σ Hs H R, EnvOk X.K Hs0 H0 ρ σ Hs H → PostA W σ Hs H (fun items Hs1 H1 => ∀ J, Walked X.K true items Hs1 H1 J → R J H1) (fi ρ) → wi σ H R)
    (qg : ∀ Hs0 H0 ρ σ Hs H v d ρ' Q, EnvOk X.K Hs0 H0 ρ σ Hs H → Rp X.K Hs v d → g d ρ = some ρ' → (∀ σ', OutOf ts σ σ' → EnvOk X.K Hs0 H0 ρ' σ' Hs H → Q σ' H) → gt v σ H Q)
    (qt : ∀ Hs0 H0 ρ σ Hs H Q, EnvOk X.K Hs0 H0 ρ σ Hs H → PostA W0 σ Hs H (fun b _ H' => Q b H') (ft ρ) → tt σ H Q)
    (qe : ∀ Hs0 H0 ρ σ Hs H Q, EnvOk X.K Hs0 H0 ρ σ Hs H → Post X.K false W0 σ Hs H Q (fe ρ) → te σ H Q)
    (hts : ∀ i, i ∈ ts → i ∈ vs) (e : EnvOk X.K Hs0 H0 ρ σ Hs H) (h : Post X.K b W σ Hs H Q (xLc fi g ft fe vs ρ)) : tLc wi gt tt te vs σ H Q := by
  refine qi _ _ ρ σ Hs H _ e (h.bind.mono fun items Hs1 H1 s1 h1 J wk => ?_)
  refine post_mk h1 fun hz h1 => ?_
  cases hl : lcGo g ft fe (kill ρ vs) items with
  | bad => rw [hl] at h1; exact (h1 : False).elim
  | exc c => rw [hl] at h1; exact (h1 : False).elim
  | ok ys =>
    rw [hl] at h1
    replace h1 : Post X.K b W σ Hs1 H1 Q (.ok (.list ys)) := h1
    intro Dl hD
    obtain ⟨G, Y, w, hG, hY⟩ := wk
    have sD : Hs1 Dl = none := sub_none s1.sub hD
    refine lc_it w (LcInv X.K g ft fe (kill ρ vs) items ys Hs1 H1 Dl) ?_ ?_ ?_ ?_
    · exact ⟨Hs1, step_mut (Step.refl s1.sub) hD sD, sD, [], ys, [], upd_same, .nil, by simpa using hl, rfl, Nat.le_refl _⟩
    · rintro i H' _ ⟨Hs', st, _⟩
      exact hG H' (st.sh.trans st.sub) fun _ => st.wh
    · rintro i x H' H'' hi ⟨Hs', st, nD, acc, rest, ws, hH, ra, hr, hy, hle⟩ y
      obtain ⟨Hs2, st2, d, hd, rd⟩ := hY i x Hs' H' H'' st.sh st.sub hi y
      have st2' := st.trans st2
      have nD2 : Hs2 Dl = none := st2.away Dl _ hH nD
      have hH2 := st2.wh _ _ hH
      have hdrop : items.drop i = d :: items.drop (i + 1) := by
        have hlt : i < items.length := hi
        rw [List.drop_eq_getElem_cons hlt]
        have : items[i] = d := by rw [List.getElem?_eq_getElem hlt] at hd; exact Option.some.inj hd
        rw [this]
      rw [hdrop] at hr
      cases hg : g d (kill ρ vs) with
      | none => simp only [lcGo, hg] at hr; cases hr
      | some ρ1 =>
        simp only [lcGo, hg] at hr
        refine qg _ _ (kill ρ vs) (wipe σ vs) Hs2 H'' x d ρ1 _ (((e.step s1).step st2').wipe vs) rd hg fun σ1 o1 e1 => ⟨?_, ?_⟩
        · rw [o1 vs hts]
          exact wipe_wipe σ vs
        · have lcW : acc.length < sizeLine := by
            have h2 := Nat.le_of_ble_eq_true hz
            have h3 : (1000000 : Nat) < sizeLine := by decide
            have h4 : i < items.length := hi
            omega
          cases hft : ft ρ1 with
          | bad => rw [hft] at hr; cases hr
          | exc c => rw [hft] at hr; cases hr
          | ok k =>
            rw [hft] at hr
            refine qt _ _ ρ1 σ1 Hs2 H'' _ e1 ?_
            rw [hft]
            intro Hs3 H3 s3
            have st3 := st2'.trans s3
            have nD3 : Hs3 Dl = none := s3.away Dl _ hH2 nD2
            have hH3 := s3.wh _ _ hH2
            cases k with
            | false =>
              show LcInv X.K g ft fe (kill ρ vs) items ys Hs1 H1 Dl (i + 1) H3
              exact ⟨Hs3, st3, nD3, acc, rest, ws, hH3, RpAll.ex (st2.sh.trans s3.sh) ra, hr, hy, by omega⟩
            | true =>
              show te σ1 H3 _
              replace hr : ((fe ρ1).bind fun y => (lcGo g ft fe (kill ρ vs) (items.drop (i + 1))).bind fun ys => .ok (y :: ys)) = .ok rest := hr
              cases hfe : fe ρ1 with
              | bad => rw [hfe] at hr; cases hr
              | exc c => rw [hfe] at hr; cases hr
              | ok yd =>
                rw [hfe] at hr
                refine qe _ _ ρ1 σ1 Hs3 H3 _ (e1.step s3) ?_
                rw [hfe]
                intro Hs4 H4 s4 yv ry
                have st4 := st3.trans s4
                have nD4 : Hs4 Dl = none := s4.away Dl _ hH3 nD3
                cases hrest : lcGo g ft fe (kill ρ vs) (items.drop (i + 1)) with
                | bad => rw [hrest] at hr; cases hr
                | exc c => rw [hrest] at hr; cases hr
                | ok rest2 =>
                  rw [hrest] at hr
                  replace hr : (Res.ok (yd :: rest2) : Res (List D)) = .ok rest := hr
                  cases hr
                  refine ⟨ws, s4.wh _ _ hH3, ?_, Hs4, step_mut st4 hD nD4, nD4, acc ++ [yd], rest2, ws ++ [yv], upd_same, RpAll.append (RpAll.ex ((st2.sh.trans s3.sh).trans s4.sh) ra) (.cons ry.rp .nil), hrest, by rw [hy]; simp, by simp; omega⟩
                  rw [RpAll.len ra]
                  exact lcW
    · rintro H' ⟨Hs', st, nD, acc, rest, ws, hH, ra, hr, hy, hle⟩
      have : items.drop items.length = [] := List.drop_length
      rw [this] at hr
      cases hr
      rw [List.append_nil] at hy
      subst hy
      have fin : Step Hs1 H1 (upd Hs' Dl (.lst ws)) H' := by
        refine ⟨st.sh.trans (Ex.new nD), st.wh, ?_, ?_⟩
        · intro a o q
          by_cases ha : a = Dl
          · subst ha; rw [upd_same] at q; cases q; exact hH
          · rw [upd_ne ha] at q; exact st.sub a o q
        · intro a o q n
          rw [upd_ne (ne_of_none q hD)]
          exact st.away a o q n
      exact h1 _ _ fin _ (.of (.lst (sq_of upd_same) (RpAll.ex (Ex.new nD) ra)))

/-! one reading for all contexts -/
def tOf (K : PySem.W.Frag) (W : WD) (b : Bool) (f : DEnv → Res D) : TE := fun σ H Q => ∃ Hs0 H0 ρ Hs, EnvOk K Hs0 H0 ρ σ Hs H ∧ Post K b W σ Hs H Q (f ρ)
def ttOf (K : PySem.W.Frag) (f : DEnv → Res Bool) : TT := fun σ H Q => ∃ Hs0 H0 ρ Hs, EnvOk K Hs0 H0 ρ σ Hs H ∧ PostA W0 σ Hs H (fun b _ H' => Q b H') (f ρ)
def gOf (K : PySem.W.Frag) (ts : List Nat) (g : GD) : TG := fun v σ H Q => ∃ Hs0 H0 ρ Hs d ρ', EnvOk K Hs0 H0 ρ σ Hs H ∧ Rp K Hs v d ∧ g d ρ = some ρ' ∧ ∀ σ', OutOf ts σ σ' → EnvOk K Hs0 H0 ρ' σ' Hs H → Q σ' H
theorem DE.pe {e : Expr} {f : DEnv → Res D} (h : DE X W b e f) : PE X e (tOf X.K W b f) := by
  obtain ⟨t, p, q⟩ := h.ex
  exact ⟨fun pins s σ H Q I ⟨Hs0, H0, ρ, Hs, e, hp⟩ => p.run pins s σ H Q I (q Hs0 H0 ρ σ Hs H Q e hp)⟩
theorem DTs.pts {ifs : List Expr} {f : DEnv → Res Bool} (h : DTs X ifs f) : PTs X ifs (ttOf X.K f) := by
  obtain ⟨t, p, q⟩ := h.ex
  exact ⟨fun pins s σ H Q I ⟨Hs0, H0, ρ, Hs, e, hp⟩ => p.run pins s σ H Q I (q Hs0 H0 ρ σ Hs H Q e hp)⟩
theorem DG.pg {tg : Expr} {ts : List Nat} {g : GD} (h : DG X tg ts g) : PG X tg (gOf X.K ts g) := by
  obtain ⟨t, p, q⟩ := h.ex
  exact ⟨fun pins s σ H v u Q I r ⟨Hs0, H0, ρ, Hs, d, ρ', e, rd, hg, k⟩ => p.run pins s σ H v u Q I r (q Hs0 H0 ρ σ Hs H v d ρ' Q e rd hg k)⟩
theorem lc_ok {tg iter : Expr} {wi : TI} {fi : DEnv → Res (List D)} {g : GD} {ts vs : List Nat} {ft : DEnv → Res Bool} {fe : DEnv → Res D} {ρ : DEnv} {σ : L2.St} {Hs0 : Hp} {H0 : Hp0} {Hs H : Hp} {Q : VK}
    (qi : ∀ Hs0 H0 ρ σ Hs H R, EnvOk X.K Hs0 H0 ρ σ Hs H → PostA W σ Hs H (fun items Hs1 H1 => ∀ J, Walked X.K true items Hs1 H1 J → R J H1) (fi ρ) → wi σ H R)
    (hts : ∀ i, i ∈ ts → i ∈ vs) (e : EnvOk X.K Hs0 H0 ρ σ Hs H) (h : Post X.K b W σ Hs H Q (xLc fi g ft fe vs ρ)) : tLc wi (gOf X.K ts g) (ttOf X.K ft) (tOf X.K W0 false fe) vs σ H Q :=
  lc_read (tg := tg) (iter := iter) (ts := ts) qi (fun Hs0 H0 ρ σ Hs H v d ρ' Q e rd hg k => ⟨Hs0, H0, ρ, Hs, d, ρ', e, rd, hg, k⟩) (fun Hs0 H0 ρ σ Hs H Q e h => ⟨Hs0, H0, ρ, Hs, e, h⟩) (fun Hs0 H0 ρ σ Hs H Q e h => ⟨Hs0, H0, ρ, Hs, e, h⟩) hts e h
theorem de_lc {elt tg iter : Expr} {ifs : List Expr} {scope : Scope} {pos : Pos} {fi : DEnv → Res (List D)} {g : GD} {ts : List Nat} {ft : DEnv → Res Bool} {fe : DEnv → Res D} (own : List (Str × Nat)) (hc : X.calm = true) (hN : X.N.Nodup) (hi : DI X W true tg iter fi) (ok : BlkOk X.N X.env.scope scope own)
    (hg : ∀ (s : Shared) (H : Hp) (C : Addr) (cl : List (Str × Addr)) (fp : List Addr), DG (X.blk s H scope (compEnvC scope cl C X.env) fp) tg ts g)
    (ht : ∀ (s : Shared) (H : Hp) (C : Addr) (cl : List (Str × Addr)) (fp : List Addr), DTs (X.blk s H scope (compEnvC scope cl C X.env) fp) ifs ft)
    (he : ∀ (s : Shared) (H : Hp) (C : Addr) (cl : List (Str × Addr)) (fp : List Addr), DE (X.blk s H scope (compEnvC scope cl C X.env) fp) W0 false elt fe)
    (hts : ∀ i, i ∈ ts → i ∈ own.map (·.2) := by decide) (hs : ∀ x, foldedSetIterable iter X.env x = pure x := by intro _; rfl) : DE X W b (.ListComp elt [⟨tg, iter, ifs, 0⟩] scope pos) (xLc fi g ft fe (own.map (·.2))) := by
  obtain ⟨wi, pi, qi⟩ := hi.ex
  exact ⟨_, pe_lc hc hN pi ok (fun s H C cl fp => (hg s H C cl fp).pg) (fun s H C cl fp => (ht s H C cl fp).pts) (fun s H C cl fp => (he s H C cl fp).pe) hs, fun Hs0 H0 ρ σ Hs H Q e h => lc_ok (tg := tg) (iter := iter) qi hts e h⟩

/-! ### statements -/
inductive Out where
  | next (ρ : DEnv)
  | ret (d : D)
  | brk (ρ : DEnv)
  | cont (ρ : DEnv)
  | exc (c : Nat)
  | bad
  | retO (d : D) (ρ : DEnv)
  | excO (c : Nat) (ρ : DEnv)
  | retN (i : Nat) (ρ : DEnv)
def PostS (K : PySem.W.Frag) (W : WD) (Hs0 : Hp) (H0 : Hp0) (Hs : Hp) (E : Ends) : Out → Prop
  | .next ρ => ∀ σ' Hs' H', Ex Hs Hs' → EnvOk K Hs0 H0 ρ σ' Hs' H' → E.nx σ' H'
  | .ret d => ∀ v Hs' H', Step Hs0 H0 Hs' H' → Rp K Hs' v d → E.rt v H'
  | .brk ρ => ∀ σ' Hs' H', Ex Hs Hs' → EnvOk K Hs0 H0 ρ σ' Hs' H' → E.bk σ' H'
  | .cont ρ => ∀ σ' Hs' H', Ex Hs Hs' → EnvOk K Hs0 H0 ρ σ' Hs' H' → E.ct σ' H'
  | .exc c => ∀ σ' Hs' H', Step Hs0 H0 Hs' H' → W c σ' H'
  | .bad => False
  | .retO d ρ => ∀ v σ' Hs' H', Ex Hs Hs' → EnvOk K Hs0 H0 ρ σ' Hs' H' → Rp K Hs' v d → E.rt v H'
  | .excO c ρ => ∀ σ' Hs' H', Ex Hs Hs' → EnvOk K Hs0 H0 ρ σ' Hs' H' → W c σ' H'
  | .retN i ρ => ∀ v σ' Hs' H', Ex Hs Hs' → EnvOk K Hs0 H0 ρ σ' Hs' H' → σ'[i]? = some (some v) → E.rt v H'
theorem PostS.step {Hs0 : Hp} {H0 : Hp0} {Hs Hs' : Hp} {E : Ends} {o : Out} (s : Ex Hs Hs') (h : PostS X.K W Hs0 H0 Hs E o) : PostS X.K W Hs0 H0 Hs' E o := by
  cases o with
  | next ρ => exact fun σ' Hs2 H' e k => h σ' Hs2 H' (s.trans e) k
  | brk ρ => exact fun σ' Hs2 H' e k => h σ' Hs2 H' (s.trans e) k
  | cont ρ => exact fun σ' Hs2 H' e k => h σ' Hs2 H' (s.trans e) k
  | ret d => exact h
  | exc c => exact h
  | bad => exact h
  | retO d ρ => exact fun v σ' Hs2 H' e k => h v σ' Hs2 H' (s.trans e) k
  | excO c ρ => exact fun σ' Hs2 H' e k => h σ' Hs2 H' (s.trans e) k
  | retN i ρ => exact fun v σ' Hs2 H' e k => h v σ' Hs2 H' (s.trans e) k
structure DS (X : Cx) (W : WD) (st : Stmt) (f : DEnv → Out) : Prop where
  ex : ∃ t : TS, PS X st t ∧ ∀ Hs0 H0 ρ σ Hs H E, EnvOk X.K Hs0 H0 ρ σ Hs H → PostS X.K W Hs0 H0 Hs E (f ρ) → t E σ H
structure DSs (X : Cx) (W : WD) (st : List Stmt) (f : DEnv → Out) : Prop where
  ex : ∃ t : TS, PSs X st t ∧ ∀ Hs0 H0 ρ σ Hs H E, EnvOk X.K Hs0 H0 ρ σ Hs H → PostS X.K W Hs0 H0 Hs E (f ρ) → t E σ H
/-- an expression's outcome within a statement -/
def Res.out {α : Type} : Res α → (α → Out) → Out
  | .ok a, k => k a
  | .exc c, _ => .exc c
  | .bad, _ => .bad
theorem post_out {α : Type} {r : Res α} {k : α → Out} {Hs0 : Hp} {H0 : Hp0} {Hs H : Hp} {E : Ends} {ρ : DEnv} {σ : L2.St} (e : EnvOk X.K Hs0 H0 ρ σ Hs H) (h : PostS X.K W Hs0 H0 Hs E (r.out k)) : PostA W σ Hs H (fun a Hs' H' => PostS X.K W Hs0 H0 Hs' E (k a)) r := by
  cases r with
  | ok a => exact fun Hs' H' s => PostS.step s.sh (show PostS X.K W Hs0 H0 Hs E (k a) from h)
  | exc c => exact fun Hs' H' s => h σ Hs' H' (e.step s).step0
  | bad => exact h
def sNext : DEnv → Out := .next
def sSeq (f g : DEnv → Out) : DEnv → Out := fun ρ => match f ρ with
  | .next ρ' => g ρ'
  | o => o
theorem dss_nil : DSs X W [] sNext := ⟨tNext, pss_nil, fun Hs0 H0 ρ σ Hs H E e h => h σ Hs H (Ex.refl _) e⟩
theorem dss_cons {st : Stmt} {rest : List Stmt} {f g : DEnv → Out} (h1 : DS X W st f) (h2 : DSs X W rest g) : DSs X W (st :: rest) (sSeq f g) := by
  obtain ⟨t, p, q⟩ := h1.ex
  obtain ⟨t2, p2, q2⟩ := h2.ex
  refine ⟨tSeq t t2, pss_cons p p2, fun Hs0 H0 ρ σ Hs H E e h => ?_⟩
  refine q _ _ ρ σ Hs H { E with nx := t2 E } e ?_
  unfold sSeq at h
  cases hf : f ρ with
  | next ρ' =>
    rw [hf] at h
    exact fun σ' Hs' H' s e' => q2 _ _ ρ' σ' Hs' H' E e' (PostS.step s h)
  | ret d => rw [hf] at h; exact h
  | brk d => rw [hf] at h; exact h
  | cont d => rw [hf] at h; exact h
  | exc d => rw [hf] at h; exact h
  | bad => rw [hf] at h; exact h
  | retO d ρ => rw [hf] at h; exact h
  | excO d ρ => rw [hf] at h; exact h
  | retN d ρ => rw [hf] at h; exact h
theorem dss_one {st : Stmt} {f : DEnv → Out} (h : DS X W st f) : DSs X W [st] f := by
  obtain ⟨t, p, q⟩ := h.ex
  exact ⟨t, pss_one p, q⟩
/-- some names forgotten ahead of the rest -/
def sKill (vs : List Nat) (g : DEnv → Out) : DEnv → Out := fun ρ => g (kill ρ vs)
theorem dss_kill {sts : List Stmt} {g : DEnv → Out} (vs : List Nat) (h : DSs X W sts g) : DSs X W sts (sKill vs g) := by
  obtain ⟨t, p, q⟩ := h.ex
  exact ⟨t, p, fun Hs0 H0 ρ σ Hs H E e h => q _ _ _ σ Hs H E (e.kill vs) h⟩
variable {pos : Pos}
def sPass : DEnv → Out := .next
theorem ds_pass : DS X W (.Pass pos) sPass := ⟨tNext, ps_pass, fun Hs0 H0 ρ σ Hs H E e h => h σ Hs H (Ex.refl _) e⟩
def sBreak : DEnv → Out := .brk
def sCont : DEnv → Out := .cont
theorem ds_break : DS X W (.Break pos) sBreak := ⟨tBreak, ps_break, fun Hs0 H0 ρ σ Hs H E e h => h σ Hs H (Ex.refl _) e⟩
theorem ds_cont : DS X W (.Continue pos) sCont := ⟨tCont, ps_continue, fun Hs0 H0 ρ σ Hs H E e h => h σ Hs H (Ex.refl _) e⟩
def sRet (f : DEnv → Res D) : DEnv → Out := fun ρ => (f ρ).out .ret
theorem ds_ret {e : Expr} {f : DEnv → Res D} (h : DE X W false e f) : DS X W (.Return (some e) pos) (sRet f) := by
  obtain ⟨t, p, q⟩ := h.ex
  refine ⟨tRet t, ps_ret p, fun Hs0 H0 ρ σ Hs H E e h => ?_⟩
  exact q _ _ ρ σ Hs H _ e ((post_out e h).mono fun d Hs' H' s k v r => k v Hs' H' (e.step s).step0 r.rp)
/-- the frame's own list handed back -/
theorem ds_retOwn {e : Expr} {f : DEnv → Res D} (i : Nat) {x : Str} {pos' : Pos} (hN : X.N[i]? = some x := by rfl) (hv : Vis X.env.scope x := by first | exact Or.inl rfl | exact Or.inr (Or.inl rfl) | exact Or.inr (Or.inr rfl)) (hd : (x == ("__debug__" : Str)) = false := by decide)
    (hcd : (x == ("__classdict__" : Str)) = false := by decide) : DS X W (.Return (some (.Name x pos')) pos) (sRet (xOwn i)) := by
  refine ⟨tRet (tVar i), ps_ret (pe_var hN hv hd hcd), fun Hs0 H0 ρ σ Hs H E e h => ?_⟩
  unfold sRet xOwn at h
  split at h
  · rename_i ds hr
    obtain ⟨a, vs, h1, h2, h3, h4, h5⟩ := e.own i ds (lk_some hr)
    refine ⟨_, h1, h _ (upd Hs a (.lst vs)) H ⟨e.sh0.trans (Ex.new h2), e.wh0, ?_, ?_⟩ (.lst (sq_of upd_same) (RpAll.ex (Ex.new h2) h5))⟩
    · intro c o q
      by_cases hc : c = a
      · subst hc; rw [upd_same] at q; cases q; exact h4
      · rw [upd_ne hc] at q; exact e.sub c o q
    · intro c o q n
      rw [upd_ne (ne_of_none q h3)]
      exact e.aw0 c o q n
  · exact h.elim
def sIf (c : DEnv → Res Bool) (f g : DEnv → Out) : DEnv → Out := fun ρ => (c ρ).out fun k => if k = true then f ρ else g ρ
theorem ds_if {c : Expr} {a d : List Stmt} {fc : DEnv → Res Bool} {f g : DEnv → Out} (hc : DT X W c fc) (ha : DSs X W a f) (hb : DSs X W d g) : DS X W (.If c a d pos) (sIf fc f g) := by
  obtain ⟨t, p, q⟩ := hc.ex
  obtain ⟨t1, p1, q1⟩ := ha.ex
  obtain ⟨t2, p2, q2⟩ := hb.ex
  refine ⟨tIfS t t1 t2, ps_if p p1 p2, fun Hs0 H0 ρ σ Hs H E e h => ?_⟩
  refine q _ _ ρ σ Hs H _ e ((post_out e h).mono fun k Hs' H' s k1 => ?_)
  cases k with
  | true => exact q1 _ _ ρ σ Hs' H' E (e.step s) k1
  | false => exact q2 _ _ ρ σ Hs' H' E (e.step s) k1
def sAsg (f : DEnv → Res D) (g : GD) : DEnv → Out := fun ρ => (f ρ).out fun d => match g d ρ with
  | some ρ' => .next ρ'
  | none => .bad
theorem asg_read {te : TE} {gt : TG} {f : DEnv → Res D} {g : GD} {ts : List Nat} {Hs0 : Hp} {H0 : Hp0} {Hs H : Hp} {E : Ends} {ρ : DEnv} {σ : L2.St} (q : ∀ Hs0 H0 ρ σ Hs H Q, EnvOk X.K Hs0 H0 ρ σ Hs H → Post X.K false W σ Hs H Q (f ρ) → te σ H Q)
    (qg : ∀ Hs0 H0 ρ σ Hs H v d ρ' Q, EnvOk X.K Hs0 H0 ρ σ Hs H → Rp X.K Hs v d → g d ρ = some ρ' → (∀ σ', OutOf ts σ σ' → EnvOk X.K Hs0 H0 ρ' σ' Hs H → Q σ' H) → gt v σ H Q)
    (e : EnvOk X.K Hs0 H0 ρ σ Hs H) (h : PostS X.K W Hs0 H0 Hs E (sAsg f g ρ)) : tAsg te gt E σ H := by
  refine q _ _ ρ σ Hs H _ e ((post_out e h).mono fun d Hs' H' s k v r => ?_)
  cases hg : g d ρ with
  | none => rw [hg] at k; exact k.elim
  | some ρ' =>
    rw [hg] at k
    exact qg _ _ ρ σ Hs' H' v d ρ' _ (e.step s) r.rp hg fun σ' _ e' => k σ' Hs' H' (Ex.refl _) e'
theorem ds_asg {tg e : Expr} {f : DEnv → Res D} {g : GD} {ts : List Nat} (he : DE X W false e f) (hg : DG X tg ts g) (hs : swapsWithSole [tg] e pos.line X.env = pure false := by rfl) (hw : swappedStores [tg] e X.env = pure none := by rfl)
    (hq : (assignEach [tg] X.env).map (·.2) = [assign tg X.env] := by rfl) : DS X W (.Assign [tg] e pos) (sAsg f g) := by
  obtain ⟨t, p, q⟩ := he.ex
  obtain ⟨tg', p2, q2⟩ := hg.ex
  exact ⟨tAsg t tg', ps_asg p p2 hs hw hq, fun Hs0 H0 ρ σ Hs H E e h => asg_read q q2 e h⟩
end
end SB
end
end

section
set_option Elab.async false
set_option linter.all false
set_option maxRecDepth 100000
set_option maxHeartbeats 2000000
noncomputable section
namespace SB
open PySem PySem.Spec L2 Evl PyProof.Rows
section
variable {X : Cx} {W : WD} {pos : Pos}
/-! ### names stored -/
theorem ds_set (i : Nat) {x : Str} {e : Expr} {pos' : Pos} {f : DEnv → Res D} (hN : X.N.Nodup) (he : DE X W false e f) (hi : X.N[i]? = some x := by rfl) (hx : Loc X.env.scope x := by first | exact Or.inl rfl | exact Or.inr rfl)
    (hs : swapsWith e (some (.Name x pos')) pos.line X.env = pure false := by rfl) (hf : X.fn x = true ∨ X.env.scope.names.lookup x = some .local := by first | exact .inl rfl | exact .inr rfl | assumption) : DS X W (.Assign [.Name x pos'] e pos) (sAsg f (yName i)) := by
  obtain ⟨t, p, q⟩ := he.ex
  refine ⟨tAsg t (gName i), ps_set hN hi hx p hs hf, fun Hs0 H0 ρ σ Hs H E e h => asg_read (ts := [i]) q (fun Hs0 H0 ρ σ Hs H v d ρ' Q e r h k => ?_) e h⟩
  cases h
  rw [st_eq] at k
  exact k _ (fun vs hv => wipe_set (hv i (by simp))) (e.set r)
/-- y = [..] on one line -/
theorem ds_setLc (i : Nat) {y : Str} {py spos : Pos} {elt tg iter : Expr} {ifs : List Expr} {scope : Scope} {fi : DEnv → Res (List D)} {g : GD} {ts : List Nat} {ft : DEnv → Res Bool} {fe : DEnv → Res D} (own : List (Str × Nat)) (hc : X.calm = true) (hN : X.N.Nodup)
    (hi : DI X W true tg iter fi) (ok : BlkOk X.N X.env.scope scope own)
    (hg : ∀ (s : Shared) (H : Hp) (C : Addr) (cl : List (Str × Addr)) (fp : List Addr), DG (X.blk s H scope (compEnvC scope cl C X.env) fp) tg ts g)
    (ht : ∀ (s : Shared) (H : Hp) (C : Addr) (cl : List (Str × Addr)) (fp : List Addr), DTs (X.blk s H scope (compEnvC scope cl C X.env) fp) ifs ft)
    (he : ∀ (s : Shared) (H : Hp) (C : Addr) (cl : List (Str × Addr)) (fp : List Addr), DE (X.blk s H scope (compEnvC scope cl C X.env) fp) W0 false elt fe)
    (hsw : swapsWith (.ListComp elt [⟨tg, iter, ifs, 0⟩] scope pos) (some (.Name y py)) spos.line X.env = pure true)
    (hy : X.N[i]? = some y := by rfl) (hyl : X.env.scope.names.lookup y = some .local := by rfl)
    (hts : ∀ i, i ∈ ts → i ∈ own.map (·.2) := by decide) (hs : ∀ x, foldedSetIterable iter X.env x = pure x := by intro _; rfl) :
    DS X W (.Assign [.Name y py] (.ListComp elt [⟨tg, iter, ifs, 0⟩] scope pos) spos) (sAsg (xLc fi g ft fe (own.map (·.2))) (yName i)) := by
  obtain ⟨wi, pi, qi⟩ := hi.ex
  refine ⟨_, ps_setLc (g := gOf X.K ts g) (tt := ttOf X.K ft) (te := tOf X.K W0 false fe) hc hN hy hyl hsw pi ok (fun s H C cl fp => (hg s H C cl fp).pg) (fun s H C cl fp => (ht s H C cl fp).pts) (fun s H C cl fp => (he s H C cl fp).pe) hs, fun Hs0 H0 ρ σ Hs H E e h => ?_⟩
  refine asg_read (ts := [i]) (f := xLc fi g ft fe (own.map (·.2))) (fun Hs0 H0 ρ σ Hs H Q e h => lc_ok (tg := tg) (iter := iter) qi hts e h) (fun Hs0 H0 ρ σ Hs H v d ρ' Q e r h k => ?_) e h
  cases h
  rw [st_eq] at k
  exact k _ (fun vs hv => wipe_set (hv i (by simp))) (e.set r)

/-! ### lists of the frame's own -/
structure DF (X : Cx) (W : WD) (e : Expr) (f : DEnv → Res (List D)) : Prop where
  ex : ∃ t : TE, PE X e t ∧ ∀ Hs0 H0 ρ σ Hs H Q, EnvOk X.K Hs0 H0 ρ σ Hs H → PostA W σ Hs H (fun ds Hs' H' => ∀ p vs, H' p = none → RpAll X.K Hs' vs ds → Q (.ref p) (upd H' p (.lst vs))) (f ρ) → t σ H Q
def okLen (ds : List D) : Res (List D) := if small ds.length = true then .ok ds else .bad
theorem df_lst {es : List Expr} {fs : DEnv → Res (List D)} (h : DA X W false es fs) : DF X W (.List es pos) (fun ρ => (fs ρ).bind okLen) := by
  obtain ⟨t, p, q⟩ := h.ex
  refine ⟨tLst t, pe_lst p, fun Hs0 H0 ρ σ Hs H Q e h => ?_⟩
  refine q _ _ ρ σ Hs H _ e (h.bind.mono fun xs Hs1 H1 s1 h1 vs rv => ?_)
  refine post_mk h1 fun hz h1 => ⟨?_, fun p hp => h1.now s1.sub p vs hp rv.rp⟩
  rw [RpAll.len rv.rp]
  exact small_line hz
def seqOf : List D → Res (List D)
  | [.tuple xs] => .ok xs
  | [.list xs] => .ok xs
  | _ => .bad
theorem df_list {x : Str} {e : Expr} {p pos : Pos} {fs : DEnv → Res (List D)} (hg : Gl X x) (hm : X.mg x = none) (hv : bootBuiltins x = some (.type "list")) (ha : DA X W true [e] fs) (hn : x ≠ "__name__" := by decide) (hdb : (x == ("__debug__" : Str)) = false := by decide)
    (he : starEach (e :: []) X.env = (false, eval e X.env) :: starEach [] X.env := by rfl) (hpl : (backTo pos (starEach [] X.env)).any (·.1) = false := by rfl) : DF X W (.Call (.Name x p) [e] [] pos) (fun ρ => (fs ρ).bind seqOf) := by
  obtain ⟨t, pt, q⟩ := ha.ex
  refine ⟨_, pe_callTy call_list_of hg hm hv pt hn hdb he hpl, fun Hs0 H0 ρ σ Hs H Q e h => ?_⟩
  refine q _ _ ρ σ Hs H _ e (h.bind.mono fun ds Hs1 H1 s1 h1 vs rvs => ?_)
  match ds, rvs, h1 with
  | [.tuple xs], rvs, h1 =>
    obtain ⟨v, rfl, rv⟩ := rps1 rvs
    obtain ⟨p, ws, rfl, g1, r1⟩ := rv.tuple
    exact ⟨p, ws, rfl, .inr (.inl (ex_td s1.sub g1)), fun l hl => h1.now s1.sub l ws hl r1⟩
  | [.list xs], rvs, h1 =>
    obtain ⟨v, rfl, rv⟩ := rps1 rvs
    obtain ⟨p, ws, rfl, g1, r1⟩ := rv.list s1.sub
    exact ⟨p, ws, rfl, .inl g1, fun l hl => h1.now s1.sub l ws hl r1⟩
theorem EnvOk.setOwn {Hs0 : Hp} {H0 : Hp0} {Hs H : Hp} {ρ : DEnv} {σ : L2.St} {i : Nat} {a : Addr} {vs : List V} {ds : List D} (e : EnvOk X.K Hs0 H0 ρ σ Hs H) (hp : H a = none) (r : RpAll X.K Hs vs ds) :
    EnvOk X.K Hs0 H0 (ρ.set i (some (.own ds))) (σ.set i (some (.ref a))) Hs (upd H a (.lst vs)) := e.setObj rfl hp r
/-- x = [..], x the frame's own list from here on -/
def sNewOwn (i : Nat) (f : DEnv → Res (List D)) : DEnv → Out := fun ρ => (f ρ).out fun ds => .next (st ρ i (some (.own ds)))
theorem ds_newOwn (i : Nat) {x : Str} {e : Expr} {pos' : Pos} {f : DEnv → Res (List D)} (hN : X.N.Nodup) (he : DF X W e f) (hi : X.N[i]? = some x := by rfl) (hx : Loc X.env.scope x := by first | exact Or.inl rfl | exact Or.inr rfl)
    (hs : swapsWith e (some (.Name x pos')) pos.line X.env = pure false := by rfl) (hf : X.fn x = true ∨ X.env.scope.names.lookup x = some .local := by first | exact .inl rfl | exact .inr rfl | assumption) : DS X W (.Assign [.Name x pos'] e pos) (sNewOwn i f) := by
  obtain ⟨t, p, q⟩ := he.ex
  refine ⟨tAsg t (gName i), ps_set hN hi hx p hs hf, fun Hs0 H0 ρ σ Hs H E e h => ?_⟩
  refine q _ _ ρ σ Hs H _ e ((post_out e h).mono fun ds Hs' H' s k p vs hp r => ?_)
  rw [st_eq] at k
  exact k _ Hs' _ (Ex.refl _) ((e.step s).setOwn hp r)
/-- the own list at slot i becomes another -/
theorem EnvOk.putOwn {Hs0 : Hp} {H0 : Hp0} {Hs H : Hp} {ρ : DEnv} {σ : L2.St} {i : Nat} {a : Addr} {vs : List V} {ds es : List D} (e : EnvOk X.K Hs0 H0 ρ σ Hs H) (hr : ρ[i]? = some (some (.own ds))) (hs : σ[i]? = some (some (.ref a))) (r : RpAll X.K Hs vs es) :
    EnvOk X.K Hs0 H0 (ρ.set i (some (.own es))) σ Hs (upd H a (.lst vs)) := e.putObj rfl rfl hr hs r
/-- x.append(e) -/
def ownAt (ρ : DEnv) (i : Nat) (k : List D → Out) : Out := match lk ρ i with
  | some (.own ds) => k ds
  | _ => .bad
theorem ownAt_ok {ρ : DEnv} {i : Nat} {k : List D → Out} {Hs0 : Hp} {H0 : Hp0} {Hs : Hp} {E : Ends} {g : Prop} (h : PostS X.K W Hs0 H0 Hs E (ownAt ρ i k)) (q : ∀ ds, ρ[i]? = some (some (.own ds)) → PostS X.K W Hs0 H0 Hs E (k ds) → g) : g := by
  unfold ownAt at h
  split at h
  · rename_i ds hr
    exact q ds (lk_some hr) h
  · exact h.elim
def sApp (i : Nat) (f : DEnv → Res D) : DEnv → Out := fun ρ => ownAt ρ i fun ds => (f ρ).out fun d => if small ds.length = true then .next (st ρ i (some (.own (ds ++ [d])))) else .bad
theorem postS_mk {o : Out} {c : Prop} [Decidable c] {Hs0 : Hp} {H0 : Hp0} {Hs : Hp} {E : Ends} {g : Prop} (h : PostS X.K W Hs0 H0 Hs E (if c then o else .bad)) (k : c → PostS X.K W Hs0 H0 Hs E o → g) : g := by
  by_cases hc : c
  · rw [if_pos hc] at h
    exact k hc h
  · rw [if_neg hc] at h
    exact h.elim
theorem ds_app (i : Nat) {x : Str} {e : Expr} {p1 p2 p3 : Pos} {f : DEnv → Res D} (he : DE X W false e f) (hN : X.N[i]? = some x := by rfl) (hv : Vis X.env.scope x := by first | exact Or.inl rfl | exact Or.inr (Or.inl rfl) | exact Or.inr (Or.inr rfl)) (hd : (x == ("__debug__" : Str)) = false := by decide)
    (hcd : (x == ("__classdict__" : Str)) = false := by decide) (hbase : attributeBase (.Name x p1) "append" X.env (eval (.Name x p1) X.env) = eval (.Name x p1) X.env := by rfl)
    (hfew : ((backTo p3 (starEach [e] X.env)).all (fun x => !x.1) && (backToKw p3 (keywordEach [] X.env)).all (fun x => x.1.isSome) && decide ([e].length + ([] : List Keyword).length + (if ([] : List Keyword).isEmpty then 0 else 1) < 30)) = true := by rfl)
    (hline : (p2.endLine == p3.line) = true := by rfl) (hs : starEach [e] X.env = (false, eval e X.env) :: starEach [] X.env := by rfl) (hplain : (backTo p3 (starEach [] X.env)).any (·.1) = false := by rfl)
    (hsw : swapsWith (.Call (.Attribute (.Name x p1) "append" p2) [e] [] p3) none pos.line X.env = pure false := by rfl) : DS X W (.Expr (.Call (.Attribute (.Name x p1) "append" p2) [e] [] p3) pos) (sApp i f) := by
  obtain ⟨te, pe, qe⟩ := he.ex
  have pb : PE X (.Call (.Attribute (.Name x p1) "append" p2) [e] [] p3) (tBM X.K "list" rAppend (tVar i) (tCons te tNil)) :=
    pe_bm PySem.F.plainAttrs_list PySem.F.slot_list_append PySem.F.type_list_append mt_append (pe_var hN hv hd hcd) (pa_cons pe pa_nil hs) hbase hfew hline hs hplain
  refine ⟨_, ps_expr pb hsw, fun Hs0 H0 ρ σ Hs H E e h => ?_⟩
  refine ownAt_ok h fun ds hr h => ?_
  obtain ⟨a, vs, g1, g2, g3, g4, g5⟩ := e.own i ds hr
  refine ⟨_, g1, .inl ⟨rfl, vs, .inl (.inl g4)⟩, qe _ _ ρ σ Hs H _ e ((post_out e h).mono fun d Hs' H' s k v r => ?_)⟩
  refine postS_mk k fun hz k => ⟨a, vs, v, rfl, rfl, s.wh _ _ g4, ?_, (show PostS X.K W Hs0 H0 Hs' E (.next (ρ.set i (some (.own (ds ++ [d]))))) by rw [← st_eq]; exact k) σ Hs' _ (Ex.refl _) ((e.step s).putOwn hr g1 (RpAll.append (RpAll.ex s.sh g5) (.cons r.rp .nil)))⟩
  rw [RpAll.len g5]
  exact small_lt hz
/-- x[k] = e, x the frame's own list -/
def sPut (i : Nat) (fk fv : DEnv → Res D) : DEnv → Out := fun ρ => ownAt ρ i fun ds => (fv ρ).out fun d => (fk ρ).out fun kd => match kd with
  | .int k => match ixN ds.length k with
    | some j => .next (st ρ i (some (.own (ds.set j d))))
    | none => .bad
  | _ => .bad
theorem ds_put (i : Nat) {x : Str} {e ke : Expr} {p1 p2 : Pos} {fk fv : DEnv → Res D} (he : DE X W false e fv) (hk : DE X W true ke fk) (hN : X.N[i]? = some x := by rfl) (hv : Vis X.env.scope x := by first | exact Or.inl rfl | exact Or.inr (Or.inl rfl) | exact Or.inr (Or.inr rfl)) (hd : (x == ("__debug__" : Str)) = false := by decide)
    (hcd : (x == ("__classdict__" : Str)) = false := by decide) (hs : swapsWithSole [.Subscript (.Name x p1) ke p2] e pos.line X.env = pure false := by rfl) (hw : swappedStores [.Subscript (.Name x p1) ke p2] e X.env = pure none := by rfl)
    (hq : (assignEach [.Subscript (.Name x p1) ke p2] X.env).map (·.2) = [assign (.Subscript (.Name x p1) ke p2) X.env] := by rfl)
    (ha : ∀ v, assign (.Subscript (.Name x p1) ke p2) X.env v = (do let ov ← holding [v] (eval (.Name x p1) X.env); let iv ← holding [v, ov] (eval ke X.env); standAt p2; holding [v, ov, iv] (setItem ov iv v); release [v, ov, iv] []) := by intro _; rfl) : DS X W (.Assign [.Subscript (.Name x p1) ke p2] e pos) (sPut i fk fv) := by
  obtain ⟨te, pe, qe⟩ := he.ex
  obtain ⟨tk, pk, qk⟩ := hk.ex
  refine ⟨_, ps_asg pe (pg_sub (pe_var hN hv hd hcd) pk set_list ha) hs hw hq, fun Hs0 H0 ρ σ Hs H E e h => ?_⟩
  refine ownAt_ok h fun ds hr h => ?_
  obtain ⟨a, vs, g1, g2, g3, g4, g5⟩ := e.own i ds hr
  refine qe _ _ ρ σ Hs H _ e ((post_out e h).mono fun d Hs1 H1 s1 k v r => ⟨_, g1, qk _ _ ρ σ Hs1 H1 _ (e.step s1) ((post_out (e.step s1) k).mono fun kd Hs2 H2 s2 k2 u ru => ?_)⟩)
  cases kd with
  | int n =>
    have := ru.int
    subst this
    change PostS X.K W Hs0 H0 Hs2 E (match ixN ds.length n with | some j => .next (st ρ i (some (.own (ds.set j d)))) | none => .bad) at k2
    cases hj : ixN ds.length n with
    | none => rw [hj] at k2; exact k2.elim
    | some j =>
      rw [hj] at k2
      replace k2 : PostS X.K W Hs0 H0 Hs2 E (.next (ρ.set i (some (.own (ds.set j d))))) := by rw [← st_eq]; exact k2
      have s12 := s1.trans s2
      refine ⟨a, vs, n, j, rfl, rfl, s12.wh _ _ g4, by rw [RpAll.len g5]; exact hj, ?_⟩
      exact k2 σ Hs2 _ (Ex.refl _) ((e.step s12).putOwn hr g1 (RpAll.set (Rp.ex s2.sh r.rp) j (RpAll.ex s12.sh g5)))
  | _ => exact k2.elim

/-! ### for -/
def forGo (g : GD) (body : DEnv → Out) (ks : List Nat) : List D → DEnv → Out
  | [], ρ => .next ρ
  | d :: r, ρ => match g d ρ with
    | none => .bad
    | some ρ1 => match body ρ1 with
      | .next ρ2 => forGo g body ks r (kill ρ2 ks)
      | .cont ρ2 => forGo g body ks r (kill ρ2 ks)
      | .brk ρ2 => .next (kill ρ2 ks)
      | .ret d => .ret d
      | .exc c => .exc c
      | .bad => .bad
      | .retO d ρ => .retO d ρ
      | .excO c ρ => .excO c ρ
      | .retN d ρ => .retN d ρ
def sFor (fi : DEnv → Res (List D)) (g : GD) (body : DEnv → Out) (ks : List Nat) : DEnv → Out := fun ρ => (fi ρ).out fun items => forGo g body ks items (kill ρ ks)
theorem ds_for {tg iter : Expr} {body : List Stmt} {fi : DEnv → Res (List D)} {g : GD} {ts : List Nat} {f : DEnv → Out} (ks : List Nat) (hp : PassesOwn (model X.prog X.w) X.A X.env X.xe) (hc : X.calm = true) (hi : DI X W false tg iter fi) (hg : DG X tg ts g) (hb : DSs X W body f)
    (hs : ∀ x, foldedSetIterable iter X.env x = pure x := by intro _; rfl) : DS X W (.For tg iter body [] pos) (sFor fi g f ks) := by
  obtain ⟨wi, pi, qi⟩ := hi.ex
  obtain ⟨tg', pg, qg⟩ := hg.ex
  obtain ⟨tb, pb, qb⟩ := hb.ex
  refine ⟨tFor wi tg' tb, ps_for hp hc pi pg pb hs, fun Hs0 H0 ρ σ Hs H E e h => ?_⟩
  refine qi _ _ ρ σ Hs H _ e ((post_out e h).mono fun items Hs1 H1 s1 k J wk => ?_)
  obtain ⟨G, Y, w, hG, hY⟩ := wk
  refine for_it w (fun i σ' H' => ∃ Hs' ρ', Ex Hs1 Hs' ∧ EnvOk X.K Hs0 H0 ρ' σ' Hs' H' ∧ PostS X.K W Hs0 H0 Hs' E (forGo g f ks (items.drop i) ρ')) ?_ ?_ ?_ ?_
  · exact ⟨Hs1, kill ρ ks, Ex.refl _, (e.step s1).kill ks, by simpa using k⟩
  · rintro i σ' H' _ ⟨Hs', ρ', x1, x2, _⟩
    exact hG H' (x1.trans x2.sub) fun z => nomatch z
  · rintro i x σ' H' H'' hi ⟨Hs', ρ', x1, x2, x3⟩ y
    obtain ⟨Hs2, st2, d, hd, rd⟩ := hY i x Hs' H' H'' x1 x2.sub hi y
    have hdrop : items.drop i = d :: items.drop (i + 1) := by
      have hlt : i < items.length := hi
      rw [List.drop_eq_getElem_cons hlt]
      have : items[i] = d := by rw [List.getElem?_eq_getElem hlt] at hd; exact Option.some.inj hd
      rw [this]
    rw [hdrop] at x3
    cases hgd : g d ρ' with
    | none => simp only [forGo, hgd] at x3; exact x3.elim
    | some ρ1 =>
      simp only [forGo, hgd] at x3
      refine qg _ _ ρ' σ' Hs2 H'' x d ρ1 _ (x2.step st2) rd hgd fun σ1 _ e1 => qb _ _ ρ1 σ1 Hs2 H'' _ e1 ?_
      have x3 := PostS.step st2.sh x3
      have x4 : Ex Hs1 Hs2 := x1.trans st2.sh
      cases hf : f ρ1 with
      | next ρ2 =>
        rw [hf] at x3
        exact fun σ3 Hs3 H3 y1 y2 => ⟨Hs3, kill ρ2 ks, x4.trans y1, y2.kill ks, PostS.step y1 x3⟩
      | cont ρ2 =>
        rw [hf] at x3
        exact fun σ3 Hs3 H3 y1 y2 => ⟨Hs3, kill ρ2 ks, x4.trans y1, y2.kill ks, PostS.step y1 x3⟩
      | brk ρ2 =>
        rw [hf] at x3
        exact fun σ3 Hs3 H3 y1 y2 => x3 σ3 Hs3 H3 y1 (y2.kill ks)
      | ret d => rw [hf] at x3; exact x3
      | exc c => rw [hf] at x3; exact x3
      | bad => rw [hf] at x3; exact x3
      | retO d ρ => rw [hf] at x3; exact x3
      | excO c ρ => rw [hf] at x3; exact x3
      | retN d ρ => rw [hf] at x3; exact x3
  · rintro σ' H' ⟨Hs', ρ', x1, x2, x3⟩
    have : items.drop items.length = [] := List.drop_length
    rw [this] at x3
    exact x3 σ' Hs' H' (Ex.refl _) x2

/-! ### calls of the program's own defs -/
/-- the exceptions c that may leave, by their classes xc c -/
def Tk (X : Cx) (xc : Nat → Value) (W : WD) : Prop := ∃ W' : WX, L2N.Takes X W' ∧ ∀ c σ H, W c σ H → W' (xc c) none σ H
theorem tk0 {xc : Nat → Value} : Tk X xc W0 := ⟨fun _ _ _ _ => False, fun _ _ ⟨_, _, _, _, _, _, _, _, _, _, _, _, _, _, _, _, w⟩ => w.elim, fun _ _ _ h => h⟩
/-- a def's promise: F over data -/
def spOf (K : PySem.W.Frag) (xc : Nat → Value) (F : List D → Res D) : Sp := fun vs H Q E => ∃ Hs ds, Ex Hs H ∧ RpAll K Hs vs ds ∧ match F ds with
  | .ok d => ∀ v Hs' H', Step Hs H Hs' H' → Rp K Hs' v d → Q v H'
  | .exc c => ∀ Hs' H', Step Hs H Hs' H' → E (xc c) none H'
  | .bad => False
theorem de_call {xc : Nat → Value} {x : Str} {e : Expr} {es : List Expr} {p pos : Pos} {k : Nat} {f : Addr} {fd : FuncData} {ps : List Str} {F : List D → Res D} {fs : DEnv → Res (List D)} {b : Bool} (tk : Tk X xc W) (G : FnOk X.prog X.w X.K X.mg X.base (L2N.CX X.prog X.w) k f fd ps (spOf X.K xc F)) (hr : Room k X.A) (hg : Gl X x) (hm : X.mg x = some (.ref f))
    (hk : PySem.W.keepIn X.K (.ref f) = true) (hb : Binds X.K fd ps []) (ha : DA X W false (e :: es) fs) (hdb : (x == ("__debug__" : Str)) = false := by decide)
    (he : starEach (e :: es) X.env = (false, eval e X.env) :: starEach es X.env := by rfl) (hpl : (backTo pos (starEach es X.env)).any (·.1) = false := by rfl) : DE X W b (.Call (.Name x p) (e :: es) [] pos) (xCall F fs) := by
  obtain ⟨t, pt, q⟩ := ha.ex
  obtain ⟨W', tk', hW⟩ := tk
  refine ⟨_, pe_callS (E := WE W') G hr hg hm hk hb (fun σ => L2N.passAt tk' σ) pt hdb he hpl, fun Hs0 H0 ρ σ Hs H Q e h => ?_⟩
  have hb := h.bind
  cases hf : fs ρ with
  | bad => rw [hf] at hb; exact hb.elim
  | exc c =>
    rw [hf] at hb
    refine q _ _ ρ σ Hs H _ e ?_
    rw [hf]
    exact hb
  | ok ds =>
    rw [hf] at hb
    refine q _ _ ρ σ Hs H _ e ?_
    rw [hf]
    intro Hs1 H1 s1 vs rv
    have h1 : Post X.K b W σ Hs1 H1 Q (F ds) := hb Hs1 H1 s1
    refine ⟨Hs1, ds, s1.sub, rv.rp, ?_⟩
    cases hF : F ds with
    | bad => rw [hF] at h1; exact (h1 : False).elim
    | exc c =>
      rw [hF] at h1
      exact fun Hs' H' s => hW c σ H' (h1 Hs' H' s)
    | ok d =>
      rw [hF] at h1
      exact fun v Hs' H' s r => h1 Hs' H' s v (.of r)
end

/-! ### a def keeps its promise -/
def env0 (N : List Str) (ds : List D) : DEnv := ds.map (fun d => some (LV.dat d)) ++ List.replicate (N.length - ds.length) none
def outRes : Out → Res D
  | .ret d => .ok d
  | .next _ => .ok .none
  | .exc c => .exc c
  | .retO d _ => .ok d
  | .excO c _ => .exc c
  | _ => .bad
/-- the def of n parameters whose names are N and whose body is f -/
def fnD (N : List Str) (n : Nat) (f : DEnv → Out) : List D → Res D := fun ds => if ds.length = n then outRes (f (env0 N ds)) else .bad
theorem env0_ok {K : PySem.W.Frag} {N : List Str} {vs : List V} {ds : List D} {Hs H : Hp} (r : RpAll K Hs vs ds) (e : Ex Hs H) : EnvOk K Hs (hp0 H) (env0 N ds) (L2.start N vs) Hs H := by
  have hl := RpAll.len r
  have pick : ∀ (i : Nat) (x : LV), (env0 N ds)[i]? = some (some x) → ∃ d, ds[i]? = some d ∧ x = .dat d := fun i x h => by
    unfold env0 at h
    by_cases hi : i < ds.length
    · rw [List.getElem?_append_left (by simpa using hi), List.getElem?_map, List.getElem?_eq_getElem hi] at h
      cases h
      exact ⟨_, List.getElem?_eq_getElem hi, rfl⟩
    · rw [List.getElem?_append_right (by simpa using hi)] at h
      rw [List.getElem?_replicate] at h
      split at h <;> cases h
  refine ⟨by simp [env0, L2.start, hl], trivial, fun i h => (by obtain ⟨d', _, h2⟩ := pick i _ h; cases h2), fun i k x h q => ?_, e, Ex.refl _, Ex.refl _, fun _ _ _ n => n, fun i d h => ?_, fun i es h => ?_, fun i x hx h => ?_, fun i j x y a hx hy p q r s => ?_, fun i rows h => ?_⟩
  · obtain ⟨d', h1, h2⟩ := pick i _ h
    subst h2
    cases q
  · obtain ⟨d', h1, h2⟩ := pick i _ h
    cases h2
    obtain ⟨v, h3, h4⟩ := RpAll.get r h1
    have hi : i < vs.length := (List.getElem?_eq_some_iff.mp h3).1
    refine ⟨v, ?_, h4⟩
    unfold L2.start
    rw [List.getElem?_append_left (by simpa using hi), List.getElem?_map, h3]
    rfl
  · obtain ⟨d', _, h2⟩ := pick i _ h
    cases h2
  · obtain ⟨d', _, h2⟩ := pick i _ h
    subst h2
    cases hx
  · obtain ⟨d', _, h2⟩ := pick i _ p
    subst h2
    cases hx
  · obtain ⟨d', _, h2⟩ := pick i _ h
    cases h2
section
variable {P : Program} {w : World} {K : PySem.W.Frag} {mg : Str → Option Value} {base : Heap}
/-- the exceptions that leave a def -/
def WDof (xc : Nat → Value) (E : XK) : WD := fun c _ H => E (xc c) none H
theorem fn_ok {x qual : Str} {args : Arguments} {st : List Stmt} {sc : Scope} {f : Addr} {fd : FuncData} {N ps : List Str} {k n : Nat} {xc : Nat → Value} {F : DEnv → Out}
    (hfn : ∀ (sp : Sp), (∀ vs H Q E, sp vs H Q E → vs.length = ps.length) →
      (∀ (cdv : Value) (A : Around) (outer : List Env) (s : Shared) (H : Hp) (vs : List V) (Q : VK) (E : XK), Room k (A.deeper (envOfC qual sc s.heap.objs.size f cdv)) → sp vs H Q E →
        ∃ t, PSs (cxOf (L2N.CX P w) P w K mg base N qual sc f cdv A outer s H E) st t ∧ t { nx := fun _ H' => Q .non H', rt := Q } (L2.start N vs) H) → FnOk P w K mg base (L2N.CX P w) (k + 1) f fd ps sp)
    (hn : ps.length = n)
    (body : ∀ (cdv : Value) (A : Around) (outer : List Env) (s : Shared) (H : Hp) (E : XK), Room k (A.deeper (envOfC qual sc s.heap.objs.size f cdv)) →
      DSs (cxOf (L2N.CX P w) P w K mg base N qual sc f cdv A outer s H E) (WDof xc E) st F) : FnOk P w K mg base (L2N.CX P w) (k + 1) f fd ps (spOf K xc (fnD N n F)) := by
  refine hfn _ ?_ ?_
  · rintro vs H Q E ⟨Hs, ds, e, r, h⟩
    by_cases hl : ds.length = n
    · rw [RpAll.len r, hl, hn]
    · unfold fnD at h
      rw [if_neg hl] at h
      exact h.elim
  · rintro cdv A outer s H vs Q E hr ⟨Hs, ds, e, r, h⟩
    obtain ⟨t, p, q⟩ := (body cdv A outer s H E hr).ex
    refine ⟨t, p, q Hs (hp0 H) (env0 N ds) (L2.start N vs) Hs H _ (env0_ok r e) ?_⟩
    unfold fnD at h
    by_cases hl : ds.length = n
    · rw [if_pos hl] at h
      cases ho : F (env0 N ds) with
      | next ρ =>
        rw [ho] at h
        exact fun σ' Hs' H' _ e' => h _ Hs' H' e'.step0 .non
      | ret d =>
        rw [ho] at h
        exact fun v Hs' H' s r => h v Hs' H' s r
      | exc c =>
        rw [ho] at h
        exact fun σ' Hs' H' s => h Hs' H' s
      | brk _ => rw [ho] at h; exact h.elim
      | cont _ => rw [ho] at h; exact h.elim
      | bad => rw [ho] at h; exact h.elim
      | retO d ρ =>
        rw [ho] at h
        exact fun v σ' Hs' H' _ e' r => h v Hs' H' e'.step0 r
      | excO c ρ =>
        rw [ho] at h
        exact fun σ' Hs' H' _ e' => h Hs' H' e'.step0
      | retN _ _ => rw [ho] at h; exact h.elim
    · rw [if_neg hl] at h
      exact h.elim
end
end SB

namespace SB
open PySem PySem.Spec L2 Evl PyProof.Rows
/-! ### defs by name -/
structure Rdy (P : Program) (w : World) (K : PySem.W.Frag) (mg : Str → Option Value) (base : Heap) (xc : Nat → Value) (k : Nat) (x : Str) (ps : List Str) (F : List D → Res D) : Prop where
  ex : ∃ (f : Addr) (fd : FuncData), FnOk P w K mg base (L2N.CX P w) k f fd ps (spOf K xc F) ∧ mg x = some (.ref f) ∧ PySem.W.keepIn K (.ref f) = true ∧ Binds K fd ps []
section
variable {X : Cx} {W : WD}
theorem de_callR {xc : Nat → Value} {x : Str} {e : Expr} {es : List Expr} {p pos : Pos} {k j : Nat} {ps : List Str} {F : List D → Res D} {fs : DEnv → Res (List D)} {b : Bool} (tk : Tk X xc W) (R : Rdy X.prog X.w X.K X.mg X.base xc k x ps F) (hr : Room j X.A) (ha : DA X W false (e :: es) fs)
    (hk : k ≤ j := by decide) (hg : Gl X x := by rfl) (hdb : (x == ("__debug__" : Str)) = false := by decide)
    (he : starEach (e :: es) X.env = (false, eval e X.env) :: starEach es X.env := by rfl) (hpl : (backTo pos (starEach es X.env)).any (·.1) = false := by rfl) : DE X W b (.Call (.Name x p) (e :: es) [] pos) (xCall F fs) := by
  obtain ⟨f, fd, G, gm, kp, hb⟩ := R.ex
  exact de_call tk G (hr.mono hk) hg gm kp hb ha hdb he hpl
end
section
variable {P : Program} {w : World} {K : PySem.W.Frag} {mg : Str → Option Value} {base : Heap} {xc : Nat → Value}
theorem fnok_of {x : Str} {args : Arguments} {st : List Stmt} {sc : Scope} {f : Addr} {fd : FuncData} {N ps : List Str} {k n : Nat} {F : DEnv → Out} (Fn : FunD K x x args st sc [] [] f fd) (S : FnScope N ps sc) (hn : ps.length = n)
    (body : ∀ (cdv : Value) (A : Around) (outer : List Env) (s : Shared) (H : Hp) (E : XK), Room k (A.deeper (envOfC x sc s.heap.objs.size f cdv)) →
      DSs (cxOf (L2N.CX P w) P w K mg base N x sc f cdv A outer s H E) (WDof xc E) st F) : FnOk P w K mg base (L2N.CX P w) (k + 1) f fd ps (spOf K xc (fnD N n F)) :=
  fn_ok (x := x) (args := args) (fun sp len b => Fn.ok S len b) hn body
theorem rdy_of {x : Str} {args : Arguments} {st : List Stmt} {sc : Scope} {f : Addr} {fd : FuncData} {N ps : List Str} {k n : Nat} {F : DEnv → Out} (Fn : FunD K x x args st sc [] [] f fd) (S : FnScope N ps sc) (gm : mg x = some (.ref f)) (hb : Binds K fd ps []) (hn : ps.length = n)
    (body : ∀ (cdv : Value) (A : Around) (outer : List Env) (s : Shared) (H : Hp) (E : XK), Room k (A.deeper (envOfC x sc s.heap.objs.size f cdv)) →
      DSs (cxOf (L2N.CX P w) P w K mg base N x sc f cdv A outer s H E) (WDof xc E) st F) : Rdy P w K mg base xc (k + 1) x ps (fnD N n F) := by
  refine ⟨f, fd, ?_, gm, Fn.kp, hb⟩
  exact fn_ok (x := x) (args := args) (fun sp len b => Fn.ok S len b) hn body
/-- what leaves the def is taken by its caller -/
theorem tkD {x : Str} {sc : Scope} {f : Addr} {N : List Str} {cdv : Value} {A : Around} {outer : List Env} {s : Shared} {H : Hp} {E : XK} : Tk (cxOf (L2N.CX P w) P w K mg base N x sc f cdv A outer s H E) xc (WDof xc E) :=
  ⟨_, L2N.takes_of rfl rfl rfl rfl, fun _ _ _ h => h⟩
theorem passD {x : Str} {sc : Scope} {f : Addr} {N : List Str} {cdv : Value} {A : Around} {outer : List Env} {s : Shared} {H : Hp} {E : XK} :
    PassesOwn (model P w) (cxOf (L2N.CX P w) P w K mg base N x sc f cdv A outer s H E).A (cxOf (L2N.CX P w) P w K mg base N x sc f cdv A outer s H E).env (cxOf (L2N.CX P w) P w K mg base N x sc f cdv A outer s H E).xe := PassesOwn.leaving
theorem cx_no {H : Hp} {s : Shared} {e : Value} {s' : Shared} (h : L2N.CX P w [] H s (fun _ _ _ => False) e s') : False := by
  obtain ⟨_, _, _, _, _, _, _, _, _, _, _, _, z⟩ := h
  exact z
/-- the law's own promise from its pure statement -/
theorem law_sp {F : List D → Res D} (h : ∀ ns : List Int, ns.length ≤ 63 → F [.list (ns.map .int)] = .ok (.bool true)) (H : Hp) (a : Addr) (ns : List Int) (hl : ns.length ≤ 63) (hS : SqL K H a (ns.map V.int)) : spOf K xc F [.ref a] H (fun v _ => v = .bl true) fun _ _ _ => False := by
  have hi : ∀ ms : List Int, RpAll K H (ms.map V.int) (ms.map .int) := by
    intro ms
    induction ms with
    | nil => exact .nil
    | cons m ms ih => exact .cons (.int m) ih
  refine ⟨H, [.list (ns.map .int)], Ex.refl _, .cons (.lst hS (hi ns)) .nil, ?_⟩
  rw [h ns hl]
  intro v Hs' H' _ r
  cases r
  rfl
end
theorem bt_len : bootBuiltins "len" = some (.builtin "len") := by decide +kernel
theorem bt_sum : bootBuiltins "sum" = some (.builtin "sum") := by decide +kernel
theorem bt_tuple : bootBuiltins "tuple" = some (.type "tuple") := by decide +kernel
theorem bt_list : bootBuiltins "list" = some (.type "list") := by decide +kernel
end SB

namespace SB
open PySem PySem.Spec L2 Evl PyProof.Rows
/-- a def that lets nothing out -/
theorem calm_fn {P : Program} {w : World} {K : PySem.W.Frag} {mg : Str → Option Value} {base : Heap} {k : Nat} {f : Addr} {fd : FuncData} {ps : List Str} {sp : Sp} (F : FnOk P w K mg base (L2N.CX P w) k f fd ps sp) :
    FnOk P w K mg base L2.CX0 k f fd ps (fun vs H Q _ => sp vs H Q fun _ _ _ => False) := by
  refine ⟨fun vs H Q E h => F.len _ _ _ _ h, fun A outer s H args us vs Q E hr he hb hv hs => ?_⟩
  refine codeAny_mono (F.run A outer s H args us vs Q _ hr he hb hv hs) fun r s' h => ?_
  cases r with
  | error e =>
    obtain ⟨_, _, _, _, _, _, _, _, _, _, _, _, z⟩ := h
    exact z.elim
  | ok fl => cases fl <;> exact h
end SB
end
end

section
set_option Elab.async false
set_option linter.all false
set_option maxRecDepth 100000
set_option maxHeartbeats 2000000
noncomputable section
namespace SB
open PySem
/-! ### evaluation by simp -/
@[simp] theorem out_ok {α : Type} (a : α) (k : α → Out) : (Res.ok a).out k = k a := rfl
@[simp] theorem out_bad {α : Type} (k : α → Out) : (Res.bad : Res α).out k = .bad := rfl
@[simp] theorem out_exc {α : Type} (c : Nat) (k : α → Out) : (Res.exc c : Res α).out k = .exc c := rfl
@[simp] theorem xVar_def (i : Nat) (ρ : DEnv) : xVar i ρ = match lk ρ i with | some (.dat d) => .ok d | _ => .bad := rfl
@[simp] theorem xOwn_def (i : Nat) (ρ : DEnv) : xOwn i ρ = match lk ρ i with | some (.own ds) => .ok (.list ds) | _ => .bad := rfl
@[simp] theorem xC_def (d : D) (ρ : DEnv) : xC d ρ = .ok d := rfl
@[simp] theorem xOp_def (g : D → D → Res D) (fa fb : DEnv → Res D) (ρ : DEnv) : xOp g fa fb ρ = (fa ρ).bind fun x => (fb ρ).bind fun y => g x y := rfl
@[simp] theorem xB_def (f : DEnv → Res D) (ρ : DEnv) : xB f ρ = (f ρ).bind asB := rfl
@[simp] theorem asB_bool (k : Bool) : asB (.bool k) = .ok k := rfl
@[simp] theorem xChain_def (g g' : D → D → Res D) (fa fb fc : DEnv → Res D) (ρ : DEnv) : xChain g g' fa fb fc ρ = (fa ρ).bind fun x => (fb ρ).bind fun y => (g x y).bind fun z => (asB z).bind fun k => if k = true then (fc ρ).bind fun w => g' y w else .ok (.bool false) := rfl
@[simp] theorem xAnd_def (ga gb : DEnv → Res Bool) (ρ : DEnv) : xAnd ga gb ρ = (ga ρ).bind fun k => if k = true then gb ρ else .ok false := rfl
@[simp] theorem xOr_def (ga gb : DEnv → Res Bool) (ρ : DEnv) : xOr ga gb ρ = (ga ρ).bind fun k => if k = true then .ok true else gb ρ := rfl
@[simp] theorem xNot_def (ga : DEnv → Res Bool) (ρ : DEnv) : xNot ga ρ = (ga ρ).bind fun k => .ok (!k) := rfl
@[simp] theorem xAndV_def (fa fb : DEnv → Res D) (ρ : DEnv) : xAndV fa fb ρ = (fa ρ).bind fun x => (asB x).bind fun k => if k = true then fb ρ else .ok (.bool false) := rfl
@[simp] theorem xOrV_def (fa fb : DEnv → Res D) (ρ : DEnv) : xOrV fa fb ρ = (fa ρ).bind fun x => (asB x).bind fun k => if k = true then .ok (.bool true) else fb ρ := rfl
@[simp] theorem xNotV_def (fa : DEnv → Res D) (ρ : DEnv) : xNotV fa ρ = (fa ρ).bind fun x => (asB x).bind fun k => .ok (.bool (!k)) := rfl
@[simp] theorem xNeg_def (fa : DEnv → Res D) (ρ : DEnv) : xNeg fa ρ = (fa ρ).bind negD := rfl
@[simp] theorem negD_int (i : Int) : negD (.int i) = .ok (.int (-i)) := rfl
@[simp] theorem xNil_def (ρ : DEnv) : xNil ρ = .ok [] := rfl
@[simp] theorem xCons_def (fa : DEnv → Res D) (fs : DEnv → Res (List D)) (ρ : DEnv) : xCons fa fs ρ = (fa ρ).bind fun x => (fs ρ).bind fun xs => .ok (x :: xs) := rfl
@[simp] theorem xTup_def (fs : DEnv → Res (List D)) (ρ : DEnv) : xTup fs ρ = (fs ρ).bind mkT := rfl
@[simp] theorem xLst_def (fs : DEnv → Res (List D)) (ρ : DEnv) : xLst fs ρ = (fs ρ).bind mkL := rfl
@[simp] theorem mkT_0 : mkT [] = .ok (.tuple []) := rfl
@[simp] theorem mkT_1 (a : D) : mkT [a] = .ok (.tuple [a]) := rfl
@[simp] theorem mkT_2 (a b : D) : mkT [a, b] = .ok (.tuple [a, b]) := rfl
@[simp] theorem mkT_3 (a b c : D) : mkT [a, b, c] = .ok (.tuple [a, b, c]) := rfl
@[simp] theorem mkT_4 (a b c d : D) : mkT [a, b, c, d] = .ok (.tuple [a, b, c, d]) := rfl
@[simp] theorem mkL_0 : mkL [] = .ok (.list []) := rfl
@[simp] theorem mkL_1 (a : D) : mkL [a] = .ok (.list [a]) := rfl
@[simp] theorem mkL_2 (a b : D) : mkL [a, b] = .ok (.list [a, b]) := rfl
@[simp] theorem okLen_0 : okLen [] = .ok [] := rfl
@[simp] theorem okLen_1 (a : D) : okLen [a] = .ok [a] := rfl
@[simp] theorem xCall_def (g : List D → Res D) (fs : DEnv → Res (List D)) (ρ : DEnv) : xCall g fs ρ = (fs ρ).bind g := rfl
@[simp] theorem on1_def (g : D → Res D) (d : D) : on1 g [d] = g d := rfl
@[simp] theorem on2_def (g : D → D → Res D) (d e : D) : on2 g [d, e] = g d e := rfl
@[simp] theorem xSl_def (fa : DEnv → Res D) (fl fh : DEnv → Res (Option Int)) (ρ : DEnv) : xSl fa fl fh ρ = (fa ρ).bind fun x => (fl ρ).bind fun lo => (fh ρ).bind fun hi => slD lo hi x := rfl
@[simp] theorem xPart_def (f : DEnv → Res D) (ρ : DEnv) : xPart f ρ = (f ρ).bind asI := rfl
@[simp] theorem asI_int (i : Int) : asI (.int i) = .ok (some i) := rfl
@[simp] theorem xNoPart_def (ρ : DEnv) : xNoPart ρ = .ok none := rfl
@[simp] theorem xIt_def (g : List D → Res (List D)) (fs : DEnv → Res (List D)) (ρ : DEnv) : xIt g fs ρ = (fs ρ).bind g := rfl
@[simp] theorem xItems_def (f : DEnv → Res D) (ρ : DEnv) : xItems f ρ = (f ρ).bind itemsD := rfl
@[simp] theorem itemsD_t (xs : List D) : itemsD (.tuple xs) = .ok xs := rfl
@[simp] theorem itemsD_l (xs : List D) : itemsD (.list xs) = .ok xs := rfl
@[simp] theorem enumD_t (xs : List D) : enumD [.tuple xs] = .ok (enumFrom 0 xs) := rfl
@[simp] theorem enumD_l (xs : List D) : enumD [.list xs] = .ok (enumFrom 0 xs) := rfl
theorem range1D_def (n : Int) : range1D [.int n] = if big n = true then .ok (upFrom 0 n.toNat) else .bad := rfl
theorem range2D_def (i j : Int) : range2D [.int i, .int j] = if (big i && big j) = true then .ok (upFrom i (j - i).toNat) else .bad := rfl
@[simp] theorem xYes_def (ρ : DEnv) : xYes ρ = .ok true := rfl
@[simp] theorem sNext_def (ρ : DEnv) : sNext ρ = .next ρ := rfl
@[simp] theorem sPass_def (ρ : DEnv) : sPass ρ = .next ρ := rfl
@[simp] theorem sBreak_def (ρ : DEnv) : sBreak ρ = .brk ρ := rfl
@[simp] theorem sCont_def (ρ : DEnv) : sCont ρ = .cont ρ := rfl
def seqOut (o : Out) (g : DEnv → Out) : Out := match o with
  | .next ρ => g ρ
  | o => o
@[simp] theorem seqOut_next (ρ : DEnv) (g : DEnv → Out) : seqOut (.next ρ) g = g ρ := rfl
@[simp] theorem seqOut_ret (d : D) (g : DEnv → Out) : seqOut (.ret d) g = .ret d := rfl
@[simp] theorem seqOut_exc (c : Nat) (g : DEnv → Out) : seqOut (.exc c) g = .exc c := rfl
@[simp] theorem seqOut_brk (ρ : DEnv) (g : DEnv → Out) : seqOut (.brk ρ) g = .brk ρ := rfl
@[simp] theorem seqOut_cont (ρ : DEnv) (g : DEnv → Out) : seqOut (.cont ρ) g = .cont ρ := rfl
@[simp] theorem seqOut_bad (g : DEnv → Out) : seqOut .bad g = .bad := rfl
@[simp] theorem sSeq_def (f g : DEnv → Out) (ρ : DEnv) : sSeq f g ρ = seqOut (f ρ) g := rfl
@[simp] theorem sKill_def (vs : List Nat) (g : DEnv → Out) (ρ : DEnv) : sKill vs g ρ = g (kill ρ vs) := rfl
@[simp] theorem sRet_def (f : DEnv → Res D) (ρ : DEnv) : sRet f ρ = (f ρ).out .ret := rfl
@[simp] theorem sIf_def (c : DEnv → Res Bool) (f g : DEnv → Out) (ρ : DEnv) : sIf c f g ρ = (c ρ).out fun k => if k = true then f ρ else g ρ := rfl
@[simp] theorem sAsg_name (f : DEnv → Res D) (i : Nat) (ρ : DEnv) : sAsg f (yName i) ρ = (f ρ).out fun d => .next (st ρ i (some (.dat d))) := rfl
theorem sAsg_def (f : DEnv → Res D) (g : GD) (ρ : DEnv) : sAsg f g ρ = (f ρ).out fun d => match g d ρ with | some ρ' => .next ρ' | none => .bad := rfl
@[simp] theorem yName_def (i : Nat) (d : D) (ρ : DEnv) : yName i d ρ = some (st ρ i (some (.dat d))) := rfl
@[simp] theorem yTup_def (n : Nat) (gs : List D → DEnv → Option DEnv) (ds : List D) (ρ : DEnv) : yTup n gs (.tuple ds) ρ = if ds.length = n then gs ds ρ else none := rfl
@[simp] theorem yCons_def (g : GD) (gs : List D → DEnv → Option DEnv) (d : D) (r : List D) (ρ : DEnv) : yCons g gs (d :: r) ρ = (g d ρ).bind fun ρ' => gs r ρ' := rfl
@[simp] theorem yNil_def (ρ : DEnv) : yNil [] ρ = some ρ := rfl
@[simp] theorem sNewOwn_def (i : Nat) (f : DEnv → Res (List D)) (ρ : DEnv) : sNewOwn i f ρ = (f ρ).out fun ds => .next (st ρ i (some (.own ds))) := rfl
theorem ownAt_of {ρ : DEnv} {i : Nat} {ds : List D} (k : List D → Out) (h : lk ρ i = some (.own ds)) : ownAt ρ i k = k ds := by unfold ownAt; rw [h]
@[simp] theorem ownAt_def (ρ : DEnv) (i : Nat) (k : List D → Out) : ownAt ρ i k = match lk ρ i with | some (.own ds) => k ds | _ => .bad := rfl
@[simp] theorem sApp_def (i : Nat) (f : DEnv → Res D) (ρ : DEnv) : sApp i f ρ = ownAt ρ i fun ds => (f ρ).out fun d => if small ds.length = true then .next (st ρ i (some (.own (ds ++ [d])))) else .bad := rfl
@[simp] theorem sFor_def (fi : DEnv → Res (List D)) (g : GD) (body : DEnv → Out) (ks : List Nat) (ρ : DEnv) : sFor fi g body ks ρ = (fi ρ).out fun items => forGo g body ks items (kill ρ ks) := rfl
@[simp] theorem forGo_nil (g : GD) (body : DEnv → Out) (ks : List Nat) (ρ : DEnv) : forGo g body ks [] ρ = .next ρ := rfl
@[simp] theorem outRes_ret (d : D) : outRes (.ret d) = .ok d := rfl
@[simp] theorem outRes_next (ρ : DEnv) : outRes (.next ρ) = .ok .none := rfl
@[simp] theorem outRes_exc (c : Nat) : outRes (.exc c) = .exc c := rfl
@[simp] theorem fnD_1 (N : List Str) (f : DEnv → Out) (a : D) : fnD N 1 f [a] = outRes (f (env0 N [a])) := rfl
@[simp] theorem fnD_2 (N : List Str) (f : DEnv → Out) (a b : D) : fnD N 2 f [a, b] = outRes (f (env0 N [a, b])) := rfl
@[simp] theorem fnD_3 (N : List Str) (f : DEnv → Out) (a b c : D) : fnD N 3 f [a, b, c] = outRes (f (env0 N [a, b, c])) := rfl
theorem fnD_def {N : List Str} {n : Nat} {f : DEnv → Out} {ds : List D} (h : ds.length = n) : fnD N n f ds = outRes (f (env0 N ds)) := if_pos h
/-! operations -/
@[simp] theorem addD_int (i j : Int) : addD (.int i) (.int j) = .ok (.int (i + j)) := rfl
@[simp] theorem subD_int (i j : Int) : subD (.int i) (.int j) = .ok (.int (i - j)) := rfl
theorem small_of {n : Nat} (h : n ≤ 1000000) : small n = true := Nat.ble_eq_true_of_le h
theorem addD_t {xs ys : List D} (h : xs.length + ys.length ≤ 1000000) : addD (.tuple xs) (.tuple ys) = .ok (.tuple (xs ++ ys)) := if_pos (small_of h)
theorem addD_l {xs ys : List D} (h : xs.length + ys.length ≤ 1000000) : addD (.list xs) (.list ys) = .ok (.list (xs ++ ys)) := if_pos (small_of h)
@[simp] theorem ltD_int (i j : Int) : ltD (.int i) (.int j) = .ok (.bool (decide (i < j))) := rfl
@[simp] theorem leD_int (i j : Int) : leD (.int i) (.int j) = .ok (.bool (decide (i ≤ j))) := rfl
@[simp] theorem gtD_int (i j : Int) : gtD (.int i) (.int j) = .ok (.bool (decide (j < i))) := rfl
@[simp] theorem geD_int (i j : Int) : geD (.int i) (.int j) = .ok (.bool (decide (j ≤ i))) := rfl
@[simp] theorem eqD_int (i j : Int) : eqD (.int i) (.int j) = .ok (.bool (decide (i = j))) := rfl
@[simp] theorem neD_int (i j : Int) : neD (.int i) (.int j) = .ok (.bool (!decide (i = j))) := rfl
theorem mulD_int {i j : Int} (h : i.natAbs < 18446744073709551616 ∨ j.natAbs < 18446744073709551616) : mulD (.int i) (.int j) = .ok (.int (i * j)) := by
  show (if mulC i j = true then _ else _) = _
  rw [if_pos]
  unfold mulC
  rcases h with h | h
  · simp [h]
  · simp [h]
theorem divC_of {j : Int} (h : 0 < j) (h2 : j ≤ 1000000000) : divC j = true := by
  cases j with
  | ofNat n =>
    show (Nat.ble 1 n && Nat.ble n 1000000000) = true
    simp only [Int.ofNat_eq_natCast] at h h2
    rw [Nat.ble_eq_true_of_le (by omega), Nat.ble_eq_true_of_le (by omega)]
    rfl
  | negSucc n => omega
theorem fdivD_int {i j : Int} (h : 0 < j) (h2 : j ≤ 1000000000) : fdivD (.int i) (.int j) = .ok (.int (i / j)) := if_pos (divC_of h h2)
theorem modD_int {i j : Int} (h : 0 < j) : modD (.int i) (.int j) = .ok (.int (i % j)) := if_pos h
@[simp] theorem lenD_t (xs : List D) : lenD (.tuple xs) = .ok (.int xs.length) := rfl
@[simp] theorem lenD_l (xs : List D) : lenD (.list xs) = .ok (.int xs.length) := rfl
@[simp] theorem tupleD_t (xs : List D) : tupleD (.tuple xs) = .ok (.tuple xs) := rfl
@[simp] theorem tupleD_l (xs : List D) : tupleD (.list xs) = .ok (.tuple xs) := rfl
@[simp] theorem listD_t (xs : List D) : listD (.tuple xs) = .ok (.list xs) := rfl
@[simp] theorem listD_l (xs : List D) : listD (.list xs) = .ok (.list xs) := rfl
@[simp] theorem isD_none (a : D) : isD a .none = .ok (.bool (isNoneD a)) := rfl
@[simp] theorem isNotD_none (a : D) : isNotD a .none = .ok (.bool (!isNoneD a)) := rfl
@[simp] theorem isNoneD_none : isNoneD .none = true := rfl
@[simp] theorem isNoneD_int (i : Int) : isNoneD (.int i) = false := rfl
theorem ixD_t {xs : List D} {n : Nat} {d : D} (h : xs[n]? = some d) : ixD (.tuple xs) (.int (n : Int)) = .ok d := by
  show (match L2.atI xs (n : Int) with | some d => Res.ok d | none => .bad) = _
  rw [L2.atI_nat h]
theorem ixD_l {xs : List D} {n : Nat} {d : D} (h : xs[n]? = some d) : ixD (.list xs) (.int (n : Int)) = .ok d := by
  show (match L2.atI xs (n : Int) with | some d => Res.ok d | none => .bad) = _
  rw [L2.atI_nat h]
theorem big_of {i : Int} (h : -1000000000000 ≤ i) (h2 : i ≤ 1000000000000) : big i = true := by
  cases i with
  | ofNat n =>
    simp only [Int.ofNat_eq_natCast] at h h2
    exact Nat.ble_eq_true_of_le (by omega)
  | negSucc n => exact Nat.ble_eq_true_of_le (by omega)
theorem range1_nat {m : Nat} (h : m ≤ 1000000) : range1D [.int (m : Int)] = .ok (upFrom 0 m) := by
  rw [range1D_def, if_pos (big_of (by omega) (by omega)), Int.toNat_natCast]
theorem range2_nat {a m : Nat} (h : a ≤ 1000000) (h2 : m ≤ 1000000) : range2D [.int (a : Int), .int (m : Int)] = .ok (upFrom a (m - a)) := by
  rw [range2D_def, if_pos (by rw [big_of (by omega) (by omega), big_of (by omega) (by omega)]; rfl)]
  congr 2
  omega
/-! ### encodings -/
def encW (w : List Int) : D := .tuple (w.map .int)
def encF (f : List (List Int)) : D := .tuple (f.map encW)
def enumI {α : Type} : Int → List α → List (Int × α)
  | _, [] => []
  | k, a :: r => (k, a) :: enumI (k + 1) r
theorem enumFrom_map {α : Type} (enc : α → D) : ∀ (k : Int) (xs : List α), enumFrom k (xs.map enc) = (enumI k xs).map fun p => .tuple [.int p.1, enc p.2]
  | _, [] => rfl
  | k, a :: r => by simp [enumFrom, enumI, enumFrom_map enc (k + 1) r]
theorem upFrom_map (lo : Int) (n : Nat) : upFrom lo n = ((List.range n).map fun (i : Nat) => lo + (i : Int)).map .int := by simp [upFrom, Function.comp_def]
/-! slices -/
theorem cut_drop (xs : List D) (k : Nat) : cutD xs (some (k : Int)) none = xs.drop k := by
  unfold cutD
  rw [HT.sIx_nat, HT.sIx_none]
  by_cases h : k ≤ xs.length
  · rw [Nat.min_eq_left h, List.take_of_length_le (by simp)]
  · rw [Nat.min_eq_right (by omega), Nat.sub_self, List.take_zero, List.drop_of_length_le (by omega)]
theorem cut_take (xs : List D) (k : Nat) : cutD xs none (some (k : Int)) = xs.take k := by
  unfold cutD
  rw [HT.sIx_nat, HT.sIx_none, List.drop_zero, Nat.sub_zero]
  by_cases h : k ≤ xs.length
  · rw [Nat.min_eq_left h]
  · rw [Nat.min_eq_right (by omega), List.take_of_length_le (Nat.le_refl _), List.take_of_length_le (by omega)]
theorem slD_t (lo hi : Option Int) (xs : List D) : slD lo hi (.tuple xs) = .ok (.tuple (cutD xs lo hi)) := rfl
theorem slD_l (lo hi : Option Int) (xs : List D) : slD lo hi (.list xs) = .ok (.list (cutD xs lo hi)) := rfl
@[simp] theorem slD_l1 (xs : List D) : slD (some 1) none (.list xs) = .ok (.list (xs.drop 1)) := by rw [slD_l]; congr 2; exact cut_drop xs 1
@[simp] theorem slD_t1 (xs : List D) : slD (some 1) none (.tuple xs) = .ok (.tuple (xs.drop 1)) := by rw [slD_t]; congr 2; exact cut_drop xs 1
theorem foldl_app {α β : Type} (f : α → β) : ∀ (xs : List α) (b : List β), xs.foldl (fun b x => b ++ [f x]) b = b ++ xs.map f
  | [], b => by simp
  | x :: r, b => by rw [List.foldl_cons, foldl_app f r]; simp
/-! words and fillings -/
@[simp] theorem lenD_F (t : List (List Int)) : lenD (encF t) = .ok (.int t.length) := by unfold encF; rw [lenD_t, List.length_map]
@[simp] theorem lenD_W (t : List Int) : lenD (encW t) = .ok (.int t.length) := by unfold encW; rw [lenD_t, List.length_map]
@[simp] theorem slD_Fto (t : List (List Int)) (k : Nat) : slD none (some (k : Int)) (encF t) = .ok (encF (t.take k)) := by unfold encF; rw [slD_t, cut_take, List.map_take]
@[simp] theorem slD_Wto (t : List Int) (k : Nat) : slD none (some (k : Int)) (encW t) = .ok (encW (t.take k)) := by unfold encW; rw [slD_t, cut_take, List.map_take]
@[simp] theorem slD_Ffrom (t : List (List Int)) (k : Nat) : slD (some (k : Int)) none (encF t) = .ok (encF (t.drop k)) := by unfold encF; rw [slD_t, cut_drop, List.map_drop]
@[simp] theorem slD_Wfrom (t : List Int) (k : Nat) : slD (some (k : Int)) none (encW t) = .ok (encW (t.drop k)) := by unfold encW; rw [slD_t, cut_drop, List.map_drop]
@[simp] theorem slD_Ffrom1 (t : List (List Int)) (k : Nat) : slD (some ((k : Int) + 1)) none (encF t) = .ok (encF (t.drop (k + 1))) := slD_Ffrom t (k + 1)
@[simp] theorem slD_Wfrom1 (t : List Int) (k : Nat) : slD (some ((k : Int) + 1)) none (encW t) = .ok (encW (t.drop (k + 1))) := slD_Wfrom t (k + 1)
theorem ixD_F {t : List (List Int)} {k : Nat} {r : List Int} (h : t[k]? = some r) : ixD (encF t) (.int (k : Int)) = .ok (encW r) := ixD_t (by rw [List.getElem?_map, h]; rfl)
theorem ixD_W {t : List Int} {k : Nat} {r : Int} (h : t[k]? = some r) : ixD (encW t) (.int (k : Int)) = .ok (.int r) := ixD_t (by rw [List.getElem?_map, h]; rfl)
theorem addD_W {a b : List Int} (h : a.length + b.length ≤ 1000000) : addD (encW a) (encW b) = .ok (encW (a ++ b)) := by
  unfold encW; rw [addD_t (by simpa using h), List.map_append]
theorem addD_W1 {a : List Int} {v : Int} (h : a.length ≤ 100000) : addD (encW a) (.tuple [.int v]) = .ok (encW (a ++ [v])) := addD_W (b := [v]) (by simp; omega)
theorem addD_F {a b : List (List Int)} (h : a.length + b.length ≤ 1000000) : addD (encF a) (encF b) = .ok (encF (a ++ b)) := by
  unfold encF; rw [addD_t (by simpa using h), List.map_append]
theorem addD_F1 {a : List (List Int)} {b : List Int} (h : a.length ≤ 100000) : addD (encF a) (.tuple [encW b]) = .ok (encF (a ++ [b])) := addD_F (b := [b]) (by simp; omega)
@[simp] theorem itemsD_W (t : List Int) : itemsD (encW t) = .ok (t.map .int) := rfl
@[simp] theorem itemsD_F (t : List (List Int)) : itemsD (encF t) = .ok (t.map encW) := rfl
@[simp] theorem enumD_W (t : List Int) : enumD [encW t] = .ok (enumFrom 0 (t.map .int)) := rfl
@[simp] theorem enumD_F (t : List (List Int)) : enumD [encF t] = .ok (enumFrom 0 (t.map encW)) := rfl
@[simp] theorem tupleD_W (t : List Int) : tupleD (.list (t.map .int)) = .ok (encW t) := rfl
@[simp] theorem tupleD_F (t : List (List Int)) : tupleD (.list (t.map encW)) = .ok (encF t) := rfl
/-! ### loops and comprehensions -/
theorem lcGo_map {α : Type} {g : GD} {ft : DEnv → Res Bool} {fe : DEnv → Res D} {ρ : DEnv} (enc : α → D) (p : α → Bool) (h : α → D) : ∀ (xs : List α),
    (∀ x, x ∈ xs → ∃ ρ1, g (enc x) ρ = some ρ1 ∧ ft ρ1 = .ok (p x) ∧ (p x = true → fe ρ1 = .ok (h x))) → lcGo g ft fe ρ (xs.map enc) = .ok ((xs.filter p).map h)
  | [], _ => rfl
  | x :: r, H => by
    obtain ⟨ρ1, h1, h2, h3⟩ := H x (by simp)
    have ih := lcGo_map (g := g) (ft := ft) (fe := fe) (ρ := ρ) enc p h r fun y hy => H y (by simp [hy])
    rw [List.map_cons]
    simp only [lcGo, h1, h2, Res.bind_ok]
    cases hp : p x with
    | true =>
      rw [if_pos rfl, h3 hp, ih, List.filter_cons, if_pos hp]
      rfl
    | false =>
      rw [if_neg (by decide), ih, List.filter_cons, if_neg (by simp [hp])]
theorem xLc_map {α : Type} {fi : DEnv → Res (List D)} {g : GD} {ft : DEnv → Res Bool} {fe : DEnv → Res D} {vs : List Nat} {ρ : DEnv} {xs : List α} (enc : α → D) (p : α → Bool) (h : α → D) (hi : fi ρ = .ok (xs.map enc)) (hz : xs.length ≤ 1000000)
    (H : ∀ x, x ∈ xs → ∃ ρ1, g (enc x) (kill ρ vs) = some ρ1 ∧ ft ρ1 = .ok (p x) ∧ (p x = true → fe ρ1 = .ok (h x))) : xLc fi g ft fe vs ρ = .ok (.list ((xs.filter p).map h)) := by
  unfold xLc
  rw [hi, Res.bind_ok, if_pos (by rw [List.length_map]; exact small_of hz), lcGo_map enc p h xs H]
  rfl
/-- one turn of a for loop: next: on with the rest; brk: behind the loop -/
def turn (g : GD) (body : DEnv → Out) (ks : List Nat) (d : D) (ρ : DEnv) : Out := match g d ρ with
  | none => .bad
  | some ρ1 => match body ρ1 with
    | .next ρ2 => .next (kill ρ2 ks)
    | .cont ρ2 => .next (kill ρ2 ks)
    | .brk ρ2 => .brk (kill ρ2 ks)
    | .ret d => .ret d
    | .exc c => .exc c
    | .bad => .bad
    | .retO d ρ => .retO d ρ
    | .excO c ρ => .excO c ρ
    | .retN i ρ => .retN i ρ
theorem forGo_cons (g : GD) (body : DEnv → Out) (ks : List Nat) (d : D) (r : List D) (ρ : DEnv) : forGo g body ks (d :: r) ρ = match turn g body ks d ρ with
    | .next ρ' => forGo g body ks r ρ'
    | .brk ρ' => .next ρ'
    | o => o := by
  unfold turn
  rw [forGo]
  cases g d ρ with
  | none => rfl
  | some ρ1 =>
    simp only
    cases body ρ1 <;> rfl
theorem forGo_next {g : GD} {body : DEnv → Out} {ks : List Nat} {d : D} {r : List D} {ρ ρ' : DEnv} (h : turn g body ks d ρ = .next ρ') : forGo g body ks (d :: r) ρ = forGo g body ks r ρ' := by
  rw [forGo_cons, h]
theorem forGo_brk {g : GD} {body : DEnv → Out} {ks : List Nat} {d : D} {r : List D} {ρ ρ' : DEnv} (h : turn g body ks d ρ = .brk ρ') : forGo g body ks (d :: r) ρ = .next ρ' := by
  rw [forGo_cons, h]
theorem forGo_ret {g : GD} {body : DEnv → Out} {ks : List Nat} {d v : D} {r : List D} {ρ : DEnv} (h : turn g body ks d ρ = .ret v) : forGo g body ks (d :: r) ρ = .ret v := by
  rw [forGo_cons, h]
theorem forGo_exc {g : GD} {body : DEnv → Out} {ks : List Nat} {d : D} {c : Nat} {r : List D} {ρ : DEnv} (h : turn g body ks d ρ = .exc c) : forGo g body ks (d :: r) ρ = .exc c := by
  rw [forGo_cons, h]
theorem turn_eq {g : GD} {body : DEnv → Out} {ks : List Nat} {d : D} {ρ ρ1 : DEnv} (h : g d ρ = some ρ1) : turn g body ks d ρ = match body ρ1 with
    | .next ρ2 => .next (kill ρ2 ks)
    | .cont ρ2 => .next (kill ρ2 ks)
    | .brk ρ2 => .brk (kill ρ2 ks)
    | .ret d => .ret d
    | .exc c => .exc c
    | .bad => .bad
    | .retO d ρ => .retO d ρ
    | .excO c ρ => .excO c ρ
    | .retN i ρ => .retN i ρ := by
  unfold turn; rw [h]
/-- a for loop that goes through, its state told by b -/
theorem forGo_fold {α β : Type} {g : GD} {body : DEnv → Out} {ks : List Nat} (enc : α → D) (envOf : β → DEnv) (step : β → α → β) (I : List α → β → Prop)
    (H : ∀ x r b, I (x :: r) b → turn g body ks (enc x) (envOf b) = .next (envOf (step b x)) ∧ I r (step b x)) : ∀ (xs : List α) (b : β), I xs b → forGo g body ks (xs.map enc) (envOf b) = .next (envOf (xs.foldl step b))
  | [], b, _ => rfl
  | x :: r, b, hi => by
    obtain ⟨h1, h2⟩ := H x r b hi
    rw [List.map_cons, List.foldl_cons, forGo_next h1]
    exact forGo_fold enc envOf step I H r (step b x) h2
end SB
end
end

section
set_option Elab.async false
set_option linter.all false
set_option maxRecDepth 100000
set_option maxHeartbeats 4000000
noncomputable section
namespace SB
open PySem PySem.Spec L2 Evl PyProof.Rows
/-! ### a def that calls itself -/
section
variable {P : Program} {w : World} {K : PySem.W.Frag} {mg : Str → Option Value} {base : Heap} {xc : Nat → Value}
theorem rdy_bad {x : Str} {args : Arguments} {st : List Stmt} {sc : Scope} {f : Addr} {fd : FuncData} {ps : List Str} {k : Nat} (Fn : FunD K x x args st sc [] [] f fd) (gm : mg x = some (.ref f)) (hb : Binds K fd ps []) : Rdy P w K mg base xc k x ps (fun _ => .bad) := by
  refine ⟨f, fd, ⟨?_, ?_⟩, gm, Fn.kp, hb⟩
  · rintro vs H Q E ⟨Hs, ds, _, _, h⟩
    exact h.elim
  · rintro A outer s H as us vs Q E _ _ _ _ ⟨Hs, ds, _, _, h⟩
    exact h.elim
end
/-! ### a, b = x, y -/
def two : List D → Res (D × D)
  | [a, c] => .ok (a, c)
  | _ => .bad
def sPar (i j : Nat) (fs : DEnv → Res (List D)) : DEnv → Out := fun ρ => ((fs ρ).bind two).out fun p => .next (SB.st (SB.st ρ i (some (.dat p.1))) j (some (.dat p.2)))
theorem ds_par {X : Cx} {W : WD} {pos : Pos} (i j : Nat) {x y : Str} {a b : Expr} {fs : DEnv → Res (List D)} {px py pt : Pos} {kt k2 pt2} (hN : X.N.Nodup) (ha : DA X W false [a, b] fs) (hc : X.calm = true := by rfl) (hi : X.N[i]? = some x := by rfl) (hj : X.N[j]? = some y := by rfl) (hij : i ≠ j := by decide)
    (hx : X.env.scope.names.lookup x = some .local := by rfl) (hy : X.env.scope.names.lookup y = some .local := by rfl)
    (hw : swappedStores [.Tuple [.Name x px, .Name y py] kt pt] (.Tuple [a, b] k2 pt2) X.env = pure (some [x, y]) := by rfl)
    (hs : swapsWithSole [.Tuple [.Name x px, .Name y py] kt pt] (.Tuple [a, b] k2 pt2) pos.line X.env = pure false := by rfl) :
    DS X W (.Assign [.Tuple [.Name x px, .Name y py] kt pt] (.Tuple [a, b] k2 pt2) pos) (sPar i j fs) := by
  obtain ⟨t, p, q⟩ := ha.ex
  refine ⟨tPar i j t, ps_par hc hN hi hj hij hx hy p hw hs, fun Hs0 H0 ρ σ Hs H E e h => ?_⟩
  have h' := post_out e h
  refine q _ _ ρ σ Hs H _ e (h'.bind.mono fun ds Hs1 H1 s1 h1 vs rv => ?_)
  match ds, rv, h1 with
  | [d, d'], rv, h1 =>
    obtain ⟨v, v', rfl, r1, r2⟩ := rps2 rv
    have h2 := h1.now s1.sub
    rw [st_eq, st_eq] at h2
    exact ⟨v, v', rfl, h2 _ Hs1 H1 (Ex.refl _) (((e.step s1).set r1.rp).set r2.rp)⟩
/-! ### a value dropped -/
def sDrop (f : DEnv → Res D) : DEnv → Out := fun ρ => (f ρ).out fun _ => .next ρ
/-! ### sorted -/
def rk (n : Nat) : D → Bool := Nat.rec (motive := fun _ => D → Bool) (fun d => match d with | .int _ => true | _ => false) (fun _ ih d => match d with | .tuple xs => allL ih xs | _ => false) n
def lexE (lt eq : D → D → Bool) (xs : List D) : List D → Bool := List.rec (motive := fun _ => List D → Bool)
  (fun ys => List.rec (motive := fun _ => Bool) false (fun _ _ _ => true) ys)
  (fun a _ ih ys => List.rec (motive := fun _ => Bool) false (fun b r _ => cond (eq a b) (ih r) (lt a b)) ys) xs
def ltStep (f : D → D → Bool) : D → D → Bool
  | .int i, .int j => decide (i < j)
  | .tuple xs, .tuple ys => lexE f eqvD xs ys
  | _, _ => false
def ltN (n : Nat) : D → D → Bool := Nat.rec (motive := fun _ => D → D → Bool) (fun a c => ltStep (fun _ _ => false) a c) (fun _ ih a c => ltStep ih a c) n
def ltE (a c : D) : Bool := ltN 3 a c
def leE (a c : D) : Bool := !ltE c a
def insE (le : D → D → Bool) (a : D) (l : List D) : List D := List.rec (motive := fun _ => List D) [a] (fun b l ih => cond (le a b) (a :: b :: l) (b :: ih)) l
def sortE (le : D → D → Bool) (l : List D) : List D := List.rec (motive := fun _ => List D) [] (fun a _ ih => insE le a ih) l
@[simp] theorem insE_nil (le : D → D → Bool) (a : D) : insE le a [] = [a] := rfl
theorem insE_cons (le : D → D → Bool) (a b : D) (l : List D) : insE le a (b :: l) = cond (le a b) (a :: b :: l) (b :: insE le a l) := rfl
@[simp] theorem sortE_nil (le : D → D → Bool) : sortE le [] = [] := rfl
theorem sortE_cons (le : D → D → Bool) (a : D) (l : List D) : sortE le (a :: l) = insE le a (sortE le l) := rfl
theorem insE_perm (le : D → D → Bool) (a : D) : ∀ l, (insE le a l).Perm (a :: l)
  | [] => .refl _
  | b :: l => by
    rw [insE_cons]
    cases le a b
    · exact ((insE_perm le a l).cons b).trans (.swap a b l)
    · exact .refl _
theorem sortE_perm (le : D → D → Bool) : ∀ l, (sortE le l).Perm l
  | [] => .refl _
  | a :: l => (insE_perm le a _).trans ((sortE_perm le l).cons a)
theorem insE_congr {le le' : D → D → Bool} {a : D} : ∀ {l : List D}, (∀ b, b ∈ l → le a b = le' a b) → insE le a l = insE le' a l
  | [], _ => rfl
  | b :: l, h => by rw [insE_cons, insE_cons, h b (by simp), insE_congr fun c hc => h c (by simp [hc])]
theorem sortE_congr {le le' : D → D → Bool} : ∀ {l : List D}, (∀ a, a ∈ l → ∀ b, b ∈ l → le a b = le' a b) → sortE le l = sortE le' l
  | [], _ => rfl
  | a :: l, h => by
    rw [sortE_cons, sortE_cons, sortE_congr fun b hb c hc => h b (by simp [hb]) c (by simp [hc])]
    exact insE_congr fun b hb => h a (by simp) b (by simp [(sortE_perm le' l).mem_iff.mp hb])
theorem insE_mid {le : D → D → Bool} {a : D} : ∀ {l₁ l₂ : List D}, (∀ b, b ∈ l₁ → le a b = false) → (∀ b, b ∈ l₂ → le a b = true) → insE le a (l₁ ++ l₂) = l₁ ++ a :: l₂
  | [], [], _, _ => rfl
  | [], c :: l₂, _, h => by
    rw [List.nil_append, insE_cons, h c (by simp)]
    rfl
  | b :: l₁, l₂, h1, h2 => by
    rw [List.cons_append, insE_cons, h1 b (by simp), insE_mid (fun c hc => h1 c (by simp [hc])) h2]
    rfl
theorem sortE_merge {le : D → D → Bool} (trans : ∀ a b c, le a b = true → le b c = true → le a c = true) (total : ∀ a b, (le a b || le b a) = true) : ∀ l : List D, sortE le l = l.mergeSort le
  | [] => by simp
  | a :: l => by
    obtain ⟨l₁, l₂, h1, h2, h3⟩ := List.mergeSort_cons (le := le) trans total a l
    have hp := List.pairwise_mergeSort (le := le) trans total (a :: l)
    rw [h1, List.pairwise_append, List.pairwise_cons] at hp
    rw [sortE_cons, sortE_merge trans total l, h2, h1]
    exact insE_mid (fun b hb => by simpa using h3 b hb) fun b hb => hp.2.1.1 b hb

theorem rk_zero {d : D} (h : rk 0 d = true) : ∃ i, d = .int i := by
  cases d with
  | int i => exact ⟨i, rfl⟩
  | _ => cases h
theorem rk_succ {n : Nat} {d : D} (h : rk (n + 1) d = true) : ∃ xs, d = .tuple xs ∧ ∀ x, x ∈ xs → rk n x = true := by
  cases d with
  | tuple xs =>
    have h' : allL (rk n) xs = true := h
    rw [allL_eq, List.all_eq_true] at h'
    exact ⟨xs, rfl, h'⟩
  | _ => cases h
theorem rk_alike : ∀ {n : Nat} {a c : D}, rk n a = true → rk n c = true → PySem.W.alike a c = true
  | 0, a, c, h1, h2 => by
    obtain ⟨i, rfl⟩ := rk_zero h1
    obtain ⟨j, rfl⟩ := rk_zero h2
    simp [PySem.W.alike]
  | n + 1, a, c, h1, h2 => by
    obtain ⟨xs, rfl, hx⟩ := rk_succ h1
    obtain ⟨ys, rfl, hy⟩ := rk_succ h2
    rw [PySem.W.alike]
    clear h1 h2
    induction xs generalizing ys with
    | nil => simp [PySem.W.alikeAll]
    | cons x xs ih =>
      cases ys with
      | nil => simp [PySem.W.alikeAll]
      | cons y ys =>
        rw [PySem.W.alikeAll, rk_alike (hx x (by simp)) (hy y (by simp)), Bool.true_and]
        exact ih (fun z hz => hx z (by simp [hz])) ys (fun z hz => hy z (by simp [hz]))
theorem rk_dp : ∀ {n m : Nat} {a : D}, rk n a = true → n ≤ m → dpN m a = true
  | 0, m, a, h, _ => by
    obtain ⟨i, rfl⟩ := rk_zero h
    cases m <;> rfl
  | n + 1, 0, a, h, hm => by omega
  | n + 1, m + 1, a, h, hm => by
    obtain ⟨xs, rfl, hx⟩ := rk_succ h
    show allL (dpN m) xs = true
    rw [allL_eq, List.all_eq_true]
    exact fun x hx' => rk_dp (hx x hx') (by omega)
theorem ltN_ok : ∀ {n m : Nat} {a c : D}, rk n a = true → rk n c = true → n ≤ m → n ≤ 30 → ltN m a c = PySem.W.dataLt a c
  | 0, m, a, c, h1, h2, _, _ => by
    obtain ⟨i, rfl⟩ := rk_zero h1
    obtain ⟨j, rfl⟩ := rk_zero h2
    rw [PySem.W.dataLt_int]
    cases m <;> rfl
  | n + 1, 0, a, c, _, _, hm, _ => by omega
  | n + 1, m + 1, a, c, h1, h2, hm, hn => by
    obtain ⟨xs, rfl, hx⟩ := rk_succ h1
    obtain ⟨ys, rfl, hy⟩ := rk_succ h2
    rw [PySem.W.dataLt_tuple]
    show lexE (ltN m) eqvD xs ys = _
    clear h1 h2
    induction xs generalizing ys with
    | nil =>
      cases ys with
      | nil => exact (PyProof.Rows.lex_irrefl _).symm
      | cons y ys =>
        rw [PySem.W.toks_all_cons]
        simp only [PySem.W.keyToksAll]
        rw [PyProof.Rows.lex_diff (O := itemOrd) (by simp)]
        rfl
    | cons x xs ih =>
      cases ys with
      | nil =>
        rw [PySem.W.toks_all_cons]
        simp only [PySem.W.keyToksAll]
        rw [PyProof.Rows.lex_diff (O := itemOrd) (by simp)]
        rfl
      | cons y ys =>
        have hx0 := hx x (by simp)
        have hy0 := hy y (by simp)
        rw [PySem.W.dataLt_cons (rk_alike hx0 hy0)]
        show cond (eqvD x y) (lexE (ltN m) eqvD xs ys) (ltN m x y) = _
        rw [eqvD_ok (show depOk x = true from rk_dp hx0 (by omega)), ih (fun z hz => hx z (by simp [hz])) ys (fun z hz => hy z (by simp [hz])), ltN_ok hx0 hy0 (by omega) (by omega)]
        cases PyData.eqv x y <;> rfl
def nonE : D → Bool
  | .tuple [] => false
  | _ => true
def oneE : List D → Bool
  | [.tuple []] => true
  | _ => false
/-- what sorted is served at: numbers, rows of numbers, rows of rows; or the empty tuple alone -/
def sortOk (ds : List D) : Bool := small ds.length && (allL (rk 0) ds || allL (fun d => rk 1 d && nonE d) ds || allL (fun d => rk 2 d && nonE d) ds || oneE ds)
theorem sortOk_rank {ds : List D} (h : sortOk ds = true) : small ds.length = true ∧ ∃ n, n ≤ 2 ∧ (∀ d, d ∈ ds → rk n d = true) ∧ (PySem.W.Sortable ds ∨ ds = [.tuple []]) := by
  unfold sortOk at h
  rw [Bool.and_eq_true] at h
  refine ⟨h.1, ?_⟩
  have h2 := h.2
  simp only [allL_eq, Bool.or_eq_true, List.all_eq_true, Bool.and_eq_true] at h2
  have ne : ∀ n d, rk (n + 1) d = true → nonE d = true → ∃ x r, d = .tuple (x :: r) := fun n d a b => by
    obtain ⟨xs, rfl, _⟩ := rk_succ a
    cases xs with
    | nil => cases b
    | cons x r => exact ⟨x, r, rfl⟩
  rcases h2 with ((h2 | h2) | h2) | h2
  · refine ⟨0, by omega, h2, .inl (.inr fun d hd => ?_)⟩
    obtain ⟨i, rfl⟩ := rk_zero (h2 d hd)
    exact ⟨by simp, by simp⟩
  · exact ⟨1, by omega, fun d hd => (h2 d hd).1, .inl (.inl fun d hd => ne 0 d (h2 d hd).1 (h2 d hd).2)⟩
  · exact ⟨2, by omega, fun d hd => (h2 d hd).1, .inl (.inl fun d hd => ne 1 d (h2 d hd).1 (h2 d hd).2)⟩
  · unfold oneE at h2
    split at h2
    · exact ⟨1, by omega, fun d hd => by simp at hd; subst hd; rfl, .inr rfl⟩
    · cases h2
section
open PySem.W
variable {prog : Program} {w : World} {A : Around} {s : Shared}
/-- the empty tuple alone can be sorted -/
theorem sorts_one {vs : List Value} (hu : A.units < cLine) (e : EachIs (fun v d => ∃ as, Reads s.heap v d as) vs [PyData.tuple []]) : SortsAt prog w A s (dataKind s.heap [PyData.tuple []]) vs := by
  have hal : AllAlike [PyData.tuple []] := fun d hd d' hd' => by
    simp at hd hd'
    subst hd hd'
    simp [alike, alikeAll]
  refine ⟨fun v hv => ?_, ⟨tuples' true, ?_, fun h2 => ?_⟩⟩
  · obtain ⟨d, hd, as, r⟩ := e.left v hv
    exact ⟨_, dataKind_some hal hd r⟩
  · intro E x y a b Q ha hb hq
    obtain ⟨d, as, hd, ra, rfl⟩ := dataKind_inv ha
    obtain ⟨d', as', hd', rb, rfl⟩ := dataKind_inv hb
    have e1 : d = .tuple [] := by simpa using hd
    have e2 : d' = .tuple [] := by simpa using hd'
    subst e1 e2
    have hq' : Q (dataLt (.tuple []) (.tuple [])) s := hq
    rw [dataLt_tuple] at hq'
    cases ra with
    | @tuple l o xs n _ _ h1 h2 h3 h4 =>
      cases rb with
      | @tuple l' o' xs' n' _ _ k1 k2 k3 k4 =>
        have n1 : xs.size = 0 := by simpa using SeqAt.ReadsAll.length _ _ _ h4
        have n2 : xs'.size = 0 := by simpa using SeqAt.ReadsAll.length _ _ _ k4
        refine kat_lt h1 h3 k1 k3 (katLex_alike [] [] 0 _ _ _ _ h4 k4 (by simp [alikeAll]) ?_ (fun _ _ x r t ex => by cases ex) (by rw [n1, n2]; rfl) hq')
        show A.units + 0 < cLine
        omega
  · have := e.length
    simp at this
    omega
end

theorem each_pairs {X : Cx} {pins : List (Addr × Obj)} {σ : L2.St} {H : Hp} {s : Shared} (I : Inv X pins σ H s) : ∀ {xs : List V} {its : List Value} {ds : List D}, Vals xs its → RpAll X.K H xs ds → PySem.W.EachIs (fun v (b : V × D) => RelV b.1 v ∧ ∃ as, Reads s.heap v b.2 as) its (xs.zip ds)
  | _, _, _, .nil, .nil => .nil
  | _, _, _, .cons h r, .cons q t => .cons ⟨h, Dp.reads I _ _ _ (Rp.dp q) h⟩ (each_pairs I r t)
theorem each_vals {xs : List (V × D)} : ∀ {its : List Value}, PySem.W.EachIs (fun v (b : V × D) => RelV b.1 v) its xs → Vals (xs.map Prod.fst) its := by
  induction xs with
  | nil => intro its h; cases h; exact .nil
  | cons x xs ih =>
    intro its h
    cases h with
    | cons a r => exact .cons a (ih r)
def rSortP (K : PySem.W.Frag) : List V → Hp → VK → Prop := fun vs H Q => ∃ (a : Addr) (xs : List V) (ds : List D), vs = [V.ref a] ∧ SqL K H a xs ∧ RpAll K H xs ds ∧ sortOk ds = true ∧
  ∀ p, H p = none → Q (.ref p) (upd H p (.lst (((xs.zip ds).mergeSort (PySem.W.dataLe false Prod.snd)).map Prod.fst)))
theorem zip_snd {H : Hp} {K : PySem.W.Frag} : ∀ {xs : List V} {ds : List D}, RpAll K H xs ds → (xs.zip ds).map Prod.snd = ds
  | _, _, .nil => rfl
  | _, _, .cons _ r => by rw [List.zip_cons_cons, List.map_cons, zip_snd r]
theorem zip_rp {H : Hp} {K : PySem.W.Frag} : ∀ {xs : List V} {ds : List D}, RpAll K H xs ds → ∀ p, p ∈ xs.zip ds → Rp K H p.1 p.2
  | _, _, .nil, p, h => by cases h
  | _, _, .cons q r, p, h => by
    rw [List.zip_cons_cons, List.mem_cons] at h
    rcases h with rfl | h
    · exact q
    · exact zip_rp r p h
theorem pairs_rp {H : Hp} {K : PySem.W.Frag} : ∀ {l : List (V × D)}, (∀ p, p ∈ l → Rp K H p.1 p.2) → RpAll K H (l.map Prod.fst) (l.map Prod.snd)
  | [], _ => .nil
  | p :: l, h => .cons (h p (by simp)) (pairs_rp fun q hq => h q (by simp [hq]))
theorem cr_sortP {X : Cx} (hu : X.A.units + 64 < cLine) : CallR X (.builtin "sorted") (rSortP X.K) := by
  intro pins s σ H vs us Q I r h
  obtain ⟨a, xs, ds, rfl, hs, hr, hk, q⟩ := h
  obtain ⟨its, rv, hl, _⟩ := I.list hs
  rw [Vals.ref1 r]
  obtain ⟨hz, n, hn, hrk, hS⟩ := sortOk_rank hk
  have ep := each_pairs I rv hr
  have e : PySem.W.EachIs (fun v (b : V × D) => RelV b.1 v) its (xs.zip ds) := ep.mono fun _ _ h => h.1
  have er : PySem.W.EachIs (fun v (b : V × D) => ∃ as, Reads s.heap v b.2 as) its (xs.zip ds) := ep.mono fun _ _ h => h.2
  have hsn := zip_snd hr
  have hal : PySem.W.AllAlike ((xs.zip ds).map Prod.snd) := by
    rw [hsn]
    exact fun d hd d' hd' => rk_alike (hrk d hd) (hrk d' hd')
  have hdep : ∀ d, d ∈ ds → X.A.units + 2 + d.depth < cLine := fun d hd => by
    have := dpN_ok 2 d (rk_dp (hrk d hd) hn)
    omega
  have hlen : its.length = ds.length := by rw [← RpAll.len hr]; exact rv.length.symm
  have hL : its.length ≤ sizeLine := by rw [hlen]; exact small_line hz
  have er' : PySem.W.EachIs (fun v (b : V × D) => ∃ as, Reads (PySem.W.sortingHeap (PySem.W.copyHeap s.heap its) (s.heap.objs.size + 1) its) v b.2 as) its (xs.zip ds) := er.mono fun _ _ ⟨as, r⟩ => ⟨as, PyProof.Rows.Reads.keeps (fun _ _ => PySem.W.sorting_copy_old) r⟩
  have em := PySem.W.each_map (R := fun v d => ∃ as, Reads (PySem.W.sortingHeap (PySem.W.copyHeap s.heap its) (s.heap.objs.size + 1) its) v d as) Prod.snd er'
  have Z : PySem.W.SortsAt X.prog X.w X.A.in1.in1 { s with heap := PySem.W.sortingHeap (PySem.W.copyHeap s.heap its) (s.heap.objs.size + 1) its } (PySem.W.dataKind (PySem.W.sortingHeap (PySem.W.copyHeap s.heap its) (s.heap.objs.size + 1) its) ((xs.zip ds).map Prod.snd)) its := by
    rcases hS with hS | hS
    · exact PySem.W.SortsAt.data (s := { s with heap := PySem.W.sortingHeap (PySem.W.copyHeap s.heap its) (s.heap.objs.size + 1) its }) em hal (by rw [hsn]; exact hS) (by rw [hsn]; exact hdep)
    · rw [hsn, hS] at em ⊢
      refine sorts_one (s := { s with heap := PySem.W.sortingHeap (PySem.W.copyHeap s.heap its) (s.heap.objs.size + 1) its }) ?_ em
      show X.A.units + 2 < cLine
      omega
  refine PySem.W.sorted_vals hl.isList Z hL ?_
  have eo := PySem.W.sortVals_data (R := fun v (b : V × D) => RelV b.1 v) false e er' hal
  have rvo := each_vals eo
  obtain ⟨ep', he'⟩ := PyProof.Rows.sortedAll_at s.heap its (PySem.W.sortVals (PySem.W.dataKind (PySem.W.sortingHeap (PySem.W.copyHeap s.heap its) (s.heap.objs.size + 1) its) ((xs.zip ds).map Prod.snd)) false its its).toArray
  have hlo : (((xs.zip ds).mergeSort (PySem.W.dataLe false Prod.snd)).map Prod.fst).length ≤ sizeLine := by
    rw [List.length_map, List.length_mergeSort, List.length_zip, RpAll.len hr, Nat.min_self]
    exact small_line hz
  exact ⟨.ref _, upd H (s.heap.objs.size + 1) (.lst _), I.laid (t' := s.toks) (fun _ _ => PyProof.Rows.sortedAll_old) (Nat.le_succ _) ⟨hlo, _, ep', rvo, he'⟩, rfl, q _ (I.hok.fresh (Nat.le_succ _))⟩
theorem sort_data {ds : List D} (h : sortOk ds = true) : ds.mergeSort (PySem.W.dataLe false id) = sortE leE ds := by
  obtain ⟨hz, n, hn, hrk, _⟩ := sortOk_rank h
  have T := PySem.W.sortLe_total (listOrd itemOrd) false fun b : D => PySem.W.keyToks b
  rw [← sortE_merge (le := PySem.W.dataLe false id) (fun a b c h1 h2 => T.trans a b c h1 h2) (fun a b => (Bool.or_eq_true _ _).mpr (T.total a b)) ds]
  refine sortE_congr fun a ha b hb => ?_
  show (!PySem.W.dataLt b a) = !ltN 3 b a
  rw [ltN_ok (hrk b hb) (hrk a ha) (by omega) (by omega)]
def sortedD : D → Res D
  | .list ds => if sortOk ds = true then .ok (.list (sortE leE ds)) else .bad
  | _ => .bad
theorem cd_sorted {X : Cx} {k : Nat} (hr : Room k X.A) : CallD X (.builtin "sorted") (on1 sortedD) := by
  refine cd1 (cr_sortP (by have := hr.un; omega)) fun W σ Hs H v d Q e rv h => ?_
  cases d with
  | list ds =>
    refine post_mk h fun hk h => ?_
    obtain ⟨p, ws, rfl, h1, r1⟩ := rv.list e
    refine ⟨p, ws, ds, rfl, h1, RpAll.ex e r1, hk, fun l hl => ?_⟩
    have hm : ((ws.zip ds).mergeSort (PySem.W.dataLe false Prod.snd)).map Prod.snd = sortE leE ds := by
      rw [List.map_mergeSort (r := PySem.W.dataLe false Prod.snd) (s := PySem.W.dataLe false id) (f := Prod.snd) (fun a _ b _ => rfl), zip_snd r1, sort_data hk]
    have hp := pairs_rp (l := (ws.zip ds).mergeSort (PySem.W.dataLe false Prod.snd)) (H := Hs) (K := X.K) fun p hp => zip_rp r1 p ((List.mergeSort_perm _ _).mem_iff.mp hp)
    rw [hm] at hp
    exact mkL_post h e hp hl
  | _ => exact h.elim
theorem bt_sorted : bootBuiltins "sorted" = some (.builtin "sorted") := by decide +kernel
end SB
end
end

section
set_option Elab.async false
set_option linter.all false
set_option maxRecDepth 100000
set_option maxHeartbeats 4000000
noncomputable section
namespace SB
open PySem PySem.Spec L2 Evl PyProof.Rows
/-! ### isinstance -/
def isIntD : D → Bool
  | .int _ => true
  | .bool _ => true
  | _ => false
def isBoolD : D → Bool
  | .bool _ => true
  | _ => false
def isTupleD : D → Bool
  | .tuple _ => true
  | _ => false
def isListD : D → Bool
  | .list _ => true
  | _ => false
def isStrD : D → Bool
  | .str _ => true
  | _ => false
def tyD : D → String
  | .none => "NoneType"
  | .bool _ => "bool"
  | .int _ => "int"
  | .str _ => "str"
  | .list _ => "list"
  | .tuple _ => "tuple"
  | .dict _ => "dict"
theorem rp_ty {K : PySem.W.Frag} {H : Hp} {v : V} {d : D} (h : Rp K H v d) : TyX K H v (.type (tyD d)) := by
  cases h with
  | non => exact .base .non
  | bl b => exact .base (.bl b)
  | int i => exact .base (.int i)
  | str x => exact .base (.str x)
  | lst h q =>
    rcases h with (h | ⟨o, h⟩) | ⟨o, its, n, h1, h2, _⟩
    · exact .base (.lst h)
    · exact .base (.frz h)
    · exact .kList h1 h2
  | tup h q => exact .base (.tup h)
def xIsi (g : D → Bool) (f : DEnv → Res D) : DEnv → Res D := fun ρ => (f ρ).bind fun d => .ok (.bool (g d))
structure IsiAt (T : String) (g : D → Bool) : Prop where
  at_ : ∀ d : D, (∀ es, d ≠ .dict es) → kitB (tyD d) T = some (g d)
theorem isi_of {T : String} {g : D → Bool} (h1 : kitB "NoneType" T = some (g .none)) (h2 : ∀ b, kitB "bool" T = some (g (.bool b))) (h3 : ∀ i, kitB "int" T = some (g (.int i))) (h4 : ∀ x, kitB "str" T = some (g (.str x))) (h5 : ∀ x, kitB "list" T = some (g (.list x))) (h6 : ∀ x, kitB "tuple" T = some (g (.tuple x))) : IsiAt T g := by
  refine ⟨fun d hd => ?_⟩
  cases d with
  | none => exact h1
  | bool b => exact h2 b
  | int i => exact h3 i
  | str x => exact h4 x
  | list x => exact h5 x
  | tuple x => exact h6 x
  | dict es => exact absurd rfl (hd es)
theorem kb1 : kitB "NoneType" "int" = some false := by decide +kernel
theorem kb2 : kitB "bool" "int" = some true := by decide +kernel
theorem kb3 : kitB "int" "int" = some true := by decide +kernel
theorem kb4 : kitB "str" "int" = some false := by decide +kernel
theorem kb5 : kitB "list" "int" = some false := by decide +kernel
theorem kb6 : kitB "tuple" "int" = some false := by decide +kernel
theorem isi_int : IsiAt "int" isIntD := isi_of kb1 (fun _ => kb2) (fun _ => kb3) (fun _ => kb4) (fun _ => kb5) (fun _ => kb6)
theorem kc1 : kitB "NoneType" "bool" = some false := by decide +kernel
theorem kc2 : kitB "bool" "bool" = some true := by decide +kernel
theorem kc3 : kitB "int" "bool" = some false := by decide +kernel
theorem kc4 : kitB "str" "bool" = some false := by decide +kernel
theorem kc5 : kitB "list" "bool" = some false := by decide +kernel
theorem kc6 : kitB "tuple" "bool" = some false := by decide +kernel
theorem isi_bool : IsiAt "bool" isBoolD := isi_of kc1 (fun _ => kc2) (fun _ => kc3) (fun _ => kc4) (fun _ => kc5) (fun _ => kc6)
theorem kd1 : kitB "NoneType" "tuple" = some false := by decide +kernel
theorem kd2 : kitB "bool" "tuple" = some false := by decide +kernel
theorem kd3 : kitB "int" "tuple" = some false := by decide +kernel
theorem kd4 : kitB "str" "tuple" = some false := by decide +kernel
theorem kd5 : kitB "list" "tuple" = some false := by decide +kernel
theorem kd6 : kitB "tuple" "tuple" = some true := by decide +kernel
theorem isi_tuple : IsiAt "tuple" isTupleD := isi_of kd1 (fun _ => kd2) (fun _ => kd3) (fun _ => kd4) (fun _ => kd5) (fun _ => kd6)
theorem ke1 : kitB "NoneType" "list" = some false := by decide +kernel
theorem ke2 : kitB "bool" "list" = some false := by decide +kernel
theorem ke3 : kitB "int" "list" = some false := by decide +kernel
theorem ke4 : kitB "str" "list" = some false := by decide +kernel
theorem ke5 : kitB "list" "list" = some true := by decide +kernel
theorem ke6 : kitB "tuple" "list" = some false := by decide +kernel
theorem isi_list : IsiAt "list" isListD := isi_of ke1 (fun _ => ke2) (fun _ => ke3) (fun _ => ke4) (fun _ => ke5) (fun _ => ke6)
theorem kf1 : kitB "NoneType" "str" = some false := by decide +kernel
theorem kf2 : kitB "bool" "str" = some false := by decide +kernel
theorem kf3 : kitB "int" "str" = some false := by decide +kernel
theorem kf4 : kitB "str" "str" = some true := by decide +kernel
theorem kf5 : kitB "list" "str" = some false := by decide +kernel
theorem kf6 : kitB "tuple" "str" = some false := by decide +kernel
theorem isi_str : IsiAt "str" isStrD := isi_of kf1 (fun _ => kf2) (fun _ => kf3) (fun _ => kf4) (fun _ => kf5) (fun _ => kf6)
theorem bt_isinstance : bootBuiltins "isinstance" = some (.builtin "isinstance") := by decide +kernel
theorem bt_int : bootBuiltins "int" = some (.type "int") := by decide +kernel
theorem bt_bool : bootBuiltins "bool" = some (.type "bool") := by decide +kernel
theorem bt_str : bootBuiltins "str" = some (.type "str") := by decide +kernel
theorem bt_all : bootBuiltins "all" = some (.builtin "all") := by decide +kernel
theorem bt_any : bootBuiltins "any" = some (.builtin "any") := by decide +kernel
theorem bt_max : bootBuiltins "max" = some (.builtin "max") := by decide +kernel
theorem bt_min : bootBuiltins "min" = some (.builtin "min") := by decide +kernel
theorem Rp.nodict {K : PySem.W.Frag} {H : Hp} {v : V} {d : D} (h : Rp K H v d) : ∀ es, d ≠ .dict es := by
  cases h <;> (intro es z; cases z)
section
variable {X : Cx} {W : WD} {b : Bool}
theorem de_isi {T : String} {g : D → Bool} {x : Str} {e : Expr} {p p2 pos : Pos} {f : DEnv → Res D} (hI : IsiAt T g) (hv : bootBuiltins x = some (.type T)) (hg : Gl X "isinstance") (hm : X.mg "isinstance" = none) (hgT : Gl X x) (hmT : X.mg x = none) (h : DE X W true e f)
    (hn : x ≠ "__name__" := by decide) (hd : (x == ("__debug__" : Str)) = false := by decide)
    (hs : starEach (e :: [.Name x p2]) X.env = (false, eval e X.env) :: starEach [.Name x p2] X.env := by rfl) (hs2 : starEach (.Name x p2 :: []) X.env = (false, eval (.Name x p2) X.env) :: starEach [] X.env := by rfl)
    (hpl : (backTo pos (starEach [.Name x p2] X.env)).any (·.1) = false := by rfl) : DE X W b (.Call (.Name "isinstance" p) [e, .Name x p2] [] pos) (xIsi g f) := by
  obtain ⟨t, pt, q⟩ := h.ex
  refine ⟨_, pe_callB call_isi hg hm bt_isinstance (pa_cons pt (pa_cons (pe_bltn hgT hmT hv (v := .ty T) rfl hn hd) pa_nil hs2) hs) (by decide) (by decide) hs hpl, fun Hs0 H0 ρ σ Hs H Q e h => ?_⟩
  refine q _ _ ρ σ Hs H _ e ((PostA.bind h).mono fun d Hs1 H1 s1 h1 v rv => ?_)
  have r := rv.whole s1.sub
  refine ⟨v, .ty T, .type (tyD d), .type T, g d, rfl, .ty T, rp_ty r, kit_ty (hI.at_ d (Rp.nodict r)), ?_⟩
  exact PostA.now s1.sub h1 _ (.of (.bl _))
end
/-! ### all, any: lists of truths -/
def bools : List D → Option (List Bool)
  | [] => some []
  | .bool i :: r => (bools r).map (i :: ·)
  | _ => none
theorem bools_map (ns : List Bool) : bools (ns.map .bool) = some ns := by
  induction ns with
  | nil => rfl
  | cons n r ih => simp [bools, ih]
theorem bools_rp {K : PySem.W.Frag} {H : Hp} : ∀ {vs : List V} {ds : List D} {ns : List Bool}, RpAll K H vs ds → bools ds = some ns → vs = ns.map V.bl
  | _, _, ns, .nil, e => by cases e; rfl
  | _, _, ns, .cons (ds := ds) h r, e => by
    cases h with
    | bl i =>
      simp only [bools] at e
      cases q : bools ds with
      | none => rw [q] at e; cases e
      | some ms =>
        rw [q] at e
        cases e
        rw [bools_rp r q]
        rfl
    | _ => cases e
def allD : D → Res D
  | .list xs => match bools xs with | some bs => .ok (.bool (bs.all id)) | none => .bad
  | _ => .bad
def anyD : D → Res D
  | .list xs => match bools xs with | some bs => .ok (.bool (bs.any id)) | none => .bad
  | _ => .bad
section
variable {X : Cx} {W : WD}
theorem cd_all (hc : X.calm = true) : CallD X (.builtin "all") (on1 allD) := by
  refine cd1 (cr_all hc) fun W σ Hs H v d Q e rv h => ?_
  cases d with
  | list xs =>
    obtain ⟨p, ws, rfl, h1, r1⟩ := rv.list e
    change Post X.K false W σ Hs H Q (match bools xs with | some ns => .ok (.bool (ns.all id)) | none => .bad) at h
    cases q : bools xs with
    | none => rw [q] at h; exact h.elim
    | some ns =>
      rw [q] at h
      have := bools_rp r1 q
      subst this
      exact ⟨p, ns, rfl, h1, h.now e _ (.of (.bl _))⟩
  | _ => exact h.elim
theorem cd_any (hc : X.calm = true) : CallD X (.builtin "any") (on1 anyD) := by
  refine cd1 (cr_any hc) fun W σ Hs H v d Q e rv h => ?_
  cases d with
  | list xs =>
    obtain ⟨p, ws, rfl, h1, r1⟩ := rv.list e
    change Post X.K false W σ Hs H Q (match bools xs with | some ns => .ok (.bool (ns.any id)) | none => .bad) at h
    cases q : bools xs with
    | none => rw [q] at h; exact h.elim
    | some ns =>
      rw [q] at h
      have := bools_rp r1 q
      subst this
      exact ⟨p, ns, rfl, h1, h.now e _ (.of (.bl _))⟩
  | _ => exact h.elim
/-! ### max, min of two numbers -/
def max2D : D → D → Res D
  | .int i, .int j => .ok (.int (if i < j then j else i))
  | _, _ => .bad
def min2D : D → D → Res D
  | .int i, .int j => .ok (.int (if j < i then j else i))
  | _, _ => .bad
theorem cd_max2 (hc : X.calm = true) : CallD X (.builtin "max") (on2 max2D) := by
  refine cd2 (call_max2 hc) fun W σ Hs H v v' d d' Q e rv rv' h => ?_
  cases d with
  | int i =>
    cases d' with
    | int j =>
      have e1 := rv.int
      have e2 := rv'.int
      subst e1 e2
      exact ⟨i, j, rfl, h.now e _ (.of (.int _))⟩
    | _ => exact h.elim
  | _ => cases d' <;> exact h.elim
theorem cd_min2 (hc : X.calm = true) : CallD X (.builtin "min") (on2 min2D) := by
  refine cd2 (call_min2 hc) fun W σ Hs H v v' d d' Q e rv rv' h => ?_
  cases d with
  | int i =>
    cases d' with
    | int j =>
      have e1 := rv.int
      have e2 := rv'.int
      subst e1 e2
      exact ⟨i, j, rfl, h.now e _ (.of (.int _))⟩
    | _ => exact h.elim
  | _ => cases d' <;> exact h.elim
def intD : D → Res D
  | .int i => .ok (.int i)
  | .bool k => .ok (.int (if k then 1 else 0))
  | _ => .bad
theorem cd_int : CallD X (.type "int") (on1 intD) := by
  refine cd1 call_int1 fun W σ Hs H v d Q e rv h => ?_
  cases d with
  | int i =>
    have e1 := rv.int
    subst e1
    exact .inl ⟨i, rfl, h.now e _ (.of (.int _))⟩
  | bool i =>
    have e1 := rv.bool
    subst e1
    exact .inr ⟨i, rfl, h.now e _ (.of (.int _))⟩
  | _ => exact h.elim
end
end SB
end
end

section
set_option Elab.async false
set_option linter.all false
set_option maxRecDepth 100000
set_option maxHeartbeats 4000000
noncomputable section
namespace SB
open PySem PySem.Spec L2 Evl PyProof.Rows
/-! ### a statement that is not reached -/
theorem ds_bad {X : Cx} {W : WD} {st : Stmt} : DS X W st (fun _ => .bad) :=
  ⟨fun _ _ _ => False, ⟨fun pins s σ H D I h => h.elim⟩, fun Hs0 H0 ρ σ Hs H E e h => h.elim⟩
/-! ### t[::-1] -/
section
variable {prog : Program} {w : World} {A : Around} {E : Value → Shared → Prop} {s : Shared}
theorem sliceApplied_rev {sa : Addr} {wl wu vs : Value} {n : Nat} {Q : Int × Int × Nat → Shared → Prop} (hs : s.heap.IsSliceOf sa wl wu vs) (pl : IsPart wl none) (pu : IsPart wu none) (ps : IsPart vs (some (-1)))
    (h : Q ((n : Int) - 1, -1, n) s) : wpAny (model prog w) A (Builtin.Slice.sliceApplied (.ref sa) (pure (n : Int))) Q E s := by
  obtain ⟨ob0, hob, hcl, hdt⟩ := id hs
  unfold Builtin.Slice.sliceApplied Builtin.Slice.sliceFields
  refine wpAny_bind (wpAny_bind (wpAny_field hob hdt (x := wl) rfl (wpAny_bind (wpAny_field hob hdt (x := wu) rfl (wpAny_bind (wpAny_field hob hdt (x := vs) rfl (wpAny_pure ?_)))))))
  refine wpAny_bind (HT.slicePart_ ps ?_)
  show wpAny _ _ (if ((-1 : Int) == 0) = true then _ else _) _ _ s
  rw [if_neg (by decide)]
  refine wpAny_bind (HT.slicePart_ pl (wpAny_bind (HT.slicePart_ pu (wpAny_bind (wpAny_pure ?_)))))
  show wpAny _ _ (match Builtin.Slice.sliceAdjust none none (-1) (n : Int) with | (lo, hi) => pure (lo, (-1 : Int), Builtin.Slice.slicePlaces lo hi (-1))) _ _ s
  have e1 : Builtin.Slice.sliceAdjust none none (-1) (n : Int) = ((n : Int) - 1, -1) := rfl
  rw [e1]
  show wpAny _ _ (pure ((n : Int) - 1, (-1 : Int), Builtin.Slice.slicePlaces ((n : Int) - 1) (-1) (-1))) _ _ s
  have e2 : Builtin.Slice.slicePlaces ((n : Int) - 1) (-1) (-1) = n := by
    unfold Builtin.Slice.slicePlaces
    rw [if_neg (by decide)]
    show (if (n : Int) - 1 > -1 then ((n : Int) - 1 - -1 - 1) / 1 + 1 else 0).toNat = n
    rw [Int.ediv_one]
    split <;> omega
  rw [e2]
  exact wpAny_pure h
theorem pick_rev (xs : Array Value) : ((List.range xs.size).filterMap fun (m : Nat) => xs[((xs.size : Int) - 1 + (m : Int) * (-1)).toNat]?).toArray = xs.toList.reverse.toArray := by
  congr 1
  have e3 : (List.range xs.size).filterMap (fun (m : Nat) => xs[((xs.size : Int) - 1 + (m : Int) * (-1)).toNat]?) = (List.range xs.size).filterMap fun m => xs[xs.size - 1 - m]? := by
    have key : ∀ l : List Nat, (∀ m, m ∈ l → m < xs.size) → l.filterMap (fun (m : Nat) => xs[((xs.size : Int) - 1 + (m : Int) * (-1)).toNat]?) = l.filterMap fun m => xs[xs.size - 1 - m]? := by
      intro l
      induction l with
      | nil => intro _; rfl
      | cons m l ih =>
        intro h
        have h1 := h m (by simp)
        have e4 : ((xs.size : Int) - 1 + (m : Int) * (-1)).toNat = xs.size - 1 - m := by omega
        rw [List.filterMap_cons, List.filterMap_cons, ih fun k hk => h k (by simp [hk]), e4]
    exact key _ fun m hm => List.mem_range.mp hm
  rw [e3]
  have := PySem.W.krv_range xs.size
  rw [show ((List.range xs.size).filterMap fun m => xs[xs.size - 1 - m]?) = (((List.range xs.size).map fun k => xs.size - 1 - k).filterMap (xs[·]?)) by rw [List.filterMap_map]; rfl, this, List.filterMap_reverse, PySem.W.krv_all]
theorem getItem_tuple_rev {t sa : Addr} {its0 : Array Value} {wl wu vs : Value} {Q : Value → Shared → Prop} (hT : IsTup s.heap t its0) (hs : s.heap.IsSliceOf sa wl wu vs) (pl : IsPart wl none) (pu : IsPart wu none) (ps : IsPart vs (some (-1)))
    (h : Q (.ref s.heap.objs.size) { s with heap := s.heap.push { cls := .type "tuple", data := .seq its0.toList.reverse.toArray } })
    (hsz : its0.size ≤ sizeLine) : wpAny (model prog w) A (getItem (.ref t) (.ref sa)) Q E s := by
  have hfit : sizeOk (.seq its0.toList.reverse.toArray) := by
    show its0.toList.reverse.toArray.size ≤ sizeLine
    rw [List.size_toArray, List.length_reverse, Array.length_toList]
    exact hsz
  obtain ⟨ob0, hob, hcl, hdt⟩ := id hs
  have hTy : s.TypeIs (.ref sa) "slice" := ⟨ob0, hob, hcl⟩
  unfold getItem
  (try with_reducible refine wpAny_holding ?_); (first | refine wpAny_bind (wpAny_pure ?_) | skip)
  refine wpAny_bind (wpAny_sequenceKey hT.typeIs (by decide) ?_)
  refine wpAny_bind (wpAny_callSpecial?_slot (name := Str.ofString "__getitem__") hT.typeIs PyProof.Rows.slot_tuple_getitem
    (wpAny_call_entry PyProof.Rows.slot_tuple_getitem hT.typeIs entry_tuple_getitem ?_ (args_tuple_getitem _ _)))
  show wpAny _ _ (Builtin.Tuple.tupleItemsOf (.ref t) >>= _) _ _ s
  refine wpAny_bind (tupleItemsOf_ hT ?_)
  refine wpAny_bind (wpAny_typeOf hTy ?_)
  rw [if_pos (by decide)]
  refine wpAny_bind (sliceApplied_rev hs pl pu ps ?_)
  have hno : ¬ ((((its0.size : Int) - 1) == 0 && (-1 : Int) == 1 && its0.size == its0.size) = true) := by
    intro q
    rw [Bool.and_eq_true, Bool.and_eq_true] at q
    exact absurd q.1.2 (by decide)
  show wpAny _ _ (if (((its0.size : Int) - 1) == 0 && (-1 : Int) == 1 && its0.size == its0.size) = true then _ else _) _ _ s
  rw [if_neg hno, pick_rev]
  first
    | exact wpAny_bind (m := Builtin.Tuple.tupleExact _) (wpAny_newObj_type (wpAny_pure ⟨_, rfl, wpAny_pure h⟩) hfit)
    | exact wpAny_bind (m := Builtin.Tuple.tupleExact _) (wpAny_newObj_type (wpAny_bind (wpAny_pure (wpAny_pure ⟨_, rfl, wpAny_pure h⟩))) hfit)
end
section
variable {X : Cx} {W : WD} {b : Bool}
def tRevT (K : PySem.W.Frag) (te : TE) : TE := fun σ H Q => te σ H fun x G1 => ∃ a xs, x = .ref a ∧ SqT K G1 a xs ∧ ∀ p, G1 p = none → Q (.ref p) (upd G1 p (.tup xs.reverse))
theorem pe_revT {e : Expr} {te : TE} {k : Nat} {p1 p2 p3 pos : Pos} (he : PE X e te) : PE X (.Subscript e (.Slice none none (some (.UnaryOp .USub (.Constant (.int 1) k p1) p2)) p3) pos) (tRevT X.K te) := by
  refine ⟨fun pins s σ H Q I h => Subscript_ (thn (he.run pins s σ H _ I h) fun v z1 ⟨x, G1, J1, r1, k1⟩ => ?_)⟩
  obtain ⟨a, xs, exx, hx, q⟩ := k1
  subst exx
  cases r1
  have hmin : PO X (some (.UnaryOp .USub (.Constant (.int 1) k p1) p2)) (tPart (tUn (rU fun i => .int (-i)) (tC (.int 1)))) := po_some (pe_un un_neg pe_int)
  refine wpAny_Slice (thn (po_none.run pins z1 σ G1 (fun o G2 => o = none ∧ G2 = G1) J1 ⟨rfl, rfl⟩) fun wl z2 ⟨l, G2, J2, pl, el1, e2⟩ => ?_)
  subst el1 e2
  refine thn (po_none.run pins z2 σ G2 (fun o G3 => o = none ∧ G3 = G2) J2 ⟨rfl, rfl⟩) fun wu z3 ⟨u, G3, J3, pu, eu1, e3⟩ => ?_
  subst eu1 e3
  refine thn (hmin.run pins z3 σ G3 (fun o G4 => o = some (-1) ∧ G4 = G3) J3 ⟨1, rfl, -1, rfl, rfl, rfl⟩) fun vs z4 ⟨o, G4, J4, ps, eo1, e4⟩ => ?_
  subst eo1 e4
  have J5 : Inv X pins σ G4 { z4 with heap := z4.heap.push { cls := .type "slice", data := .fields #[wl, wu, vs] } } := J4.kept (t' := z4.toks) fun b ob q => Heap.get?_push_of_some _ q
  obtain ⟨its, r, hT, hz⟩ := J5.tuple hx
  have hlen := r.length
  show wpAny (model X.prog X.w) X.A (subscriptTail e (.Slice none none (some (.UnaryOp .USub (.Constant (.int 1) k p1) p2)) p3) (.ref a) (.ref z4.heap.objs.size)) (EP X pins σ Q) X.xe { z4 with heap := z4.heap.push { cls := .type "slice", data := .fields #[wl, wu, vs] } }
  refine tail_any (ops := [.ref a, .ref z4.heap.objs.size]) hT.typeIs (PyProof.Rows.slot_tuple_getitem.lookup) ?_ (by with_unfolding_all rfl)
  refine getItem_tuple_rev hT (Heap.IsSliceOf.new _ wl wu vs) pl pu ps ?_ (by rw [List.size_toArray]; omega)
  refine ⟨.ref _, _, J5.laid (t' := z4.toks) (o := .tup xs.reverse) (fun b ob q => Heap.get?_push_of_some _ q) (Nat.le_refl _) ?_, rfl, q _ (J5.hok.fresh (Nat.le_refl _))⟩
  exact ⟨by rw [List.length_reverse]; exact hz, _, r.reverse, IsTup.new _ _⟩
def revD : D → Res D
  | .tuple xs => .ok (.tuple xs.reverse)
  | _ => .bad
def xRev (f : DEnv → Res D) : DEnv → Res D := fun ρ => (f ρ).bind revD
theorem de_rev {e : Expr} {f : DEnv → Res D} {k : Nat} {p1 p2 p3 pos : Pos} (h : DE X W true e f) : DE X W b (.Subscript e (.Slice none none (some (.UnaryOp .USub (.Constant (.int 1) k p1) p2)) p3) pos) (xRev f) := by
  obtain ⟨t, pt, q⟩ := h.ex
  refine ⟨_, pe_revT pt, fun Hs0 H0 ρ σ Hs H Q e h => ?_⟩
  refine q _ _ ρ σ Hs H _ e ((PostA.bind h).mono fun d Hs1 H1 s1 h1 v rv => ?_)
  cases d with
  | tuple xs =>
    obtain ⟨p, ws, rfl, g1, r1⟩ := rv.tuple
    exact ⟨p, ws, rfl, .inl (ex_td s1.sub g1), fun l hl => mkT_post h1 s1.sub (RpAll.reverse r1) hl⟩
  | _ => exact h1.elim
/-! ### zip of two tuples -/
theorem walk_zipT {K : PySem.W.Frag} {a b : Addr} {xs ys : List V} {n : Nat} (hn : n = min xs.length ys.length) : Walk (RZ.ItzT K a b) n (fun H => SqT K H a xs ∧ SqT K H b ys) (YPair (fun i => xs[i]?) (fun i => ys[i]?)) := by
  subst hn
  refine ⟨fun j _ hj q => ?_, fun _ q => ⟨xs, ys, q.1, q.2, by omega⟩, fun i H v H' _ q y => ?_⟩
  · have e1 : j < xs.length := by omega
    have e2 : j < ys.length := by omega
    exact ⟨xs, ys, xs[j], ys[j], q.1, q.2, by simp [e1], by simp [e2]⟩
  · obtain ⟨T, x, z, e1, e2, e3, e4, e5⟩ := y
    exact ⟨T, x, z, e1, e2, e3, e4 xs q.1, e5 ys q.2⟩
def zipD : List D → Res (List D)
  | [.tuple xs, .tuple ys] => .ok ((xs.zip ys).map fun p => .tuple [p.1, p.2])
  | _ => .bad
theorem di_zip {e e2 : Expr} {fs : DEnv → Res (List D)} {p pos tpos : Pos} {elts : List Expr} {kk : Nat} (hg : Gl X "zip") (hm : X.mg "zip" = none) (ha : DA X W b [e, e2] fs)
    (hs : starEach [e, e2] X.env = (false, eval e X.env) :: starEach [e2] X.env := by rfl) (hpl : (backTo pos (starEach [e2] X.env)).any (·.1) = false := by rfl) :
    DI X W b (.Tuple elts kk tpos) (.Call (.Name "zip" p) [e, e2] [] pos) (xIt zipD fs) := by
  obtain ⟨t, pt, q⟩ := ha.ex
  refine ⟨_, RZ.pi_zipA hg hm pt hs hpl, fun Hs0 H0 ρ σ Hs H R e h => ?_⟩
  refine q _ _ ρ σ Hs H _ e ((PostA.bind h).mono fun ds Hs1 H1 s1 h1 vs rvs => ?_)
  match ds, rvs, h1 with
  | [.tuple xs, .tuple ys], rvs, h1 =>
    obtain ⟨v, v', rfl, rv, rv'⟩ := rps2 rvs
    obtain ⟨p1, ws, rfl, g1, r1⟩ := rv.tuple
    obtain ⟨p2, us, rfl, g2, r2⟩ := rv'.tuple
    refine ⟨p1, p2, ws, us, rfl, .inr ⟨.inl (ex_td s1.sub g1), .inl (ex_td s1.sub g2), ?_⟩⟩
    refine PostA.now s1.sub h1 _ (walked_pair ?_ (walk_zipT rfl) (fun H' a c => ⟨.inl (ex_td a g1), .inl (ex_td a g2)⟩) fun i x y hi hx hy => ?_)
    · rw [List.length_map, List.length_zip, RpAll.len r1, RpAll.len r2]
    · obtain ⟨d, hd, rd⟩ := RpAll.getV r1 hx
      obtain ⟨d', hd', rd'⟩ := RpAll.getV r2 hy
      refine ⟨d, d', ?_, rd, rd'⟩
      rw [List.getElem?_map, (List.getElem?_zip_eq_some (z := (d, d'))).mpr ⟨hd, hd'⟩]
      rfl
end
end SB
end
end

section
set_option Elab.async false
set_option linter.all false
set_option maxRecDepth 100000
set_option maxHeartbeats 4000000
noncomputable section
namespace SB
open PySem PySem.Spec L2 Evl PyProof.Rows PySem.Calls
/-! ### sorted(tuple) -/
section
variable {prog : Program} {w : World} {A : Around} {E : Value → Shared → Prop} {s : Shared}
theorem collectT {l : Addr} {us : List Value} {Q : List Value → Shared → Prop} (hT : IsTup s.heap l us.toArray) (hz : us.length ≤ sizeLine)
    (k : Q us { s with heap := (s.heap.push (seqObj "list" #[] 0)).update s.heap.objs.size (Obj.mapSeq (· ++ us.toArray)) }) : wpAny (model prog w) A (collect (.ref l)) Q E s := by
  obtain ⟨ob, hob, hcl, n, hdt⟩ := id hT
  unfold collect
  refine wpAny_bind (wpAny_runValue (codeAny_builtin entry_proto_collect' ?go))
  show wpAny _ _ (do again (.builtin "list.__iadd__" ⟨[← newList [], .ref l], []⟩)) _ _ s
  refine wpAny_bind (wpAny_newList (wpAny_pure ⟨Code.quiet_builtin _ (by decide +kernel), codeAny_builtin entry_list_iadd' ?in_⟩))
  show wpAny _ _ (Builtin.List.listExtendWith (.ref s.heap.objs.size) (.ref l) (.ref s.heap.objs.size)) _ _ { s with heap := s.heap.push (seqObj "list" #[] 0) }
  unfold Builtin.List.listExtendWith
  have hob' : (s.heap.push (seqObj "list" #[] 0)).get? l = some ob := Heap.get?_push_of_some _ hob
  refine wpAny_bind (wpAny_typeOf (T := "tuple") ⟨ob, hob', hcl⟩ ?_)
  have hty : (Value.type "tuple" == Value.type "tuple") = true := by rfl
  rw [if_pos (by rw [hty]; simp)]
  refine wpAny_bind (listItems_at hob' hdt (wpAny_bind (listItems_at (xs := #[]) (n := 0) (Heap.get?_push_size _ rfl) rfl ?_)))
  rw [if_neg (by simp)]
  refine wpAny_bind (listUpdate_at (xs := #[]) (n := 0) (Heap.get?_push_size _ rfl) rfl (wpAny_pure ?_) (Nat.zero_le _) (by show (#[] ++ us.toArray).size ≤ sizeLine + 1; simp only [Array.size_append, List.size_toArray, List.length_nil]; omega))
  show wpAny (model prog w) A (do
      let ob ← load s.heap.objs.size
      match ob.data with
      | .seq xs _ => pure xs.toList
      | _ => unsupported "internal:collect") Q E { s with heap := (s.heap.push (seqObj "list" #[] 0)).update s.heap.objs.size (Obj.mapSeq (· ++ us.toArray)) }
  refine wpAny_bind (wpAny_load (get?_update_seq (Heap.get?_push_size _ rfl) _) ?_)
  show wpAny _ _ (pure ((#[] : Array Value) ++ us.toArray).toList) Q E _
  have e : ((#[] : Array Value) ++ us.toArray).toList = us := by simp
  rw [e]
  exact wpAny_pure k
theorem sortT_vals {κ : PyProof.Rows.KeyKind} {l : Addr} {us : List Value} {Q : Value → Shared → Prop} (hT : IsTup s.heap l us.toArray) (Z : PySem.W.SortsAt prog w A.in1.in1 { s with heap := PySem.W.sortingHeap (PySem.W.copyHeap s.heap us) (s.heap.objs.size + 1) us } κ us) (hz : us.length ≤ sizeLine)
    (k : Q (.ref (s.heap.objs.size + 1)) { s with heap := sortedAll s.heap us (PySem.W.sortVals κ false us us).toArray }) : wpAny (model prog w) A (call (.builtin "sorted") [.ref l]) Q E s := by
  refine Calls.call_function_entry kind_sorted plain_sorted entry_sorted (args_sorted1 _) ?_
  unfold Builtin.«sorted»
  refine wpAny_bind (m := checkCount "sorted" 1 1 _) (wpAny_pure (wpAny_bind (collectT hT hz (wpAny_bind (wpAny_newList ?_ hz)))))
  have hs2 : ((s.heap.push (seqObj "list" #[] 0)).update s.heap.objs.size (Obj.mapSeq (· ++ us.toArray))).objs.size = s.heap.objs.size + 1 := by rw [Heap.size_update, size_push']
  show wpAny _ _ _ _ _ { s with heap := PySem.W.copyHeap s.heap us }
  rw [hs2]
  refine wpAny_bind (wpAny_holding (wpAny_call_entry slot_list_sort ⟨_, PySem.W.copyHeap_at s.heap us, rfl⟩ entry_list_sort ?b (args_list_sort _)))
  case b =>
    refine wpAny_mono (PySem.W.list_sort_vals (P := fun f s' => f = .done (.ret .none) ∧ Q (.ref (s.heap.objs.size + 1)) s') (s := { s with heap := PySem.W.copyHeap s.heap us }) (PySem.W.copyHeap_at s.heap us) Z hz ⟨rfl, k⟩) (fun f s' hf => ?_) fun _ _ x => x
    obtain ⟨rfl, hq⟩ := hf
    exact ⟨_, rfl, wpAny_pure ⟨_, rfl, hq⟩⟩
end

def rSortT (K : PySem.W.Frag) : List V → Hp → VK → Prop := fun vs H Q => ∃ (a : Addr) (xs : List V) (ds : List D), vs = [V.ref a] ∧ SqT K H a xs ∧ RpAll K H xs ds ∧ sortOk ds = true ∧
  ∀ p, H p = none → Q (.ref p) (upd H p (.lst (((xs.zip ds).mergeSort (PySem.W.dataLe false Prod.snd)).map Prod.fst)))
theorem cr_sortT {X : Cx} (hu : X.A.units + 64 < cLine) : CallR X (.builtin "sorted") (rSortT X.K) := by
  intro pins s σ H vs us Q I r ⟨a, xs, ds, e0, hs, hr, hk, q⟩
  subst e0
  obtain ⟨its, rv, hT, _⟩ := I.tuple hs
  rw [Vals.ref1 r]
  obtain ⟨hz, n, hn, hrk, hS⟩ := sortOk_rank hk
  have ep := each_pairs I rv hr
  have e : PySem.W.EachIs (fun v (b : V × D) => RelV b.1 v) its (xs.zip ds) := ep.mono fun _ _ h => h.1
  have er : PySem.W.EachIs (fun v (b : V × D) => ∃ as, Reads s.heap v b.2 as) its (xs.zip ds) := ep.mono fun _ _ h => h.2
  have hsn := zip_snd hr
  have hal : PySem.W.AllAlike ((xs.zip ds).map Prod.snd) := by
    rw [hsn]
    exact fun d hd d' hd' => rk_alike (hrk d hd) (hrk d' hd')
  have hdep : ∀ d, d ∈ ds → X.A.units + 2 + d.depth < cLine := fun d hd => by
    have := dpN_ok 2 d (rk_dp (hrk d hd) hn)
    omega
  have hL : its.length ≤ sizeLine := by rw [← rv.length, RpAll.len hr]; exact small_line hz
  have er' : PySem.W.EachIs (fun v (b : V × D) => ∃ as, Reads (PySem.W.sortingHeap (PySem.W.copyHeap s.heap its) (s.heap.objs.size + 1) its) v b.2 as) its (xs.zip ds) := er.mono fun _ _ ⟨as, r⟩ => ⟨as, PyProof.Rows.Reads.keeps (fun _ _ => PySem.W.sorting_copy_old) r⟩
  have em := PySem.W.each_map (R := fun v d => ∃ as, Reads (PySem.W.sortingHeap (PySem.W.copyHeap s.heap its) (s.heap.objs.size + 1) its) v d as) Prod.snd er'
  have Z : PySem.W.SortsAt X.prog X.w X.A.in1.in1 { s with heap := PySem.W.sortingHeap (PySem.W.copyHeap s.heap its) (s.heap.objs.size + 1) its } (PySem.W.dataKind (PySem.W.sortingHeap (PySem.W.copyHeap s.heap its) (s.heap.objs.size + 1) its) ((xs.zip ds).map Prod.snd)) its := by
    rcases hS with hS | hS
    · exact PySem.W.SortsAt.data (s := { s with heap := PySem.W.sortingHeap (PySem.W.copyHeap s.heap its) (s.heap.objs.size + 1) its }) em hal (by rw [hsn]; exact hS) (by rw [hsn]; exact hdep)
    · rw [hsn, hS] at em ⊢
      refine sorts_one (s := { s with heap := PySem.W.sortingHeap (PySem.W.copyHeap s.heap its) (s.heap.objs.size + 1) its }) ?_ em
      show X.A.units + 2 < cLine
      omega
  refine sortT_vals hT Z hL ?_
  have rvo := each_vals (PySem.W.sortVals_data (R := fun v (b : V × D) => RelV b.1 v) false e er' hal)
  obtain ⟨ep', he'⟩ := PyProof.Rows.sortedAll_at s.heap its (PySem.W.sortVals (PySem.W.dataKind (PySem.W.sortingHeap (PySem.W.copyHeap s.heap its) (s.heap.objs.size + 1) its) ((xs.zip ds).map Prod.snd)) false its its).toArray
  have hlo : (((xs.zip ds).mergeSort (PySem.W.dataLe false Prod.snd)).map Prod.fst).length ≤ sizeLine := by
    rw [List.length_map, List.length_mergeSort, List.length_zip, RpAll.len hr, Nat.min_self]
    exact small_line hz
  exact ⟨.ref _, upd H (s.heap.objs.size + 1) (.lst _), I.laid (t' := s.toks) (fun _ _ => PyProof.Rows.sortedAll_old) (Nat.le_succ _) ⟨hlo, _, ep', rvo, he'⟩, rfl, q _ (I.hok.fresh (Nat.le_succ _))⟩
def sort2D : D → Res D
  | .list ds => if sortOk ds = true then .ok (.list (sortE leE ds)) else .bad
  | .tuple ds => if sortOk ds = true then .ok (.list (sortE leE ds)) else .bad
  | _ => .bad
theorem cd_sort2 {X : Cx} {k : Nat} (hr : Room k X.A) : CallD X (.builtin "sorted") (on1 sort2D) := by
  have hu : X.A.units + 64 < cLine := by have := hr.un; omega
  refine cd1 ((cr_sortP hu).or (cr_sortT hu)) fun W σ Hs H v d Q e rv h => ?_
  have fin : ∀ {ws : List V} {ds : List D} {l : Addr}, sortOk ds = true → RpAll X.K Hs ws ds → H l = none → Post X.K false W σ Hs H Q (.ok (.list (sortE leE ds))) → Q (.ref l) (upd H l (.lst (((ws.zip ds).mergeSort (PySem.W.dataLe false Prod.snd)).map Prod.fst))) := fun {ws ds l} hk r1 hl h => by
    have hm : ((ws.zip ds).mergeSort (PySem.W.dataLe false Prod.snd)).map Prod.snd = sortE leE ds := by
      rw [List.map_mergeSort (r := PySem.W.dataLe false Prod.snd) (s := PySem.W.dataLe false id) (f := Prod.snd) (fun a _ b _ => rfl), zip_snd r1, sort_data hk]
    have hp := pairs_rp (l := (ws.zip ds).mergeSort (PySem.W.dataLe false Prod.snd)) (H := Hs) (K := X.K) fun p hp => zip_rp r1 p ((List.mergeSort_perm _ _).mem_iff.mp hp)
    rw [hm] at hp
    exact mkL_post h e hp hl
  cases d with
  | list ds =>
    refine post_mk h fun hk h => ?_
    obtain ⟨p, ws, rfl, h1, r1⟩ := rv.list e
    exact .inl ⟨p, ws, ds, rfl, h1, RpAll.ex e r1, hk, fun l hl => fin hk r1 hl h⟩
  | tuple ds =>
    refine post_mk h fun hk h => ?_
    obtain ⟨p, ws, rfl, h1, r1⟩ := rv.tuple
    exact .inr ⟨p, ws, ds, rfl, .inl (ex_td e h1), RpAll.ex e r1, hk, fun l hl => fin hk r1 hl h⟩
  | _ => exact h.elim
/-! ### list(range(a, b)), reversed(range(n)), range(a, b, -1) -/
section
variable {X : Cx} {W : WD} {b : Bool}
def asInt : D → Res Int
  | .int i => .ok i
  | _ => .bad
def rgL (i j : Int) : Res D := if (big i && big j && small (j - i).toNat) = true then .ok (.list (upFrom i (j - i).toNat)) else .bad
def xListRg2 (fa fc : DEnv → Res D) : DEnv → Res D := fun ρ => (fa ρ).bind fun x => (fc ρ).bind fun y => (asInt x).bind fun i => (asInt y).bind fun j => rgL i j
def xListRg1 (fc : DEnv → Res D) : DEnv → Res D := fun ρ => (fc ρ).bind fun y => (asInt y).bind fun j => rgL 0 j
theorem rgV_rp {H : Hp} (i j : Int) : RpAll X.K H (rgV i j) (upFrom i (j - i).toNat) := by
  unfold rgV upFrom
  generalize List.range (j - i).toNat = l
  induction l with
  | nil => exact .nil
  | cons a l ih => exact .cons (.int _) ih
theorem asInt_post {α : Type} {σ : L2.St} {Hs H : Hp} {K : α → Hp → Hp → Prop} {v : V} {d : D} {k : Int → Res α} (rv : Rep true X.K Hs H v d) (h : PostA W σ Hs H K ((asInt d).bind k)) : ∃ i, d = .int i ∧ v = .int i ∧ PostA W σ Hs H K (k i) := by
  cases d with
  | int i => exact ⟨i, rfl, rv.int, h⟩
  | _ => exact h.elim
theorem rgOk_of {i j : Int} (h : (big i && big j && small (j - i).toNat) = true) : RgOk i j := by
  rw [Bool.and_eq_true, Bool.and_eq_true] at h
  have := Nat.le_of_ble_eq_true h.2
  exact ⟨(big_ok h.1.1).1, (big_ok h.1.1).2, (big_ok h.1.2).1, (big_ok h.1.2).2, by omega⟩
theorem de_listRange2 {a c : Expr} {fa fc : DEnv → Res D} {p p2 pos pos2 : Pos} (hgl : Gl X "list") (hml : X.mg "list" = none) (hg : Gl X "range") (hm : X.mg "range" = none) (ha : DE X W true a fa) (hb : DE X W true c fc) (hc : X.calm = true := by rfl)
    (na : starEach [a, c] X.env = (false, eval a X.env) :: starEach [c] X.env := by rfl) (nb : starEach [c] X.env = (false, eval c X.env) :: starEach [] X.env := by rfl) (hp : (backTo pos2 (starEach [c] X.env)).any (·.1) = false := by rfl)
    (nl : starEach [.Call (.Name "range" p2) [a, c] [] pos2] X.env = (false, eval (.Call (.Name "range" p2) [a, c] [] pos2) X.env) :: starEach [] X.env := by rfl) :
    DE X W b (.Call (.Name "list" p) [.Call (.Name "range" p2) [a, c] [] pos2] [] pos) (xListRg2 fa fc) := by
  obtain ⟨t, pt, q⟩ := ha.ex
  obtain ⟨t', pt', q'⟩ := hb.ex
  refine ⟨_, pe_listRg hc hgl hml (prg_2 hg hm pt pt' na nb hp) nl, fun Hs0 H0 ρ σ Hs H Q e h => ?_⟩
  refine q _ _ ρ σ Hs H _ e ((PostA.bind h).mono fun d Hs1 H1 s1 h1 v rv => ?_)
  refine q' _ _ ρ σ Hs1 H1 _ (e.step s1) ((PostA.bind h1).mono fun d' Hs2 H2 s2 h2 v' rv' => ?_)
  obtain ⟨i, rfl, rfl, h3⟩ := asInt_post (rv.step s2) h2
  obtain ⟨j, rfl, rfl, h4⟩ := asInt_post rv' h3
  exact post_mk h4 fun hk h4 => ⟨i, j, rfl, rfl, rgOk_of hk, fun l hl => mkL_post h4 s2.sub (rgV_rp i j) hl⟩
theorem de_listRange1 {c : Expr} {fc : DEnv → Res D} {p p2 pos pos2 : Pos} (hgl : Gl X "list") (hml : X.mg "list" = none) (hg : Gl X "range") (hm : X.mg "range" = none) (hb : DE X W true c fc) (hc : X.calm = true := by rfl)
    (nb : starEach [c] X.env = (false, eval c X.env) :: starEach [] X.env := by rfl)
    (nl : starEach [.Call (.Name "range" p2) [c] [] pos2] X.env = (false, eval (.Call (.Name "range" p2) [c] [] pos2) X.env) :: starEach [] X.env := by rfl) :
    DE X W b (.Call (.Name "list" p) [.Call (.Name "range" p2) [c] [] pos2] [] pos) (xListRg1 fc) := by
  obtain ⟨t', pt', q'⟩ := hb.ex
  refine ⟨_, pe_listRg hc hgl hml (prg_1 hg hm pt' nb) nl, fun Hs0 H0 ρ σ Hs H Q e h => ?_⟩
  refine q' _ _ ρ σ Hs H _ e ((PostA.bind h).mono fun d' Hs2 H2 s2 h2 v' rv' => ?_)
  obtain ⟨j, rfl, rfl, h4⟩ := asInt_post rv' h2
  exact post_mk h4 fun hk h4 => ⟨j, rfl, rgOk_of hk, fun l hl => mkL_post h4 s2.sub (rgV_rp 0 j) hl⟩
/-- reversed(range(n)) -/
def downTo (n : Nat) : List D := (List.range n).map fun (i : Nat) => (PyData.int ((n : Int) - 1 - (i : Int)) : D)
def xRevRg1 (fc : DEnv → Res D) : DEnv → Res (List D) := fun ρ => (fc ρ).bind fun y => (asInt y).bind fun j => if big j = true then .ok (downTo j.toNat) else .bad
theorem di_revRange1 {tg c : Expr} {fc : DEnv → Res D} {p p2 pos pos2 : Pos} (hgl : Gl X "reversed") (hml : X.mg "reversed" = none) (hg : Gl X "range") (hm : X.mg "range" = none) (hb : DE X W true c fc)
    (nb : starEach [c] X.env = (false, eval c X.env) :: starEach [] X.env := by rfl)
    (nl : starEach [.Call (.Name "range" p2) [c] [] pos2] X.env = (false, eval (.Call (.Name "range" p2) [c] [] pos2) X.env) :: starEach [] X.env := by rfl) :
    DI X W b tg (.Call (.Name "reversed" p) [.Call (.Name "range" p2) [c] [] pos2] [] pos) (xRevRg1 fc) := by
  obtain ⟨t', pt', q'⟩ := hb.ex
  refine ⟨_, pi_revR hgl hml (prg_1 hg hm pt' nb) nl, fun Hs0 H0 ρ σ Hs H R e h => ?_⟩
  refine q' _ _ ρ σ Hs H _ e ((PostA.bind h).mono fun d' Hs2 H2 s2 h2 v' rv' => ?_)
  obtain ⟨j, rfl, rfl, h4⟩ := asInt_post rv' h2
  refine post_mk h4 fun hk h4 => ⟨j, rfl, by decide, by decide, (big_ok hk).1, (big_ok hk).2, ?_⟩
  have e1 : (j - 0).toNat = j.toNat := by omega
  rw [e1]
  refine PostA.now s2.sub h4 _ (walked_fn (f := fun i => 0 + ((j.toNat : Nat) : Int) - 1 + (i : Int) * (-1)) ?_ walk_rangeC)
  unfold downTo
  apply List.map_congr_left
  intro i _
  congr 1
  omega
end
end SB
end
end

section
set_option Elab.async false
set_option linter.all false
set_option maxRecDepth 100000
set_option maxHeartbeats 4000000
noncomputable section
namespace SB
open PySem PySem.Spec L2 Evl PyProof.Rows PySem.Calls
section
variable {X : Cx} {W : WD} {b : Bool}
/-- reversed(range(a, b)) -/
def downFrom (i : Int) (n : Nat) : List D := (List.range n).map fun (k : Nat) => (PyData.int (i + (n : Int) - 1 - (k : Int)) : D)
def xRevRg2 (fa fc : DEnv → Res D) : DEnv → Res (List D) := fun ρ => (fa ρ).bind fun x => (fc ρ).bind fun y => (asInt x).bind fun i => (asInt y).bind fun j => if (big i && big j) = true then .ok (downFrom i (j - i).toNat) else .bad
theorem di_revRange2 {tg a c : Expr} {fa fc : DEnv → Res D} {p p2 pos pos2 : Pos} (hgl : Gl X "reversed") (hml : X.mg "reversed" = none) (hg : Gl X "range") (hm : X.mg "range" = none) (ha : DE X W true a fa) (hb : DE X W true c fc)
    (na : starEach [a, c] X.env = (false, eval a X.env) :: starEach [c] X.env := by rfl) (nb : starEach [c] X.env = (false, eval c X.env) :: starEach [] X.env := by rfl) (hp : (backTo pos2 (starEach [c] X.env)).any (·.1) = false := by rfl)
    (nl : starEach [.Call (.Name "range" p2) [a, c] [] pos2] X.env = (false, eval (.Call (.Name "range" p2) [a, c] [] pos2) X.env) :: starEach [] X.env := by rfl) :
    DI X W b tg (.Call (.Name "reversed" p) [.Call (.Name "range" p2) [a, c] [] pos2] [] pos) (xRevRg2 fa fc) := by
  obtain ⟨t, pt, q⟩ := ha.ex
  obtain ⟨t', pt', q'⟩ := hb.ex
  refine ⟨_, pi_revR hgl hml (prg_2 hg hm pt pt' na nb hp) nl, fun Hs0 H0 ρ σ Hs H R e h => ?_⟩
  refine q _ _ ρ σ Hs H _ e ((PostA.bind h).mono fun d Hs1 H1 s1 h1 v rv => ?_)
  refine q' _ _ ρ σ Hs1 H1 _ (e.step s1) ((PostA.bind h1).mono fun d' Hs2 H2 s2 h2 v' rv' => ?_)
  obtain ⟨i, rfl, rfl, h3⟩ := asInt_post (rv.step s2) h2
  obtain ⟨j, rfl, rfl, h4⟩ := asInt_post rv' h3
  refine post_mk h4 fun hk h4 => ?_
  rw [Bool.and_eq_true] at hk
  refine ⟨i, j, rfl, rfl, (big_ok hk.1).1, (big_ok hk.1).2, (big_ok hk.2).1, (big_ok hk.2).2, ?_⟩
  refine PostA.now s2.sub h4 _ (walked_fn (f := fun k => i + (((j - i).toNat : Nat) : Int) - 1 + (k : Int) * (-1)) ?_ walk_rangeC)
  unfold downFrom
  apply List.map_congr_left
  intro k _
  congr 1
  omega
/-- range(a, b, -1) -/
def range3D : List D → Res (List D)
  | [.int i, .int j, .int c] => if (decide (c = -1) && big i && big j) = true then .ok ((List.range (i - j).toNat).map fun (k : Nat) => (PyData.int (i - (k : Int)) : D)) else .bad
  | _ => .bad
theorem rps3 {b : Bool} {Hs H : Hp} {vs : List V} {d d' d'' : D} (h : RpsAll b X.K Hs H vs [d, d', d'']) : ∃ v v' v'', vs = [v, v', v''] ∧ Rep b X.K Hs H v d ∧ Rep b X.K Hs H v' d' ∧ Rep b X.K Hs H v'' d'' := by
  cases h with
  | cons h1 h2 =>
    obtain ⟨v', v'', rfl, h3, h4⟩ := rps2 h2
    exact ⟨_, v', v'', rfl, h1, h3, h4⟩
theorem di_range3 {tg a c e0 : Expr} {fs : DEnv → Res (List D)} {p pos : Pos} (hg : Gl X "range") (hm : X.mg "range" = none) (ha : DA X W true [a, c, e0] fs)
    (hs : starEach [a, c, e0] X.env = (false, eval a X.env) :: starEach [c, e0] X.env := by rfl) (hpl : (backTo pos (starEach [c, e0] X.env)).any (·.1) = false := by rfl) : DI X W b tg (.Call (.Name "range" p) [a, c, e0] [] pos) (xIt range3D fs) := by
  obtain ⟨t, pt, q⟩ := ha.ex
  refine ⟨_, pi_range3 hg hm pt hs hpl, fun Hs0 H0 ρ σ Hs H R e h => ?_⟩
  refine q _ _ ρ σ Hs H _ e (h.bind.mono fun ds Hs1 H1 s1 h1 vs rv => ?_)
  match ds, rv, h1 with
  | [.int i, .int j, .int k], rv, h1 =>
    obtain ⟨v, v', v'', rfl, r1, r2, r3⟩ := rps3 rv
    have e1 := r1.int
    have e2 := r2.int
    have e3 := r3.int
    subst e1 e2 e3
    refine post_mk h1 fun hb h5 => ?_
    rw [Bool.and_eq_true, Bool.and_eq_true, decide_eq_true_eq] at hb
    obtain ⟨⟨rfl, hi⟩, hj⟩ := hb
    refine ⟨i, j, -1, (i - j).toNat, rfl, RgC.neg (big_ok hi).1 (big_ok hi).2 (big_ok hj).1 (big_ok hj).2, ?_⟩
    refine PostA.now s1.sub h5 _ (walked_fn (f := fun n => i + (n : Int) * (-1)) ?_ walk_rangeC)
    apply List.map_congr_left
    intro n _
    congr 1
    omega
/-! ### xs.index(n), numbers -/
def ixOf (ns : List Int) (i : Int) : Option Nat := List.rec (motive := fun _ => Option Nat) none (fun n _ ih => cond (decide (n = i)) (some 0) (ih.map (· + 1))) ns
theorem ixOf_spec : ∀ {ns : List Int} {i : Int} {j : Nat}, ixOf ns i = some j → ns[j]? = some i ∧ ∀ m, m < j → ∀ z, ns[m]? = some z → z ≠ i
  | [], i, j, h => by cases h
  | n :: ns, i, j, h => by
    have h' : cond (decide (n = i)) (some 0) ((ixOf ns i).map (· + 1)) = some j := h
    by_cases hn : n = i
    · rw [decide_eq_true hn] at h'
      cases h'
      exact ⟨by simp [hn], fun m hm => by omega⟩
    · rw [decide_eq_false hn] at h'
      cases hx : ixOf ns i with
      | none => rw [hx] at h'; cases h'
      | some k =>
        rw [hx] at h'
        have hj : j = k + 1 := (Option.some.inj h').symm
        subst hj
        obtain ⟨h1, h2⟩ := ixOf_spec hx
        refine ⟨by simpa using h1, fun m hm z hz => ?_⟩
        cases m with
        | zero => simp at hz; rw [← hz]; exact hn
        | succ m => exact h2 m (by omega) z (by simpa using hz)
def indexD : D → D → Res D
  | .list xs, .int i => match intsOf xs with
    | some ns => match ixOf ns i with
      | some j => .ok (.int (j : Int))
      | none => .bad
    | none => .bad
  | _, _ => .bad
def asLst : D → Res (List D)
  | .list xs => .ok xs
  | _ => .bad
def xIndex (fo fe : DEnv → Res D) : DEnv → Res D := fun ρ => (fo ρ).bind fun x => (asLst x).bind fun xs => (fe ρ).bind fun y => indexD (.list xs) y
theorem de_index {o e : Expr} {fo fe : DEnv → Res D} {p2 p3 : Pos} (ho : DE X W true o fo) (he : DE X W true e fe) (hbase : attributeBase o "index" X.env (eval o X.env) = eval o X.env := by rfl)
    (hfew : ((backTo p3 (starEach [e] X.env)).all (fun x => !x.1) && (backToKw p3 (keywordEach [] X.env)).all (fun x => x.1.isSome) && decide ([e].length + ([] : List Keyword).length + (if ([] : List Keyword).isEmpty then 0 else 1) < 30)) = true := by rfl)
    (hline : (p2.endLine == p3.line) = true := by rfl) (hs : starEach [e] X.env = (false, eval e X.env) :: starEach [] X.env := by rfl) (hplain : (backTo p3 (starEach [] X.env)).any (·.1) = false := by rfl) :
    DE X W b (.Call (.Attribute o "index" p2) [e] [] p3) (xIndex fo fe) := by
  obtain ⟨t, pt, q⟩ := ho.ex
  obtain ⟨t', pt', q'⟩ := he.ex
  refine ⟨_, pe_bm PySem.F.plainAttrs_list PySem.F.slot_list_index PySem.F.type_list_index mt_index pt (pa_cons pt' pa_nil hs) hbase hfew hline hs hplain, fun Hs0 H0 ρ σ Hs H Q e h => ?_⟩
  refine q _ _ ρ σ Hs H _ e ((PostA.bind h).mono fun d Hs1 H1 s1 h1 v rv => ?_)
  cases d with
  | list xs =>
    obtain ⟨a, vs, rfl, g1, r1⟩ := rv.list s1.sub
    replace h1 : PostA W σ Hs1 H1 (fun d Hs' H' => ∀ v, Rep b X.K Hs' H' v d → Q v H') ((fe ρ).bind fun y => indexD (.list xs) y) := h1
    refine ⟨.inl ⟨rfl, vs, g1⟩, q' _ _ ρ σ Hs1 H1 _ (e.step s1) ((PostA.bind h1).mono fun d' Hs2 H2 s2 h2 v' rv' => ?_)⟩
    cases d' with
    | int i =>
      have e1 := rv'.int
      subst e1
      change PostA W σ Hs2 H2 _ (match intsOf xs with | some ns => (match ixOf ns i with | some j => (Res.ok (PyData.int (j : Int)) : Res D) | none => .bad) | none => .bad) at h2
      cases hn : intsOf xs with
      | none => rw [hn] at h2; exact h2.elim
      | some ns =>
        rw [hn] at h2
        replace h2 : PostA W σ Hs2 H2 _ (match ixOf ns i with | some j => (Res.ok (PyData.int (j : Int)) : Res D) | none => .bad) := h2
        cases hj : ixOf ns i with
        | none => rw [hj] at h2; exact h2.elim
        | some j =>
          rw [hj] at h2
          have e2 := intsOf_rp r1 hn
          subst e2
          obtain ⟨k1, k2⟩ := ixOf_spec hj
          refine ⟨a, _, .int i, j, .int i, rfl, rfl, ex_l s2.wh g1, rfl, ?_, by rw [List.getElem?_map, k1]; rfl, ?_, fun m z hm hz => ?_, PostA.now s2.sub h2 _ (.of (.int _))⟩
          · rw [List.all_eq_true]
            intro x hx
            rw [List.mem_map] at hx
            obtain ⟨n, _, rfl⟩ := hx
            rfl
          · simp [eqV]
          · rw [List.getElem?_map] at hz
            cases hm' : ns[m]? with
            | none => rw [hm'] at hz; cases hz
            | some n =>
              rw [hm'] at hz
              cases hz
              have := k2 m hm n hm'
              simp [eqV, this]
    | _ => exact h2.elim
  | _ => exact h1.elim
end
end SB
end
end

section
set_option Elab.async false
set_option linter.all false
set_option maxRecDepth 100000
set_option maxHeartbeats 2000000
noncomputable section
namespace SB
open PySem PySem.Spec L2 Evl PyProof.Rows
/-! sorted(set(x)): x a list of tuples of numbers, or a tuple of numbers -/
def insN (a : Int) : List Int → List Int
  | [] => [a]
  | b :: l => if a = b then b :: l else if a < b then a :: b :: l else b :: insN a l
def setN (l : List Int) : List Int := l.foldr insN []
def lexLt : List Int → List Int → Bool
  | [], [] => false
  | [], _ :: _ => true
  | _ :: _, [] => false
  | a :: r, b :: s => if a < b then true else if a = b then lexLt r s else false
def insS (a : List Int) : List (List Int) → List (List Int)
  | [] => [a]
  | b :: l => if a = b then b :: l else if lexLt a b = true then a :: b :: l else b :: insS a l
def setS (l : List (List Int)) : List (List Int) := l.foldr insS []
theorem insN_mem (a k : Int) : ∀ l, k ∈ insN a l ↔ k = a ∨ k ∈ l
  | [] => by simp [insN]
  | b :: l => by
    unfold insN
    split
    · rename_i h; subst h; simp
    · split
      · simp
      · rw [List.mem_cons, insN_mem a k l, List.mem_cons]
        constructor
        · rintro (h | h | h)
          · exact .inr (.inl h)
          · exact .inl h
          · exact .inr (.inr h)
        · rintro (h | h | h)
          · exact .inr (.inl h)
          · exact .inl h
          · exact .inr (.inr h)
theorem setN_mem (k : Int) : ∀ l, k ∈ setN l ↔ k ∈ l
  | [] => by simp [setN]
  | a :: l => by
    show k ∈ insN a (setN l) ↔ _
    rw [insN_mem, setN_mem k l, List.mem_cons]
theorem insN_pw (a : Int) : ∀ l : List Int, l.Pairwise (· < ·) → (insN a l).Pairwise (· < ·)
  | [], _ => by simp [insN]
  | b :: l, h => by
    have h' := List.pairwise_cons.mp h
    unfold insN
    split
    · exact h
    · split
      · rename_i n1 n2
        refine List.pairwise_cons.mpr ⟨fun c hc => ?_, h⟩
        rcases List.mem_cons.mp hc with rfl | hc
        · exact n2
        · have := h'.1 c hc; omega
      · rename_i n1 n2
        refine List.pairwise_cons.mpr ⟨fun c hc => ?_, insN_pw a l h'.2⟩
        rcases (insN_mem a c l).mp hc with rfl | hc
        · omega
        · exact h'.1 c hc
theorem setN_pw : ∀ l : List Int, (setN l).Pairwise (· < ·)
  | [] => List.Pairwise.nil
  | a :: l => insN_pw a _ (setN_pw l)
theorem insS_mem (a k : List Int) : ∀ l, k ∈ insS a l ↔ k = a ∨ k ∈ l
  | [] => by simp [insS]
  | b :: l => by
    unfold insS
    split
    · rename_i h; subst h; simp
    · split
      · simp
      · rw [List.mem_cons, insS_mem a k l, List.mem_cons]
        constructor
        · rintro (h | h | h)
          · exact .inr (.inl h)
          · exact .inl h
          · exact .inr (.inr h)
        · rintro (h | h | h)
          · exact .inr (.inl h)
          · exact .inl h
          · exact .inr (.inr h)
theorem setS_mem (k : List Int) : ∀ l, k ∈ setS l ↔ k ∈ l
  | [] => by simp [setS]
  | a :: l => by
    show k ∈ insS a (setS l) ↔ _
    rw [insS_mem, setS_mem k l, List.mem_cons]
theorem lexLt_irr : ∀ a, lexLt a a = false
  | [] => rfl
  | a :: r => by simp [lexLt, lexLt_irr r]
theorem lexLt_trans : ∀ {a b c : List Int}, lexLt a b = true → lexLt b c = true → lexLt a c = true
  | [], [], _, h, _ => by cases h
  | [], _ :: _, [], _, h => by cases h
  | [], _ :: _, _ :: _, _, _ => rfl
  | _ :: _, [], _, h, _ => by cases h
  | _ :: _, _ :: _, [], _, h => by cases h
  | x :: a, y :: b, z :: c, h1, h2 => by
    unfold lexLt at h1 h2 ⊢
    split at h1
    · split at h2
      · rw [if_pos (by omega)]
      · split at h2
        · rw [if_pos (by omega)]
        · cases h2
    · split at h1
      · split at h2
        · rw [if_pos (by omega)]
        · split at h2
          · rw [if_neg (by omega), if_pos (by omega)]
            exact lexLt_trans h1 h2
          · cases h2
      · cases h1
theorem lexLt_tri : ∀ (a b : List Int), a ≠ b → lexLt a b = false → lexLt b a = true
  | [], [], h, _ => absurd rfl h
  | [], _ :: _, _, h => by cases h
  | _ :: _, [], _, _ => rfl
  | x :: a, y :: b, h1, h2 => by
    unfold lexLt at h2 ⊢
    split at h2
    · cases h2
    · split at h2
      · rename_i e
        subst e
        rw [if_neg (by omega), if_pos rfl]
        exact lexLt_tri a b (fun z => h1 (by rw [z])) h2
      · rw [if_pos (by omega)]
theorem insS_pw (a : List Int) : ∀ l : List (List Int), l.Pairwise (fun p q => lexLt p q = true) → (insS a l).Pairwise (fun p q => lexLt p q = true)
  | [], _ => by simp [insS]
  | b :: l, h => by
    have h' := List.pairwise_cons.mp h
    unfold insS
    split
    · exact h
    · split
      · rename_i n1 n2
        refine List.pairwise_cons.mpr ⟨fun c hc => ?_, h⟩
        rcases List.mem_cons.mp hc with rfl | hc
        · exact n2
        · exact lexLt_trans n2 (h'.1 c hc)
      · rename_i n1 n2
        refine List.pairwise_cons.mpr ⟨fun c hc => ?_, insS_pw a l h'.2⟩
        rcases (insS_mem a c l).mp hc with rfl | hc
        · exact lexLt_tri _ _ n1 (by simpa using n2)
        · exact h'.1 c hc
theorem setS_pw : ∀ l : List (List Int), (setS l).Pairwise (fun p q => lexLt p q = true)
  | [] => List.Pairwise.nil
  | a :: l => insS_pw a _ (setS_pw l)
/-- two rising rows of the same members are one -/
theorem pw_unique {α : Type} {R : α → α → Prop} (irr : ∀ a, ¬ R a a) (tr : ∀ a b c, R a b → R b c → R a c) : ∀ {l m : List α}, l.Pairwise R → m.Pairwise R → (∀ k, k ∈ l ↔ k ∈ m) → l = m
  | [], [], _, _, _ => rfl
  | [], b :: m, _, _, h => absurd ((h b).mpr (by simp)) (by simp)
  | a :: l, [], _, _, h => absurd ((h a).mp (by simp)) (by simp)
  | a :: l, b :: m, hl, hm, h => by
    have hl' := List.pairwise_cons.mp hl
    have hm' := List.pairwise_cons.mp hm
    have e : a = b := by
      rcases List.mem_cons.mp ((h a).mp (by simp)) with e | ha
      · exact e
      · rcases List.mem_cons.mp ((h b).mpr (by simp)) with e | hb
        · exact e.symm
        · exact absurd (tr _ _ _ (hl'.1 b hb) (hm'.1 a ha)) (irr a)
    subst e
    rw [pw_unique irr tr hl'.2 hm'.2 fun k => ?_]
    constructor
    · intro hk
      rcases List.mem_cons.mp ((h k).mp (by simp [hk])) with e | q
      · subst e; exact absurd (hl'.1 k hk) (irr k)
      · exact q
    · intro hk
      rcases List.mem_cons.mp ((h k).mpr (by simp [hk])) with e | q
      · subst e; exact absurd (hm'.1 k hk) (irr k)
      · exact q
theorem code_lex {B : Int} : ∀ {a b : List Int}, a.length = b.length → TS.Bd B a → TS.Bd B b → a ≠ b → TS.code B a ≤ TS.code B b → lexLt a b = true
  | [], [], _, _, _, h, _ => absurd rfl h
  | [], _ :: _, h, _, _, _, _ => by simp at h
  | _ :: _, [], h, _, _, _, _ => by simp at h
  | x :: a, y :: b, hl, h1, h2, hne, hc => by
    have hl' : a.length = b.length := by simpa using hl
    unfold lexLt
    by_cases c1 : x < y
    · rw [if_pos c1]
    · rw [if_neg c1]
      by_cases c2 : x = y
      · subst c2
        rw [if_pos rfl]
        refine code_lex hl' h1.tail h2.tail (fun z => hne (by rw [z])) ?_
        have : x * B ^ a.length + TS.code B a ≤ x * B ^ b.length + TS.code B b := hc
        rw [hl'] at this
        omega
      · have := TS.code_lt (B := B) (d := y) (e := x) (r := b) (q := a) hl'.symm h2.tail h1.tail (by omega)
        omega
/-- the tuples of numbers of a list -/
def tupsOf : List D → Option (List (List Int))
  | [] => some []
  | .tuple xs :: r => match intsOf xs with
    | some k => (tupsOf r).map (k :: ·)
    | none => none
  | _ => none
def okSet (ks : List (List Int)) : Bool := Nat.ble ks.length 63 && ks.all fun k => Nat.ble 1 k.length && decide (k.length = (ks.headD []).length) && k.all fun i => decide (0 ≤ i) && decide (i < 100)
def tupD (k : List Int) : D := .tuple (k.map .int)
def sortSetD : D → Res D
  | .list xs => match tupsOf xs with
    | some ks => if okSet ks = true then .ok (.list ((setS ks).map tupD)) else .bad
    | none => .bad
  | .tuple xs => match intsOf xs with
    | some ns => if Nat.ble ns.length 63 = true then .ok (.list ((setN ns).map .int)) else .bad
    | none => .bad
  | _ => .bad
section
variable {X : Cx} {W : WD}
theorem tupsOf_rp {H : Hp} : ∀ {vs : List V} {ds : List D} {ks : List (List Int)}, RpAll X.K H vs ds → tupsOf ds = some ks → ∃ L : List (Addr × List Int), vs = L.map (fun p => V.ref p.1) ∧ ks = L.map (·.2) ∧ ∀ p, p ∈ L → TAt H p.1 (p.2.map V.int)
  | _, _, ks, .nil, e => by cases e; exact ⟨[], rfl, rfl, fun p h => by cases h⟩
  | _, _, ks, .cons (ds := ds) h r, e => by
    cases h with
    | tup h1 h2 =>
      rename_i a xs es
      simp only [tupsOf] at e
      cases q : intsOf es with
      | none => rw [q] at e; cases e
      | some k =>
        rw [q] at e
        cases q2 : tupsOf ds with
        | none => rw [q2] at e; cases e
        | some ks' =>
          rw [q2] at e
          cases e
          obtain ⟨L, e1, e2, e3⟩ := tupsOf_rp r q2
          have := intsOf_rp h2 q
          subst this
          refine ⟨(a, k) :: L, by rw [e1]; rfl, by rw [e2]; rfl, fun p hp => ?_⟩
          rcases List.mem_cons.mp hp with rfl | hp
          · exact h1
          · exact e3 p hp
    | _ => cases e
/-- set(t), t a tuple of numbers -/
def rSetTI (K : PySem.W.Frag) (w : World) : List V → Hp → VK → Prop := fun xs H Q => ∃ (p : Addr) (ns : List Int), xs = [V.ref p] ∧ SqT K H p (ns.map V.int) ∧ ns.length ≤ 1000 ∧ ∀ a c, H a = none → c ≤ ns.length → Q (.ref a) (upd H a (SetO w a (fun j => decide (j ∈ ns)) c))
theorem cr_setTI (hc : X.calm = true) : CallR X (.type "set") (rSetTI X.K X.w) := by
  intro pins s σ H xs us Q I r h
  obtain ⟨p, ns, rfl, hp, hl, q⟩ := h
  rw [Vals.ref1 r]
  obtain ⟨its, rv, pt, hz⟩ := I.tuple hp
  have hi : IntsAre its.toArray.toList ns := ints_of_vals rv
  refine call_set_tupI ns (I.ok.hd hc) (show s.heap.IsTuple p its.toArray from pt) hi (by unfold scanBound; omega) fun h' tk c R1 hcn k => ?_
  exact ⟨.ref s.heap.objs.size, _, I.laid (t' := tk) k (Nat.le_refl _) (setO_new R1), rfl, q _ c (I.hok.fresh (Nat.le_refl _)) hcn⟩
theorem step_aside {Hs H : Hp} {p : Addr} {o : HO} (h : Ex Hs H) (e : H p = none) : Step Hs H Hs (upd H p o) :=
  ⟨Ex.refl _, Ex.new e, h.trans (Ex.new e), fun _ _ _ n => n⟩
def xSortSet (fa : DEnv → Res D) : DEnv → Res D := fun ρ => (fa ρ).bind sortSetD
theorem int_lst {H : Hp} (ns : List Int) : RpAll X.K H (ns.map V.int) (ns.map .int) := by
  induction ns with
  | nil => exact .nil
  | cons n ns ih => exact .cons (.int n) ih
theorem bt_set : bootBuiltins "set" = some (.type "set") := by decide +kernel
theorem bt_sortedB : bootBuiltins "sorted" = some (.builtin "sorted") := by decide +kernel
theorem de_sortSet {b : Bool} {a : Expr} {fa : DEnv → Res D} {k : Nat} {p p2 q2 pos : Pos} (hc : X.calm = true) (hr : Room k X.A) (hg : Gl X "sorted") (hm : X.mg "sorted" = none) (hg2 : Gl X "set") (hm2 : X.mg "set" = none) (ha : DE X W true a fa)
    (hs1 : starEach [.Call (.Name "set" p2) [a] [] q2] X.env = (false, eval (.Call (.Name "set" p2) [a] [] q2) X.env) :: starEach [] X.env := by rfl) (hs2 : starEach [a] X.env = (false, eval a X.env) :: starEach [] X.env := by rfl)
    (hp1 : (backTo pos (starEach [] X.env)).any (·.1) = false := by rfl) (hp2 : (backTo q2 (starEach [] X.env)).any (·.1) = false := by rfl) :
    DE X W b (.Call (.Name "sorted" p) [.Call (.Name "set" p2) [a] [] q2] [] pos) (xSortSet fa) := by
  obtain ⟨t, pt, q⟩ := ha.ex
  have hset : CallR X (.type "set") _ := (cr_setOfT hc (by have := hr.un; omega)).or (cr_setTI hc)
  have hsrt : CallR X (.builtin "sorted") _ := (cr_sortedT hc).or (cr_sortedSet hc)
  refine ⟨_, pe_callB hsrt hg hm bt_sortedB (pa_cons (pe_callTy hset hg2 hm2 bt_set (pa_cons pt pa_nil hs2) (by decide) (by decide) hs2 hp2) pa_nil hs1) (by decide) (by decide) hs1 hp1, fun Hs0 H0 ρ σ Hs H Q e h => ?_⟩
  have h' : Post X.K false W σ Hs H Q (xSortSet fa ρ) := h.mono fun d Hs' H' _ k v rv => k v (.inl rv.rp)
  refine q _ _ ρ σ Hs H _ e (h'.bind.mono fun d Hs1 H1 s1 h1 v rv => ?_)
  have e1 := s1.sub
  cases d with
  | list xs =>
    obtain ⟨l, vs, rfl, g1, r1⟩ := rv.list e1
    change Post X.K false W σ Hs1 H1 Q (match tupsOf xs with | some ks => if okSet ks = true then .ok (.list ((setS ks).map tupD)) else .bad | none => .bad) at h1
    cases hk : tupsOf xs with
    | none => rw [hk] at h1; exact h1.elim
    | some ks =>
      rw [hk] at h1
      refine post_mk h1 fun hok h1 => ?_
      obtain ⟨L, rfl, rfl, hL⟩ := tupsOf_rp r1 hk
      unfold okSet at hok
      rw [Bool.and_eq_true, List.all_eq_true] at hok
      obtain ⟨hlen, hall⟩ := hok
      have hlen := Nat.le_of_ble_eq_true hlen
      rw [List.length_map] at hlen
      have hbd : ∀ p, p ∈ L → 1 ≤ p.2.length ∧ p.2.length = ((L.map (·.2)).headD []).length ∧ TS.Bd 100 p.2 := fun p hp => by
        have := hall p.2 (List.mem_map_of_mem hp)
        rw [Bool.and_eq_true, Bool.and_eq_true, List.all_eq_true] at this
        refine ⟨Nat.le_of_ble_eq_true this.1.1, of_decide_eq_true this.1.2, fun m hm => ?_⟩
        have := this.2 m hm
        simp only [Bool.and_eq_true, decide_eq_true_eq] at this
        exact this
      refine .inl ⟨l, L, rfl, g1, fun p hp => .inl (ex_td e1 (hL p hp)), by omega, fun a L1 ha hsub hin => ?_⟩
      have s2 := step_aside (o := SetTO X.prog X.w a L1) e1 ha
      by_cases hL0 : L = []
      · have hL1 : L1 = [] := by
          cases L1 with
          | nil => rfl
          | cons p L1 => have := hsub p (by simp); rw [hL0] at this; cases this
        refine .inl ⟨a, L1, 1, 100, rfl, upd_same, fun p hp => (by rw [hL1] at hp; cases hp), Nat.le_refl _, fun p hp => (by rw [hL1] at hp; cases hp), fun L' p pm _ _ _ hp => ?_⟩
        have hL' : L' = [] := by rw [hL1] at pm; exact pm.eq_nil
        subst hL'
        have h2 := h1.step s2
        rw [hL0] at h2
        exact mkL_post h2 s2.sub .nil hp
      · refine .inl ⟨a, L1, ((L.map (·.2)).headD []).length, 100, rfl, upd_same, fun p hp => .inl (ex_td s2.sub (hL p (hsub p hp))), ?_, fun p hp => (hbd p (hsub p hp)).2, fun L' p pm nd h64 pw hp => ?_⟩
        · obtain ⟨p0, L0, rfl⟩ := List.exists_cons_of_ne_nil hL0
          exact (hbd p0 (by simp)).1
        · have hmem : ∀ k, k ∈ L'.map (·.2) ↔ k ∈ L.map (·.2) := fun k => by
            rw [(pm.map (·.2)).mem_iff]
            constructor
            · intro hk
              obtain ⟨p, hp, rfl⟩ := List.mem_map.mp hk
              exact List.mem_map_of_mem (hsub p hp)
            · intro hk
              obtain ⟨p, hp, rfl⟩ := List.mem_map.mp hk
              exact hin p hp
          have hpw : (L'.map (·.2)).Pairwise (fun p q => lexLt p q = true) := by
            unfold List.Nodup at nd
            rw [List.pairwise_map] at nd ⊢
            refine (List.Pairwise.and nd pw).imp_of_mem fun {x y} hx hy hxy => ?_
            have bx := hbd x (hsub x (pm.mem_iff.mp hx))
            have bY := hbd y (hsub y (pm.mem_iff.mp hy))
            exact code_lex (by rw [bx.2.1, bY.2.1]) bx.2.2 bY.2.2 hxy.1 hxy.2
          have heq : L'.map (·.2) = setS (L.map (·.2)) := pw_unique (R := fun p q => lexLt p q = true) (fun a => by simp [lexLt_irr]) (fun a b c => lexLt_trans) hpw (setS_pw _) fun k => by rw [hmem, setS_mem]
          rw [← heq] at h1
          refine mkL_post (h1.step s2) s2.sub ?_ hp
          have key : ∀ M : List (Addr × List Int), (∀ p, p ∈ M → TAt Hs1 p.1 (p.2.map V.int)) → RpAll X.K Hs1 (M.map fun q => V.ref q.1) ((M.map (·.2)).map tupD) := by
            intro M
            induction M with
            | nil => intro _; exact .nil
            | cons p M ih => intro hM; exact .cons (.tup (hM p (by simp)) (int_lst p.2)) (ih fun q hq => hM q (by simp [hq]))
          exact key L' fun p hp => hL p (hsub p (pm.mem_iff.mp hp))
  | tuple xs =>
    obtain ⟨l, vs, rfl, g1, r1⟩ := rv.tuple
    change Post X.K false W σ Hs1 H1 Q (match intsOf xs with | some ns => if Nat.ble ns.length 63 = true then .ok (.list ((setN ns).map .int)) else .bad | none => .bad) at h1
    cases hk : intsOf xs with
    | none => rw [hk] at h1; exact h1.elim
    | some ns =>
      rw [hk] at h1
      refine post_mk h1 fun hok h1 => ?_
      have hlen := Nat.le_of_ble_eq_true hok
      have hv := intsOf_rp r1 hk
      subst hv
      refine .inr ⟨l, ns, rfl, .inl (ex_td e1 g1), by omega, fun a c ha hc => ?_⟩
      have s2 := step_aside (o := SetO X.w a (fun j => decide (j ∈ ns)) c) e1 ha
      refine .inr ⟨a, _, c, rfl, upd_same, by omega, fun ms p pw hmem _ hp => ?_⟩
      have heq : ms = setN ns := pw_unique (R := (· < ·)) (fun a => by omega) (fun a b c => by omega) pw (setN_pw _) fun k => by rw [hmem, setN_mem]; simp
      subst heq
      exact mkL_post (h1.step s2) s2.sub (int_lst _) hp
  | _ => exact h1.elim
end
end SB
end
end

section
set_option Elab.async false
set_option linter.all false
set_option maxRecDepth 100000
set_option maxHeartbeats 2000000
noncomputable section
namespace SB
open PySem PySem.Spec L2 Evl PyProof.Rows
/-! max(xs), min(xs) of numbers; sorted(xs, reverse=True) of numbers -/
def maxI : List Int → Option Int
  | [] => none
  | a :: r => some (r.foldl (fun m x => if m < x then x else m) a)
def minI : List Int → Option Int
  | [] => none
  | a :: r => some (r.foldl (fun m x => if x < m then x else m) a)
theorem maxI_go : ∀ (r : List Int) (a : Int), (r.foldl (fun m x => if m < x then x else m) a = a ∨ r.foldl (fun m x => if m < x then x else m) a ∈ r) ∧ a ≤ r.foldl (fun m x => if m < x then x else m) a ∧ ∀ y, y ∈ r → y ≤ r.foldl (fun m x => if m < x then x else m) a
  | [], a => ⟨.inl rfl, Int.le_refl _, fun _ h => by cases h⟩
  | b :: r, a => by
    rw [List.foldl_cons]
    obtain ⟨h1, h2, h3⟩ := maxI_go r (if a < b then b else a)
    refine ⟨?_, ?_, fun y hy => ?_⟩
    · rcases h1 with h1 | h1
      · rw [h1]
        split
        · exact .inr (by simp)
        · exact .inl rfl
      · exact .inr (by simp [h1])
    · exact Int.le_trans (by split <;> omega) h2
    · rcases List.mem_cons.mp hy with rfl | hy
      · exact Int.le_trans (by split <;> omega) h2
      · exact h3 y hy
theorem minI_go : ∀ (r : List Int) (a : Int), (r.foldl (fun m x => if x < m then x else m) a = a ∨ r.foldl (fun m x => if x < m then x else m) a ∈ r) ∧ r.foldl (fun m x => if x < m then x else m) a ≤ a ∧ ∀ y, y ∈ r → r.foldl (fun m x => if x < m then x else m) a ≤ y
  | [], a => ⟨.inl rfl, Int.le_refl _, fun _ h => by cases h⟩
  | b :: r, a => by
    rw [List.foldl_cons]
    obtain ⟨h1, h2, h3⟩ := minI_go r (if b < a then b else a)
    refine ⟨?_, ?_, fun y hy => ?_⟩
    · rcases h1 with h1 | h1
      · rw [h1]
        split
        · exact .inr (by simp)
        · exact .inl rfl
      · exact .inr (by simp [h1])
    · exact Int.le_trans h2 (by split <;> omega)
    · rcases List.mem_cons.mp hy with rfl | hy
      · exact Int.le_trans h2 (by split <;> omega)
      · exact h3 y hy
theorem maxI_ok {ns : List Int} {m : Int} (h : maxI ns = some m) : 0 < ns.length ∧ m ∈ ns ∧ ∀ y, y ∈ ns → y ≤ m := by
  cases ns with
  | nil => cases h
  | cons a r =>
    cases h
    obtain ⟨h1, h2, h3⟩ := maxI_go r a
    refine ⟨by simp, ?_, fun y hy => ?_⟩
    · rcases h1 with h1 | h1
      · rw [h1]; simp
      · simp [h1]
    · rcases List.mem_cons.mp hy with rfl | hy
      · exact h2
      · exact h3 y hy
theorem minI_ok {ns : List Int} {m : Int} (h : minI ns = some m) : 0 < ns.length ∧ m ∈ ns ∧ ∀ y, y ∈ ns → m ≤ y := by
  cases ns with
  | nil => cases h
  | cons a r =>
    cases h
    obtain ⟨h1, h2, h3⟩ := minI_go r a
    refine ⟨by simp, ?_, fun y hy => ?_⟩
    · rcases h1 with h1 | h1
      · rw [h1]; simp
      · simp [h1]
    · rcases List.mem_cons.mp hy with rfl | hy
      · exact h2
      · exact h3 y hy
def oneI : Option Int → Res D
  | some m => .ok (.int m)
  | none => .bad
def max1D : D → Res D
  | .list xs => match intsOf xs with | some ns => oneI (maxI ns) | none => .bad
  | _ => .bad
def min1D : D → Res D
  | .list xs => match intsOf xs with | some ns => oneI (minI ns) | none => .bad
  | _ => .bad
section
variable {X : Cx} {W : WD}
theorem cd_max1 (hc : X.calm = true) : CallD X (.builtin "max") (on1 max1D) := by
  refine cd1 (cr_max hc) fun W σ Hs H v d Q e rv h => ?_
  cases d with
  | list xs =>
    obtain ⟨p, ws, rfl, h1, r1⟩ := rv.list e
    change Post X.K false W σ Hs H Q (match intsOf xs with | some ns => oneI (maxI ns) | none => .bad) at h
    cases q : intsOf xs with
    | none => rw [q] at h; exact h.elim
    | some ns =>
      rw [q] at h
      replace h : Post X.K false W σ Hs H Q (oneI (maxI ns)) := h
      cases hm : maxI ns with
      | none => rw [hm] at h; exact h.elim
      | some m =>
        rw [hm] at h
        have := intsOf_rp r1 q
        subst this
        obtain ⟨g1, g2, g3⟩ := maxI_ok hm
        refine ⟨p, ns, rfl, h1, g1, fun m' q1 q2 => ?_⟩
        have : m' = m := Int.le_antisymm (g3 m' q1) (q2 m g2)
        subst this
        exact h.now e _ (.of (.int _))
  | _ => exact h.elim
theorem cd_min1 (hc : X.calm = true) : CallD X (.builtin "min") (on1 min1D) := by
  refine cd1 (cr_min hc) fun W σ Hs H v d Q e rv h => ?_
  cases d with
  | list xs =>
    obtain ⟨p, ws, rfl, h1, r1⟩ := rv.list e
    change Post X.K false W σ Hs H Q (match intsOf xs with | some ns => oneI (minI ns) | none => .bad) at h
    cases q : intsOf xs with
    | none => rw [q] at h; exact h.elim
    | some ns =>
      rw [q] at h
      replace h : Post X.K false W σ Hs H Q (oneI (minI ns)) := h
      cases hm : minI ns with
      | none => rw [hm] at h; exact h.elim
      | some m =>
        rw [hm] at h
        have := intsOf_rp r1 q
        subst this
        obtain ⟨g1, g2, g3⟩ := minI_ok hm
        refine ⟨p, ns, rfl, h1, g1, fun m' q1 q2 => ?_⟩
        have : m' = m := Int.le_antisymm (q2 m g2) (g3 m' q1)
        subst this
        exact h.now e _ (.of (.int _))
  | _ => exact h.elim
/-- downward -/
def insR (a : Int) : List Int → List Int
  | [] => [a]
  | b :: l => if b ≤ a then a :: b :: l else b :: insR a l
def sortR : List Int → List Int
  | [] => []
  | a :: l => insR a (sortR l)
theorem insR_perm (a : Int) : ∀ m : List Int, (insR a m).Perm (a :: m)
  | [] => .refl _
  | b :: m => by
    unfold insR
    split
    · exact .refl _
    · exact ((insR_perm a m).cons b).trans (.swap _ _ _)
theorem sortR_perm : ∀ l : List Int, (sortR l).Perm l
  | [] => .refl _
  | a :: l => (insR_perm a _).trans ((sortR_perm l).cons a)
theorem insR_pw (a : Int) : ∀ m : List Int, m.Pairwise (· ≥ ·) → (insR a m).Pairwise (· ≥ ·)
  | [], _ => by simp [insR]
  | b :: m, h => by
    have h' := List.pairwise_cons.mp h
    unfold insR
    split
    · refine List.pairwise_cons.mpr ⟨fun c hc => ?_, h⟩
      rcases List.mem_cons.mp hc with rfl | hc
      · assumption
      · have := h'.1 c hc; omega
    · refine List.pairwise_cons.mpr ⟨fun c hc => ?_, insR_pw a m h'.2⟩
      rcases List.mem_cons.mp ((insR_perm a m).mem_iff.mp hc) with rfl | hc
      · omega
      · exact h'.1 c hc
theorem sortR_pw : ∀ l : List Int, (sortR l).Pairwise (· ≥ ·)
  | [] => List.Pairwise.nil
  | a :: l => insR_pw a _ (sortR_pw l)
theorem pw_perm_eq : ∀ {l m : List Int}, l.Pairwise (· ≥ ·) → m.Pairwise (· ≥ ·) → l.Perm m → l = m
  | [], m, _, _, h => h.nil_eq
  | a :: l, [], _, _, h => by have := h.length_eq; simp at this
  | a :: l, b :: m, hl, hm, h => by
    have hl' := List.pairwise_cons.mp hl
    have hm' := List.pairwise_cons.mp hm
    have e : a = b := by
      rcases List.mem_cons.mp (h.mem_iff.mp (List.mem_cons_self ..)) with e | ha
      · exact e
      · rcases List.mem_cons.mp (h.mem_iff.mpr (List.mem_cons_self ..)) with e | hb
        · exact e.symm
        · have h1 := hl'.1 b hb
          have h2 := hm'.1 a ha
          omega
    subst e
    rw [pw_perm_eq hl'.2 hm'.2 h.cons_inv]
def sortRD : D → Res D
  | .list xs => match intsOf xs with | some ns => .ok (.list ((sortR ns).map .int)) | none => .bad
  | _ => .bad
def xSortRev (fa : DEnv → Res D) : DEnv → Res D := fun ρ => (fa ρ).bind sortRD
theorem de_sortRev {b : Bool} {a : Expr} {fa : DEnv → Res D} {p pos kp cp : Pos} {j : Nat} (hg : Gl X "sorted") (hm : X.mg "sorted" = none) (ha : DE X W true a fa)
    (hs : starEach [a] X.env = (false, eval a X.env) :: starEach [] X.env := by rfl)
    (he : backTo pos (starEach [a] X.env) = (false, eval a X.env) :: backTo pos (starEach [] X.env) := by rfl) (hpl : (backTo pos (starEach [a] X.env)).any (·.1) = false := by rfl)
    (hall : (backToKw pos (keywordEach [⟨some "reverse", .Constant (.bool true) j cp, kp⟩] X.env)).all (·.1.isSome) = true := by rfl) (hnone : (backToKw pos (keywordEach [⟨some "reverse", .Constant (.bool true) j cp, kp⟩] X.env)).any (·.1.isNone) = false := by rfl)
    (hks : (backToKw pos (keywordEach [⟨some "reverse", .Constant (.bool true) j cp, kp⟩] X.env)).filterMap (·.1) = [Str.ofString "reverse"] := by rfl) :
    DE X W b (.Call (.Name "sorted" p) [a] [⟨some "reverse", .Constant (.bool true) j cp, kp⟩] pos) (xSortRev fa) := by
  obtain ⟨t, pt, q⟩ := ha.ex
  refine ⟨_, pe_callBK (cr_sortedRev (b := true)) hg hm bt_sortedB (pa_cons pt pa_nil hs) (pk_cons pe_bl pk_nil) (by decide) (by decide) he hpl hall hnone hks, fun Hs0 H0 ρ σ Hs H Q e h => ?_⟩
  have h' : Post X.K false W σ Hs H Q (xSortRev fa ρ) := h.mono fun d Hs' H' _ k v rv => k v (.inl rv.rp)
  refine q _ _ ρ σ Hs H _ e (h'.bind.mono fun d Hs1 H1 s1 h1 v rv => ?_)
  have e1 := s1.sub
  cases d with
  | list xs =>
    obtain ⟨l, vs, rfl, g1, r1⟩ := rv.list e1
    change Post X.K false W σ Hs1 H1 Q (match intsOf xs with | some ns => .ok (.list ((sortR ns).map .int)) | none => .bad) at h1
    cases hk : intsOf xs with
    | none => rw [hk] at h1; exact h1.elim
    | some ns =>
      rw [hk] at h1
      have hv := intsOf_rp r1 hk
      subst hv
      refine ⟨l, ns, rfl, rfl, g1, fun ns' p pm od hp => ?_⟩
      have : ns' = sortR ns := pw_perm_eq od (sortR_pw ns) (pm.trans (sortR_perm ns).symm)
      subst this
      exact mkL_post h1 e1 (int_lst _) hp
  | _ => exact h1.elim
end
end SB
end
end

section
set_option Elab.async false
set_option linter.all false
set_option maxRecDepth 100000
set_option maxHeartbeats 2000000
noncomputable section
namespace SB
open PySem PySem.Spec L2 Evl PyProof.Rows
/-! str(n) -/
def strD : D → Res D
  | .int i => if Nat.ble i.natAbs 1000000000000 = true then .ok (.str (toString i)) else .bad
  | _ => .bad
section
variable {X : Cx} {W : WD}
theorem cd_str : CallD X (.type "str") (on1 strD) := by
  refine cd1 call_str_int fun W σ Hs H v d Q e rv h => ?_
  cases d with
  | int i =>
    have := rv.int
    subst this
    refine post_mk h fun hz h => ⟨i, rfl, ?_, h.now e _ (.of (.str _))⟩
    have h1 := Nat.le_of_ble_eq_true hz
    have h2 : i.natAbs < 2 ^ 1920 := Nat.lt_of_lt_of_le (show i.natAbs < 2 ^ 64 by omega) (Nat.pow_le_pow_right (by decide) (by decide))
    by_cases h0 : i.natAbs = 0
    · rw [h0]; decide
    · exact (Nat.log2_lt h0).mpr h2
  | _ => exact h.elim
end
end SB
end
end

section
set_option Elab.async false
set_option linter.all false
set_option maxRecDepth 100000
set_option maxHeartbeats 2000000
noncomputable section
namespace SB
open PySem PySem.Spec L2 Evl PyProof.Rows
/-! ### dicts of the frame's own; keys are numbers -/
def keyD : Key → D
  | .inl i => .int i
  | .inr x => .str x
def keyOfD : D → Option Key
  | .int i => some (.inl i)
  | _ => none
def eqKy : Key → Key → Bool
  | .inl i, .inl j => decide (i = j)
  | .inr x, .inr y => decide (x = y)
  | _, _ => false
theorem eqKy_ok (a b : Key) : eqKy a b = decide (a = b) := by
  cases a <;> cases b <;> simp [eqKy]
def valK (kvs : List (Key × D)) (k : Key) : Option D := List.rec (motive := fun _ => Option D) none (fun p _ ih => cond (eqKy p.1 k) (some p.2) ih) kvs
def putKd (kvs : List (Key × D)) (k : Key) (d : D) : List (Key × D) := List.rec (motive := fun _ => List (Key × D)) [(k, d)] (fun p r ih => cond (eqKy p.1 k) ((p.1, d) :: r) (p :: ih)) kvs
@[simp] theorem valK_nil (k : Key) : valK [] k = none := rfl
theorem valK_cons (p : Key × D) (r : List (Key × D)) (k : Key) : valK (p :: r) k = cond (eqKy p.1 k) (some p.2) (valK r k) := rfl
theorem putKd_cons (p : Key × D) (r : List (Key × D)) (k : Key) (d : D) : putKd (p :: r) k d = cond (eqKy p.1 k) ((p.1, d) :: r) (p :: putKd r k d) := rfl
section
variable {X : Cx} {W : WD}
theorem rpks_val {H : Hp} {k : Key} : ∀ {ws : List (Key × V)} {kvs : List (Key × D)}, RpKs X.K H ws kvs → match valK kvs k with | some d => ∃ v, valV ws k = some v ∧ Rp X.K H v d | none => valV ws k = none
  | _, _, .nil => rfl
  | _, _, .cons (k := j) (v := v) (d := d) (vs := vs) (ds := ds) h r => by
    have ih := rpks_val (k := k) r
    rw [valK_cons, eqKy_ok]
    by_cases e : j = k
    · rw [decide_eq_true e]
      exact ⟨v, valV_pos e, h⟩
    · rw [decide_eq_false e]
      have e2 : valV ((j, v) :: vs) k = valV vs k := by simp [valV, List.find?_cons, e]
      show match valK ds k with | some d => ∃ u, valV ((j, v) :: vs) k = some u ∧ Rp X.K H u d | none => valV ((j, v) :: vs) k = none
      rw [e2]
      exact ih
theorem rpks_len {H : Hp} : ∀ {ws : List (Key × V)} {kvs : List (Key × D)}, RpKs X.K H ws kvs → ws.length = kvs.length
  | _, _, .nil => rfl
  | _, _, .cons _ r => by simp [rpks_len r]
theorem rpks_keys {H : Hp} : ∀ {ws : List (Key × V)} {kvs : List (Key × D)}, RpKs X.K H ws kvs → ws.map (·.1) = kvs.map (·.1)
  | _, _, .nil => rfl
  | _, _, .cons _ r => by simp [rpks_keys r]
theorem putK_cons_eq {p : Key × V} {r : List (Key × V)} {k : Key} {v : V} (nd : (p :: r).map (·.1) |>.Nodup) (e : p.1 = k) : putK (p :: r) k v = (p.1, v) :: r := by
  unfold putK
  have h1 : ((p :: r).any fun kv => decide (kv.1 = k)) = true := by simp [e]
  rw [if_pos h1, List.map_cons, if_pos e]
  congr 1
  rw [List.map_cons, List.nodup_cons] at nd
  apply (List.map_congr_left fun q hq => ?_).trans (List.map_id r)
  have : q.1 ≠ k := fun z => nd.1 (by rw [e, ← z]; exact List.mem_map_of_mem hq)
  rw [if_neg this]
  rfl
theorem putK_cons_ne {p : Key × V} {r : List (Key × V)} {k : Key} {v : V} (e : p.1 ≠ k) : putK (p :: r) k v = p :: putK r k v := by
  unfold putK
  by_cases h : (r.any fun kv => decide (kv.1 = k)) = true
  · have h1 : ((p :: r).any fun kv => decide (kv.1 = k)) = true := by rw [List.any_cons, h]; simp
    rw [if_pos h1, if_pos h, List.map_cons, if_neg e]
  · have h1 : ¬ ((p :: r).any fun kv => decide (kv.1 = k)) = true := by
      rw [List.any_cons]
      simp only [Bool.not_eq_true] at h
      rw [h]
      simp [e]
    rw [if_neg h1, if_neg h]
    rfl
theorem rpks_put {H : Hp} {k : Key} {v : V} {d : D} (h : Rp X.K H v d) : ∀ {ws : List (Key × V)} {kvs : List (Key × D)}, RpKs X.K H ws kvs → (ws.map (·.1)).Nodup → RpKs X.K H (putK ws k v) (putKd kvs k d)
  | _, _, .nil, _ => .cons h .nil
  | _, _, .cons (k := j) (v := u) (d := e) (vs := vs) (ds := ds) g r, nd => by
    rw [putKd_cons, eqKy_ok]
    by_cases hj : j = k
    · rw [decide_eq_true hj, putK_cons_eq nd hj]
      exact .cons h r
    · rw [decide_eq_false hj, putK_cons_ne hj]
      rw [List.map_cons, List.nodup_cons] at nd
      exact .cons g (rpks_put h r nd.2)
/-- no key stands twice -/
def ndK (kvs : List (Key × D)) : Bool := decide ((kvs.map (·.1)).Nodup)
def dctAt (ρ : DEnv) (i : Nat) : Res (List (Key × D)) := match lk ρ i with
  | some (.dct kvs) => .ok kvs
  | some (.dctL kvs) => .ok kvs
  | _ => .bad
theorem dctAt_ok {ρ : DEnv} {i : Nat} {kvs : List (Key × D)} {Hs0 : Hp} {H0 : Hp0} {Hs H : Hp} {σ : L2.St} (e : EnvOk X.K Hs0 H0 ρ σ Hs H) (h : dctAt ρ i = .ok kvs) : ∃ a ws, σ[i]? = some (some (V.ref a)) ∧ Rd H a (.dK ws) ∧ RpKs X.K Hs ws kvs := by
  unfold dctAt at h
  split at h
  · rename_i k hk
    cases h
    obtain ⟨a, o, h1, _, _, h4, h5⟩ := e.ow i _ rfl (lk_some hk)
    cases o with
    | dK ws => exact ⟨a, ws, h1, .inl h4, h5⟩
    | _ => exact h5.elim
  · rename_i k hk
    cases h
    obtain ⟨a, o, h1, _, _, h4, h5⟩ := e.ow i _ rfl (lk_some hk)
    cases o with
    | frz ob u =>
      cases u with
      | dK ws => exact ⟨a, ws, h1, .inr ⟨ob, h4⟩, h5⟩
      | _ => exact h5.elim
    | _ => exact h5.elim
  · cases h
/-- x = {} -/
def sNewDct (i : Nat) : DEnv → Out := fun ρ => .next (st ρ i (some (.dct [])))
theorem ds_newDct (i : Nat) {x : Str} {pos pos' p2 : Pos} (hN : X.N.Nodup) (hi : X.N[i]? = some x := by rfl) (hx : Loc X.env.scope x := by first | exact Or.inl rfl | exact Or.inr rfl)
    (hs : swapsWith (.Dict [] [] p2) (some (.Name x pos')) pos.line X.env = pure false := by rfl) (hf : X.fn x = true ∨ X.env.scope.names.lookup x = some .local := by first | exact .inl rfl | exact .inr rfl | assumption) : DS X W (.Assign [.Name x pos'] (.Dict [] [] p2) pos) (sNewDct i) := by
  refine ⟨tAsg tDNewK (gName i), ps_set hN hi hx pe_dnewK hs hf, fun Hs0 H0 ρ σ Hs H E e h => ?_⟩
  intro p hp
  have h' : PostS X.K W Hs0 H0 Hs E (.next (ρ.set i (some (.dct [])))) := by rw [← st_eq]; exact h
  exact h' _ Hs _ (Ex.refl _) (e.setObj (x := .dct []) (o := .dK []) rfl hp .nil)
/-- d[y] -/
def getKD (kvs : List (Key × D)) (y : D) : Res D := match keyOfD y with
  | some k => (match valK kvs k with | some d => .ok d | none => .bad)
  | none => .bad
def xDix (i : Nat) (fy : DEnv → Res D) : DEnv → Res D := fun ρ => (dctAt ρ i).bind fun kvs => (fy ρ).bind fun y => getKD kvs y
theorem keyOfD_ok {Hs H : Hp} {v : V} {y : D} {k : Key} {b : Bool} (r : Rep b X.K Hs H v y) (h : keyOfD y = some k) : v = kV k := by
  cases y with
  | int i =>
    cases h
    exact r.int
  | _ => cases h
theorem de_dix {b : Bool} {x : Str} (i : Nat) {c : Expr} {fy : DEnv → Res D} {k : Nat} {pos p2 : Pos} (hr : Room k X.A) (hy : DE X W true c fy) (hN : X.N[i]? = some x := by rfl) (hv : Vis X.env.scope x := by first | exact Or.inl rfl | exact Or.inr (Or.inl rfl) | exact Or.inr (Or.inr rfl)) (hd : (x == ("__debug__" : Str)) = false := by decide)
    (hcd : (x == ("__classdict__" : Str)) = false := by decide) (hs : NoSl c := by exact fun _ _ => rfl) : DE X W b (.Subscript (.Name x p2) c pos) (xDix i fy) := by
  obtain ⟨t, pt, q⟩ := hy.ex
  refine ⟨_, pe_dget (by have := hr.un; omega) (pe_var (i := i) hN hv hd hcd) pt hs, fun Hs0 H0 ρ σ Hs H Q e h => ?_⟩
  have h0 := PostA.bind h
  cases hk : dctAt ρ i with
  | bad => rw [hk] at h0; exact h0.elim
  | exc c => unfold dctAt at hk; split at hk <;> cases hk
  | ok kvs =>
    rw [hk] at h0
    obtain ⟨a, ws, h1, h2, h3⟩ := dctAt_ok e hk
    refine ⟨_, h1, q _ _ ρ σ Hs H _ e ((PostA.bind (h0.now e.sub)).mono fun y Hs1 H1 s1 g v rv => ?_)⟩
    unfold getKD at g
    cases hky : keyOfD y with
    | none => rw [hky] at g; exact g.elim
    | some ky =>
      rw [hky] at g
      have hv := keyOfD_ok rv hky
      subst hv
      have rel := rpks_val (k := ky) (RpKs.ex s1.sh h3)
      simp only at g
      cases hvl : valK kvs ky with
      | none => rw [hvl] at g; exact g.elim
      | some d =>
        rw [hvl] at g rel
        obtain ⟨v, v1, v2⟩ := rel
        refine ⟨a, v, rfl, .inl ⟨ws, ky, ?_, rfl, v1.symm⟩, PostA.now s1.sub g _ (.of v2)⟩
        exact ex_rd s1.wh h2
/-- d.get(y, z) -/
def getKDz (kvs : List (Key × D)) (y z : D) : Res D := match keyOfD y with
  | some k => (match valK kvs k with | some d => .ok d | none => .ok z)
  | none => .bad
def xDget (i : Nat) (fy fz : DEnv → Res D) : DEnv → Res D := fun ρ => (dctAt ρ i).bind fun kvs => (fy ρ).bind fun y => (fz ρ).bind fun z => getKDz kvs y z
theorem de_dget {b : Bool} {x : Str} (i : Nat) {c f : Expr} {fy fz : DEnv → Res D} {k : Nat} {p2 apos cpos : Pos} (hr : Room k X.A) (hy : DE X W false c fy) (hz : DE X W false f fz) (m : M2 X (.Name x p2) "get" apos c f cpos := by exact ⟨rfl, rfl, rfl, rfl⟩) (hN : X.N[i]? = some x := by rfl) (hv : Vis X.env.scope x := by first | exact Or.inl rfl | exact Or.inr (Or.inl rfl) | exact Or.inr (Or.inr rfl)) (hd : (x == ("__debug__" : Str)) = false := by decide)
    (hcd : (x == ("__classdict__" : Str)) = false := by decide) : DE X W b (.Call (.Attribute (.Name x p2) "get" apos) [c, f] [] cpos) (xDget i fy fz) := by
  obtain ⟨t, pt, q⟩ := hy.ex
  obtain ⟨t', pt', q'⟩ := hz.ex
  refine ⟨_, pe_dget2 (by have := hr.un; omega) (pe_var (i := i) hN hv hd hcd) pt pt' m, fun Hs0 H0 ρ σ Hs H Q e h => ?_⟩
  have h0 := PostA.bind h
  cases hk : dctAt ρ i with
  | bad => rw [hk] at h0; exact h0.elim
  | exc c => unfold dctAt at hk; split at hk <;> cases hk
  | ok kvs =>
    rw [hk] at h0
    obtain ⟨a, ws, h1, h2, h3⟩ := dctAt_ok e hk
    refine ⟨_, h1, a, rfl, .inl ⟨ws, h2⟩, q _ _ ρ σ Hs H _ e ((PostA.bind (h0.now e.sub)).mono fun y Hs1 H1 s1 g v rv => ?_)⟩
    refine q' _ _ ρ σ Hs1 H1 _ (e.step s1) ((PostA.bind g).mono fun z Hs2 H2 s2 g2 u ru => ?_)
    unfold getKDz at g2
    cases hky : keyOfD y with
    | none => rw [hky] at g2; exact g2.elim
    | some ky =>
      rw [hky] at g2
      have hv := keyOfD_ok rv hky
      subst hv
      have rel := rpks_val (k := ky) (RpKs.ex (s1.sh.trans s2.sh) h3)
      simp only at g2
      cases hvl : valK kvs ky with
      | none =>
        rw [hvl] at g2 rel
        refine ⟨none, .inl ⟨ws, ky, ex_rd (s1.wh.trans s2.wh) h2, rfl, (show valV ws ky = none from rel).symm⟩, PostA.now s2.sub g2 _ (.of ru.rp)⟩
      | some d =>
        rw [hvl] at g2 rel
        obtain ⟨v, v1, v2⟩ := rel
        exact ⟨some v, .inl ⟨ws, ky, ex_rd (s1.wh.trans s2.wh) h2, rfl, v1.symm⟩, PostA.now s2.sub g2 _ (.of v2)⟩
/-- d[y] = v -/
def sDput (i : Nat) (fy fv : DEnv → Res D) : DEnv → Out := fun ρ => match lk ρ i with
  | some (.dct kvs) => (fv ρ).out fun d => (fy ρ).out fun y => match keyOfD y with
    | some k => if (small kvs.length && ndK kvs) = true then .next (st ρ i (some (.dct (putKd kvs k d)))) else .bad
    | none => .bad
  | _ => .bad
theorem ds_dput {x : Str} (i : Nat) {c v : Expr} {fy fv : DEnv → Res D} {k : Nat} {pos pos' p2 : Pos} (hr : Room k X.A) (hv' : DE X W false v fv) (hy : DE X W true c fy) (hs : swapsWith v (some (.Subscript (.Name x p2) c pos')) pos.line X.env = pure false := by rfl)
    (hN : X.N[i]? = some x := by rfl) (hv : Vis X.env.scope x := by first | exact Or.inl rfl | exact Or.inr (Or.inl rfl) | exact Or.inr (Or.inr rfl)) (hd : (x == ("__debug__" : Str)) = false := by decide) (hcd : (x == ("__classdict__" : Str)) = false := by decide) :
    DS X W (.Assign [.Subscript (.Name x p2) c pos'] v pos) (sDput i fy fv) := by
  obtain ⟨tv, pv, qv⟩ := hv'.ex
  obtain ⟨t, pt, q⟩ := hy.ex
  refine ⟨_, ps_dput (by have := hr.un; omega) (pe_var (i := i) hN hv hd hcd) pt pv hs, fun Hs0 H0 ρ σ Hs H E e h => ?_⟩
  unfold sDput at h
  split at h
  · rename_i kvs hk
    obtain ⟨a, o, h1, h2, h3, h4, h5⟩ := e.ow i _ rfl (lk_some hk)
    cases o with
    | dK ws =>
      refine qv _ _ ρ σ Hs H _ e ((post_out e h).mono fun d Hs1 H1 s1 g u ru => ⟨_, h1, ?_⟩)
      refine q _ _ ρ σ Hs1 H1 _ (e.step s1) ((post_out (e.step s1) g).mono fun y Hs2 H2 s2 g2 w rw => ?_)
      cases hky : keyOfD y with
      | none => rw [hky] at g2; exact g2.elim
      | some ky =>
        rw [hky] at g2
        refine postS_mk g2 fun hz g2 => ?_
        rw [Bool.and_eq_true] at hz
        have hw := keyOfD_ok rw hky
        subst hw
        have s12 := s1.trans s2
        have h5' : RpKs X.K Hs ws kvs := h5
        have nd : (ws.map (·.1)).Nodup := by rw [rpks_keys h5']; exact of_decide_eq_true hz.2
        refine ⟨a, _, rfl, .inl ⟨ws, ky, s12.wh _ _ h4, rfl, by rw [rpks_len h5']; exact small_lt hz.1, rfl⟩, ?_⟩
        rw [st_eq] at g2
        exact g2 σ Hs2 _ (Ex.refl _) ((e.step s12).putObj (x := .dct kvs) (y := .dct (putKd kvs ky d)) (o := .dK (putK ws ky u)) rfl rfl (lk_some hk) h1 (rpks_put (Rp.ex s2.sh ru.rp) (RpKs.ex s12.sh h5') nd))
    | _ => exact h5.elim
  · exact h.elim
/-! ### going through the keys: the dict is locked meanwhile -/
def tLock (i : Nat) (t : TE) : TE := fun σ H Q => ∃ a u, σ[i]? = some (some (V.ref a)) ∧ H a = some u ∧ Mut (some u) ∧ ∀ od, t σ (upd H a (.frz od u)) fun v H' => H' a = some (.frz od u) ∧ Q v (upd H' a u)
theorem pe_lock {e : Expr} {t : TE} (i : Nat) (h : PE X e t) : PE X e (tLock i t) := by
  refine ⟨fun pins s σ H Q I hq => ?_⟩
  obtain ⟨a, u, _, hu, mu, q⟩ := hq
  obtain ⟨od, J⟩ := I.lock hu mu
  refine thn (h.run pins s σ _ _ J (q od)) fun v s1 ⟨x, H', I', r, h1, h2⟩ => ?_
  exact ⟨x, _, I'.unlock h1 (I.nofrz hu mu), r, h2⟩
def xLock (i : Nat) (f : DEnv → Res D) : DEnv → Res D := fun ρ => match lk ρ i with
  | some (.dct kvs) => noExc (f (st ρ i (some (.dctL kvs))))
  | _ => .bad
theorem de_lock {b : Bool} {e : Expr} {f : DEnv → Res D} (i : Nat) (h : DE X W0 false e f) : DE X W b e (xLock i f) := by
  obtain ⟨t, p, q⟩ := h.ex
  refine ⟨tLock i t, pe_lock i p, fun Hs0 H0 ρ σ Hs H Q e hp => ?_⟩
  unfold xLock at hp
  split at hp
  · rename_i kvs hk
    obtain ⟨a, o, h1, h2, h3, h4, h5⟩ := e.ow i _ rfl (lk_some hk)
    cases o with
    | dK ws =>
      refine ⟨a, .dK ws, h1, h4, trivial, fun od => ?_⟩
      have e2 := e.putObj (x := .dct kvs) (y := .dctL kvs) (o := .frz od (.dK ws)) rfl rfl (lk_some hk) h1 h5
      rw [← st_eq] at e2
      refine q _ _ _ σ Hs _ _ e2 ?_
      cases hf : f (st ρ i (some (.dctL kvs))) with
      | bad => rw [hf] at hp; exact hp.elim
      | exc c => rw [hf] at hp; exact (show False from hp).elim
      | ok d =>
        rw [hf] at hp
        replace hp : Post X.K b W σ Hs H Q (.ok d) := hp
        intro Hs' H' s v rv
        have hH' : H' a = some (.frz od (.dK ws)) := s.wh _ _ upd_same
        refine ⟨hH', ?_⟩
        have sa : Hs' a = none := s.away a _ upd_same h2
        have st : Step Hs H Hs' (upd H' a (.dK ws)) := by
          refine ⟨s.sh, fun c o hc => ?_, fun c o hc => ?_, fun c o hc n => ?_⟩
          · by_cases z : c = a
            · subst z; rw [upd_same]; rw [h4] at hc; exact hc
            · rw [upd_ne z]; exact s.wh c o (by rw [upd_ne z]; exact hc)
          · have z : c ≠ a := fun z => by subst z; rw [sa] at hc; cases hc
            rw [upd_ne z]; exact s.sub c o hc
          · by_cases z : c = a
            · subst z; exact sa
            · exact s.away c o (by rw [upd_ne z]; exact hc) n
        exact hp _ _ st v (.inl rv.rp)
    | _ => exact h5.elim
  · exact hp.elim
def xKeysL (i : Nat) : DEnv → Res (List D) := fun ρ => match lk ρ i with
  | some (.dctL kvs) => .ok (kvs.map fun p => keyD p.1)
  | _ => .bad
theorem di_keys {x : Str} {tg : Expr} {pos : Pos} (i : Nat) (hN : X.N[i]? = some x := by rfl) (hv : Vis X.env.scope x := by first | exact Or.inl rfl | exact Or.inr (Or.inl rfl) | exact Or.inr (Or.inr rfl)) (hd : (x == ("__debug__" : Str)) = false := by decide)
    (hcd : (x == ("__classdict__" : Str)) = false := by decide) : DI X W true tg (.Name x pos) (xKeysL i) := by
  refine ⟨_, pi_keys (pe_var (i := i) hN hv hd hcd), fun Hs0 H0 ρ σ Hs H R e h => ?_⟩
  unfold xKeysL at h
  split at h
  · rename_i kvs hk
    obtain ⟨a, o, h1, h2, h3, h4, h5⟩ := e.ow i _ rfl (lk_some hk)
    cases o with
    | frz ob u =>
      cases u with
      | dK ws =>
        have h5' : RpKs X.K Hs ws kvs := h5
        refine ⟨_, h1, a, ob, rfl, .inl ⟨ws, h4, ?_⟩⟩
        refine PostA.now e.sub h _ ⟨_, _, by rw [List.length_map, ← rpks_len h5']; exact walk_keys, fun H' _ hx => hx rfl _ _ h4, fun j y Hs' H' H'' e1 e2 hj hy => ?_⟩
        obtain ⟨rfl, k, v, g1, rfl⟩ := hy
        refine ⟨Hs', Step.refl e2, keyD k, ?_, by cases k <;> constructor⟩
        have := congrArg (fun l => l[j]?) (rpks_keys h5')
        simp only [List.getElem?_map, g1, Option.map_some] at this
        rw [List.getElem?_map]
        cases hkj : kvs[j]? with
        | none => rw [hkj] at this; cases this
        | some q =>
          rw [hkj] at this
          simp only [Option.map_some, Option.some.injEq] at this
          rw [Option.map_some, this]
      | _ => exact h5.elim
    | _ => exact h5.elim
  · exact h.elim
end
end SB
end
end

section
set_option Elab.async false
set_option linter.all false
set_option maxRecDepth 100000
set_option maxHeartbeats 2000000
noncomputable section
namespace SB
open PySem PySem.Spec L2 Evl PyProof.Rows
/-! ### dicts of the frame's own; keys are tuples of numbers -/
def keysD : List D → Option (List Key)
  | [] => some []
  | d :: r => match keyOfD d with
    | some k => (keysD r).map fun l => k :: l
    | none => none
def tkOf : D → Option (List Key)
  | .tuple ds => keysD ds
  | _ => none
def valG {κ : Type} [DecidableEq κ] : List (κ × D) → κ → Option D
  | [], _ => none
  | p :: r, k => if p.1 = k then some p.2 else valG r k
def putG {κ : Type} [DecidableEq κ] : List (κ × D) → κ → D → List (κ × D)
  | [], k, d => [(k, d)]
  | p :: r, k, d => if p.1 = k then (p.1, d) :: r else p :: putG r k d
section
variable {X : Cx} {W : WD} {κ : Type} [DecidableEq κ]
theorem rpg_val {H : Hp} {k : κ} : ∀ {ws : List (κ × V)} {kvs : List (κ × D)}, RpKs X.K H ws kvs → match valG kvs k with | some d => ∃ v, valV ws k = some v ∧ Rp X.K H v d | none => valV ws k = none
  | _, _, .nil => rfl
  | _, _, .cons (k := j) (v := v) (d := d) (vs := vs) (ds := ds) h r => by
    have ih := rpg_val (k := k) r
    by_cases e : j = k
    · rw [show valG ((j, d) :: ds) k = some d from if_pos e]
      exact ⟨v, valV_pos e, h⟩
    · rw [show valG ((j, d) :: ds) k = valG ds k from if_neg e, show valV ((j, v) :: vs) k = valV vs k from valV_neg e]
      exact ih
theorem rpg_len {H : Hp} : ∀ {ws : List (κ × V)} {kvs : List (κ × D)}, RpKs X.K H ws kvs → ws.length = kvs.length
  | _, _, .nil => rfl
  | _, _, .cons _ r => by simp [rpg_len r]
theorem rpg_keys {H : Hp} : ∀ {ws : List (κ × V)} {kvs : List (κ × D)}, RpKs X.K H ws kvs → ws.map (·.1) = kvs.map (·.1)
  | _, _, .nil => rfl
  | _, _, .cons _ r => by simp [rpg_keys r]
theorem putg_cons_eq {p : κ × V} {r : List (κ × V)} {k : κ} {v : V} (nd : (p :: r).map (·.1) |>.Nodup) (e : p.1 = k) : putK (p :: r) k v = (p.1, v) :: r := by
  unfold putK
  have h1 : ((p :: r).any fun kv => decide (kv.1 = k)) = true := by simp [e]
  rw [if_pos h1, List.map_cons, if_pos e]
  congr 1
  rw [List.map_cons, List.nodup_cons] at nd
  apply (List.map_congr_left fun q hq => ?_).trans (List.map_id r)
  have : q.1 ≠ k := fun z => nd.1 (by rw [e, ← z]; exact List.mem_map_of_mem hq)
  rw [if_neg this]
  rfl
theorem putg_cons_ne {p : κ × V} {r : List (κ × V)} {k : κ} {v : V} (e : p.1 ≠ k) : putK (p :: r) k v = p :: putK r k v := by
  unfold putK
  by_cases h : (r.any fun kv => decide (kv.1 = k)) = true
  · have h1 : ((p :: r).any fun kv => decide (kv.1 = k)) = true := by rw [List.any_cons, h]; simp
    rw [if_pos h1, if_pos h, List.map_cons, if_neg e]
  · have h1 : ¬ ((p :: r).any fun kv => decide (kv.1 = k)) = true := by
      rw [List.any_cons]
      simp only [Bool.not_eq_true] at h
      rw [h]
      simp [e]
    rw [if_neg h1, if_neg h]
    rfl
theorem rpg_put {H : Hp} {k : κ} {v : V} {d : D} (h : Rp X.K H v d) : ∀ {ws : List (κ × V)} {kvs : List (κ × D)}, RpKs X.K H ws kvs → (ws.map (·.1)).Nodup → RpKs X.K H (putK ws k v) (putG kvs k d)
  | _, _, .nil, _ => .cons h .nil
  | _, _, .cons (k := j) (v := u) (d := e) (vs := vs) (ds := ds) g r, nd => by
    by_cases hj : j = k
    · rw [show putG ((j, e) :: ds) k d = (j, d) :: ds from if_pos hj, putg_cons_eq nd hj]
      exact .cons h r
    · rw [show putG ((j, e) :: ds) k d = (j, e) :: putG ds k d from if_neg hj, putg_cons_ne hj]
      rw [List.map_cons, List.nodup_cons] at nd
      exact .cons g (rpg_put h r nd.2)
end
section
variable {X : Cx} {W : WD}
theorem keysD_ok {Hs : Hp} : ∀ {vs : List V} {ds : List D} {ks : List Key}, RpAll X.K Hs vs ds → keysD ds = some ks → vs = ks.map kV
  | _, _, ks, .nil, e => by cases e; rfl
  | _, _, ks, .cons (v := v) (vs := vs) (d := d) (ds := ds) h r, e => by
    unfold keysD at e
    cases hk : keyOfD d with
    | none => rw [hk] at e; cases e
    | some k =>
      rw [hk] at e
      cases hl : keysD ds with
      | none => rw [hl] at e; cases e
      | some l =>
        rw [hl] at e
        cases e
        rw [List.map_cons, ← keysD_ok r hl, keyOfD_ok (Hs := Hs) (H := Hs) (b := false) (.of h) hk]
theorem tkOf_ok {b : Bool} {Hs H : Hp} {v : V} {y : D} {ks : List Key} (s : Ex Hs H) (r : Rep b X.K Hs H v y) (h : tkOf y = some ks) : ∃ c, v = .ref c ∧ H c = some (.tup (ks.map kV)) := by
  cases y with
  | tuple ds =>
    obtain ⟨a, vs, rfl, h1, h2⟩ := r.tuple
    refine ⟨a, rfl, ?_⟩
    rw [← keysD_ok h2 h]
    exact s _ _ h1
  | _ => cases h
/-- {k: v}, k a tuple -/
def tDispT (tk tv : TE) : TE := fun σ H Q => ∀ p, H p = none → tk σ (upd H p (.dT [])) fun x H1 => tv σ H1 fun y H2 => H2 p = some (.dT []) ∧ ∃ b ks, x = .ref b ∧ H2 b = some (.tup (ks.map kV)) ∧ Q (.ref p) (upd H2 p (.dT [(ks, y)]))
theorem pe_dispT {k v : Expr} {tk tv : TE} {pos : Pos} (hu : X.A.units + 1 < cLine) (hk : PE X k tk) (hv : PE X v tv) : PE X (.Dict [some k] [v] pos) (tDispT tk tv) := by
  refine ⟨fun pins s σ H Q I q => ?_⟩
  have hn := I.hok.fresh (Nat.le_refl s.heap.objs.size)
  have I1 := I.laid (a := s.heap.objs.size) (o := .dT []) (h' := s.heap.push { cls := .type "dict", data := .dict #[] }) (t' := s.toks) (fun _ _ q => Heap.get?_push_of_some _ q) (Nat.le_refl _) (dt_empty s.heap I.big)
  rw [arm_eval_Dict, zip_pairTrees [some k] [v] X.env pos rfl rfl, dictDisplay_pairs (pairTrees [some k] [v] X.env pos) (List.cons_ne_nil _ _) (Nat.lt_of_sub_eq_succ rfl)]
  refine wpAny_bind (wpAny_standAt (wpAny_bind (wpAny_subDictH (knd := tupleKind (mixKind X.prog X.w)) (Nat.lt_of_succ_lt hu) (Nat.le_of_sub_eq_zero rfl) ?_)))
  refine pairTrees_cons_walk (thn (hk.run pins _ σ _ _ I1 (q _ hn)) fun u s1 ⟨x, H1, I2, rx, q1⟩ => thn (hv.run pins s1 σ H1 _ I2 q1) fun w2 s2 ⟨y, H2, I3, ry, e, b, ks, ex, eb, q2⟩ => pairTrees_nil_walk ?_)
  subst ex
  cases (show u = Value.ref b from rx)
  obtain ⟨z, hd, xs0, r0, dd⟩ := dt_of I3.hok e
  cases r0
  refine ⟨[(ks, b, w2)], ⟨rfl, rfl, key_of I3.hok eb, trivial⟩, dd, fun h' tkk dd' hs => wpAny_pure ⟨.ref s.heap.objs.size, _, ?_, rfl, q2⟩⟩
  obtain ⟨q, es, ep, hq, h2, h3, h4, _, h5⟩ := dd'
  refine d_write I3 (by rw [e]; exact True.intro) hs ⟨q, hq⟩ ⟨by rw [sizeLine_eq]; simp, hd, _, ?_, q, es, ep, hq, h2, h3, h4, h5⟩
  refine .cons ⟨rfl, ?_, ry⟩ .nil
  rw [upd_ne (ne_of eb e (fun z => nomatch z))]
  exact eb
/-- an object that stands becomes a variable's own -/
theorem EnvOk.adopt {Hs0 : Hp} {H0 : Hp0} {Hs H : Hp} {ρ : DEnv} {σ : L2.St} {i : Nat} {a : Addr} {x : LV} {o : HO} (e : EnvOk X.K Hs0 H0 ρ σ Hs H) (hx : isOwn x = true) (sa : Hs a = none) (oa : H0 a = none)
    (other : ∀ {j : Nat} {y : LV} {c : Addr}, isOwn y = true → ρ[j]? = some (some y) → σ[j]? = some (some (V.ref c)) → c ≠ a)
    (otherG : ∀ {j : Nat} {rows : List (List Int)} {b : Addr} {as : List Addr}, ρ[j]? = some (some (LV.grid rows)) → σ[j]? = some (some (V.ref b)) → GrAt Hs H0 H b as rows → a ∉ b :: as) (r : ownR X.K Hs x o) (sf : ∀ u, H a = some u → soft u = true) (hpn : parOf x = none := by rfl) :
    EnvOk X.K Hs0 H0 (ρ.set i (some x)) (σ.set i (some (.ref a))) Hs (upd H a o) := by
  refine ⟨by simp [e.len], Hp0.mut sf e.iv, fun j q => (by
    rcases set_back q with ⟨_, _, z⟩ | ⟨_, q⟩
    · rw [← z] at hx; cases hx
    · exact (e.tb j q).mut sf), fun j k y q rk => ?_, Ex.mut e.sub sa, e.sh0, Ex.mut e.wh0 oa, e.aw0, fun j d q => ?_, fun j d q => ?_, fun j y hy q => ?_, fun j k y z c hy hz p q r s => ?_, fun j rows q => ?_⟩
  · rcases set_back q with ⟨_, _, z⟩ | ⟨hj, q⟩
    · subst z
      rw [hpn] at rk
      cases rk
    · rw [List.getElem?_set_ne hj]
      exact e.pa j k y q rk
  · rcases set_back q with ⟨_, _, z⟩ | ⟨hj, q⟩
    · subst z; cases hx
    · rw [List.getElem?_set_ne hj]
      exact e.dat j d q
  · rcases set_back q with ⟨_, _, z⟩ | ⟨hj, q⟩
    · subst z; cases hx
    · rw [List.getElem?_set_ne hj]
      exact e.nd j d q
  · rcases set_back q with ⟨rfl, hl, z⟩ | ⟨hj, q⟩
    · subst z
      exact ⟨a, o, List.getElem?_set_self (by rw [← e.len]; exact hl), sa, oa, upd_same, r⟩
    · rw [List.getElem?_set_ne hj]
      obtain ⟨c, o', h1, h2, h3, h4, h5⟩ := e.ow j y hy q
      exact ⟨c, o', h1, h2, h3, by rw [upd_ne (other hy q h1)]; exact h4, h5⟩
  · have mine : ∀ {j : Nat}, i < ρ.length → (σ.set i (some (V.ref a)))[i]? = some (some (V.ref c)) → c = a := fun {j} hl r => by
      rw [List.getElem?_set_self (by rw [← e.len]; exact hl)] at r
      cases r
      rfl
    rcases set_back p with ⟨hj, hl, _⟩ | ⟨hj, p⟩
    · rcases set_back q with ⟨hk, _, _⟩ | ⟨hk, q⟩
      · exact hj.symm.trans hk
      · subst hj
        rw [List.getElem?_set_ne hk] at s
        exact absurd (mine (j := 0) hl r) (other hz q s)
    · rcases set_back q with ⟨hk, hl, _⟩ | ⟨hk, q⟩
      · subst hk
        rw [List.getElem?_set_ne hj] at r
        exact absurd (mine (j := 0) hl s) (other hy p r)
      · rw [List.getElem?_set_ne hj] at r
        rw [List.getElem?_set_ne hk] at s
        exact e.inj j k y z c hy hz p q r s
  · rcases set_back q with ⟨_, _, z⟩ | ⟨hj, q⟩
    · subst z; cases hx
    obtain ⟨b, as, h1, h2, h3⟩ := e.gr j rows q
    have far : ∀ c, c ∈ b :: as → c ≠ a := fun c hc z => otherG q h1 h2 (z ▸ hc)
    refine ⟨b, as, by rw [List.getElem?_set_ne hj]; exact h1, h2.mono (fun c hc => (h2.new c hc).1) (fun c hc o' ho => by rw [upd_ne (far c hc)]; exact ho), fun k y c hy p r => ?_⟩
    rcases set_back p with ⟨rfl, hl, z⟩ | ⟨hk, p⟩
    · rw [List.getElem?_set_self (by rw [← e.len]; exact hl)] at r
      cases r
      exact fun hc => far _ hc rfl
    · rw [List.getElem?_set_ne hk] at r
      exact h3 k y c hy p r
/-- x = {e: v} -/
def sNewDctT (i : Nat) (fk fv : DEnv → Res D) : DEnv → Out := fun ρ => (fk ρ).out fun y => (fv ρ).out fun d => match tkOf y with
  | some k => .next (st ρ i (some (.dctT [(k, d)])))
  | none => .bad
theorem ds_newDctT (i : Nat) {x : Str} {ke ve : Expr} {fk fv : DEnv → Res D} {pos pos' p2 : Pos} {k : Nat} (hr : Room k X.A) (hN : X.N.Nodup) (hk : DE X W false ke fk) (hv : DE X W false ve fv) (hi : X.N[i]? = some x := by rfl) (hx : Loc X.env.scope x := by first | exact Or.inl rfl | exact Or.inr rfl)
    (hs : swapsWith (.Dict [some ke] [ve] p2) (some (.Name x pos')) pos.line X.env = pure false := by rfl) (hf : X.fn x = true ∨ X.env.scope.names.lookup x = some .local := by first | exact .inl rfl | exact .inr rfl | assumption) : DS X W (.Assign [.Name x pos'] (.Dict [some ke] [ve] p2) pos) (sNewDctT i fk fv) := by
  obtain ⟨tk, pk, qk⟩ := hk.ex
  obtain ⟨tv, pv, qv⟩ := hv.ex
  refine ⟨_, ps_set hN hi hx (pe_dispT (by have := hr.un; omega) pk pv) hs hf, fun Hs0 H0 ρ σ Hs H E e h => ?_⟩
  intro p hp
  have sp : Hs p = none := sub_none e.sub hp
  have st0 : Step Hs H Hs (upd H p (.dT [])) := ⟨Ex.refl _, Ex.new hp, fun a o ha => by rw [upd_ne (fun z => by subst z; rw [sp] at ha; cases ha)]; exact e.sub a o ha, fun _ _ _ n => n⟩
  have e0 := e.step st0
  have other : ∀ {j : Nat} {y : LV} {c : Addr}, isOwn y = true → ρ[j]? = some (some y) → σ[j]? = some (some (V.ref c)) → c ≠ p := fun {j y c} hy q r => by
    obtain ⟨c', o', h1, h2, h3, h4, h5⟩ := e.ow j y hy q
    rw [r] at h1
    cases h1
    exact ne_of_none h4 hp
  refine qk _ _ ρ σ Hs _ _ e0 ((post_out e0 h).mono fun y Hs1 H1 s1 g v rv => ?_)
  refine qv _ _ ρ σ Hs1 H1 _ (e0.step s1) ((post_out (e0.step s1) g).mono fun d Hs2 H2 s2 g2 u ru => ?_)
  have s12 := s1.trans s2
  refine ⟨s12.wh _ _ upd_same, ?_⟩
  cases hky : tkOf y with
  | none => rw [hky] at g2; exact g2.elim
  | some ky =>
    rw [hky] at g2
    obtain ⟨c, rfl, hc⟩ := tkOf_ok s2.sub (rv.step s2) hky
    refine ⟨c, ky, rfl, hc, ?_⟩
    have otherG : ∀ {j : Nat} {rows : List (List Int)} {b : Addr} {as : List Addr}, ρ[j]? = some (some (LV.grid rows)) → σ[j]? = some (some (V.ref b)) → GrAt Hs2 H0 H2 b as rows → p ∉ b :: as := fun {j rows b as} q r g hin => by
      obtain ⟨b0, as0, h1, g0, _⟩ := e.gr j rows q
      rw [r] at h1
      cases h1
      have hw := s12.wh b _ (by rw [upd_ne (ne_of_none g0.out hp)]; exact g0.out)
      rw [g.out] at hw
      have hz : as = as0 := refs_inj (HO.lst.inj (Option.some.inj hw))
      subst hz
      obtain ⟨o', ho⟩ := g0.has p hin
      rw [hp] at ho
      cases ho
    have g3 : PostS X.K W Hs0 H0 Hs2 E (.next (ρ.set i (some (.dctT [(ky, d)])))) := by rw [← st_eq]; exact g2
    exact g3 _ Hs2 _ (Ex.refl _) ((e0.step s12).adopt (x := .dctT [(ky, d)]) (o := .dT [(ky, u)]) rfl (s12.away p _ upd_same sp) (sub_none e.wh0 hp) other otherG (.cons ru.rp .nil) (fun u hu => by
      rw [s12.wh _ _ upd_same] at hu
      cases hu
      rfl))
def dctTAt (ρ : DEnv) (i : Nat) : Res (List (List Key × D)) := match lk ρ i with
  | some (.dctT kvs) => .ok kvs
  | _ => .bad
theorem dctTAt_ok {ρ : DEnv} {i : Nat} {kvs : List (List Key × D)} {Hs0 : Hp} {H0 : Hp0} {Hs H : Hp} {σ : L2.St} (e : EnvOk X.K Hs0 H0 ρ σ Hs H) (h : dctTAt ρ i = .ok kvs) : ∃ a ws, σ[i]? = some (some (V.ref a)) ∧ H a = some (.dT ws) ∧ RpKs X.K Hs ws kvs := by
  unfold dctTAt at h
  split at h
  · rename_i k hk
    cases h
    obtain ⟨a, o, h1, _, _, h4, h5⟩ := e.ow i _ rfl (lk_some hk)
    cases o with
    | dT ws => exact ⟨a, ws, h1, h4, h5⟩
    | _ => exact h5.elim
  · cases h
/-- y in d, y not in d -/
def inT (neg : Bool) (kvs : List (List Key × D)) (y : D) : Res D := match tkOf y with
  | some k => .ok (.bool (bif neg then !(valG kvs k).isSome else (valG kvs k).isSome))
  | none => .bad
def xInT (neg : Bool) (i : Nat) (fy : DEnv → Res D) : DEnv → Res D := fun ρ => (fy ρ).bind fun y => (dctTAt ρ i).bind fun kvs => inT neg kvs y
theorem inT_read {neg : Bool} {ty : TE} {fy : DEnv → Res D} {i : Nat} {ρ : DEnv} {σ : L2.St} {Hs0 : Hp} {H0 : Hp0} {Hs H : Hp} {Q : VK} {b : Bool} (q : ∀ Hs0 H0 ρ σ Hs H Q, EnvOk X.K Hs0 H0 ρ σ Hs H → Post X.K true W σ Hs H Q (fy ρ) → ty σ H Q)
    (e : EnvOk X.K Hs0 H0 ρ σ Hs H) (h : Post X.K b W σ Hs H Q (xInT neg i fy ρ)) :
    ty σ H fun y H1 => tVar i σ H1 fun x H2 => ∃ a o, x = .ref a ∧ DGet H2 a y o ∧ Q (.bl (bif neg then !o.isSome else o.isSome)) H2 := by
  refine q _ _ ρ σ Hs H _ e ((PostA.bind h).mono fun y Hs1 H1 s1 g v rv => ?_)
  cases hk : dctTAt ρ i with
  | bad => rw [hk] at g; exact g.elim
  | exc c => unfold dctTAt at hk; split at hk <;> cases hk
  | ok kvs =>
    rw [hk] at g
    replace g : PostA W σ Hs1 H1 _ (inT neg kvs y) := g
    obtain ⟨a, ws, h1, h2, h3⟩ := dctTAt_ok (e.step s1) hk
    unfold inT at g
    cases hky : tkOf y with
    | none => rw [hky] at g; exact g.elim
    | some ky =>
      rw [hky] at g
      obtain ⟨c, rfl, hc⟩ := tkOf_ok s1.sub rv hky
      have rel := rpg_val (k := ky) h3
      refine ⟨_, h1, a, valV ws ky, rfl, .inr ⟨ws, ky, c, .inl h2, rfl, hc, rfl⟩, ?_⟩
      have es : (valV ws ky).isSome = (valG kvs ky).isSome := by
        cases hvl : valG kvs ky with
        | none => rw [hvl] at rel; rw [show valV ws ky = none from rel]; rfl
        | some d =>
          rw [hvl] at rel
          obtain ⟨u, v1, _⟩ := rel
          rw [v1]; rfl
      rw [es]
      exact PostA.now s1.sub g _ (.of (.bl _))
theorem de_inT {b : Bool} {x : Str} (i : Nat) {c : Expr} {fy : DEnv → Res D} {k : Nat} {pos p2 : Pos} (hr : Room k X.A) (hy : DE X W true c fy) (hN : X.N[i]? = some x := by rfl) (hv : Vis X.env.scope x := by first | exact Or.inl rfl | exact Or.inr (Or.inl rfl) | exact Or.inr (Or.inr rfl)) (hd : (x == ("__debug__" : Str)) = false := by decide)
    (hcd : (x == ("__classdict__" : Str)) = false := by decide) (hm : behindInMarks .In (.Name x p2) = false := by rfl) : DE X W b (.Compare c [.In] [.Name x p2] pos) (xInT false i fy) := by
  obtain ⟨t, pt, q⟩ := hy.ex
  exact ⟨_, pe_cmp (pc_din (by have := hr.un; omega) pt (pe_var (i := i) hN hv hd hcd)) hm, fun Hs0 H0 ρ σ Hs H Q e h => inT_read q e h⟩
theorem de_ninT {b : Bool} {x : Str} (i : Nat) {c : Expr} {fy : DEnv → Res D} {k : Nat} {pos p2 : Pos} (hr : Room k X.A) (hy : DE X W true c fy) (hN : X.N[i]? = some x := by rfl) (hv : Vis X.env.scope x := by first | exact Or.inl rfl | exact Or.inr (Or.inl rfl) | exact Or.inr (Or.inr rfl)) (hd : (x == ("__debug__" : Str)) = false := by decide)
    (hcd : (x == ("__classdict__" : Str)) = false := by decide) (hm : behindInMarks .NotIn (.Name x p2) = false := by rfl) : DE X W b (.Compare c [.NotIn] [.Name x p2] pos) (xInT true i fy) := by
  obtain ⟨t, pt, q⟩ := hy.ex
  exact ⟨_, pe_cmp (pc_dnotin (by have := hr.un; omega) pt (pe_var (i := i) hN hv hd hcd)) hm, fun Hs0 H0 ρ σ Hs H Q e h => inT_read q e h⟩
theorem dt_inT {x : Str} (i : Nat) {c : Expr} {fy : DEnv → Res D} {k : Nat} {pos p2 : Pos} (hr : Room k X.A) (hy : DE X W true c fy) (hN : X.N[i]? = some x := by rfl) (hv : Vis X.env.scope x := by first | exact Or.inl rfl | exact Or.inr (Or.inl rfl) | exact Or.inr (Or.inr rfl)) (hd : (x == ("__debug__" : Str)) = false := by decide)
    (hcd : (x == ("__classdict__" : Str)) = false := by decide) (hm : behindInMarks .In (.Name x p2) = false := by rfl) : DT X W (.Compare c [.In] [.Name x p2] pos) (xB (xInT false i fy)) := by
  obtain ⟨t, pt, q⟩ := hy.ex
  exact ⟨_, pt_cmp (pc_din (by have := hr.un; omega) pt (pe_var (i := i) hN hv hd hcd)) hm, fun Hs0 H0 ρ σ Hs H Q e h => inT_read q e (asB_post h)⟩
theorem dt_ninT {x : Str} (i : Nat) {c : Expr} {fy : DEnv → Res D} {k : Nat} {pos p2 : Pos} (hr : Room k X.A) (hy : DE X W true c fy) (hN : X.N[i]? = some x := by rfl) (hv : Vis X.env.scope x := by first | exact Or.inl rfl | exact Or.inr (Or.inl rfl) | exact Or.inr (Or.inr rfl)) (hd : (x == ("__debug__" : Str)) = false := by decide)
    (hcd : (x == ("__classdict__" : Str)) = false := by decide) (hm : behindInMarks .NotIn (.Name x p2) = false := by rfl) : DT X W (.Compare c [.NotIn] [.Name x p2] pos) (xB (xInT true i fy)) := by
  obtain ⟨t, pt, q⟩ := hy.ex
  exact ⟨_, pt_cmp (pc_dnotin (by have := hr.un; omega) pt (pe_var (i := i) hN hv hd hcd)) hm, fun Hs0 H0 ρ σ Hs H Q e h => inT_read q e (asB_post h)⟩
/-- d[y] = v -/
def ndT (kvs : List (List Key × D)) : Bool := decide ((kvs.map (·.1)).Nodup)
def sDputT (i : Nat) (fy fv : DEnv → Res D) : DEnv → Out := fun ρ => match lk ρ i with
  | some (.dctT kvs) => (fv ρ).out fun d => (fy ρ).out fun y => match tkOf y with
    | some k => if (small kvs.length && ndT kvs) = true then .next (st ρ i (some (.dctT (putG kvs k d)))) else .bad
    | none => .bad
  | _ => .bad
theorem ds_dputT {x : Str} (i : Nat) {c v : Expr} {fy fv : DEnv → Res D} {k : Nat} {pos pos' p2 : Pos} (hr : Room k X.A) (hv' : DE X W false v fv) (hy : DE X W true c fy) (hs : swapsWith v (some (.Subscript (.Name x p2) c pos')) pos.line X.env = pure false := by rfl)
    (hN : X.N[i]? = some x := by rfl) (hv : Vis X.env.scope x := by first | exact Or.inl rfl | exact Or.inr (Or.inl rfl) | exact Or.inr (Or.inr rfl)) (hd : (x == ("__debug__" : Str)) = false := by decide) (hcd : (x == ("__classdict__" : Str)) = false := by decide) :
    DS X W (.Assign [.Subscript (.Name x p2) c pos'] v pos) (sDputT i fy fv) := by
  obtain ⟨tv, pv, qv⟩ := hv'.ex
  obtain ⟨t, pt, q⟩ := hy.ex
  refine ⟨_, ps_dput (by have := hr.un; omega) (pe_var (i := i) hN hv hd hcd) pt pv hs, fun Hs0 H0 ρ σ Hs H E e h => ?_⟩
  unfold sDputT at h
  split at h
  · rename_i kvs hk
    obtain ⟨a, o, h1, h2, h3, h4, h5⟩ := e.ow i _ rfl (lk_some hk)
    cases o with
    | dT ws =>
      refine qv _ _ ρ σ Hs H _ e ((post_out e h).mono fun d Hs1 H1 s1 g u ru => ⟨_, h1, ?_⟩)
      refine q _ _ ρ σ Hs1 H1 _ (e.step s1) ((post_out (e.step s1) g).mono fun y Hs2 H2 s2 g2 w rw => ?_)
      cases hky : tkOf y with
      | none => rw [hky] at g2; exact g2.elim
      | some ky =>
        rw [hky] at g2
        refine postS_mk g2 fun hz g2 => ?_
        rw [Bool.and_eq_true] at hz
        obtain ⟨c, rfl, hc⟩ := tkOf_ok s2.sub rw hky
        have s12 := s1.trans s2
        have h5' : RpKs X.K Hs ws kvs := h5
        have nd : (ws.map (·.1)).Nodup := by rw [rpg_keys h5']; exact of_decide_eq_true hz.2
        refine ⟨a, _, rfl, .inr ⟨ws, ky, c, s12.wh _ _ h4, rfl, hc, by rw [rpg_len h5']; exact small_lt hz.1, rfl⟩, ?_⟩
        rw [st_eq] at g2
        exact g2 σ Hs2 _ (Ex.refl _) ((e.step s12).putObj (x := .dctT kvs) (y := .dctT (putG kvs ky d)) (o := .dT (putK ws ky u)) rfl rfl (lk_some hk) h1 (rpg_put (Rp.ex s2.sh ru.rp) (RpKs.ex s12.sh h5') nd))
    | _ => exact h5.elim
  · exact h.elim
/-! ### while -/
def whGo (fc : DEnv → Res Bool) (fb : DEnv → Out) (ks : List Nat) : Nat → DEnv → Out
  | 0, _ => .bad
  | n + 1, ρ => match fc ρ with
    | .ok true => match fb ρ with
      | .next ρ' => whGo fc fb ks n (kill ρ' ks)
      | .cont ρ' => whGo fc fb ks n (kill ρ' ks)
      | .brk ρ' => .next (kill ρ' ks)
      | .ret d => .ret d
      | .exc c => .exc c
      | .bad => .bad
      | .retO d ρ => .retO d ρ
      | .excO c ρ => .excO c ρ
      | .retN d ρ => .retN d ρ
    | .ok false => .next ρ
    | .exc c => .exc c
    | .bad => .bad
def sWhile (n : Nat) (fc : DEnv → Res Bool) (fb : DEnv → Out) (ks : List Nat) : DEnv → Out := fun ρ => whGo fc fb ks n (kill ρ ks)
theorem ds_while {c : Expr} {body : List Stmt} {fc : DEnv → Res Bool} {fb : DEnv → Out} {pos : Pos} (n : Nat) (ks : List Nat) (hp : PassesOwn (model X.prog X.w) X.A X.env X.xe) (hc : DT X W c fc) (hb : DSs X W body fb) : DS X W (.While c body [] pos) (sWhile n fc fb ks) := by
  obtain ⟨tc, pc, qc⟩ := hc.ex
  obtain ⟨tb, pb, qb⟩ := hb.ex
  refine ⟨_, ps_while hp pc pb, fun Hs0 H0 ρ σ Hs H E e h => ?_⟩
  refine ⟨fun m σ' H' => ∃ Hs' ρ', EnvOk X.K Hs0 H0 ρ' σ' Hs' H' ∧ PostS X.K W Hs0 H0 Hs' E (whGo fc fb ks m ρ'), ⟨n, Hs, _, e.kill ks, h⟩, ?_⟩
  rintro m σ1 H1 ⟨Hs1, ρ1, e1, h1⟩
  cases m with
  | zero => exact h1.elim
  | succ m =>
    refine qc _ _ ρ1 σ1 Hs1 H1 _ e1 ?_
    unfold whGo at h1
    cases hf : fc ρ1 with
    | bad => rw [hf] at h1; exact h1.elim
    | exc c =>
      rw [hf] at h1
      exact fun Hs' H' s => h1 σ1 Hs' H' (e1.step s).step0
    | ok k =>
      rw [hf] at h1
      intro Hs2 H2 s2
      cases k with
      | false => exact (show PostS X.K W Hs0 H0 Hs1 E (.next ρ1) from h1) σ1 Hs2 H2 s2.sh (e1.step s2)
      | true =>
        refine ⟨fun σ' H' => ∃ Hs' ρ', EnvOk X.K Hs0 H0 ρ' σ' Hs' H' ∧ PostS X.K W Hs0 H0 Hs' E (whGo fc fb ks m ρ'), fun σ' H' z => ⟨m, Nat.lt_succ_self m, z⟩, ?_⟩
        refine qb _ _ ρ1 σ1 Hs2 H2 _ (e1.step s2) ?_
        have h2 := PostS.step s2.sh h1
        cases hb : fb ρ1 with
        | next ρ2 =>
          rw [hb] at h2
          exact fun σ3 Hs3 H3 y1 y2 => ⟨Hs3, kill ρ2 ks, y2.kill ks, PostS.step y1 h2⟩
        | cont ρ2 =>
          rw [hb] at h2
          exact fun σ3 Hs3 H3 y1 y2 => ⟨Hs3, kill ρ2 ks, y2.kill ks, PostS.step y1 h2⟩
        | brk ρ2 =>
          rw [hb] at h2
          exact fun σ3 Hs3 H3 y1 y2 => h2 σ3 Hs3 H3 y1 (y2.kill ks)
        | ret d => rw [hb] at h2; exact h2
        | exc c => rw [hb] at h2; exact h2
        | bad => rw [hb] at h2; exact h2
        | retO d ρ => rw [hb] at h2; exact h2
        | excO d ρ => rw [hb] at h2; exact h2
        | retN d ρ => rw [hb] at h2; exact h2
/-! ### for y in f(x.pop()) -/
theorem for_core {ts : List Nat} {items : List D} {Hs0 : Hp} {H0 : Hp0} {Hs1 H1 : Hp} {σ : L2.St} {ρ : DEnv} {E : Ends} {J : It} {g : GD} {f : DEnv → Out} {ks : List Nat} {tg' : TG} {tb : TS}
    (qg : ∀ Hs0 H0 ρ σ Hs H v d ρ' Q, EnvOk X.K Hs0 H0 ρ σ Hs H → Rp X.K Hs v d → g d ρ = some ρ' → (∀ σ', OutOf ts σ σ' → EnvOk X.K Hs0 H0 ρ' σ' Hs H → Q σ' H) → tg' v σ H Q)
    (qb : ∀ Hs0 H0 ρ σ Hs H E, EnvOk X.K Hs0 H0 ρ σ Hs H → PostS X.K W Hs0 H0 Hs E (f ρ) → tb E σ H) (e : EnvOk X.K Hs0 H0 ρ σ Hs1 H1) (k : PostS X.K W Hs0 H0 Hs1 E (forGo g f ks items (kill ρ ks))) (wk : Walked X.K false items Hs1 H1 J) :
    ∃ W : Nat → Nat → L2.St → Hp → Prop, (∃ m, W 0 m σ H1) ∧ ∀ i m σ H, W i m σ H →
      (J.stop i H ∧ E.nx σ H) ∨ (J.go i H ∧ ∃ N : L2.St → Hp → Prop, (∀ σ' H', N σ' H' → ∃ m', m' < m ∧ W (i + 1) m' σ' H') ∧ ∀ x H', J.yld i H x H' → tg' x σ H' fun σ2 H2 => tb { E with nx := N, ct := N, bk := E.nx } σ2 H2) := by
  obtain ⟨G, Y, w, hG, hY⟩ := wk
  refine for_it w (fun i σ' H' => ∃ Hs' ρ', Ex Hs1 Hs' ∧ EnvOk X.K Hs0 H0 ρ' σ' Hs' H' ∧ PostS X.K W Hs0 H0 Hs' E (forGo g f ks (items.drop i) ρ')) ?_ ?_ ?_ ?_
  · exact ⟨Hs1, kill ρ ks, Ex.refl _, e.kill ks, by simpa using k⟩
  · rintro i σ' H' _ ⟨Hs', ρ', x1, x2, _⟩
    exact hG H' (x1.trans x2.sub) fun z => nomatch z
  · rintro i x σ' H' H'' hi ⟨Hs', ρ', x1, x2, x3⟩ y
    obtain ⟨Hs2, st2, d, hd, rd⟩ := hY i x Hs' H' H'' x1 x2.sub hi y
    have hdrop : items.drop i = d :: items.drop (i + 1) := by
      have hlt : i < items.length := hi
      rw [List.drop_eq_getElem_cons hlt]
      have : items[i] = d := by rw [List.getElem?_eq_getElem hlt] at hd; exact Option.some.inj hd
      rw [this]
    rw [hdrop] at x3
    cases hgd : g d ρ' with
    | none => simp only [forGo, hgd] at x3; exact x3.elim
    | some ρ1 =>
      simp only [forGo, hgd] at x3
      refine qg _ _ ρ' σ' Hs2 H'' x d ρ1 _ (x2.step st2) rd hgd fun σ1 _ e1 => qb _ _ ρ1 σ1 Hs2 H'' _ e1 ?_
      have x3 := PostS.step st2.sh x3
      have x4 : Ex Hs1 Hs2 := x1.trans st2.sh
      cases hf : f ρ1 with
      | next ρ2 =>
        rw [hf] at x3
        exact fun σ3 Hs3 H3 y1 y2 => ⟨Hs3, kill ρ2 ks, x4.trans y1, y2.kill ks, PostS.step y1 x3⟩
      | cont ρ2 =>
        rw [hf] at x3
        exact fun σ3 Hs3 H3 y1 y2 => ⟨Hs3, kill ρ2 ks, x4.trans y1, y2.kill ks, PostS.step y1 x3⟩
      | brk ρ2 =>
        rw [hf] at x3
        exact fun σ3 Hs3 H3 y1 y2 => x3 σ3 Hs3 H3 y1 (y2.kill ks)
      | ret d => rw [hf] at x3; exact x3
      | exc c => rw [hf] at x3; exact x3
      | bad => rw [hf] at x3; exact x3
      | retO d ρ => rw [hf] at x3; exact x3
      | excO d ρ => rw [hf] at x3; exact x3
      | retN d ρ => rw [hf] at x3; exact x3
  · rintro σ' H' ⟨Hs', ρ', x1, x2, x3⟩
    have : items.drop items.length = [] := List.drop_length
    rw [this] at x3
    exact x3 σ' Hs' H' (Ex.refl _) x2
theorem rpAll_dropLast {Hs : Hp} : ∀ {vs : List V} {ds : List D}, RpAll X.K Hs vs ds → RpAll X.K Hs vs.dropLast ds.dropLast
  | _, _, .nil => .nil
  | _, _, .cons _ .nil => .nil
  | _, _, .cons h (.cons h2 r) => .cons h (rpAll_dropLast (.cons h2 r))
def sForPop (i : Nat) (F : List D → Res D) (g : GD) (body : DEnv → Out) (ks : List Nat) : DEnv → Out := fun ρ => ownAt ρ i fun ds => match ds[ds.length - 1]? with
  | some d => (match F [d] with
    | .ok (.tuple items) => forGo g body ks items (kill (st ρ i (some (.own ds.dropLast))) ks)
    | _ => .bad)
  | none => .bad
theorem ds_forPop {xc : Nat → Value} (i : Nat) {x fn : Str} {tg : Expr} {body : List Stmt} {g : GD} {ts : List Nat} {f : DEnv → Out} {p p1 p2 p3 p4 pos : Pos} {kk j : Nat} {ps : List Str} {F : List D → Res D} (ks : List Nat) (hp : PassesOwn (model X.prog X.w) X.A X.env X.xe) (hc : X.calm = true) (tk : Tk X xc W) (R : Rdy X.prog X.w X.K X.mg X.base xc kk fn ps F) (hr : Room j X.A)
    (hg : DG X tg ts g) (hb : DSs X W body f) (hk : kk ≤ j := by decide) (hgl : Gl X fn := by rfl) (hdb : (fn == ("__debug__" : Str)) = false := by decide)
    (he : starEach ([.Call (.Attribute (.Name x p1) "pop" p2) [] [] p3]) X.env = (false, eval (.Call (.Attribute (.Name x p1) "pop" p2) [] [] p3) X.env) :: starEach [] X.env := by rfl) (hpl : (backTo p4 (starEach [] X.env)).any (·.1) = false := by rfl)
    (hN : X.N[i]? = some x := by rfl) (hv : Vis X.env.scope x := by first | exact Or.inl rfl | exact Or.inr (Or.inl rfl) | exact Or.inr (Or.inr rfl)) (hd : (x == ("__debug__" : Str)) = false := by decide)
    (hcd : (x == ("__classdict__" : Str)) = false := by decide) (hbase : attributeBase (.Name x p1) "pop" X.env (eval (.Name x p1) X.env) = eval (.Name x p1) X.env := by rfl) (hline : (p2.endLine == p3.line) = true := by rfl)
    (hs : ∀ z, foldedSetIterable (.Call (.Name fn p) [.Call (.Attribute (.Name x p1) "pop" p2) [] [] p3] [] p4) X.env z = pure z := by intro _; rfl) :
    DS X W (.For tg (.Call (.Name fn p) [.Call (.Attribute (.Name x p1) "pop" p2) [] [] p3] [] p4) body [] pos) (sForPop i F g f ks) := by
  obtain ⟨fa, fd, G, gm, kp, hbd⟩ := R.ex
  obtain ⟨W', tk', hW⟩ := tk
  obtain ⟨tg', pg, qg⟩ := hg.ex
  obtain ⟨tb, pb, qb⟩ := hb.ex
  have pp : PE X (.Call (.Attribute (.Name x p1) "pop" p2) [] [] p3) (tBM0 X.K "list" rPop (tVar i)) := pe_bm0 PySem.F.plainAttrs_list PySem.F.slot_list_pop PySem.F.type_list_pop mt_pop (pe_var hN hv hd hcd) hbase hline
  have pcall := pe_callS (p := p) (E := WE W') G (hr.mono hk) hgl gm kp hbd (fun σ => L2N.passAt tk' σ) (pa_cons pp pa_nil he) hdb he hpl
  refine ⟨tFor (iTup X.K _) tg' tb, ps_for hp hc (pi_tup pcall) pg pb hs, fun Hs0 H0 ρ σ Hs H E e h => ?_⟩
  refine ownAt_ok h fun ds hr h => ?_
  obtain ⟨a, vs, g1, g2, g3, g4, g5⟩ := e.own i ds hr
  cases hl : ds[ds.length - 1]? with
  | none => rw [hl] at h; exact h.elim
  | some d =>
    rw [hl] at h
    simp only at h
    have hl' : ds[vs.length - 1]? = some d := by rw [RpAll.len g5]; exact hl
    obtain ⟨v, v1, v2⟩ := RpAll.get g5 hl'
    cases hF : F [d] with
    | bad => rw [hF] at h; exact h.elim
    | exc c => rw [hF] at h; exact h.elim
    | ok r =>
      rw [hF] at h
      cases r with
      | tuple items =>
        have e1 := e.putOwn (vs := vs.dropLast) (es := ds.dropLast) hr g1 (rpAll_dropLast g5)
        refine ⟨_, g1, .inl ⟨rfl, vs, .inl (.inl g4)⟩, a, vs, v, rfl, rfl, g4, v1, ?_⟩
        refine ⟨Hs, [d], e1.sub, .cons v2 .nil, ?_⟩
        rw [hF]
        intro u Hs1 H1 s1 ru
        cases ru with
        | tup t1 t2 =>
          refine ⟨_, rfl, ⟨_, .inl (ex_td s1.sub t1)⟩, ?_⟩
          rw [st_eq] at h
          exact for_core qg qb (e1.step s1) (PostS.step s1.sh h) (walked_at (X := X) t2 walk_tup fun H' a c => .inl (ex_td a t1))
      | _ => exact h.elim
end
end SB
end
end

section
set_option Elab.async false
set_option linter.all false
set_option maxRecDepth 100000
set_option maxHeartbeats 2000000
noncomputable section
namespace SB
open PySem PySem.Spec L2 Evl PyProof.Rows
/-! ### lists walked while an exception is handled -/
section
variable {prog : Program} {w : World} {A : Around} {E : Value → Shared → Prop} {s : Shared}
theorem list_end_hot {it l x1 : Addr} {i : Nat} {items : Array Value} {Q : Option Value → Shared → Prop} (hot : HotX.HotAt A x1 s.heap) (hne : x1 ≠ it)
    (hit : s.heap.IsListIter it l i) (hl : s.heap.IsList l items) (hx : items[i]? = none)
    (hQ : ∀ h', Heap.ExtBut it s.heap h' → Q none { s with heap := h' }) : wpAny (model prog w) A (pyNext (.ref it)) Q E s := by
  obtain ⟨o, ho, hc, hd⟩ := id hit
  obtain ⟨ol, hol, _, nl, hdl⟩ := hl
  obtain ⟨hh, o1, vs1, h1, d1, c1⟩ := hot
  unfold pyNext
  refine wpAny_bind (wpAny_attempt (wpAny_callSpecial?_slot (name := Str.ofString "__next__") hit.typeIs slot_listiter_next
    (wpAny_call_entry slot_listiter_next hit.typeIs entry_listiter_next ?_ (args_listiter_next _))))
  show wpAny _ _ (field (.ref it) 0 >>= _) _ _ s
  refine wpAny_bind (wpAny_field ho hd (x := .ref l) rfl ?_)
  show wpAny _ _ (if (Value.ref l == Value.none) = true then _ else _) _ _ s
  rw [if_neg (show ¬ ((Value.ref l == Value.none) = true) from Bool.false_ne_true)]
  show wpAny _ _ (field (.ref it) 1 >>= _) _ _ s
  refine wpAny_bind (wpAny_field ho hd (x := .int i 0) rfl ?_)
  show wpAny _ _ (seqItems? (.ref l) >>= _) _ _ s
  refine wpAny_bind (wpAny_seqItems hol hdl ?_)
  simp only [Int.toNat_natCast, hx]
  refine wpAny_bind (wpAny_rule (wpAny_bind (wpAny_setField ho hd (by simp) ?_)))
  show wpAny _ _ (newExc (.type "StopIteration") [] >>= _) _ _ _
  refine wpAny_bind ?_
  simp only [newExc, newTuple]
  refine wpAny_bind (wpAny_newObj_type ?_ (by size_fits))
  refine wpAny_bind (m := firstArgMember _ _) (wpAny_of_eq (a := Value.none) (by first | rfl | (simp only [firstArgMember]; rfl)) ?_)
  refine wpAny_newObj_type ?_ (by size_fits)
  have hx1 : (s.heap.update it (Obj.mapFields (·.setIfInBounds 0 Value.none))).get? x1 = some o1 := by
    rw [Heap.get?_update_other _ _ (Ne.symm hne)]
    exact h1
  refine HotX.raiseNew_hot ⟨hh, o1, vs1, Heap.get?_push_of_some _ (Heap.get?_push_of_some _ hx1), d1, c1⟩ (Nat.ne_of_lt (Heap.lt_size (Heap.get?_push_of_some _ hx1))) (Heap.get?_push_size _ rfl) rfl (by first | (simp; done) | (simp; omega) | (simp only [Array.size_append]; simp; omega)) ?_
  refine wpAny_bind (wpAny_isInstance (T := "StopIteration") (b := true) ⟨_, Heap.get?_update_self _ (Heap.get?_push_size _ rfl) rfl, rfl⟩ isSubtype_stop ?_)
  refine wpAny_pure (hQ _ fun b u hb e => ?_)
  have e' : (s.heap.update it (Obj.mapFields (·.setIfInBounds 0 Value.none))).get? b = some u := by
    rw [Heap.get?_update_other _ _ (Ne.symm hb)]
    exact e
  rw [Heap.get?_update_other _ _ (Nat.ne_of_gt (Heap.lt_size (Heap.get?_push_of_some _ e')))]
  exact Heap.get?_push_of_some _ (Heap.get?_push_of_some _ e')
theorem HotAt.keeps {x1 : Addr} {h h' : Heap} (hot : HotX.HotAt A x1 h) (k : ∀ o, h.get? x1 = some o → h'.get? x1 = some o) : HotX.HotAt A x1 h' :=
  ⟨hot.1, let ⟨o, vs, a, b, c⟩ := hot.2; ⟨o, vs, k o a, b, c⟩⟩
theorem Walks.listH (x1 I ax : Addr) (hne : ax ≠ I) (hxI : x1 ≠ I) (items : Array Value) :
    Walks prog w A I [I, ax, x1] [I] items.size (fun i v => items[i]? = some v) (fun i h => (h.IsListIter I ax i ∧ h.IsList ax items) ∧ HotX.HotAt A x1 h) where
  sub := fun b hb => by simp at hb; simp [hb]
  frame := fun _ _ _ st hk => ⟨⟨st.1.1.at fun o e => hk I (by simp) o e, st.1.2.at fun o e => hk ax (by simp) o e⟩, HotAt.keeps st.2 fun o e => hk x1 (by simp) o e⟩
  item := fun i s Q E hi st hQ => by
    refine wpAny_pyNext_list_item st.1.1 st.1.2 (x := items[i]) (by simp [hi]) fun h' hit' hs' => ?_
    exact hQ _ h' s.toks (by simp [hi]) ⟨⟨hit', st.1.2.extBut hs'.extBut hne⟩, HotAt.keeps st.2 fun o e => hs'.extBut x1 o hxI e⟩ fun b o hb e => hs'.extBut b o (fun h => hb (by simp [h])) e
  done := fun s Q E st hQ => list_end_hot st.2 hxI st.1.1 st.1.2 (by simp) fun h' he' => hQ h' s.toks fun b o hb e => he' b o (fun h => hb (by simp [h])) e
  self := fun _ _ _ _ st hQ => wpAny_pyIter_listiter st.1.1 hQ
end
section
variable {X : Cx} {W : WD}
theorem cr_anyH (hc : L2H.HotC X) : CallR X (.builtin "any") (rAny X.K) := by
  intro pins s σ H vs us Q I r h
  obtain ⟨a, bs, rfl, hs, q⟩ := h
  obtain ⟨its, rv, hl, _⟩ := I.list hs
  rw [Vals.ref1 r]
  have hb := rv.bls
  obtain ⟨x1, hot⟩ := hc.at I
  have hx : x1 < s.heap.objs.size := by obtain ⟨_, o, vs, e, _⟩ := hot; exact Heap.lt_size e
  refine call_any_walk (iter_any hl.isList fun s₂ e2 st hne => ?_)
  subst e2
  refine ⟨_, _, _, _, _, _, _, rfl, Walks.listH (A := X.A.in1) x1 _ a hne (Nat.ne_of_lt hx) its.toArray, ⟨st, HotAt.keeps (A := X.A.in1) hot fun o e => Heap.get?_push_of_some _ e⟩, truth_bools hb, fun h' tk hk => ?_⟩
  refine ⟨.bl _, H, I.kept fun b o eo => hk b o (fun hmem => ?_) (Heap.get?_push_of_some _ eo), ?_, q⟩
  · rcases List.mem_cons.mp hmem with e1 | hmem
    · exact absurd (e1 ▸ Heap.lt_size eo) (Nat.lt_irrefl _)
    · cases hmem
  · show Value.bool _ = Value.bool _
    rw [← L2.any_range, hb, List.size_toArray, List.length_map]
end
end SB
end
end

section
set_option Elab.async false
set_option linter.all false
set_option maxRecDepth 100000
set_option maxHeartbeats 2000000
namespace SB
open PySem PySem.Spec L2 Evl PyProof.Rows
/-! ### a head with a check of its own: ck is told of the fragment that the head finds -/
abbrev AlX := He.AlD × Bool
def obsXG (n : Nat) (fa : List He.Fa) (fn : List He.DefD) (ck : PySem.W.Frag → Bool) (g : Addr → Option Obj) : AlX := (He.obsD fa fn (He.frG g (He.asD g n)), ck (He.frG g (He.asD g n)))
def SaysX (fa : List He.Fa) (fn : List He.DefD) (ck : PySem.W.Frag → Bool) (K : PySem.W.Frag) : Prop := He.SaysD fa fn K ∧ ck K = true
def hookX (n : Nat) (fa : List He.Fa) (fn : List He.DefD) (ck : PySem.W.Frag → Bool) : PySem.W.Hook where
  α := AlX
  obs := fun s => obsXG n fa fn ck s.heap.get?
  val := fun _ => (He.valD fn, true)
  says := fun _ h => ∃ K : PySem.W.Frag, K.In h ∧ SaysX fa fn ck K
  of := fun _ _ e => ⟨_, He.frG_in, congrArg Prod.fst e, congrArg Prod.snd e⟩
  keeps := fun _ _ _ ⟨K, hK, c⟩ k => ⟨K, PySem.W.Frag.In.keeps hK k, c⟩
theorem obsXG_eq {n : Nat} {fa : List He.Fa} {fn : List He.DefD} {ck : PySem.W.Frag → Bool} {g : Addr → Option Obj} {s : Shared} (h : ∀ a, g a = s.heap.get? a) : obsXG n fa fn ck g = (hookX n fa fn ck).obs s := by
  have e : g = s.heap.get? := funext h
  rw [e] <;> rfl
end SB
end

section
set_option Elab.async false
set_option linter.all false
set_option maxRecDepth 100000
set_option maxHeartbeats 2000000
noncomputable section
namespace SB
open PySem PySem.Spec L2 Evl PyProof.Rows
section
variable {X : Cx} {W : WD}
/-! ### raise -/
theorem ds_raise {xc : Nat → Value} (c : Nat) {x m : Str} {C : Addr} {j : Nat} {p p2 pos pos' : Pos} (hc : X.calm = true) (tk : Tk X xc W) (q : PySem.W.excIn X.K C He.veBase "ValueError.__new__" = true) (gC : X.mg x = some (.ref C)) (kC : PySem.W.keepIn X.K (.ref C) = true)
    (b1 : PySem.W.subIn X.K (.ref C) (.type "BaseException") = some true) (b2 : PySem.W.typeIn X.K (.ref C) = some (.type "type")) (hxc : xc c = .ref C) (hg : Gl X x := by rfl) (hdb : (x == ("__debug__" : Str)) = false := by decide) :
    DS X W (.Raise (some (.Call (.Name x p) [.Constant (.str m) j p2] [] pos)) none pos') (fun _ => .exc c) := by
  obtain ⟨W', tk', hW⟩ := tk
  refine ⟨_, L2N.ps_raise hc tk' (L2N.pmk_own PySem.F.excBase_ValueError q gC kC (raises_own b1 b2) hg hdb), fun Hs0 H0 ρ σ Hs H E e h => ?_⟩
  have := hW c σ H ((show ∀ σ' Hs' H', Step Hs0 H0 Hs' H' → W c σ' H' from h) σ Hs H e.step0)
  rw [hxc] at this
  exact this
/-! ### the body of a try: what is raised finds the names as they were -/
def PostB (K : PySem.W.Frag) (W : WD) (Hs0 : Hp) (H0 : Hp0) (Hs H : Hp) (σ : L2.St) (E : Ends) : Out → Prop
  | .exc c => ∀ Hs' H', Step Hs H Hs' H' → W c σ H'
  | o => PostS K W Hs0 H0 Hs E o
structure DB (X : Cx) (W : WD) (st : List Stmt) (f : DEnv → Out) : Prop where
  ex : ∃ t : TS, PSs X st t ∧ ∀ Hs0 H0 ρ σ Hs H E, EnvOk X.K Hs0 H0 ρ σ Hs H → PostB X.K W Hs0 H0 Hs H σ E (f ρ) → t E σ H
theorem postB_out {α : Type} {r : Res α} {k : α → Out} {Hs0 : Hp} {H0 : Hp0} {Hs H : Hp} {E : Ends} {σ : L2.St} (h : PostB X.K W Hs0 H0 Hs H σ E (r.out k)) : PostA W σ Hs H (fun a Hs' H' => PostB X.K W Hs0 H0 Hs' H' σ E (k a)) r := by
  cases r with
  | ok a =>
    intro Hs' H' s
    replace h : PostB X.K W Hs0 H0 Hs H σ E (k a) := h
    cases hk : k a with
    | exc c => rw [hk] at h; exact fun Hs2 H2 s2 => h Hs2 H2 (s.trans s2)
    | next ρ => rw [hk] at h; exact PostS.step s.sh (show PostS X.K W Hs0 H0 Hs E (.next ρ) from h)
    | ret d => rw [hk] at h; exact PostS.step s.sh (show PostS X.K W Hs0 H0 Hs E (.ret d) from h)
    | brk ρ => rw [hk] at h; exact PostS.step s.sh (show PostS X.K W Hs0 H0 Hs E (.brk ρ) from h)
    | cont ρ => rw [hk] at h; exact PostS.step s.sh (show PostS X.K W Hs0 H0 Hs E (.cont ρ) from h)
    | bad => rw [hk] at h; exact h.elim
    | retO d ρ => rw [hk] at h; exact PostS.step s.sh (show PostS X.K W Hs0 H0 Hs E (.retO d ρ) from h)
    | excO c ρ => rw [hk] at h; exact PostS.step s.sh (show PostS X.K W Hs0 H0 Hs E (.excO c ρ) from h)
    | retN d ρ => rw [hk] at h; exact PostS.step s.sh (show PostS X.K W Hs0 H0 Hs E (.retN d ρ) from h)
  | exc c => exact fun Hs' H' s => h Hs' H' s
  | bad => exact h
theorem db_ret {e : Expr} {f : DEnv → Res D} {pos : Pos} (h : DE X W false e f) : DB X W [.Return (some e) pos] (sRet f) := by
  obtain ⟨t, p, q⟩ := h.ex
  refine ⟨tRet t, pss_one (ps_ret p), fun Hs0 H0 ρ σ Hs H E e h => ?_⟩
  exact q _ _ ρ σ Hs H _ e ((postB_out h).mono fun d Hs' H' s k v r => (show PostS X.K W Hs0 H0 Hs' E (.ret d) from k) v Hs' H' (e.step s).step0 r.rp)
/-- if c: (one statement's body that leaves), and the rest -/
theorem db_if {c : Expr} {a rest : List Stmt} {fc : DEnv → Res Bool} {f g : DEnv → Out} {pos : Pos} (hc : DT X W c fc) (ha : DB X W a f) (hb : DB X W rest g) (hl : ∀ ρ ρ', f ρ ≠ .next ρ') : DB X W (.If c a [] pos :: rest) (fun ρ => (fc ρ).out fun k => if k = true then f ρ else g ρ) := by
  obtain ⟨t, p, q⟩ := hc.ex
  obtain ⟨t1, p1, q1⟩ := ha.ex
  obtain ⟨t2, p2, q2⟩ := hb.ex
  refine ⟨_, pss_cons (ps_if p p1 pss_nil) p2, fun Hs0 H0 ρ σ Hs H E e h => ?_⟩
  refine q _ _ ρ σ Hs H _ e ((postB_out h).mono fun k Hs' H' s k1 => ?_)
  cases k with
  | true =>
    refine q1 _ _ ρ σ Hs' H' _ (e.step s) ?_
    replace k1 : PostB X.K W Hs0 H0 Hs' H' σ E (f ρ) := k1
    cases hk : f ρ with
    | next ρ' => exact absurd hk (hl ρ ρ')
    | exc c => rw [hk] at k1; exact k1
    | ret d => rw [hk] at k1; exact k1
    | brk ρ => rw [hk] at k1; exact k1
    | cont ρ => rw [hk] at k1; exact k1
    | bad => rw [hk] at k1; exact k1
    | retO d ρ => rw [hk] at k1; exact k1
    | excO d ρ => rw [hk] at k1; exact k1
    | retN d ρ => rw [hk] at k1; exact k1
  | false => exact q2 _ _ ρ σ Hs' H' E (e.step s) k1
end
end SB
noncomputable section
namespace SB
open PySem PySem.Spec L2 Evl PyProof.Rows
section
variable {X : Cx} {W : WD}
/-! ### try: .. except C as e: a suite that hands back what its class tells -/
def blank (n i : Nat) (a : Addr) : DEnv := (List.replicate n none).set i (some (.ndt [PyData.none, PyData.int ((a : Nat) : Int)]))
def tsB (K : PySem.W.Frag) (xc : Nat → Value) (fb : DEnv → Out) (W : WX) : TS := fun E σ H => ∃ Hs0 H0 ρ Hs, EnvOk K Hs0 H0 ρ σ Hs H ∧ PostB K (fun c σ H => W (xc c) none σ H) Hs0 H0 Hs H σ E (fb ρ)
def tsS (K : PySem.W.Frag) (xc : Nat → Value) (hit : Nat → Bool) (n i : Nat) (fs : Nat → Addr → DEnv → Out) (a : Addr) (cls : Value) (d : Option Addr) : TS := fun E σ H => ∃ c, hit c = true ∧ cls = xc c ∧ d = none ∧ ∃ Hs0 H0 Hs, EnvOk K Hs0 H0 (blank n i a) σ Hs H ∧ PostS K W0 Hs0 H0 Hs E (fs c a (blank n i a))
def sTry (n : Nat) (fb : DEnv → Out) (hit : Nat → Bool) (rs : Nat → D) : DEnv → Out := fun ρ => if ρ.length = n then (match fb ρ with
  | .exc c => if hit c = true then .ret (rs c) else .exc c
  | .excO _ _ => .bad
  | o => o) else .bad
theorem EnvOk.blank {Hs0 : Hp} {H0 : Hp0} {Hs H : Hp} {ρ : DEnv} {σ : L2.St} {n : Nat} (e : EnvOk X.K Hs0 H0 ρ σ Hs H) (hn : ρ.length = n) : EnvOk X.K Hs0 H0 (List.replicate n none) σ Hs H :=
  e.less (by rw [List.length_replicate, hn]) fun i x h => by
    rw [List.getElem?_replicate] at h
    split at h <;> cases h
theorem ds_try {xc : Nat → Value} (i n : Nat) {x nm : Str} {cv : Value} {body suite : List Stmt} {b₀ : Stmt} {np pos pos' : Pos} {fb : DEnv → Out} {hit : Nat → Bool} {fs : Nat → Addr → DEnv → Out} {rs : Nat → D} (hs : X.stack = X.env :: X.outer) (hf : X.env.frame = some X.env.locals) (hN : X.N.Nodup) (tk : Tk X xc W)
    (hnm : Names X x cv) (hx : ∀ c, PySem.W.exmOne X.K (xc c) cv = some (hit c))
    (hb : ∀ (Wb : WD) (pn : List (Addr × Obj)) (xe : Value → Shared → Prop), Tk (X.tr pn xe) xc Wb → PassesOwn (model X.prog X.w) X.A X.env xe → DB (X.tr pn xe) Wb body fb)
    (hsu : ∀ (c : Nat) (a : Addr) (oe : Obj) (pn : List (Addr × Obj)), hit c = true → L2N.Zn (xc c) none oe → (∃ vs, oe.data = .fields vs) → DSs (X.suite a ((a, oe) :: pn)) W0 (b₀ :: suite) (fs c a))
    (hq : ∀ (c : Nat) (a : Addr), hit c = true → fs c a (blank n i a) = .ret (rs c))
    (hi : X.N[i]? = some nm := by rfl) (hln : X.env.kindOf nm = some .local := by rfl) :
    DS X W (.Try body [.ExceptHandler (some (.Name x np)) (some nm) (b₀ :: suite) pos'] [] [] pos) (sTry n fb hit rs) := by
  obtain ⟨Wo, tko, hW⟩ := tk
  refine ⟨_, L2N.ps_try_as (tb := tsB X.K xc fb) (ts := tsS X.K xc hit n i fs) hs hf hN hi hln hnm tko (fun W' pn xe tk' po => ?_) (fun a oe cls d pn hz hfl => ?_), fun Hs0 H0 ρ σ Hs H E e h => ?_⟩
  · obtain ⟨t, p, q⟩ := (hb (fun c σ H => W' (xc c) none σ H) pn xe ⟨W', tk', fun _ _ _ h => h⟩ po).ex
    exact ⟨fun pins s σ H D I ⟨Hs0, H0, ρ, Hs, e, hp⟩ => p.run pins s σ H D I (q Hs0 H0 ρ σ Hs H D e hp)⟩
  · refine ⟨fun pins s σ H D I h => ?_⟩
    obtain ⟨c, hc, rfl, rfl, Hs0, H0, Hs, e, hp⟩ := h
    obtain ⟨t, p, q⟩ := (hsu c a oe pn hc hz hfl).ex
    exact p.run pins s σ H D I (q Hs0 H0 _ σ Hs H D e hp)
  · unfold sTry at h
    by_cases hl : ρ.length = n
    · rw [if_pos hl] at h
      refine ⟨Hs0, H0, ρ, Hs, e, ?_⟩
      cases hf : fb ρ with
      | exc c =>
        rw [hf] at h
        intro Hs' H' s
        refine ⟨hit c, hx c, fun hh a ha => ?_, fun hh => ?_⟩
        · refine ⟨c, hh, rfl, rfl, Hs0, H0, Hs', ?_, ?_⟩
          · exact ((e.step s).blank hl).setNd (show NdT X.K Hs' a [PyData.none, PyData.int ((a : Nat) : Int)] from .inl rfl)
          · rw [hq c a hh]
            simp only [hh, if_true] at h
            exact h
        · simp only [hh, Bool.false_eq_true, if_false] at h
          exact hW c σ H' (h σ Hs' H' (e.step s).step0)
      | next ρ' => rw [hf] at h; exact h
      | ret d => rw [hf] at h; exact h
      | brk ρ' => rw [hf] at h; exact h
      | cont ρ' => rw [hf] at h; exact h
      | bad => rw [hf] at h; exact h
      | retO d ρ' => rw [hf] at h; exact h
      | excO d ρ' => rw [hf] at h; exact h.elim
      | retN d ρ' => rw [hf] at h; exact h
    · rw [if_neg hl] at h
      exact h.elim
end
end SB
noncomputable section
namespace SB
open PySem PySem.Spec L2 Evl PyProof.Rows
section
variable {X : Cx} {W : WD}
/-- isinstance(e, C) in the suite: k tells -/
def xIsE (a : Addr) (k : Bool) (i : Nat) : DEnv → Res D := fun ρ => match lk ρ i with
  | some (.ndt [.none, .int z]) => if z = ((a : Nat) : Int) then .ok (.bool k) else .bad
  | _ => .bad
theorem de_isE {b : Bool} {a D : Addr} {oe : Obj} {pn : List (Addr × Obj)} {x y : Str} {v : V} {cv : Value} {k : Bool} (i : Nat) {p p2 p3 pos : Pos} (C : ExcC X.K D) (hz : Zc (.ref D) none oe) (hf : ∃ vs, oe.data = .fields vs) (hk : PySem.W.kitOne X.K (.ref D) cv = some k)
    (hv : PE (X.suite a ((a, oe) :: pn)) (.Name y p3) (tC v)) (hcv : ∀ u, RelV v u → u = cv) (hm : X.mg "isinstance" = none) (hg : Gl X "isinstance" := by rfl) (hN : X.N[i]? = some x := by rfl) (hvis : Vis X.env.scope x := by first | exact Or.inl rfl | exact Or.inr (Or.inl rfl) | exact Or.inr (Or.inr rfl)) (hd : (x == ("__debug__" : Str)) = false := by decide)
    (hcd : (x == ("__classdict__" : Str)) = false := by decide)
    (hs : starEach (.Name x p2 :: [.Name y p3]) X.env = (false, eval (.Name x p2) X.env) :: starEach [.Name y p3] X.env := by rfl) (hs2 : starEach (.Name y p3 :: []) X.env = (false, eval (.Name y p3) X.env) :: starEach [] X.env := by rfl)
    (hpl : (backTo pos (starEach [.Name y p3] X.env)).any (·.1) = false := by rfl) : DE (X.suite a ((a, oe) :: pn)) W b (.Call (.Name "isinstance" p) [.Name x p2, .Name y p3] [] pos) (xIsE a k i) := by
  refine ⟨_, pe_callB (X := X.suite a ((a, oe) :: pn)) (call_isE C hz hf) hg hm bt_isinstance (pa_cons (pe_var (i := i) hN hvis hd hcd) (pa_cons hv pa_nil hs2) hs) (by decide) (by decide) hs hpl, fun Hs0 H0 ρ σ Hs H Q e h => ?_⟩
  unfold xIsE at h
  split at h
  · rename_i z hk'
    obtain ⟨a', h1, h2⟩ := e.nd i _ (lk_some hk')
    have h3 : z = ((a' : Nat) : Int) := by
      rcases h2 with h2 | ⟨h2, _⟩
      · simp only [List.cons.injEq, PyData.int.injEq, and_true, true_and] at h2
        exact h2
      · exact absurd rfl h2
    by_cases ha : z = ((a : Nat) : Int)
    · rw [if_pos ha] at h
      have : a' = a := by
        rw [h3] at ha
        exact Int.ofNat_inj.mp ha
      subst this
      exact ⟨_, h1, v, cv, k, rfl, hcv, hk, PostA.now e.sub h _ (.of (.bl _))⟩
    · rw [if_neg ha] at h
      exact h.elim
  · exact h.elim
end
end SB
noncomputable section
namespace SB
open PySem PySem.Spec L2 Evl PyProof.Rows
section
variable {X : Cx} {W : WD}
theorem hot_suite {a : Addr} {oe : Obj} {pn : List (Addr × Obj)} {cls : Value} {d : Option Addr} (hz : L2N.Zn cls d oe) (hf : ∃ vs, oe.data = .fields vs) : L2H.HotC (X.suite a ((a, oe) :: pn)) := by
  obtain ⟨vs, hv⟩ := hf
  exact ⟨(a, oe), ⟨rfl, vs, hv, hz.2.2 vs hv⟩, List.mem_cons_self⟩
theorem cd_anyH (hc : L2H.HotC X) : CallD X (.builtin "any") (on1 anyD) := by
  refine cd1 (cr_anyH hc) fun W σ Hs H v d Q e rv h => ?_
  cases d with
  | list xs =>
    obtain ⟨p, ws, rfl, h1, r1⟩ := rv.list e
    change Post X.K false W σ Hs H Q (match bools xs with | some ns => .ok (.bool (ns.any id)) | none => .bad) at h
    cases q : bools xs with
    | none => rw [q] at h; exact h.elim
    | some ns =>
      rw [q] at h
      have := bools_rp r1 q
      subst this
      exact ⟨p, ns, rfl, h1, h.now e _ (.of (.bl _))⟩
  | _ => exact h.elim
end
end SB
end
end

section
set_option Elab.async false
set_option linter.all false
set_option maxRecDepth 100000
set_option maxHeartbeats 2000000
noncomputable section
namespace SB
open PySem PySem.Spec L2 Evl PyProof.Rows
/-! ### the program's own classes of exceptions, numbered -/
/-- BoxError and those over it: the number's name -/
def clsN (names : List Str) (c : Nat) : Str := names.getD c "BoxError"
def xcOf (names : List Str) (K : PySem.W.Frag) (c : Nat) : Value := .ref (He.ga K (clsN names c))
/-- c is d's or below it: class 0 is over all others -/
def subC (names : List Str) (c d : Nat) : Bool := d == 0 || c == d
def ckExc (K : PySem.W.Frag) (D : Addr) : Bool :=
  decide (PySem.W.findIn K (.ref D) "__getattribute__" = some (some (.builtin "BaseException.__getattribute__"))) && (decide (PySem.W.findIn K (.ref D) "__getattr__" = some none) && (decide (PySem.W.subIn K (.ref D) (.type "BaseException") = some true) && (PySem.W.hasDictIn K D &&
    (decide (PySem.W.findIn K (.ref D) "__class__" = some (some (.builtin "object.__class__"))) && (decide (PySem.W.specialIn K (.builtin "object.__class__") "__get__" = some (some (.builtin "getset_descriptor.__get__"))) && (decide (PySem.W.takesIn K (.builtin "object.__class__") = some true) &&
      decide (PySem.W.mroIn K D (.type "object") = some true)))))))
theorem ckExc_ok {K : PySem.W.Frag} {D : Addr} (h : ckExc K D = true) : ExcC K D := by
  unfold ckExc at h
  simp only [Bool.and_eq_true, decide_eq_true_eq] at h
  obtain ⟨h1, h2, h3, h4, h5, h6, h7, h8⟩ := h
  exact ⟨h1, h2, h3, h4, h5, h6, h7, h8⟩
/-- all is checked by the head -/
def ckCls (names : List Str) (K : PySem.W.Frag) : Bool := (List.range names.length).all fun c => (He.Fa.glo (clsN names c)).ok K && ((He.Fa.exc (clsN names c)).ok K && (ckExc K (He.ga K (clsN names c)) &&
  (decide (PySem.W.kitOne K (.ref (He.ga K (clsN names c))) (.type "ValueError") = some true) && (List.range names.length).all fun d => decide (PySem.W.exmOne K (.ref (He.ga K (clsN names c))) (.ref (He.ga K (clsN names d))) = some (subC names c d)) && decide (PySem.W.kitOne K (.ref (He.ga K (clsN names c))) (.ref (He.ga K (clsN names d))) = some (subC names c d)))))
structure ClsAt (names : List Str) (K : PySem.W.Frag) (mg : Str → Option Value) (c : Nat) : Prop where
  glo : mg (clsN names c) = some (.ref (He.ga K (clsN names c)))
  exc : PySem.W.excIn K (He.ga K (clsN names c)) He.veBase "ValueError.__new__" = true
  keep : PySem.W.keepIn K (.ref (He.ga K (clsN names c))) = true
  sub : PySem.W.subIn K (.ref (He.ga K (clsN names c))) (.type "BaseException") = some true
  typ : PySem.W.typeIn K (.ref (He.ga K (clsN names c))) = some (.type "type")
  isC : ExcC K (He.ga K (clsN names c))
  ve : PySem.W.kitOne K (.ref (He.ga K (clsN names c))) (.type "ValueError") = some true
  exm : ∀ d, d < names.length → PySem.W.exmOne K (.ref (He.ga K (clsN names c))) (.ref (He.ga K (clsN names d))) = some (subC names c d)
  kit : ∀ d, d < names.length → PySem.W.kitOne K (.ref (He.ga K (clsN names c))) (.ref (He.ga K (clsN names d))) = some (subC names c d)
theorem clsAt_of {names : List Str} {K : PySem.W.Frag} {h : Heap} {mg : Str → Option Value} (X : K.In h) (G : h.Ns mainGlobals mg) (ck : ckCls names K = true) : ∀ c, c < names.length → ClsAt names K mg c := by
  intro c hc
  have h1 := List.all_eq_true.mp ck c (List.mem_range.mpr hc)
  simp only [Bool.and_eq_true, decide_eq_true_eq, List.all_eq_true, List.mem_range] at h1
  obtain ⟨g1, g2, g3, g4, g5⟩ := h1
  obtain ⟨e1, e2, e3, e4⟩ := He.exc_ok g2
  exact ⟨He.glo_ok X G g1, e1, e2, e3, e4, ckExc_ok g3, g4, fun d hd => (g5 d hd).1, fun d hd => (g5 d hd).2⟩
theorem clsAt_all {names : List Str} {K : PySem.W.Frag} {h : Heap} {mg : Str → Option Value} (X : K.In h) (G : h.Ns mainGlobals mg) (ck : ckCls names K = true) (h0 : names[0]? = some ("BoxError" : Str)) (c : Nat) : ClsAt names K mg c := by
  have hl : 0 < names.length := (List.getElem?_eq_some_iff.mp h0).1
  by_cases hc : c < names.length
  · exact clsAt_of X G ck c hc
  · have z := clsAt_of X G ck 0 hl
    have e : clsN names c = clsN names 0 := by
      unfold clsN
      rw [List.getD_eq_getElem?_getD, List.getD_eq_getElem?_getD, h0, List.getElem?_eq_none (by omega)]
      rfl
    have es : ∀ d, d < names.length → subC names c d = subC names 0 d := fun d hd => by
      unfold subC
      have h1 : (c == d) = false := beq_eq_false_iff_ne.mpr (by omega)
      rw [h1]
      cases d with
      | zero => rfl
      | succ d => rfl
    exact ⟨by rw [e]; exact z.glo, by rw [e]; exact z.exc, by rw [e]; exact z.keep, by rw [e]; exact z.sub, by rw [e]; exact z.typ, by rw [e]; exact z.isC, by rw [e]; exact z.ve, fun d hd => by rw [e, es d hd]; exact z.exm d hd, fun d hd => by rw [e, es d hd]; exact z.kit d hd⟩
theorem exm_all {names : List Str} {K : PySem.W.Frag} {mg : Str → Option Value} (cl : ∀ c, ClsAt names K mg c) (d : Nat) (hd : d < names.length) : ∀ c, PySem.W.exmOne K (xcOf names K c) (.ref (He.ga K (clsN names d))) = some (subC names c d) := fun c => (cl c).exm d hd
theorem sRet_ne {f : DEnv → Res D} {ρ ρ' : DEnv} : sRet f ρ ≠ .next ρ' := by
  unfold sRet
  cases f ρ <;> exact fun z => nomatch z
/-- [..] * n, the frame's own list -/
def xRepL (fl : DEnv → Res (List D)) (fk : DEnv → Res D) : DEnv → Res (List D) := fun ρ => (fl ρ).bind fun ds => (fk ρ).bind fun k => match k with
  | .int i => if 0 ≤ i ∧ i ≤ 1000 ∧ ds.length ≤ 1000 then .ok (List.replicate i.toNat ds).flatten else .bad
  | _ => .bad
theorem rpAll_rep {K : PySem.W.Frag} {Hs : Hp} {vs : List V} {ds : List D} (r : RpAll K Hs vs ds) : ∀ n : Nat, RpAll K Hs (List.replicate n vs).flatten (List.replicate n ds).flatten
  | 0 => .nil
  | n + 1 => by
    rw [List.replicate_succ, List.replicate_succ, List.flatten_cons, List.flatten_cons]
    exact RpAll.append r (rpAll_rep r n)
theorem df_rep {X : Cx} {W : WD} {a c : Expr} {fl : DEnv → Res (List D)} {fk : DEnv → Res D} {pos : Pos} (ha : DF X W a fl) (hk : DE X W true c fk) : DF X W (.BinOp a .Mult c pos) (xRepL fl fk) := by
  obtain ⟨ta, pa, qa⟩ := ha.ex
  obtain ⟨tk, pk, qk⟩ := hk.ex
  refine ⟨_, pe_op op_rep pa pk, fun Hs0 H0 ρ σ Hs H Q e h => ?_⟩
  refine qa _ _ ρ σ Hs H _ e ((PostA.bind h).mono fun ds Hs1 H1 s1 h1 p vs hp rv => ?_)
  have st0 : Step Hs1 H1 Hs1 (upd H1 p (.lst vs)) := ⟨Ex.refl _, Ex.new hp, fun x o hx => by rw [upd_ne (fun z => by subst z; rw [sub_none s1.sub hp] at hx; cases hx)]; exact s1.sub x o hx, fun _ _ _ n => n⟩
  have s2 := s1.trans st0
  refine qk _ _ ρ σ Hs1 _ _ (e.step s2) ((PostA.bind (h1.step st0)).mono fun kd Hs3 H3 s3 h3 u ru => ?_)
  cases kd with
  | int i =>
    have := ru.int
    subst this
    refine post_mk h3 fun hz h3 => ?_
    obtain ⟨z1, z2, z3⟩ := hz
    refine ⟨p, i, vs, rfl, rfl, s3.wh _ _ upd_same, by omega, by omega, ?_, fun q hq => h3.now s3.sub q _ hq (rpAll_rep (RpAll.ex s3.sh rv) _)⟩
    rw [RpAll.len rv, sizeLine_eq]
    have : ds.length * i.toNat ≤ 1000 * 1000 := Nat.mul_le_mul z3 (by omega)
    omega
  | _ => exact h3.elim
theorem bt_ValueError : bootBuiltins "ValueError" = some (.type "ValueError") := by decide +kernel
end SB
end
end

section
set_option Elab.async false
set_option linter.all false
set_option maxRecDepth 100000
set_option maxHeartbeats 2000000
noncomputable section
namespace SB
open PySem PySem.Spec L2 Evl PyProof.Rows
section
variable {X : Cx} {W : WD}
/-! ### a text, once or not at all -/
theorem op_mulS : OpR X (binaryOp .Mult) (fun x y H Q => ∃ (i : Str) (k : Bool), x = .str i ∧ y = .int (if k then 1 else 0) ∧ Q (.str (if k then i else Str.empty)) H) := by
  intro pins s σ H x y v u Q I rx ry h
  obtain ⟨i, k, rfl, rfl, q⟩ := h
  obtain ⟨t, rfl⟩ := rx
  cases k with
  | false =>
    obtain ⟨t', rfl⟩ := ry
    exact PySem.P.mul_str_none (by decide) (by decide) ⟨.str Str.empty, H, I.tok _, ⟨_, rfl⟩, q⟩
  | true =>
    obtain ⟨t', rfl⟩ := ry
    refine PySem.P.mul_str (n := 1) (by decide) (fun _ h => absurd h (by simp)) (fun _ h => absurd h (by simp)) ?_
    rw [if_neg (by decide), if_pos (by simp)]
    exact ⟨.str i, H, I, ⟨_, rfl⟩, q⟩
def mul2D : D → D → Res D
  | .str x, .int k => if decide (k = 1) = true then .ok (.str x) else if decide (k = 0) = true then .ok (.str Str.empty) else .bad
  | a, b => mulD a b
theorem opd_mul2 : OpD X (binaryOp .Mult) mul2D := by
  obtain ⟨r, hr, hq⟩ := opd_mul (X := X)
  refine ⟨_, hr.or op_mulS, fun W σ Hs H x y a c Q e rx ry h => ?_⟩
  cases a with
  | str i =>
    cases c with
    | int k =>
      have h1 := rx.str
      have h2 := ry.int
      subst h1 h2
      change Post X.K false W σ Hs H Q (if decide (k = 1) = true then .ok (.str i) else if decide (k = 0) = true then .ok (.str Str.empty) else .bad) at h
      by_cases k1 : k = 1
      · subst k1
        rw [if_pos (by decide)] at h
        exact .inr ⟨i, true, rfl, rfl, h.now e _ (.of (.str _))⟩
      · rw [if_neg (by simpa using k1)] at h
        by_cases k0 : k = 0
        · subst k0
          rw [if_pos (by decide)] at h
          exact .inr ⟨i, false, rfl, rfl, h.now e _ (.of (.str _))⟩
        · rw [if_neg (by simpa using k0)] at h
          exact h.elim
    | _ => exact .inl (hq W σ Hs H x y _ _ Q e rx ry h)
  | _ => exact .inl (hq W σ Hs H x y _ _ Q e rx ry (by cases c <;> exact h))
end
end SB
end
end

section
set_option Elab.async false
set_option linter.all false
set_option maxRecDepth 100000
set_option maxHeartbeats 2000000
noncomputable section
namespace SB
open PySem PySem.Spec L2 Evl PyProof.Rows
section
variable {X : Cx} {W : WD}
/-! ### in an except suite: sum of truths, ==, list.index -/
def b2i (b : Bool) : Int := if b = true then 1 else 0
def sumBD : D → Res D
  | .list xs => match bools xs with | some ns => .ok (.int (ns.map b2i).sum) | none => .bad
  | _ => .bad
def rSumB (K : PySem.W.Frag) : List V → Hp → VK → Prop := fun vs H Q => ∃ (a : Addr) (bs : List Bool), vs = [V.ref a] ∧ SqL K H a (bs.map V.bl) ∧ Q (.int (bs.map b2i).sum) H
theorem preSum_bs (bs : List Bool) : ∀ n, n ≤ bs.length → preSum (fun i => b2i (bs.getD i false)) n = ((bs.take n).map b2i).sum := by
  intro n
  induction n with
  | zero => intro _; simp [preSum]
  | succ n ih =>
    intro h
    have hn : n < bs.length := by omega
    rw [List.take_succ_eq_append_getElem hn, List.map_append, List.sum_append]
    show preSum _ n + _ = _
    rw [ih (by omega)]
    simp [hn]
theorem cr_sumH (hc : L2H.HotC X) : CallR X (.builtin "sum") (rSumB X.K) := by
  intro pins s σ H vs us Q I r h
  obtain ⟨a, bs, rfl, hs, q⟩ := h
  obtain ⟨its, rv, hl, _⟩ := I.list hs
  rw [Vals.ref1 r]
  have hb := rv.bls
  obtain ⟨x1, hot⟩ := hc.at I
  have hx : x1 < s.heap.objs.size := by obtain ⟨_, o, vs, e, _⟩ := hot; exact Heap.lt_size e
  have ha : a < s.heap.objs.size := by obtain ⟨_, e, _⟩ := hl.isList; exact Heap.lt_size e
  refine call_sum_walkAnyB (iter_any hl.isList fun s₂ e2 st hne => ?_)
  subst e2
  refine ⟨_, _, _, _, _, _, _, fun i => b2i (bs.getD i false), rfl, (Walks.listH (A := X.A.in1) x1 _ a hne (Nat.ne_of_lt hx) its.toArray).toS, ⟨st, HotAt.keeps (A := X.A.in1) hot fun o e => Heap.get?_push_of_some _ e⟩, ?_, fun i v hv => ?_, fun s' t' hm => ?_⟩
  · intro b hb
    show b < (s.heap.push _).objs.size
    rw [Heap.size_push]
    rcases List.mem_cons.mp hb with rfl | hb
    · exact Nat.lt_succ_self _
    · rcases List.mem_cons.mp hb with rfl | hb
      · exact Nat.lt_succ_of_lt ha
      · rcases List.mem_cons.mp hb with rfl | hb
        · exact Nat.lt_succ_of_lt hx
        · cases hb
  · refine .inr ⟨bs.getD i false, ?_, rfl⟩
    rw [hb] at hv
    rw [List.getElem?_toArray, List.getElem?_map] at hv
    rw [List.getD_eq_getElem?_getD]
    cases h1 : bs[i]? with
    | none => rw [h1] at hv; cases hv
    | some b => rw [h1] at hv; cases hv; rfl
  · obtain ⟨h', g', d', tk', os'⟩ := s'
    obtain ⟨m1, m2, m3, m4, m5⟩ := hm
    simp only at m1 m2 m3 m4 m5
    subst m2 m3 m4
    refine ⟨.int _, H, I.kept fun b o eo => m1 b o (fun hmem => ?_) (Heap.get?_push_of_some _ eo), ⟨t', ?_⟩, q⟩
    · rcases List.mem_cons.mp hmem with e1 | hmem
      · exact absurd (e1 ▸ Heap.lt_size eo) (Nat.lt_irrefl _)
      · cases hmem
    · rw [hb]
      simp only [List.size_toArray, List.length_map]
      rw [preSum_bs bs _ (Nat.le_refl _), List.take_length]
theorem cd_sumH (hc : L2H.HotC X) : CallD X (.builtin "sum") (on1 sumBD) := by
  refine cd1 (cr_sumH hc) fun W σ Hs H v d Q e rv h => ?_
  cases d with
  | list xs =>
    obtain ⟨p, ws, rfl, h1, r1⟩ := rv.list e
    change Post X.K false W σ Hs H Q (match bools xs with | some ns => .ok (.int (ns.map b2i).sum) | none => .bad) at h
    cases q : bools xs with
    | none => rw [q] at h; exact h.elim
    | some ns =>
      rw [q] at h
      have := bools_rp r1 q
      subst this
      exact ⟨p, ns, rfl, h1, h.now e _ (.of (.int _))⟩
  | _ => exact h.elim
theorem xIsE_def (a : Addr) (k : Bool) (i : Nat) (ρ : DEnv) : xIsE a k i ρ = match lk ρ i with
  | some (.ndt [.none, .int z]) => if z = ((a : Nat) : Int) then .ok (.bool k) else .bad
  | _ => .bad := rfl
theorem mkL_3 (p q r : D) : mkL [p, q, r] = .ok (.list [p, q, r]) := rfl
theorem mkL_4 (p q r s : D) : mkL [p, q, r, s] = .ok (.list [p, q, r, s]) := rfl
theorem mkL_5 (p q r s t : D) : mkL [p, q, r, s, t] = .ok (.list [p, q, r, s, t]) := rfl
theorem mkL_6 (p q r s t u : D) : mkL [p, q, r, s, t, u] = .ok (.list [p, q, r, s, t, u]) := rfl
theorem ixL_3 (p q r s : D) : ixD (.list [p, q, r, s]) (.int 3) = .ok s := rfl
theorem sumB_4 (p q r s : Bool) : sumBD (.list [.bool p, .bool q, .bool r, .bool s]) = .ok (.int (b2i p + (b2i q + (b2i r + (b2i s + 0))))) := rfl
theorem b2i_t : b2i true = 1 := rfl
theorem b2i_f : b2i false = 0 := rfl
/-! == in a suite -/
theorem un_of {k : Nat} {A : Around} (hr : Room k A) : A.units + 65 < cLine := by have := hr.un; omega
theorem un_ofS {k : Nat} {A : Around} {e : Option Value} (hr : Room k A) : (A.mark e).units + 65 < cLine := by
  have h : A.units + 65 < cLine := un_of hr
  exact h
theorem opd_eqU (hu : X.A.units + 65 < cLine) : OpD X (compareOp .Eq) eqD := by
  refine ⟨_, op_eqP (by omega), fun W σ Hs H x y a c Q e rx ry h => ?_⟩
  exact post_mk h fun hc h => ⟨a, c, rx.whole e, ry.whole e, hc, by rw [← eqvD_ok hc]; exact h.now e _ (.of (.bl _))⟩
theorem opd_neU (hu : X.A.units + 65 < cLine) : OpD X (compareOp .NotEq) neD := by
  refine ⟨_, op_neP (by omega), fun W σ Hs H x y a c Q e rx ry h => ?_⟩
  exact post_mk h fun hc h => ⟨a, c, rx.whole e, ry.whole e, hc, by rw [← eqvD_ok hc]; exact h.now e _ (.of (.bl _))⟩
/-! ### list.index of any data -/
def ixD2 (d : D) (xs : List D) : Option Nat := List.rec (motive := fun _ => Option Nat) none (fun z _ ih => cond (eqvD z d) (some 0) (ih.map (· + 1))) xs
theorem ixD2_spec {d : D} : ∀ {xs : List D} {j : Nat}, ixD2 d xs = some j → (∃ z, xs[j]? = some z ∧ eqvD z d = true) ∧ ∀ m z, m < j → xs[m]? = some z → eqvD z d = false
  | [], j, h => by cases h
  | x :: xs, j, h => by
    have h' : cond (eqvD x d) (some 0) ((ixD2 d xs).map (· + 1)) = some j := h
    cases hx : eqvD x d with
    | true =>
      rw [hx] at h'
      cases h'
      exact ⟨⟨x, rfl, hx⟩, fun m z hm => by omega⟩
    | false =>
      rw [hx] at h'
      cases hi : ixD2 d xs with
      | none => rw [hi] at h'; cases h'
      | some i =>
        rw [hi] at h'
        cases h'
        obtain ⟨⟨z, k1, k2⟩, k3⟩ := ixD2_spec hi
        refine ⟨⟨z, k1, k2⟩, fun m z hm hz => ?_⟩
        cases m with
        | zero => cases hz; exact hx
        | succ m => exact k3 m z (by simp at hm; omega) hz
/-- data without texts, not deep -/
def nsStep (f : D → Bool) : D → Bool
  | .list xs => allL f xs
  | .tuple xs => allL f xs
  | .dict _ => false
  | .str _ => false
  | _ => true
def nsN (n : Nat) : D → Bool := Nat.rec (motive := fun _ => D → Bool) (fun d => nsStep (fun _ => false) d) (fun _ ih d => nsStep ih d) n
theorem nsStep_dp {f g : D → Bool} (h : ∀ d, f d = true → g d = true) (d : D) (hd : nsStep f d = true) : dpStep g d = true := by
  have lst : ∀ xs : List D, allL f xs = true → allL g xs = true := fun xs hx => by
    rw [allL_eq, List.all_eq_true] at hx ⊢
    exact fun x hm => h x (hx x hm)
  cases d with
  | list xs => exact lst xs hd
  | tuple xs => exact lst xs hd
  | dict _ => cases hd
  | str _ => rfl
  | _ => rfl
theorem nsN_dp : ∀ (n : Nat) (d : D), nsN n d = true → dpN n d = true
  | 0, d, h => nsStep_dp (f := fun _ => false) (g := fun _ => false) (fun _ z => nomatch z) d h
  | n + 1, d, h => nsStep_dp (f := nsN n) (g := dpN n) (fun e he => nsN_dp n e he) d h
theorem nsN_up : ∀ (n : Nat) (d : D), nsN n d = true → dpN (n + 1) d = true
  | 0, d, h => nsStep_dp (f := fun _ => false) (g := dpN 0) (fun _ z => nomatch z) d h
  | n + 1, d, h => nsStep_dp (f := nsN n) (g := dpN (n + 1)) (fun e he => nsN_up n e he) d h
theorem lay_all {f : D → Bool} (h : ∀ d, f d = true → d.canLay0 = true) : ∀ xs : List D, allL f xs = true → PyData.canLayAll0 xs = true
  | [], _ => by simp [PyData.canLayAll0]
  | x :: xs, hx => by
    rw [allL_eq, List.all_cons, Bool.and_eq_true, ← allL_eq] at hx
    simp only [PyData.canLayAll0, h x hx.1, lay_all h xs hx.2, Bool.and_self]
theorem nsStep_lay {f : D → Bool} (h : ∀ d, f d = true → d.canLay0 = true) (d : D) (hd : nsStep f d = true) : d.canLay0 = true := by
  cases d with
  | list xs => simp only [PyData.canLay0]; exact lay_all h xs hd
  | tuple xs => simp only [PyData.canLay0]; exact lay_all h xs hd
  | dict _ => cases hd
  | str _ => cases hd
  | _ => simp [PyData.canLay0]
theorem nsN_lay : ∀ (n : Nat) (d : D), nsN n d = true → d.canLay0 = true
  | 0, d, h => nsStep_lay (f := fun _ => false) (fun _ z => nomatch z) d h
  | n + 1, d, h => nsStep_lay (f := nsN n) (fun e he => nsN_lay n e he) d h
theorem shaped_of {n : Nat} {d : D} (hd : nsN n d = true) (hn : n ≤ 62) : SeqAt.shaped d = true := by
  show (d.canLay0 && decide (d.depth ≤ 64)) = true
  rw [Bool.and_eq_true]
  exact ⟨nsN_lay n d hd, decide_eq_true (by have := dpN_ok n d (nsN_dp n d hd); omega)⟩
def index2D (xs : List D) (d : D) : Res D := if (nsN 30 d && allL (nsN 29) xs) = true then (match ixD2 d xs with | some j => .ok (.int (j : Int)) | none => .bad) else .bad
def xIndex2 (fo fe : DEnv → Res D) : DEnv → Res D := fun ρ => (fo ρ).bind fun x => (asLst x).bind fun xs => (fe ρ).bind fun y => index2D xs y
theorem de_index2 {b : Bool} {o e : Expr} {fo fe : DEnv → Res D} {p2 p3 : Pos} (hu : X.A.units + 65 < cLine) (ho : DE X W true o fo) (he : DE X W true e fe) (hbase : attributeBase o "index" X.env (eval o X.env) = eval o X.env := by rfl)
    (hfew : ((backTo p3 (starEach [e] X.env)).all (fun x => !x.1) && (backToKw p3 (keywordEach [] X.env)).all (fun x => x.1.isSome) && decide ([e].length + ([] : List Keyword).length + (if ([] : List Keyword).isEmpty then 0 else 1) < 30)) = true := by rfl)
    (hline : (p2.endLine == p3.line) = true := by rfl) (hs : starEach [e] X.env = (false, eval e X.env) :: starEach [] X.env := by rfl) (hplain : (backTo p3 (starEach [] X.env)).any (·.1) = false := by rfl) :
    DE X W b (.Call (.Attribute o "index" p2) [e] [] p3) (xIndex2 fo fe) := by
  obtain ⟨t, pt, q⟩ := ho.ex
  obtain ⟨t', pt', q'⟩ := he.ex
  refine ⟨_, pe_bm PySem.F.plainAttrs_list PySem.F.slot_list_index PySem.F.type_list_index (mt_indexD hu) pt (pa_cons pt' pa_nil hs) hbase hfew hline hs hplain, fun Hs0 H0 ρ σ Hs H Q e h => ?_⟩
  refine q _ _ ρ σ Hs H _ e ((PostA.bind h).mono fun d Hs1 H1 s1 h1 v rv => ?_)
  cases d with
  | list xs =>
    have rv0 := rv
    obtain ⟨a, vs, rfl, g1, r1⟩ := rv.list s1.sub
    replace h1 : PostA W σ Hs1 H1 (fun d Hs' H' => ∀ v, Rep b X.K Hs' H' v d → Q v H') ((fe ρ).bind fun y => index2D xs y) := h1
    refine ⟨.inl ⟨rfl, vs, g1⟩, q' _ _ ρ σ Hs1 H1 _ (e.step s1) ((PostA.bind h1).mono fun d' Hs2 H2 s2 h2 v' rv' => ?_)⟩
    refine post_mk h2 fun hc h2 => ?_
    rw [Bool.and_eq_true, allL_eq, List.all_eq_true] at hc
    obtain ⟨c1, c2⟩ := hc
    cases hj : ixD2 d' xs with
    | none => rw [hj] at h2; exact h2.elim
    | some j =>
      rw [hj] at h2
      obtain ⟨⟨z, k1, k2⟩, k3⟩ := ixD2_spec hj
      have wl : Rp X.K H2 (.ref a) (.list xs) := (rv0.step s2).whole s2.sub
      have wd : Rp X.K H2 v' d' := rv'.whole s2.sub
      have ok : ∀ x, x ∈ xs → eqvD x d' = PyData.eqv x d' := fun x hx => eqvD_ok (nsN_up 29 x (c2 x hx))
      refine ⟨a, v', d', xs, j, z, rfl, rfl, wl.dp, wd.dp, shaped_of (n := 30) ?_ (by decide), shaped_of (n := 30) c1 (by decide), k1, ?_, fun m z' hm hz => ?_, PostA.now s2.sub h2 _ (.of (.int _))⟩
      · show allL (nsN 29) xs = true
        rw [allL_eq, List.all_eq_true]
        exact c2
      · rw [← ok z (List.mem_of_getElem? k1)]
        exact k2
      · rw [← ok z' (List.mem_of_getElem? hz)]
        exact k3 m z' hm hz
  | _ => exact h1.elim
end
end SB
end
end

section
set_option Elab.async false
set_option linter.all false
set_option maxRecDepth 100000
set_option maxHeartbeats 2000000
noncomputable section
namespace SB
open PySem PySem.Spec L2 Evl PyProof.Rows
section
variable {X : Cx} {W : WD}
/-! ### texts joined -/
def strsOf : List D → Option (List Str) := fun xs => List.rec (motive := fun _ => Option (List Str)) (some []) (fun d _ ih => match d with | .str x => ih.map (x :: ·) | _ => none) xs
theorem strsOf_cons (x : Str) (ds : List D) : strsOf (.str x :: ds) = (strsOf ds).map (x :: ·) := rfl
theorem strsOf_map : ∀ ys : List Str, strsOf (ys.map .str) = some ys
  | [] => rfl
  | y :: ys => by rw [List.map_cons, strsOf_cons, strsOf_map ys]; rfl
theorem strsOf_rp {H : Hp} : ∀ {vs : List V} {ds : List D} {ys : List Str}, RpAll X.K H vs ds → strsOf ds = some ys → vs = ys.map V.str
  | _, _, ys, .nil, e => by cases e; rfl
  | _, _, ys, .cons (d := d) h r, e => by
    cases h with
    | str x =>
      rw [strsOf_cons] at e
      rename_i ds
      cases q : strsOf ds with
      | none => rw [q] at e; cases e
      | some zs =>
        rw [q] at e
        cases e
        rw [strsOf_rp r q]
        rfl
    | _ => cases e
def lenSum (ys : List Str) : Nat := List.rec (motive := fun _ => Nat) 0 (fun y _ ih => y.length + ih) ys
theorem lenSum_eq : ∀ ys : List Str, lenSum ys = (ys.map (·.length)).sum
  | [] => rfl
  | y :: ys => by
    show y.length + lenSum ys = _
    rw [lenSum_eq ys]
    simp
def joinS (a : Str) (xs : List D) : Res D := match strsOf xs with
  | some ys => if Nat.ble (lenSum ys + ys.length * a.length) 1000000 = true then .ok (.str (Str.join a ys)) else .bad
  | none => .bad
def asStr : D → Res Str
  | .str a => .ok a
  | _ => .bad
def xJoin (fo fe : DEnv → Res D) : DEnv → Res D := fun ρ => (fo ρ).bind fun x => (asStr x).bind fun a => (fe ρ).bind fun y => (asLst y).bind fun xs => joinS a xs
theorem de_joinX {b : Bool} {o e : Expr} {fo fe : DEnv → Res D} {apos pos : Pos} (ho : DE X W false o fo) (he : DE X W true e fe) (hs : starEach [e] X.env = [(false, eval e X.env)] := by rfl) (hbase : attributeBase o "join" X.env (eval o X.env) = eval o X.env := by rfl) (hline : (apos.endLine == pos.line) = true := by rfl) :
    DE X W b (.Call (.Attribute o "join" apos) [e] [] pos) (xJoin fo fe) := by
  obtain ⟨t, pt, q⟩ := ho.ex
  obtain ⟨t', pt', q'⟩ := he.ex
  refine ⟨_, pe_join pt pt' hs hbase hline, fun Hs0 H0 ρ σ Hs H Q e h => ?_⟩
  refine q _ _ ρ σ Hs H _ e ((PostA.bind h).mono fun d Hs1 H1 s1 h1 v rv => ?_)
  cases d with
  | str a =>
    have e1 := rv.str
    subst e1
    replace h1 : PostA W σ Hs1 H1 (fun d Hs' H' => ∀ v, Rep b X.K Hs' H' v d → Q v H') ((fe ρ).bind fun y => (asLst y).bind fun xs => joinS a xs) := h1
    refine ⟨⟨a, rfl⟩, q' _ _ ρ σ Hs1 H1 _ (e.step s1) ((PostA.bind h1).mono fun d' Hs2 H2 s2 h2 v' rv' => ?_)⟩
    cases d' with
    | list xs =>
      obtain ⟨p, vs, rfl, g1, r1⟩ := rv'.list s2.sub
      replace h2 : PostA W σ Hs2 H2 (fun d Hs' H' => ∀ v, Rep b X.K Hs' H' v d → Q v H') (match strsOf xs with
        | some ys => if Nat.ble (lenSum ys + ys.length * a.length) 1000000 = true then .ok (.str (Str.join a ys)) else .bad
        | none => .bad) := h2
      cases hy : strsOf xs with
      | none => rw [hy] at h2; exact h2.elim
      | some ys =>
        rw [hy] at h2
        have e2 := strsOf_rp r1 hy
        subst e2
        refine post_mk h2 fun hc h2 => ?_
        have hc' := Nat.le_of_ble_eq_true hc
        rw [lenSum_eq] at hc'
        exact ⟨a, p, ys, rfl, rfl, .inl g1, by omega, by
          rw [show Txt.join a ys = Str.join a ys from StrLaws.glued_eq_join _ _]
          exact PostA.now s2.sub h2 _ (.of (.str _))⟩
    | _ => exact h2.elim
  | _ => exact h1.elim
/-! ### an expression as a statement -/
theorem db_drop {e : Expr} {f : DEnv → Res D} {pos : Pos} (h : DE X W true e f) (hs : swapsWith e none pos.line X.env = pure false := by rfl) : DB X W [.Expr e pos] (sDrop f) := by
  obtain ⟨t, p, q⟩ := h.ex
  refine ⟨tDrop t, pss_one (ps_expr p hs), fun Hs0 H0 ρ σ Hs H E e h => ?_⟩
  exact q _ _ ρ σ Hs H _ e ((postB_out h).mono fun d Hs' H' s k v r => (show PostS X.K W Hs0 H0 Hs' E (.next ρ) from k) σ Hs' H' (Ex.refl _) (e.step s))
/-! ### try: .. except C: a suite that hands back what its class tells -/
def tsN (K : PySem.W.Frag) (xc : Nat → Value) (hit : Nat → Bool) (n : Nat) (fs : Nat → DEnv → Out) (a : Addr) (cls : Value) (d : Option Addr) : TS := fun E σ H => ∃ c, hit c = true ∧ cls = xc c ∧ d = none ∧ ∃ Hs0 H0 Hs, EnvOk K Hs0 H0 (List.replicate n none) σ Hs H ∧ PostS K W0 Hs0 H0 Hs E (fs c (List.replicate n none))
theorem ds_tryN {xc : Nat → Value} (n : Nat) {x : Str} {cv : Value} {body suite : List Stmt} {b₀ : Stmt} {np pos pos' : Pos} {fb : DEnv → Out} {hit : Nat → Bool} {fs : Nat → DEnv → Out} {rs : Nat → D} (hs : X.stack = X.env :: X.outer) (hf : X.env.frame = some X.env.locals) (tk : Tk X xc W)
    (hnm : Names X x cv) (hx : ∀ c, PySem.W.exmOne X.K (xc c) cv = some (hit c))
    (hb : ∀ (Wb : WD) (pn : List (Addr × Obj)) (xe : Value → Shared → Prop), Tk (X.tr pn xe) xc Wb → PassesOwn (model X.prog X.w) X.A X.env xe → DB (X.tr pn xe) Wb body fb)
    (hsu : ∀ (c : Nat) (a : Addr) (oe : Obj) (pn : List (Addr × Obj)), hit c = true → L2N.Zn (xc c) none oe → (∃ vs, oe.data = .fields vs) → DSs (X.suite a ((a, oe) :: pn)) W0 (b₀ :: suite) (fs c))
    (hq : ∀ (c : Nat), hit c = true → fs c (List.replicate n none) = .ret (rs c)) :
    DS X W (.Try body [.ExceptHandler (some (.Name x np)) none (b₀ :: suite) pos'] [] [] pos) (sTry n fb hit rs) := by
  obtain ⟨Wo, tko, hW⟩ := tk
  refine ⟨_, L2N.ps_try_many (tb := tsB X.K xc fb) (l := [(cv, tsN X.K xc hit n fs)]) hs hf tko (fun W' pn xe tk' po => ?_) (.cons hnm (fun a oe cls d pn hz hfl => ?_) .nil), fun Hs0 H0 ρ σ Hs H E e h => ?_⟩
  · obtain ⟨t, p, q⟩ := (hb (fun c σ H => W' (xc c) none σ H) pn xe ⟨W', tk', fun _ _ _ h => h⟩ po).ex
    exact ⟨fun pins s σ H D I ⟨Hs0, H0, ρ, Hs, e, hp⟩ => p.run pins s σ H D I (q Hs0 H0 ρ σ Hs H D e hp)⟩
  · refine ⟨fun pins s σ H D I h => ?_⟩
    obtain ⟨c, hc, rfl, rfl, Hs0, H0, Hs, e, hp⟩ := h
    obtain ⟨t, p, q⟩ := (hsu c a oe pn hc hz hfl).ex
    exact p.run pins s σ H D I (q Hs0 H0 _ σ Hs H D e hp)
  · unfold sTry at h
    by_cases hl : ρ.length = n
    · rw [if_pos hl] at h
      refine ⟨Hs0, H0, ρ, Hs, e, ?_⟩
      cases hf : fb ρ with
      | exc c =>
        rw [hf] at h
        intro Hs' H' s
        refine ⟨hit c, hx c, fun hh a ha => ?_, fun hh => ?_⟩
        · refine ⟨c, hh, rfl, rfl, Hs0, H0, Hs', (e.step s).blank hl, ?_⟩
          rw [hq c hh]
          simp only [hh, if_true] at h
          exact h
        · simp only [hh, Bool.false_eq_true, if_false] at h
          exact hW c σ H' (h σ Hs' H' (e.step s).step0)
      | next ρ' => rw [hf] at h; exact h
      | ret d => rw [hf] at h; exact h
      | brk ρ' => rw [hf] at h; exact h
      | cont ρ' => rw [hf] at h; exact h
      | retO d ρ' => rw [hf] at h; exact h
      | excO d ρ' => rw [hf] at h; exact h.elim
      | retN d ρ' => rw [hf] at h; exact h
      | bad => rw [hf] at h; exact h
    · rw [if_neg hl] at h
      exact h.elim
end
end SB
end
end

section
set_option Elab.async false
set_option linter.all false
set_option maxRecDepth 100000
set_option maxHeartbeats 2000000
noncomputable section
namespace SB
open PySem PySem.Spec L2 Evl PyProof.Rows
/-! ### what is raised in a comprehension's block leaves the def's own frame -/
section
variable {X : Cx}
/-- what the block owes of an exception -/
def xeB (X : Cx) (ce : Env) : Value → Shared → Prop := notedBy (model X.prog X.w) X.A ce (CompFails (model X.prog X.w) X.A X.xe ce)
abbrev blkX (X : Cx) (s : Shared) (H : Hp) (scope : Scope) (ce : Env) (fp : List Addr) (xe : Value → Shared → Prop) : Cx := { X.blk s H scope ce fp with xe := xe }
theorem sky_note {B : Heap} {env : Env} {outer : List Env} {L a : Addr} {Z : Obj → Prop} {M : Model} {A : Around} {s : Shared} {E : Value → Shared → Prop} {Q : Unit → Shared → Prop} (hZ : PXN.Steady1 Z) (hfr : A.frames = some (env :: outer)) (hf : env.frame = some L) (x : Sky B (env :: outer) a Z L s.heap)
    (hQ : ∀ h1, HandSPX.HeldZ B (env :: outer) a Z L h1 → s.heap.UpToSlots h1 → Q () { s with heap := h1 }) : wpAny M A (noteFrame (.ref a) env) Q E s := by
  rcases x with ⟨hB, hn, hl, oe, vs, he, hz, hd, h1⟩ | fl | hh
  · exact PXN.look_newZ hZ hfr hl hf he hB hn hd h1 hz hQ
  · exact PXN.looks_onZ hZ hfr hf fl hQ
  · exact HandSPX.againZ hf hh.2.2.2 (hQ s.heap hh (Heap.UpToSlots.refl _))
theorem traced_but {h h' base : Heap} {a C : Addr} {Z : Obj → Prop} {fl : Value} {m : Str → Option Value} (hn : h.Ns C m) (sb : Heap.SameBut C h h') (t : HandSPX.TracedZ h base a Z fl) : HandSPX.TracedZ h' base a Z fl := by
  obtain ⟨oe, vs, T, oT, ts, he, hz, hd, h1, hnT, hTe, hT, hdT, h3⟩ := t
  obtain ⟨oC, es, ep, hoC, hdC, _⟩ := hn
  have ne : ∀ b o us, h.get? b = some o → o.data = .fields us → b ≠ C := fun b o us e d z => by
    rw [z, hoC] at e
    cases e
    rw [hdC] at d
    cases d
  exact ⟨oe, vs, T, oT, ts, (sb.2 a (ne a _ _ he hd)).trans he, hz, hd, h1, hnT, hTe, (sb.2 T (ne T _ _ hT hdT)).trans hT, hdT, h3⟩
theorem sky_less {B B' : Heap} {l : List Env} {a L : Addr} {Z : Obj → Prop} {h : Heap} (hsub : ∀ b o, B'.get? b = some o → B.get? b = some o) (x : Sky B l a Z L h) : Sky B' l a Z L h := by
  have nn : ∀ b, B.get? b = none → B'.get? b = none := fun b e => by
    cases q : B'.get? b with
    | none => rfl
    | some o => have := hsub b o q; rw [e] at this; cases this
  have ff : h.FunFrames B l → h.FunFrames B' l := fun f => funFrames_none f fun c hc => nn c (f.mem hc).1
  have st : B.StaysIn h → B'.StaysIn h := fun s b o e => s b o (hsub b o e)
  have tr : ∀ fl, HandSPX.TracedZ h B a Z fl → HandSPX.TracedZ h B' a Z fl := fun fl ⟨oe, vs, T, oT, ts, he, hz, hd, h1, hnT, r⟩ => ⟨oe, vs, T, oT, ts, he, hz, hd, h1, nn T hnT, r⟩
  rcases x with ⟨hB, hn, hl, r⟩ | ⟨f1, f2, f3, f4⟩ | ⟨f1, f2, f3, f4⟩
  · exact .inl ⟨st hB, nn a hn, ff hl, r⟩
  · exact .inr (.inl ⟨st f1, nn a f2, ff f3, tr _ f4⟩)
  · exact .inr (.inr ⟨st f1, nn a f2, ff f3, tr _ f4⟩)
theorem blk_passes {W : WX} {pins : List (Addr × Obj)} {σ : L2.St} {H3 : Hp} {s3 : Shared} {scope : Scope} {ce : Env} {fp : List Addr} {xe : Value → Shared → Prop} (hs : X.stack = X.env :: X.outer) (hf : X.env.frame = some X.env.locals) (tk : L2N.Takes X W) (I3 : L2.Inv X pins σ H3 s3)
    (f3 : ∀ b ∈ fp, FpOk X pins H3 b ∧ b < s3.heap.objs.size) (hC : ce.locals = s3.heap.objs.size) (hcf : ce.frame = X.env.frame) (σ5 : L2.St) :
    ∀ (pins' : List (Addr × Obj)) (H5 : Hp) (s5 : Shared) (e : Value) (s' : Shared), L2.Inv (blkX X s3 H3 scope ce fp xe) pins' σ5 H5 s5 → L2N.CX X.prog X.w X.stack H5 s5 (fun cls d H' => W cls d σ H') e s' → xeB X ce e s' := by
  intro pins' H5 s5 e s' I5 c
  have J5 : L2.Inv X pins σ H5 s5 := I3.call' (ch := fp) I5.os I5.base I5.hok I5.bare fun b hb => ⟨(f3 b hb).1.2.2.2.1, (f3 b hb).1.2.1, (f3 b hb).1.2.2.2.2.1, (f3 b hb).1.2.2.2.2.2⟩
  have ok := J5.ok
  have hfr : X.A.frames = some (X.env :: X.outer) := by rw [ok.frames, hs]
  have nC5 : H5 ce.locals = none := I5.free
  obtain ⟨mC, hnC, _⟩ := I5.loc
  replace hnC : s5.heap.Ns ce.locals mC := hnC
  -- the block's names stand behind the call too
  have hCst : ce.locals ∉ frs X.stack := fun hm => by
    obtain ⟨_, o, e1, _⟩ := I3.stack.mem hm
    have := Heap.lt_size e1
    rw [hC] at this
    exact Nat.lt_irrefl _ this
  have hnC' : s'.heap.Ns ce.locals mC := by
    obtain ⟨a, B, H', cls, d, rfl, fl, hok, ub, _⟩ := c
    obtain ⟨o, es, ep, ho, r⟩ := hnC
    exact ⟨o, es, ep, fl.1 _ _ (ub.keep _ o ho nC5 hCst), r⟩
  have c' : L2N.CX X.prog X.w X.stack H5 s5 (fun cls d H' => W cls d σ H' ∧ H' ce.locals = none) e s' := by
    obtain ⟨a, B, H', cls, d, he, fl, hok, ub, na, os, ag, hE⟩ := c
    obtain ⟨o, _, _, ho, _⟩ := hnC
    exact ⟨a, B, H', cls, d, he, fl, hok, ub, na, os, ag, hE, ub.free _ o ho nC5⟩
  obtain ⟨a, B, sI, pinsX, σX, H', cls, d, rfl, IX, nb, up, sky, na, os, ag, hσ, w, nC'⟩ := L2N.XE.of_call (W := fun cls d σ' H' => σ' = σ ∧ W cls d σ H' ∧ H' ce.locals = none) J5 (fun _ _ _ h => ⟨rfl, h⟩) c'
  rw [hσ] at IX
  have I : L2.Inv X [] σ H' sI := L2.Inv.unpinned (pins := []) IX
  have fC : FpOk X pins H' ce.locals := I3.fpOk (Nat.le_of_eq hC.symm) nC'
  -- without the block's names
  have gsub : ∀ (h : Heap) b o, (PySem.W.hideAll h [ce.locals]).get? b = some o → h.get? b = some o ∧ b ≠ ce.locals := fun h b o q => ⟨PySem.W.of_hideAll _ q, fun z => by
    rw [z, PySem.W.hideAll_none [ce.locals] (by simp)] at q
    cases q⟩
  have gget : ∀ (h : Heap) b o, b ≠ ce.locals → h.get? b = some o → (PySem.W.hideAll h [ce.locals]).get? b = some o := fun h b o hb q => PySem.W.hideAll_get _ q (by simpa using hb)
  have I' : L2.Inv X [] σ H' { sI with heap := PySem.W.hideAll sI.heap [ce.locals], toks := sI.toks } := I.turned (t' := sI.toks) (fun b o hb q => gget _ b o hb q) nC' fC.2.1 fC.2.2.2.1 fC.2.2.2.2.1 fun p hp => fC.2.2.2.2.2 p (by
    rw [List.append_nil] at hp
    exact List.mem_append_left _ hp)
  rw [hs] at sky
  have sky' := sky_less (B' := PySem.W.hideAll B [ce.locals]) (fun b o q => (gsub B b o q).1) sky
  have hcfs : ce.frame = some X.env.locals := hcf.trans hf
  show wpAny (model X.prog X.w) X.A (noteFrame (.ref a) ce) _ _ s'
  rw [noteFrame_env _ hcf]
  refine sky_note L2N.Zn.steady hfr hf sky' fun h1 held up1 => ?_
  have hn1 : h1.Ns ce.locals mC := up1.ns hnC'
  refine ⟨mC, hn1, fun h2 m2 hn2 sb2 => ?_⟩
  obtain ⟨b1, b0, ff1, t1⟩ := held
  have st2 : (PySem.W.hideAll B [ce.locals]).StaysIn h2 := fun b o q => (sb2.2 b (gsub B b o q).2).trans (b1 b o q)
  have ff2 := Heap.FunFrames.sameBut sb2 hn2 ff1
  have t2 := traced_but hn1 sb2 t1
  have held2 : HandSPX.HeldZ (PySem.W.hideAll B [ce.locals]) (X.env :: X.outer) a (L2N.Zn cls d) X.env.locals h2 := ⟨st2, b0, ff2, t2⟩
  obtain ⟨oe, vs, T, oT, ts, he, hz, hd, h1f, r⟩ := t2
  show wpAny (model X.prog X.w) X.A (PySem.passOn "comprehension.variables-let-go" (.ref a) ce : Sem Value) _ _ _
  unfold PySem.passOn
  refine wpAny_bind (wpAny_field he hd h1f ?_)
  rw [if_neg (by simp), hcfs]
  refine wpAny_bind (HandSPX.setFlight_onZ held2 fun h3 held3 up3 => wpAny_throw (tk _ _ ?_))
  refine ⟨a, PySem.W.hideAll B [ce.locals], { sI with heap := PySem.W.hideAll sI.heap [ce.locals], toks := sI.toks }, [], σ, H', cls, d, rfl, I', fun b o q hb => ?_, fun b o q hdt => ?_, ?_, na, os, ag, w⟩
  · obtain ⟨q1, q2⟩ := gsub _ b o q
    exact gget B b o q2 (nb b o q1 hb)
  · obtain ⟨q1, q2⟩ := gsub _ b o q
    obtain ⟨sl1, e1⟩ := up b o q1 hdt
    obtain ⟨sl2, e2⟩ := up1 b _ e1 hdt
    have e3 := (sb2.2 b q2).trans e2
    obtain ⟨sl3, e4⟩ := up3 b _ e3 hdt
    exact ⟨sl3, e4⟩
  · rw [hs]
    exact .inr (.inr held3)
/-- [elt for target in iter if ..], what elt raises goes on: te by the def's slots -/
def tLcX (wi : TI) (g : TG) (tt : TT) (te : L2.St → TE) (vs : List Nat) : TE := fun σ H Q => tLc wi g tt (te σ) vs σ H Q
theorem pe_lcX {W : WX} {elt tg iter : Expr} {ifs : List Expr} {scope : Scope} {own : List (Str × Nat)} {pos : Pos} {wi : TI} {g : TG} {tt : TT} {te : L2.St → TE} (hst : X.stack = X.env :: X.outer) (hfm : X.env.frame = some X.env.locals) (tk : L2N.Takes X W) (hc : X.calm = true) (hN : X.N.Nodup) (hi : PI X tg iter wi) (ok : BlkOk X.N X.env.scope scope own)
    (hg : ∀ (s : Shared) (H : Hp) (C : Addr) (cl : List (Str × Addr)) (fp : List Addr) (xe : Value → Shared → Prop), PG (blkX X s H scope (compEnvC scope cl C X.env) fp xe) tg g)
    (ht : ∀ (s : Shared) (H : Hp) (C : Addr) (cl : List (Str × Addr)) (fp : List Addr) (xe : Value → Shared → Prop), PTs (blkX X s H scope (compEnvC scope cl C X.env) fp xe) ifs tt)
    (he : ∀ (s : Shared) (H : Hp) (C : Addr) (cl : List (Str × Addr)) (fp : List Addr) (xe : Value → Shared → Prop) (σ : L2.St), (∀ σ5, PassesAt (L2N.CX X.prog X.w) (blkX X s H scope (compEnvC scope cl C X.env) fp xe) σ5 (fun cls d H' => W cls d σ H')) → PE (blkX X s H scope (compEnvC scope cl C X.env) fp xe) elt (te σ))
    (hs : ∀ x, foldedSetIterable iter X.env x = pure x := by intro _; rfl) : PE X (.ListComp elt [⟨tg, iter, ifs, 0⟩] scope pos) (tLcX wi g tt te (own.map (·.2))) := by
  refine ⟨fun pins s σ H Q I h => ?_⟩
  rw [eval_ListComp]
  have hfree : ∀ y ∈ scope.names, y.2 = .free → ∃ c, X.env.cells.lookup y.1 = some c := fun y hy e => (ok.free y hy e).elim (fun k => I.ok.has _ (.inl k)) fun k => I.ok.has _ (.inr k)
  refine comprehension_at (use := none) rfl hs (closure_ok hfree) ok.kind (fun y hy e => by rw [ok.uniq y hy, e]) (thn (hi.run pins s σ H _ I h) fun xv s1 hx => thn hx fun itv s2 h2 => ?_)
  obtain ⟨it, fp, tn, J, H2, rfl, I2, T, st2, f2, q⟩ := h2
  refine wpAny_newObj_type (newEnv_comp ?_) (by show 0 ≤ sizeLine; decide)
  generalize hD : s2.heap.objs.size = D
  have hDn : H2 D = none := I2.hok.fresh (Nat.le_of_eq hD)
  obtain ⟨Wm, ⟨m0, w0⟩, turn⟩ := q D hDn
  generalize hs3 : ({ s2 with heap := s2.heap.push { cls := .type "list", data := .seq ([] : List Value).toArray } } : Shared) = s3
  have h3 : s3.heap = s2.heap.push { cls := .type "list", data := .seq ([] : List Value).toArray } := by rw [← hs3]
  have I3 : L2.Inv X pins σ (upd H2 D (.lst [])) s3 := by
    rw [← hs3]
    exact I2.laid (t' := s2.toks) (fun b o e => Heap.get?_push_of_some _ e) (Nat.le_of_eq hD) ⟨Nat.zero_le _, [], 0, .nil, by rw [← hD]; exact Heap.get?_push_size _ rfl⟩
  have f3 : ∀ b ∈ fp, FpOk X pins (upd H2 D (.lst [])) b ∧ b < s3.heap.objs.size := fun b hb => by
    obtain ⟨o, e, _⟩ := T.obj _ _ st2 b hb
    have hlt := Heap.lt_size e
    refine ⟨⟨?_, (f2 b hb).2⟩, by rw [h3, Heap.size_push]; exact Nat.lt_succ_of_lt hlt⟩
    rw [upd_ne (by rw [← hD]; exact Nat.ne_of_lt hlt)]
    exact (f2 b hb).1
  have st3 : tn 0 s3.heap := T.keep _ _ _ st2 fun b _ o e => by rw [h3]; exact Heap.get?_push_of_some _ e
  have I4' := block_start I3 ok hN f3
  generalize hcl : cellsFrom (s3.heap.objs.size + 1) scope.names (cloFrom X.env.cells scope.names []) = cl at I4'
  show codeAny _ _ (.compStart (.ListComp elt [⟨tg, iter, ifs, 0⟩] scope pos) 0 (.ref it) (.ref D) (compEnvC scope cl s3.heap.objs.size X.env)) (compEnds (model X.prog X.w) X.A X.xe none (EP X pins σ Q) (.ref D) (compEnvC scope cl s3.heap.objs.size X.env)) { s3 with heap := pushCells (s3.heap.push { cls := .type "dict", data := .dict #[] }) scope.names }
  have pg := hg s3 (upd H2 D (.lst [])) s3.heap.objs.size cl fp (xeB X (compEnvC scope cl s3.heap.objs.size X.env))
  have pt := ht s3 (upd H2 D (.lst [])) s3.heap.objs.size cl fp (xeB X (compEnvC scope cl s3.heap.objs.size X.env))
  have pe := he s3 (upd H2 D (.lst [])) s3.heap.objs.size cl fp (xeB X (compEnvC scope cl s3.heap.objs.size X.env)) σ fun σ5 pins' H5 s5 e s' I5 c => blk_passes (ce := compEnvC scope cl s3.heap.objs.size X.env) hst hfm tk I3 f3 rfl rfl σ5 pins' H5 s5 e s' I5 c
  have nfp : ∀ b ∈ fp, (upd H2 D (.lst [])) b = none := fun b hb => (f3 b hb).1.1
  generalize hce : compEnvC scope cl s3.heap.objs.size X.env = ce at I4' pg pt pe ⊢
  have cL : ce.locals = s3.heap.objs.size := by subst hce; rfl
  generalize hH3 : upd H2 D (.lst []) = H3 at I3 I4' pg pt pe w0 nfp f3
  have I4 : L2.Inv (blkX X s3 H3 scope ce fp (xeB X ce)) [] (wipe σ (own.map (·.2))) H3 { s3 with heap := pushCells (s3.heap.push { cls := .type "dict", data := .dict #[] }) scope.names } := L2.Inv.toTry I4' (xeB X ce)
  clear I4'
  generalize hs4 : ({ s3 with heap := pushCells (s3.heap.push { cls := .type "dict", data := .dict #[] }) scope.names } : Shared) = s4 at I4 ⊢
  have st4 : tn 0 s4.heap := T.keep _ _ _ st3 fun b _ o e => by rw [← hs4]; exact pushCells_keeps _ _ _ _ (Heap.get?_push_of_some _ e)
  have stat : ∀ {σ' : L2.St} {H' : Hp} {s' : Shared}, L2.Inv (blkX X s3 H3 scope ce fp (xeB X ce)) [] σ' H' s' → (∀ b ∈ fp, H' b = none) → ∀ b ∈ fp, FpOk (blkX X s3 H3 scope ce fp (xeB X ce)) [] H' b := fun {σ' H' s'} I' hn b hb =>
    ⟨hn b hb, (I'.ok.exf b hb).1, I'.ok.exfs b hb, .inl hb, fun x c e => (I'.ok.exf b hb).2 x c e, fun p hp => absurd (show p ∈ ([] : List (Addr × Obj)) ++ [] from hp) (by simp)⟩
  have loop : codeAny (model X.prog X.w) X.A (.compLoop (.ListComp elt [⟨tg, iter, ifs, 0⟩] scope pos) 0 (.ref it) (.ref D) ce) (compEnds (model X.prog X.w) X.A X.xe none (EP X pins σ Q) (.ref D) ce) s4 := by
    refine compLoop_any (fun n s' => ∃ i H', L2.Inv (blkX X s3 H3 scope ce fp (xeB X ce)) [] (wipe σ (own.map (·.2))) H' s' ∧ tn i s'.heap ∧ (∀ b ∈ fp, H' b = none) ∧ Wm i n H') ?_ m0 ⟨0, H3, I4, st4, nfp, w0⟩
    rintro n s5 ⟨i, H5, I5, st5, n5, w5⟩
    rcases turn i n H5 w5 with ⟨stop, qq⟩ | ⟨go, Nx, hNx, step⟩
    · have td := T.done (blkX X s3 H3 scope ce fp (xeB X ce)) rfl rfl rfl hc i [] s5 _ H5 (fun _ _ => False) I5 (stat I5 n5) st5 stop
      refine thnF td fun r s6 ⟨hr, I6⟩ => ?_
      subst hr
      have I7 : L2.Inv X pins σ H5 s6 := I3.call' (ch := fp) I6.os I6.base I6.hok I6.bare fun b hb => ⟨(f3 b hb).1.2.2.2.1, (f3 b hb).1.2.1, (f3 b hb).1.2.2.2.2.1, (f3 b hb).1.2.2.2.2.2⟩
      have nC : H5 ce.locals = none := I6.free
      obtain ⟨m, hn, _⟩ := I6.loc
      have fC : FpOk X pins H5 ce.locals := I3.fpOk (Nat.le_of_eq cL.symm) nC
      exact ⟨m, hn, fun h'' sb => ⟨.ref D, H5, I7.turned (t' := s6.toks) (fun b o hb e => (sb.2 b hb).trans e) nC fC.2.1 fC.2.2.2.1 fC.2.2.2.2.1 fC.2.2.2.2.2, rfl, qq⟩⟩
    · have ti := T.item (blkX X s3 H3 scope ce fp (xeB X ce)) rfl rfl rfl hc i [] s5 _ H5 (fun _ _ => False) I5 (stat I5 n5) st5 go
      refine thnF ti fun r s6 ⟨u, hr, h6⟩ => ?_
      subst hr
      refine thnF h6 fun _ s7 ⟨x, H7, I7, r7, y7, st7, n7⟩ => ?_
      have I7' := I7.pinned (stat I7 n7) (T.obj _ _ st7)
      refine wpAny_mono (pg.run _ s7 _ H7 x u _ I7' r7 (step x H7 y7)) (fun _ s8 ⟨σ8, H8, I8, hw8, q8⟩ => ?_) fun _ _ z => z
      refine wpAny_mono (pt.run _ s8 σ8 H8 _ I8 q8) (fun b s9 ⟨H9, I9, q9⟩ => ?_) fun _ _ z => z
      have fin : ∀ {s' : Shared} {H' : Hp}, L2.Inv (blkX X s3 H3 scope ce fp (xeB X ce)) ([] ++ pinsAt fp s7.heap) σ8 H' s' → Nx H' → ∃ m, m < n ∧ ∃ i H', L2.Inv (blkX X s3 H3 scope ce fp (xeB X ce)) [] (wipe σ (own.map (·.2))) H' s' ∧ tn i s'.heap ∧ (∀ b ∈ fp, H' b = none) ∧ Wm i m H' := fun {s' H'} I' nx => by
        obtain ⟨m', hm, w'⟩ := hNx H' nx
        have pin' : ∀ b ∈ fp, ∀ o, s7.heap.get? b = some o → s'.heap.get? b = some o ∧ H' b = none := fun b hb o e =>
          let z := I'.pin (b, o) (List.mem_append_right _ (List.mem_append_right _ (mem_pinsAt hb e)))
          ⟨z.1, z.2.1⟩
        have hl : (wipe σ (own.map (·.2))).length = σ8.length := by rw [← hw8, wipe_length]
        refine ⟨m', hm, i + 1, H', (I'.unpinned (pins := [])).weak hl (fun j v e => ?_), T.keep _ _ _ st7 fun b hb o e => (pin' b hb o e).1, fun b hb => ?_, w'⟩
        · rw [← hw8] at e
          exact (wipe_some e).1
        · obtain ⟨o, e, _⟩ := T.obj _ _ st7 b hb
          exact (pin' b hb o e).2
      cases b with
      | false =>
        simp only [Bool.false_eq_true, if_false] at q9 ⊢
        exact fin I9 q9
      | true =>
        simp only [if_true] at q9 ⊢
        refine wpAny_mono (pe.run _ s9 σ8 H9 _ I9 q9) (fun z s10 ⟨yv, H10, I10, r10, acc, hD10, hz10, nx⟩ => ?_) fun _ _ z => z
        exact app_ok (X := blkX X s3 H3 scope ce fp (xeB X ce)) I10 hD10 hz10 r10 fun s11 I11 => fin I11 nx
  exact codeAny_compStart_list loop (T.self X.A 0 _ _ _ st4 loop)
end
section
variable {X : Cx} {W : WD} {b : Bool}
/-- a wish about what calls let out -/
def TkP (X : Cx) (xc : Nat → Value) (W : WD) : Prop := ∃ W' : WX, (∀ σ, PassesAt (L2N.CX X.prog X.w) X σ (fun cls d H => W' cls d σ H)) ∧ ∀ c σ H, W c σ H → W' (xc c) none σ H
theorem de_callP {xc : Nat → Value} {x : Str} {e : Expr} {es : List Expr} {p pos : Pos} {k j : Nat} {ps : List Str} {F : List D → Res D} {fs : DEnv → Res (List D)} (tk : TkP X xc W) (R : Rdy X.prog X.w X.K X.mg X.base xc k x ps F) (hr : Room j X.A) (ha : DA X W false (e :: es) fs)
    (hk : k ≤ j := by decide) (hg : Gl X x := by rfl) (hdb : (x == ("__debug__" : Str)) = false := by decide)
    (he : starEach (e :: es) X.env = (false, eval e X.env) :: starEach es X.env := by rfl) (hpl : (backTo pos (starEach es X.env)).any (·.1) = false := by rfl) : DE X W b (.Call (.Name x p) (e :: es) [] pos) (xCall F fs) := by
  obtain ⟨f, fd, G, gm, kp, hb⟩ := R.ex
  obtain ⟨t, pt, q⟩ := ha.ex
  obtain ⟨W', tk', hW⟩ := tk
  refine ⟨_, pe_callS (E := WE W') G (hr.mono hk) hg gm kp hb tk' pt hdb he hpl, fun Hs0 H0 ρ σ Hs H Q e h => ?_⟩
  have hb := h.bind
  cases hf : fs ρ with
  | bad => rw [hf] at hb; exact hb.elim
  | exc c =>
    rw [hf] at hb
    exact q _ _ ρ σ Hs H _ e (by rw [hf]; exact hb)
  | ok ds =>
    rw [hf] at hb
    refine q _ _ ρ σ Hs H _ e ?_
    rw [hf]
    intro Hs1 H1 s1 vs rv
    have h1 : Post X.K b W σ Hs1 H1 Q (F ds) := hb Hs1 H1 s1
    refine ⟨Hs1, ds, s1.sub, rv.rp, ?_⟩
    cases hF : F ds with
    | bad => rw [hF] at h1; exact (h1 : False).elim
    | exc c => rw [hF] at h1; exact fun Hs' H' s => hW c σ H' (h1 Hs' H' s)
    | ok d => rw [hF] at h1; exact fun v Hs' H' s r => h1 Hs' H' s v (.of r)
/-! the comprehension whose element may raise -/
def lcGoX (g : GD) (fe : DEnv → Res D) (ρ : DEnv) : List D → Res (List D)
  | [] => .ok []
  | d :: r => match g d ρ with
    | none => .bad
    | some ρ1 => (fe ρ1).bind fun y => (lcGoX g fe ρ r).bind fun ys => .ok (y :: ys)
def xLcX (fi : DEnv → Res (List D)) (g : GD) (fe : DEnv → Res D) (vs : List Nat) : DEnv → Res D := fun ρ => (fi ρ).bind fun items => if small items.length = true then (lcGoX g fe (kill ρ vs) items).bind fun ys => .ok (.list ys) else .bad
/-- ahead of turn i -/
def LcInvX (K : PySem.W.Frag) (g : GD) (fe : DEnv → Res D) (ρ : DEnv) (items : List D) (R : Res (List D)) (Hs1 H1 : Hp) (Dl : Addr) (i : Nat) (H' : Hp) : Prop :=
  ∃ Hs', Step Hs1 H1 Hs' H' ∧ Hs' Dl = none ∧ ∃ acc vs, H' Dl = some (.lst vs) ∧ RpAll K Hs' vs acc ∧ R = (lcGoX g fe ρ (items.drop i)).bind (fun rest => .ok (acc ++ rest)) ∧ acc.length ≤ i
theorem de_lcX {xc : Nat → Value} {elt tg iter : Expr} {scope : Scope} {pos : Pos} {fi : DEnv → Res (List D)} {g : GD} {ts : List Nat} {fe : DEnv → Res D} (own : List (Str × Nat)) (hst : X.stack = X.env :: X.outer) (hfm : X.env.frame = some X.env.locals) (tk : Tk X xc W) (hc : X.calm = true) (hN : X.N.Nodup) (hi : DI X W true tg iter fi) (ok : BlkOk X.N X.env.scope scope own)
    (hg : ∀ (s : Shared) (H : Hp) (C : Addr) (cl : List (Str × Addr)) (fp : List Addr) (xe : Value → Shared → Prop), DG (blkX X s H scope (compEnvC scope cl C X.env) fp xe) tg ts g)
    (he : ∀ (s : Shared) (H : Hp) (C : Addr) (cl : List (Str × Addr)) (fp : List Addr) (xe : Value → Shared → Prop) (Wb : WD), TkP (blkX X s H scope (compEnvC scope cl C X.env) fp xe) xc Wb → DE (blkX X s H scope (compEnvC scope cl C X.env) fp xe) Wb false elt fe)
    (hts : ∀ i, i ∈ ts → i ∈ own.map (·.2) := by decide) (hs : ∀ x, foldedSetIterable iter X.env x = pure x := by intro _; rfl) : DE X W b (.ListComp elt [⟨tg, iter, [], 0⟩] scope pos) (xLcX fi g fe (own.map (·.2))) := by
  obtain ⟨wi, pi, qi⟩ := hi.ex
  obtain ⟨W', tk', hW⟩ := tk
  refine ⟨_, pe_lcX (W := W') (g := gOf X.K ts g) (tt := tYes) (te := fun σ => tOf X.K (fun c _ H' => W c σ H') false fe) hst hfm tk' hc hN pi ok (fun s H C cl fp xe => (hg s H C cl fp xe).pg) (fun s H C cl fp xe => pts_nil) (fun s H C cl fp xe σ hp => (he s H C cl fp xe (fun c _ H' => W c σ H') ⟨fun cls d _ H' => W' cls d σ H', fun σ5 => hp σ5, fun c _ H' h => hW c σ H' h⟩).pe) hs, fun Hs0 H0 ρ σ Hs H Q e h => ?_⟩
  generalize own.map (·.2) = vs at hts h ⊢
  refine qi _ _ ρ σ Hs H _ e (h.bind.mono fun items Hs1 H1 s1 h1 J wk => ?_)
  refine post_mk h1 fun hz h1 => ?_
  intro Dl hD
  obtain ⟨G, Y, w, hG, hY⟩ := wk
  have sD : Hs1 Dl = none := sub_none s1.sub hD
  generalize hR : lcGoX g fe (kill ρ vs) items = R at h1
  have nb : R ≠ .bad := fun z => by rw [z] at h1; exact h1
  refine lc_it w (LcInvX X.K g fe (kill ρ vs) items R Hs1 H1 Dl) ?_ ?_ ?_ ?_
  · refine ⟨Hs1, step_mut (Step.refl s1.sub) hD sD, sD, [], [], upd_same, .nil, ?_, Nat.le_refl _⟩
    rw [List.drop_zero, hR]
    cases R <;> rfl
  · rintro i H' _ ⟨Hs', st, _⟩
    exact hG H' (st.sh.trans st.sub) fun _ => st.wh
  · rintro i x H' H'' hi ⟨Hs', st, nD, acc, ws, hH, ra, hr, hle⟩ y
    obtain ⟨Hs2, st2, d, hd, rd⟩ := hY i x Hs' H' H'' st.sh st.sub hi y
    have st2' := st.trans st2
    have nD2 : Hs2 Dl = none := st2.away Dl _ hH nD
    have hH2 := st2.wh _ _ hH
    have hdrop : items.drop i = d :: items.drop (i + 1) := by
      have hlt : i < items.length := hi
      rw [List.drop_eq_getElem_cons hlt]
      have : items[i] = d := by rw [List.getElem?_eq_getElem hlt] at hd; exact Option.some.inj hd
      rw [this]
    rw [hdrop] at hr
    cases hg : g d (kill ρ vs) with
    | none => simp only [lcGoX, hg] at hr; exact absurd hr nb
    | some ρ1 =>
      simp only [lcGoX, hg] at hr
      refine ⟨Hs0, H0, kill ρ vs, Hs2, d, ρ1, ((e.step s1).step st2').wipe vs, rd, hg, fun σ1 o1 e1 => ⟨?_, ?_⟩⟩
      · rw [o1 vs hts]
        exact wipe_wipe σ vs
      · show tOf X.K (fun c _ H' => W c σ H') false fe σ1 H'' _
        refine ⟨Hs0, H0, ρ1, Hs2, e1, ?_⟩
        cases hfe : fe ρ1 with
        | bad => rw [hfe] at hr; exact absurd hr nb
        | exc c =>
          rw [hfe] at hr
          replace hr : R = .exc c := hr
          rw [hr] at h1
          intro Hs4 H4 s4
          exact h1 Hs4 H4 (st2'.trans s4)
        | ok yd =>
          rw [hfe] at hr
          intro Hs4 H4 s4 yv ry
          have st4 := st2'.trans s4
          have nD4 : Hs4 Dl = none := s4.away Dl _ hH2 nD2
          have lcW : acc.length < sizeLine := by
            have h2 := Nat.le_of_ble_eq_true hz
            have h3 : (1000000 : Nat) < sizeLine := by decide
            have h4 : i < items.length := hi
            omega
          refine ⟨ws, s4.wh _ _ hH2, by rw [RpAll.len ra]; exact lcW, Hs4, step_mut st4 hD nD4, nD4, acc ++ [yd], ws ++ [yv], upd_same, RpAll.append (RpAll.ex (st2.sh.trans s4.sh) ra) (.cons ry.rp .nil), ?_, by simp; omega⟩
          rw [hr]
          show ((lcGoX g fe (kill ρ vs) (items.drop (i + 1))).bind fun ys => .ok (yd :: ys)).bind _ = _
          cases lcGoX g fe (kill ρ vs) (items.drop (i + 1)) <;> simp
  · rintro H' ⟨Hs', st, nD, acc, ws, hH, ra, hr, hle⟩
    have : items.drop items.length = [] := List.drop_length
    rw [this] at hr
    replace hr : R = .ok (acc ++ []) := hr
    rw [hr, List.append_nil] at h1
    have fin : Step Hs1 H1 (upd Hs' Dl (.lst ws)) H' := by
      refine ⟨st.sh.trans (Ex.new nD), st.wh, ?_, ?_⟩
      · intro a o q
        by_cases ha : a = Dl
        · subst ha; rw [upd_same] at q; cases q; exact hH
        · rw [upd_ne ha] at q; exact st.sub a o q
      · intro a o q n
        rw [upd_ne (ne_of_none q hD)]
        exact st.away a o q n
    exact h1 _ _ fin _ (.of (.lst (sq_of upd_same) (RpAll.ex (Ex.new nD) ra)))
end
end SB
end
end

section
set_option Elab.async false
set_option linter.all false
set_option maxRecDepth 100000
set_option maxHeartbeats 2000000
noncomputable section
namespace SB
open PySem PySem.Spec L2 Evl PyProof.Rows
section
variable {X : Cx} {W : WD}
/-! ### texts split -/
def mkS (l : List Nat) : Str := ⟨l.toArray⟩
def spl0 (a b : Str) : List Str := (TL.spl (TL.tl b) 0 [] (TL.tl a)).map mkS
theorem split_eq {a b : Str} (hb : TL.tl b ≠ []) (hk : b.cps.all (· < 256) = true) : Txt.split a b = spl0 a b := by
  refine TL.map_tl_inj ?_
  rw [TL.split_spl a b hb (TL.kind_ok hk)]
  unfold spl0
  rw [List.map_map]
  have : (TL.tl ∘ mkS) = id := rfl
  rw [this, List.map_id]
def splitS (a b : Str) : Res D := if (!b.cps.isEmpty && b.cps.all (· < 256) && Nat.ble a.length 1000000) = true then .ok (.list ((spl0 a b).map .str)) else .bad
def xSplit (fo fe : DEnv → Res D) : DEnv → Res D := fun ρ => (fo ρ).bind fun x => (asStr x).bind fun a => (fe ρ).bind fun y => (asStr y).bind fun b => splitS a b
theorem rp_strs {Hs : Hp} : ∀ ys : List Str, RpAll X.K Hs (ys.map V.str) (ys.map .str)
  | [] => .nil
  | y :: ys => .cons (.str y) (rp_strs ys)
theorem de_splitX {b : Bool} {o e : Expr} {fo fe : DEnv → Res D} {apos pos : Pos} (ho : DE X W false o fo) (he : DE X W false e fe) (hs : starEach [e] X.env = [(false, eval e X.env)] := by rfl) (hbase : attributeBase o "split" X.env (eval o X.env) = eval o X.env := by rfl) (hline : (apos.endLine == pos.line) = true := by rfl) :
    DE X W b (.Call (.Attribute o "split" apos) [e] [] pos) (xSplit fo fe) := by
  obtain ⟨t, pt, q⟩ := ho.ex
  obtain ⟨t', pt', q'⟩ := he.ex
  refine ⟨_, pe_split pt pt' hs hbase hline, fun Hs0 H0 ρ σ Hs H Q e h => ?_⟩
  refine q _ _ ρ σ Hs H _ e ((PostA.bind h).mono fun d Hs1 H1 s1 h1 v rv => ?_)
  cases d with
  | str a =>
    have e1 := rv.str
    subst e1
    replace h1 : PostA W σ Hs1 H1 (fun d Hs' H' => ∀ v, Rep b X.K Hs' H' v d → Q v H') ((fe ρ).bind fun y => (asStr y).bind fun b => splitS a b) := h1
    refine ⟨⟨a, rfl⟩, q' _ _ ρ σ Hs1 H1 _ (e.step s1) ((PostA.bind h1).mono fun d' Hs2 H2 s2 h2 v' rv' => ?_)⟩
    cases d' with
    | str c =>
      have e2 := rv'.str
      subst e2
      refine post_mk (show PostA W σ Hs2 H2 _ (splitS a c) from h2) fun hc h2 => ?_
      simp only [Bool.and_eq_true, Bool.not_eq_true', Array.isEmpty_eq_false_iff] at hc
      obtain ⟨⟨c1, c2⟩, c3⟩ := hc
      have hne : TL.tl c ≠ [] := fun z => c1 (Array.toList_eq_nil_iff.mp z)
      have hl := Nat.le_of_ble_eq_true c3
      have hsl := sizeLine_eq
      refine ⟨a, c, rfl, rfl, ?_, by omega, ?_⟩
      · have : c.length ≠ 0 := by
          have := TL.len1 hne
          omega
        exact beq_eq_false_iff_ne.mpr this
      · rw [split_eq hne c2]
        exact fun p hp => mkL_post h2 s2.sub (rp_strs _) hp
    | _ => exact h2.elim
  | _ => exact h1.elim
/-! ### a sign in a text -/
def in2D (a c : D) : Res D := match a, c with
  | .str x, .str z => (match x.cps.toList with
    | [s] => .ok (.bool (z.cps.toList.any fun k => Nat.beq k s))
    | _ => .bad)
  | a, c => inD a c
theorem opd_in2 {k : Nat} (hr : Room k X.A) : OpD X (compareOp .In) in2D := by
  obtain ⟨r, h1, h2⟩ := opd_in (X := X) hr
  refine ⟨_, h1.or op_in_sign, fun W σ Hs H x y a c Q e rx ry h => ?_⟩
  cases a with
  | str i =>
    cases c with
    | str z =>
      have e1 := rx.str
      have e2 := ry.str
      subst e1 e2
      change Post X.K false W σ Hs H Q (match i.cps.toList with | [s] => .ok (.bool (z.cps.toList.any fun k => Nat.beq k s)) | _ => .bad) at h
      cases hi : i.cps.toList with
      | nil => rw [hi] at h; exact h.elim
      | cons s r =>
        cases r with
        | cons _ _ => rw [hi] at h; exact h.elim
        | nil =>
          rw [hi] at h
          have ei : i = ⟨#[s]⟩ := TL.ext_tl hi
          refine .inr ⟨s, z, by rw [ei], rfl, ?_⟩
          have eb : (z.cps.toList.any fun k => Nat.beq k s) = decide (s ∈ z.cps.toList) := by
            rw [Bool.eq_iff_iff, List.any_eq_true, decide_eq_true_eq]
            constructor
            · rintro ⟨k, hk, hks⟩
              rw [← Nat.eq_of_beq_eq_true hks]
              exact hk
            · exact fun hk => ⟨s, hk, Nat.beq_refl s⟩
          rw [← eb]
          exact h.now e _ (.of (.bl _))
    | _ => exact .inl (h2 W σ Hs H x y _ _ Q e rx ry h)
  | _ => exact .inl (h2 W σ Hs H x y _ _ Q e rx ry (by cases c <;> exact h))
/-! ### int(text) -/
def int2D : D → Res D
  | .str a => (match PySem.intText? a with | some n => if Nat.ble a.length 640 = true then .ok (.int n) else .bad | none => .bad)
  | d => intD d
theorem cd_int2 : CallD X (.type "int") (on1 int2D) := by
  refine cd1 (call_int1.or call_int_str) fun W σ Hs H v d Q e rv h => ?_
  cases d with
  | int i =>
    have e1 := rv.int
    subst e1
    exact .inl (.inl ⟨i, rfl, h.now e _ (.of (.int _))⟩)
  | bool i =>
    have e1 := rv.bool
    subst e1
    exact .inl (.inr ⟨i, rfl, h.now e _ (.of (.int _))⟩)
  | str a =>
    have e1 := rv.str
    subst e1
    change Post X.K false W σ Hs H Q (match PySem.intText? a with | some n => if Nat.ble a.length 640 = true then .ok (.int n) else .bad | none => .bad) at h
    cases hn : PySem.intText? a with
    | none => rw [hn] at h; exact h.elim
    | some n =>
      rw [hn] at h
      exact post_mk h fun hz h => .inr ⟨a, n, rfl, hn, Nat.le_of_ble_eq_true hz, h.now e _ (.of (.int _))⟩
  | _ => exact h.elim
/-! ### a name is set in a try's body -/
theorem db_set (i : Nat) {x : Str} {e : Expr} {pos pos' : Pos} {f : DEnv → Res D} (hN : X.N.Nodup) (he : DE X W false e f) (hi : X.N[i]? = some x := by rfl) (hx : Loc X.env.scope x := by first | exact Or.inl rfl | exact Or.inr rfl)
    (hs : swapsWith e (some (.Name x pos')) pos.line X.env = pure false := by rfl) (hf : X.fn x = true ∨ X.env.scope.names.lookup x = some .local := by first | exact .inl rfl | exact .inr rfl | assumption) : DB X W [.Assign [.Name x pos'] e pos] (sAsg f (yName i)) := by
  obtain ⟨t, p, q⟩ := he.ex
  refine ⟨_, pss_one (ps_set hN hi hx p hs hf), fun Hs0 H0 ρ σ Hs H E e h => ?_⟩
  have h' : PostB X.K W Hs0 H0 Hs H σ E ((f ρ).out fun d => .next (st ρ i (some (.dat d)))) := h
  refine q _ _ ρ σ Hs H _ e ((postB_out h').mono fun d Hs' H' s k v r => ?_)
  have k' : PostS X.K W Hs0 H0 Hs' E (.next (st ρ i (some (.dat d)))) := k
  rw [st_eq] at k'
  exact k' _ Hs' H' (Ex.refl _) ((e.step s).set r.rp)
/-! ### xs[::-1] of lists too -/
def rev2D : D → Res D
  | .list xs => .ok (.list xs.reverse)
  | _ => .bad
def xRev2 (f : DEnv → Res D) : DEnv → Res D := fun ρ => (f ρ).bind rev2D
theorem de_rev2 {b : Bool} {e : Expr} {f : DEnv → Res D} {k : Nat} {p1 p2 p3 pos : Pos} (h : DE X W true e f) : DE X W b (.Subscript e (.Slice none none (some (.UnaryOp .USub (.Constant (.int 1) k p1) p2)) p3) pos) (xRev2 f) := by
  obtain ⟨t, pt, q⟩ := h.ex
  refine ⟨_, pe_revL pt, fun Hs0 H0 ρ σ Hs H Q e h => ?_⟩
  refine q _ _ ρ σ Hs H _ e ((PostA.bind h).mono fun d Hs1 H1 s1 h1 v rv => ?_)
  cases d with
  | list xs =>
    obtain ⟨p, ws, rfl, g1, r1⟩ := rv.list s1.sub
    exact ⟨p, ws, rfl, g1, fun l hl => mkL_post h1 s1.sub (RpAll.reverse r1) hl⟩
  | _ => exact h1.elim
end
end SB
end
end

section
set_option Elab.async false
set_option linter.all false
set_option maxRecDepth 100000
set_option maxHeartbeats 2000000
noncomputable section
namespace SB
open PySem PySem.Spec L2 Evl PyProof.Rows
/-! ### expressions that may change objects -/
inductive RX (α : Type) where
  | ok (a : α) (ρ : DEnv)
  | exc (c : Nat) (ρ : DEnv)
  | bad
namespace RX
def bind {α β : Type} : RX α → (α → DEnv → RX β) → RX β
  | .ok a ρ, f => f a ρ
  | .exc c ρ, _ => .exc c ρ
  | .bad, _ => .bad
@[simp] theorem bind_ok {α β : Type} (a : α) (ρ : DEnv) (f : α → DEnv → RX β) : (RX.ok a ρ).bind f = f a ρ := rfl
@[simp] theorem bind_exc {α β : Type} (c : Nat) (ρ : DEnv) (f : α → DEnv → RX β) : (RX.exc c ρ).bind f = .exc c ρ := rfl
@[simp] theorem bind_bad {α β : Type} (f : α → DEnv → RX β) : (RX.bad).bind f = .bad := rfl
def of {α : Type} (r : Res α) (ρ : DEnv) : RX α := match r with
  | .ok a => .ok a ρ
  | .exc c => .exc c ρ
  | .bad => .bad
@[simp] theorem of_ok {α : Type} (a : α) (ρ : DEnv) : RX.of (.ok a) ρ = .ok a ρ := rfl
@[simp] theorem of_exc {α : Type} (c : Nat) (ρ : DEnv) : RX.of (α := α) (.exc c) ρ = .exc c ρ := rfl
@[simp] theorem of_bad {α : Type} (ρ : DEnv) : RX.of (α := α) .bad ρ = .bad := rfl
def outX {α : Type} : RX α → (α → DEnv → Out) → Out
  | .ok a ρ, k => k a ρ
  | .exc c ρ, _ => .excO c ρ
  | .bad, _ => .bad
@[simp] theorem outX_ok {α : Type} (a : α) (ρ : DEnv) (k : α → DEnv → Out) : (RX.ok a ρ).outX k = k a ρ := rfl
@[simp] theorem outX_exc {α : Type} (c : Nat) (ρ : DEnv) (k : α → DEnv → Out) : (RX.exc c ρ).outX k = .excO c ρ := rfl
@[simp] theorem outX_bad {α : Type} (k : α → DEnv → Out) : (RX.bad).outX k = .bad := rfl
end RX
def PostX {α : Type} (K : PySem.W.Frag) (W : WD) (Hs0 : Hp) (H0 : Hp0) (σ : L2.St) (Hs : Hp) (Q : α → Hp → Hp → Prop) : RX α → Prop
  | .ok a ρ => ∀ Hs' H', Ex Hs Hs' → EnvOk K Hs0 H0 ρ σ Hs' H' → Q a Hs' H'
  | .exc c ρ => ∀ Hs' H', Ex Hs Hs' → EnvOk K Hs0 H0 ρ σ Hs' H' → W c σ H'
  | .bad => False
section
variable {α β : Type} {K : PySem.W.Frag} {W : WD} {σ : L2.St} {Hs0 Hs H Hs' H' : Hp} {H0 : Hp0} {ρ : DEnv} {Q Q' : α → Hp → Hp → Prop} {r : RX α}
theorem PostX.ex (s : Ex Hs Hs') (h : PostX K W Hs0 H0 σ Hs Q r) : PostX K W Hs0 H0 σ Hs' Q r := by
  cases r with
  | ok a ρ => exact fun _ _ s' e => h _ _ (s.trans s') e
  | exc c ρ => exact fun _ _ s' e => h _ _ (s.trans s') e
  | bad => exact h
theorem PostX.mono (h : PostX K W Hs0 H0 σ Hs Q r) (k : ∀ a Hs' H', Ex Hs Hs' → Q a Hs' H' → Q' a Hs' H') : PostX K W Hs0 H0 σ Hs Q' r := by
  cases r with
  | ok a ρ => exact fun _ _ s' e => k _ _ _ s' (h _ _ s' e)
  | exc c ρ => exact h
  | bad => exact h
theorem PostX.bind {f : α → DEnv → RX β} {Q : β → Hp → Hp → Prop} (h : PostX K W Hs0 H0 σ Hs Q (r.bind f)) :
    PostX K W Hs0 H0 σ Hs (fun a Hs' H' => ∃ ρ', EnvOk K Hs0 H0 ρ' σ Hs' H' ∧ PostX K W Hs0 H0 σ Hs' Q (f a ρ')) r := by
  cases r with
  | ok a ρ => exact fun _ _ s' e => ⟨ρ, e, PostX.ex s' (show PostX K W Hs0 H0 σ Hs Q (f a ρ) from h)⟩
  | exc c ρ => exact h
  | bad => exact h
theorem PostX.of {r : Res α} (e : EnvOk K Hs0 H0 ρ σ Hs H) (h : PostX K W Hs0 H0 σ Hs Q (RX.of r ρ)) : PostA W σ Hs H Q r := by
  cases r with
  | ok a => exact fun _ _ s => h _ _ s.sh (e.step s)
  | exc c => exact fun _ _ s => h _ _ s.sh (e.step s)
  | bad => exact h
end
section
variable {X : Cx} {W : WD}
theorem postX_out {α : Type} {σ : L2.St} {Hs0 Hs : Hp} {H0 : Hp0} {r : RX α} {k : α → DEnv → Out} {E : Ends} (h : PostS X.K W Hs0 H0 Hs E (r.outX k)) :
    PostX X.K W Hs0 H0 σ Hs (fun a Hs' H' => ∃ ρ', EnvOk X.K Hs0 H0 ρ' σ Hs' H' ∧ PostS X.K W Hs0 H0 Hs' E (k a ρ')) r := by
  cases r with
  | ok a ρ => exact fun _ _ s' e => ⟨ρ, e, PostS.step s' (show PostS X.K W Hs0 H0 Hs E (k a ρ) from h)⟩
  | exc c ρ => exact fun _ _ s' e => h σ _ _ s' e
  | bad => exact h

structure DX (X : Cx) (W : WD) (e : Expr) (f : DEnv → RX D) : Prop where
  ex : ∃ t : TE, PE X e t ∧ ∀ Hs0 H0 ρ σ Hs H Q, EnvOk X.K Hs0 H0 ρ σ Hs H → PostX X.K W Hs0 H0 σ Hs (fun d Hs' H' => ∀ v, Rp X.K Hs' v d → Q v H') (f ρ) → t σ H Q
structure DTX (X : Cx) (W : WD) (e : Expr) (f : DEnv → RX Bool) : Prop where
  ex : ∃ t : TT, PT X e t ∧ ∀ Hs0 H0 ρ σ Hs H Q, EnvOk X.K Hs0 H0 ρ σ Hs H → PostX X.K W Hs0 H0 σ Hs (fun b _ H' => Q b H') (f ρ) → t σ H Q
structure DWX (X : Cx) (W : WD) (e : Expr) (f : DEnv → RX Bool) : Prop where
  ex : ∃ t : TT, PW X e t ∧ ∀ Hs0 H0 ρ σ Hs H Q, EnvOk X.K Hs0 H0 ρ σ Hs H → PostX X.K W Hs0 H0 σ Hs (fun b _ H' => Q b H') (f ρ) → t σ H Q
structure DAX (X : Cx) (W : WD) (es : List Expr) (f : DEnv → RX (List D)) : Prop where
  ex : ∃ t : TA, PA X es t ∧ ∀ Hs0 H0 ρ σ Hs H Q, EnvOk X.K Hs0 H0 ρ σ Hs H → PostX X.K W Hs0 H0 σ Hs (fun ds Hs' H' => ∀ vs, RpAll X.K Hs' vs ds → Q vs H') (f ρ) → t σ H Q
variable {a c e : Expr} {pos : Pos} {rest es : List Expr}
/-- nothing is changed -/
def xP {α : Type} (f : DEnv → Res α) : DEnv → RX α := fun ρ => RX.of (f ρ) ρ
theorem dx_pure {f : DEnv → Res D} (h : DE X W false e f) : DX X W e (xP f) := by
  obtain ⟨t, p, q⟩ := h.ex
  exact ⟨t, p, fun Hs0 H0 ρ σ Hs H Q e h => q _ _ ρ σ Hs H Q e ((PostX.of e h).mono fun d _ _ _ k v r => k v r.rp)⟩
theorem dtx_pure {f : DEnv → Res Bool} (h : DT X W e f) : DTX X W e (xP f) := by
  obtain ⟨t, p, q⟩ := h.ex
  exact ⟨t, p, fun Hs0 H0 ρ σ Hs H Q e h => q _ _ ρ σ Hs H Q e (PostX.of e h)⟩
def xOpX (g : D → D → Res D) (fa fb : DEnv → RX D) : DEnv → RX D := fun ρ => (fa ρ).bind fun x ρ1 => (fb ρ1).bind fun y ρ2 => RX.of (g x y) ρ2
theorem opx_read {g : D → D → Res D} {ta tb : TE} {r : R2} {fa fb : DEnv → RX D} {ρ : DEnv} {σ : L2.St} {Hs0 Hs H : Hp} {H0 : Hp0} {Q : VK}
    (hr : ∀ (W : WD) (σ : L2.St) (Hs H : Hp) (x y : V) (a c : D) (Q : VK), Ex Hs H → Rep true X.K Hs H x a → Rep true X.K Hs H y c → Post X.K false W σ Hs H Q (g a c) → r x y H Q)
    (ha : ∀ Hs0 H0 ρ σ Hs H Q, EnvOk X.K Hs0 H0 ρ σ Hs H → PostX X.K W Hs0 H0 σ Hs (fun d Hs' H' => ∀ v, Rp X.K Hs' v d → Q v H') (fa ρ) → ta σ H Q)
    (hb : ∀ Hs0 H0 ρ σ Hs H Q, EnvOk X.K Hs0 H0 ρ σ Hs H → PostX X.K W Hs0 H0 σ Hs (fun d Hs' H' => ∀ v, Rp X.K Hs' v d → Q v H') (fb ρ) → tb σ H Q)
    (e : EnvOk X.K Hs0 H0 ρ σ Hs H) (h : PostX X.K W Hs0 H0 σ Hs (fun d Hs' H' => ∀ v, Rp X.K Hs' v d → Q v H') (xOpX g fa fb ρ)) : tOp r ta tb σ H Q := by
  refine ha _ _ ρ σ Hs H _ e (h.bind.mono fun x Hs1 H1 s1 ⟨ρ1, e1, h1⟩ v rv => ?_)
  refine hb _ _ ρ1 σ Hs1 H1 _ e1 (h1.bind.mono fun y Hs2 H2 s2 ⟨ρ2, e2, h2⟩ u ru => ?_)
  exact hr W σ Hs2 H2 v u x y Q e2.sub (.of (Rp.ex s2 rv)) (.of ru) ((PostX.of e2 h2).mono fun d _ _ _ k v rv => k v rv.rp)
theorem dx_op {op : Operator} {g : D → D → Res D} {fa fb : DEnv → RX D} (ho : OpD X (binaryOp op) g) (ha : DX X W a fa) (hb : DX X W c fb) : DX X W (.BinOp a op c pos) (xOpX g fa fb) := by
  obtain ⟨r, hor, hr⟩ := ho.ex
  obtain ⟨ta, pa, ha⟩ := ha.ex
  obtain ⟨tb, pb, hb⟩ := hb.ex
  exact ⟨tOp r ta tb, pe_op hor pa pb, fun Hs0 H0 ρ σ Hs H Q e h => opx_read hr ha hb e h⟩
theorem dx_cmp {op : CmpOp} {g : D → D → Res D} {fa fb : DEnv → RX D} (ho : OpD X (compareOp op) g) (ha : DX X W a fa) (hb : DX X W c fb) (hm : behindInMarks op c = false) : DX X W (.Compare a [op] [c] pos) (xOpX g fa fb) := by
  obtain ⟨r, hor, hr⟩ := ho.ex
  obtain ⟨ta, pa, ha⟩ := ha.ex
  obtain ⟨tb, pb, hb⟩ := hb.ex
  exact ⟨tOp r ta tb, pe_cmpR hor pa pb hm, fun Hs0 H0 ρ σ Hs H Q e h => opx_read hr ha hb e h⟩
/-- as a test -/
def xBX (f : DEnv → RX D) : DEnv → RX Bool := fun ρ => (f ρ).bind fun d ρ' => RX.of (asB d) ρ'
theorem asBX_post {σ : L2.St} {Hs0 Hs : Hp} {H0 : Hp0} {Q : Bool → Hp → Prop} {r : RX D} (h : PostX X.K W Hs0 H0 σ Hs (fun k _ H' => Q k H') (r.bind fun d ρ' => RX.of (asB d) ρ')) :
    PostX X.K W Hs0 H0 σ Hs (fun d Hs' H' => ∀ v, Rp X.K Hs' v d → ∃ k, v = .bl k ∧ Q k H') r := by
  refine h.bind.mono fun d Hs' H' s ⟨ρ', e', k⟩ v rv => ?_
  cases d with
  | bool i =>
    cases rv
    exact ⟨i, rfl, k _ _ (Ex.refl _) e'⟩
  | _ => exact k.elim
theorem dtx_cmp {op : CmpOp} {g : D → D → Res D} {fa fb : DEnv → RX D} (ho : OpD X (compareOp op) g) (ha : DX X W a fa) (hb : DX X W c fb) (hm : behindInMarks op c = false) : DTX X W (.Compare a [op] [c] pos) (xBX (xOpX g fa fb)) := by
  obtain ⟨r, hor, hr⟩ := ho.ex
  obtain ⟨ta, pa, ha⟩ := ha.ex
  obtain ⟨tb, pb, hb⟩ := hb.ex
  exact ⟨tTest (tOp r ta tb), pt_cmpR hor pa pb hm, fun Hs0 H0 ρ σ Hs H Q e h => opx_read hr ha hb e (asBX_post h)⟩
theorem dtx_val {f : DEnv → RX D} (h : DX X W e f) (he : ∀ whole, isTrue e X.env whole = (do let v ← whole; standAt e.pos; holding [v] (truthy v)) := by intro _; rfl) : DTX X W e (xBX f) := by
  obtain ⟨t, p, q⟩ := h.ex
  exact ⟨tB t, pt_val p he, fun Hs0 H0 ρ σ Hs H Q e h => q Hs0 H0 ρ σ Hs H _ e (asBX_post h)⟩
def xOrX (ga gb : DEnv → RX Bool) : DEnv → RX Bool := fun ρ => (ga ρ).bind fun k ρ' => if k = true then .ok true ρ' else gb ρ'
def xAndX (ga gb : DEnv → RX Bool) : DEnv → RX Bool := fun ρ => (ga ρ).bind fun k ρ' => if k = true then gb ρ' else .ok false ρ'
def xNotX (ga : DEnv → RX Bool) : DEnv → RX Bool := fun ρ => (ga ρ).bind fun k ρ' => .ok (!k) ρ'
theorem dwx_or1 {ga : DEnv → RX Bool} (h : DTX X W a ga) : DWX X W (.BoolOp .Or [a] pos) ga := by
  obtain ⟨t, p, q⟩ := h.ex
  exact ⟨t, pw_or1 p, q⟩
theorem dwx_and1 {ga : DEnv → RX Bool} (h : DTX X W a ga) : DWX X W (.BoolOp .And [a] pos) ga := by
  obtain ⟨t, p, q⟩ := h.ex
  exact ⟨t, pw_and1 p, q⟩
theorem dwx_or {ga gb : DEnv → RX Bool} (h : DTX X W a ga) (h2 : DWX X W (.BoolOp .Or (c :: rest) pos) gb) : DWX X W (.BoolOp .Or (a :: c :: rest) pos) (xOrX ga gb) := by
  obtain ⟨t, p, q⟩ := h.ex
  obtain ⟨t2, p2, q2⟩ := h2.ex
  refine ⟨tOr t t2, pw_or p p2, fun Hs0 H0 ρ σ Hs H Q e h => ?_⟩
  refine q _ _ ρ σ Hs H _ e (h.bind.mono fun k Hs1 H1 s1 ⟨ρ1, e1, h1⟩ => ?_)
  cases k with
  | true => exact (show PostX X.K W Hs0 H0 σ Hs1 _ (.ok true ρ1) from h1) _ _ (Ex.refl _) e1
  | false => exact q2 _ _ ρ1 σ Hs1 H1 _ e1 h1
theorem dwx_and {ga gb : DEnv → RX Bool} (h : DTX X W a ga) (h2 : DWX X W (.BoolOp .And (c :: rest) pos) gb) : DWX X W (.BoolOp .And (a :: c :: rest) pos) (xAndX ga gb) := by
  obtain ⟨t, p, q⟩ := h.ex
  obtain ⟨t2, p2, q2⟩ := h2.ex
  refine ⟨tAnd t t2, pw_and p p2, fun Hs0 H0 ρ σ Hs H Q e h => ?_⟩
  refine q _ _ ρ σ Hs H _ e (h.bind.mono fun k Hs1 H1 s1 ⟨ρ1, e1, h1⟩ => ?_)
  cases k with
  | true => exact q2 _ _ ρ1 σ Hs1 H1 _ e1 h1
  | false => exact (show PostX X.K W Hs0 H0 σ Hs1 _ (.ok false ρ1) from h1) _ _ (Ex.refl _) e1
theorem DWX.t {ga : DEnv → RX Bool} (h : DWX X W e ga) : DTX X W e ga := by
  obtain ⟨t, p, q⟩ := h.ex
  exact ⟨t, p.pt, q⟩
theorem dtx_not {ga : DEnv → RX Bool} (h : DTX X W a ga) : DTX X W (.UnaryOp .Not a pos) (xNotX ga) := by
  obtain ⟨t, p, q⟩ := h.ex
  refine ⟨tNot t, pt_not p, fun Hs0 H0 ρ σ Hs H Q e h => ?_⟩
  exact q _ _ ρ σ Hs H _ e (h.bind.mono fun k Hs1 H1 s1 ⟨ρ1, e1, h1⟩ => h1 _ _ (Ex.refl _) e1)
/-! several; a tuple -/
def xNilX : DEnv → RX (List D) := fun ρ => .ok [] ρ
def xConsX (fa : DEnv → RX D) (fs : DEnv → RX (List D)) : DEnv → RX (List D) := fun ρ => (fa ρ).bind fun x ρ1 => (fs ρ1).bind fun xs ρ2 => .ok (x :: xs) ρ2
theorem dax_nil : DAX X W [] xNilX := ⟨tNil, pa_nil, fun Hs0 H0 ρ σ Hs H Q e h => h _ _ (Ex.refl _) e [] .nil⟩
theorem dax_cons {fa : DEnv → RX D} {fs : DEnv → RX (List D)} (h : DX X W e fa) (hr : DAX X W es fs) (hs : starEach (e :: es) X.env = (false, eval e X.env) :: starEach es X.env := by rfl) : DAX X W (e :: es) (xConsX fa fs) := by
  obtain ⟨t, p, q⟩ := h.ex
  obtain ⟨t2, p2, q2⟩ := hr.ex
  refine ⟨tCons t t2, pa_cons p p2 hs, fun Hs0 H0 ρ σ Hs H Q e h => ?_⟩
  refine q _ _ ρ σ Hs H _ e (h.bind.mono fun x Hs1 H1 s1 ⟨ρ1, e1, h1⟩ v rv => ?_)
  refine q2 _ _ ρ1 σ Hs1 H1 _ e1 (h1.bind.mono fun xs Hs2 H2 s2 ⟨ρ2, e2, h2⟩ vs rvs => ?_)
  exact h2 _ _ (Ex.refl _) e2 _ (.cons (Rp.ex s2 rv) rvs)
def xTupX (fs : DEnv → RX (List D)) : DEnv → RX D := fun ρ => (fs ρ).bind fun ds ρ' => RX.of (mkT ds) ρ'
theorem dx_tup {x1 : Nat} {fs : DEnv → RX (List D)} (h : DAX X W es fs) : DX X W (.Tuple es x1 pos) (xTupX fs) := by
  obtain ⟨t, p, q⟩ := h.ex
  refine ⟨tTup t, pe_tup p, fun Hs0 H0 ρ σ Hs H Q e h => ?_⟩
  refine q _ _ ρ σ Hs H _ e (h.bind.mono fun xs Hs1 H1 s1 ⟨ρ1, e1, h1⟩ vs rv => ?_)
  have h2 : Post X.K false W σ Hs1 H1 Q (mkT xs) := (PostX.of e1 h1).mono fun d _ _ _ k v rv => k v rv.rp
  refine post_mk h2 fun hz h2 => ⟨?_, fun p hp => mkT_post h2 e1.sub rv hp⟩
  rw [RpAll.len rv]
  exact small_line hz
/-! ### statements -/
def sIfX (c : DEnv → RX Bool) (f g : DEnv → Out) : DEnv → Out := fun ρ => (c ρ).outX fun k ρ' => if k = true then f ρ' else g ρ'
theorem ds_ifX {d : Expr} {a b : List Stmt} {fc : DEnv → RX Bool} {f g : DEnv → Out} (hc : DTX X W d fc) (ha : DSs X W a f) (hb : DSs X W b g) : DS X W (.If d a b pos) (sIfX fc f g) := by
  obtain ⟨t, p, q⟩ := hc.ex
  obtain ⟨t1, p1, q1⟩ := ha.ex
  obtain ⟨t2, p2, q2⟩ := hb.ex
  refine ⟨tIfS t t1 t2, ps_if p p1 p2, fun Hs0 H0 ρ σ Hs H E e h => ?_⟩
  refine q _ _ ρ σ Hs H _ e ((postX_out h).mono fun k Hs' H' s ⟨ρ', e', k1⟩ => ?_)
  cases k with
  | true => exact q1 _ _ ρ' σ Hs' H' E e' k1
  | false => exact q2 _ _ ρ' σ Hs' H' E e' k1
def sSetX (i : Nat) (f : DEnv → RX D) : DEnv → Out := fun ρ => (f ρ).outX fun d ρ' => .next (st ρ' i (some (.dat d)))
theorem ds_setX (i : Nat) {x : Str} {pos' : Pos} {f : DEnv → RX D} (hN : X.N.Nodup) (he : DX X W e f) (hi : X.N[i]? = some x := by rfl) (hx : Loc X.env.scope x := by first | exact Or.inl rfl | exact Or.inr rfl)
    (hs : swapsWith e (some (.Name x pos')) pos.line X.env = pure false := by rfl) (hf : X.fn x = true ∨ X.env.scope.names.lookup x = some .local := by first | exact .inl rfl | exact .inr rfl | assumption) : DS X W (.Assign [.Name x pos'] e pos) (sSetX i f) := by
  obtain ⟨t, p, q⟩ := he.ex
  refine ⟨tAsg t (gName i), ps_set hN hi hx p hs hf, fun Hs0 H0 ρ σ Hs H E e h => ?_⟩
  refine q _ _ ρ σ Hs H _ e ((postX_out h).mono fun d Hs' H' s ⟨ρ', e', k⟩ v r => ?_)
  rw [st_eq] at k
  exact k _ Hs' H' (Ex.refl _) (e'.set r)
def sRetX (f : DEnv → RX D) : DEnv → Out := fun ρ => (f ρ).outX .retO
theorem ds_retX {f : DEnv → RX D} (h : DX X W e f) : DS X W (.Return (some e) pos) (sRetX f) := by
  obtain ⟨t, p, q⟩ := h.ex
  refine ⟨tRet t, ps_ret p, fun Hs0 H0 ρ σ Hs H E e h => ?_⟩
  exact q _ _ ρ σ Hs H _ e ((postX_out h).mono fun d Hs' H' s ⟨ρ', e', k⟩ v r => k v σ Hs' H' (Ex.refl _) e' r)
def sDropX (f : DEnv → RX D) : DEnv → Out := fun ρ => (f ρ).outX fun _ ρ' => .next ρ'
theorem ds_dropX {f : DEnv → RX D} (h : DX X W e f) (hsw : swapsWith e none pos.line X.env = pure false := by rfl) : DS X W (.Expr e pos) (sDropX f) := by
  obtain ⟨t, p, q⟩ := h.ex
  refine ⟨_, ps_expr p hsw, fun Hs0 H0 ρ σ Hs H E e h => ?_⟩
  exact q _ _ ρ σ Hs H _ e ((postX_out h).mono fun d Hs' H' s ⟨ρ', e', k⟩ v r => k σ Hs' H' (Ex.refl _) e')
end
end SB
end
end

section
set_option Elab.async false
set_option linter.all false
set_option maxRecDepth 100000
set_option maxHeartbeats 2000000
noncomputable section
namespace SB
open PySem PySem.Spec L2 Evl PyProof.Rows
/-! ### the attributes -/
theorem fld_look {k : Nat} {f : Str} (hk : fldN[k]? = some f) : ∀ vs : List V, vs.length ≤ 3 → (fldN.zip vs).lookup f = vs[k]? := by
  intro vs hv
  match vs, hv with
  | [], _ =>
    cases k <;> simp [fldN]
  | [a], _ => match k, hk with
    | 0, hk => cases hk; rfl
    | 1, hk => cases hk; rfl
    | 2, hk => cases hk; rfl
  | [a, b], _ => match k, hk with
    | 0, hk => cases hk; rfl
    | 1, hk => cases hk; rfl
    | 2, hk => cases hk; rfl
  | [a, b, c], _ => match k, hk with
    | 0, hk => cases hk; rfl
    | 1, hk => cases hk; rfl
    | 2, hk => cases hk; rfl
  | _ :: _ :: _ :: _ :: _, hv => exact absurd hv (by simp)
theorem fld_none {m : Str} (hm : fldN.contains m = false) (vs : List V) : (fldN.zip vs).lookup m = none := by
  have key : ∀ (ns : List Str) (vs : List V), ns.contains m = false → (ns.zip vs).lookup m = none := by
    intro ns
    induction ns with
    | nil => intro vs _; rfl
    | cons n ns ih =>
      intro vs h
      cases vs with
      | nil => rfl
      | cons v vs =>
        rw [List.contains_cons, Bool.or_eq_false_iff] at h
        rw [List.zip_cons_cons, List.lookup_cons, h.1]
        exact ih vs h.2
  exact key fldN vs hm
def putAt (k : Nat) {α : Type} (d : α) (ds : List α) : Option (List α) := if Nat.blt k ds.length = true then some (ds.set k d) else if Nat.beq k ds.length = true then some (ds ++ [d]) else none
theorem fld_put {k : Nat} {f : Str} (hk : fldN[k]? = some f) {v : V} {vs ws : List V} (hv : vs.length ≤ 3) (h : putAt k v vs = some ws) : putF f v (fldN.zip vs) = fldN.zip ws ∧ ws.length ≤ 3 := by
  match vs, hv with
  | [], _ => match k, hk with
    | 0, hk => cases hk; cases h; exact ⟨rfl, by simp⟩
    | 1, hk => cases h
    | 2, hk => cases h
  | [a], _ => match k, hk with
    | 0, hk => cases hk; cases h; exact ⟨rfl, by simp⟩
    | 1, hk => cases hk; cases h; exact ⟨rfl, by simp⟩
    | 2, hk => cases h
  | [a, b], _ => match k, hk with
    | 0, hk => cases hk; cases h; exact ⟨rfl, by simp⟩
    | 1, hk => cases hk; cases h; exact ⟨rfl, by simp⟩
    | 2, hk => cases hk; cases h; exact ⟨rfl, by simp⟩
  | [a, b, c], _ => match k, hk with
    | 0, hk => cases hk; cases h; exact ⟨rfl, by simp⟩
    | 1, hk => cases hk; cases h; exact ⟨rfl, by simp⟩
    | 2, hk => cases hk; cases h; exact ⟨rfl, by simp⟩
  | _ :: _ :: _ :: _ :: _, hv => exact absurd hv (by simp)
theorem putAt_rp {K : PySem.W.Frag} {Hs : Hp} {k : Nat} {v : V} {d : D} {vs : List V} {ds es : List D} (r : RpAll K Hs vs ds) (rv : Rp K Hs v d) (h : putAt k d ds = some es) : ∃ ws, putAt k v vs = some ws ∧ RpAll K Hs ws es := by
  unfold putAt at h ⊢
  rw [RpAll.len r]
  split at h
  · rename_i h1
    cases h
    exact ⟨_, by rw [if_pos h1], RpAll.set rv k r⟩
  · rename_i h1
    split at h
    · rename_i h2
      cases h
      exact ⟨_, by rw [if_neg h1, if_pos h2], RpAll.append r (.cons rv .nil)⟩
    · cases h
section
variable {X : Cx} {W : WD} {pos : Pos}
theorem EnvOk.insAt {Hs0 : Hp} {H0 : Hp0} {Hs H : Hp} {ρ : DEnv} {σ : L2.St} {i : Nat} {p : Option Nat} {ds : List D} (e : EnvOk X.K Hs0 H0 ρ σ Hs H) (h : ρ[i]? = some (some (.obj p (.ins ds)))) :
    ∃ a dx vs, σ[i]? = some (some (V.ref a)) ∧ H a = some (.ins (theC X.K) dx (fldN.zip vs)) ∧ vs.length ≤ 3 ∧ RpAll X.K Hs vs ds := by
  obtain ⟨a, o, h1, h2, h3, h4, h5⟩ := e.ow i _ rfl h
  cases o with
  | ins C dx gs =>
    obtain ⟨rfl, vs, hv, rfl, r⟩ := h5
    exact ⟨a, dx, vs, h1, h4, hv, r⟩
  | _ => exact h5.elim
/-- x.f -/
def xAttr (i k : Nat) : DEnv → Res D := fun ρ => match lk ρ i with
  | some (.obj _ (.ins ds)) => (match ds[k]? with
    | some d => .ok d
    | none => .bad)
  | _ => .bad
theorem de_attr {b : Bool} (i k : Nat) {x f : Str} {p1 : Pos} (c : Cls X.K (theC X.K)) (n : NoAttr X.K (theC X.K) f) (hk : fldN[k]? = some f := by rfl) (hN : X.N[i]? = some x := by rfl) (hv : Vis X.env.scope x := by first | exact Or.inl rfl | exact Or.inr (Or.inl rfl) | exact Or.inr (Or.inr rfl)) (hd : (x == ("__debug__" : Str)) = false := by decide)
    (hcd : (x == ("__classdict__" : Str)) = false := by decide) (hb : attributeBase (.Name x p1) f X.env (eval (.Name x p1) X.env) = eval (.Name x p1) X.env := by rfl) : DE X W b (.Attribute (.Name x p1) f pos) (xAttr i k) := by
  refine ⟨_, pe_fld (pe_var (i := i) hN hv hd hcd) hb, fun Hs0 H0 ρ σ Hs H Q e h => ?_⟩
  unfold xAttr at h
  split at h
  · rename_i p ds hr
    obtain ⟨a, dx, vs, h1, h2, h3, h4⟩ := e.insAt (lk_some hr)
    split at h
    · rename_i d hd
      obtain ⟨v, g1, g2⟩ := RpAll.get h4 hd
      exact ⟨_, h1, a, _, dx, _, v, rfl, h2, c, n, by rw [fld_look hk vs h3]; exact g1, PostA.now e.sub h v (.of g2)⟩
    · exact h.elim
  · exact h.elim
theorem obj_put {Hs0 : Hp} {H0 : Hp0} {Hs H : Hp} {ρ : DEnv} {σ : L2.St} {i k : Nat} {p : Option Nat} {f : Str} {ds es : List D} {v : V} {d : D} (e : EnvOk X.K Hs0 H0 ρ σ Hs H) (hr : ρ[i]? = some (some (.obj p (.ins ds)))) (hk : fldN[k]? = some f) (rv : Rp X.K Hs v d) (hp : putAt k d ds = some es) :
    ∃ a dx fs, σ[i]? = some (some (V.ref a)) ∧ H a = some (.ins (theC X.K) dx fs) ∧ fs.length < 1000 ∧ EnvOk X.K Hs0 H0 (ρ.set i (some (.obj p (.ins es)))) σ Hs (upd H a (.ins (theC X.K) dx (putF f v fs))) := by
  obtain ⟨a, dx, vs, h1, h2, h3, h4⟩ := e.insAt hr
  obtain ⟨ws, g1, g2⟩ := putAt_rp h4 rv hp
  obtain ⟨g3, g4⟩ := fld_put hk h3 g1
  refine ⟨a, dx, _, h1, h2, ?_, e.putObj (x := .obj p (.ins ds)) (y := .obj p (.ins es)) rfl rfl hr h1 ⟨rfl, ws, g4, g3, g2⟩⟩
  rw [List.length_zip]
  omega
/-- x.f = e -/
def sAttr (i k : Nat) (f : DEnv → RX D) : DEnv → Out := fun ρ => (f ρ).outX fun d ρ => match lk ρ i with
  | some (.obj p (.ins ds)) => (match putAt k d ds with
    | some es => .next (st ρ i (some (.obj p (.ins es))))
    | none => .bad)
  | _ => .bad
theorem ds_attr (i k : Nat) {x f : Str} {e : Expr} {p1 p2 : Pos} {fe : DEnv → RX D} (c : Cls X.K (theC X.K)) (n : NoAttr X.K (theC X.K) f) (he : DX X W e fe) (hk : fldN[k]? = some f := by rfl) (hN : X.N[i]? = some x := by rfl) (hv : Vis X.env.scope x := by first | exact Or.inl rfl | exact Or.inr (Or.inl rfl) | exact Or.inr (Or.inr rfl)) (hd : (x == ("__debug__" : Str)) = false := by decide)
    (hcd : (x == ("__classdict__" : Str)) = false := by decide) (hs : swapsWith e (some (.Attribute (.Name x p1) f p2)) pos.line X.env = pure false := by rfl) : DS X W (.Assign [.Attribute (.Name x p1) f p2] e pos) (sAttr i k fe) := by
  obtain ⟨t, p, q⟩ := he.ex
  refine ⟨_, ps_fld (pe_var (i := i) hN hv hd hcd) p hs, fun Hs0 H0 ρ σ Hs H E e h => ?_⟩
  refine q _ _ ρ σ Hs H _ e ((postX_out h).mono fun d Hs' H' s ⟨ρ', e', k1⟩ v r => ?_)
  split at k1
  · rename_i p ds hr
    split at k1
    · rename_i es hp
      obtain ⟨a, dx, fs, h1, h2, h3, h4⟩ := obj_put e' (lk_some hr) hk r hp
      rw [st_eq] at k1
      exact ⟨_, h1, a, _, dx, fs, rfl, h2, c, n, h3, k1 σ Hs' _ (Ex.refl _) h4⟩
    · exact k1.elim
  · exact k1.elim
/-- x.f as a target -/
def gAttr (K : PySem.W.Frag) (ta : TE) (f : Str) : TG := fun v σ H Q => ta σ H fun x H2 => ∃ a C dx fs, x = .ref a ∧ H2 a = some (.ins C dx fs) ∧ Cls K C ∧ NoAttr K C f ∧ fs.length < 1000 ∧ Q σ (upd H2 a (.ins C dx (putF f v fs)))
theorem pg_attr {o : Expr} {f : Str} {ta : TE} (ha : PE X o ta) : PG X (.Attribute o f pos) (gAttr X.K ta f) := by
  refine ⟨fun pins s σ H v u Q I r h => ?_⟩
  rw [arm_assign_Attribute]
  refine wpAny_bind (wpAny_holding (thn (ha.run pins s σ H _ I h) fun ov s1 ⟨x, H1, I1, rx, a, C, dx, fs, ex, ea, c, n, l, q⟩ => ?_))
  subst ex
  cases (show ov = Value.ref a from rx)
  refine wpAny_bind (wpAny_standAt (wpAny_bind (wpAny_holding (setattr_ok I1 ea c n l r fun s2 I2 => ?_))))
  exact wpAny_release ⟨σ, _, I2, q⟩
end
end SB
end
end

section
set_option Elab.async false
set_option linter.all false
set_option maxRecDepth 100000
set_option maxHeartbeats 2000000
noncomputable section
namespace SB
open PySem PySem.Spec L2 Evl PyProof.Rows
/-! ### defs that are handed an object -/
inductive RO where
  | ok (d : D) (o : OV)
  | exc (c : Nat) (o : OV)
  | new (p : OV) (o : OV)
  | bad
def del (H : Hp) (a : Addr) : Hp := fun b => if b = a then none else H b
theorem del_ne {H : Hp} {a b : Addr} (h : b ≠ a) : del H a b = H b := if_neg h
theorem del_same {H : Hp} {a : Addr} : del H a a = none := if_pos rfl
theorem del_ex {H : Hp} {a : Addr} : Ex (del H a) H := fun b o h => by
  by_cases e : b = a
  · subst e; rw [del_same] at h; cases h
  · rwa [del_ne e] at h
theorem del_some {H : Hp} {a b : Addr} {o : HO} (h : del H a b = some o) : b ≠ a := fun e => by
  subst e; rw [del_same] at h; cases h
theorem ownR_p {K : PySem.W.Frag} {Hs : Hp} {p q : Option Nat} {o : OV} {ho : HO} (h : ownR K Hs (.obj p o) ho) : ownR K Hs (.obj q o) ho := by
  cases o <;> cases ho <;> exact h
/-- the object at a is as o tells -/
def ObjAt (K : PySem.W.Frag) (Hs H : Hp) (a : Addr) (o : OV) : Prop := Hs a = none ∧ ∃ ho, H a = some ho ∧ ownR K Hs (.obj none o) ho
def spO (K : PySem.W.Frag) (xc : Nat → Value) (j : Nat) (F : OV → List D → RO) : Sp := fun vs H Q E => ∃ Hs us1 us2 ds1 ds2 a o, vs = us1 ++ V.ref a :: us2 ∧ ds1.length = j ∧ RpAll K Hs us1 ds1 ∧ RpAll K Hs us2 ds2 ∧ Ex Hs H ∧ ObjAt K Hs H a o ∧
  match F o (ds1 ++ ds2) with
  | .ok d o' => ∀ v Hs' H', Step Hs (del H a) Hs' (del H' a) → ObjAt K Hs' H' a o' → Rp K Hs' v d → Q v H'
  | .exc c o' => ∀ Hs' H', Step Hs (del H a) Hs' (del H' a) → ObjAt K Hs' H' a o' → E (xc c) none H'
  | .new p o' => ∀ b Hs' H', Step Hs (del H a) Hs' (del H' a) → ObjAt K Hs' H' a o' → ObjAt K Hs' H' b p → b ≠ a → H b = none → Q (.ref b) H'
  | .bad => False
/-- where the caller stands behind the call -/
theorem EnvOk.objStep {K : PySem.W.Frag} {Hs0 : Hp} {H0 : Hp0} {Hs H Hs' H' : Hp} {ρ : DEnv} {σ : L2.St} {i : Nat} {a : Addr} {p : Option Nat} {o o' : OV} (e : EnvOk K Hs0 H0 ρ σ Hs H) (hr : ρ[i]? = some (some (.obj p o))) (hs : σ[i]? = some (some (.ref a)))
    (s : Step Hs (del H a) Hs' (del H' a)) (at' : ObjAt K Hs' H' a o') : EnvOk K Hs0 H0 (ρ.set i (some (.obj p o'))) σ Hs' H' := by
  obtain ⟨a', ho, g1, sa, oa, g4, g5⟩ := e.ow i _ rfl hr
  rw [hs] at g1
  cases g1
  obtain ⟨na, ho', g6, g7⟩ := at'
  have up : ∀ {b : Addr} {u : HO}, b ≠ a → H b = some u → H' b = some u := fun {b u} hb q => del_ex _ _ (s.wh b u (by rw [del_ne hb]; exact q))
  have far : ∀ {b : Addr} {u : HO}, b ≠ a → H b = some u → Hs b = none → Hs' b = none := fun {b u} hb q n => s.away b u (by rw [del_ne hb]; exact q) n
  refine ⟨by simp [e.len], H0.st _ _ (fun b u q n => ?_) e.iv, fun j q => (by
    rcases set_back q with ⟨_, _, z⟩ | ⟨_, q⟩
    · cases z
    · have t := e.tb j q
      have ne : ∀ {b : Addr} {u : HO}, H b = some u → soft u = false → b ≠ a := fun {b u} q n z => by
        subst z
        rw [g4] at q
        cases q
        rw [g5.soft] at n
        cases n
      exact ⟨tabs_soft t.1 fun b u q n => up (ne q n) q, fun p hp => ⟨let ⟨_, h⟩ := tabs_at t.1 hp; far (ne h rfl) h (t.2 p hp).1, (t.2 p hp).2⟩⟩), fun j k z q rk => ?_, s.sub.trans del_ex, e.sh0.trans s.sh, fun b u q => ?_, fun b u q n => ?_, fun j d q => ?_, fun j d q => ?_, fun j z hz q => ?_, fun j k z z' c hz hz' p1 q r s1 => ?_, fun j rows q => ?_⟩
  · by_cases hb : b = a
    · subst hb
      rw [g4] at q
      cases q
      have n := hard_soft n
      rw [g5.soft] at n
      cases n
    · exact up hb q
  · rcases set_back q with ⟨hj, _, z⟩ | ⟨hj, q⟩
    · subst z
      subst hj
      exact e.pa _ k _ hr rk
    · exact e.pa j k z q rk
  · exact up (fun z => by subst z; rw [oa] at q; cases q) (e.wh0 b u q)
  · exact far (fun z => by subst z; rw [oa] at q; cases q) (e.wh0 b u q) (e.aw0 b u q n)
  · rcases set_back q with ⟨_, _, z⟩ | ⟨hj, q⟩
    · cases z
    · obtain ⟨v, h1, h2⟩ := e.dat j d q
      exact ⟨v, h1, Rp.ex s.sh h2⟩
  · rcases set_back q with ⟨_, _, z⟩ | ⟨hj, q⟩
    · cases z
    · obtain ⟨v, h1, h2⟩ := e.nd j d q
      exact ⟨v, h1, h2.ex s.sh⟩
  · rcases set_back q with ⟨rfl, hl, w⟩ | ⟨hj, q⟩
    · subst w
      exact ⟨a, ho', hs, na, oa, g6, ownR_p g7⟩
    · obtain ⟨c, o2, h1, h2, h3, h4, h5⟩ := e.ow j z hz q
      have : c ≠ a := fun w => by
        subst w
        exact hj (e.inj i j _ z c rfl hz hr q hs h1)
      exact ⟨c, o2, h1, far this h4 h2, h3, up this h4, h5.ex s.sh⟩
  · have back : ∀ {j : Nat} {z : LV}, isOwn z = true → (ρ.set i (some (.obj p o')))[j]? = some (some z) → ∃ z', isOwn z' = true ∧ ρ[j]? = some (some z') := fun {j z} hz q => by
      rcases set_back q with ⟨rfl, _, _⟩ | ⟨_, q⟩
      · exact ⟨_, rfl, hr⟩
      · exact ⟨z, hz, q⟩
    obtain ⟨f1, o1, x1⟩ := back hz p1
    obtain ⟨f2, o2, x2⟩ := back hz' q
    exact e.inj j k f1 f2 c o1 o2 x1 x2 r s1
  · rcases set_back q with ⟨_, _, z⟩ | ⟨hj, q⟩
    · cases z
    obtain ⟨b, as, h1, h2, h3⟩ := e.gr j rows q
    have nea : ∀ c, c ∈ b :: as → c ≠ a := fun c hc z => h3 i _ c rfl hr (by rw [z]; exact hs) hc
    refine ⟨b, as, h1, h2.mono (fun c hc => let ⟨u, hu⟩ := h2.has c hc; far (nea c hc) hu (h2.new c hc).1) (fun c hc o' ho => up (nea c hc) ho), fun k y c hy p1 r => ?_⟩
    rcases set_back p1 with ⟨rfl, hl, z⟩ | ⟨hk, p1⟩
    · exact h3 _ _ c rfl hr r
    · exact h3 k y c hy p1 r
end SB
end
end

section
set_option Elab.async false
set_option linter.all false
set_option maxRecDepth 100000
set_option maxHeartbeats 2000000
noncomputable section
namespace SB
open PySem PySem.Spec L2 Evl PyProof.Rows
/-! ### where a def begins that is handed an object as its parameter j -/
def argsO (j : Nat) (o : OV) (ds : List D) : List LV := (ds.take j).map .dat ++ .obj (some j) o :: (ds.drop j).map .dat
def env0O (N : List Str) (j : Nat) (o : OV) (ds : List D) : DEnv := (argsO j o ds).map some ++ List.replicate (N.length - (ds.length + 1)) none
theorem pick_app {α : Type} {ls : List α} {m i : Nat} {x : α} (h : (ls.map some ++ List.replicate m none)[i]? = some (some x)) : ls[i]? = some x := by
  by_cases hi : i < ls.length
  · rw [List.getElem?_append_left (by simpa using hi), List.getElem?_map, List.getElem?_eq_getElem hi] at h
    rw [List.getElem?_eq_getElem hi]
    simpa using h
  · rw [List.getElem?_append_right (by simpa using hi), List.getElem?_replicate] at h
    split at h <;> cases h
theorem start_at {N : List Str} {vs : List V} {i : Nat} {v : V} (h : vs[i]? = some v) : (L2.start N vs)[i]? = some (some v) := by
  have hi : i < vs.length := (List.getElem?_eq_some_iff.mp h).1
  unfold L2.start
  rw [List.getElem?_append_left (by simpa using hi), List.getElem?_map, h]
  rfl
def hpO (H : Hp) (a : Addr) (vs : List V) : Hp0 := ⟨del H a, vs, fun _ => True, fun _ _ _ h => h⟩
section
variable {K : PySem.W.Frag} {N : List Str} {Hs H : Hp} {us1 us2 : List V} {ds1 ds2 : List D} {a : Addr} {o : OV} {j : Nat}
theorem args_at (hj : ds1.length = j) (r1 : RpAll K Hs us1 ds1) (r2 : RpAll K Hs us2 ds2) {i : Nat} {x : LV} (h : (argsO j o (ds1 ++ ds2))[i]? = some x) :
    (∃ d v, x = .dat d ∧ (us1 ++ V.ref a :: us2)[i]? = some v ∧ Rp K Hs v d) ∨ (i = j ∧ x = .obj (some j) o) := by
  subst hj
  have l1 := RpAll.len r1
  unfold argsO at h
  rw [List.take_left, List.drop_left] at h
  by_cases h1 : i < ds1.length
  · rw [List.getElem?_append_left (by simpa using h1), List.getElem?_map] at h
    cases hd : ds1[i]? with
    | none => rw [hd] at h; cases h
    | some d =>
      rw [hd] at h
      cases h
      obtain ⟨v, g1, g2⟩ := RpAll.get r1 hd
      exact .inl ⟨d, v, rfl, by rw [List.getElem?_append_left (by omega)]; exact g1, g2⟩
  · rw [List.getElem?_append_right (by simpa using h1), List.length_map] at h
    by_cases h2 : i = ds1.length
    · rw [h2, Nat.sub_self, List.getElem?_cons_zero] at h
      cases h
      exact .inr ⟨h2, rfl⟩
    · obtain ⟨m, hm⟩ : ∃ m, i - ds1.length = m + 1 := ⟨i - ds1.length - 1, by omega⟩
      rw [hm, List.getElem?_cons_succ, List.getElem?_map] at h
      cases hd : ds2[m]? with
      | none => rw [hd] at h; cases h
      | some d =>
        rw [hd] at h
        cases h
        obtain ⟨v, g1, g2⟩ := RpAll.get r2 hd
        refine .inl ⟨d, v, rfl, ?_, g2⟩
        rw [List.getElem?_append_right (by omega), l1, hm, List.getElem?_cons_succ]
        exact g1
theorem envO_ok (hj : ds1.length = j) (r1 : RpAll K Hs us1 ds1) (r2 : RpAll K Hs us2 ds2) (e : Ex Hs H) (at' : ObjAt K Hs H a o) :
    EnvOk K Hs (hpO H a (us1 ++ V.ref a :: us2)) (env0O N j o (ds1 ++ ds2)) (L2.start N (us1 ++ V.ref a :: us2)) Hs H := by
  have l1 := RpAll.len r1
  have l2 := RpAll.len r2
  obtain ⟨na, ho, g1, g2⟩ := at'
  have hat : (us1 ++ V.ref a :: us2)[j]? = some (V.ref a) := by
    rw [List.getElem?_append_right (by omega), l1, hj, Nat.sub_self, List.getElem?_cons_zero]
  have pick : ∀ (i : Nat) (x : LV), (env0O N j o (ds1 ++ ds2))[i]? = some (some x) → _ := fun i x h => args_at (a := a) hj r1 r2 (pick_app h)
  refine ⟨?_, trivial, fun i h => (by rcases pick i _ h with ⟨d', v, z, _⟩ | ⟨_, z⟩ <;> cases z), fun i k x h rk => ?_, e, Ex.refl _, del_ex, fun b u q n => n, fun i d h => ?_, fun i es h => ?_, fun i x hx h => ?_, fun i i' x y c hx hy p q r s => ?_, fun i rows h => ?_⟩
  · unfold env0O argsO L2.start
    rw [List.take_append_of_le_length (by omega), List.drop_append_of_le_length (by omega)]
    simp [l1, l2, hj]
    have : ds1.drop j = [] := List.drop_of_length_le (by omega)
    have t : ds1.take j = ds1 := List.take_of_length_le (by omega)
    omega
  · rcases pick i x h with ⟨d, v, rfl, _⟩ | ⟨rfl, rfl⟩
    · cases rk
    · cases rk
      exact ⟨_, hat, start_at hat⟩
  · rcases pick i _ h with ⟨d', v, z, h1, h2⟩ | ⟨rfl, z⟩
    · cases z
      exact ⟨v, start_at h1, h2⟩
    · cases z
  · rcases pick i _ h with ⟨d', v, z, h1, h2⟩ | ⟨rfl, z⟩ <;> cases z
  · rcases pick i _ h with ⟨d', v, rfl, h1, h2⟩ | ⟨rfl, rfl⟩
    · cases hx
    · exact ⟨a, ho, start_at hat, na, del_same, g1, ownR_p g2⟩
  · rcases pick i _ p with ⟨d', v, rfl, h1, h2⟩ | ⟨rfl, rfl⟩
    · cases hx
    · rcases pick i' _ q with ⟨d', v, rfl, h1, h2⟩ | ⟨rfl, rfl⟩
      · cases hy
      · rfl
  · rcases pick i _ h with ⟨d', v, z, h1, h2⟩ | ⟨rfl, z⟩ <;> cases z
end
/-- how the object stands at the end -/
def objOf (j : Nat) (ρ : DEnv) (k : OV → RO) : RO := match lk ρ j with
  | some (.obj (some m) o) => if Nat.beq m j = true then k o else .bad
  | _ => .bad
def newOf (i j : Nat) (ρ : DEnv) : RO := match lk ρ i with
  | some (.obj none p) => objOf j ρ (.new p)
  | _ => .bad
def outO (j : Nat) : Out → RO
  | .retO d ρ => objOf j ρ (.ok d)
  | .excO c ρ => objOf j ρ (.exc c)
  | .next ρ => objOf j ρ (.ok .none)
  | .retN i ρ => newOf i j ρ
  | _ => .bad
/-- the def of n parameters (the object among them) whose names are N and whose body is f -/
def fnO (N : List Str) (n j : Nat) (f : DEnv → Out) : OV → List D → RO := fun o ds => if Nat.beq (ds.length + 1) n = true then outO j (f (env0O N j o ds)) else .bad
section
variable {P : Program} {w : World} {K : PySem.W.Frag} {mg : Str → Option Value} {base : Heap}
theorem objOf_ok {j : Nat} {ρ : DEnv} {k : OV → RO} {Hs H Hs' H' : Hp} {us1 us2 : List V} {a : Addr} {σ' : L2.St} {g : Prop} (hl : us1.length = j) (e : EnvOk K Hs (hpO H a (us1 ++ V.ref a :: us2)) ρ σ' Hs' H') (hb : objOf j ρ k ≠ .bad)
    (q : ∀ o, objOf j ρ k = k o → ρ[j]? = some (some (.obj (some j) o)) → σ'[j]? = some (some (.ref a)) → Step Hs (del H a) Hs' (del H' a) → ObjAt K Hs' H' a o → g) : g := by
  unfold objOf at hb q
  split at hb
  · rename_i m o hm
    by_cases hmj : Nat.beq m j = true
    · have : m = j := Nat.eq_of_beq_eq_true hmj
      subst this
      have hr := lk_some hm
      obtain ⟨v, h1, h2⟩ := e.pa _ _ _ hr rfl
      have : (us1 ++ V.ref a :: us2)[m]? = some (V.ref a) := by
        rw [List.getElem?_append_right (by omega), hl, Nat.sub_self, List.getElem?_cons_zero]
      have h1' : (us1 ++ V.ref a :: us2)[m]? = some v := h1
      rw [this] at h1'
      cases h1'
      obtain ⟨a', ho, k1, k2, k3, k4, k5⟩ := e.ow _ _ rfl hr
      rw [h2] at k1
      cases k1
      have s0 := e.step0
      refine q o (by rw [hm]; simp only [if_pos hmj]) hr h2 ⟨s0.sh, fun b u z => ?_, fun b u z => ?_, s0.away⟩ ⟨k2, ho, k4, ownR_p k5⟩
      · have hb := del_some z
        rw [del_ne hb]
        exact s0.wh b u z
      · have hb : b ≠ a := fun y => by subst y; rw [k2] at z; cases z
        rw [del_ne hb]
        exact s0.sub b u z
    · rw [if_neg hmj] at hb
      exact absurd rfl hb
  · exact absurd rfl hb
theorem fn_okO {x qual : Str} {args : Arguments} {st : List Stmt} {sc : Scope} {f : Addr} {fd : FuncData} {N ps : List Str} {k n j : Nat} {xc : Nat → Value} {F : DEnv → Out}
    (hfn : ∀ (sp : Sp), (∀ vs H Q E, sp vs H Q E → vs.length = ps.length) →
      (∀ (cdv : Value) (A : Around) (outer : List Env) (s : Shared) (H : Hp) (vs : List V) (Q : VK) (E : XK), Room k (A.deeper (envOfC qual sc s.heap.objs.size f cdv)) → sp vs H Q E →
        ∃ t, PSs (cxOf (L2N.CX P w) P w K mg base N qual sc f cdv A outer s H E) st t ∧ t { nx := fun _ H' => Q .non H', rt := Q } (L2.start N vs) H) → FnOk P w K mg base (L2N.CX P w) (k + 1) f fd ps sp)
    (hn : ps.length = n)
    (body : ∀ (cdv : Value) (A : Around) (outer : List Env) (s : Shared) (H : Hp) (E : XK), Room k (A.deeper (envOfC qual sc s.heap.objs.size f cdv)) →
      DSs (cxOf (L2N.CX P w) P w K mg base N qual sc f cdv A outer s H E) (WDof xc E) st F) : FnOk P w K mg base (L2N.CX P w) (k + 1) f fd ps (spO K xc j (fnO N n j F)) := by
  have key : ∀ {o : OV} {ds : List D}, fnO N n j F o ds ≠ .bad → ds.length + 1 = n ∧ fnO N n j F o ds = outO j (F (env0O N j o ds)) := fun {o ds} h => by
    unfold fnO at h ⊢
    by_cases hl : Nat.beq (ds.length + 1) n = true
    · exact ⟨Nat.eq_of_beq_eq_true hl, if_pos hl⟩
    · rw [if_neg hl] at h
      exact absurd rfl h
  refine hfn _ ?_ ?_
  · rintro vs H Q E ⟨Hs, us1, us2, ds1, ds2, a, o, rfl, hj, r1, r2, e, at', h⟩
    have hne : fnO N n j F o (ds1 ++ ds2) ≠ .bad := fun z => by rw [z] at h; exact h
    have := (key hne).1
    have l1 := RpAll.len r1
    have l2 := RpAll.len r2
    rw [hn, ← this]
    simp [l1, l2]
    omega
  · rintro cdv A outer s H vs Q E hr ⟨Hs, us1, us2, ds1, ds2, a, o, rfl, hj, r1, r2, e, at', h⟩
    have hne : fnO N n j F o (ds1 ++ ds2) ≠ .bad := fun z => by rw [z] at h; exact h
    obtain ⟨_, hF⟩ := key hne
    rw [hF] at h hne
    have l1 := RpAll.len r1
    obtain ⟨t, p, q⟩ := (body cdv A outer s H E hr).ex
    refine ⟨t, p, q Hs _ _ (L2.start N (us1 ++ V.ref a :: us2)) Hs H _ (envO_ok hj r1 r2 e at') ?_⟩
    cases ho : F (env0O N j o (ds1 ++ ds2)) with
    | retO d ρ =>
      rw [ho] at h hne
      intro v σ' Hs' H' _ e' rv
      refine objOf_ok (l1.trans hj) e' hne fun o' ho' _ _ s' at2 => ?_
      rw [show outO j (.retO d ρ) = objOf j ρ (.ok d) from rfl, ho'] at h
      exact h v Hs' H' s' at2 rv
    | excO c ρ =>
      rw [ho] at h hne
      intro σ' Hs' H' _ e'
      refine objOf_ok (l1.trans hj) e' hne fun o' ho' _ _ s' at2 => ?_
      rw [show outO j (.excO c ρ) = objOf j ρ (.exc c) from rfl, ho'] at h
      exact h Hs' H' s' at2
    | next ρ =>
      rw [ho] at h hne
      intro σ' Hs' H' _ e'
      refine objOf_ok (l1.trans hj) e' hne fun o' ho' _ _ s' at2 => ?_
      rw [show outO j (.next ρ) = objOf j ρ (.ok .none) from rfl, ho'] at h
      exact h .non Hs' H' s' at2 .non
    | retN i ρ =>
      rw [ho] at h hne
      intro v σ' Hs' H' _ e' hv
      rw [show outO j (.retN i ρ) = newOf i j ρ from rfl] at h hne
      unfold newOf at h hne
      split at hne
      · rename_i p hp
        rw [hp] at h
        simp only at h
        refine objOf_ok (l1.trans hj) e' hne fun o' ho' hr' hs' s' at2 => ?_
        rw [ho'] at h
        have hr2 := lk_some hp
        obtain ⟨b, hb, k1, k2, k3, k4, k5⟩ := e'.ow _ _ rfl hr2
        rw [hv] at k1
        cases k1
        have hba : b ≠ a := fun z => by
          subst z
          have := e'.inj i j _ _ b rfl rfl hr2 hr' hv hs'
          subst this
          rw [hr2] at hr'
          cases hr'
        exact h b Hs' H' s' at2 ⟨k2, hb, k4, ownR_p k5⟩ hba (by have : del H a b = none := k3; rwa [del_ne hba] at this)
      · exact absurd rfl hne
    | ret d => rw [ho] at hne; exact absurd rfl hne
    | brk d => rw [ho] at hne; exact absurd rfl hne
    | cont d => rw [ho] at hne; exact absurd rfl hne
    | exc d => rw [ho] at hne; exact absurd rfl hne
    | bad => rw [ho] at hne; exact absurd rfl hne
end
end SB
end
end

section
set_option Elab.async false
set_option linter.all false
set_option maxRecDepth 100000
set_option maxHeartbeats 2000000
noncomputable section
namespace SB
open PySem PySem.Spec L2 Evl PyProof.Rows
/-! ### calls with an object -/
structure RdyO (P : Program) (w : World) (K : PySem.W.Frag) (mg : Str → Option Value) (base : Heap) (xc : Nat → Value) (k : Nat) (x : Str) (ps : List Str) (j : Nat) (F : OV → List D → RO) : Prop where
  ex : ∃ (f : Addr) (fd : FuncData), FnOk P w K mg base (L2N.CX P w) k f fd ps (spO K xc j F) ∧ mg x = some (.ref f) ∧ PySem.W.keepIn K (.ref f) = true ∧ Binds K fd ps []
structure RdyM (P : Program) (w : World) (K : PySem.W.Frag) (mg : Str → Option Value) (base : Heap) (xc : Nat → Value) (k : Nat) (m : Str) (ps : List Str) (F : OV → List D → RO) : Prop where
  ex : ∃ (f : Addr) (fd : FuncData), FnOk P w K mg base (L2N.CX P w) k f fd ps (spO K xc 0 F) ∧ Meth K (theC K) m f ∧ Binds K fd ps []
def coK (i : Nat) (p : Option Nat) (ρ : DEnv) : RO → RX D
  | .ok d o => .ok d (st ρ i (some (.obj p o)))
  | .exc c o => .exc c (st ρ i (some (.obj p o)))
  | _ => .bad
section
variable {X : Cx} {W : WD} {pos : Pos}
theorem EnvOk.objAt {Hs0 : Hp} {H0 : Hp0} {Hs H : Hp} {ρ : DEnv} {σ : L2.St} {i : Nat} {p : Option Nat} {o : OV} (e : EnvOk X.K Hs0 H0 ρ σ Hs H) (hr : ρ[i]? = some (some (.obj p o))) : ∃ a, σ[i]? = some (some (V.ref a)) ∧ H0 a = none ∧ ObjAt X.K Hs H a o := by
  obtain ⟨a, ho, h1, h2, h3, h4, h5⟩ := e.ow i _ rfl hr
  exact ⟨a, h1, h3, h2, ho, h4, ownR_p h5⟩
theorem ObjAt.step {Hs H Hs' H' : Hp} {a : Addr} {o : OV} (s : Step Hs H Hs' H') (h : ObjAt X.K Hs H a o) : ObjAt X.K Hs' H' a o := by
  obtain ⟨h1, ho, h2, h3⟩ := h
  exact ⟨s.away _ _ h2 h1, ho, s.wh _ _ h2, h3.ex s.sh⟩
theorem spO_use {xc : Nat → Value} {W' : WX} {F : OV → List D → RO} {i j : Nat} {p : Option Nat} {o : OV} {a : Addr} {us1 us2 : List V} {ds1 ds2 : List D} {ρ : DEnv} {σ : L2.St} {Hs0 Hs H : Hp} {H0 : Hp0} {Q : VK} (e : EnvOk X.K Hs0 H0 ρ σ Hs H) (hr : ρ[i]? = some (some (.obj p o))) (hs : σ[i]? = some (some (.ref a)))
    (hj : ds1.length = j) (r1 : RpAll X.K Hs us1 ds1) (r2 : RpAll X.K Hs us2 ds2) (hW : ∀ c σ H, W c σ H → W' (xc c) none σ H)
    (h : PostX X.K W Hs0 H0 σ Hs (fun d Hs' H' => ∀ v, Rp X.K Hs' v d → Q v H') (coK i p ρ (F o (ds1 ++ ds2)))) : spO X.K xc j F (us1 ++ V.ref a :: us2) H Q (WE W' σ) := by
  obtain ⟨a', h1, _, at'⟩ := e.objAt hr
  rw [hs] at h1
  cases h1
  refine ⟨Hs, us1, us2, ds1, ds2, a, o, rfl, hj, r1, r2, e.sub, at', ?_⟩
  cases hF : F o (ds1 ++ ds2) with
  | ok d o' =>
    rw [hF] at h
    intro v Hs' H' s at2 rv
    exact h Hs' H' s.sh (by rw [st_eq]; exact e.objStep hr hs s at2) v rv
  | exc c o' =>
    rw [hF] at h
    intro Hs' H' s at2
    exact hW c σ H' (h Hs' H' s.sh (by rw [st_eq]; exact e.objStep hr hs s at2))
  | new _ _ => rw [hF] at h; exact h.elim
  | bad => rw [hF] at h; exact h.elim
/-- f(x, ..), x an object -/
def xCO (i : Nat) (F : OV → List D → RO) (fs : DEnv → Res (List D)) : DEnv → RX D := fun ρ => match lk ρ i with
  | some (.obj p o) => (RX.of (fs ρ) ρ).bind fun ds ρ => coK i p ρ (F o ds)
  | _ => .bad
theorem dx_callO0 {xc : Nat → Value} (i : Nat) {x y : Str} {es : List Expr} {p1 p2 : Pos} {k m : Nat} {ps : List Str} {F : OV → List D → RO} {fs : DEnv → Res (List D)} (tk : Tk X xc W) (R : RdyO X.prog X.w X.K X.mg X.base xc k x ps 0 F) (hr : Room m X.A) (ha : DA X W false es fs)
    (hk : k ≤ m := by decide) (hg : Gl X x := by rfl) (hdb : (x == ("__debug__" : Str)) = false := by decide) (hN : X.N[i]? = some y := by rfl) (hv : Vis X.env.scope y := by first | exact Or.inl rfl | exact Or.inr (Or.inl rfl) | exact Or.inr (Or.inr rfl)) (hd : (y == ("__debug__" : Str)) = false := by decide)
    (hcd : (y == ("__classdict__" : Str)) = false := by decide) (he : starEach (.Name y p2 :: es) X.env = (false, eval (.Name y p2) X.env) :: starEach es X.env := by rfl) (hpl : (backTo pos (starEach es X.env)).any (·.1) = false := by rfl) :
    DX X W (.Call (.Name x p1) (.Name y p2 :: es) [] pos) (xCO i F fs) := by
  obtain ⟨f, fd, G, gm, kp, hb⟩ := R.ex
  obtain ⟨t, pt, q⟩ := ha.ex
  obtain ⟨W', tk', hW⟩ := tk
  refine ⟨_, pe_callS (E := WE W') G (hr.mono hk) hg gm kp hb (fun σ => L2N.passAt tk' σ) (pa_cons (pe_var (i := i) hN hv hd hcd) pt he) hdb he hpl, fun Hs0 H0 ρ σ Hs H Q e h => ?_⟩
  unfold xCO at h
  split at h
  · rename_i p o hro
    obtain ⟨a, h1, _, _⟩ := e.objAt (lk_some hro)
    refine ⟨_, h1, q _ _ ρ σ Hs H _ e ?_⟩
    have hb2 := h.bind
    cases hf : fs ρ with
    | bad => rw [hf] at hb2; exact hb2.elim
    | exc c =>
      rw [hf] at hb2
      exact fun Hs' H' s => hb2 Hs' H' s.sh (e.step s)
    | ok ds =>
      rw [hf] at h
      intro Hs1 H1 s1 vs rv
      exact spO_use (us1 := []) (ds1 := []) (e.step s1) (lk_some hro) h1 rfl .nil rv.rp hW (PostX.ex s1.sh h)
  · exact h.elim
/-- f(e, x), x an object -/
theorem dx_callO1 {xc : Nat → Value} (i : Nat) {x y : Str} {e1 : Expr} {p1 p2 : Pos} {k m : Nat} {ps : List Str} {F : OV → List D → RO} {f1 : DEnv → Res D} (tk : Tk X xc W) (R : RdyO X.prog X.w X.K X.mg X.base xc k x ps 1 F) (hr : Room m X.A) (ha : DE X W false e1 f1)
    (hk : k ≤ m := by decide) (hg : Gl X x := by rfl) (hdb : (x == ("__debug__" : Str)) = false := by decide) (hN : X.N[i]? = some y := by rfl) (hv : Vis X.env.scope y := by first | exact Or.inl rfl | exact Or.inr (Or.inl rfl) | exact Or.inr (Or.inr rfl)) (hd : (y == ("__debug__" : Str)) = false := by decide)
    (hcd : (y == ("__classdict__" : Str)) = false := by decide) (he : starEach [e1, .Name y p2] X.env = (false, eval e1 X.env) :: starEach [.Name y p2] X.env := by rfl) (he2 : starEach [.Name y p2] X.env = (false, eval (.Name y p2) X.env) :: starEach [] X.env := by rfl) (hpl : (backTo pos (starEach [.Name y p2] X.env)).any (·.1) = false := by rfl) :
    DX X W (.Call (.Name x p1) [e1, .Name y p2] [] pos) (xCO i F (xCons f1 xNil)) := by
  obtain ⟨f, fd, G, gm, kp, hb⟩ := R.ex
  obtain ⟨t, pt, q⟩ := ha.ex
  obtain ⟨W', tk', hW⟩ := tk
  refine ⟨_, pe_callS (E := WE W') G (hr.mono hk) hg gm kp hb (fun σ => L2N.passAt tk' σ) (pa_cons pt (pa_cons (pe_var (i := i) hN hv hd hcd) pa_nil he2) he) hdb he hpl, fun Hs0 H0 ρ σ Hs H Q e h => ?_⟩
  unfold xCO at h
  split at h
  · rename_i p o hro
    obtain ⟨a, h1, _, _⟩ := e.objAt (lk_some hro)
    refine q _ _ ρ σ Hs H _ e ?_
    unfold xCons xNil at h
    cases hf : f1 ρ with
    | bad => rw [hf] at h; exact h.elim
    | exc c =>
      rw [hf] at h
      exact fun Hs' H' s => h Hs' H' s.sh (e.step s)
    | ok d =>
      rw [hf] at h
      intro Hs1 H1 s1 v rv
      refine ⟨_, h1, ?_⟩
      exact spO_use (us1 := [v]) (ds1 := [d]) (us2 := []) (ds2 := []) (e.step s1) (lk_some hro) h1 rfl (.cons rv.rp .nil) .nil hW (PostX.ex s1.sh h)
  · exact h.elim
/-! ### methods -/
def tMS (C : Addr) (m : Str) (sp : Sp) (E : L2.St → XK) (ta : TE) (t : TA) : TE := fun σ H Q => ta σ H fun x H1 => ∃ a dx fs, x = .ref a ∧ H1 a = some (.ins C dx fs) ∧ fs.lookup m = none ∧ t σ H1 fun vs H2 => sp (x :: vs) H2 Q (E σ)
theorem pe_mS {CX : CXT} {k : Nat} {f C : Addr} {fd : FuncData} {ps : List Str} {sp : Sp} {E : L2.St → XK} {m : Str} {apos : Pos} {e o : Expr} {es : List Expr} {ta : TE} {t : TA} {pl : Sem Bool} (he : PE X o ta) (c : Cls X.K C) (hm : Meth X.K C m f)
    (F : FnOk X.prog X.w X.K X.mg X.base CX k f fd ps sp) (hr : Room k X.A) (hb : Binds X.K fd ps []) (hx : ∀ σ, PassesAt CX X σ (E σ)) (ha : PA X (e :: es) t) (hst : starEach (e :: es) X.env = (false, eval e X.env) :: starEach es X.env)
    (hpl : (backTo pos (starEach es X.env)).any (·.1) = false)
    (ht : eval (.Call (.Attribute o m apos) (e :: es) [] pos) X.env = (do let ov ← eval o X.env; standAt apos.atName; let (f, first) ← holding [ov] (getMethod ov m pl); callWith pos f first (backTo pos (starEach (e :: es) X.env)) (backToKw pos (keywordEach [] X.env)))) :
    PE X (.Call (.Attribute o m apos) (e :: es) [] pos) (tMS C m sp E ta t) := by
  refine ⟨fun pins s σ H Q I q0 => PySem.W.methodCall_KW (pl := pl) (thn (he.run pins s σ H _ I q0) fun u s1 ⟨x, H1, I1, rx, a, dx, fs, ex, ea, l, q⟩ => ?_) ht⟩
  subst ex
  cases (show u = Value.ref a from rx)
  refine getmeth_ok I1 ea c hm l (PySem.W.callWith_K (first := [.ref a]) (h₀ := X.base) I.ok.mod.kin hm.kp (thn (ha.run pos pins s1 σ H1 _ I1 q) fun us s2 ⟨vs, H2, I2, r, q2⟩ => ⟨I2.kIn, ?_⟩) hst hpl)
  exact run_fnS (us := .ref a :: us) (vs := .ref a :: vs) F hr hb (hx σ) I2 (.cons rfl r) q2
theorem pe_mS0 {CX : CXT} {k : Nat} {f C : Addr} {fd : FuncData} {ps : List Str} {sp : Sp} {E : L2.St → XK} {m : Str} {apos : Pos} {o : Expr} {ta : TE} {pl : Sem Bool} (he : PE X o ta) (c : Cls X.K C) (hm : Meth X.K C m f)
    (F : FnOk X.prog X.w X.K X.mg X.base CX k f fd ps sp) (hr : Room k X.A) (hb : Binds X.K fd ps []) (hx : ∀ σ, PassesAt CX X σ (E σ))
    (ht : eval (.Call (.Attribute o m apos) [] [] pos) X.env = (do let ov ← eval o X.env; standAt apos.atName; let (f, first) ← holding [ov] (getMethod ov m pl); callWith pos f first (backTo pos (starEach [] X.env)) (backToKw pos (keywordEach [] X.env)))) :
    PE X (.Call (.Attribute o m apos) [] [] pos) (tMS C m sp E ta tNil) := by
  refine ⟨fun pins s σ H Q I q0 => PySem.W.methodCall_KW (pl := pl) (thn (he.run pins s σ H _ I q0) fun u s1 ⟨x, H1, I1, rx, a, dx, fs, ex, ea, l, q⟩ => ?_) ht⟩
  subst ex
  cases (show u = Value.ref a from rx)
  exact getmeth_ok I1 ea c hm l (PySem.W.callWith_K0 (first := [.ref a]) I1.kIn hm.kp (run_fnS (us := [.ref a]) (vs := [.ref a]) F hr hb (hx σ) I1 (.cons rfl .nil) q))
theorem ObjAt.ins_ {Hs H : Hp} {a : Addr} {o : OV} (h : ObjAt X.K Hs H a o) {ds : List D} (ho : o = .ins ds) : ∃ dx vs, H a = some (.ins (theC X.K) dx (fldN.zip vs)) := by
  subst ho
  obtain ⟨h1, u, h2, h3⟩ := h
  cases u with
  | ins C dx gs =>
    obtain ⟨rfl, vs, _, rfl, _⟩ := h3
    exact ⟨dx, vs, h2⟩
  | _ => exact h3.elim
/-- x.m(..), x an object -/
def xMO (i : Nat) (F : OV → List D → RO) (fs : DEnv → Res (List D)) : DEnv → RX D := fun ρ => match lk ρ i with
  | some (.obj p (.ins xs)) => (RX.of (fs ρ) ρ).bind fun ds ρ => coK i p ρ (F (.ins xs) ds)
  | _ => .bad
theorem dx_meth {xc : Nat → Value} (i : Nat) {y m : Str} {e : Expr} {es : List Expr} {p1 apos : Pos} {k n : Nat} {ps : List Str} {F : OV → List D → RO} {fs : DEnv → Res (List D)} {pl : Sem Bool} (tk : Tk X xc W) (c : Cls X.K (theC X.K)) (R : RdyM X.prog X.w X.K X.mg X.base xc k m ps F) (hr : Room n X.A) (ha : DA X W false (e :: es) fs)
    (hk : k ≤ n := by decide) (hmn : fldN.contains m = false := by decide) (hN : X.N[i]? = some y := by rfl) (hv : Vis X.env.scope y := by first | exact Or.inl rfl | exact Or.inr (Or.inl rfl) | exact Or.inr (Or.inr rfl)) (hd : (y == ("__debug__" : Str)) = false := by decide)
    (hcd : (y == ("__classdict__" : Str)) = false := by decide) (he : starEach (e :: es) X.env = (false, eval e X.env) :: starEach es X.env := by rfl) (hpl : (backTo pos (starEach es X.env)).any (·.1) = false := by rfl)
    (ht : eval (.Call (.Attribute (.Name y p1) m apos) (e :: es) [] pos) X.env = (do let ov ← eval (.Name y p1) X.env; standAt apos.atName; let (f, first) ← holding [ov] (getMethod ov m pl); callWith pos f first (backTo pos (starEach (e :: es) X.env)) (backToKw pos (keywordEach [] X.env))) := by rfl) :
    DX X W (.Call (.Attribute (.Name y p1) m apos) (e :: es) [] pos) (xMO i F fs) := by
  obtain ⟨f, fd, G, hm, hb⟩ := R.ex
  obtain ⟨t, pt, q⟩ := ha.ex
  obtain ⟨W', tk', hW⟩ := tk
  refine ⟨_, pe_mS (E := WE W') (pe_var (i := i) hN hv hd hcd) c hm G (hr.mono hk) hb (fun σ => L2N.passAt tk' σ) pt he hpl ht, fun Hs0 H0 ρ σ Hs H Q e h => ?_⟩
  unfold xMO at h
  split at h
  · rename_i p xs hro
    obtain ⟨a, h1, _, at'⟩ := e.objAt (lk_some hro)
    obtain ⟨dx, vs, hh⟩ := at'.ins_ rfl
    refine ⟨_, h1, a, dx, _, rfl, hh, fld_none hmn vs, q _ _ ρ σ Hs H _ e ?_⟩
    have hb2 := h.bind
    cases hf : fs ρ with
    | bad => rw [hf] at hb2; exact hb2.elim
    | exc c =>
      rw [hf] at hb2
      exact fun Hs' H' s => hb2 Hs' H' s.sh (e.step s)
    | ok ds =>
      rw [hf] at h
      intro Hs1 H1 s1 vs rv
      exact spO_use (us1 := []) (ds1 := []) (e.step s1) (lk_some hro) h1 rfl .nil rv.rp hW (PostX.ex s1.sh h)
  · exact h.elim
/-- x.m() -/
theorem dx_meth0 {xc : Nat → Value} (i : Nat) {y m : Str} {p1 apos : Pos} {k n : Nat} {ps : List Str} {F : OV → List D → RO} {pl : Sem Bool} (tk : Tk X xc W) (c : Cls X.K (theC X.K)) (R : RdyM X.prog X.w X.K X.mg X.base xc k m ps F) (hr : Room n X.A)
    (hk : k ≤ n := by decide) (hmn : fldN.contains m = false := by decide) (hN : X.N[i]? = some y := by rfl) (hv : Vis X.env.scope y := by first | exact Or.inl rfl | exact Or.inr (Or.inl rfl) | exact Or.inr (Or.inr rfl)) (hd : (y == ("__debug__" : Str)) = false := by decide)
    (hcd : (y == ("__classdict__" : Str)) = false := by decide)
    (ht : eval (.Call (.Attribute (.Name y p1) m apos) [] [] pos) X.env = (do let ov ← eval (.Name y p1) X.env; standAt apos.atName; let (f, first) ← holding [ov] (getMethod ov m pl); callWith pos f first (backTo pos (starEach [] X.env)) (backToKw pos (keywordEach [] X.env))) := by rfl) :
    DX X W (.Call (.Attribute (.Name y p1) m apos) [] [] pos) (xMO i F xNil) := by
  obtain ⟨f, fd, G, hm, hb⟩ := R.ex
  obtain ⟨W', tk', hW⟩ := tk
  refine ⟨_, pe_mS0 (E := WE W') (pe_var (i := i) hN hv hd hcd) c hm G (hr.mono hk) hb (fun σ => L2N.passAt tk' σ) ht, fun Hs0 H0 ρ σ Hs H Q e h => ?_⟩
  unfold xMO at h
  split at h
  · rename_i p xs hro
    obtain ⟨a, h1, _, at'⟩ := e.objAt (lk_some hro)
    obtain ⟨dx, vs, hh⟩ := at'.ins_ rfl
    refine ⟨_, h1, a, dx, _, rfl, hh, fld_none hmn vs, ?_⟩
    exact spO_use (us1 := []) (ds1 := []) (us2 := []) (ds2 := []) e (lk_some hro) h1 rfl .nil .nil hW h
  · exact h.elim
/-! ### new objects -/
/-- what comes of C() -/
def initOf (F : OV → List D → RO) : Option OV := match F (.ins []) [] with
  | .ok .none o => some o
  | _ => none
def sNewObj (i : Nat) (F : OV → List D → RO) : DEnv → Out := fun ρ => match initOf F with
  | some o => if Nat.blt i ρ.length = true then .next (st ρ i (some (.obj none o))) else .bad
  | none => .bad
theorem no_pass : Passes (L2N.CX X.prog X.w) X fun _ _ _ => False := fun pins σ H s e s' _ h => by
  obtain ⟨_, _, _, _, _, _, _, _, _, _, _, _, z⟩ := h
  exact z.elim
structure RdyI (P : Program) (w : World) (K : PySem.W.Frag) (mg : Str → Option Value) (base : Heap) (xc : Nat → Value) (k : Nat) (x : Str) (ps : List Str) (F : OV → List D → RO) : Prop where
  ex : ∃ (f : Addr) (fd : FuncData), FnOk P w K mg base (L2N.CX P w) k f fd ps (spO K xc 0 F) ∧ Mk K (theC K) f ∧ mg x = some (.ref (theC K)) ∧ Binds K fd ps []
theorem ds_newObj {xc : Nat → Value} (i : Nat) {x C : Str} {p1 pos' pos2 : Pos} {k n : Nat} {ps : List Str} {F : OV → List D → RO} (hN : X.N.Nodup) (R : RdyI X.prog X.w X.K X.mg X.base xc k C ps F) (hr : Room n X.A) (hk : k + 1 ≤ n := by decide) (hg : Gl X C := by rfl) (hdb : (C == ("__debug__" : Str)) = false := by decide)
    (hi : X.N[i]? = some x := by rfl) (hx : Loc X.env.scope x := by first | exact Or.inl rfl | exact Or.inr rfl)
    (hs : swapsWith (.Call (.Name C p1) [] [] pos2) (some (.Name x pos')) pos.line X.env = pure false := by rfl) (hf : X.fn x = true ∨ X.env.scope.names.lookup x = some .local := by first | exact .inl rfl | exact .inr rfl | assumption) : DS X W (.Assign [.Name x pos'] (.Call (.Name C p1) [] [] pos2) pos) (sNewObj i F) := by
  obtain ⟨f, fd, G, M, gm, hb⟩ := R.ex
  refine ⟨_, ps_set hN hi hx (pe_make0 M G (hr.mono hk) hg gm hb .nil no_pass hdb) hs hf, fun Hs0 H0 ρ σ Hs H E e h => ?_⟩
  unfold sNewObj at h
  intro y dx hy hdx hne
  split at h
  · rename_i o ho
    refine postS_mk h fun hlt h => ?_
    have hlt : i < ρ.length := by simpa [Nat.blt_eq] using hlt
    have s1 := step_aside (o := .own y) e.sub hdx
    have hy1 : upd H dx (.own y) y = none := by rw [upd_ne (fun z => hne z.symm)]; exact hy
    have e1 := (e.step s1).setObj (i := i) (a := y) (x := .obj none (.ins [])) (o := .ins (theC X.K) dx []) rfl hy1 ⟨rfl, [], by simp, rfl, .nil⟩
    have hr1 : (ρ.set i (some (.obj none (.ins []))))[i]? = some (some (.obj none (.ins []))) := List.getElem?_set_self hlt
    have hs1 : (σ.set i (some (.ref y)))[i]? = some (some (.ref y)) := List.getElem?_set_self (by rw [← e.len]; exact hlt)
    obtain ⟨y', g1, _, at'⟩ := e1.objAt hr1
    rw [hs1] at g1
    cases g1
    refine ⟨Hs, [], [], [], [], y, .ins [], rfl, rfl, .nil, .nil, e1.sub, at', ?_⟩
    unfold initOf at ho
    split at ho
    · rename_i o' hF
      cases ho
      rw [show (([] : List D) ++ []) = [] from rfl, hF]
      intro v Hs' H' s at2 rv
      cases rv
      refine ⟨rfl, ?_⟩
      have e2 := e1.objStep hr1 hs1 s at2
      rw [List.set_set] at e2
      rw [st_eq] at h
      exact h _ Hs' H' s.sh e2
    · cases ho
  · exact h.elim
/-- the new object handed back -/
def sRetN (i : Nat) : DEnv → Out := fun ρ => match lk ρ i with
  | some (.obj none _) => .retN i ρ
  | _ => .bad
theorem ds_retN (i : Nat) {x : Str} {pos' : Pos} (hN : X.N[i]? = some x := by rfl) (hv : Vis X.env.scope x := by first | exact Or.inl rfl | exact Or.inr (Or.inl rfl) | exact Or.inr (Or.inr rfl)) (hd : (x == ("__debug__" : Str)) = false := by decide)
    (hcd : (x == ("__classdict__" : Str)) = false := by decide) : DS X W (.Return (some (.Name x pos')) pos) (sRetN i) := by
  refine ⟨tRet (tVar i), ps_ret (pe_var hN hv hd hcd), fun Hs0 H0 ρ σ Hs H E e h => ?_⟩
  unfold sRetN at h
  split at h
  · rename_i o hro
    obtain ⟨a, h1, _, _⟩ := e.objAt (lk_some hro)
    exact ⟨_, h1, h _ σ Hs H (Ex.refl _) e h1⟩
  · exact h.elim
/-- an object new since the call becomes a variable's -/
theorem EnvOk.gain {Hs0 : Hp} {H0 : Hp0} {Hs H : Hp} {ρ : DEnv} {σ : L2.St} {i : Nat} {b : Addr} {q : OV} (e : EnvOk X.K Hs0 H0 ρ σ Hs H) (at' : ObjAt X.K Hs H b q) (ob : H0 b = none) (other : ∀ {j : Nat} {y : LV} {c : Addr}, isOwn y = true → ρ[j]? = some (some y) → σ[j]? = some (some (V.ref c)) → c ≠ b)
    (otherG : ∀ {j : Nat} {rows : List (List Int)} {c : Addr} {as : List Addr}, ρ[j]? = some (some (LV.grid rows)) → σ[j]? = some (some (V.ref c)) → GrAt Hs H0 H c as rows → b ∉ c :: as) : EnvOk X.K Hs0 H0 (ρ.set i (some (.obj none q))) (σ.set i (some (.ref b))) Hs H := by
  obtain ⟨nb, ho, h1, h2⟩ := at'
  have := e.adopt (i := i) (x := .obj none q) (o := ho) rfl nb ob other otherG h2 (fun u hu => by rw [h1] at hu; cases hu; exact h2.soft)
  have hu : upd H b ho = H := by
    funext c
    by_cases hc : c = b
    · subst hc; rw [upd_same, h1]
    · rw [upd_ne hc]
  rwa [hu] at this
/-- y = x.m(), the method hands back a new object -/
def sNewM (i k : Nat) (F : OV → List D → RO) : DEnv → Out := fun ρ => match lk ρ k with
  | some (.obj p (.ins xs)) => (match F (.ins xs) [] with
    | .new q o => .next (st (st ρ k (some (.obj p o))) i (some (.obj none q)))
    | _ => .bad)
  | _ => .bad
theorem ds_newM {xc : Nat → Value} (i k : Nat) {x y m : Str} {p1 apos pos' pos2 : Pos} {j n : Nat} {ps : List Str} {F : OV → List D → RO} {pl : Sem Bool} (hN : X.N.Nodup) (tk : Tk X xc W) (c : Cls X.K (theC X.K)) (R : RdyM X.prog X.w X.K X.mg X.base xc j m ps F) (hr : Room n X.A)
    (hk : j ≤ n := by decide) (hmn : fldN.contains m = false := by decide) (hNy : X.N[k]? = some y := by rfl) (hv : Vis X.env.scope y := by first | exact Or.inl rfl | exact Or.inr (Or.inl rfl) | exact Or.inr (Or.inr rfl)) (hd : (y == ("__debug__" : Str)) = false := by decide)
    (hcd : (y == ("__classdict__" : Str)) = false := by decide) (hi : X.N[i]? = some x := by rfl) (hx : Loc X.env.scope x := by first | exact Or.inl rfl | exact Or.inr rfl)
    (hs : swapsWith (.Call (.Attribute (.Name y p1) m apos) [] [] pos2) (some (.Name x pos')) pos.line X.env = pure false := by rfl) (hf : X.fn x = true ∨ X.env.scope.names.lookup x = some .local := by first | exact .inl rfl | exact .inr rfl | assumption)
    (ht : eval (.Call (.Attribute (.Name y p1) m apos) [] [] pos2) X.env = (do let ov ← eval (.Name y p1) X.env; standAt apos.atName; let (f, first) ← holding [ov] (getMethod ov m pl); callWith pos2 f first (backTo pos2 (starEach [] X.env)) (backToKw pos2 (keywordEach [] X.env))) := by rfl) :
    DS X W (.Assign [.Name x pos'] (.Call (.Attribute (.Name y p1) m apos) [] [] pos2) pos) (sNewM i k F) := by
  obtain ⟨f, fd, G, hm, hb⟩ := R.ex
  obtain ⟨W', tk', hW⟩ := tk
  refine ⟨_, ps_set hN hi hx (pe_mS0 (E := WE W') (pe_var (i := k) hNy hv hd hcd) c hm G (hr.mono hk) hb (fun σ => L2N.passAt tk' σ) ht) hs hf, fun Hs0 H0 ρ σ Hs H E e h => ?_⟩
  unfold sNewM at h
  split at h
  · rename_i p xs hro
    obtain ⟨a, h1, oa, at'⟩ := e.objAt (lk_some hro)
    obtain ⟨dx, vs, hh⟩ := at'.ins_ rfl
    refine ⟨_, h1, a, dx, _, rfl, hh, fld_none hmn vs, Hs, [], [], [], [], a, .ins xs, rfl, rfl, .nil, .nil, e.sub, at', ?_⟩
    split at h
    · rename_i q o hF
      rw [show (([] : List D) ++ []) = [] from rfl, hF]
      intro b Hs' H' s at2 atb hba hb0
      have e2 := e.objStep (lk_some hro) h1 s at2
      rw [st_eq, st_eq] at h
      have back : ∀ {j : Nat} {z : LV}, isOwn z = true → (ρ.set k (some (.obj p o)))[j]? = some (some z) → ∃ z', isOwn z' = true ∧ ρ[j]? = some (some z') := fun {j z} hz q => by
        rcases set_back q with ⟨rfl, _, _⟩ | ⟨_, q⟩
        · exact ⟨_, rfl, lk_some hro⟩
        · exact ⟨z, hz, q⟩
      refine h _ Hs' H' s.sh (e2.gain atb (sub_none e.wh0 hb0) (fun {j y c} hy q r => ?_) fun {j rows c as} q r g hbm => ?_)
      · obtain ⟨y', hy', q'⟩ := back hy q
        obtain ⟨c', u, k1, k2, k3, k4, k5⟩ := e.ow j y' hy' q'
        rw [r] at k1
        cases k1
        exact ne_of_none k4 hb0
      · rcases set_back q with ⟨_, _, z⟩ | ⟨_, q⟩
        · cases z
        obtain ⟨c', as', g1, g2, g3⟩ := e.gr j rows q
        rw [r] at g1
        cases g1
        have e1 : H' c = some (.lst (as'.map V.ref)) := del_ex _ _ (s.wh _ _ (by rw [del_ne (fun z => g3 _ _ a rfl (lk_some hro) h1 (by rw [z]; exact List.mem_cons_self))]; exact g2.out))
        rw [g.out] at e1
        have e3 : as = as' := refs_inj (by injection Option.some.inj e1)
        subst e3
        obtain ⟨u, hu⟩ := g2.has b hbm
        rw [hb0] at hu
        cases hu
    · exact h.elim
  · exact h.elim
end
end SB
end
end

section
set_option Elab.async false
set_option linter.all false
set_option maxRecDepth 100000
set_option maxHeartbeats 2000000
noncomputable section
namespace SB
open PySem PySem.Spec L2 Evl PyProof.Rows
/-! ### an object that no name holds stands meanwhile -/
def Hp0.add (H0 : Hp0) (b : Addr) (o : HO) : Hp0 := ⟨upd H0.hp b o, H0.vs, H0.iv, H0.st⟩
def apart (ρ : DEnv) (σ : L2.St) (Hs : Hp) (H0 : Hp) (H : Hp) (b : Addr) : Prop := (∀ (j : Nat) (y : LV) (c : Addr), isOwn y = true → ρ[j]? = some (some y) → σ[j]? = some (some (V.ref c)) → c ≠ b) ∧
  ∀ (j : Nat) (rows : List (List Int)) (c : Addr) (as : List Addr), ρ[j]? = some (some (LV.grid rows)) → σ[j]? = some (some (V.ref c)) → GrAt Hs H0 H c as rows → b ∉ c :: as
section
variable {K : PySem.W.Frag} {Hs0 Hs H : Hp} {H0 : Hp0} {ρ : DEnv} {σ : L2.St} {b : Addr} {o : HO}
theorem EnvOk.guard (e : EnvOk K Hs0 H0 ρ σ Hs H) (h : H b = some o) (n : Hs b = none) (sf : soft o = true) (ap : apart ρ σ Hs H0 H b) : EnvOk K Hs0 (H0.add b o) ρ σ Hs H := by
  refine ⟨e.len, e.iv, fun i q => ⟨(e.tb i q).1, fun p hp => ⟨((e.tb i q).2 p hp).1, (by
    have hne : p.1 ≠ b := fun z => by
      obtain ⟨ps, h1⟩ := tabs_at (e.tb i q).1 hp
      rw [z, h] at h1
      cases h1
      cases sf
    rw [show (H0.add b o).hp p.1 = H0.hp p.1 from upd_ne hne]
    exact ((e.tb i q).2 p hp).2)⟩⟩, e.pa, e.sub, e.sh0, fun c u q => ?_, fun c u q z => ?_, e.dat, e.nd, fun i x hx q => ?_, e.inj, fun i rows q => ?_⟩
  · by_cases hc : c = b
    · subst hc
      rw [show (H0.add c o).hp c = some o from upd_same] at q
      cases q
      exact h
    · exact e.wh0 c u (by rw [show (H0.add b o).hp c = H0.hp c from upd_ne hc] at q; exact q)
  · by_cases hc : c = b
    · subst hc; exact n
    · exact e.aw0 c u (by rw [show (H0.add b o).hp c = H0.hp c from upd_ne hc] at q; exact q) z
  · obtain ⟨a, u, h1, h2, h3, h4, h5⟩ := e.ow i x hx q
    have : a ≠ b := ap.1 i x a hx q h1
    exact ⟨a, u, h1, h2, by rw [show (H0.add b o).hp a = H0.hp a from upd_ne this]; exact h3, h4, h5⟩
  · obtain ⟨a, as, h1, h2, h3⟩ := e.gr i rows q
    have hn := ap.2 i rows a as q h1 h2
    exact ⟨a, as, h1, ⟨h2.nd, fun c hc => ⟨(h2.new c hc).1, by rw [show (H0.add b o).hp c = H0.hp c from upd_ne (fun z => hn (z ▸ hc))]; exact (h2.new c hc).2⟩, h2.out, h2.ins⟩, h3⟩
theorem EnvOk.held (e : EnvOk K Hs0 (H0.add b o) ρ σ Hs H) : H b = some o := e.wh0 b o upd_same
theorem EnvOk.heldS (e : EnvOk K Hs0 (H0.add b o) ρ σ Hs H) (n : Hs0 b = none) : Hs b = none := e.aw0 b o upd_same n
theorem EnvOk.heldA (e : EnvOk K Hs0 (H0.add b o) ρ σ Hs H) : ∀ (j : Nat) (y : LV) (c : Addr), isOwn y = true → ρ[j]? = some (some y) → σ[j]? = some (some (V.ref c)) → c ≠ b := fun j y c hy q r z => by
  obtain ⟨a, u, h1, h2, h3, h4, h5⟩ := e.ow j y hy q
  rw [r] at h1
  cases h1
  subst z
  rw [show (H0.add c o).hp c = some o from upd_same] at h3
  cases h3
/-- .. changed -/
theorem EnvOk.reguard {o' : HO} (e : EnvOk K Hs0 (H0.add b o) ρ σ Hs H) (n : Hs0 b = none) (sf : soft o = true) : EnvOk K Hs0 (H0.add b o') ρ σ Hs (upd H b o') := by
  have hb := e.held
  have sb := e.heldS n
  refine ⟨e.len, Hp0.mut (H0 := H0) (fun u q => by rw [hb] at q; cases q; exact sf) e.iv, fun i q => ⟨((e.tb i q).mut (o := o') fun u hu => by rw [hb] at hu; cases hu; exact sf).1, fun p hp => ⟨((e.tb i q).2 p hp).1, (by
    have h0 := ((e.tb i q).2 p hp).2
    have hne : p.1 ≠ b := fun z => by
      rw [z, show (H0.add b o).hp b = some o from upd_same] at h0
      cases h0
    rw [show (H0.add b o).hp p.1 = H0.hp p.1 from upd_ne hne] at h0
    rw [show (H0.add b o').hp p.1 = H0.hp p.1 from upd_ne hne]
    exact h0)⟩⟩, e.pa, Ex.mut e.sub sb, e.sh0, fun c u q => ?_, fun c u q z => ?_, e.dat, e.nd, fun i x hx q => ?_, e.inj, fun i rows q => ?_⟩
  · by_cases hc : c = b
    · subst hc
      rw [show (H0.add c o').hp c = some o' from upd_same] at q
      rw [upd_same]
      exact q
    · rw [upd_ne hc]
      exact e.wh0 c u (by rw [show (H0.add b o').hp c = H0.hp c from upd_ne hc] at q; rw [show (H0.add b o).hp c = H0.hp c from upd_ne hc]; exact q)
  · by_cases hc : c = b
    · subst hc; exact sb
    · exact e.aw0 c u (by rw [show (H0.add b o').hp c = H0.hp c from upd_ne hc] at q; rw [show (H0.add b o).hp c = H0.hp c from upd_ne hc]; exact q) z
  · obtain ⟨a, u, h1, h2, h3, h4, h5⟩ := e.ow i x hx q
    have : a ≠ b := e.heldA i x a hx q h1
    exact ⟨a, u, h1, h2, by rw [show (H0.add b o').hp a = H0.hp a from upd_ne this]; rw [show (H0.add b o).hp a = H0.hp a from upd_ne this] at h3; exact h3, by rw [upd_ne this]; exact h4, h5⟩
  · obtain ⟨a, as, h1, h2, h3⟩ := e.gr i rows q
    have hn : ∀ c, c ∈ a :: as → c ≠ b := fun c hc z => by
      have := (h2.new c hc).2
      subst z
      rw [show (H0.add c o).hp c = some o from upd_same] at this
      cases this
    refine ⟨a, as, h1, ⟨h2.nd, fun c hc => ⟨(h2.new c hc).1, ?_⟩, by rw [upd_ne (hn a (by simp))]; exact h2.out, h2.ins.mono fun c hc u hu => by rw [upd_ne (hn c (by simp [hc]))]; exact hu⟩, h3⟩
    have := (h2.new c hc).2
    rw [show (H0.add b o).hp c = H0.hp c from upd_ne (hn c hc)] at this
    rw [show (H0.add b o').hp c = H0.hp c from upd_ne (hn c hc)]
    exact this
/-- .. made shared -/
theorem EnvOk.share (e : EnvOk K Hs0 (H0.add b o) ρ σ Hs H) (n : Hs0 b = none) (n0 : H0 b = none) : EnvOk K Hs0 H0 ρ σ (upd Hs b o) H := by
  have hb := e.held
  have sb := e.heldS n
  have up : Ex Hs (upd Hs b o) := Ex.new sb
  refine ⟨e.len, e.iv, fun i q => ⟨(e.tb i q).1, fun p hp => (by
    have h0 := ((e.tb i q).2 p hp).2
    have hne : p.1 ≠ b := fun z => by
      rw [z, show (H0.add b o).hp b = some o from upd_same] at h0
      cases h0
    rw [show (H0.add b o).hp p.1 = H0.hp p.1 from upd_ne hne] at h0
    exact ⟨by rw [upd_ne hne]; exact ((e.tb i q).2 p hp).1, h0⟩)⟩, e.pa, fun c u q => ?_, e.sh0.trans up, fun c u q => ?_, fun c u q z => ?_, fun i d q => ?_, fun i d q => ?_, fun i x hx q => ?_, e.inj, fun i rows q => ?_⟩
  · by_cases hc : c = b
    · subst hc
      rw [upd_same] at q
      cases q
      exact hb
    · rw [upd_ne hc] at q
      exact e.sub c u q
  · have hc : c ≠ b := fun z => by subst z; rw [n0] at q; cases q
    exact e.wh0 c u (by rw [show (H0.add b o).hp c = H0.hp c from upd_ne hc]; exact q)
  · have hc : c ≠ b := fun z => by subst z; rw [n0] at q; cases q
    rw [upd_ne hc]
    exact e.aw0 c u (by rw [show (H0.add b o).hp c = H0.hp c from upd_ne hc]; exact q) z
  · obtain ⟨v, h1, h2⟩ := e.dat i d q
    exact ⟨v, h1, Rp.ex up h2⟩
  · obtain ⟨v, h1, h2⟩ := e.nd i d q
    exact ⟨v, h1, h2.ex up⟩
  · obtain ⟨a, u, h1, h2, h3, h4, h5⟩ := e.ow i x hx q
    have : a ≠ b := e.heldA i x a hx q h1
    exact ⟨a, u, h1, by rw [upd_ne this]; exact h2, by rw [show (H0.add b o).hp a = H0.hp a from upd_ne this] at h3; exact h3, h4, h5.ex up⟩
  · obtain ⟨a, as, h1, h2, h3⟩ := e.gr i rows q
    have hn : ∀ c, c ∈ a :: as → c ≠ b := fun c hc z => by
      have := (h2.new c hc).2
      subst z
      rw [show (H0.add c o).hp c = some o from upd_same] at this
      cases this
    refine ⟨a, as, h1, ⟨h2.nd, fun c hc => ⟨by rw [upd_ne (hn c hc)]; exact (h2.new c hc).1, ?_⟩, h2.out, h2.ins⟩, h3⟩
    have := (h2.new c hc).2
    rw [show (H0.add b o).hp c = H0.hp c from upd_ne (hn c hc)] at this
    exact this
/-- names that nothing is known of may hold anything -/
theorem EnvOk.unwipe {vs : List Nat} (e : EnvOk K Hs0 H0 (SB.kill ρ vs) (L2.wipe σ vs) Hs H) : EnvOk K Hs0 H0 (SB.kill ρ vs) σ Hs H where
  len := by have := e.len; rwa [wipe_length] at this
  iv := e.iv
  tb := e.tb
  pa := fun i k x q r => by
    have h2 := (kill_some q).2
    have := e.pa i k x q r
    rwa [wipe_get h2] at this
  sub := e.sub
  sh0 := e.sh0
  wh0 := e.wh0
  aw0 := e.aw0
  dat := fun i d q => by
    have := e.dat i d q
    rwa [wipe_get (kill_some q).2] at this
  nd := fun i d q => by
    have := e.nd i d q
    rwa [wipe_get (kill_some q).2] at this
  ow := fun i x hx q => by
    have := e.ow i x hx q
    rwa [wipe_get (kill_some q).2] at this
  inj := fun i j x y a hx hy p q r s => e.inj i j x y a hx hy p q (by rw [wipe_get (kill_some p).2]; exact r) (by rw [wipe_get (kill_some q).2]; exact s)
  gr := fun i rows q => by
    obtain ⟨a, as, g1, g2, g3⟩ := e.gr i rows q
    rw [wipe_get (kill_some q).2] at g1
    exact ⟨a, as, g1, g2, fun j y c hy p r => g3 j y c hy p (by rw [wipe_get (kill_some p).2]; exact r)⟩
end
end SB
end
end

section
set_option Elab.async false
set_option linter.all false
set_option maxRecDepth 100000
set_option maxHeartbeats 2000000
noncomputable section
namespace SB
open PySem PySem.Spec L2 Evl PyProof.Rows
/-! ### a comprehension whose element changes objects -/
def lcGoO (g : GD) (fe : DEnv → RX D) (vs : List Nat) : List D → DEnv → RX (List D)
  | [], ρ => .ok [] ρ
  | d :: r, ρ => match g d ρ with
    | none => .bad
    | some ρ1 => match fe ρ1 with
      | .ok y ρ2 => (lcGoO g fe vs r (kill ρ2 vs)).bind fun ys ρ3 => .ok (y :: ys) ρ3
      | _ => .bad
def xLcO (fi : DEnv → Res (List D)) (g : GD) (fe : DEnv → RX D) (vs : List Nat) : DEnv → RX D := fun ρ => (RX.of (fi ρ) ρ).bind fun items ρ => if small items.length = true then (match lcGoO g fe vs items (kill ρ vs) with
  | .ok ys ρ' => .ok (.list ys) ρ'
  | _ => .bad) else .bad
theorem lcGoO_killed {g : GD} {fe : DEnv → RX D} {vs : List Nat} : ∀ {items : List D} {ρ ρ' : DEnv} {ys : List D}, lcGoO g fe vs items (kill ρ vs) = .ok ys ρ' → ∃ ρ'', ρ' = kill ρ'' vs
  | [], ρ, ρ', ys, h => by
    simp only [lcGoO, RX.ok.injEq] at h
    exact ⟨ρ, h.2.symm⟩
  | d :: r, ρ, ρ', ys, h => by
    unfold lcGoO at h
    split at h
    · cases h
    · split at h
      · rename_i y ρ2 _
        cases hl : lcGoO g fe vs r (kill ρ2 vs) with
        | ok zs ρ3 =>
          rw [hl] at h
          simp only [RX.bind_ok, RX.ok.injEq] at h
          obtain ⟨ρ'', e⟩ := lcGoO_killed hl
          exact ⟨ρ'', h.2.symm.trans e⟩
        | exc c ρ3 => rw [hl] at h; cases h
        | bad => rw [hl] at h; cases h
      · cases h
section
variable {X : Cx} {W : WD}
def LcInvO (K : PySem.W.Frag) (Hs0 : Hp) (H0 : Hp0) (g : GD) (fe : DEnv → RX D) (vs : List Nat) (σ : L2.St) (items ys : List D) (ρf : DEnv) (Hs1 : Hp) (Dl : Addr) (i : Nat) (H' : Hp) : Prop :=
  ∃ Hs' ρ' ws acc rest, Ex Hs1 Hs' ∧ EnvOk K Hs0 (H0.add Dl (.lst ws)) ρ' (wipe σ vs) Hs' H' ∧ RpAll K Hs' ws acc ∧ lcGoO g fe vs (items.drop i) ρ' = .ok rest ρf ∧ ys = acc ++ rest ∧ acc.length ≤ i
theorem lcO_read {tg iter : Expr} {wi : TI} {gt : TG} {tt : TT} {te : TE} {fi : DEnv → Res (List D)} {g : GD} {ts vs : List Nat} {fe : DEnv → RX D} {ρ : DEnv} {σ : L2.St} {Hs0 : Hp} {H0 : Hp0} {Hs H : Hp} {Q : VK}
    (qi : ∀ Hs0 H0 ρ σ Hs H R, EnvOk X.K Hs0 H0 ρ σ Hs H → PostA W σ Hs H (fun items Hs1 H1 => ∀ J, Walked X.K false items Hs1 H1 J → R J H1) (fi ρ) → wi σ H R)
    (qg : ∀ Hs0 H0 ρ σ Hs H v d ρ' Q, EnvOk X.K Hs0 H0 ρ σ Hs H → Rp X.K Hs v d → g d ρ = some ρ' → (∀ σ', OutOf ts σ σ' → EnvOk X.K Hs0 H0 ρ' σ' Hs H → Q σ' H) → gt v σ H Q)
    (qt : ∀ σ H (Q : Bool → Hp → Prop), Q true H → tt σ H Q)
    (qe : ∀ Hs0 H0 ρ σ Hs H Q, EnvOk X.K Hs0 H0 ρ σ Hs H → PostX X.K W0 Hs0 H0 σ Hs (fun d Hs' H' => ∀ v, Rp X.K Hs' v d → Q v H') (fe ρ) → te σ H Q)
    (hts : ∀ i, i ∈ ts → i ∈ vs) (e : EnvOk X.K Hs0 H0 ρ σ Hs H) (h : PostX X.K W Hs0 H0 σ Hs (fun d Hs' H' => ∀ v, Rp X.K Hs' v d → Q v H') (xLcO fi g fe vs ρ)) : tLc wi gt tt te vs σ H Q := by
  have hb0 := h.bind
  cases hfi : fi ρ with
  | bad => rw [hfi] at hb0; exact hb0.elim
  | exc c =>
    rw [hfi] at hb0
    refine qi _ _ ρ σ Hs H _ e ?_
    rw [hfi]
    exact fun Hs' H' s => hb0 Hs' H' s.sh (e.step s)
  | ok items =>
  unfold xLcO at h
  rw [hfi] at h
  simp only [RX.of_ok, RX.bind_ok] at h
  refine qi _ _ ρ σ Hs H _ e ?_
  rw [hfi]
  intro Hs1 H1 s1 J wk
  have e1 := e.step s1
  by_cases hz : small items.length = true
  case neg => rw [if_neg hz] at h; exact h.elim
  rw [if_pos hz] at h
  cases hl : lcGoO g fe vs items (kill ρ vs) with
  | bad => rw [hl] at h; exact h.elim
  | exc c ρ' => rw [hl] at h; exact h.elim
  | ok ys ρf =>
    rw [hl] at h
    simp only at h
    intro Dl hD
    obtain ⟨G, Y, w, hG, hY⟩ := wk
    have sD : Hs1 Dl = none := sub_none e1.sub hD
    have oD : H0 Dl = none := sub_none e1.wh0 hD
    have s0D : Hs0 Dl = none := sub_none e1.sh0 sD
    have ap : apart (kill ρ vs) (wipe σ vs) Hs1 H0 (upd H1 Dl (.lst [])) Dl := by
      have ew := e1.wipe vs
      refine ⟨fun j y c hy q r => ?_, fun j rows c as q r gr hm => ?_⟩
      · obtain ⟨a, u, k1, k2, k3, k4, k5⟩ := ew.ow j y hy q
        rw [r] at k1
        cases k1
        exact ne_of_none k4 hD
      · obtain ⟨a, as', k1, k2, k3⟩ := ew.gr j rows q
        rw [r] at k1
        cases k1
        have hne : c ≠ Dl := ne_of_none k2.out hD
        have e3 := gr.out
        rw [upd_ne hne, k2.out] at e3
        have : as' = as := refs_inj (by injection Option.some.inj e3)
        subst this
        obtain ⟨u, hu⟩ := k2.has Dl hm
        rw [hD] at hu
        cases hu
    have sa : Step Hs1 H1 Hs1 (upd H1 Dl (.lst [])) := step_aside e1.sub hD
    have e2 : EnvOk X.K Hs0 (H0.add Dl (.lst [])) (kill ρ vs) (wipe σ vs) Hs1 (upd H1 Dl (.lst [])) := ((e1.wipe vs).step sa).guard upd_same sD rfl ap
    refine lc_it w (LcInvO X.K Hs0 H0 g fe vs σ items ys ρf Hs1 Dl) ?_ ?_ ?_ ?_
    · exact ⟨Hs1, _, [], [], ys, Ex.refl _, e2, .nil, by simpa using hl, rfl, Nat.le_refl _⟩
    · rintro i H' _ ⟨Hs', ρ', ws, acc, rest, x1, x2, _⟩
      exact hG H' (x1.trans x2.sub) fun z => nomatch z
    · rintro i x H' H'' hi ⟨Hs', ρ', ws, acc, rest, x1, x2, ra, hr, hy, hle⟩ y
      obtain ⟨Hs2, st2, d, hd, rd⟩ := hY i x Hs' H' H'' x1 x2.sub hi y
      have hdrop : items.drop i = d :: items.drop (i + 1) := by
        have hlt : i < items.length := hi
        rw [List.drop_eq_getElem_cons hlt]
        have : items[i] = d := by rw [List.getElem?_eq_getElem hlt] at hd; exact Option.some.inj hd
        rw [this]
      rw [hdrop] at hr
      unfold lcGoO at hr
      cases hg : g d ρ' with
      | none => rw [hg] at hr; cases hr
      | some ρ1 =>
        rw [hg] at hr
        simp only at hr
        refine qg _ _ ρ' (wipe σ vs) Hs2 H'' x d ρ1 _ (x2.step st2) rd hg fun σ1 o1 e3 => ⟨by rw [o1 vs hts]; exact wipe_wipe σ vs, qt _ _ _ ?_⟩
        show te σ1 H'' _
        refine qe _ _ ρ1 σ1 Hs2 H'' _ e3 ?_
        cases hfe : fe ρ1 with
        | bad => rw [hfe] at hr; cases hr
        | exc c ρ2 => rw [hfe] at hr; cases hr
        | ok yd ρ2 =>
          rw [hfe] at hr
          simp only at hr
          intro Hs4 H4 s4 e4 yv ry
          refine ⟨ws, e4.held, ?_, ?_⟩
          · rw [RpAll.len ra]
            have h2 := Nat.le_of_ble_eq_true hz
            have h3 : (1000000 : Nat) < sizeLine := by decide
            have h4 : i < items.length := hi
            omega
          · cases hrest : lcGoO g fe vs (items.drop (i + 1)) (kill ρ2 vs) with
            | bad => rw [hrest] at hr; cases hr
            | exc c ρ3 => rw [hrest] at hr; cases hr
            | ok rest2 ρ3 =>
              rw [hrest] at hr
              simp only [RX.bind_ok, RX.ok.injEq] at hr
              obtain ⟨rfl, rfl⟩ := hr
              have e5 := (e4.reguard (o' := .lst (ws ++ [yv])) s0D rfl).wipe vs
              have hw : wipe σ1 vs = wipe σ vs := by rw [o1 vs hts]; exact wipe_wipe σ vs
              rw [hw] at e5
              exact ⟨Hs4, _, ws ++ [yv], acc ++ [yd], rest2, (x1.trans st2.sh).trans s4, e5, RpAll.append (RpAll.ex (st2.sh.trans s4) ra) (.cons ry .nil), hrest, by rw [hy]; simp, by simp; omega⟩
    · rintro H' ⟨Hs', ρ', ws, acc, rest, x1, x2, ra, hr, hy, hle⟩
      rw [List.drop_length] at hr
      simp only [lcGoO, RX.ok.injEq] at hr
      obtain ⟨rfl, rfl⟩ := hr
      rw [List.append_nil] at hy
      subst hy
      obtain ⟨ρ'', hk⟩ := lcGoO_killed hl
      have e6 := x2.share s0D oD
      rw [hk] at e6
      have e7 := e6.unwipe
      have nD := x2.heldS s0D
      rw [hk] at h
      exact h _ H' ((s1.sh.trans x1).trans (Ex.new nD)) e7 _ (.lst (sq_of upd_same) (RpAll.ex (Ex.new nD) ra))
def tOfX (K : PySem.W.Frag) (f : DEnv → RX D) : TE := fun σ H Q => ∃ Hs0 H0 ρ Hs, EnvOk K Hs0 H0 ρ σ Hs H ∧ PostX K W0 Hs0 H0 σ Hs (fun d Hs' H' => ∀ v, Rp K Hs' v d → Q v H') (f ρ)
theorem DX.pe {e : Expr} {f : DEnv → RX D} (h : DX X W0 e f) : PE X e (tOfX X.K f) := by
  obtain ⟨t, p, q⟩ := h.ex
  exact ⟨fun pins s σ H Q I ⟨Hs0, H0, ρ, Hs, e, hp⟩ => p.run pins s σ H Q I (q Hs0 H0 ρ σ Hs H Q e hp)⟩
theorem dx_lc {elt tg iter : Expr} {scope : Scope} {pos : Pos} {fi : DEnv → Res (List D)} {g : GD} {ts : List Nat} {fe : DEnv → RX D} (own : List (Str × Nat)) (hc : X.calm = true) (hN : X.N.Nodup) (hi : DI X W false tg iter fi) (ok : BlkOk X.N X.env.scope scope own)
    (hg : ∀ (s : Shared) (H : Hp) (C : Addr) (cl : List (Str × Addr)) (fp : List Addr), DG (X.blk s H scope (compEnvC scope cl C X.env) fp) tg ts g)
    (he : ∀ (s : Shared) (H : Hp) (C : Addr) (cl : List (Str × Addr)) (fp : List Addr), DX (X.blk s H scope (compEnvC scope cl C X.env) fp) W0 elt fe)
    (hts : ∀ i, i ∈ ts → i ∈ own.map (·.2) := by decide) (hs : ∀ x, foldedSetIterable iter X.env x = pure x := by intro _; rfl) : DX X W (.ListComp elt [⟨tg, iter, [], 0⟩] scope pos) (xLcO fi g fe (own.map (·.2))) := by
  obtain ⟨wi, pi, qi⟩ := hi.ex
  exact ⟨_, pe_lc (g := gOf X.K ts g) (te := tOfX X.K fe) hc hN pi ok (fun s H C cl fp => (hg s H C cl fp).pg) (fun s H C cl fp => pts_nil) (fun s H C cl fp => (he s H C cl fp).pe) hs, fun Hs0 H0 ρ σ Hs H Q e h =>
    lcO_read (tg := tg) (iter := iter) (ts := ts) qi (fun Hs0 H0 ρ σ Hs H v d ρ' Q e rd hg k => ⟨Hs0, H0, ρ, Hs, d, ρ', e, rd, hg, k⟩) (fun σ H Q h => h) (fun Hs0 H0 ρ σ Hs H Q e h => ⟨Hs0, H0, ρ, Hs, e, h⟩) hts e h⟩
/-- y = [..] on one line -/
theorem ds_setLcX (i : Nat) {y : Str} {py spos pos : Pos} {elt tg iter : Expr} {scope : Scope} {fi : DEnv → Res (List D)} {g : GD} {ts : List Nat} {fe : DEnv → RX D} (own : List (Str × Nat)) (hc : X.calm = true) (hN : X.N.Nodup)
    (hi : DI X W false tg iter fi) (ok : BlkOk X.N X.env.scope scope own)
    (hg : ∀ (s : Shared) (H : Hp) (C : Addr) (cl : List (Str × Addr)) (fp : List Addr), DG (X.blk s H scope (compEnvC scope cl C X.env) fp) tg ts g)
    (he : ∀ (s : Shared) (H : Hp) (C : Addr) (cl : List (Str × Addr)) (fp : List Addr), DX (X.blk s H scope (compEnvC scope cl C X.env) fp) W0 elt fe)
    (hsw : swapsWith (.ListComp elt [⟨tg, iter, [], 0⟩] scope pos) (some (.Name y py)) spos.line X.env = pure true)
    (hy : X.N[i]? = some y := by rfl) (hyl : X.env.scope.names.lookup y = some .local := by rfl)
    (hts : ∀ i, i ∈ ts → i ∈ own.map (·.2) := by decide) (hs : ∀ x, foldedSetIterable iter X.env x = pure x := by intro _; rfl) :
    DS X W (.Assign [.Name y py] (.ListComp elt [⟨tg, iter, [], 0⟩] scope pos) spos) (sSetX i (xLcO fi g fe (own.map (·.2)))) := by
  obtain ⟨wi, pi, qi⟩ := hi.ex
  refine ⟨_, ps_setLc (g := gOf X.K ts g) (te := tOfX X.K fe) hc hN hy hyl hsw pi ok (fun s H C cl fp => (hg s H C cl fp).pg) (fun s H C cl fp => pts_nil) (fun s H C cl fp => (he s H C cl fp).pe) hs, fun Hs0 H0 ρ σ Hs H E e h => ?_⟩
  refine lcO_read (tg := tg) (iter := iter) (ts := ts) (fe := fe) (fi := fi) (g := g) (ρ := ρ) qi (fun Hs0 H0 ρ σ Hs H v d ρ' Q e rd hg k => ⟨Hs0, H0, ρ, Hs, d, ρ', e, rd, hg, k⟩) (fun σ H Q h => h) (fun Hs0 H0 ρ σ Hs H Q e h => ⟨Hs0, H0, ρ, Hs, e, h⟩) hts e ?_
  refine (postX_out h).mono fun d Hs' H' s ⟨ρ', e', k⟩ v r => ?_
  rw [st_eq] at k
  exact k _ Hs' H' (Ex.refl _) (e'.set r)
end
end SB
end
end

section
set_option Elab.async false
set_option linter.all false
set_option maxRecDepth 100000
set_option maxHeartbeats 2000000
noncomputable section
namespace SB
open PySem PySem.Spec L2 Evl PyProof.Rows
section
variable {X : Cx} {W : WD} {pos : Pos}
/-- a def over data, its arguments change objects -/
def xCallX (F : List D → Res D) (fs : DEnv → RX (List D)) : DEnv → RX D := fun ρ => (fs ρ).bind fun ds ρ' => RX.of (F ds) ρ'
theorem dx_callR {xc : Nat → Value} {x : Str} {e : Expr} {es : List Expr} {p : Pos} {k j : Nat} {ps : List Str} {F : List D → Res D} {fs : DEnv → RX (List D)} (tk : Tk X xc W) (R : Rdy X.prog X.w X.K X.mg X.base xc k x ps F) (hr : Room j X.A) (ha : DAX X W (e :: es) fs)
    (hk : k ≤ j := by decide) (hg : Gl X x := by rfl) (hdb : (x == ("__debug__" : Str)) = false := by decide)
    (he : starEach (e :: es) X.env = (false, eval e X.env) :: starEach es X.env := by rfl) (hpl : (backTo pos (starEach es X.env)).any (·.1) = false := by rfl) : DX X W (.Call (.Name x p) (e :: es) [] pos) (xCallX F fs) := by
  obtain ⟨f, fd, G, gm, kp, hb⟩ := R.ex
  obtain ⟨t, pt, q⟩ := ha.ex
  obtain ⟨W', tk', hW⟩ := tk
  refine ⟨_, pe_callS (E := WE W') G (hr.mono hk) hg gm kp hb (fun σ => L2N.passAt tk' σ) pt hdb he hpl, fun Hs0 H0 ρ σ Hs H Q e h => ?_⟩
  refine q _ _ ρ σ Hs H _ e (h.bind.mono fun ds Hs1 H1 s1 ⟨ρ1, e1, h1⟩ vs rv => ?_)
  refine ⟨Hs1, ds, e1.sub, rv, ?_⟩
  have h2 := PostX.of e1 h1
  cases hF : F ds with
  | bad => rw [hF] at h2; exact h2.elim
  | exc c =>
    rw [hF] at h2
    exact fun Hs' H' s => hW c σ H' (h2 Hs' H' s)
  | ok d =>
    rw [hF] at h2
    exact fun v Hs' H' s r => h2 Hs' H' s v r
/-- x.f, y = e -/
def sAttrPair (i k j : Nat) (f : DEnv → Res D) : DEnv → Out := fun ρ => (RX.of (f ρ) ρ).outX fun d ρ => match d with
  | .tuple [a, b] => (match lk ρ i with
    | some (.obj p (.ins ds)) => (match putAt k a ds with
      | some es => .next (st (st ρ i (some (.obj p (.ins es)))) j (some (.dat b)))
      | none => .bad)
    | _ => .bad)
  | _ => .bad
theorem ds_attrPair (i k j : Nat) {x f y : Str} {e : Expr} {p1 p2 p3 p4 : Pos} {m : Nat} {fe : DEnv → Res D} (hc : X.calm = true) (hN : X.N.Nodup) (c : Cls X.K (theC X.K)) (n : NoAttr X.K (theC X.K) f) (he : DE X W false e fe) (hk : fldN[k]? = some f := by rfl) (hNi : X.N[i]? = some x := by rfl) (hv : Vis X.env.scope x := by first | exact Or.inl rfl | exact Or.inr (Or.inl rfl) | exact Or.inr (Or.inr rfl))
    (hd : (x == ("__debug__" : Str)) = false := by decide) (hcd : (x == ("__classdict__" : Str)) = false := by decide) (hj : X.N[j]? = some y := by rfl) (hy : Loc X.env.scope y := by first | exact Or.inl rfl | exact Or.inr rfl) (hf : X.fn y = true ∨ X.env.scope.names.lookup y = some .local := by first | exact .inl rfl | exact .inr rfl | assumption)
    (hs1 : (assignEach [.Attribute (.Name x p1) f p2, .Name y p3] X.env).map (·.2) = assign (.Attribute (.Name x p1) f p2) X.env :: (assignEach [.Name y p3] X.env).map (·.2) := by rfl) (hs2 : (assignEach [.Name y p3] X.env).map (·.2) = assign (.Name y p3) X.env :: (assignEach [] X.env).map (·.2) := by rfl)
    (hn : (assignEach [.Attribute (.Name x p1) f p2, .Name y p3] X.env).length = 2 := by rfl) (hst : (assignEach [.Attribute (.Name x p1) f p2, .Name y p3] X.env).findIdx? (·.1) = none := by rfl)
    (hs : swapsWithSole [.Tuple [.Attribute (.Name x p1) f p2, .Name y p3] m p4] e pos.line X.env = pure false := by rfl) (hw : swappedStores [.Tuple [.Attribute (.Name x p1) f p2, .Name y p3] m p4] e X.env = pure none := by rfl)
    (hq : (assignEach [.Tuple [.Attribute (.Name x p1) f p2, .Name y p3] m p4] X.env).map (·.2) = [assign (.Tuple [.Attribute (.Name x p1) f p2, .Name y p3] m p4) X.env] := by rfl) :
    DS X W (.Assign [.Tuple [.Attribute (.Name x p1) f p2, .Name y p3] m p4] e pos) (sAttrPair i k j fe) := by
  obtain ⟨t, p, q⟩ := he.ex
  refine ⟨_, ps_asg p (pg_tup (n := 2) hc (pgs_cons (pg_attr (pe_var (i := i) hNi hv hd hcd)) (pgs_cons (pg_name (i := j) hN hj hy hf) pgs_nil hs2) hs1) hn hst) hs hw hq, fun Hs0 H0 ρ σ Hs H E e h => ?_⟩
  refine q _ _ ρ σ Hs H _ e ((PostX.of e (postX_out h)).mono fun d Hs' H' s ⟨ρ', e', k1⟩ v r => ?_)
  have r := r.rp
  split at k1
  · rename_i a b
    cases r with
    | tup h1 h2 =>
      cases h2 with
      | cons ra rest =>
        cases rest with
        | cons rb rest =>
          cases rest
          split at k1
          · rename_i p ds hr
            split at k1
            · rename_i es hp
              obtain ⟨a', dx, fs, g1, g2, g3, g4⟩ := obj_put e' (lk_some hr) hk ra hp
              refine ⟨_, _, rfl, .inl (ex_td e'.sub h1), rfl, _, _, rfl, ⟨_, g1, a', _, dx, fs, rfl, g2, c, n, g3, _, _, rfl, rfl, ?_⟩⟩
              rw [st_eq, st_eq] at k1
              exact k1 _ Hs' _ (Ex.refl _) (g4.set rb)
            · exact k1.elim
          · exact k1.elim
  · exact k1.elim
end
/-! ### defs over data that hand back a new object -/
def spN (K : PySem.W.Frag) (xc : Nat → Value) (F : List D → Res OV) : Sp := fun vs H Q E => ∃ Hs ds, Ex Hs H ∧ RpAll K Hs vs ds ∧ match F ds with
  | .ok p => ∀ b Hs' H', Step Hs H Hs' H' → ObjAt K Hs' H' b p → H b = none → Q (.ref b) H'
  | .exc c => ∀ Hs' H', Step Hs H Hs' H' → E (xc c) none H'
  | .bad => False
def outN : Out → Res OV
  | .retN i ρ => (match lk ρ i with
    | some (.obj none p) => .ok p
    | _ => .bad)
  | .exc c => .exc c
  | .excO c _ => .exc c
  | _ => .bad
def fnN (N : List Str) (n : Nat) (f : DEnv → Out) : List D → Res OV := fun ds => if ds.length = n then outN (f (env0 N ds)) else .bad
structure RdyN (P : Program) (w : World) (K : PySem.W.Frag) (mg : Str → Option Value) (base : Heap) (xc : Nat → Value) (k : Nat) (x : Str) (ps : List Str) (F : List D → Res OV) : Prop where
  ex : ∃ (f : Addr) (fd : FuncData), FnOk P w K mg base (L2N.CX P w) k f fd ps (spN K xc F) ∧ mg x = some (.ref f) ∧ PySem.W.keepIn K (.ref f) = true ∧ Binds K fd ps []
section
variable {P : Program} {w : World} {K : PySem.W.Frag} {mg : Str → Option Value} {base : Heap} {xc : Nat → Value}
theorem fn_okN {x qual : Str} {args : Arguments} {st : List Stmt} {sc : Scope} {f : Addr} {fd : FuncData} {N ps : List Str} {k n : Nat} {F : DEnv → Out}
    (hfn : ∀ (sp : Sp), (∀ vs H Q E, sp vs H Q E → vs.length = ps.length) →
      (∀ (cdv : Value) (A : Around) (outer : List Env) (s : Shared) (H : Hp) (vs : List V) (Q : VK) (E : XK), Room k (A.deeper (envOfC qual sc s.heap.objs.size f cdv)) → sp vs H Q E →
        ∃ t, PSs (cxOf (L2N.CX P w) P w K mg base N qual sc f cdv A outer s H E) st t ∧ t { nx := fun _ H' => Q .non H', rt := Q } (L2.start N vs) H) → FnOk P w K mg base (L2N.CX P w) (k + 1) f fd ps sp)
    (hn : ps.length = n)
    (body : ∀ (cdv : Value) (A : Around) (outer : List Env) (s : Shared) (H : Hp) (E : XK), Room k (A.deeper (envOfC qual sc s.heap.objs.size f cdv)) →
      DSs (cxOf (L2N.CX P w) P w K mg base N qual sc f cdv A outer s H E) (WDof xc E) st F) : FnOk P w K mg base (L2N.CX P w) (k + 1) f fd ps (spN K xc (fnN N n F)) := by
  refine hfn _ ?_ ?_
  · rintro vs H Q E ⟨Hs, ds, e, r, h⟩
    by_cases hl : ds.length = n
    · rw [RpAll.len r, hl, hn]
    · unfold fnN at h
      rw [if_neg hl] at h
      exact h.elim
  · rintro cdv A outer s H vs Q E hr ⟨Hs, ds, e, r, h⟩
    obtain ⟨t, p, q⟩ := (body cdv A outer s H E hr).ex
    refine ⟨t, p, q Hs (hp0 H) (env0 N ds) (L2.start N vs) Hs H _ (env0_ok r e) ?_⟩
    unfold fnN at h
    by_cases hl : ds.length = n
    · rw [if_pos hl] at h
      cases ho : F (env0 N ds) with
      | retN i ρ =>
        rw [ho] at h
        intro v σ' Hs' H' _ e' hv
        simp only [outN] at h
        cases hk : lk ρ i with
        | none => rw [hk] at h; exact h.elim
        | some z =>
          rw [hk] at h
          cases z with
          | obj p o =>
            cases p with
            | none =>
              obtain ⟨b, u, k1, k2, k3, k4, k5⟩ := e'.ow _ _ rfl (lk_some hk)
              rw [hv] at k1
              cases k1
              exact h b Hs' H' e'.step0 ⟨k2, u, k4, k5⟩ k3
            | some _ => exact h.elim
          | _ => exact h.elim
      | exc c =>
        rw [ho] at h
        exact fun σ' Hs' H' s => h Hs' H' s
      | excO c ρ =>
        rw [ho] at h
        exact fun σ' Hs' H' _ e' => h Hs' H' e'.step0
      | next _ => rw [ho] at h; exact h.elim
      | ret _ => rw [ho] at h; exact h.elim
      | retO _ _ => rw [ho] at h; exact h.elim
      | brk _ => rw [ho] at h; exact h.elim
      | cont _ => rw [ho] at h; exact h.elim
      | bad => rw [ho] at h; exact h.elim
    · rw [if_neg hl] at h
      exact h.elim
theorem rdyN_of {x : Str} {args : Arguments} {st : List Stmt} {sc : Scope} {f : Addr} {fd : FuncData} {N ps : List Str} {k n : Nat} {F : DEnv → Out} (Fn : FunD K x x args st sc [] [] f fd) (S : FnScope N ps sc) (gm : mg x = some (.ref f)) (hb : Binds K fd ps []) (hn : ps.length = n)
    (body : ∀ (cdv : Value) (A : Around) (outer : List Env) (s : Shared) (H : Hp) (E : XK), Room k (A.deeper (envOfC x sc s.heap.objs.size f cdv)) →
      DSs (cxOf (L2N.CX P w) P w K mg base N x sc f cdv A outer s H E) (WDof xc E) st F) : RdyN P w K mg base xc (k + 1) x ps (fnN N n F) :=
  ⟨f, fd, fn_okN (x := x) (args := args) (fun sp len b => Fn.ok S len b) hn body, gm, Fn.kp, hb⟩
theorem rdyO_of {x : Str} {args : Arguments} {st : List Stmt} {sc : Scope} {f : Addr} {fd : FuncData} {N ps : List Str} {k n j : Nat} {F : DEnv → Out} (Fn : FunD K x x args st sc [] [] f fd) (S : FnScope N ps sc) (gm : mg x = some (.ref f)) (hb : Binds K fd ps []) (hn : ps.length = n)
    (body : ∀ (cdv : Value) (A : Around) (outer : List Env) (s : Shared) (H : Hp) (E : XK), Room k (A.deeper (envOfC x sc s.heap.objs.size f cdv)) →
      DSs (cxOf (L2N.CX P w) P w K mg base N x sc f cdv A outer s H E) (WDof xc E) st F) : RdyO P w K mg base xc (k + 1) x ps j (fnO N n j F) :=
  ⟨f, fd, fn_okO (x := x) (args := args) (fun sp len b => Fn.ok S len b) hn body, gm, Fn.kp, hb⟩
theorem rdyM_of {x m qual : Str} {args : Arguments} {st : List Stmt} {sc : Scope} {f : Addr} {fd : FuncData} {N ps : List Str} {k n : Nat} {F : DEnv → Out} (Fn : FunD K x qual args st sc [] [] f fd) (S : FnScope N ps sc) (hm : Meth K (theC K) m f) (hb : Binds K fd ps []) (hn : ps.length = n)
    (body : ∀ (cdv : Value) (A : Around) (outer : List Env) (s : Shared) (H : Hp) (E : XK), Room k (A.deeper (envOfC qual sc s.heap.objs.size f cdv)) →
      DSs (cxOf (L2N.CX P w) P w K mg base N qual sc f cdv A outer s H E) (WDof xc E) st F) : RdyM P w K mg base xc (k + 1) m ps (fnO N n 0 F) :=
  ⟨f, fd, fn_okO (x := x) (args := args) (fun sp len b => Fn.ok S len b) hn body, hm, hb⟩
theorem rdyI_of {x C qual : Str} {args : Arguments} {st : List Stmt} {sc : Scope} {f : Addr} {fd : FuncData} {N ps : List Str} {k n : Nat} {F : DEnv → Out} (Fn : FunD K x qual args st sc [] [] f fd) (S : FnScope N ps sc) (M : Mk K (theC K) f) (gm : mg C = some (.ref (theC K))) (hb : Binds K fd ps []) (hn : ps.length = n)
    (body : ∀ (cdv : Value) (A : Around) (outer : List Env) (s : Shared) (H : Hp) (E : XK), Room k (A.deeper (envOfC qual sc s.heap.objs.size f cdv)) →
      DSs (cxOf (L2N.CX P w) P w K mg base N qual sc f cdv A outer s H E) (WDof xc E) st F) : RdyI P w K mg base xc (k + 1) C ps (fnO N n 0 F) :=
  ⟨f, fd, fn_okO (x := x) (args := args) (fun sp len b => Fn.ok S len b) hn body, M, gm, hb⟩
end
section
variable {X : Cx} {W : WD} {pos : Pos}
/-- y = f(..), f hands back a new object -/
def sNewF (i : Nat) (F : List D → Res OV) (fs : DEnv → Res (List D)) : DEnv → Out := fun ρ => ((fs ρ).bind F).out fun q => .next (st ρ i (some (.obj none q)))
theorem ds_newF {xc : Nat → Value} (i : Nat) {x y : Str} {e : Expr} {es : List Expr} {p1 pos' pos2 : Pos} {j n : Nat} {ps : List Str} {F : List D → Res OV} {fs : DEnv → Res (List D)} (hN : X.N.Nodup) (tk : Tk X xc W) (R : RdyN X.prog X.w X.K X.mg X.base xc j y ps F) (hr : Room n X.A) (ha : DA X W false (e :: es) fs)
    (hk : j ≤ n := by decide) (hg : Gl X y := by rfl) (hdb : (y == ("__debug__" : Str)) = false := by decide) (hi : X.N[i]? = some x := by rfl) (hx : Loc X.env.scope x := by first | exact Or.inl rfl | exact Or.inr rfl)
    (hs : swapsWith (.Call (.Name y p1) (e :: es) [] pos2) (some (.Name x pos')) pos.line X.env = pure false := by rfl) (hf : X.fn x = true ∨ X.env.scope.names.lookup x = some .local := by first | exact .inl rfl | exact .inr rfl | assumption)
    (he : starEach (e :: es) X.env = (false, eval e X.env) :: starEach es X.env := by rfl) (hpl : (backTo pos2 (starEach es X.env)).any (·.1) = false := by rfl) :
    DS X W (.Assign [.Name x pos'] (.Call (.Name y p1) (e :: es) [] pos2) pos) (sNewF i F fs) := by
  obtain ⟨f, fd, G, gm, kp, hb⟩ := R.ex
  obtain ⟨t, pt, q⟩ := ha.ex
  obtain ⟨W', tk', hW⟩ := tk
  refine ⟨_, ps_set hN hi hx (pe_callS (E := WE W') G (hr.mono hk) hg gm kp hb (fun σ => L2N.passAt tk' σ) pt hdb he hpl) hs hf, fun Hs0 H0 ρ σ Hs H E e h => ?_⟩
  refine q _ _ ρ σ Hs H _ e ((PostA.bind (post_out e h)).mono fun ds Hs1 H1 s1 h1 vs rv => ?_)
  refine ⟨Hs1, ds, s1.sub, rv.rp, ?_⟩
  have e1 := e.step s1
  cases hF : F ds with
  | bad => rw [hF] at h1; exact h1.elim
  | exc c =>
    rw [hF] at h1
    exact fun Hs' H' s => hW c σ H' (h1 Hs' H' s)
  | ok p =>
    rw [hF] at h1
    intro b Hs' H' s at' hb0
    have h2 : PostS X.K W Hs0 H0 Hs' E (.next (st ρ i (some (.obj none p)))) := h1 Hs' H' s
    rw [st_eq] at h2
    refine h2 _ Hs' H' (Ex.refl _) ((e1.step s).gain at' (sub_none e1.wh0 hb0) (fun {j y c} hy q r => ?_) fun {j rows c as} q r g hbm => ?_)
    · obtain ⟨c', u, k1, k2, k3, k4, k5⟩ := e1.ow j y hy q
      rw [r] at k1
      cases k1
      exact ne_of_none k4 hb0
    · obtain ⟨c', as', g1, g2, g3⟩ := e1.gr j rows q
      rw [r] at g1
      cases g1
      have e3 := s.wh _ _ g2.out
      rw [g.out] at e3
      have : as = as' := refs_inj (by injection Option.some.inj e3)
      subst this
      obtain ⟨u, hu⟩ := g2.has b hbm
      rw [hb0] at hu
      cases hu
/-- f(..).m(), f hands back a new object -/
def tmpOf (FM : OV → List D → RO) : OV → Res D
  | .ins xs => (match FM (.ins xs) [] with
    | .ok d _ => .ok d
    | .exc c _ => .exc c
    | _ => .bad)
  | _ => .bad
def xTmpM (FN : List D → Res OV) (FM : OV → List D → RO) (fs : DEnv → Res (List D)) : DEnv → Res D := fun ρ => (fs ρ).bind fun ds => (FN ds).bind (tmpOf FM)
theorem de_tmpM {b : Bool} {xc : Nat → Value} {y m : Str} {e : Expr} {es : List Expr} {p1 p2 apos : Pos} {j k n : Nat} {ps ps' : List Str} {FN : List D → Res OV} {FM : OV → List D → RO} {fs : DEnv → Res (List D)} {pl : Sem Bool} (tk : Tk X xc W) (c : Cls X.K (theC X.K)) (R : RdyN X.prog X.w X.K X.mg X.base xc j y ps FN) (RM : RdyM X.prog X.w X.K X.mg X.base xc k m ps' FM) (hr : Room n X.A) (ha : DA X W false (e :: es) fs)
    (hk : j ≤ n := by decide) (hk2 : k ≤ n := by decide) (hmn : fldN.contains m = false := by decide) (hg : Gl X y := by rfl) (hdb : (y == ("__debug__" : Str)) = false := by decide)
    (he : starEach (e :: es) X.env = (false, eval e X.env) :: starEach es X.env := by rfl) (hpl : (backTo p2 (starEach es X.env)).any (·.1) = false := by rfl)
    (ht : eval (.Call (.Attribute (.Call (.Name y p1) (e :: es) [] p2) m apos) [] [] pos) X.env = (do let ov ← eval (.Call (.Name y p1) (e :: es) [] p2) X.env; standAt apos.atName; let (f, first) ← holding [ov] (getMethod ov m pl); callWith pos f first (backTo pos (starEach [] X.env)) (backToKw pos (keywordEach [] X.env))) := by rfl) :
    DE X W b (.Call (.Attribute (.Call (.Name y p1) (e :: es) [] p2) m apos) [] [] pos) (xTmpM FN FM fs) := by
  obtain ⟨f, fd, G, gm, kp, hb⟩ := R.ex
  obtain ⟨f2, fd2, G2, hm, hb2⟩ := RM.ex
  obtain ⟨t, pt, q⟩ := ha.ex
  obtain ⟨W', tk', hW⟩ := tk
  refine ⟨_, pe_mS0 (E := WE W') (pe_callS (E := WE W') G (hr.mono hk) hg gm kp hb (fun σ => L2N.passAt tk' σ) pt hdb he hpl) c hm G2 (hr.mono hk2) hb2 (fun σ => L2N.passAt tk' σ) ht, fun Hs0 H0 ρ σ Hs H Q e h => ?_⟩
  refine q _ _ ρ σ Hs H _ e ((PostA.bind h).mono fun ds Hs1 H1 s1 h1 vs rv => ?_)
  refine ⟨Hs1, ds, s1.sub, rv.rp, ?_⟩
  cases hF : FN ds with
  | bad => rw [hF] at h1; exact h1.elim
  | exc c =>
    rw [hF] at h1
    exact fun Hs' H' s => hW c σ H' (h1 Hs' H' s)
  | ok p =>
    rw [hF] at h1
    intro b0 Hs2 H2 s2 at' hb0
    replace h1 : Post X.K b W σ Hs1 H1 Q (tmpOf FM p) := h1
    cases p with
    | dT _ => exact h1.elim
    | ins xs =>
      obtain ⟨dx, vs2, hh⟩ := at'.ins_ rfl
      refine ⟨b0, dx, _, rfl, hh, fld_none hmn vs2, Hs2, [], [], [], [], b0, .ins xs, rfl, rfl, .nil, .nil, s2.sub, at', ?_⟩
      have join : ∀ {Hs3 H3 : Hp}, Step Hs2 (del H2 b0) Hs3 (del H3 b0) → Step Hs1 H1 Hs3 H3 := fun {Hs3 H3} s3 => by
        have nb : ∀ {c : Addr} {u : HO}, H1 c = some u → c ≠ b0 := fun {c u} hc => ne_of_none hc hb0
        exact ⟨s2.sh.trans s3.sh, fun c u hc => del_ex _ _ (s3.wh c u (by rw [del_ne (nb hc)]; exact s2.wh c u hc)), s3.sub.trans del_ex, fun c u hc z => s3.away c u (by rw [del_ne (nb hc)]; exact s2.wh c u hc) (s2.away c u hc z)⟩
      rw [show (([] : List D) ++ []) = [] from rfl]
      unfold tmpOf at h1
      simp only at h1
      cases hM : FM (.ins xs) [] with
      | ok d o' =>
        rw [hM] at h1
        exact fun v Hs3 H3 s3 _ r => h1 Hs3 H3 (join s3) v (.of r)
      | exc c o' =>
        rw [hM] at h1
        exact fun Hs3 H3 s3 _ => hW c σ H3 (h1 Hs3 H3 (join s3))
      | new _ _ => rw [hM] at h1; exact h1.elim
      | bad => rw [hM] at h1; exact h1.elim
/-- raise, the frame has an object -/
theorem ds_raiseO {xc : Nat → Value} (c : Nat) {x m : Str} {C : Addr} {j : Nat} {p p2 pos' : Pos} (hc : X.calm = true) (tk : Tk X xc W) (q : PySem.W.excIn X.K C He.veBase "ValueError.__new__" = true) (gC : X.mg x = some (.ref C)) (kC : PySem.W.keepIn X.K (.ref C) = true)
    (b1 : PySem.W.subIn X.K (.ref C) (.type "BaseException") = some true) (b2 : PySem.W.typeIn X.K (.ref C) = some (.type "type")) (hxc : xc c = .ref C) (hg : Gl X x := by rfl) (hdb : (x == ("__debug__" : Str)) = false := by decide) :
    DS X W (.Raise (some (.Call (.Name x p) [.Constant (.str m) j p2] [] pos)) none pos') (fun ρ => .excO c ρ) := by
  obtain ⟨W', tk', hW⟩ := tk
  refine ⟨_, L2N.ps_raise hc tk' (L2N.pmk_own PySem.F.excBase_ValueError q gC kC (raises_own b1 b2) hg hdb), fun Hs0 H0 ρ σ Hs H E e h => ?_⟩
  have := hW c σ H ((show ∀ σ' Hs' H', Ex Hs Hs' → EnvOk X.K Hs0 H0 ρ σ' Hs' H' → W c σ' H' from h) σ Hs H (Ex.refl _) e)
  rw [hxc] at this
  exact this
end
end SB
end
end

section
set_option Elab.async false
set_option linter.all false
set_option maxRecDepth 100000
set_option maxHeartbeats 2000000
noncomputable section
namespace SB
open PySem PySem.Spec L2 Evl PyProof.Rows
/-! ### tuples that are known to have no names of their own: displays, t + u, t[a:b]; t.index(x), t.count(x) -/
def FzT (K : PySem.W.Frag) (Hs : Hp) (a : Addr) (ds : List D) : Prop := ∃ ob vs, Hs a = some (.frz ob (.tup vs)) ∧ ob.dict = none ∧ RpAll K Hs vs ds
def hdOk : List D → Bool
  | .none :: _ => false
  | _ => true
theorem hdOk_ne {ds : List D} (h : hdOk ds = true) : ds.head? ≠ some .none := by
  cases ds with
  | nil => exact fun z => nomatch z
  | cons d r =>
    cases d with
    | none => cases h
    | _ => exact fun z => nomatch z
structure DN (X : Cx) (W : WD) (e : Expr) (f : DEnv → Res (List D)) : Prop where
  ex : ∃ t : TE, PE X e t ∧ ∀ Hs0 H0 ρ σ Hs H Q, EnvOk X.K Hs0 H0 ρ σ Hs H → PostA W σ Hs H (fun ds Hs' H' => ∀ a, FzT X.K Hs' a ds → Q (.ref a) H') (f ρ) → t σ H Q
section
variable {X : Cx} {W : WD} {pos : Pos}
theorem nd_new {Hs H : Hp} {p : Addr} {ob : Obj} {vs : List V} {ds : List D} (e : Ex Hs H) (hp : H p = none) (ho : ob.dict = none) (r : RpAll X.K Hs vs ds) : Step Hs H (upd Hs p (.frz ob (.tup vs))) (upd H p (.frz ob (.tup vs))) ∧ FzT X.K (upd Hs p (.frz ob (.tup vs))) p ds :=
  ⟨Step.new e hp, ob, vs, upd_same, ho, RpAll.ex (Ex.new (sub_none e hp)) r⟩
/-- a variable -/
def xNd (i : Nat) : DEnv → Res (List D) := fun ρ => match lk ρ i with
  | some (.ndt ds) => if hdOk ds = true then .ok ds else .bad
  | _ => .bad
theorem dn_var (i : Nat) {x : Str} (hN : X.N[i]? = some x := by rfl) (hv : Vis X.env.scope x := by first | exact Or.inl rfl | exact Or.inr (Or.inl rfl) | exact Or.inr (Or.inr rfl)) (hd : (x == ("__debug__" : Str)) = false := by decide)
    (hcd : (x == ("__classdict__" : Str)) = false := by decide) : DN X W (.Name x pos) (xNd i) := by
  refine ⟨tVar i, pe_var hN hv hd hcd, fun Hs0 H0 ρ σ Hs H Q e hp => ?_⟩
  unfold xNd at hp
  split at hp
  · rename_i ds h
    obtain ⟨a, h1, h2⟩ := e.nd i ds (lk_some h)
    refine post_mk hp fun hk hp => ?_
    rcases h2 with h2 | ⟨_, h2⟩
    · subst h2; cases hk
    · exact ⟨_, h1, hp.now e.sub a h2⟩
  · exact hp.elim
/-- a display -/
def tTupF (t : TA) : TE := fun σ H Q => t σ H fun xs H1 => xs.length ≤ sizeLine ∧ ∀ (p : Addr) (ob : Obj), H1 p = none → ob.dict = none → Q (.ref p) (upd H1 p (.frz ob (.tup xs)))
theorem pe_tupF {es : List Expr} {t : TA} {x1 : Nat} (h : PA X es t) : PE X (.Tuple es x1 pos) (tTupF t) := by
  refine ⟨fun pins s σ H Q I hq => ?_⟩
  refine wpAny_Tuple_spliced (thn (h.run pos pins s σ H _ I hq) fun us s1 ⟨xs, H1, I1, r, z, q⟩ => ⟨by rw [← r.length]; exact z, ?_⟩)
  exact ⟨.ref s1.heap.objs.size, _, I1.laid (t' := s1.toks) (o := .frz { cls := .type "tuple", data := .seq us.toArray } (.tup xs)) (fun b u e => Heap.get?_push_of_some _ e) (Nat.le_refl _) ⟨Heap.get?_push_size _ rfl, z, us, r, ⟨_, Heap.get?_push_size _ rfl, rfl, _, rfl⟩⟩, rfl, q _ _ (I1.hok.fresh (Nat.le_refl _)) rfl⟩
def okLs (ds : List D) : Res (List D) := if small ds.length = true then .ok ds else .bad
theorem dn_tup {es : List Expr} {fs : DEnv → Res (List D)} {x1 : Nat} (h : DA X W false es fs) : DN X W (.Tuple es x1 pos) (fun ρ => (fs ρ).bind okLs) := by
  obtain ⟨t, p, q⟩ := h.ex
  refine ⟨tTupF t, pe_tupF p, fun Hs0 H0 ρ σ Hs H Q e h => ?_⟩
  refine q _ _ ρ σ Hs H _ e (h.bind.mono fun xs Hs1 H1 s1 h1 vs rv => ?_)
  refine post_mk h1 fun hz h1 => ⟨by rw [RpAll.len rv.rp]; exact small_line hz, fun p ob hp ho => ?_⟩
  obtain ⟨s2, n2⟩ := nd_new s1.sub hp ho rv.rp
  exact h1 _ _ s2 p n2
def sNewNd (i : Nat) (f : DEnv → Res (List D)) : DEnv → Out := fun ρ => (f ρ).out fun ds => if hdOk ds = true then .next (st ρ i (some (.ndt ds))) else .bad
theorem ds_newNd (i : Nat) {x : Str} {e : Expr} {pos' : Pos} {f : DEnv → Res (List D)} (hN : X.N.Nodup) (he : DN X W e f) (hi : X.N[i]? = some x := by rfl) (hx : Loc X.env.scope x := by first | exact Or.inl rfl | exact Or.inr rfl)
    (hs : swapsWith e (some (.Name x pos')) pos.line X.env = pure false := by rfl) (hf : X.fn x = true ∨ X.env.scope.names.lookup x = some .local := by first | exact .inl rfl | exact .inr rfl | assumption) : DS X W (.Assign [.Name x pos'] e pos) (sNewNd i f) := by
  obtain ⟨t, p, q⟩ := he.ex
  refine ⟨tAsg t (gName i), ps_set hN hi hx p hs hf, fun Hs0 H0 ρ σ Hs H E e h => ?_⟩
  refine q _ _ ρ σ Hs H _ e ((post_out e h).mono fun ds Hs' H' s k a na => ?_)
  refine postS_mk k fun hk k => ?_
  rw [st_eq] at k
  exact k _ Hs' _ (Ex.refl _) ((e.step s).setNd (.inr ⟨hdOk_ne hk, na⟩))
/-! methods -/
def tTM (r : V → List V → Hp → VK → Prop) (to : TE) (t : TA) : TE := fun σ H Q => to σ H fun x H1 => (∃ a ob xs, x = .ref a ∧ H1 a = some (.frz ob (.tup xs)) ∧ ob.dict = none) ∧ t σ H1 fun vs H2 => r x vs H2 Q
theorem pe_tm {o e : Expr} {to : TE} {t : TA} {name : Str} {id : String} {r : V → List V → Hp → VK → Prop} {apos cpos : Pos} (slot : Slot "tuple" name id) (hty : typeOf (.builtin id) = pure (.type "method_descriptor")) (hm : MtR X id r) (ho : PE X o to) (ha : PA X [e] t)
    (hbase : attributeBase o name X.env (eval o X.env) = eval o X.env := by rfl)
    (hfew : ((backTo cpos (starEach [e] X.env)).all (fun x => !x.1) && (backToKw cpos (keywordEach [] X.env)).all (fun x => x.1.isSome) && decide ([e].length + ([] : List Keyword).length + (if ([] : List Keyword).isEmpty then 0 else 1) < 30)) = true := by rfl)
    (hline : (apos.endLine == cpos.line) = true := by rfl) (hs : starEach [e] X.env = (false, eval e X.env) :: starEach [] X.env := by rfl) (hplain : (backTo cpos (starEach [] X.env)).any (·.1) = false := by rfl) :
    PE X (.Call (.Attribute o name apos) [e] [] cpos) (tTM r to t) := by
  refine ⟨fun pins s σ H Q I h => ?_⟩
  refine wpAny_Call_method_late hbase hfew hline rfl (thn (ho.run pins s σ H _ I h) fun v s1 ⟨x, H1, I1, r1, ⟨a, ob, xs, ex, hH, hd⟩, q1⟩ => ?_)
  subst ex
  cases r1
  obtain ⟨g1, _, its, _, ⟨o', g2, g3, _⟩⟩ := I1.hok a _ hH
  refine ⟨"tuple", id, PySem.F.plainAttrs_tuple, slot, hty, ⟨o', g2, g3⟩, fun b eb => ?_, ?_⟩
  · cases eb
    exact ⟨ob, g1, hd⟩
  · have hA := ha.run cpos pins s1 σ H1 _ I1 q1
    rw [hs] at hA ⊢
    refine Calls.callWith_builtin (by show (false || (backTo cpos (starEach [] X.env)).any (·.1)) = false; rw [hplain] <;> rfl) (Calls.evalArgs_plain ?_)
    exact thn hA fun us s2 ⟨vs, H2, I2, r2, q2⟩ => hm pins s2 σ H2 (.ref a) vs (.ref a) us Q I2 rfl r2 q2
/-- where an equal thing stands first -/
def placeD (ds : List D) (d : D) : Option Nat := List.rec (motive := fun _ => Option Nat) none (fun x _ ih => cond (eqvD x d) (some 0) (ih.map (· + 1))) ds
def countD (ds : List D) (d : D) : Nat := List.rec (motive := fun _ => Nat) 0 (fun x _ ih => cond (eqvD x d) (ih + 1) ih) ds
theorem place_ok {d : D} : ∀ {ds : List D}, (∀ x, x ∈ ds → depOk x = true) → placeD ds d = SeqAt.dataPlace ds d
  | [], _ => rfl
  | x :: ds, h => by
    show cond (eqvD x d) (some 0) ((placeD ds d).map (· + 1)) = _
    rw [place_ok fun y hy => h y (by simp [hy]), eqvD_ok (h x (by simp))]
    unfold SeqAt.dataPlace
    rw [List.findIdx?_cons]
    cases PyData.eqv x d <;> rfl
theorem count_ok {d : D} : ∀ {ds : List D}, (∀ x, x ∈ ds → depOk x = true) → countD ds d = ds.countP fun y => PyData.eqv y d
  | [], _ => rfl
  | x :: ds, h => by
    show cond (eqvD x d) (countD ds d + 1) (countD ds d) = _
    rw [count_ok fun y hy => h y (by simp [hy]), eqvD_ok (h x (by simp)), List.countP_cons]
    cases PyData.eqv x d <;> rfl
def rTIx (K : PySem.W.Frag) : V → List V → Hp → VK → Prop := fun x xs H Q => ∃ (a : Addr) (y : V) (d : D) (ds : List D) (vs : List V) (j : Nat), x = .ref a ∧ xs = [y] ∧ SqT K H a vs ∧ RpAll K H vs ds ∧ Rp K H y d ∧ depOk d = true ∧ SeqAt.dataPlace ds d = some j ∧ Q (.int (j : Int)) H
def rTCn (K : PySem.W.Frag) : V → List V → Hp → VK → Prop := fun x xs H Q => ∃ (a : Addr) (y : V) (d : D) (ds : List D) (vs : List V), x = .ref a ∧ xs = [y] ∧ SqT K H a vs ∧ RpAll K H vs ds ∧ Rp K H y d ∧ depOk d = true ∧ Q (.int ((ds.countP fun z => PyData.eqv z d : Nat) : Int)) H
theorem mt_tix (hu : X.A.units + 65 < cLine) : MtR X "tuple.index" (rTIx X.K) := by
  intro pins s σ H x xs v us Q I rx rxs h
  obtain ⟨a, y, d, ds, vs, j, rfl, rfl, hT, rd, ry, hd, hp, q⟩ := h
  cases rx
  obtain ⟨u, rfl, ru⟩ := vals1 rxs
  obtain ⟨its, rv, pl, _⟩ := I.tuple hT
  obtain ⟨⟨cls, dd, dt, sl⟩, ho, hc, n, hdt⟩ := id pl
  simp only at hc hdt
  subst hc hdt
  obtain ⟨as, ra⟩ := Dp.readsAll I ds vs its (RpAll.dp rd) rv
  obtain ⟨bs, rb⟩ := Dp.reads I d y u (Rp.dp ry) ru
  have ra' : ReadsAll s.heap its.toArray.toList ds as := by simpa using ra
  obtain ⟨hj, hit, hno⟩ := SeqAt.hit_at ra' (RpAll.plain rd) hp
  exact call_meets PySem.F.slot_tuple_index ⟨_, ho, rfl⟩ PySem.F.entry_tuple_index (PySem.F.args_tuple_index_2 _ _) (TI.tuple_indexAt a its.toArray n dd sl u (fun w => PyData.eqv (SeqAt.readOf s.heap w) d) j hj hit (fun m hm hmj => hno m hm hmj))
    ⟨ho, SeqAt.items_plain ra' rb (RpAll.plain rd) (Rp.plain ry) (min_depA hu hd), ⟨.int (j : Int), H, I.tok _, ⟨_, rfl⟩, q⟩⟩
theorem mt_tcn (hu : X.A.units + 65 < cLine) : MtR X "tuple.count" (rTCn X.K) := by
  intro pins s σ H x xs v us Q I rx rxs h
  obtain ⟨a, y, d, ds, vs, rfl, rfl, hT, rd, ry, hd, q⟩ := h
  cases rx
  obtain ⟨u, rfl, ru⟩ := vals1 rxs
  obtain ⟨its, rv, pl, _⟩ := I.tuple hT
  obtain ⟨as, ra⟩ := Dp.readsAll I ds vs its (RpAll.dp rd) rv
  obtain ⟨bs, rb⟩ := Dp.reads I d y u (Rp.dp ry) ru
  have ra' : ReadsAll s.heap its.toArray.toList ds as := by simpa using ra
  exact SeqAt.count_tuple_data (show s.heap.IsTuple a its.toArray from pl) ra' rb (RpAll.plain rd) (Rp.plain ry) (min_depA hu hd) ⟨.int _, H, I.tok _, ⟨_, rfl⟩, q⟩
def ixTD (ds : List D) (d : D) : Res D := if (depOk d && allL depOk ds) = true then (match placeD ds d with | some j => .ok (.int (j : Int)) | none => .bad) else .bad
def cnTD (ds : List D) (d : D) : Res D := if (depOk d && allL depOk ds) = true then .ok (.int (countD ds d : Int)) else .bad
def xTM (g : List D → D → Res D) (fo : DEnv → Res (List D)) (fe : DEnv → Res D) : DEnv → Res D := fun ρ => (fo ρ).bind fun xs => (fe ρ).bind fun y => g xs y
theorem de_tix {b : Bool} {o e : Expr} {fo : DEnv → Res (List D)} {fe : DEnv → Res D} {p2 p3 : Pos} (hu : X.A.units + 65 < cLine) (ho : DN X W o fo) (he : DE X W true e fe) (hbase : attributeBase o "index" X.env (eval o X.env) = eval o X.env := by rfl)
    (hfew : ((backTo p3 (starEach [e] X.env)).all (fun x => !x.1) && (backToKw p3 (keywordEach [] X.env)).all (fun x => x.1.isSome) && decide ([e].length + ([] : List Keyword).length + (if ([] : List Keyword).isEmpty then 0 else 1) < 30)) = true := by rfl)
    (hline : (p2.endLine == p3.line) = true := by rfl) (hs : starEach [e] X.env = (false, eval e X.env) :: starEach [] X.env := by rfl) (hplain : (backTo p3 (starEach [] X.env)).any (·.1) = false := by rfl) :
    DE X W b (.Call (.Attribute o "index" p2) [e] [] p3) (xTM ixTD fo fe) := by
  obtain ⟨t, pt, q⟩ := ho.ex
  obtain ⟨t', pt', q'⟩ := he.ex
  refine ⟨_, pe_tm PySem.F.slot_tuple_index PySem.F.type_tuple_index (mt_tix hu) pt (pa_cons pt' pa_nil hs) hbase hfew hline hs hplain, fun Hs0 H0 ρ σ Hs H Q e h => ?_⟩
  refine q _ _ ρ σ Hs H _ e ((PostA.bind h).mono fun ds Hs1 H1 s1 h1 a na => ?_)
  obtain ⟨ob, vs, a1, a2, a3⟩ := id na
  refine ⟨⟨a, ob, vs, rfl, s1.sub _ _ a1, a2⟩, q' _ _ ρ σ Hs1 H1 _ (e.step s1) ((PostA.bind h1).mono fun d Hs2 H2 s2 h2 v rv => ?_)⟩
  refine post_mk h2 fun hok h2 => ?_
  rw [Bool.and_eq_true, allL_eq, List.all_eq_true] at hok
  rw [place_ok hok.2] at h2
  cases hp : SeqAt.dataPlace ds d with
  | none => rw [hp] at h2; exact h2.elim
  | some j =>
    rw [hp] at h2
    exact ⟨a, v, d, ds, vs, j, rfl, rfl, .inl (.inr ⟨ob, s2.wh _ _ (s1.sub _ _ a1)⟩), RpAll.ex (s2.sh.trans s2.sub) a3, rv.whole s2.sub, hok.1, hp, PostA.now s2.sub h2 _ (.of (.int _))⟩
theorem de_tcn {b : Bool} {o e : Expr} {fo : DEnv → Res (List D)} {fe : DEnv → Res D} {p2 p3 : Pos} (hu : X.A.units + 65 < cLine) (ho : DN X W o fo) (he : DE X W true e fe) (hbase : attributeBase o "count" X.env (eval o X.env) = eval o X.env := by rfl)
    (hfew : ((backTo p3 (starEach [e] X.env)).all (fun x => !x.1) && (backToKw p3 (keywordEach [] X.env)).all (fun x => x.1.isSome) && decide ([e].length + ([] : List Keyword).length + (if ([] : List Keyword).isEmpty then 0 else 1) < 30)) = true := by rfl)
    (hline : (p2.endLine == p3.line) = true := by rfl) (hs : starEach [e] X.env = (false, eval e X.env) :: starEach [] X.env := by rfl) (hplain : (backTo p3 (starEach [] X.env)).any (·.1) = false := by rfl) :
    DE X W b (.Call (.Attribute o "count" p2) [e] [] p3) (xTM cnTD fo fe) := by
  obtain ⟨t, pt, q⟩ := ho.ex
  obtain ⟨t', pt', q'⟩ := he.ex
  refine ⟨_, pe_tm PySem.F.slot_tuple_count PySem.F.type_tuple_count (mt_tcn hu) pt (pa_cons pt' pa_nil hs) hbase hfew hline hs hplain, fun Hs0 H0 ρ σ Hs H Q e h => ?_⟩
  refine q _ _ ρ σ Hs H _ e ((PostA.bind h).mono fun ds Hs1 H1 s1 h1 a na => ?_)
  obtain ⟨ob, vs, a1, a2, a3⟩ := id na
  refine ⟨⟨a, ob, vs, rfl, s1.sub _ _ a1, a2⟩, q' _ _ ρ σ Hs1 H1 _ (e.step s1) ((PostA.bind h1).mono fun d Hs2 H2 s2 h2 v rv => ?_)⟩
  refine post_mk h2 fun hok h2 => ?_
  rw [Bool.and_eq_true, allL_eq, List.all_eq_true] at hok
  rw [count_ok hok.2] at h2
  exact ⟨a, v, d, ds, vs, rfl, rfl, .inl (.inr ⟨ob, s2.wh _ _ (s1.sub _ _ a1)⟩), RpAll.ex (s2.sh.trans s2.sub) a3, rv.whole s2.sub, hok.1, PostA.now s2.sub h2 _ (.of (.int _))⟩
end
end SB
end
end

section
set_option Elab.async false
set_option linter.all false
set_option maxRecDepth 100000
set_option maxHeartbeats 2000000
noncomputable section
namespace SB
open PySem PySem.Spec L2 Evl PyProof.Rows
/-! ### isinstance(e, (C, D, ..)) in a suite -/
def tK (vs : List V) : TA := fun _ H Q => Q vs H
section
variable {X : Cx} {W : WD} {pos : Pos}
theorem pa_k0 : PA X [] (tK []) := pa_nil
theorem pa_k1 {e : Expr} {es : List Expr} {v : V} {vs : List V} (h : PE X e (tC v)) (hr : PA X es (tK vs)) (hs : starEach (e :: es) X.env = (false, eval e X.env) :: starEach es X.env := by rfl) : PA X (e :: es) (tK (v :: vs)) := pa_cons h hr hs
theorem refs_vals : ∀ {Cs : List Addr} {its : List Value}, Vals (Cs.map V.ref) its → its = Cs.map Value.ref
  | [], _, h => by cases h; rfl
  | C :: Cs, _, h => by
    cases h with
    | cons h1 h2 =>
      cases h1
      rw [refs_vals h2]
      rfl
def rIsET (K : PySem.W.Frag) (D a : Addr) : List V → Hp → VK → Prop := fun xs H Q => ∃ (tp : Addr) (Cs : List Addr) (b : Bool), xs = [.ref a, .ref tp] ∧ SqT K H tp (Cs.map V.ref) ∧ PySem.W.kitAny K (.ref D) (Cs.map Value.ref) = some b ∧ Q (.bl b) H
theorem cr_isET {a D : Addr} {oe : Obj} {pn : List (Addr × Obj)} (C : ExcC X.K D) (hz : Zc (.ref D) none oe) (hf : ∃ vs, oe.data = .fields vs) : CallR (X.suite a ((a, oe) :: pn)) (.builtin "isinstance") (rIsET X.K D a) := by
  rintro pins s σ H xs us Q I r ⟨tp, Cs, b, rfl, hT, hk, q⟩
  obtain ⟨u1, u2, rfl, r1, r2⟩ := vals2 r
  cases r1
  cases r2
  obtain ⟨its, rv, pl, _⟩ := I.tuple hT
  have := refs_vals rv
  subst this
  obtain ⟨⟨cls, dd, dt, sl⟩, ho, hc, n, hdt⟩ := id pl
  simp only at hc hdt
  subst hc hdt
  obtain ⟨hget, _⟩ := I.pin (a, oe) (List.mem_append.mpr (.inl List.mem_cons_self))
  obtain ⟨vs, hv⟩ := hf
  have J : PySem.W.InstAt s.heap a oe D none := by
    obtain ⟨oc, od, oda, osl⟩ := oe
    obtain ⟨z1, z2⟩ := hz
    dsimp only at z1 z2 hv
    subst z1 z2 hv
    exact ⟨hget, rfl, rfl, trivial⟩
  exact PySem.W.kia_tup (PySem.W.handS_kitx_exc C.hg C.hk C.hs C.hd C.ha C.hn C.ht C.hm) I.kIn J ho hk (fun z => nomatch z) fun tk => ⟨.bl b, H, I.kept (t' := tk) fun _ _ z => z, rfl, q⟩
theorem de_isET {b : Bool} {a D : Addr} {oe : Obj} {pn : List (Addr × Obj)} {x : Str} {k : Bool} (i : Nat) {p p2 p3 : Pos} {m : Nat} {es : List Expr} (Cs : List Addr) (C : ExcC X.K D) (hz : Zc (.ref D) none oe) (hf : ∃ vs, oe.data = .fields vs) (hk : PySem.W.kitAny X.K (.ref D) (Cs.map Value.ref) = some k)
    (hes : PA (X.suite a ((a, oe) :: pn)) es (tK (Cs.map V.ref))) (hl : Cs.length ≤ 1000) (hm : X.mg "isinstance" = none) (hg : Gl X "isinstance" := by rfl) (hN : X.N[i]? = some x := by rfl) (hvis : Vis X.env.scope x := by first | exact Or.inl rfl | exact Or.inr (Or.inl rfl) | exact Or.inr (Or.inr rfl)) (hd : (x == ("__debug__" : Str)) = false := by decide)
    (hcd : (x == ("__classdict__" : Str)) = false := by decide)
    (hs : starEach (.Name x p2 :: [.Tuple es m p3]) X.env = (false, eval (.Name x p2) X.env) :: starEach [.Tuple es m p3] X.env := by rfl) (hs2 : starEach (.Tuple es m p3 :: []) X.env = (false, eval (.Tuple es m p3) X.env) :: starEach [] X.env := by rfl)
    (hpl : (backTo pos (starEach [.Tuple es m p3] X.env)).any (·.1) = false := by rfl) : DE (X.suite a ((a, oe) :: pn)) W b (.Call (.Name "isinstance" p) [.Name x p2, .Tuple es m p3] [] pos) (xIsE a k i) := by
  refine ⟨_, pe_callB (X := X.suite a ((a, oe) :: pn)) (cr_isET C hz hf) hg hm bt_isinstance (pa_cons (pe_var (i := i) hN hvis hd hcd) (pa_cons (pe_tup hes) pa_nil hs2) hs) (by decide) (by decide) hs hpl, fun Hs0 H0 ρ σ Hs H Q e h => ?_⟩
  unfold xIsE at h
  split at h
  · rename_i z hk'
    obtain ⟨a', h1, h2⟩ := e.nd i _ (lk_some hk')
    have h3 : z = ((a' : Nat) : Int) := by
      rcases h2 with h2 | ⟨h2, _⟩
      · simp only [List.cons.injEq, PyData.int.injEq, and_true, true_and] at h2
        exact h2
      · exact absurd rfl h2
    by_cases ha : z = ((a : Nat) : Int)
    · rw [if_pos ha] at h
      have : a' = a := by
        rw [h3] at ha
        exact Int.ofNat_inj.mp ha
      subst this
      refine ⟨_, h1, ?_, fun tp htp => ⟨tp, Cs, k, rfl, .inl (.inl upd_same), hk, ?_⟩⟩
      · rw [List.length_map, sizeLine_eq]; omega
      · exact h Hs _ (step_aside e.sub htp) _ (.of (.bl _))
    · rw [if_neg ha] at h
      exact h.elim
  · exact h.elim
theorem kitAny_of {K : PySem.W.Frag} {t : Value} {f : Addr → Bool} : ∀ {Cs : List Addr}, (∀ C, C ∈ Cs → PySem.W.kitOne K t (.ref C) = some (f C)) → PySem.W.kitAny K t (Cs.map Value.ref) = some (Cs.any f)
  | [], _ => rfl
  | C :: Cs, h => by
    have h1 := h C (by simp)
    have ih := kitAny_of (Cs := Cs) fun C' hc => h C' (by simp [hc])
    rw [List.map_cons, List.any_cons]
    unfold PySem.W.kitAny
    rw [h1]
    cases hf : f C with
    | true => simp
    | false => simpa using ih
def anyC (names : List Str) (c : Nat) (ks : List Nat) : Bool := ks.any (subC names c)
theorem kitAny_cls {names : List Str} {K : PySem.W.Frag} {mg : Str → Option Value} (cl : ∀ c, ClsAt names K mg c) (c : Nat) : ∀ {ks : List Nat}, (∀ k, k ∈ ks → k < names.length) → PySem.W.kitAny K (.ref (He.ga K (clsN names c))) ((ks.map fun k => He.ga K (clsN names k)).map Value.ref) = some (anyC names c ks)
  | [], _ => rfl
  | k :: ks, h => by
    have h1 := (cl c).kit k (h k (by simp))
    have ih := kitAny_cls cl c (ks := ks) fun k' hk => h k' (by simp [hk])
    unfold anyC at ih ⊢
    rw [List.map_cons, List.map_cons, List.any_cons]
    unfold PySem.W.kitAny
    rw [h1]
    cases hf : subC names c k with
    | true => simp
    | false => simpa using ih
/-! ### try with an object -/
def mark (ρ : DEnv) (i : Nat) (a : Addr) : DEnv := st ρ i (some (.ndt [PyData.none, PyData.int ((a : Nat) : Int)]))
def tsBO (K : PySem.W.Frag) (xc : Nat → Value) (fb : DEnv → Out) (W : WX) : TS := fun E σ H => ∃ Hs0 H0 ρ Hs, EnvOk K Hs0 H0 ρ σ Hs H ∧ PostS K (fun c σ H => W (xc c) none σ H) Hs0 H0 Hs E (fb ρ)
def tsSO (K : PySem.W.Frag) (xc : Nat → Value) (hit : Nat → Bool) (n i : Nat) (fs : Nat → Addr → DEnv → Out) (a : Addr) (cls : Value) (d : Option Addr) : TS := fun E σ H => ∃ c, hit c = true ∧ cls = xc c ∧ d = none ∧ ∃ Hs0 H0 Hs ρ, ρ.length = n ∧ EnvOk K Hs0 H0 (mark ρ i a) σ Hs H ∧ PostS K W0 Hs0 H0 Hs E (fs c a (mark ρ i a))
def sTryO (n : Nat) (ks : List Nat) (fb : DEnv → Out) (hit : Nat → Bool) (rs : Nat → D) : DEnv → Out := fun ρ => match fb ρ with
  | .excO c ρ' => if hit c = true then (if Nat.beq ρ'.length n = true then .retO (rs c) (kill ρ' ks) else .bad) else .excO c ρ'
  | .exc _ => .bad
  | o => o
theorem ds_tryO {xc : Nat → Value} (i n : Nat) (ks : List Nat) {x nm : Str} {cv : Value} {body suite : List Stmt} {b₀ : Stmt} {np pos' : Pos} {fb : DEnv → Out} {hit : Nat → Bool} {fs : Nat → Addr → DEnv → Out} {rs : Nat → D} (hs : X.stack = X.env :: X.outer) (hf : X.env.frame = some X.env.locals) (hN : X.N.Nodup) (tk : Tk X xc W)
    (hnm : Names X x cv) (hx : ∀ c, PySem.W.exmOne X.K (xc c) cv = some (hit c))
    (hb : ∀ (Wb : WD) (pn : List (Addr × Obj)) (xe : Value → Shared → Prop), Tk (X.tr pn xe) xc Wb → PassesOwn (model X.prog X.w) X.A X.env xe → DSs (X.tr pn xe) Wb body fb)
    (hsu : ∀ (c : Nat) (a : Addr) (oe : Obj) (pn : List (Addr × Obj)), hit c = true → L2N.Zn (xc c) none oe → (∃ vs, oe.data = .fields vs) → DSs (X.suite a ((a, oe) :: pn)) W0 (b₀ :: suite) (fs c a))
    (hq : ∀ (c : Nat) (a : Addr) (ρ : DEnv), hit c = true → ρ.length = n → ∃ ρ2, fs c a (mark ρ i a) = .retO (rs c) ρ2 ∧ kill ρ2 ks = kill ρ ks)
    (hi : X.N[i]? = some nm := by rfl) (hln : X.env.kindOf nm = some .local := by rfl) :
    DS X W (.Try body [.ExceptHandler (some (.Name x np)) (some nm) (b₀ :: suite) pos'] [] [] pos) (sTryO n ks fb hit rs) := by
  obtain ⟨Wo, tko, hW⟩ := tk
  refine ⟨_, L2N.ps_try_as (tb := tsBO X.K xc fb) (ts := tsSO X.K xc hit n i fs) hs hf hN hi hln hnm tko (fun W' pn xe tk' po => ?_) (fun a oe cls d pn hz hfl => ?_), fun Hs0 H0 ρ σ Hs H E e h => ?_⟩
  · obtain ⟨t, p, q⟩ := (hb (fun c σ H => W' (xc c) none σ H) pn xe ⟨W', tk', fun _ _ _ h => h⟩ po).ex
    exact ⟨fun pins s σ H D I ⟨Hs0, H0, ρ, Hs, e, hp⟩ => p.run pins s σ H D I (q Hs0 H0 ρ σ Hs H D e hp)⟩
  · refine ⟨fun pins s σ H D I h => ?_⟩
    obtain ⟨c, hc, rfl, rfl, Hs0, H0, Hs, ρ, _, e, hp⟩ := h
    obtain ⟨t, p, q⟩ := (hsu c a oe pn hc hz hfl).ex
    exact p.run pins s σ H D I (q Hs0 H0 _ σ Hs H D e hp)
  · unfold sTryO at h
    refine ⟨Hs0, H0, ρ, Hs, e, ?_⟩
    cases hf : fb ρ with
    | excO c ρ' =>
      rw [hf] at h
      intro σ' Hs' H' x' e'
      simp only at h
      refine ⟨hit c, hx c, fun hh a ha => ?_, fun hh => ?_⟩
      · rw [if_pos hh] at h
        by_cases hn : Nat.beq ρ'.length n = true
        · rw [if_pos hn] at h
          have hn := Nat.eq_of_beq_eq_true hn
          refine ⟨c, hh, rfl, rfl, Hs0, H0, Hs', ρ', hn, ?_, ?_⟩
          · unfold mark
            rw [st_eq]
            exact e'.setNd (.inl rfl)
          · obtain ⟨ρ2, q1, q2⟩ := hq c a ρ' hh hn
            rw [q1]
            intro v σ2 Hs2 H2 y1 y2 r2
            have y3 := y2.kill ks
            rw [q2] at y3
            exact h v σ2 Hs2 H2 (x'.trans y1) y3 r2
        · rw [if_neg hn] at h
          exact h.elim
      · rw [if_neg (by simp [hh])] at h
        exact hW c σ' H' (h σ' Hs' H' x' e')
    | exc c => rw [hf] at h; exact h.elim
    | next ρ' => rw [hf] at h; exact h
    | ret d => rw [hf] at h; exact h
    | brk ρ' => rw [hf] at h; exact h
    | cont ρ' => rw [hf] at h; exact h
    | bad => rw [hf] at h; exact h
    | retO d ρ' => rw [hf] at h; exact h
    | retN d ρ' => rw [hf] at h; exact h
end
end SB
end
end

section
set_option Elab.async false
set_option linter.all false
set_option maxRecDepth 100000
set_option maxHeartbeats 2000000
noncomputable section
namespace SB
open PySem PySem.Spec L2 Evl PyProof.Rows
/-! ### a lambda is made: of the heap nothing but its table changes -/
section
variable {X : Cx} {pins : List (Addr × Obj)} {σ : L2.St} {H : Hp} {s : Shared}
theorem lam_mk {c P : Addr} {q : Str} {params : Arguments} {body : Expr} {scope : Scope} {pos : Pos} {E : Value → Shared → Prop} {Q : Value → Shared → Prop} (I : Inv X pins σ H s) (TB : LamX.TabB X.base X.mg c P) (hcode : X.env.code = .ref c) (hq : X.env.qual ++ "<lambda>" = q) (hT : LamX.TabS H P q)
    (hdef : defaultsOf params X.env = ([], [])) (hfree : ∀ y ∈ scope.names, y.2 = .free → ∃ c, X.env.cells.lookup y.1 = some c)
    (h : ∀ (f c' : Addr) (pm ctv : Value) (H1 : Hp) (s1 : Shared), Inv X pins σ H1 s1 → (∀ b o, b ≠ P → H b = some o → H1 b = some o) → LamX.TabS H1 P q →
      s1.heap.get? f = some (PySem.W.kla_obj "<lambda>" q params body scope (cloFrom X.env.cells scope.names []) pm c' ctv) → H1 f = none → f ∉ frs X.stack → H1 c' = some (LamX.CodeO c' q) → Q (.ref f) s1) :
    wpAny (model X.prog X.w) X.A (eval (.Lambda params body scope pos) X.env) Q E s := by
  subst hq
  have far : ∀ f, s.heap.objs.size ≤ f → f ∉ frs X.stack := fun f hf z => (List.mem_cons.mp (I.stkSub _ z)).elim (fun e => by
    have h1 := I.lt
    rw [← e] at h1
    exact Nat.lt_irrefl _ (Nat.lt_of_lt_of_le h1 hf)) (I.nofs hf)
  obtain ⟨ps, hP, ht, ha⟩ := hT
  have gP : s.heap.get? P = some { cls := .none, data := .fields ps } := I.hok P _ hP
  have bP : s.heap.BuiltinsAt X.mg P := TB.bm.keeps I.bk
  refine PySem.W.kla_eval hdef ?_
  rcases hc : codeAmong pos ps.toList with _ | cv
  · refine PySem.W.kla_makeFunction (mg := X.mg) (ps := ps) (closure_ok hfree) I.ok.glob (I.mod.glob.keeps I.bk) hcode (TB.code.keeps I.bk) gP ht hc TB.gP bP fun c1 ctv h1 tk hx hge hlt hrec htb => ?_
    obtain ⟨_, oc, vs, t, e2, hoc, hd, hv⟩ := hrec
    cases e2
    have nC : H c1 = none := I.hok.fresh hge
    have hsz : s.heap.objs.size ≤ h1.objs.size := by omega
    have eL : (ps ++ #[rawInt pos.line, rawInt pos.col, .ref c1]).toList = ps.toList ++ [rawInt pos.line, rawInt pos.col, .ref c1] := by simp
    have keep : ∀ b o, b ≠ P → H b = some o → upd (upd H P (.tbl (ps ++ #[rawInt pos.line, rawInt pos.col, .ref c1]))) c1 (LamX.CodeO c1 (X.env.qual ++ "<lambda>")) b = some o := fun b o hb e => by
      rw [upd_ne (ne_of_none e nC), upd_ne hb]
      exact e
    refine h h1.objs.size c1 _ ctv _ _ (LamX.inv_table (t' := tk) (more := #[rawInt pos.line, rawInt pos.col, .ref c1]) I hP (fun b o hb e => Heap.get?_push_of_some _ (hx b o hb e)) (Heap.get?_push_of_some _ htb) hge ⟨oc, vs, t, Heap.get?_push_of_some _ hoc, hd, hv⟩) keep ⟨_, by rw [upd_ne (ne_of_none hP nC), upd_same], ?_, fun p' cv hcv => ?_⟩ (Heap.get?_push_size _ rfl) ?_ (far _ hsz) upd_same
    · rw [eL]
      exact PySem.TriplesOk_snoc _ _ _ _ ht
    · rw [eL] at hcv
      rcases LamX.among_app _ ht hcv with z | z
      · obtain ⟨c0, z1, z2⟩ := ha p' cv z
        refine ⟨c0, z1, keep c0 _ (fun w => ?_) z2⟩
        rw [w, hP] at z2
        exact LamX.codeO_ne _ (Option.some.inj z2).symm
      · exact ⟨c1, z, upd_same⟩
    · rw [upd_ne (Nat.ne_of_gt hlt), upd_ne (Nat.ne_of_gt (Nat.lt_of_lt_of_le (Heap.lt_size gP) hsz))]
      exact I.hok.fresh hsz
  · obtain ⟨c1, e, hco⟩ := ha pos cv hc
    subst e
    refine PySem.W.kla_makeFunctionHit (mg := X.mg) (ps := ps) (closure_ok hfree) I.ok.glob (I.mod.glob.keeps I.bk) hcode (TB.code.keeps I.bk) gP ht hc bP fun ctv h1 tk hx hsz => ?_
    exact h h1.objs.size c1 _ ctv H _ (I.kept fun b o e => Heap.get?_push_of_some _ (hx b o e)) (fun _ _ _ e => e) ⟨ps, hP, ht, ha⟩ (Heap.get?_push_size _ rfl) (I.hok.fresh hsz) (far _ hsz) hco
end
/-! ### x(lambda: body, n) -/
abbrev CZ (X : Cx) (Ng : List Str) (x : Str) (sg : Scope) (g : Addr) (cdg : Value) (s : Shared) (H : Hp) : Cx := cxOf C8.CX0 X.prog X.w X.K X.mg X.base Ng x sg g cdg X.A X.stack s H C8.E0
/-- the lambda called, in the def that got it, at the names σ0 -/
theorem pe_actX {X : Cx} {pins : List (Addr × Obj)} {σ : L2.St} {H : Hp} {s : Shared} {CXg : CXT} {Eg : XK} {Ng : List Str} {qg : Str} {sg : Scope} {g f c' : Addr} {cdg pm ctv : Value} {params : Arguments} {body : Expr} {scope : Scope} {k i : Nat} {a : Str} {pn : List (Addr × Obj)} {xe : Value → Shared → Prop} {W : WX} {E : XK} {tb : TE} {p1 p2 : Pos} {σ0 : L2.St}
    (I : Inv X pins σ H s) (L : LamX.LamS X.env.scope scope) (hf : s.heap.get? f = some (PySem.W.kla_obj "<lambda>" (X.env.qual ++ "<lambda>") params body scope (cloFrom X.env.cells scope.names []) pm c' ctv)) (hfn : H f = none) (hfr : f ∉ frs X.stack)
    (hbind : bindArgs (PySem.W.kla_fn "<lambda>" (X.env.qual ++ "<lambda>") params body scope (cloFrom X.env.cells scope.names []) pm (.ref c') ctv) ⟨[], []⟩ = pure [])
    (tk : L2.Takes ((cxOf CXg X.prog X.w X.K X.mg X.base Ng qg sg g cdg X.A X.stack s H Eg).tr pn xe) W) (hW : ∀ cls d H', E cls d H' → W cls d σ0 H') (hr : Room (k + 1) (X.A.deeper (envOfC qg sg s.heap.objs.size g cdg)))
    (hbody : ∀ (A : Around) (outer : List Env) (s : Shared) (H : Hp), Room k (A.deeper (LamX.lamEnv X scope s.heap.objs.size f c')) → PE (LamX.lamCx X A outer s H E scope f c') body tb)
    (hN : Ng[i]? = some a) (hv : Vis sg a) (hd : (a == ("__debug__" : Str)) = false) (hcd : (a == ("__classdict__" : Str)) = false) :
    PE ((cxOf CXg X.prog X.w X.K X.mg X.base Ng qg sg g cdg X.A X.stack s H Eg).tr pn xe) (.Call (.Name a p1) [] [] p2)
      (fun σZ HZ Q => σZ = σ0 ∧ σZ[i]? = some (some (.ref f)) ∧ HZ c' = some (LamX.CodeO c' (X.env.qual ++ "<lambda>")) ∧ tb σ HZ Q) := by
  refine ⟨fun pinsZ sZ σZ HZ Q IZ ⟨hσ, h1, h2, h3⟩ => ?_⟩
  subst hσ
  refine wpAny_Call_Name_kw (thn ((pe_var (pos := p1) (i := i) hN hv hd hcd).run pinsZ sZ σZ HZ (fun v H1 => v = .ref f ∧ H1 = HZ) IZ ⟨.ref f, h1, rfl, rfl⟩) fun u s1 ⟨v, H1, I1, r1, ev, eH⟩ => ?_)
  subst ev eH
  cases (show u = Value.ref f from r1)
  have of1 := I1.base.keep f _ hf hfn hfr (fun z => nomatch (show f ∈ ([] : List Addr) from z))
  refine PySem.W.callWith_F0 ⟨_, _, _, _, of1⟩ ?_
  have rc : codeAny (model X.prog X.w) (X.A.deeper (envOfC qg sg s.heap.objs.size g cdg)) (.call (.ref f) ⟨[], []⟩) (CR (L2.CX X.prog X.w) (envOfC qg sg s.heap.objs.size g cdg :: X.stack) X.prog X.w H1 s1 Q E) s1 := by
    obtain ⟨⟨oc, vs, t, hoc, hdc, hvc⟩, _, _⟩ := I1.hok c' _ h2
    refine PySem.W.kla_callFunE hr.depth of1 rfl L.co L.gen rfl ⟨c', oc, vs, t, rfl, hoc, hdc, hvc⟩ ?_
    rw [hbind]
    refine wpAny_pure (wpAny_newFunctionEnv (fun y hy => (L.own y hy).2) (fun y hy => absurd hy (by simp)) (fun h₁ hns hsb => ⟨I1.nolimit.fresh _ hsb, ?_⟩) L.kind)
    show codeAny _ _ (.expr body (LamX.lamEnv X scope s1.heap.objs.size f c')) _ _
    have J : Inv (LamX.lamCx X (X.A.deeper (envOfC qg sg s.heap.objs.size g cdg)) (envOfC qg sg s.heap.objs.size g cdg :: X.stack) s1 H1 E scope f c') [] σ H1 { s1 with heap := h₁, toks := s1.toks + ([] : List (Str × Value)).length } :=
      LamX.lam_start2 I L I1.env0 hr.hd I1.base hns fun b o e => hsb.extBut b o (Nat.ne_of_lt (Heap.lt_size e)) (Heap.get?_push_of_some _ e)
    exact PySem.W.kla_codeExpr (wpAny_mono ((hbody _ _ s1 H1 (hr.deeper _)).run [] _ _ H1 Q J h3) (fun v s2 ⟨w2, H2, J2, rv, q⟩ => ⟨w2, H2, J2.os, J2.bare, J2.base, J2.hok, rv, q⟩) fun e s2 hq => hq)
  refine wpAny_call (codeAny_mono rc fun r s2 hq => ?_)
  cases r with
  | error e => exact tk e s2 (L2.XE.of_call I1 hW hq)
  | ok fl =>
    cases fl with
    | ret u => exact I1.after hq
    | next => exact False.elim hq
    | brk => exact False.elim hq
    | cont => exact False.elim hq
/-- the def that calls what it got -/
def Gives2 (X : Cx) (Ng : List Str) (x : Str) (sg : Scope) (g : Addr) (cdg : Value) (bg : List Stmt) (a : Str) (q : Str) (v2 : V) (k : Nat) (TT : (XK → Hp → VK → Prop) → Hp → VK → Prop) : Prop :=
  ∀ (f c' : Addr) (s : Shared) (H : Hp) (Q : VK) (tl : XK → Hp → VK → Prop), Room (k + 1) (CZ X Ng x sg g cdg s H).A →
    (∀ (σ0 : L2.St) (W : WX) (pn : List (Addr × Obj)) (xe : Value → Shared → Prop) (E : XK) (p1 p2 : Pos), L2.Takes ((CZ X Ng x sg g cdg s H).tr pn xe) W → (∀ cls d H', E cls d H' → W cls d σ0 H') →
      PE ((CZ X Ng x sg g cdg s H).tr pn xe) (.Call (.Name a p1) [] [] p2) (fun σZ HZ Q => σZ = σ0 ∧ σZ[0]? = some (some (.ref f)) ∧ HZ c' = some (LamX.CodeO c' q) ∧ tl E HZ Q)) →
    H c' = some (LamX.CodeO c' q) → TT tl H Q →
    ∃ t, PSs (CZ X Ng x sg g cdg s H) bg t ∧ t { nx := fun _ H' => Q .non H', rt := Q } (L2.start Ng [.ref f, v2]) H
def tLam2 (P : Addr) (q : Str) (TT : (XK → Hp → VK → Prop) → Hp → VK → Prop) (t : XK → TE) : TE := fun σ H Q => LamX.TabS H P q ∧ ∀ H1, (∀ b o, b ≠ P → H b = some o → H1 b = some o) → LamX.TabS H1 P q → TT (fun E H' Q' => t E σ H' Q') H1 Q
section
variable {X : Cx}
theorem pe_lam2 {TT : (XK → Hp → VK → Prop) → Hp → VK → Prop} {x a b : Str} {g c P : Addr} {k : Nat} {pg : Arguments} {bg : List Stmt} {sg : Scope} {dV kV doc pm cdv ct oc : Value} {an od : Option Addr} {osl : Array (Option Value)} {Ng : List Str} {i2 : Int} {j2 : Nat}
    {params : Arguments} {body : Expr} {scope : Scope} {t : XK → TE} {q : Str} {p lpos pos pc : Pos} (hg : Gl X x) (hm : X.mg x = some (.ref g)) (hk : PySem.W.keepIn X.K (.ref g) = true)
    (lk : X.K.lookup g = some ⟨oc, od, .func (PySem.W.fnOf x x pg bg sg dV kV doc pm an cdv ct), osl⟩) (hcg : PySem.W.codeIn X.K cdv x = true) (hb : L2.Binds X.K (PySem.W.fnOf x x pg bg sg dV kV doc pm an cdv ct) [a, b] []) (Sg : FnScope Ng [a, b] sg) (hNg : Ng[0]? = some a) (hva : Vis sg a)
    (hG : Gives2 X Ng x sg g cdv bg a q (.int i2) k TT)
    (TB : LamX.TabB X.base X.mg c P) (hcode : X.env.code = .ref c) (hq : X.env.qual ++ "<lambda>" = q) (hr : Room (k + 2) X.A) (L : LamX.LamS X.env.scope scope) (hdef : defaultsOf params X.env = ([], []))
    (hbind : ∀ (q : Str) (cl : List (Str × Addr)) (pm cv ctv : Value), bindArgs (PySem.W.kla_fn "<lambda>" q params body scope cl pm cv ctv) ⟨[], []⟩ = pure [])
    (hbody : ∀ (A : Around) (outer : List Env) (s : Shared) (H : Hp) (E : XK) (f c' : Addr), Room k (A.deeper (LamX.lamEnv X scope s.heap.objs.size f c')) → PE (LamX.lamCx X A outer s H E scope f c') body (t E))
    (hdb : (x == ("__debug__" : Str)) = false := by decide) (hd : (a == ("__debug__" : Str)) = false := by decide) (hcd : (a == ("__classdict__" : Str)) = false := by decide)
    (he : starEach [.Lambda params body scope lpos, .Constant (.int i2) j2 pc] X.env = (false, eval (.Lambda params body scope lpos) X.env) :: starEach [.Constant (.int i2) j2 pc] X.env := by rfl)
    (he2 : starEach [.Constant (.int i2) j2 pc] X.env = (false, eval (.Constant (.int i2) j2 pc) X.env) :: starEach [] X.env := by rfl) (hpl : (backTo pos (starEach [.Constant (.int i2) j2 pc] X.env)).any (·.1) = false := by rfl) :
    PE X (.Call (.Name x p) [.Lambda params body scope lpos, .Constant (.int i2) j2 pc] [] pos) (tLam2 P q TT t) := by
  refine ⟨fun pins s σ H Q I ⟨hT, h⟩ => wpAny_Call_Name_kw (ld_glob I hg hm ?_ hdb)⟩
  refine PySem.W.callWith_K (h₀ := X.base) I.ok.mod.kin hk ?_ he hpl
  rw [he, he2]
  show wpAny _ _ (spliced ((false, eval (.Lambda params body scope lpos) X.env) :: (false, eval (.Constant (.int i2) j2 pc) X.env) :: backTo pos (starEach [] X.env))) _ _ s
  refine Calls.spliced_cons (lam_mk I TB hcode hq hT hdef (L.has I.ok) fun f c1 pm1 ctv H1 s1 I1 eN T1 hf hfn hfr hco => Calls.spliced_cons (wpAny_Constant_int (Calls.spliced_nil ?_)))
  have I2 := I1.tok (s1.toks + 1)
  refine ⟨I2.kIn, ?_⟩
  have hf2 : ({ s1 with toks := s1.toks + 1 } : Shared).heap.get? f = some (PySem.W.kla_obj "<lambda>" (X.env.qual ++ "<lambda>") params body scope (cloFrom X.env.cells scope.names []) pm1 c1 ctv) := by rw [hq]; exact hf
  refine wpAny_call (codeAny_mono (LamX.run_ofS (CX := C8.CX0) (E := C8.E0) (Q := Q) (N := Ng) (ps := [a, b]) (us := [.ref f, .int i2 s1.toks]) (vs := [.ref f, .int i2]) lk hcg Sg hr I2.env0 (hb _ [.ref f, .int i2 s1.toks] I2.kIn rfl) (.cons rfl (.cons ⟨_, rfl⟩ .nil)) rfl fun hr1 => ?_) fun r s2 hr2 => ?_)
  · refine hG f c1 _ H1 Q (fun E H' Q' => t E σ H' Q') hr1 (fun σ0 W pn xe E p1 p2 tk hW => ?_) hco (h H1 eN T1)
    have := pe_actX (i := 0) (σ0 := σ0) I2 L hf2 hfn hfr (hbind _ _ _ _ _) tk hW hr1 (fun A outer s H hr3 => hbody A outer s H E f c1 hr3) hNg hva hd hcd (p1 := p1) (p2 := p2)
    rw [hq] at this
    exact this
  · cases r with
    | error e => exact (show False from hr2).elim
    | ok fl =>
      cases fl with
      | ret u => exact I2.after hr2
      | next => exact False.elim hr2
      | brk => exact False.elim hr2
      | cont => exact False.elim hr2
end
end SB
end
end

section
set_option Elab.async false
set_option linter.all false
set_option maxRecDepth 100000
set_option maxHeartbeats 2000000
noncomputable section
namespace SB
open PySem PySem.Spec L2 Evl PyProof.Rows
theorem sky_imp {B : Heap} {l : List Env} {a L : Addr} {Z Z' : Obj → Prop} {h : Heap} (k : ∀ o, Z o → Z' o) (x : Sky B l a Z L h) : Sky B l a Z' L h := by
  rcases x with ⟨x1, x2, x3, oe, vs, x4, x5, x6⟩ | ⟨x1, x2, x3, oe, vs, T, oT, ts, x4, x5, x6⟩ | ⟨x1, x2, x3, oe, vs, T, oT, ts, x4, x5, x6⟩
  · exact .inl ⟨x1, x2, x3, oe, vs, x4, k _ x5, x6⟩
  · exact .inr (.inl ⟨x1, x2, x3, oe, vs, T, oT, ts, x4, k _ x5, x6⟩)
  · exact .inr (.inr ⟨x1, x2, x3, oe, vs, T, oT, ts, x4, k _ x5, x6⟩)
theorem takesN {X : Cx} {W : WX} (t : L2.Takes X W) : L2N.Takes X W := fun u s' ⟨a, B, sI, pins, σ, H, cls, d, e, I, nb, up, sky, na, os, ag, w⟩ =>
  t u s' ⟨a, B, sI, pins, σ, H, cls, d, e, I, nb, up, sky_imp (fun _ z => z.zc) sky, na, os, ag, w⟩
theorem tkL {X : Cx} {xc : Nat → Value} {A : Around} {outer : List Env} {s : Shared} {H : Hp} {E : XK} {scope : Scope} {f c' : Addr} : Tk (LamX.lamCx X A outer s H E scope f c') xc (WDof xc E) :=
  ⟨_, takesN (L2.takes_of rfl rfl rfl rfl), fun _ _ _ h => h⟩
/-- the table has changed -/
theorem EnvOk.tabStep {K : PySem.W.Frag} {Hs0 : Hp} {H0 : Hp0} {Hs H H1 : Hp} {ρ : DEnv} {σ : L2.St} {i : Nat} (e : EnvOk K Hs0 H0 ρ σ Hs H) (hi : ρ[i]? = some (some LV.tabs)) (hiv : H0.iv H1)
    (k : ∀ b o, b ≠ (He.cT K theD).2 → H b = some o → H1 b = some o) (T1 : LamX.TabS H1 (He.cT K theD).2 theQ) : EnvOk K Hs0 H0 ρ σ Hs H1 := by
  obtain ⟨t1, t2⟩ := e.tb i hi
  have mT : ((He.cT K theD).2, theQ) ∈ theT K := List.mem_singleton.mpr rfl
  obtain ⟨hS, h0⟩ := t2 _ mT
  obtain ⟨ps, hP⟩ := tabs_at t1 mT
  have tT : LamX.Tabs (theT K) H1 := fun p hp => by
    cases List.mem_singleton.mp hp
    exact T1
  have ne : ∀ {b : Addr} {o : HO}, H b = some o → soft o = true → b ≠ (He.cT K theD).2 := fun {b o} q n z => by
    rw [z, hP] at q
    cases q
    cases n
  refine ⟨e.len, hiv, fun j q => ⟨tT, t2⟩, e.pa, fun b o q => k b o (fun z => by rw [z, hS] at q; cases q) (e.sub b o q), e.sh0, fun b o q => k b o (fun z => by rw [z, h0] at q; cases q) (e.wh0 b o q), e.aw0, e.dat, e.nd, fun j x hx q => ?_, e.inj, fun j rows q => ?_⟩
  · obtain ⟨a, o, h1, h2, h3, h4, h5⟩ := e.ow j x hx q
    exact ⟨a, o, h1, h2, h3, k a o (ne h4 h5.soft) h4, h5⟩
  · obtain ⟨a, as, h1, h2, h3⟩ := e.gr j rows q
    refine ⟨a, as, h1, ⟨h2.nd, h2.new, k _ _ (ne h2.out rfl) h2.out, ?_⟩, h3⟩
    have : ∀ {as : List Addr} {rows : List (List Int)}, GrRows H as rows → GrRows H1 as rows := by
      intro as rows g
      induction g with
      | nil => exact .nil
      | cons h _ ih => exact .cons (k _ _ (ne h rfl) h) ih
    exact this h2.ins
section
variable {X : Cx} {W : WD} {pos : Pos}
/-! ### list.count of any data -/
def rLCn (K : PySem.W.Frag) : V → List V → Hp → VK → Prop := fun x xs H Q => ∃ (a : Addr) (y : V) (d : D) (ds : List D) (vs : List V), x = .ref a ∧ xs = [y] ∧ SqL K H a vs ∧ RpAll K H vs ds ∧ Rp K H y d ∧ depOk d = true ∧ Q (.int ((ds.countP fun z => PyData.eqv z d : Nat) : Int)) H
theorem mt_lcnD (hu : X.A.units + 65 < cLine) : MtR X "list.count" (rLCn X.K) := by
  rintro pins s σ H x xs v us Q I rx rxs ⟨a, y, d, ds, vs, rfl, rfl, hL, rd, ry, hd, q⟩
  cases rx
  obtain ⟨u, rfl, ru⟩ := vals1 rxs
  obtain ⟨its, rv, pl, _⟩ := I.list hL
  obtain ⟨as, ra⟩ := Dp.readsAll I ds vs its (RpAll.dp rd) rv
  obtain ⟨bs, rb⟩ := Dp.reads I d y u (Rp.dp ry) ru
  have ra' : ReadsAll s.heap its.toArray.toList ds as := by simpa using ra
  exact SeqAt.count_list_data pl.isList ra' rb (RpAll.plain rd) (Rp.plain ry) (min_depA hu hd) ⟨.int _, H, I.tok _, ⟨_, rfl⟩, q⟩
def xLcnt (fo fe : DEnv → Res D) : DEnv → Res D := fun ρ => (fo ρ).bind fun x => (asLst x).bind fun xs => (fe ρ).bind fun y => cnTD xs y
theorem de_lcnt {b : Bool} {o e : Expr} {fo fe : DEnv → Res D} {p2 p3 : Pos} (hu : X.A.units + 65 < cLine) (ho : DE X W true o fo) (he : DE X W true e fe) (hbase : attributeBase o "count" X.env (eval o X.env) = eval o X.env := by rfl)
    (hfew : ((backTo p3 (starEach [e] X.env)).all (fun x => !x.1) && (backToKw p3 (keywordEach [] X.env)).all (fun x => x.1.isSome) && decide ([e].length + ([] : List Keyword).length + (if ([] : List Keyword).isEmpty then 0 else 1) < 30)) = true := by rfl)
    (hline : (p2.endLine == p3.line) = true := by rfl) (hs : starEach [e] X.env = (false, eval e X.env) :: starEach [] X.env := by rfl) (hplain : (backTo p3 (starEach [] X.env)).any (·.1) = false := by rfl) :
    DE X W b (.Call (.Attribute o "count" p2) [e] [] p3) (xLcnt fo fe) := by
  obtain ⟨t, pt, q⟩ := ho.ex
  obtain ⟨t', pt', q'⟩ := he.ex
  refine ⟨_, pe_bm PySem.F.plainAttrs_list PySem.F.slot_list_count PySem.F.type_list_count (mt_lcnD hu) pt (pa_cons pt' pa_nil hs) hbase hfew hline hs hplain, fun Hs0 H0 ρ σ Hs H Q e h => ?_⟩
  refine q _ _ ρ σ Hs H _ e ((PostA.bind h).mono fun d Hs1 H1 s1 h1 v rv => ?_)
  cases d with
  | list xs =>
    have rv0 := rv
    obtain ⟨a, vs, rfl, g1, r1⟩ := rv.list s1.sub
    replace h1 : PostA W σ Hs1 H1 (fun d Hs' H' => ∀ v, Rep b X.K Hs' H' v d → Q v H') ((fe ρ).bind fun y => cnTD xs y) := h1
    refine ⟨.inl ⟨rfl, vs, g1⟩, q' _ _ ρ σ Hs1 H1 _ (e.step s1) ((PostA.bind h1).mono fun d' Hs2 H2 s2 h2 v' rv' => ?_)⟩
    refine post_mk h2 fun hok h2 => ?_
    rw [Bool.and_eq_true, allL_eq, List.all_eq_true] at hok
    rw [count_ok hok.2] at h2
    obtain ⟨a2, vs2, z1, g2, r2⟩ := ((rv0.step s2).list s2.sub)
    cases z1
    exact ⟨a, v', d', xs, vs2, rfl, rfl, g2, RpAll.ex s2.sub r2, rv'.whole s2.sub, hok.1, PostA.now s2.sub h2 _ (.of (.int _))⟩
  | _ => exact h1.elim
/-! ### x(lambda: .., n): whether it is refused so -/
def TTr (xc : Nat → Value) (hit : Nat → Bool) (rs : Nat → Bool) : (XK → Hp → VK → Prop) → Hp → VK → Prop := fun tl H Q =>
  tl (fun cls d H1 => ∃ c, hit c = true ∧ cls = xc c ∧ d = none ∧ ∀ H2, Ex H1 H2 → Q (.bl (rs c)) H2) H (fun _ H1 => Q (.bl false) H1)
def refEnv (n i : Nat) (k : Int) (a : Addr) : DEnv := st (st (List.replicate n none) 1 (some (.dat (.int k)))) i (some (.ndt [PyData.none, PyData.int ((a : Nat) : Int)]))
def tsR (K : PySem.W.Frag) (xc : Nat → Value) (hit : Nat → Bool) (n i : Nat) (k : Int) (fs : Nat → Addr → DEnv → Out) (a : Addr) (cls : Value) (d : Option Addr) : TS := fun E σ H => ∃ c, hit c = true ∧ cls = xc c ∧ d = none ∧ ∃ Hs0 H0 Hs, EnvOk K Hs0 H0 (refEnv n i k a) σ Hs H ∧ PostS K W0 Hs0 H0 Hs E (fs c a (refEnv n i k a))
theorem gives_ref {xc : Nat → Value} {Ng : List Str} {x a q y nm : Str} {sg : Scope} {g : Addr} {cdg cv : Value} (i n : Nat) {k : Int} {kk : Nat} {hit : Nat → Bool} {rs : Nat → Bool} {fs : Nat → Addr → DEnv → Out} {suite : List Stmt} {b₀ : Stmt} {p1 p2 p3 p4 p5 np pos' : Pos} {jf : Nat}
    (hN : Ng.Nodup) (hn : Ng.length = n) (hi : Ng[i]? = some nm) (hln : sg.names.lookup nm = some .local) (hy : sg.names.lookup y = some .globalImplicit) (hdy : (y == ("__debug__" : Str)) = false) (hmy : X.mg y = some cv) (h2n : 2 ≤ i)
    (hx : ∀ c, PySem.W.exmOne X.K (xc c) cv = some (hit c))
    (hsu : ∀ (s : Shared) (H : Hp) (c : Nat) (b : Addr) (oe : Obj) (pn : List (Addr × Obj)), Room (kk + 1) (CZ X Ng x sg g cdg s H).A → hit c = true → Zc (xc c) none oe → (∃ vs, oe.data = .fields vs) → DSs ((CZ X Ng x sg g cdg s H).suite b ((b, oe) :: pn)) W0 (b₀ :: suite) (fs c b))
    (hq : ∀ (c : Nat) (b : Addr), hit c = true → fs c b (refEnv n i k b) = .ret (.bool (rs c)))
    (hex : ∀ (f : Addr) (s : Shared) (H : Hp) (pn : List (Addr × Obj)) (xe : Value → Shared → Prop), swapsWith (.Call (.Name a p1) [] [] p2) none p3.line ((CZ X Ng x sg g cdg s H).tr pn xe).env = pure false) :
    Gives2 X Ng x sg g cdg [.Try [.Expr (.Call (.Name a p1) [] [] p2) p3, .Return (some (.Constant (.bool false) jf p4)) p5] [.ExceptHandler (some (.Name y np)) (some nm) (b₀ :: suite) pos'] [] [] pos] a q (.int k) kk (TTr xc hit rs) := by
  intro f c' s H Q tl hroom act hc h
  have hl1 : (L2.start Ng [V.ref f, V.int k]).length = n := by
    unfold L2.start
    have : 2 ≤ Ng.length := by
      have := (List.getElem?_eq_some_iff.mp hi).1
      omega
    simp
    omega
  refine ⟨_, pss_one (L2.ps_try_as (X := CZ X Ng x sg g cdg s H) (i := i) (c := cv) (Wout := fun _ _ _ _ => False)
      (tb := fun W D σ H => ∃ Ech : XK, (∀ cls d H', Ech cls d H' → W cls d σ H') ∧ σ[0]? = some (some (.ref f)) ∧ H c' = some (LamX.CodeO c' q) ∧ tl Ech H fun _ H1 => D.rt (.bl false) H1)
      (ts := tsR X.K xc hit n i k fs) rfl rfl hN hi hln ⟨hy, hdy, .inl hmy⟩ LamX.takes0 (fun W pn xe tk _ => ⟨fun pins s' σ H' D I h' => ?_⟩) (fun b oe cls d pn hz hfl => ⟨fun pins s' σ H' D I h' => ?_⟩)), ?_⟩
  · obtain ⟨Ech, hW, h1, h2, h3⟩ := h'
    exact (pss_cons (ps_expr (act σ W pn xe Ech p1 p2 tk hW) (hex f s H pn xe)) (pss_one (ps_ret pe_bl))).run pins s' σ H' D I ⟨rfl, h1, h2, h3⟩
  · obtain ⟨c, hcc, rfl, rfl, Hs0, H0, Hs, e, hp⟩ := h'
    obtain ⟨t, p, q⟩ := (hsu s H c b oe pn hroom hcc hz hfl).ex
    exact p.run pins s' σ H' D I (q Hs0 H0 _ σ Hs H' D e hp)
  · refine ⟨fun cls d H1 => ∃ c, hit c = true ∧ cls = xc c ∧ d = none ∧ ∀ H2, Ex H1 H2 → Q (.bl (rs c)) H2, fun cls d H1 ⟨c, hcc, e1, e2, hQ⟩ => ?_, rfl, hc, h⟩
    subst e1 e2
    refine ⟨hit c, hx c, fun _ b hb => ⟨c, hcc, rfl, rfl, fun _ => none, hp0 H1, fun _ => none, ?_, ?_⟩, fun z => by rw [hcc] at z; cases z⟩
    · have e0 : EnvOk X.K (fun _ => none) (hp0 H1) (List.replicate n none) (L2.start Ng [V.ref f, V.int k]) (fun _ => none) H1 := by
        have no : ∀ (j : Nat) (x : LV), (List.replicate n (none : Option LV))[j]? = some (some x) → False := fun j x hj => by
          rw [List.getElem?_replicate] at hj
          split at hj <;> cases hj
        exact ⟨by rw [List.length_replicate, hl1], trivial, fun j z => (no j _ z).elim, fun j m x z => (no j _ z).elim, (fun _ _ z => nomatch z), (fun _ _ z => nomatch z), Ex.refl _, fun _ _ _ z => z, fun j d z => (no j _ z).elim, fun j d z => (no j _ z).elim, fun j x _ z => (no j _ z).elim, fun j _ x _ _ _ _ z => (no j _ z).elim, fun j rows z => (no j _ z).elim⟩
      have e1 := e0.set (i := 1) (v := .int k) (d := .int k) (.int k)
      have hset : (L2.start Ng [V.ref f, V.int k]).set 1 (some (V.int k)) = L2.start Ng [V.ref f, V.int k] := by
        unfold L2.start
        rfl
      rw [hset] at e1
      unfold refEnv
      rw [st_eq, st_eq]
      exact e1.setNd (.inl rfl)
    · rw [hq c b hcc]
      intro v Hs2 H2 st2 rv
      cases rv
      exact hQ H2 st2.wh
def xRef (it : Nat) (hit : Nat → Bool) (rs : Nat → Bool) (fb : DEnv → Res D) : DEnv → RX D := fun ρ => match lk ρ it with
  | some .tabs => (match fb ρ with
    | .ok _ => .ok (.bool false) ρ
    | .exc c => if hit c = true then .ok (.bool (rs c)) ρ else .bad
    | .bad => .bad)
  | _ => .bad
theorem dx_ref {xc : Nat → Value} (it : Nat) {x a b : Str} {g c : Addr} {k : Nat} {pg : Arguments} {bg : List Stmt} {sg : Scope} {dV kV doc pm cdv ct oc : Value} {an od : Option Addr} {osl : Array (Option Value)} {Ng : List Str} {i2 : Int} {j2 : Nat}
    {params : Arguments} {body : Expr} {scope : Scope} {hit : Nat → Bool} {rs : Nat → Bool} {fb : DEnv → Res D} {p lpos pc : Pos} (hg : Gl X x) (hm : X.mg x = some (.ref g)) (hk : PySem.W.keepIn X.K (.ref g) = true)
    (lkg : X.K.lookup g = some ⟨oc, od, .func (PySem.W.fnOf x x pg bg sg dV kV doc pm an cdv ct), osl⟩) (hcg : PySem.W.codeIn X.K cdv x = true) (hb : L2.Binds X.K (PySem.W.fnOf x x pg bg sg dV kV doc pm an cdv ct) [a, b] []) (Sg : FnScope Ng [a, b] sg) (hNg : Ng[0]? = some a) (hva : Vis sg a)
    (hG : Gives2 X Ng x sg g cdv bg a theQ (.int i2) k (TTr xc hit rs))
    (TB : LamX.TabB X.base X.mg c (He.cT X.K theD).2) (hcode : X.env.code = .ref c) (hq : X.env.qual ++ "<lambda>" = theQ) (hr : Room (k + 2) X.A) (L : LamX.LamS X.env.scope scope) (hdef : defaultsOf params X.env = ([], []))
    (hbind : ∀ (q : Str) (cl : List (Str × Addr)) (pm cv ctv : Value), bindArgs (PySem.W.kla_fn "<lambda>" q params body scope cl pm cv ctv) ⟨[], []⟩ = pure [])
    (hbody : ∀ (A : Around) (outer : List Env) (s : Shared) (H : Hp) (E : XK) (f c' : Addr), Room k (A.deeper (LamX.lamEnv X scope s.heap.objs.size f c')) → DE (LamX.lamCx X A outer s H E scope f c') (WDof xc E) false body fb)
    (hdb : (x == ("__debug__" : Str)) = false := by decide) (hd : (a == ("__debug__" : Str)) = false := by decide) (hcd : (a == ("__classdict__" : Str)) = false := by decide)
    (he : starEach [.Lambda params body scope lpos, .Constant (.int i2) j2 pc] X.env = (false, eval (.Lambda params body scope lpos) X.env) :: starEach [.Constant (.int i2) j2 pc] X.env := by rfl)
    (he2 : starEach [.Constant (.int i2) j2 pc] X.env = (false, eval (.Constant (.int i2) j2 pc) X.env) :: starEach [] X.env := by rfl) (hpl : (backTo pos (starEach [.Constant (.int i2) j2 pc] X.env)).any (·.1) = false := by rfl) :
    DX X W (.Call (.Name x p) [.Lambda params body scope lpos, .Constant (.int i2) j2 pc] [] pos) (xRef it hit rs fb) := by
  refine ⟨_, pe_lam2 (t := fun E => tOf X.K (WDof xc E) false fb) hg hm hk lkg hcg hb Sg hNg hva hG TB hcode hq hr L hdef hbind (fun A outer s H E f c' hr' => (hbody A outer s H E f c' hr').pe) hdb hd hcd he he2 hpl, fun Hs0 H0 ρ σ Hs H Q e h => ?_⟩
  unfold xRef at h
  split at h
  · rename_i htb
    have hi := lk_some htb
    obtain ⟨t1, t2⟩ := e.tb it hi
    have mT : ((He.cT X.K theD).2, theQ) ∈ theT X.K := List.mem_singleton.mpr rfl
    refine ⟨t1 _ mT, fun H1 keep T1 => ?_⟩
    have hiv : H0.iv H1 := H0.st _ _ (fun b o q n => keep b o (fun z => by
      obtain ⟨ps, hP⟩ := tabs_at t1 mT
      rw [z, hP] at q
      cases q
      cases n) q) e.iv
    have e1 := e.tabStep hi hiv keep T1
    refine ⟨Hs0, H0, ρ, Hs, e1, ?_⟩
    cases hf : fb ρ with
    | bad => rw [hf] at h; exact h.elim
    | ok d =>
      rw [hf] at h
      exact fun Hs2 H2 s2 v _ => h Hs2 H2 s2.sh (e1.step s2) _ (.bl false)
    | exc c0 =>
      rw [hf] at h
      simp only at h
      by_cases hh : hit c0 = true
      · rw [if_pos hh] at h
        exact fun Hs2 H2 s2 => ⟨c0, hh, rfl, rfl, fun H3 x3 => h Hs2 H3 s2.sh ((e1.step s2).step ⟨Ex.refl _, x3, s2.sub.trans x3, fun _ _ _ z => z⟩) _ (.bl _)⟩
      · rw [if_neg hh] at h
        exact h.elim
  · exact h.elim
end
end SB
end
end

section
set_option Elab.async false
set_option linter.all false
set_option maxRecDepth 100000
set_option maxHeartbeats 2000000
noncomputable section
namespace SB
open PySem PySem.Spec L2 Evl PyProof.Rows
/-! ### < of fillings -/
def rLtD (K : PySem.W.Frag) : R2 := fun x y H Q => ∃ d e, Rp K H x d ∧ Rp K H y e ∧ rk 2 d = true ∧ rk 2 e = true ∧ Q (.bl (PySem.W.dataLt d e)) H
section
variable {X : Cx}
theorem op_ltD (hu : X.A.units + 65 < cLine) : OpR X (compareOp .Lt) (rLtD X.K) := by
  rintro pins s σ H x y v u Q I rx ry ⟨d, e, hd, he, k1, k2, q⟩
  obtain ⟨as, ra⟩ := Dp.reads I d x v (Rp.dp hd) rx
  obtain ⟨bs, rb⟩ := Dp.reads I e y u (Rp.dp he) ry
  refine PySem.W.lt_data ra rb (rk_alike k1 k2) (fun z => by rw [z] at k1; cases k1) ?_ ⟨.bl _, H, I, rfl, q⟩
  have := min_dep (d := d) (e := e) (A := X.A) (by omega) (rk_dp k1 (by omega))
  exact this
def ltTD (a c : D) : Res D := if (rk 2 a && rk 2 c) = true then .ok (.bool (ltE a c)) else .bad
theorem opd_ltT (hu : X.A.units + 65 < cLine) : OpD X (compareOp .Lt) ltTD := by
  refine ⟨_, op_ltD hu, fun W σ Hs H x y a c Q e rx ry h => ?_⟩
  refine post_mk h fun hk h => ?_
  rw [Bool.and_eq_true] at hk
  refine ⟨a, c, rx.whole e, ry.whole e, hk.1, hk.2, ?_⟩
  rw [← ltN_ok (n := 2) (m := 3) hk.1 hk.2 (by omega) (by omega)]
  exact h.now e _ (.of (.bl _))
end
/-! ### the law whose lambdas change the table of its code -/
def tabA (K : PySem.W.Frag) : Addr := (He.cT K theD).2
def env0T (N : List Str) (d : D) : DEnv := some (.dat d) :: (List.replicate (N.length - 2) none ++ [some .tabs])
def spT (K : PySem.W.Frag) : Sp := fun vs H Q _ => ∃ (a : Addr) (ns : List Int), vs = [.ref a] ∧ ns.length ≤ 63 ∧ SqL K H a (ns.map V.int) ∧ H (tabA K) = some (.tbl #[]) ∧ ∀ H', Q (.bl true) H'
theorem envT_ok {K : PySem.W.Frag} {N : List Str} {H : Hp} {a : Addr} {ns : List Int} (hN : 2 ≤ N.length) (hS : SqL K (del H (tabA K)) a (ns.map V.int)) (hT : H (tabA K) = some (.tbl #[])) :
    EnvOk K (del H (tabA K)) ⟨del H (tabA K), [], fun _ => True, fun _ _ _ h => h⟩ (env0T N (.list (ns.map .int))) (L2.start N [.ref a]) (del H (tabA K)) H := by
  have hi : ∀ ms : List Int, RpAll K (del H (tabA K)) (ms.map V.int) (ms.map .int) := by
    intro ms
    induction ms with
    | nil => exact .nil
    | cons m ms ih => exact .cons (.int m) ih
  have pick : ∀ (i : Nat) (x : LV), (env0T N (.list (ns.map .int)))[i]? = some (some x) → (i = 0 ∧ x = .dat (.list (ns.map .int))) ∨ x = .tabs := fun i x h => by
    unfold env0T at h
    cases i with
    | zero =>
      rw [List.getElem?_cons_zero] at h
      cases h
      exact .inl ⟨rfl, rfl⟩
    | succ i =>
      rw [List.getElem?_cons_succ] at h
      by_cases hl : i < N.length - 2
      · rw [List.getElem?_append_left (by simpa using hl), List.getElem?_replicate] at h
        split at h <;> cases h
      · rw [List.getElem?_append_right (by simpa using hl)] at h
        cases hm : i - (List.replicate (N.length - 2) (none : Option LV)).length with
        | zero => rw [hm] at h; cases h; exact .inr rfl
        | succ m => rw [hm] at h; simp at h
  refine ⟨?_, trivial, fun i _ => ⟨fun p hp => ?_, fun p hp => ?_⟩, fun i k x h q => ?_, del_ex, Ex.refl _, del_ex, fun _ _ _ n => n, fun i d h => ?_, fun i d h => ?_, fun i x hx h => ?_, fun i j x y c hx hy p q r s => ?_, fun i rows h => ?_⟩
  · unfold env0T L2.start
    simp
    omega
  · cases List.mem_singleton.mp hp
    exact LamX.TabS.nil hT
  · cases List.mem_singleton.mp hp
    exact ⟨del_same, del_same⟩
  · rcases pick i x h with ⟨_, rfl⟩ | rfl <;> cases q
  · rcases pick i _ h with ⟨rfl, z⟩ | z
    · cases z
      exact ⟨.ref a, rfl, .lst hS (hi ns)⟩
    · cases z
  · rcases pick i _ h with ⟨rfl, z⟩ | z <;> cases z
  · rcases pick i x h with ⟨_, rfl⟩ | rfl <;> cases hx
  · rcases pick i x p with ⟨_, rfl⟩ | rfl <;> cases hx
  · rcases pick i _ h with ⟨rfl, z⟩ | z <;> cases z
theorem sq_del {K : PySem.W.Frag} {H : Hp} {a P : Addr} {xs : List V} (h : SqL K H a xs) (hT : H P = some (.tbl #[])) : SqL K (del H P) a xs := by
  rcases h with h | h
  · have ne : a ≠ P := fun z => by
      rcases h with h | ⟨ob, h⟩ <;> rw [z, hT] at h <;> cases h
    refine .inl ?_
    rcases h with h | ⟨ob, h⟩
    · exact .inl (by rw [del_ne ne]; exact h)
    · exact .inr ⟨ob, by rw [del_ne ne]; exact h⟩
  · exact .inr h
section
variable {P : Program} {w : World} {K : PySem.W.Frag} {mg : Str → Option Value} {base : Heap} {xc : Nat → Value}
theorem fnT_ok {x : Str} {params : Arguments} {body : List Stmt} {scope : Scope} {dV kV doc pm cdv ct oc : Value} {an od : Option Addr} {osl : Array (Option Value)} {N ps : List Str} {f : Addr} {k : Nat} {F : DEnv → Out}
    (lk : K.lookup f = some ⟨oc, od, .func (PySem.W.fnOf x x params body scope dV kV doc pm an cdv ct), osl⟩) (hcd : PySem.W.codeIn K cdv x = true) (S : FnScope N ps scope) (hps : ps.length = 1) (hN : 2 ≤ N.length)
    (hF : ∀ ns : List Int, ns.length ≤ 63 → outRes (F (env0T N (.list (ns.map .int)))) = .ok (.bool true))
    (hbody : ∀ (A : Around) (outer : List Env) (s : Shared) (H : Hp) (E : XK), Room k (A.deeper (envOfC x scope s.heap.objs.size f cdv)) → DSs (cxOf (L2N.CX P w) P w K mg base N x scope f cdv A outer s H E) (WDof xc E) body F) :
    FnOk P w K mg base (L2N.CX P w) (k + 1) f (PySem.W.fnOf x x params body scope dV kV doc pm an cdv ct) ps (spT K) := by
  refine fn_of lk hcd S (fun vs H Q E ⟨a, ns, e, _⟩ => by rw [e, hps]; rfl) fun A outer s H vs Q E hr ⟨a, ns, e, hl, hS, hT, hQ⟩ => ?_
  subst e
  obtain ⟨t, p, q⟩ := (hbody A outer s H E hr).ex
  refine ⟨t, p, q _ _ _ _ _ _ _ (envT_ok hN (sq_del hS hT) hT) ?_⟩
  have h := hF ns hl
  cases ho : F (env0T N (.list (ns.map .int))) with
  | ret d =>
    rw [ho] at h
    cases h
    intro v Hs' H' _ r
    cases r
    exact hQ H'
  | retO d ρ =>
    rw [ho] at h
    cases h
    intro v σ' Hs' H' _ _ r
    cases r
    exact hQ H'
  | next ρ => rw [ho] at h; cases h
  | brk ρ => rw [ho] at h; cases h
  | cont ρ => rw [ho] at h; cases h
  | exc c => rw [ho] at h; cases h
  | bad => rw [ho] at h; cases h
  | excO c ρ => rw [ho] at h; cases h
  | retN i ρ => rw [ho] at h; cases h
end
theorem walkT {l : PySem.W.OpenLaw} {n k : Nat} {q : Program} {loose : List Str} {XP : (Str → Option Value) → Heap → Prop} {YP : World → Heap → Prop} {d : DefRec} {CX : CXT} {x : Str} (hn : l.most = some n) (hn2 : n ≤ sizeLine) (hdf : d.params.defaults = []) (hr : Room k callerA)
    (F : ∀ (w : World) (mg : Str → Option Value) (fa : Addr) (h : Heap), YP w h → h.Ns mainGlobals mg → mg d.name = some (.ref fa) →
      ∃ (K : PySem.W.Frag) (fd : FuncData) (cs : List (Addr × Addr)) (sp : Sp), K.In h ∧ (∀ p ∈ cs, h.get? p.2 = some { cls := .none, data := .fields #[] }) ∧ (∀ p ∈ cs, K.lookup p.2 = none) ∧ (∀ p ∈ cs, PySem.W.CodeHd h p.1 p.2) ∧ (∀ (s : Shared) (u : Value), BindsTo s fd ⟨[u], []⟩ [(x, u)]) ∧
        (∀ (H : Hp) (a : Addr) (ns : List Int), ns.length ≤ n → (∀ p ∈ cs, H p.2 = some (.tbl #[])) → SqL K H a (ns.map V.int) → sp [.ref a] H (fun v _ => v = .bl true) fun _ _ _ => False) ∧
        ∀ base : Heap, K.In base → base.Ns mainGlobals mg → (∀ p ∈ cs, LamX.TabB base mg p.1 p.2) → FnOk l.prog w K mg base CX k fa fd [x] sp)
    (hCX : ∀ (H : Hp) (s : Shared) (e : Value) (s' : Shared), CX [] H s (fun _ _ _ => False) e s' → False) : PySem.W.WalkO q loose XP YP l.row.toRowW d [] (fun f vs => PySem.call f vs) := by
  refine Att.attach_callB hn hdf fun w s0 s1 mg mb fa o pm cd doc a vs ns G Y ho hd hcd hmg hobj hints hlen hbits hg => ?_
  obtain ⟨K, fd, cs, sp, KX, hT, nT, C, hb, hsp, hF⟩ := F w mg fa _ Y G.T.g hmg
  exact LamX.law_callTs KX G.T.g G.T.b G.T.builtins G.T.nolimit hg hT nT C G.T.bmain hobj hints (Nat.le_trans hlen hn2) hr hF hb (fun H hH hS => hsp H a ns hlen hH hS) fun H e s' => hCX H s1 e s'
end SB
end
end

section
set_option Elab.async false
set_option linter.all false
set_option maxRecDepth 100000
set_option maxHeartbeats 2000000
noncomputable section
namespace SB
open PySem PySem.Spec L2 Evl PyProof.Rows
/-! ### len(set(x)), x a tuple of fillings whose hashes differ: the table up to 512 slots -/
def heldL {α β : Type} (l : List α) : (List α → β) → β := List.rec (motive := fun _ => (List α → β) → β) (fun k => k []) (fun a _ ih k => ih fun r' => k (a :: r')) l
theorem heldL_eq {α β : Type} : ∀ (l : List α) (k : List α → β), heldL l k = k l
  | [], _ => rfl
  | a :: l, k => by
    show heldL l (fun r' => k (a :: r')) = _
    rw [heldL_eq l]
/-- each slot begins a run early enough -/
def Meets (m : Nat) : Prop := ∀ (h : Int) (j : Nat), j ≤ m → ∃ n, n ≤ m + 12 ∧ runI m (SetTable.bits h) n = j
def orbL (n : Nat) : Nat → List Nat := Nat.rec (motive := fun _ => Nat → List Nat) (fun _ => []) (fun _ ih x => x :: ih ((x * 5 + 1) % 512)) n
theorem orb_mem : ∀ (n x j : Nat), j ∈ orbL n x → ∃ k, k < n ∧ lcgI 511 x k = j
  | 0, _, _, h => absurd (show _ ∈ ([] : List Nat) from h) (by simp)
  | n + 1, x, j, h => by
    replace h : j ∈ x :: orbL n ((x * 5 + 1) % 512) := h
    rcases List.mem_cons.mp h with rfl | h
    · exact ⟨0, by omega, rfl⟩
    · obtain ⟨k, h1, h2⟩ := orb_mem n _ j h
      refine ⟨k + 1, by omega, ?_⟩
      have : ∀ (k x : Nat), lcgI 511 x (k + 1) = lcgI 511 ((x * 5 + 1) % 512) k := by
        intro k
        induction k with
        | zero => intro x; rfl
        | succ k ih =>
          intro x
          show (lcgI 511 x (k + 1) * 5 + 1) % 512 = (lcgI 511 ((x * 5 + 1) % 512) k * 5 + 1) % 512
          rw [ih x]
      rw [this, h2]
theorem orb_all : (heldL (orbL 512 0) fun l => (List.range 512).all fun j => l.any fun i => Nat.beq i j) = true := by decide +kernel
theorem orb_hit {j : Nat} (h : j ≤ 511) : ∃ b, b ≤ 511 ∧ lcgN 511 b = j := by
  have q := orb_all
  rw [heldL_eq] at q
  have := List.all_eq_true.mp q j (by simp; omega)
  rw [List.any_eq_true] at this
  obtain ⟨i, hi, e⟩ := this
  rw [Nat.eq_of_beq_eq_true e] at hi
  obtain ⟨k, h1, h2⟩ := orb_mem _ _ _ hi
  refine ⟨k, by omega, ?_⟩
  have := lcgN_add 511 0 k
  rw [Nat.zero_add] at this
  rw [← this]
  exact h2
theorem orb_round : lcgN 511 512 = 0 := by decide +kernel
theorem orb_mod : ∀ k, lcgN 511 (512 + k) = lcgN 511 k
  | 0 => orb_round
  | k + 1 => by
    show (lcgN 511 (512 + k) * 5 + 1) % 512 = (lcgN 511 k * 5 + 1) % 512
    rw [orb_mod k]
theorem meets_511 : Meets 511 := fun h j hj => by
  obtain ⟨a, ha, ea⟩ := orb_hit (runI_le 511 (SetTable.bits h) 12)
  obtain ⟨b, hb, eb⟩ := orb_hit hj
  by_cases c : a ≤ b
  · refine ⟨12 + (b - a), by omega, ?_⟩
    rw [runI_tail (bits_lt h), ← ea, lcgN_add, show a + (b - a) = b by omega, eb]
  · refine ⟨12 + (512 + b - a), by omega, ?_⟩
    rw [runI_tail (bits_lt h), ← ea, lcgN_add, show a + (512 + b - a) = 512 + b by omega, orb_mod, eb]
def MaskW (m : Nat) : Prop := m = 7 ∨ m = 31 ∨ m = 127 ∨ m = 511
theorem MaskW.meets {m : Nat} (h : MaskW m) : Meets m := by
  rcases h with h | h | h | h
  · exact fun x j hj => run_meets (.inl h) x hj
  · exact fun x j hj => run_meets (.inr (.inl h)) x hj
  · exact fun x j hj => run_meets (.inr (.inr h)) x hj
  · rw [h]; exact meets_511
/-- the table, n of its slots taken -/
structure TabW (t : SetTable) (n : Nat) : Prop where
  ris : Ris t.place.toList
  dm : t.dummies = #[]
  sz : t.place.size = n
  msk : MaskW t.mask
theorem TabW.fill {t : SetTable} {n : Nat} (T : TabW t n) : t.fill = n := by
  unfold SetTable.fill
  rw [T.dm, T.sz]
  rfl
theorem TabW.fits {t : SetTable} {n : Nat} (T : TabW t n) (h : n ≤ t.mask) : t.fits n = true := by
  unfold SetTable.fits
  rw [T.fill, T.sz, Bool.and_eq_true, beq_iff_eq, decide_eq_true_eq]
  exact ⟨rfl, h⟩
theorem TabW.odd {t : SetTable} {n : Nat} (T : TabW t n) : t.gaveWay = false := by
  unfold SetTable.gaveWay
  rcases T.msk with e | e | e | e <;> rw [e] <;> rfl
theorem TabW.free {t : SetTable} {n : Nat} (T : TabW t n) (hn : n ≤ t.mask) (h : Int) (hashAt : Nat → Int) (hne : ∀ i, i < n → hashAt i ≠ h) : ∃ j, t.probe hashAt h (t.probeStart h) = some (.empty j none) ∧ j ∉ t.place.toList := by
  obtain ⟨j, hj, hnj⟩ := st_missing t.place.toList (t.mask + 1) (by rw [Array.length_toList, T.sz]; omega)
  obtain ⟨r, hr, er⟩ := T.msk.meets h j (by omega)
  obtain ⟨k, hk, ek⟩ := run_nth t.mask (SetTable.bits h) r
  have hw : way t.mask h k = j := by
    show (nth t.mask (runAt t.mask (SetTable.bits h % (t.mask + 1)) (SetTable.bits h)) k).j = j
    rw [ek]
    exact er
  obtain ⟨K, g1, g2, g3⟩ := st_least (p := fun k => way t.mask h k ∉ t.place.toList) k (by show way t.mask h k ∉ _; rw [hw]; exact hnj)
  have g4 : ∀ k', k' < K → way t.mask h k' ∈ t.place.toList := fun k' hk' => Classical.byContradiction fun c => g3 k' hk' c
  have hlt : K < 10 * SetTable.turns t.mask := by unfold SetTable.turns; omega
  rcases go_spec t T.ris T.dm hashAt h (10 * SetTable.turns t.mask) K (t.probeStart h) rfl hlt g4 g2 with ⟨k1, i, a1, a2, a3, _, _⟩ | ⟨_, b2⟩
  · have : i < n := by
      have := (List.getElem?_eq_some_iff.mp a2).1
      rw [Array.length_toList, T.sz] at this
      exact this
    exact absurd a3 (hne i this)
  · exact ⟨_, b2, g2⟩
theorem TabW.put {t : SetTable} {n : Nat} (T : TabW t n) {j : Nat} (hj : j ∉ t.place.toList) : TabW (t.put j).1 (n + 1) := by
  have hn : t.place[SetTable.below t.place j]? ≠ some j := fun z => hj (by
    rw [← Array.getElem?_toList] at z
    exact List.mem_of_getElem? z)
  refine ⟨ris_insert T.ris hn, ?_, ?_, T.msk⟩
  · show (if SetTable.has t.dummies j then _ else t.dummies) = #[]
    rw [T.dm, L2.has_none]
    rfl
  · rw [← Array.length_toList, put_place, List.length_append, List.length_cons, List.length_take, List.length_drop, Array.length_toList, T.sz]
    omega
/-! the table laid anew -/
theorem fm_some {f : Nat → Option Nat} : ∀ (l : List Nat), (l.filterMap fun j => (f j).map (j, ·)).length ≤ l.length
  | [] => Nat.le_refl _
  | a :: l => by
    have := fm_some (f := f) l
    rw [List.filterMap_cons]
    cases f a with
    | none => simp; omega
    | some v => simp; omega
theorem fm_full {f : Nat → Option Nat} : ∀ (l : List Nat), (∀ j, j ∈ l → f j ≠ none) → (l.filterMap fun j => (f j).map (j, ·)).length = l.length
  | [], _ => rfl
  | a :: l, h => by
    have ih := fm_full (f := f) l fun j hj => h j (by simp [hj])
    rw [List.filterMap_cons]
    cases e : f a with
    | none => exact absurd e (h a (by simp))
    | some v => exact congrArg Nat.succ ih
theorem fm_eq {f g : Nat → Option Nat} : ∀ (l : List Nat), (∀ j, j ∈ l → g j = f j) → (l.filterMap fun j => (g j).map (j, ·)) = l.filterMap fun j => (f j).map (j, ·)
  | [], _ => rfl
  | a :: l, h => by
    rw [List.filterMap_cons, List.filterMap_cons, h a (by simp), fm_eq l fun j hj => h j (by simp [hj])]
theorem fm_set {f g : Nat → Option Nat} {j0 : Nat} (h0 : f j0 = none) (h1 : g j0 ≠ none) (he : ∀ j, j ≠ j0 → g j = f j) : ∀ (l : List Nat), l.Nodup → j0 ∈ l → (l.filterMap fun j => (g j).map (j, ·)).length = (l.filterMap fun j => (f j).map (j, ·)).length + 1
  | [], _, hm => absurd hm (by simp)
  | a :: l, nd, hm => by
    have nd' := List.nodup_cons.mp nd
    by_cases ha : a = j0
    · subst ha
      have rest : (l.filterMap fun j => (g j).map (j, ·)) = l.filterMap fun j => (f j).map (j, ·) := by
        exact fm_eq l fun j hj => he j (fun z => nd'.1 (z ▸ hj))
      rw [List.filterMap_cons, List.filterMap_cons, h0, rest]
      cases e : g a with
      | none => exact absurd e h1
      | some v => simp
    · have hm' : j0 ∈ l := by
        rcases List.mem_cons.mp hm with z | z
        · exact absurd z.symm ha
        · exact z
      have ih := fm_set h0 h1 he l nd'.2 hm'
      rw [List.filterMap_cons, List.filterMap_cons, he a ha]
      cases f a with
      | none => simp; exact ih
      | some v => simp; exact ih
structure OwnW (m k : Nat) (owner : Array (Option Nat)) : Prop where
  sz : owner.size = m + 1
  lt : ∀ j v, j ≤ m → oAt owner j = some v → v < k
  cnt : (liveOf m owner).length = k
theorem OwnW.init (m : Nat) : OwnW m 0 (Array.replicate (m + 1) none) := by
  refine ⟨Array.size_replicate, fun j v hj e => ?_, ?_⟩
  · rw [oAt_init hj] at e
    cases e
  · have : liveOf m (Array.replicate (m + 1) none) = [] := by
      refine List.filterMap_eq_nil_iff.mpr fun j hj => ?_
      rw [oAt_none (by rw [Array.size_replicate]; exact List.mem_range.mp hj), oAt_init (Nat.le_of_lt_succ (List.mem_range.mp hj))]
      rfl
    rw [this]
    rfl
theorem OwnW.step {m k : Nat} {owner : Array (Option Nat)} (W : OwnW m k owner) (hm : Meets m) (hk : k ≤ m) (h : Int) : ∃ j, stepF m (some (owner, k)) h = some (owner.setIfInBounds j (some k), k + 1) ∧ OwnW m (k + 1) (owner.setIfInBounds j (some k)) := by
  have hex : ∃ j, j ≤ m ∧ oAt owner j = none := Classical.byContradiction fun c => by
    have full : ∀ j, j ∈ List.range (m + 1) → owner.getD j none ≠ none := fun j hj z => by
      have hj := List.mem_range.mp hj
      rw [oAt_none (by rw [W.sz]; exact hj)] at z
      exact c ⟨j, by omega, z⟩
    have := fm_full (f := fun j => owner.getD j none) _ full
    have hc := W.cnt
    unfold liveOf at hc
    rw [this, List.length_range] at hc
    omega
  obtain ⟨j, hj, hf⟩ := hex
  obtain ⟨n, hn, e⟩ := hm h j hj
  have hw : way m h (off m (SetTable.bits h % (m + 1)) (SetTable.bits h) n) = j := by
    show (nth m _ _).j = j
    rw [nth_off, itL_run]
    exact e
  obtain ⟨K, k1, k2, k3⟩ := st_least (p := fun k => oAt owner (way m h k) = none) (off m (SetTable.bits h % (m + 1)) (SetTable.bits h) n) (by show oAt owner (way m h _) = none; rw [hw]; exact hf)
  have fr := free_spec m owner (SetTable.turns m) n _ _ K (by unfold SetTable.turns; omega) k1 (fun k hk => by
    have q : oAt owner (way m h k) ≠ none := k3 k hk
    cases z : oAt owner (nth m (runAt m (SetTable.bits h % (m + 1)) (SetTable.bits h)) k).j with
    | none => exact absurd z q
    | some _ => rfl) (by
    have q : oAt owner (nth m (runAt m (SetTable.bits h % (m + 1)) (SetTable.bits h)) K).j = none := k2
    rw [q]
    rfl)
  have k2 : oAt owner (way m h K) = none := k2
  generalize hj0 : (nth m (runAt m (SetTable.bits h % (m + 1)) (SetTable.bits h)) K).j = j0 at fr
  have k2' : oAt owner j0 = none := by rw [← hj0]; exact k2
  have hlt : j0 < owner.size := Classical.byContradiction fun c => by
    have : oAt owner j0 = some 0 := by
      show owner.getD j0 (some 0) = some 0
      rw [Array.getD_eq_getD_getElem?, Array.getElem?_eq_none (Nat.le_of_not_lt c)]
      rfl
    rw [this] at k2'
    cases k2'
  refine ⟨j0, stepF_some fr, ⟨by rw [Array.size_setIfInBounds]; exact W.sz, fun i v hi e => ?_, ?_⟩⟩
  · by_cases c : i = j0
    · subst c
      rw [oAt_set_self _ hlt] at e
      cases e
      omega
    · rw [oAt_set_ne _ c] at e
      have := W.lt i v hi e
      omega
  · have hc := W.cnt
    have hlt' : j0 < m + 1 := by rw [← W.sz]; exact hlt
    suffices z : (liveOf m (owner.setIfInBounds j0 (some k))).length = (liveOf m owner).length + 1 by rw [z, hc]
    refine fm_set (j0 := j0) (f := fun j => owner.getD j none) (g := fun j => (owner.setIfInBounds j0 (some k)).getD j none) ?_ ?_ (fun i hi => ?_) _ List.nodup_range (List.mem_range.mpr hlt')
    · show owner.getD j0 none = none
      rw [oAt_none hlt]; exact k2'
    · show (owner.setIfInBounds j0 (some k)).getD j0 none ≠ none
      rw [oAt_none (by rw [Array.size_setIfInBounds]; exact hlt), oAt_set_self _ hlt]
      exact fun z => nomatch z
    · show (owner.setIfInBounds j0 (some k)).getD i none = owner.getD i none
      rw [Array.getD_eq_getD_getElem?, Array.getD_eq_getD_getElem?, Array.getElem?_setIfInBounds, if_neg (Ne.symm hi)]
theorem OwnW.all {m : Nat} (hm : Meets m) : ∀ (rest : List Int) (k : Nat) (owner : Array (Option Nat)), OwnW m k owner → k + rest.length ≤ m + 1 → ∃ owner', rest.foldl (stepF m) (some (owner, k)) = some (owner', k + rest.length) ∧ OwnW m (k + rest.length) owner'
  | [], k, owner, W, _ => ⟨owner, rfl, W⟩
  | h :: rest, k, owner, W, hl => by
    rw [List.length_cons] at hl
    obtain ⟨j, e, W'⟩ := W.step hm (by omega) h
    obtain ⟨owner', f, W2⟩ := OwnW.all hm rest (k + 1) _ W' (by omega)
    have ek : k + 1 + rest.length = k + (h :: rest).length := by rw [List.length_cons]; omega
    rw [ek] at f W2
    exact ⟨owner', by rw [List.foldl_cons, e]; exact f, W2⟩
theorem relaidW (t : SetTable) {hs : Array Int} {wanted M : Nat} (hw : SetTable.sizeAbove wanted - 1 = M) (hM : MaskW M) (hn : hs.size ≤ M) :
    ∃ t' order, t.relaid hs wanted = some (t', order) ∧ order.toList.length = hs.size ∧ (∀ i, i ∈ order.toList → i < hs.size) ∧ TabW t' hs.size ∧ t'.mask = M := by
  obtain ⟨owner, f, W⟩ := OwnW.all hM.meets hs.toList 0 _ (OwnW.init M) (by rw [Array.length_toList]; omega)
  have e : SetTable.layClean M hs = some owner := by rw [layClean_eq, f]; rfl
  have hr : t.relaid hs wanted = some (tabOf t M owner, ((liveOf M owner).map (·.2)).toArray) := by rw [relaid_eq, hw, e]; rfl
  have hlen : (liveOf M owner).length = hs.size := by rw [W.cnt, Array.length_toList, Nat.zero_add]
  have ris := ris_live (fun j => owner.getD j none) (List.range (M + 1)) List.pairwise_lt_range
  refine ⟨_, _, hr, by simp [hlen], fun i hi => ?_, ⟨ris.1, rfl, ?_, hM⟩, rfl⟩
  · obtain ⟨q, hq, rfl⟩ := List.mem_map.mp (show i ∈ (liveOf M owner).map (·.2) from hi)
    obtain ⟨b1, b2⟩ := (mem_live W.sz).1 (show (q.1, q.2) ∈ liveOf M owner from hq)
    have := W.lt _ _ b1 b2
    rw [Array.length_toList, Nat.zero_add] at this
    exact this
  · show ((liveOf M owner).map (·.1)).toArray.size = hs.size
    rw [List.size_toArray, List.length_map, hlen]
end SB
end
end

section
set_option Elab.async false
set_option linter.all false
set_option maxRecDepth 100000
set_option maxHeartbeats 2000000
noncomputable section
namespace SB
open PySem PySem.Spec L2 Evl PyProof.Rows
/-- the set at a, of as many elements as hashes were seen -/
def SetW (h : Heap) (a : Addr) (seen : List Int) : Prop := ∃ (o : Obj) (es : Array (Int × Value)) (ep : Nat) (t : SetTable), h.get? a = some o ∧ o.ExactSet ∧ o.data = .set es ep t ∧ TabW t es.size ∧ es.size = seen.length ∧ es.size * 5 < t.mask * 3 ∧ ∀ e, e ∈ es.toList → e.1 ∈ seen
section
variable {P : Program} {w : World} {A : Around} {E : Value → Shared → Prop} {s : Shared} {a x : Addr} {h : Int} {seen : List Int}
theorem searchW {o : Obj} {es : Array (Int × Value)} {ep : Nat} {t : SetTable} (ho : s.heap.get? a = some o) (hd : o.data = .set es ep t) (T : TabW t es.size) (hr : es.size * 5 < t.mask * 3) (hne : ∀ e, e ∈ es.toList → e.1 ≠ h) {Q : SetFound → Shared → Prop}
    (hQ : ∀ j, j ∉ t.place.toList → Q (.free j false) s) : wpAny (model P w) A (setSearch a (.ref x) h (adding := true)) Q E s := by
  have hle : es.size ≤ t.mask := by omega
  obtain ⟨j, hp, hj⟩ := T.free hle h (fun i => (es[i]?.map (·.1)).getD 0) (fun i hi => by
    have e : es[i]? = some es[i] := Array.getElem?_eq_getElem hi
    show (es[i]?.map (·.1)).getD 0 ≠ h
    rw [e]
    exact hne _ (by rw [← Array.mem_def]; exact Array.getElem_mem hi))
  unfold setSearch
  rw [show (100000 : Nat) = 99999 + 1 from rfl, setSearchFrom_succ]
  refine wpAny_bind (wpAny_setState_of ho hd (T.fits hle) ?_)
  dsimp only
  refine wp_if_neg (by rw [T.odd]; exact fun z => nomatch z) ?_
  try refine wpAny_bind (wpAny_pure ?_)
  rw [show (none : Option SetTable.Probe).getD (t.probeStart h) = t.probeStart h from rfl, hp]
  dsimp only
  exact wpAny_pure (hQ j hj)
theorem relayW {o : Obj} {es : Array (Int × Value)} {ep : Nat} {t : SetTable} (ho : s.heap.get? a = some o) (hex : o.ExactSet) (hd : o.data = .set es ep t) (T : TabW t es.size) (hle : es.size ≤ t.mask) (hz : es.size ≤ 1000) {wanted M : Nat} (hw : SetTable.sizeAbove wanted - 1 = M) (hM : MaskW M) (hw2 : SetTable.sizeAbove wanted ≤ 512)
    (hn : es.size * 5 < M * 3) (hl : es.size = seen.length) (hin : ∀ e, e ∈ es.toList → e.1 ∈ seen) {Q : Unit → Shared → Prop} (hQ : ∀ h', Heap.SameBut a s.heap h' → SetW h' a seen → Q () { s with heap := h' }) : wpAny (model P w) A (setRelay a wanted) Q E s := by
  obtain ⟨t', order, e, o1, o2, T', em⟩ := relaidW t (hs := es.map (·.1)) hw hM (by rw [Array.size_map]; omega)
  rw [Array.size_map] at o1 o2 T'
  have key : ∀ l : List Nat, (∀ i, i ∈ l → i < es.size) → (l.filterMap fun i => es[i]?).length = l.length ∧ ∀ e, e ∈ (l.filterMap fun i => es[i]?) → e ∈ es.toList := by
    intro l
    induction l with
    | nil => intro _; exact ⟨rfl, fun e h => by cases h⟩
    | cons i l ih =>
      intro hi
      obtain ⟨a1, a2⟩ := ih fun j hj => hi j (by simp [hj])
      have g : es[i]? = some (es[i]'(hi i (by simp))) := Array.getElem?_eq_getElem (hi i (by simp))
      rw [List.filterMap_cons, g]
      refine ⟨by simp only [List.length_cons, a1], fun e he => ?_⟩
      rcases List.mem_cons.mp he with rfl | he
      · rw [← Array.mem_def]; exact Array.getElem_mem _
      · exact a2 e he
  obtain ⟨k1, k2⟩ := key order.toList o2
  have es2 : (order.filterMap (es[·]?)).toList = order.toList.filterMap fun i => es[i]? := by rw [Array.toList_filterMap]
  have hs2 : (order.filterMap (es[·]?)).size = es.size := by rw [← Array.length_toList, es2, k1, o1]
  have hline : (1000 : Nat) < sizeLine := by decide
  rw [setRelay_eq]
  refine wpAny_bind (wpAny_setState_of ho hd (T.fits hle) ?_)
  dsimp only
  refine wp_if_neg (by omega) ?_
  try refine wpAny_bind (wpAny_pure ?_)
  rw [e]
  dsimp only
  refine wpAny_bind ?_
  refine wp_if_neg (by rw [hs2]; simp) ?_
  try refine wpAny_bind (wpAny_pure ?_)
  refine wpAny_pure ?_
  dsimp only
  refine wpAny_storeSet_of ho hd ?_ (by rw [hs2]; omega)
  refine hQ _ (Heap.SameBut.update ..) ⟨_, _, ep + 1, t', store_at ho hd, ⟨hex.1, hex.2.1, hex.2.2⟩, rfl, by rw [hs2]; exact T', by rw [hs2]; exact hl, by rw [hs2, em]; exact hn, fun e he => hin e (k2 e (by rw [← es2]; exact he))⟩
theorem addW (R : SetW s.heap a seen) (hb : ∀ Q : Bool → Shared → Prop, Q true s → wpAny (model P w) A (hashByValue 8 (.ref x)) Q E s) (hf : h ∉ seen) (hfew : seen.length + 1 ≤ 300) {Q : Bool → Shared → Prop}
    (hQ : ∀ b h', Heap.SameBut a s.heap h' → SetW h' a (h :: seen) → Q b { s with heap := h' }) : wpAny (model P w) A (setAddHashed a (.ref x) h) Q E s := by
  obtain ⟨o, es, ep, t, ho, hex, hd, T, hl, hr, hin⟩ := R
  have hle : es.size ≤ t.mask := by omega
  have hline : (1000 : Nat) < sizeLine := by decide
  unfold setAddHashed
  refine wpAny_holding ?_
  rw [show (100000 : Nat) = 99999 + 1 from rfl, setAddHashedIn_succ]
  refine wpAny_bind (wpAny_setState_of ho hd (T.fits hle) ?_)
  dsimp only
  refine wp_if_neg (by simp [byScan, Value.scannable]) ?_
  try refine wpAny_bind (wpAny_pure ?_)
  refine wpAny_bind (searchW (h := h) ho hd T hr (fun e he z => hf (by rw [← z]; exact hin e he)) fun j hj => ?_)
  dsimp only
  refine wpAny_bind (wpAny_setState_of ho hd (T.fits hle) ?_)
  dsimp only
  have T1 := T.put hj
  have hmk : (t.put j).1.mask = t.mask := rfl
  generalize hpt : t.put j = pt at T1 hmk ⊢
  obtain ⟨t1, p⟩ := pt
  dsimp only at T1 hmk ⊢
  have e1 : (SetTable.insertAt es p (h, Value.ref x)).toList = es.toList.take p ++ (h, Value.ref x) :: es.toList.drop p := SetTable.toList_insertAt _ _ _
  have s1 : (SetTable.insertAt es p (h, Value.ref x)).size = es.size + 1 := by
    rw [← Array.length_toList, e1, List.length_append, List.length_cons, List.length_take, List.length_drop, Array.length_toList]
    omega
  have i1 : ∀ e, e ∈ (SetTable.insertAt es p (h, Value.ref x)).toList → e.1 ∈ h :: seen := fun e he => by
    rw [e1, List.mem_append, List.mem_cons] at he
    rcases he with he | rfl | he
    · exact List.mem_cons_of_mem _ (hin e (List.mem_of_mem_take he))
    · exact List.mem_cons_self
    · exact List.mem_cons_of_mem _ (hin e (List.mem_of_mem_drop he))
  generalize SetTable.insertAt es p (h, Value.ref x) = es1 at s1 i1 ⊢
  rw [← s1] at T1
  have fin : wpAny (model P w) A (storeSet a es1 t1 >>= fun _ => if (!false && t1.tooFull) = true then (setRelay a (SetTable.grown (es.size + 1)) >>= fun _ => pure true) else pure true) Q E s := by
    refine wpAny_bind (wpAny_storeSet_of ho hd ?_ (by omega))
    have sb : Heap.SameBut a s.heap (s.heap.update a (Obj.putSet es1 t1)) := Heap.SameBut.update ..
    have ho1 := store_at (es' := es1) (t' := t1) ho hd
    generalize s.heap.update a (Obj.putSet es1 t1) = h1 at sb ho1 ⊢
    have hfl := T1.fill
    by_cases hf1 : t1.tooFull = true
    · refine wp_if_pos (by rw [hf1]; rfl) ?_
      have hfull : t1.fill * 5 ≥ t1.mask * 3 := by
        unfold SetTable.tooFull at hf1
        rw [decide_eq_true_eq] at hf1
        exact hf1
      rw [hfl, hmk] at hfull
      refine wpAny_bind ?_
      have go : ∀ M, SetTable.sizeAbove (SetTable.grown (es.size + 1)) - 1 = M → MaskW M → SetTable.sizeAbove (SetTable.grown (es.size + 1)) ≤ 512 → es1.size * 5 < M * 3 →
          wpAny (model P w) A (setRelay a (SetTable.grown (es.size + 1))) (fun _ s' => wpAny (model P w) A (pure true) Q E s') E { s with heap := h1 } := fun M g1 g2 g3 g4 => by
        refine relayW (s := { s with heap := h1 }) (seen := h :: seen) ho1 ⟨hex.1, hex.2.1, hex.2.2⟩ rfl T1 (by rw [hmk]; omega) (by omega) g1 g2 g3 g4 (by rw [s1, hl]; rfl) i1 fun h2 sb2 R2 => ?_
        exact wpAny_pure (hQ true h2 (sb.trans sb2) R2)
      rcases T.msk with c | c | c | c
      · have : es.size + 1 = 5 := by omega
        rw [this] at go ⊢
        exact go 31 (by decide +kernel) (.inr (.inl rfl)) (by decide +kernel) (by omega)
      · have : es.size + 1 = 19 := by omega
        rw [this] at go ⊢
        exact go 127 (by decide +kernel) (.inr (.inr (.inl rfl))) (by decide +kernel) (by omega)
      · have : es.size + 1 = 77 := by omega
        rw [this] at go ⊢
        exact go 511 (by decide +kernel) (.inr (.inr (.inr rfl))) (by decide +kernel) (by omega)
      · exfalso
        omega
    · have hnf : ¬ (t1.fill * 5 ≥ t1.mask * 3) := fun z => hf1 (by unfold SetTable.tooFull; exact decide_eq_true z)
      rw [hfl, hmk] at hnf
      refine wp_if_neg (by simpa using hf1) (wpAny_pure (hQ true h1 sb ?_))
      exact ⟨_, es1, ep + 1, t1, ho1, ⟨hex.1, hex.2.1, hex.2.2⟩, rfl, T1, by rw [s1, hl]; rfl, by rw [hmk]; omega, i1⟩
  by_cases hpl : t1.plain = true
  · first
      | (refine wpAny_bind ?_; refine wp_if_pos hpl ?_; refine hb _ ?_)
      | refine wp_if_pos hpl (wpAny_bind (hb _ ?_))
    simp only [if_true]
    first
      | exact fin
      | (refine wpAny_mono fin (fun _ _ h => h) (fun _ _ h => h))
  · first
      | (refine wpAny_bind ?_; refine wp_if_neg hpl ?_; refine wpAny_pure ?_)
      | refine wp_if_neg hpl (wpAny_bind (wpAny_pure ?_))
    simp only [if_true]
    exact fin
end
end SB
end
end

section
set_option Elab.async false
set_option linter.all false
set_option maxRecDepth 100000
set_option maxHeartbeats 3200000
noncomputable section
namespace SB
open PySem PySem.Spec L2 Evl PyProof.Rows
/-! ### fillings as keys -/
/-- hash of numbers, and of tuples of such -/
def hashN (n : Nat) : D → Int := Nat.rec (motive := fun _ => D → Int) (fun d => match d with
  | .int i => hashInt i
  | _ => 0) (fun _ ih d => match d with
  | .tuple xs => reduceHash (Builtin.Tuple.tupleHashOf (xs.map ih))
  | _ => 0) n
def keyN (n : Nat) : D → NestedKey := Nat.rec (motive := fun _ => D → NestedKey) (fun d => match d with
  | .int i => .num i
  | _ => .none) (fun _ ih d => match d with
  | .tuple xs => .tup (xs.map ih)
  | _ => .none) n
theorem allL_mem {α : Type} {f : α → Bool} : ∀ {l : List α}, allL f l = true → ∀ a, a ∈ l → f a = true
  | [], _, _, h => by cases h
  | b :: l, h, a, ha => by
    replace h : cond (f b) (allL f l) false = true := h
    cases e : f b with
    | false => rw [e] at h; cases h
    | true =>
      rw [e] at h
      rcases List.mem_cons.mp ha with rfl | ha
      · exact e
      · exact allL_mem h a ha
theorem hash_key (w : World) : ∀ (n : Nat) (d : D), rk n d = true → (keyN n d).hash w = hashN n d
  | 0, d, h => by
    cases d <;> first | (cases h; done) | rfl
  | n + 1, d, h => by
    cases d with
    | tuple xs =>
      have h' : allL (rk n) xs = true := h
      show reduceHash (Builtin.Tuple.tupleHashOf (NestedKey.hashes w (xs.map (keyN n)))) = reduceHash (Builtin.Tuple.tupleHashOf (xs.map (hashN n)))
      congr 2
      have : ∀ l : List D, (∀ x, x ∈ l → rk n x = true) → NestedKey.hashes w (l.map (keyN n)) = l.map (hashN n) := by
        intro l
        induction l with
        | nil => intro _; rfl
        | cons x l ih =>
          intro hl
          show NestedKey.hash w (keyN n x) :: NestedKey.hashes w (l.map (keyN n)) = _
          rw [hash_key w n x (hl x (by simp)), ih fun y hy => hl y (by simp [hy])]
          rfl
      exact this xs (allL_mem h')
    | _ => cases h
theorem depth_key : ∀ (n : Nat) (d : D), (keyN n d).depth ≤ n
  | 0, d => by cases d <;> exact Nat.le_refl _
  | n + 1, d => by
    cases d with
    | tuple xs =>
      show NestedKey.depthAll (xs.map (keyN n)) + 1 ≤ n + 1
      have : ∀ l : List D, NestedKey.depthAll (l.map (keyN n)) ≤ n := by
        intro l
        induction l with
        | nil => exact Nat.zero_le _
        | cons x l ih =>
          show max (keyN n x).depth (NestedKey.depthAll (l.map (keyN n))) ≤ n
          have := depth_key n x
          omega
      have := this xs
      omega
    | _ => exact Nat.zero_le _
section
variable {P : Program} {w : World} {A : Around} {E : Value → Shared → Prop} {s : Shared}
theorem hbv_tup {n m : Nat} {b : Addr} {o : Obj} {items : Array Value} (ho : s.heap.get? b = some o) (hc : o.cls = .type "tuple") (hd : o.data = .seq items m) (hall : ∀ v, v ∈ items.toList → ∀ Q : Bool → Shared → Prop, Q true s → wpAny (model P w) A (hashByValue n v) Q E s)
    {Q : Bool → Shared → Prop} (h : Q true s) : wpAny (model P w) A (hashByValue (n + 1) (.ref b)) Q E s := by
  have hT : s.TypeIs (.ref b) "tuple" := ⟨o, ho, hc⟩
  unfold hashByValue
  refine wpAny_bind (wpAny_specialOf hT F.slot_tuple_hash.lookup ?_)
  show wpAny _ _ (seqItems? (.ref b) >>= _) _ _ s
  refine wpAny_bind (wpAny_seqItems ho hd (wpAny_bind ?_))
  show wpAny _ _ (forIn items _ _) _ _ s
  rw [← Array.forIn_toList]
  refine wpAny_forIn_list _ (fun rest r s' => r.1 = none ∧ s' = s ∧ ∀ v, v ∈ rest → v ∈ items.toList) _ ?_ ?_ _ _ ⟨rfl, rfl, fun v hv => hv⟩
  · rintro v rest r s' ⟨hr, rfl, hin⟩
    refine wpAny_bind (hall v (hin v (by simp)) _ ?_)
    simp only [Bool.not_true, Bool.false_eq_true, if_false]
    exact wpAny_pure ⟨rfl, rfl, fun u hu => hin u (by simp [hu])⟩
  · rintro ⟨r1, r2⟩ s' ⟨hr, rfl, _⟩
    simp only at hr
    subst hr
    exact wpAny_pure h
theorem nall_get {h : Heap} {f : D → NestedKey} : ∀ {xs : List D} {vs : List Value}, NestedAll h (xs.map f) vs → ∀ v, v ∈ vs → ∃ x, x ∈ xs ∧ NestedIs h (f x) v
  | [], _, .nil, v, hv => by cases hv
  | x :: xs, _, .cons a r, v, hv => by
    rcases List.mem_cons.mp hv with rfl | hv
    · exact ⟨x, by simp, a⟩
    · obtain ⟨y, hy, q⟩ := nall_get r v hv
      exact ⟨y, by simp [hy], q⟩
theorem hbv_key : ∀ (n m : Nat) (d : D) (v : Value), n ≤ m → rk n d = true → NestedIs s.heap (keyN n d) v → ∀ Q : Bool → Shared → Prop, Q true s → wpAny (model P w) A (hashByValue m v) Q E s
  | 0, m, d, v, _, h, k, Q, q => by
    cases d with
    | int i =>
      replace k : NestedIs s.heap (.num i) v := k
      cases k with
      | bool _ => cases m <;> exact wpAny_pure q
      | int _ _ => cases m <;> exact wpAny_pure q
    | _ => cases h
  | n + 1, m, d, v, hm, h, k, Q, q => by
    cases d with
    | tuple xs =>
      replace k : NestedIs s.heap (.tup (xs.map (keyN n))) v := k
      obtain ⟨m, rfl⟩ : ∃ m', m = m' + 1 := ⟨m - 1, by omega⟩
      cases k with
      | tup ho hc hd hall =>
        refine hbv_tup ho hc hd (fun u hu Q' q' => ?_) q
        obtain ⟨x, hx, hk⟩ := nall_get hall u hu
        exact hbv_key n m x u (by omega) (allL_mem (f := rk n) h x hx) hk Q' q'
    | _ => cases h
theorem hashes_snoc (ks : List (Addr × D)) {i : Nat} {p : Addr × D} (hp : ks[i]? = some p) : ((ks.take (i + 1)).map fun q => hashN 2 q.2).reverse = hashN 2 p.2 :: ((ks.take i).map fun q => hashN 2 q.2).reverse := by
  rw [List.take_succ, hp]
  simp
theorem hash_new {ks : List (Addr × D)} (hnd : (ks.map fun q => hashN 2 q.2).Nodup) {i : Nat} {p : Addr × D} (hp : ks[i]? = some p) : hashN 2 p.2 ∉ ((ks.take i).map fun q => hashN 2 q.2).reverse := fun z => by
  rw [List.mem_reverse, List.map_take] at z
  obtain ⟨j, hj, e⟩ := List.mem_iff_getElem.mp z
  rw [List.length_take, List.length_map] at hj
  rw [List.getElem_take] at e
  have hi : i < ks.length := (List.getElem?_eq_some_iff.mp hp).1
  have e2 : (ks.map fun q => hashN 2 q.2)[i]'(by rw [List.length_map]; exact hi) = hashN 2 p.2 := by
    rw [List.getElem_map, (List.getElem?_eq_some_iff.mp hp).2]
  exact List.pairwise_iff_getElem.mp hnd j i (by rw [List.length_map]; omega) (by rw [List.length_map]; exact hi) (by omega) (e.trans e2.symm)
theorem loopW {I : Addr} {fp wr : List Addr} {G : Array GenState → Array GenState → Prop} {n : Nat} {Pv : Nat → Value → Prop} {St : Nat → Shared → Prop} {R : Result → Shared → Prop} (W : WalksS P w A.in1 I fp wr G n Pv St) (S : Addr) (hSf : S ∉ fp) (ks : List (Addr × D)) (hn : n = ks.length) (hfew : ks.length ≤ 300)
    (hval : ∀ i v, Pv i v → ∃ p, ks[i]? = some p ∧ v = .ref p.1) (h0 : Heap) (hk : ∀ p, p ∈ ks → rk 2 p.2 = true ∧ NestedIs h0 (keyN 2 p.2) (.ref p.1)) (hnd : (ks.map fun q => hashN 2 q.2).Nodup) (hS0 : h0.get? S = none) (hw0 : ∀ b, b ∈ wr → h0.get? b = none) (hu : A.in1.units + 3 < cLine) :
    ∀ (k i : Nat) (s : Shared), n - i = k → i ≤ n → St i s → (∀ b o, h0.get? b = some o → s.heap.get? b = some o) → SetW s.heap S ((ks.take i).map fun q => hashN 2 q.2).reverse →
      (∀ s', Moved (S :: wr) G s s' → SetW s'.heap S (ks.map fun q => hashN 2 q.2).reverse → (∀ b o, h0.get? b = some o → s'.heap.get? b = some o) → R (.ok (.ret .none)) s') → codeAny (model P w) A (.builtin "set.update.loop" ⟨[.ref S, .ref I], []⟩) R s := by
  have hSw : S ∉ wr := fun z => hSf (W.sub _ z)
  have up : ∀ {s s' : Shared}, Moved wr G s s' → (∀ b o, h0.get? b = some o → s.heap.get? b = some o) → ∀ b o, h0.get? b = some o → s'.heap.get? b = some o := fun m q b o e => m.heap b o (fun z => by rw [hw0 b z] at e; cases e) (q b o e)
  have upS : ∀ {s s' : Shared} {l : List Int}, Moved wr G s s' → SetW s.heap S l → SetW s'.heap S l := fun m ⟨o, es, ep, t, q1, q2⟩ => ⟨o, es, ep, t, m.heap S o hSw q1, q2⟩
  intro k
  induction k with
  | zero =>
    intro i s e1 hi hst kp hS hR
    have : i = n := by omega
    subst this
    refine codeAny_builtin F.entry_set_update_loop ?_
    rw [Around.under_plainId F.plain_set_update_loop _]
    show wpAny _ A.in1 (pyNext (.ref I) >>= _) _ _ s
    refine wpAny_bind (W.done s _ _ hst fun s' m => ?_)
    rw [hn, List.take_length] at hS
    exact wpAny_pure (hR s' (m.mono fun b hb => List.mem_cons_of_mem _ hb) (upS m hS) (up m kp))
  | succ k ih =>
    intro i s e1 hi hst kp hS hR
    have hlt : i < n := by omega
    refine codeAny_builtin F.entry_set_update_loop ?_
    rw [Around.under_plainId F.plain_set_update_loop _]
    show wpAny _ A.in1 (pyNext (.ref I) >>= _) _ _ s
    refine wpAny_bind (W.item i s _ _ hlt hst fun v s' hP hst' m => ?_)
    obtain ⟨p, hp, rfl⟩ := hval i v hP
    have kp1 := up m kp
    have hS1 := upS m hS
    obtain ⟨r1, n1⟩ := hk p (List.mem_of_getElem? hp)
    have n2 : NestedIs s'.heap (keyN 2 p.2) (.ref p.1) := NestedIs.at (fun b o _ _ e _ => kp1 b o e) _ _ n1
    show wpAny _ A.in1 (holding [Value.ref p.1] (setAdd S (.ref p.1)) >>= _) _ _ s'
    refine wpAny_bind (wpAny_holding ?_)
    unfold setAdd
    refine wpAny_holding (wpAny_bind (pyHash_key (keyN 2 p.2) (.ref p.1) A.in1 s' _ n2 (by have := depth_key 2 p.2; omega) ?_))
    rw [hash_key w 2 p.2 r1]
    refine addW (s := { s' with toks := s'.toks + (keyN 2 p.2).draws }) hS1 (fun Q q => hbv_key (s := { s' with toks := s'.toks + (keyN 2 p.2).draws }) 2 8 p.2 _ (by omega) r1 n2 Q q) (hash_new hnd hp) (by rw [List.length_reverse, List.length_map, List.length_take]; have := (List.getElem?_eq_some_iff.mp hp).1; omega) fun b h' sb hS2 => ?_
    rw [← hashes_snoc ks hp] at hS2
    have kp2 : ∀ b o, h0.get? b = some o → h'.get? b = some o := fun b o e => (sb.2 b (fun z => by rw [z, hS0] at e; cases e)).trans (kp1 b o e)
    refine wpAny_pure ⟨plainId_quiet F.plain_set_update_loop _, ih (i + 1) _ (by omega) hlt (W.frame _ s' _ _ hst' (Nat.le_add_right _ _) fun b hb o e => ?_) kp2 hS2 fun s'' m2 hS3 kp3 => ?_⟩
    · rw [sb.2 b (fun z : b = S => hSf (by rw [← z]; exact hb))]
      exact e
    · refine hR s'' (Moved.trans W.gtrans ((m.mono fun b hb => List.mem_cons_of_mem _ hb).then_heap (Nat.le_add_right _ _) fun b o hb e => ?_) m2) hS3 kp3
      rw [sb.2 b (fun z : b = S => hb (by rw [z]; exact List.mem_cons_self))]
      exact e
end
end SB
end
end

section
set_option Elab.async false
set_option linter.all false
set_option maxRecDepth 100000
set_option maxHeartbeats 3200000
noncomputable section
namespace SB
open PySem PySem.Spec L2 Evl PyProof.Rows
section
variable {P : Program} {w : World} {A : Around} {E : Value → Shared → Prop} {s : Shared}
abbrev set0 (w : World) : Obj := { cls := .type "set", dict := none, data := .set #[] 0 (.fresh 0 0 (!w.params.followText "set-order")) }
theorem setW_0 {h : Heap} {a : Addr} (ho : h.get? a = some (set0 w)) : SetW h a [] :=
  ⟨_, #[], 0, _, ho, ⟨rfl, rfl, rfl⟩, rfl, ⟨List.Pairwise.nil, rfl, rfl, .inl rfl⟩, rfl, (by show 0 * 5 < 7 * 3; decide), fun e he => by cases he⟩
theorem newsetW {l : Addr} {items : Array Value} (ks : List (Addr × D)) {Q : Value → Shared → Prop} (hh : A.handled = none) (hl : s.heap.IsTuple l items) (hit : items.toList = ks.map fun p => Value.ref p.1)
    (hk : ∀ p, p ∈ ks → rk 2 p.2 = true ∧ NestedIs s.heap (keyN 2 p.2) (.ref p.1)) (hnd : (ks.map fun q => hashN 2 q.2).Nodup) (hfew : ks.length ≤ 300) (hu : A.units + 40 < cLine)
    (h : ∀ (h' : Heap) (tk : Nat), SetW h' s.heap.objs.size (ks.map fun q => hashN 2 q.2).reverse → (∀ b o, s.heap.get? b = some o → h'.get? b = some o) → Q (.ref s.heap.objs.size) { s with heap := h', toks := tk }) :
    wpAny (model P w) A (call (.type "set") [.ref l]) Q E s := by
  have nks : items.size = ks.length := by
    rw [← Array.length_toList, hit, List.length_map]
  obtain ⟨c, tl, mr0⟩ := F.called_set.mro
  have md0 := F.called_set.made
  have sb0 := F.called_set.sub
  refine wpAny_call (codeAny_of_tree (show wpAny _ _ (callAny (.type "set") _) _ _ _ from ?_))
  refine wpAny_pure ⟨Code.quiet_builtin _ (by decide +kernel), codeAny_builtin F.entry_type_call ?_⟩
  rw [show _ from Around.under_plain (weight_type_call_type "set" [.ref l] []) rfl]
  have nt0 := F.called_set.notType
  have cc0 := F.called_set.canCreate
  have tc0 := F.typeCall_set_1 (.ref l)
  repeat any_goals first | assumption | wp_step
  refine codeAny_mono (code_set_led1 (.ref l) (E := E) (Q₁ := fun obj s₁ => obj = .ref s.heap.objs.size ∧ s₁ = { s with heap := s.heap.push (set0 w) }) ⟨rfl, rfl⟩) fun r s₁ hr => ?_
  cases r with
  | error e => exact hr
  | ok fl =>
    cases fl with
    | ret obj =>
      obtain ⟨rfl, rfl⟩ := hr
      have hS : (s.heap.push (set0 w)).get? s.heap.objs.size = some (set0 w) := Heap.get?_push_size _ rfl
      have hT : Shared.TypeIs { s with heap := s.heap.push (set0 w) } (.ref s.heap.objs.size) "set" := ⟨_, hS, rfl⟩
      have li0 := F.called_set.init.lookup
      have bi0 := F.called_set.init.bind (.ref s.heap.objs.size)
      repeat any_goals first | assumption | wp_step
      refine codeAny_mono (codeAny_call_builtin (R := wants (fun r s₂ => r = .none ∧ ∃ h' tk, s₂ = { s with heap := h', toks := tk } ∧ SetW h' s.heap.objs.size (ks.map fun q => hashN 2 q.2).reverse ∧ (∀ b o, s.heap.get? b = some o → h'.get? b = some o)) E) F.called_set.init.plain F.entry_set_init (check_set_init_1 hT ?_)) fun r₂ s₂ hr₂ => ?_
      · have hl0 := hl
        obtain ⟨lob, hlob, hcl, nl, hdl⟩ := hl
        obtain ⟨ocl, odi, oda, osl0⟩ := lob
        simp only at hcl hdl
        subst hcl; subst hdl
        have hlob' : (s.heap.push (set0 w)).get? l = some { cls := .type "tuple", dict := odi, data := .seq items nl, slots := osl0 } := Heap.get?_push_of_some _ hlob
        have ss0 := F.sub_tuple_set
        have sf0 := F.sub_tuple_frozenset
        have ne0 : (Value.type "tuple" == Value.type "dict") = false := by decide
        have hl1 : (s.heap.push (set0 w)).IsTuple l items := ⟨_, hlob', rfl, nl, rfl⟩
        unfold Builtin.«set.__init__» noKeywords Builtin.Frozenset.updateFrom
        generalize hPI : pyIter = PI
        wp_walk
        subst hPI
        refine wpAny_pyIter_tuple hl1 (wpAny_bind (wpAny_runValue ?_))
        have lS0 : l < s.heap.objs.size := Heap.lt_size hlob
        have hd3 : A.in1.in1.in1.handled = none := by simp [hh]
        have hneI : l ≠ (s.heap.push (set0 w)).objs.size := by
          rw [Heap.size_push]
          exact Nat.ne_of_lt (Nat.lt_succ_of_lt lS0)
        have hSf : s.heap.objs.size ∉ [(s.heap.push (set0 w)).objs.size, l] := by
          rw [Heap.size_push]
          simp only [List.mem_cons, List.not_mem_nil, or_false, not_or]
          exact ⟨Nat.ne_of_lt (Nat.lt_succ_self _), Nat.ne_of_gt lS0⟩
        have vls : ∀ (i : Nat) (v : Value), items[i]? = some v → ∃ p, ks[i]? = some p ∧ v = .ref p.1 := fun i v hv => by
          rw [← Array.getElem?_toList, hit, List.getElem?_map] at hv
          obtain ⟨p, e1, e2⟩ := Option.map_eq_some_iff.mp hv
          exact ⟨p, e1, e2.symm⟩
        have gone : ∀ b, s.heap.objs.size ≤ b → s.heap.get? b = none := fun b hb => by
          cases q : s.heap.get? b with
          | none => rfl
          | some o => exact absurd (Nat.lt_of_lt_of_le (Heap.lt_size q) hb) (Nat.lt_irrefl _)
        refine loopW ((Walks.tuple hd3 _ l hneI items).toS) s.heap.objs.size hSf ks nks hfew vls s.heap hk hnd (gone _ (Nat.le_refl _)) (fun b hb => gone b (by
            rw [List.mem_singleton.mp hb, Heap.size_push]
            exact Nat.le_succ _)) ?hU (items.size - 0) 0 _ (by omega) (Nat.zero_le _)
          ⟨⟨_, Heap.get?_push_size _ rfl, rfl, rfl⟩, (hl1.push _)⟩ (fun b o e => Heap.get?_push_of_some _ (Heap.get?_push_of_some _ e)) (setW_0 (w := w) (Heap.get?_push_of_some _ hS)) ?hR
        case hU => simp only [Around.in1] at *; omega
        case hR =>
          intro s' hm hS' hkp
          obtain ⟨h', g2, d', tkx, osx⟩ := s'
          have gg : g2 = s.gens := hm.gens
          have dd0 : d' = s.drawn := hm.drawn
          have oo0 : osx = s.os := hm.os
          subst gg dd0 oo0
          refine wpAny_pure (show wpAny _ _ (ret Value.none) _ _ _ from ?_)
          exact wpAny_pure ⟨rfl, h', tkx, rfl, hS', hkp⟩
      · cases r₂ with
        | error e => exact hr₂
        | ok fl₂ =>
          cases fl₂ with
          | ret r =>
            obtain ⟨rfl, h', tk, rfl, hS', hk'⟩ := hr₂
            repeat any_goals first | assumption | wp_step
            exact h _ _ hS' hk'
          | _ => exact hr₂.elim
    | _ => exact hr.elim
end
end SB
end
end

section
set_option Elab.async false
set_option linter.all false
set_option maxRecDepth 100000
set_option maxHeartbeats 2000000
noncomputable section
namespace SB
open PySem PySem.Spec L2 Evl PyProof.Rows
section
variable {X : Cx} {W : WD}
theorem key_is {pins : List (Addr × Obj)} {σ : L2.St} {H : Hp} {s : Shared} (I : Inv X pins σ H s) : ∀ (n : Nat) (d : D) (v : V) (u : Value), rk n d = true → Rp X.K H v d → RelV v u → NestedIs s.heap (keyN n d) u
  | 0, d, v, u, h, r, q => by
    cases d with
    | int i =>
      cases r
      obtain ⟨t, rfl⟩ := q
      exact .int i t
    | _ => cases h
  | n + 1, d, v, u, h, r, q => by
    cases d with
    | tuple xs =>
      cases r with
      | tup ha hr =>
        cases (show u = Value.ref _ from q)
        obtain ⟨its, rv, ⟨o, ho, hc, m, hd⟩, _⟩ := I.tuple (.inl (tat_rd ha))
        have key : ∀ (xs : List D) (vs : List V) (us : List Value), (∀ x, x ∈ xs → rk n x = true) → RpAll X.K H vs xs → Vals vs us → NestedAll s.heap (xs.map (keyN n)) us := by
          intro xs
          induction xs with
          | nil =>
            intro vs us _ r q
            cases r
            cases q
            exact .nil
          | cons x xs ih =>
            intro vs us hx r q
            cases r with
            | cons r1 r2 =>
              cases q with
              | cons q1 q2 => exact .cons (key_is I n x _ _ (hx x (by simp)) r1 q1) (ih _ _ (fun y hy => hx y (by simp [hy])) r2 q2)
        have kk : NestedAll s.heap (xs.map (keyN n)) its.toArray.toList := by
          rw [show its.toArray.toList = its from by simp]
          exact key xs _ its (allL_mem (f := rk n) h) hr rv
        exact NestedIs.tup ho hc hd kk
    | _ => cases h
/-- the parts are tuples: their places -/
theorem parts_ref {H : Hp} : ∀ {vs : List V} {ds : List D}, RpAll X.K H vs ds → (∀ d, d ∈ ds → rk 2 d = true) → ∃ ks : List (Addr × D), vs = ks.map (fun p => V.ref p.1) ∧ ds = ks.map (·.2)
  | _, _, .nil, _ => ⟨[], rfl, rfl⟩
  | _, _, .cons (v := v) (d := d) r q, h => by
    obtain ⟨ks, e1, e2⟩ := parts_ref q fun d hd => h d (by simp [hd])
    have hd := h d (by simp)
    cases d with
    | tuple xs =>
      cases r with
      | @tup a _ _ _ _ => exact ⟨(a, .tuple xs) :: ks, by rw [e1]; rfl, by rw [e2]; rfl⟩
    | _ => cases hd
theorem refs_are : ∀ {ks : List (Addr × D)} {us : List Value}, Vals (ks.map fun p => V.ref p.1) us → us = ks.map fun p => Value.ref p.1
  | [], _, .nil => rfl
  | p :: ks, _, .cons r t => by
    cases (show _ = Value.ref p.1 from r)
    rw [refs_are t]
    rfl
theorem vals_get {ks : List (Addr × D)} {H : Hp} (r : RpAll X.K H (ks.map fun p => V.ref p.1) (ks.map (·.2))) : ∀ p, p ∈ ks → Rp X.K H (.ref p.1) p.2 := by
  induction ks with
  | nil => intro p hp; cases hp
  | cons q ks ih =>
    cases r with
    | cons r1 r2 =>
      intro p hp
      rcases List.mem_cons.mp hp with rfl | hp
      · exact r1
      · exact ih r2 p hp
def tLenSetN (K : PySem.W.Frag) (ta : TE) : TE := fun σ H Q => ta σ H fun x H1 => ∃ ds : List D, Rp K H1 x (.tuple ds) ∧ (∀ d, d ∈ ds → rk 2 d = true) ∧ (ds.map (hashN 2)).Nodup ∧ ds.length ≤ 300 ∧ Q (.int ds.length) H1
theorem pe_lenSetN {a : Expr} {ta : TE} {p p2 q pos : Pos} (hc : X.calm = true) (hu : X.A.units + 65 < cLine) (hg : Gl X "len") (hm : X.mg "len" = none) (hg2 : Gl X "set") (hm2 : X.mg "set" = none) (ha : PE X a ta) (na : starEach [a] X.env = (false, eval a X.env) :: starEach [] X.env) :
    PE X (.Call (.Name "len" p) [.Call (.Name "set" p2) [a] [] q] [] pos) (tLenSetN X.K ta) := by
  refine ⟨fun pins s σ H Q I h => Call_ (ld_blt I hg hm PySem.boot_len (PyProof.Rows.callWith_builtin1 (PyProof.Rows.args_cons ?_ rfl) rfl rfl))⟩
  refine Call_ (ld_blt I hg2 hm2 PyProof.Rows.boot_set (PyProof.Rows.callWith_type1 (PyProof.Rows.args_cons (thn (ha.run pins s σ H _ I h) fun v s1 ⟨x, H1, I1, r1, q1⟩ => PyProof.Rows.args_nil ?_) na) na rfl))
  obtain ⟨ds, hr, hk, hnd, hz, q1⟩ := q1
  cases hr with
  | @tup l xs _ ha hr =>
    cases (show v = Value.ref _ from r1)
    obtain ⟨ks, rfl, rfl⟩ := parts_ref hr hk
    obtain ⟨its, rv, hT, _⟩ := I1.tuple (.inl (tat_rd ha))
    have e := refs_are rv
    have hget := vals_get hr
    have hmm : (ks.map (·.2)).map (hashN 2) = ks.map fun q => hashN 2 q.2 := by rw [List.map_map]; rfl
    rw [hmm] at hnd
    rw [List.length_map] at hz q1
    refine newsetW ks (I1.ok.hd hc) hT (by simpa using e) (fun p hp => ⟨hk _ (List.mem_map_of_mem hp), key_is I1 2 p.2 (.ref p.1) (.ref p.1) (hk _ (List.mem_map_of_mem hp)) (hget p hp) rfl⟩) hnd hz (by omega) fun h' tk hS keep => ?_
    refine PyProof.Rows.args_nil ?_
    obtain ⟨o, es, ep, t, ho, hex, hd, T, hl, hroom, _⟩ := hS
    rw [List.length_reverse, List.length_map] at hl
    have I2 : Inv X pins σ H1 { s1 with heap := h', toks := tk } := I1.kept fun b o e => keep b o e
    exact call_len_set ho hex hd (T.fits (by omega)) (by omega) ⟨.int ks.length, H1, I2.tok _, ⟨_, by rw [hl]⟩, q1⟩
def nodupI (l : List Int) : Bool := List.rec (motive := fun _ => Bool) true (fun a r ih => cond (anyL (fun b => decide (a = b)) r) false ih) l
theorem anyL_mem {α : Type} {f : α → Bool} : ∀ {l : List α}, anyL f l = false → ∀ a, a ∈ l → f a = false
  | [], _, _, h => by cases h
  | b :: l, h, a, ha => by
    replace h : cond (f b) true (anyL f l) = false := h
    cases e : f b with
    | true => rw [e] at h; cases h
    | false =>
      rw [e] at h
      rcases List.mem_cons.mp ha with rfl | ha
      · exact e
      · exact anyL_mem h a ha
theorem nodupI_ok : ∀ l : List Int, nodupI l = true → l.Nodup
  | [], _ => List.nodup_nil
  | a :: r, h => by
    replace h : cond (anyL (fun b => decide (a = b)) r) false (nodupI r) = true := h
    cases e : anyL (fun b => decide (a = b)) r with
    | true => rw [e] at h; cases h
    | false =>
      rw [e] at h
      exact List.nodup_cons.mpr ⟨fun hm => of_decide_eq_false (anyL_mem e a hm) rfl, nodupI_ok r h⟩
def lenSetD : D → Res D
  | .tuple ds => if (allL (rk 2) ds && nodupI (ds.map (hashN 2)) && Nat.ble ds.length 300) = true then .ok (.int (ds.length : Int)) else .bad
  | _ => .bad
def xLenSet (fa : DEnv → Res D) : DEnv → Res D := fun ρ => (fa ρ).bind lenSetD
theorem de_lenSet {b : Bool} {a : Expr} {fa : DEnv → Res D} {p p2 q pos : Pos} (hc : X.calm = true) (hu : X.A.units + 65 < cLine) (hg : Gl X "len") (hm : X.mg "len" = none) (hg2 : Gl X "set") (hm2 : X.mg "set" = none) (ha : DE X W true a fa) (na : starEach [a] X.env = (false, eval a X.env) :: starEach [] X.env := by rfl) :
    DE X W b (.Call (.Name "len" p) [.Call (.Name "set" p2) [a] [] q] [] pos) (xLenSet fa) := by
  obtain ⟨t, pt, q⟩ := ha.ex
  refine ⟨_, pe_lenSetN hc hu hg hm hg2 hm2 pt na, fun Hs0 H0 ρ σ Hs H Q e h => ?_⟩
  refine q _ _ ρ σ Hs H _ e ((PostA.bind h).mono fun d Hs1 H1 s1 h1 v rv => ?_)
  cases d with
  | tuple ds =>
    refine post_mk h1 fun hok h1 => ?_
    simp only [Bool.and_eq_true] at hok
    exact ⟨ds, rv.whole s1.sub, allL_mem hok.1.1, nodupI_ok _ hok.1.2, Nat.le_of_ble_eq_true hok.2, h1.now s1.sub _ (.of (.int _))⟩
  | _ => exact h1.elim
end
end SB
end
end

section
set_option Elab.async false
set_option linter.all false
set_option maxRecDepth 100000
set_option maxHeartbeats 2000000
noncomputable section
namespace SB
open PySem PySem.Spec L2 Evl PyProof.Rows
/-! ### a dict with tuple keys that defs hand on and change -/
section
variable {X : Cx} {W : WD}
def memAt (ρ : DEnv) (i : Nat) : Res (List (List Key × D)) := match lk ρ i with
  | some (.obj _ (.dT kvs)) => .ok kvs
  | _ => .bad
theorem memAt_ok {ρ : DEnv} {i : Nat} {kvs : List (List Key × D)} {Hs0 : Hp} {H0 : Hp0} {Hs H : Hp} {σ : L2.St} (e : EnvOk X.K Hs0 H0 ρ σ Hs H) (h : memAt ρ i = .ok kvs) : ∃ a ws, σ[i]? = some (some (V.ref a)) ∧ H a = some (.dT ws) ∧ RpKs X.K Hs ws kvs := by
  unfold memAt at h
  split at h
  · rename_i p k hk
    cases h
    obtain ⟨a, o, h1, _, _, h4, h5⟩ := e.ow i _ rfl (lk_some hk)
    cases o with
    | dT ws => exact ⟨a, ws, h1, h4, h5⟩
    | _ => exact h5.elim
  · cases h
def xInO (neg : Bool) (i : Nat) (fy : DEnv → Res D) : DEnv → Res D := fun ρ => (fy ρ).bind fun y => (memAt ρ i).bind fun kvs => inT neg kvs y
theorem inO_read {neg : Bool} {ty : TE} {fy : DEnv → Res D} {i : Nat} {ρ : DEnv} {σ : L2.St} {Hs0 : Hp} {H0 : Hp0} {Hs H : Hp} {Q : VK} {b : Bool} (q : ∀ Hs0 H0 ρ σ Hs H Q, EnvOk X.K Hs0 H0 ρ σ Hs H → Post X.K true W σ Hs H Q (fy ρ) → ty σ H Q)
    (e : EnvOk X.K Hs0 H0 ρ σ Hs H) (h : Post X.K b W σ Hs H Q (xInO neg i fy ρ)) :
    ty σ H fun y H1 => tVar i σ H1 fun x H2 => ∃ a o, x = .ref a ∧ DGet H2 a y o ∧ Q (.bl (bif neg then !o.isSome else o.isSome)) H2 := by
  refine q _ _ ρ σ Hs H _ e ((PostA.bind h).mono fun y Hs1 H1 s1 g v rv => ?_)
  cases hk : memAt ρ i with
  | bad => rw [hk] at g; exact g.elim
  | exc c => unfold memAt at hk; split at hk <;> cases hk
  | ok kvs =>
    rw [hk] at g
    replace g : PostA W σ Hs1 H1 _ (inT neg kvs y) := g
    obtain ⟨a, ws, h1, h2, h3⟩ := memAt_ok (e.step s1) hk
    unfold inT at g
    cases hky : tkOf y with
    | none => rw [hky] at g; exact g.elim
    | some ky =>
      rw [hky] at g
      obtain ⟨c, rfl, hc⟩ := tkOf_ok s1.sub rv hky
      have rel := rpg_val (k := ky) h3
      refine ⟨_, h1, a, valV ws ky, rfl, .inr ⟨ws, ky, c, .inl h2, rfl, hc, rfl⟩, ?_⟩
      have es : (valV ws ky).isSome = (valG kvs ky).isSome := by
        cases hvl : valG kvs ky with
        | none => rw [hvl] at rel; rw [show valV ws ky = none from rel]; rfl
        | some d =>
          rw [hvl] at rel
          obtain ⟨u, v1, _⟩ := rel
          rw [v1]; rfl
      rw [es]
      exact PostA.now s1.sub g _ (.of (.bl _))
theorem de_inO {b : Bool} {x : Str} (i : Nat) {c : Expr} {fy : DEnv → Res D} {k : Nat} {pos p2 : Pos} (hr : Room k X.A) (hy : DE X W true c fy) (hN : X.N[i]? = some x := by rfl) (hv : Vis X.env.scope x := by first | exact Or.inl rfl | exact Or.inr (Or.inl rfl) | exact Or.inr (Or.inr rfl)) (hd : (x == ("__debug__" : Str)) = false := by decide)
    (hcd : (x == ("__classdict__" : Str)) = false := by decide) (hm : behindInMarks .In (.Name x p2) = false := by rfl) : DE X W b (.Compare c [.In] [.Name x p2] pos) (xInO false i fy) := by
  obtain ⟨t, pt, q⟩ := hy.ex
  exact ⟨_, pe_cmp (pc_din (by have := hr.un; omega) pt (pe_var (i := i) hN hv hd hcd)) hm, fun Hs0 H0 ρ σ Hs H Q e h => inO_read q e h⟩
theorem de_ninO {b : Bool} {x : Str} (i : Nat) {c : Expr} {fy : DEnv → Res D} {k : Nat} {pos p2 : Pos} (hr : Room k X.A) (hy : DE X W true c fy) (hN : X.N[i]? = some x := by rfl) (hv : Vis X.env.scope x := by first | exact Or.inl rfl | exact Or.inr (Or.inl rfl) | exact Or.inr (Or.inr rfl)) (hd : (x == ("__debug__" : Str)) = false := by decide)
    (hcd : (x == ("__classdict__" : Str)) = false := by decide) (hm : behindInMarks .NotIn (.Name x p2) = false := by rfl) : DE X W b (.Compare c [.NotIn] [.Name x p2] pos) (xInO true i fy) := by
  obtain ⟨t, pt, q⟩ := hy.ex
  exact ⟨_, pe_cmp (pc_dnotin (by have := hr.un; omega) pt (pe_var (i := i) hN hv hd hcd)) hm, fun Hs0 H0 ρ σ Hs H Q e h => inO_read q e h⟩
theorem dt_inO {x : Str} (i : Nat) {c : Expr} {fy : DEnv → Res D} {k : Nat} {pos p2 : Pos} (hr : Room k X.A) (hy : DE X W true c fy) (hN : X.N[i]? = some x := by rfl) (hv : Vis X.env.scope x := by first | exact Or.inl rfl | exact Or.inr (Or.inl rfl) | exact Or.inr (Or.inr rfl)) (hd : (x == ("__debug__" : Str)) = false := by decide)
    (hcd : (x == ("__classdict__" : Str)) = false := by decide) (hm : behindInMarks .In (.Name x p2) = false := by rfl) : DT X W (.Compare c [.In] [.Name x p2] pos) (xB (xInO false i fy)) := by
  obtain ⟨t, pt, q⟩ := hy.ex
  exact ⟨_, pt_cmp (pc_din (by have := hr.un; omega) pt (pe_var (i := i) hN hv hd hcd)) hm, fun Hs0 H0 ρ σ Hs H Q e h => inO_read q e (asB_post h)⟩
theorem dt_ninO {x : Str} (i : Nat) {c : Expr} {fy : DEnv → Res D} {k : Nat} {pos p2 : Pos} (hr : Room k X.A) (hy : DE X W true c fy) (hN : X.N[i]? = some x := by rfl) (hv : Vis X.env.scope x := by first | exact Or.inl rfl | exact Or.inr (Or.inl rfl) | exact Or.inr (Or.inr rfl)) (hd : (x == ("__debug__" : Str)) = false := by decide)
    (hcd : (x == ("__classdict__" : Str)) = false := by decide) (hm : behindInMarks .NotIn (.Name x p2) = false := by rfl) : DT X W (.Compare c [.NotIn] [.Name x p2] pos) (xB (xInO true i fy)) := by
  obtain ⟨t, pt, q⟩ := hy.ex
  exact ⟨_, pt_cmp (pc_dnotin (by have := hr.un; omega) pt (pe_var (i := i) hN hv hd hcd)) hm, fun Hs0 H0 ρ σ Hs H Q e h => inO_read q e (asB_post h)⟩

def sDputO (i : Nat) (fy fv : DEnv → Res D) : DEnv → Out := fun ρ => match lk ρ i with
  | some (.obj p (.dT kvs)) => (fv ρ).out fun d => (fy ρ).out fun y => match tkOf y with
    | some k => if (small kvs.length && ndT kvs) = true then .next (st ρ i (some (.obj p (.dT (putG kvs k d))))) else .bad
    | none => .bad
  | _ => .bad
theorem ds_dputO {x : Str} (i : Nat) {c v : Expr} {fy fv : DEnv → Res D} {k : Nat} {pos pos' p2 : Pos} (hr : Room k X.A) (hv' : DE X W false v fv) (hy : DE X W true c fy) (hs : swapsWith v (some (.Subscript (.Name x p2) c pos')) pos.line X.env = pure false := by rfl)
    (hN : X.N[i]? = some x := by rfl) (hv : Vis X.env.scope x := by first | exact Or.inl rfl | exact Or.inr (Or.inl rfl) | exact Or.inr (Or.inr rfl)) (hd : (x == ("__debug__" : Str)) = false := by decide) (hcd : (x == ("__classdict__" : Str)) = false := by decide) :
    DS X W (.Assign [.Subscript (.Name x p2) c pos'] v pos) (sDputO i fy fv) := by
  obtain ⟨tv, pv, qv⟩ := hv'.ex
  obtain ⟨t, pt, q⟩ := hy.ex
  refine ⟨_, ps_dput (by have := hr.un; omega) (pe_var (i := i) hN hv hd hcd) pt pv hs, fun Hs0 H0 ρ σ Hs H E e h => ?_⟩
  unfold sDputO at h
  split at h
  · rename_i p kvs hk
    obtain ⟨a, o, h1, h2, h3, h4, h5⟩ := e.ow i _ rfl (lk_some hk)
    cases o with
    | dT ws =>
      refine qv _ _ ρ σ Hs H _ e ((post_out e h).mono fun d Hs1 H1 s1 g u ru => ⟨_, h1, ?_⟩)
      refine q _ _ ρ σ Hs1 H1 _ (e.step s1) ((post_out (e.step s1) g).mono fun y Hs2 H2 s2 g2 w rw => ?_)
      cases hky : tkOf y with
      | none => rw [hky] at g2; exact g2.elim
      | some ky =>
        rw [hky] at g2
        refine postS_mk g2 fun hz g2 => ?_
        rw [Bool.and_eq_true] at hz
        obtain ⟨c, rfl, hc⟩ := tkOf_ok s2.sub rw hky
        have s12 := s1.trans s2
        have h5' : RpKs X.K Hs ws kvs := h5
        have nd : (ws.map (·.1)).Nodup := by rw [rpg_keys h5']; exact of_decide_eq_true hz.2
        refine ⟨a, _, rfl, .inr ⟨ws, ky, c, s12.wh _ _ h4, rfl, hc, by rw [rpg_len h5']; exact small_lt hz.1, rfl⟩, ?_⟩
        rw [st_eq] at g2
        exact g2 σ Hs2 _ (Ex.refl _) ((e.step s12).putObj (x := .obj p (.dT kvs)) (y := .obj p (.dT (putG kvs ky d))) (o := .dT (putK ws ky u)) rfl rfl (lk_some hk) h1 (rpg_put (Rp.ex s2.sh ru.rp) (RpKs.ex s12.sh h5') nd))
    | _ => exact h5.elim
  · exact h.elim
def getOD (kvs : List (List Key × D)) (y : D) : Res D := match tkOf y with
  | some k => (match valG kvs k with | some d => .ok d | none => .bad)
  | none => .bad
def xDixO (i : Nat) (fy : DEnv → Res D) : DEnv → Res D := fun ρ => (memAt ρ i).bind fun kvs => (fy ρ).bind fun y => getOD kvs y
theorem de_dixO {b : Bool} {x : Str} (i : Nat) {c : Expr} {fy : DEnv → Res D} {k : Nat} {pos p2 : Pos} (hr : Room k X.A) (hy : DE X W true c fy) (hN : X.N[i]? = some x := by rfl) (hv : Vis X.env.scope x := by first | exact Or.inl rfl | exact Or.inr (Or.inl rfl) | exact Or.inr (Or.inr rfl)) (hd : (x == ("__debug__" : Str)) = false := by decide)
    (hcd : (x == ("__classdict__" : Str)) = false := by decide) (hs : NoSl c := by exact fun _ _ => rfl) : DE X W b (.Subscript (.Name x p2) c pos) (xDixO i fy) := by
  obtain ⟨t, pt, q⟩ := hy.ex
  refine ⟨_, pe_dget (by have := hr.un; omega) (pe_var (i := i) hN hv hd hcd) pt hs, fun Hs0 H0 ρ σ Hs H Q e h => ?_⟩
  have h0 := PostA.bind h
  cases hk : memAt ρ i with
  | bad => rw [hk] at h0; exact h0.elim
  | exc c => unfold memAt at hk; split at hk <;> cases hk
  | ok kvs =>
    rw [hk] at h0
    obtain ⟨a, ws, h1, h2, h3⟩ := memAt_ok e hk
    refine ⟨_, h1, q _ _ ρ σ Hs H _ e ((PostA.bind (h0.now e.sub)).mono fun y Hs1 H1 s1 g v rv => ?_)⟩
    unfold getOD at g
    cases hky : tkOf y with
    | none => rw [hky] at g; exact g.elim
    | some ky =>
      rw [hky] at g
      obtain ⟨c, rfl, hc⟩ := tkOf_ok s1.sub rv hky
      have rel := rpg_val (k := ky) (RpKs.ex s1.sh h3)
      simp only at g
      cases hvl : valG kvs ky with
      | none => rw [hvl] at g; exact g.elim
      | some d =>
        rw [hvl] at g rel
        obtain ⟨u, v1, v2⟩ := rel
        exact ⟨a, u, rfl, .inr ⟨ws, ky, c, .inl (s1.wh _ _ h2), rfl, hc, v1.symm⟩, PostA.now s1.sub g _ (.of v2)⟩

/-- x = {} -/
def sNewDO (i : Nat) : DEnv → Out := fun ρ => .next (st ρ i (some (.obj none (.dT []))))
theorem ds_newDO (i : Nat) {x : Str} {pos pos' p2 : Pos} (hN : X.N.Nodup) (hi : X.N[i]? = some x := by rfl) (hx : Loc X.env.scope x := by first | exact Or.inl rfl | exact Or.inr rfl)
    (hs : swapsWith (.Dict [] [] p2) (some (.Name x pos')) pos.line X.env = pure false := by rfl) (hf : X.fn x = true ∨ X.env.scope.names.lookup x = some .local := by first | exact .inl rfl | exact .inr rfl | assumption) : DS X W (.Assign [.Name x pos'] (.Dict [] [] p2) pos) (sNewDO i) := by
  refine ⟨tAsg tDNewT (gName i), ps_set hN hi hx pe_dnewT hs hf, fun Hs0 H0 ρ σ Hs H E e h => ?_⟩
  intro p hp
  have h' : PostS X.K W Hs0 H0 Hs E (.next (ρ.set i (some (.obj none (.dT []))))) := by rw [← st_eq]; exact h
  exact h' _ Hs _ (Ex.refl _) (e.setObj (x := .obj none (.dT [])) (o := .dT []) rfl hp .nil)
end
section
variable {P : Program} {w : World} {K : PySem.W.Frag} {mg : Str → Option Value} {base : Heap} {xc : Nat → Value}
theorem rdyO_bad {x : Str} {args : Arguments} {st : List Stmt} {sc : Scope} {f : Addr} {fd : FuncData} {ps : List Str} {k j : Nat} (Fn : FunD K x x args st sc [] [] f fd) (gm : mg x = some (.ref f)) (hb : Binds K fd ps []) : RdyO P w K mg base xc k x ps j (fun _ _ => .bad) := by
  refine ⟨f, fd, ⟨?_, ?_⟩, gm, Fn.kp, hb⟩
  · rintro vs H Q E ⟨Hs, us1, us2, ds1, ds2, a, o, _, _, _, _, _, _, h⟩
    exact h.elim
  · rintro A outer s H as us vs Q E _ _ _ _ ⟨Hs, us1, us2, ds1, ds2, a, o, _, _, _, _, _, _, h⟩
    exact h.elim
end
end SB
end
end

section
set_option Elab.async false
set_option linter.all false
set_option maxRecDepth 100000
set_option maxHeartbeats 2000000
noncomputable section
namespace SB
open PySem PySem.Spec L2 Evl PyProof.Rows
section
variable {X : Cx}
def powC (i j : Int) : Bool := Nat.ble i.natAbs 1000000 && (match j with | .ofNat n => Nat.ble n 10 | _ => false)
def powD : D → D → Res D
  | .int i, .int j => if powC i j = true then .ok (.int (i ^ j.toNat)) else .bad
  | _, _ => .bad
theorem powC_ok {i j : Int} (h : powC i j = true) : CPow i j := by
  unfold powC at h
  rw [Bool.and_eq_true] at h
  obtain ⟨h1, h2⟩ := h
  have h1 := Nat.le_of_ble_eq_true h1
  cases j with
  | ofNat n =>
    have h2 : n ≤ 10 := Nat.le_of_ble_eq_true h2
    have e : Int.ofNat n = (n : Int) := rfl
    rw [e]
    exact ⟨by omega, by omega, Nat.lt_of_le_of_lt h1 (by decide)⟩
  | negSucc n => cases h2
theorem opd_pow : OpD X (binaryOp .Pow) powD := by
  refine ⟨_, op_pow, fun W σ Hs H x y a c Q e rx ry h => ?_⟩
  cases a with
  | int i =>
    cases c with
    | int j =>
      refine post_mk h fun hc h => ?_
      exact ⟨i, j, rx.int, ry.int, powC_ok hc, h.now e _ (.of (.int _))⟩
    | _ => exact h.elim
  | _ => exact h.elim
end
end SB
end
end

section
set_option linter.all false
namespace RSK
/-! Row insertion and tableaux, in plain Lean. A tableau is the list of its rows. -/
abbrev Row := List Int
abbrev T := List (List Int)
def Sorted (r : Row) : Prop := r.Pairwise (· ≤ ·)
/-- x goes into a row: the first greater number is pushed out -/
def rowIns : Row → Int → Row × Option Int
  | [], x => ([x], none)
  | a :: r, x => if x < a then (x :: r, some a) else (a :: (rowIns r x).1, (rowIns r x).2)
/-- x goes into a tableau: the new one, and the row of the new box -/
def ins : T → Int → T × Nat
  | [], x => ([[x]], 0)
  | r :: rs, x => match (rowIns r x).2 with
    | none => ((rowIns r x).1 :: rs, 0)
    | some y => ((rowIns r x).1 :: (ins rs y).1, (ins rs y).2 + 1)
/-- a row that may stand below another one -/
def below : Row → Row → Prop
  | _, [] => True
  | [], _ :: _ => False
  | a :: hi, b :: lo => a < b ∧ below hi lo
def Tab : T → Prop
  | [] => True
  | r :: rs => r ≠ [] ∧ Sorted r ∧ below r (rs.headD []) ∧ Tab rs

theorem rowIns_gt {a x : Int} {r : Row} (h : x < a) : rowIns (a :: r) x = (x :: r, some a) := if_pos h
theorem rowIns_le {a x : Int} {r : Row} (h : a ≤ x) : rowIns (a :: r) x = (a :: (rowIns r x).1, (rowIns r x).2) := if_neg (by omega)
theorem rowIns_ne (r : Row) (x : Int) : (rowIns r x).1 ≠ [] := by
  cases r with
  | nil => simp [rowIns]
  | cons a r => unfold rowIns; split <;> simp
/-- nothing is pushed out: x stands at the end -/
theorem rowIns_none : ∀ {r : Row} {x : Int}, (rowIns r x).2 = none → (rowIns r x).1 = r ++ [x] ∧ ∀ a, a ∈ r → a ≤ x
  | [], x, _ => ⟨rfl, fun _ h => nomatch h⟩
  | a :: r, x, h => by
    by_cases hx : x < a
    · rw [rowIns_gt hx] at h; cases h
    · rw [rowIns_le (by omega)] at h ⊢
      obtain ⟨h1, h2⟩ := rowIns_none (r := r) (x := x) h
      refine ⟨by simp [h1], fun b hb => ?_⟩
      rcases List.mem_cons.mp hb with rfl | hb
      · omega
      · exact h2 b hb
theorem rowIns_end : ∀ {r : Row} {x : Int}, (∀ a, a ∈ r → a ≤ x) → rowIns r x = (r ++ [x], none)
  | [], x, _ => rfl
  | a :: r, x, h => by
    rw [rowIns_le (h a (by simp)), rowIns_end fun b hb => h b (by simp [hb])]
    rfl
/-- y is pushed out of its place -/
theorem rowIns_some : ∀ {r : Row} {x y : Int}, (rowIns r x).2 = some y → ∃ l m, r = l ++ y :: m ∧ (rowIns r x).1 = l ++ x :: m ∧ (∀ a, a ∈ l → a ≤ x) ∧ x < y
  | [], x, y, h => by cases h
  | a :: r, x, y, h => by
    by_cases hx : x < a
    · rw [rowIns_gt hx] at h ⊢
      cases h
      exact ⟨[], r, rfl, rfl, (by simp), hx⟩
    · rw [rowIns_le (by omega)] at h ⊢
      obtain ⟨l, m, h1, h2, h3, h4⟩ := rowIns_some (r := r) (x := x) h
      refine ⟨a :: l, m, by rw [h1]; rfl, by simp [h2], fun b hb => ?_, h4⟩
      rcases List.mem_cons.mp hb with rfl | hb
      · omega
      · exact h3 b hb
theorem rowIns_at : ∀ {l m : Row} {x y : Int}, (∀ a, a ∈ l → a ≤ x) → x < y → rowIns (l ++ y :: m) x = (l ++ x :: m, some y)
  | [], m, x, y, _, h => rowIns_gt h
  | a :: l, m, x, y, hl, h => by
    rw [List.cons_append, rowIns_le (hl a (by simp)), rowIns_at (fun b hb => hl b (by simp [hb])) h]
    rfl
theorem rowIns_len_some {r : Row} {x y : Int} (h : (rowIns r x).2 = some y) : (rowIns r x).1.length = r.length := by
  obtain ⟨l, m, h1, h2, _, _⟩ := rowIns_some h
  rw [h2, h1]; simp
theorem rowIns_len_none {r : Row} {x : Int} (h : (rowIns r x).2 = none) : (rowIns r x).1.length = r.length + 1 := by
  rw [(rowIns_none h).1]; simp
theorem sorted_cons {a : Int} {r : Row} : Sorted (a :: r) ↔ (∀ b, b ∈ r → a ≤ b) ∧ Sorted r := by
  unfold Sorted; rw [List.pairwise_cons]
theorem rowIns_mem {r : Row} {x b : Int} (h : b ∈ (rowIns r x).1) : b = x ∨ b ∈ r := by
  cases e : (rowIns r x).2 with
  | none =>
    rw [(rowIns_none e).1] at h
    simp at h
    exact h.symm
  | some y =>
    obtain ⟨l, m, h1, h2, _, _⟩ := rowIns_some e
    rw [h2] at h
    rw [h1]
    simp at h ⊢
    rcases h with h | h | h
    · exact .inr (.inl h)
    · exact .inl h
    · exact .inr (.inr (.inr h))
theorem rowIns_sorted : ∀ {r : Row} {x : Int}, Sorted r → Sorted (rowIns r x).1
  | [], x, _ => by simp [rowIns, Sorted]
  | a :: r, x, h => by
    rw [sorted_cons] at h
    by_cases hx : x < a
    · rw [rowIns_gt hx]
      show Sorted (x :: r)
      rw [sorted_cons]
      exact ⟨fun b hb => by have := h.1 b hb; omega, h.2⟩
    · rw [rowIns_le (by omega)]
      show Sorted (a :: (rowIns r x).1)
      rw [sorted_cons]
      refine ⟨fun b hb => ?_, rowIns_sorted h.2⟩
      rcases rowIns_mem hb with rfl | hb
      · omega
      · exact h.1 b hb
theorem below_nil (r : Row) : below r [] := by cases r <;> trivial
theorem below_len : ∀ {hi lo : Row}, below hi lo → lo.length ≤ hi.length
  | _, [], _ => Nat.zero_le _
  | [], _ :: _, h => h.elim
  | a :: hi, b :: lo, h => by simp; exact below_len h.2
/-- the upper row's numbers less, or more of them -/
theorem below_ins_hi : ∀ {hi lo : Row} {x : Int}, below hi lo → below (rowIns hi x).1 lo
  | hi, [], x, _ => below_nil _
  | [], _ :: _, _, h => h.elim
  | a :: hi, b :: lo, x, h => by
    by_cases hx : x < a
    · rw [rowIns_gt hx]
      exact ⟨by have := h.1; omega, h.2⟩
    · rw [rowIns_le (by omega)]
      exact ⟨h.1, below_ins_hi h.2⟩
/-- the number pushed out of the upper row goes into the lower one -/
theorem below_bump : ∀ {hi lo : Row} {x y : Int}, Sorted hi → below hi lo → (rowIns hi x).2 = some y → below (rowIns hi x).1 (rowIns lo y).1
  | [], _, x, y, _, _, h => by cases h
  | a :: hi, lo, x, y, hs, hb, h => by
    rw [sorted_cons] at hs
    by_cases hx : x < a
    · rw [rowIns_gt hx] at h ⊢
      cases h
      cases lo with
      | nil => exact ⟨hx, below_nil _⟩
      | cons b lo =>
        rw [rowIns_gt hb.1]
        exact ⟨hx, hb.2⟩
    · rw [rowIns_le (by omega)] at h ⊢
      replace h : (rowIns hi x).2 = some y := h
      have hxy : x < y := by obtain ⟨_, _, _, _, _, z⟩ := rowIns_some h; exact z
      cases lo with
      | nil => exact ⟨by omega, below_nil _⟩
      | cons b lo =>
        by_cases hy : y < b
        · rw [rowIns_gt hy]
          exact ⟨by omega, below_ins_hi hb.2⟩
        · rw [rowIns_le (by omega)]
          exact ⟨hb.1, below_bump hs.2 hb.2 h⟩
theorem ins_ne (t : T) (x : Int) : (ins t x).1 ≠ [] := by
  cases t with
  | nil => simp [ins]
  | cons r rs => unfold ins; split <;> simp
theorem ins_none {r : Row} {rs : T} {x : Int} (h : (rowIns r x).2 = none) : ins (r :: rs) x = ((rowIns r x).1 :: rs, 0) := by
  unfold ins; rw [h]
theorem ins_some {r : Row} {rs : T} {x y : Int} (h : (rowIns r x).2 = some y) : ins (r :: rs) x = ((rowIns r x).1 :: (ins rs y).1, (ins rs y).2 + 1) := by
  rw [ins]; rw [h]
theorem ins_head (t : T) (x : Int) : (ins t x).1.headD [] = (rowIns (t.headD []) x).1 := by
  cases t with
  | nil => rfl
  | cons r rs =>
    cases e : (rowIns r x).2 with
    | none => rw [ins_none e]; rfl
    | some y => rw [ins_some e]; rfl
theorem tab_ins : ∀ {t : T} {x : Int}, Tab t → Tab (ins t x).1
  | [], x, _ => ⟨by simp, by simp [Sorted], below_nil _, trivial⟩
  | r :: rs, x, ⟨h1, h2, h3, h4⟩ => by
    cases e : (rowIns r x).2 with
    | none =>
      rw [ins_none e]
      exact ⟨rowIns_ne r x, rowIns_sorted h2, below_ins_hi h3, h4⟩
    | some y =>
      rw [ins_some e]
      refine ⟨rowIns_ne r x, rowIns_sorted h2, ?_, tab_ins h4⟩
      rw [ins_head]
      exact below_bump h2 h3 e
/-! shapes -/
theorem mem_le_sum : ∀ {l : List Nat} {a : Nat}, a ∈ l → a ≤ l.sum
  | b :: l, a, h => by
    rw [List.sum_cons]
    rcases List.mem_cons.mp h with rfl | h
    · omega
    · have := mem_le_sum h; omega
def shape (t : T) : List Nat := t.map List.length
def size (t : T) : Nat := (shape t).sum
/-- rows no longer than those above, none empty -/
def Part : List Nat → Prop
  | [] => True
  | a :: r => 0 < a ∧ r.headD 0 ≤ a ∧ Part r
theorem part_shape : ∀ {t : T}, Tab t → Part (shape t)
  | [], _ => trivial
  | r :: rs, ⟨h1, _, h3, h4⟩ => by
    refine ⟨List.length_pos_iff.mpr h1, ?_, part_shape h4⟩
    have := below_len h3
    cases rs with
    | nil => exact Nat.zero_le _
    | cons a b => exact this
theorem size_ins : ∀ (t : T) (x : Int), size (ins t x).1 = size t + 1
  | [], x => rfl
  | r :: rs, x => by
    cases e : (rowIns r x).2 with
    | none =>
      rw [ins_none e]
      simp only [size, shape, List.map_cons, List.sum_cons]
      rw [rowIns_len_none e]
      omega
    | some y =>
      rw [ins_some e]
      have ih := size_ins rs y
      simp only [size, shape, List.map_cons, List.sum_cons] at ih ⊢
      rw [rowIns_len_some e]
      omega
/-- the word's tableau -/
def P (w : List Int) : T := w.foldl (fun t x => (ins t x).1) []
theorem foldl_tab (w : List Int) : ∀ (t : T), Tab t → Tab (w.foldl (fun t x => (ins t x).1) t) ∧ size (w.foldl (fun t x => (ins t x).1) t) = size t + w.length := by
  induction w with
  | nil => intro t h; exact ⟨h, rfl⟩
  | cons x w ih =>
    intro t h
    obtain ⟨h1, h2⟩ := ih (ins t x).1 (tab_ins h)
    refine ⟨h1, ?_⟩
    rw [List.foldl_cons, h2, size_ins]
    simp; omega
theorem tab_P (w : List Int) : Tab (P w) := (foldl_tab w [] trivial).1
theorem size_P (w : List Int) : size (P w) = w.length := by
  have := (foldl_tab w [] trivial).2
  rw [show size [] = 0 from rfl, Nat.zero_add] at this
  exact this
/-! the second tableau: which box was new -/
def addBox : T → Nat → Int → T
  | [], _, v => [[v]]
  | r :: rs, 0, v => (r ++ [v]) :: rs
  | r :: rs, k + 1, v => r :: addBox rs k v
def addS : List Nat → Nat → List Nat
  | [], _ => [1]
  | a :: s, 0 => (a + 1) :: s
  | a :: s, k + 1 => a :: addS s k
theorem shape_addBox : ∀ (t : T) (k : Nat) (v : Int), shape (addBox t k v) = addS (shape t) k
  | [], _, _ => rfl
  | r :: rs, 0, v => by simp [addBox, shape, addS]
  | r :: rs, k + 1, v => by
    have ih := shape_addBox rs k v
    simp only [shape] at ih
    simp [addBox, shape, addS, ih]
theorem shape_ins : ∀ (t : T) (x : Int), shape (ins t x).1 = addS (shape t) (ins t x).2
  | [], x => rfl
  | r :: rs, x => by
    cases e : (rowIns r x).2 with
    | none =>
      rw [ins_none e]
      simp [shape, addS, rowIns_len_none e]
    | some y =>
      rw [ins_some e]
      have ih := shape_ins rs y
      simp only [shape] at ih
      simp [shape, addS, rowIns_len_some e, ih]
theorem ins_le : ∀ (t : T) (x : Int), (ins t x).2 ≤ t.length
  | [], x => Nat.zero_le _
  | r :: rs, x => by
    cases e : (rowIns r x).2 with
    | none => rw [ins_none e]; exact Nat.zero_le _
    | some y =>
      rw [ins_some e]
      have := ins_le rs y
      simp; omega
theorem addBox_end : ∀ (t : T) (v : Int), addBox t t.length v = t ++ [[v]]
  | [], _ => rfl
  | r :: rs, v => by simp [addBox, addBox_end rs v]
theorem addBox_in : ∀ (t : T) (k : Nat) (v : Int) (r : Row), t[k]? = some r → addBox t k v = t.take k ++ [r ++ [v]] ++ t.drop (k + 1)
  | [], k, v, r, h => by simp at h
  | a :: rs, 0, v, r, h => by simp at h; subst h; simp [addBox]
  | a :: rs, k + 1, v, r, h => by
    simp at h
    simp [addBox, addBox_in rs k v r h]
def pqStep (s : T × T) (p : Int × Int) : T × T := ((ins s.1 p.2).1, addBox s.2 (ins s.1 p.2).2 (p.1 + 1))
def enum : Int → List Int → List (Int × Int)
  | _, [] => []
  | k, a :: r => (k, a) :: enum (k + 1) r
def PQ (w : List Int) : T × T := (enum 0 w).foldl pqStep ([], [])
theorem pq_fst : ∀ (w : List Int) (k : Int) (s : T × T), ((enum k w).foldl pqStep s).1 = w.foldl (fun t x => (ins t x).1) s.1
  | [], _, _ => rfl
  | x :: w, k, s => by rw [enum, List.foldl_cons, List.foldl_cons, pq_fst w (k + 1)]; rfl
theorem PQ_fst (w : List Int) : (PQ w).1 = P w := pq_fst w 0 ([], [])
theorem pq_shape : ∀ (w : List Int) (k : Int) (s : T × T), shape s.1 = shape s.2 → shape ((enum k w).foldl pqStep s).1 = shape ((enum k w).foldl pqStep s).2
  | [], _, _, h => h
  | x :: w, k, s, h => by
    rw [enum, List.foldl_cons]
    refine pq_shape w (k + 1) _ ?_
    show shape (ins s.1 x).1 = shape (addBox s.2 (ins s.1 x).2 (k + 1))
    rw [shape_ins, shape_addBox, h]
theorem PQ_shape (w : List Int) : shape (PQ w).1 = shape (PQ w).2 := pq_shape w 0 ([], []) rfl
/-! a part of at most N is one of a list -/
def parts : Nat → Nat → Nat → List (List Nat)
  | _, 0, _ => [[]]
  | 0, _ + 1, _ => []
  | f + 1, n + 1, m => (List.range (min (n + 1) m)).flatMap fun i => (parts f (n + 1 - (i + 1)) (i + 1)).map fun r => (i + 1) :: r
def partsUpTo (N : Nat) : List (List Nat) := (List.range (N + 1)).flatMap fun n => parts n n n
theorem parts_mem : ∀ (s : List Nat) (f m : Nat), Part s → s.headD 0 ≤ m → s.sum ≤ f → s ∈ parts f s.sum m
  | [], f, m, _, _, _ => by simp [parts]
  | a :: r, f, m, ⟨h1, h2, h3⟩, hm, hf => by
    have hs : (a :: r).sum = a + r.sum := by simp
    rw [hs] at hf ⊢
    obtain ⟨n, hn⟩ : ∃ n, a + r.sum = n + 1 := ⟨a + r.sum - 1, by omega⟩
    obtain ⟨g, hg⟩ : ∃ g, f = g + 1 := ⟨f - 1, by omega⟩
    subst hg
    rw [hn]
    unfold parts
    rw [List.mem_flatMap]
    refine ⟨a - 1, ?_, ?_⟩
    · rw [List.mem_range]
      have : a ≤ m := hm
      omega
    · rw [List.mem_map]
      have e1 : a - 1 + 1 = a := by omega
      have e2 : n + 1 - (a - 1 + 1) = r.sum := by omega
      refine ⟨r, ?_, by rw [e1]⟩
      rw [e2, e1]
      exact parts_mem r g a h3 h2 (by omega)
theorem partsUpTo_mem {s : List Nat} {N : Nat} (h : Part s) (hs : s.sum ≤ N) : s ∈ partsUpTo N := by
  unfold partsUpTo
  rw [List.mem_flatMap]
  refine ⟨s.sum, by rw [List.mem_range]; omega, parts_mem s s.sum s.sum h ?_ (Nat.le_refl _)⟩
  cases s with
  | nil => exact Nat.zero_le _
  | cons a r => simp
end RSK
end

section
set_option linter.all false
namespace RSK
/-! Taking out: the inverse of putting in. -/
/-- y comes into a row from below: the last number less than y goes out -/
def rowOut : Row → Int → Row × Int
  | [], y => ([], y)
  | a :: r, y => if r.headD y < y then (a :: (rowOut r y).1, (rowOut r y).2) else (y :: r, a)
theorem rowOut_at : ∀ {l m : Row} {x y : Int}, (∀ a, a ∈ l → a < y) → x < y → (∀ b, b ∈ m → y ≤ b) → rowOut (l ++ x :: m) y = (l ++ y :: m, x)
  | [], m, x, y, _, hx, hm => by
    show (if m.headD y < y then _ else _) = _
    rw [if_neg]
    · rfl
    · cases m with
      | nil => simp
      | cons b m => have := hm b (by simp); simpa using this
  | a :: l, m, x, y, hl, hx, hm => by
    show (if (l ++ x :: m).headD y < y then (a :: (rowOut (l ++ x :: m) y).1, (rowOut (l ++ x :: m) y).2) else (y :: (l ++ x :: m), a)) = _
    have ih := rowOut_at (l := l) (m := m) (x := x) (y := y) (fun b hb => hl b (by simp [hb])) hx hm
    rw [if_pos, ih]
    · rfl
    · cases l with
      | nil => simpa using hx
      | cons b l => simpa using hl b (by simp)
theorem rowOut_ins {r : Row} {x y : Int} (hs : Sorted r) (h : (rowIns r x).2 = some y) : rowOut (rowIns r x).1 y = (r, x) := by
  obtain ⟨l, m, h1, h2, h3, h4⟩ := rowIns_some h
  rw [h2]
  subst h1
  unfold Sorted at hs
  rw [List.pairwise_append, List.pairwise_cons] at hs
  exact rowOut_at (fun a ha => by have := h3 a ha; omega) h4 (fun b hb => hs.2.1.1 b hb)
/-- taking out at the end of row k: what is left, and the number that goes out -/
def out : T → Nat → T × Int
  | [], _ => ([], 0)
  | r :: rs, 0 => (if r.dropLast = [] then rs else r.dropLast :: rs, r.getLastD 0)
  | r :: rs, k + 1 => ((rowOut r (out rs k).2).1 :: (out rs k).1, (rowOut r (out rs k).2).2)
theorem out_ins : ∀ {t : T} {x : Int}, Tab t → out (ins t x).1 (ins t x).2 = (t, x)
  | [], x, _ => by simp [ins, out]
  | r :: rs, x, h => by
    obtain ⟨h1, h2, h3, h4⟩ := h
    cases hr : (rowIns r x).2 with
    | none =>
      obtain ⟨e, _⟩ := rowIns_none hr
      rw [ins_none hr, e]
      simp [out, h1]
    | some y =>
      rw [ins_some hr]
      show ((rowOut (rowIns r x).1 (out (ins rs y).1 (ins rs y).2).2).1 :: (out (ins rs y).1 (ins rs y).2).1, (rowOut (rowIns r x).1 (out (ins rs y).1 (ins rs y).2).2).2) = _
      rw [out_ins h4, rowOut_ins h2 hr]
/-! the second tableau -/
theorem enum_append : ∀ (w v : List Int) (k : Int), enum k (w ++ v) = enum k w ++ enum (k + w.length) v
  | [], v, k => by simp [enum]
  | a :: w, v, k => by
    rw [List.cons_append]
    simp only [enum, List.cons_append]
    rw [enum_append w v (k + 1)]
    congr 2
    simp only [List.length_cons]
    congr 1
    omega
theorem PQ_snoc (w : List Int) (x : Int) : PQ (w ++ [x]) = pqStep (PQ w) ((w.length : Int), x) := by
  unfold PQ
  rw [enum_append, List.foldl_append]
  simp [enum]
theorem P_snoc (w : List Int) (x : Int) : P (w ++ [x]) = (ins (P w) x).1 := by
  unfold P
  rw [List.foldl_append]
  rfl
/-- without the box at the end of row k -/
def remBox (t : T) (k : Nat) : T := (t.take k ++ [(t.getD k []).dropLast] ++ t.drop (k + 1)).filter (· ≠ [])
theorem filter_ne {t : T} (h : ∀ r, r ∈ t → r ≠ []) : t.filter (· ≠ []) = t := List.filter_eq_self.mpr fun r hr => by simpa using h r hr
theorem rem_add {t : T} {k : Nat} {v : Int} (h : ∀ r, r ∈ t → r ≠ []) (hk : k ≤ t.length) : remBox (addBox t k v) k = t := by
  by_cases e : k = t.length
  · subst e
    rw [addBox_end]
    unfold remBox
    rw [List.take_left', List.drop_of_length_le (by simp)]
    · have : (t ++ [[v]]).getD t.length [] = [v] := by simp [List.getD_eq_getElem?_getD]
      rw [this]
      simp [List.filter_append]
      exact h
    · rfl
  · have hlt : k < t.length := by omega
    have hg : t[k]? = some t[k] := List.getElem?_eq_getElem hlt
    rw [addBox_in t k v t[k] hg]
    unfold remBox
    have hl : (t.take k).length = k := by simp; omega
    have e1 : (t.take k ++ [t[k] ++ [v]] ++ t.drop (k + 1)).take k = t.take k := by
      rw [List.append_assoc, List.take_left' hl]
    have e2 : (t.take k ++ [t[k] ++ [v]] ++ t.drop (k + 1)).drop (k + 1) = t.drop (k + 1) := by
      rw [List.drop_left' (by simp; omega)]
    have e3 : (t.take k ++ [t[k] ++ [v]] ++ t.drop (k + 1)).getD k [] = t[k] ++ [v] := by
      rw [List.getD_eq_getElem?_getD, List.append_assoc, List.getElem?_append_right (by omega), hl]
      simp
    rw [e1, e2, e3, List.dropLast_concat]
    have e4 : t.take k ++ [t[k]] ++ t.drop (k + 1) = t := by
      rw [List.append_assoc, List.singleton_append, List.getElem_cons_drop, List.take_append_drop]
    rw [e4]
    exact filter_ne h

theorem tab_ne : ∀ {t : T}, Tab t → ∀ r, r ∈ t → r ≠ []
  | [], _, r, h => by cases h
  | a :: rs, h, r, hr => by
    rcases List.mem_cons.mp hr with rfl | hr
    · exact h.1
    · exact tab_ne h.2.2.2 r hr
theorem tab_sorted : ∀ {t : T}, Tab t → ∀ r, r ∈ t → Sorted r
  | [], _, r, h => by cases h
  | a :: rs, h, r, hr => by
    rcases List.mem_cons.mp hr with rfl | hr
    · exact h.2.1
    · exact tab_sorted h.2.2.2 r hr
/-- all numbers of a tableau -/
def entries (t : T) : List Int := t.flatten
theorem entries_add : ∀ (t : T) (k : Nat) (v : Int), (entries (addBox t k v)).Perm (v :: entries t)
  | [], _, v => by simp [addBox, entries]
  | r :: rs, 0, v => by
    show ((r ++ [v]) ++ rs.flatten).Perm (v :: (r ++ rs.flatten))
    rw [List.append_assoc]
    exact List.perm_middle
  | r :: rs, k + 1, v => by
    show (r ++ (addBox rs k v).flatten).Perm (v :: (r ++ rs.flatten))
    exact ((entries_add rs k v).append_left r).trans List.perm_middle
theorem rowIns_perm : ∀ (r : Row) (x : Int), ((rowIns r x).1 ++ (rowIns r x).2.toList).Perm (x :: r)
  | [], x => by simp [rowIns]
  | a :: r, x => by
    by_cases h : x < a
    · rw [rowIns_gt h]
      show ((x :: r) ++ [a]).Perm (x :: a :: r)
      rw [List.cons_append]
      exact (List.perm_append_comm (l₁ := r) (l₂ := [a])).cons x
    · rw [rowIns_le (by omega)]
      show (a :: ((rowIns r x).1 ++ (rowIns r x).2.toList)).Perm (x :: a :: r)
      exact ((rowIns_perm r x).cons a).trans (.swap x a r)
theorem entries_ins : ∀ (t : T) (x : Int), (entries (ins t x).1).Perm (x :: entries t)
  | [], x => by simp [ins, entries]
  | r :: rs, x => by
    have hp := rowIns_perm r x
    cases e : (rowIns r x).2 with
    | none =>
      rw [ins_none e]
      rw [e] at hp
      show ((rowIns r x).1 ++ rs.flatten).Perm (x :: (r ++ rs.flatten))
      have : (rowIns r x).1.Perm (x :: r) := by simpa using hp
      exact this.append_right rs.flatten
    | some y =>
      rw [ins_some e]
      rw [e] at hp
      have ih := entries_ins rs y
      show ((rowIns r x).1 ++ (ins rs y).1.flatten).Perm (x :: (r ++ rs.flatten))
      have h1 : ((rowIns r x).1 ++ (ins rs y).1.flatten).Perm ((rowIns r x).1 ++ (y :: rs.flatten)) := ih.append_left _
      have h2 : (rowIns r x).1 ++ (y :: rs.flatten) = ((rowIns r x).1 ++ [y]) ++ rs.flatten := by simp
      rw [h2] at h1
      have h3 : (((rowIns r x).1 ++ [y]) ++ rs.flatten).Perm ((x :: r) ++ rs.flatten) := List.Perm.append_right _ (by simpa using hp)
      exact h1.trans h3
theorem foldl_entries (w : List Int) : ∀ t : T, (entries (w.foldl (fun t x => (ins t x).1) t)).Perm (w ++ entries t) := by
  induction w with
  | nil => intro t; exact .refl _
  | cons x w ih =>
    intro t
    rw [List.foldl_cons]
    refine (ih _).trans ?_
    rw [List.cons_append]
    exact ((entries_ins t x).append_left w).trans List.perm_middle
theorem entries_P (w : List Int) : (entries (P w)).Perm w := by
  have := foldl_entries w []
  simpa [entries, P] using this
/-- a greatest number at the end of row k -/
theorem below_snoc_hi : ∀ {hi lo : Row} {v : Int}, below hi lo → below (hi ++ [v]) lo
  | _, [], _, _ => by
    cases ‹Row› <;> trivial
  | [], b :: lo, v, h => h.elim
  | a :: hi, b :: lo, v, h => ⟨h.1, below_snoc_hi h.2⟩
theorem below_snoc_lo : ∀ {hi lo : Row} {v : Int}, below hi lo → lo.length < hi.length → (∀ a, a ∈ hi → a < v) → below hi (lo ++ [v])
  | [], lo, v, _, h, _ => by simp at h
  | a :: hi, [], v, _, _, h => ⟨h a (by simp), below_nil hi⟩
  | a :: hi, b :: lo, v, h, hl, hv => ⟨h.1, below_snoc_lo h.2 (by simpa using hl) fun c hc => hv c (by simp [hc])⟩
theorem tab_add : ∀ {t : T} {k : Nat} {v : Int}, Tab t → (∀ r, r ∈ t → ∀ a, a ∈ r → a < v) → Part (addS (shape t) k) → k ≤ t.length → Tab (addBox t k v)
  | [], k, v, _, _, _, _ => ⟨by simp, by simp [Sorted], trivial, trivial⟩
  | r :: rs, 0, v, h, hv, _, _ => by
    refine ⟨by simp, ?_, below_snoc_hi h.2.2.1, h.2.2.2⟩
    unfold Sorted
    rw [List.pairwise_append]
    exact ⟨h.2.1, by simp, fun a ha b hb => by simp at hb; subst hb; have := hv r (by simp) a ha; omega⟩
  | r :: rs, k + 1, v, h, hv, hp, hk => by
    have hp' : Part (r.length :: addS (shape rs) k) := hp
    obtain ⟨h1, h2, h3, h4⟩ := h
    refine ⟨h1, h2, ?_, tab_add h4 (fun q hq a ha => hv q (by simp [hq]) a ha) ?_ (by simpa using hk)⟩
    · cases rs with
      | nil =>
        show below r [v]
        cases r with
        | nil => exact absurd rfl h1
        | cons a r => exact ⟨hv (a :: r) (by simp) a (by simp), below_nil r⟩
      | cons q rs =>
        cases k with
        | zero =>
          show below r (q ++ [v])
          refine below_snoc_lo h3 ?_ fun a ha => hv r (by simp) a ha
          have := hp'.2.1
          simp [addS, shape] at this
          omega
        | succ k => exact h3
    · exact hp'.2.2

theorem snoc_ind {p : List Int → Prop} (h0 : p []) (h1 : ∀ w x, p w → p (w ++ [x])) : ∀ w, p w := by
  intro w
  rw [← List.reverse_reverse w]
  induction w.reverse with
  | nil => exact h0
  | cons a l ih => rw [List.reverse_cons]; exact h1 _ _ ih
def ups (n : Nat) : List Int := (List.range n).map fun (i : Nat) => (i : Int) + 1
theorem ups_succ (n : Nat) : ups (n + 1) = ups n ++ [(n : Int) + 1] := by
  unfold ups
  rw [List.range_succ, List.map_append]
  rfl
theorem ups_mem {n : Nat} {a : Int} (h : a ∈ ups n) : 1 ≤ a ∧ a ≤ n := by
  unfold ups at h
  rw [List.mem_map] at h
  obtain ⟨i, hi, rfl⟩ := h
  have := List.mem_range.mp hi
  omega
theorem Q_facts (w : List Int) : Tab (PQ w).2 ∧ (entries (PQ w).2).Perm (ups w.length) := by
  refine snoc_ind (p := fun w => Tab (PQ w).2 ∧ (entries (PQ w).2).Perm (ups w.length)) ⟨trivial, .refl _⟩ (fun w x ih => ?_) w
  obtain ⟨h1, h2⟩ := ih
  rw [PQ_snoc]
  have hs := PQ_shape w
  have hlen : (PQ w).1.length = (PQ w).2.length := by have := congrArg List.length hs; simpa [shape] using this
  have hin : ∀ r, r ∈ (PQ w).2 → ∀ a, a ∈ r → a < (w.length : Int) + 1 := fun r hr a ha => by
    have hm : a ∈ entries (PQ w).2 := List.mem_flatten.mpr ⟨r, hr, ha⟩
    have := ups_mem (h2.mem_iff.mp hm)
    omega
  refine ⟨?_, ?_⟩
  · show Tab (addBox (PQ w).2 (ins (PQ w).1 x).2 ((w.length : Int) + 1))
    refine tab_add h1 hin ?_ ?_
    · rw [← hs, ← shape_ins]
      refine part_shape (tab_ins ?_)
      rw [PQ_fst]
      exact tab_P w
    · rw [← hlen]; exact ins_le _ _
  · show (entries (addBox (PQ w).2 (ins (PQ w).1 x).2 ((w.length : Int) + 1))).Perm (ups (w ++ [x]).length)
    rw [List.length_append, List.length_singleton, ups_succ]
    refine (entries_add _ _ _).trans ?_
    exact (h2.cons _).trans (List.perm_append_comm (l₁ := [(w.length : Int) + 1]) (l₂ := ups w.length))
/-- the last numbers of the rows -/
def lasts (t : T) : List Int := t.map fun r => r.getLastD 0
theorem last_add : ∀ {t : T} {k : Nat} {v : Int}, k ≤ t.length → (lasts (addBox t k v))[k]? = some v
  | [], k, v, h => by
    have : k = 0 := by simpa using h
    subst this
    simp [addBox, lasts]
  | r :: rs, 0, v, _ => by simp [addBox, lasts]
  | r :: rs, k + 1, v, h => by
    have := last_add (t := rs) (k := k) (v := v) (by simpa using h)
    simpa [addBox, lasts] using this
theorem last_lt : ∀ {t : T} {k m : Nat} {v z : Int}, (∀ r, r ∈ t → r ≠ []) → (∀ r, r ∈ t → ∀ a, a ∈ r → a < v) → m < k → k ≤ t.length → (lasts (addBox t k v))[m]? = some z → z ≠ v
  | [], k, m, v, z, _, _, h, hk, _ => by
    have : k = 0 := by simpa using hk
    omega
  | r :: rs, 0, m, v, z, _, _, h, _, _ => by omega
  | r :: rs, k + 1, 0, v, z, hne, hv, _, _, hz => by
    have e : r.getLastD 0 = z := by simpa [addBox, lasts] using hz
    have h1 := hne r (by simp)
    have h2 : r.getLastD 0 ∈ r := by
      cases r with
      | nil => exact absurd rfl h1
      | cons a r => rw [List.getLastD_cons]; exact List.getLastD_mem_cons ..
    have := hv r (by simp) _ h2
    omega
  | r :: rs, k + 1, m + 1, v, z, hne, hv, h, hk, hz => by
    refine last_lt (t := rs) (k := k) (m := m) (fun q hq => hne q (by simp [hq])) (fun q hq => hv q (by simp [hq])) (by omega) (by simpa using hk) ?_
    simpa [addBox, lasts] using hz
/-! the rows read from the last one up, put in, make the tableau again -/
def reading (t : T) : List Int := t.reverse.flatten
def shift : Row → T → T
  | [], t => t
  | a :: p, [] => [a :: p]
  | a :: p, q :: qs => ((a :: p) ++ q.drop (p.length + 1)) :: shift (q.take (p.length + 1)) qs
theorem shift_cons (p : Row) (q : Row) (qs : T) : shift p (q :: qs) = (p ++ q.drop p.length) :: shift (q.take p.length) qs := by
  cases p with
  | nil => simp [shift]
  | cons a p => rfl
theorem shift_nil (p : Row) (h : p ≠ []) : shift p [] = [p] := by
  cases p with
  | nil => exact absurd rfl h
  | cons a p => rfl
theorem below_get : ∀ {hi lo : Row} {j : Nat} {x y : Int}, below hi lo → hi[j]? = some x → lo[j]? = some y → x < y
  | [], [], _, _, _, _, h, _ => by simp at h
  | [], _ :: _, _, _, _, h, _, _ => h.elim
  | _ :: _, [], _, _, _, _, _, h => by simp at h
  | a :: hi, b :: lo, 0, x, y, h, h1, h2 => by simp at h1 h2; subst h1 h2; exact h.1
  | a :: hi, b :: lo, j + 1, x, y, h, h1, h2 => below_get h.2 (by simpa using h1) (by simpa using h2)
theorem ins_shift : ∀ {qs : T} {p : Row} {x : Int}, Tab qs → (∀ a, a ∈ p → a ≤ x) → (∀ y, (qs.headD [])[p.length]? = some y → x < y) → (ins (shift p qs) x).1 = shift (p ++ [x]) qs
  | [], p, x, _, hp, _ => by
    rw [shift_nil (p ++ [x]) (by simp)]
    cases p with
    | nil => rfl
    | cons a p =>
      show (ins [a :: p] x).1 = _
      have e := rowIns_end (r := a :: p) (x := x) hp
      rw [ins_none (by rw [e])]
      rw [e]
  | q :: qs, p, x, ht, hp, hx => by
    obtain ⟨h1, h2, h3, h4⟩ := ht
    rw [shift_cons, shift_cons]
    have hl : (p ++ [x]).length = p.length + 1 := by simp
    rw [hl]
    by_cases hj : p.length < q.length
    · have hd : q.drop p.length = q[p.length] :: q.drop (p.length + 1) := List.drop_eq_getElem_cons hj
      have hxq : x < q[p.length] := hx _ (List.getElem?_eq_getElem hj)
      rw [hd]
      have e := rowIns_at (l := p) (m := q.drop (p.length + 1)) hp hxq
      rw [ins_some (by rw [e])]
      rw [e]
      have hlen : (q.take p.length).length = p.length := by simp; omega
      have ih := ins_shift (qs := qs) (p := q.take p.length) (x := q[p.length]) h4 (fun a ha => by
        obtain ⟨i, hi, e⟩ := List.getElem_of_mem ha
        rw [List.getElem_take] at e
        rw [← e]
        have hi' : i < p.length := by rw [hlen] at hi; exact hi
        exact List.pairwise_iff_getElem.mp h2 i p.length (by omega) hj hi') (fun y hy => by
        rw [hlen] at hy
        exact below_get h3 (List.getElem?_eq_getElem hj) hy)
      show (p ++ x :: q.drop (p.length + 1)) :: (ins (shift (q.take p.length) qs) q[p.length]).1 = _
      rw [ih, List.take_succ_eq_append_getElem hj]
      simp
    · have e1 : q.drop p.length = [] := List.drop_of_length_le (by omega)
      have e2 : q.drop (p.length + 1) = [] := List.drop_of_length_le (by omega)
      have e3 : q.take p.length = q := List.take_of_length_le (by omega)
      have e4 : q.take (p.length + 1) = q := List.take_of_length_le (by omega)
      rw [e1, e2, e3, e4, List.append_nil, List.append_nil]
      have e := rowIns_end (r := p) (x := x) hp
      rw [ins_none (by rw [e])]
      rw [e]
theorem put_row {qs : T} (ht : Tab qs) : ∀ (s p : Row), Sorted (p ++ s) → below (p ++ s) (qs.headD []) → s.foldl (fun t x => (ins t x).1) (shift p qs) = shift (p ++ s) qs
  | [], p, _, _ => by simp
  | x :: s, p, hs, hb => by
    rw [List.foldl_cons]
    have e := ins_shift (qs := qs) (p := p) (x := x) ht (fun a ha => by
      unfold Sorted at hs
      rw [List.pairwise_append] at hs
      exact hs.2.2 a ha x (by simp)) (fun y hy => below_get hb (j := p.length) (by simp) hy)
    rw [e, put_row ht s (p ++ [x]) (by simpa using hs) (by simpa using hb)]
    simp
theorem shift_all : ∀ {qs : T} {r : Row}, Tab (r :: qs) → shift r qs = r :: qs
  | [], r, h => shift_nil r h.1
  | q :: qs, r, h => by
    have hl := below_len h.2.2.1
    have hl' : q.length ≤ r.length := hl
    rw [shift_cons, List.drop_of_length_le hl', List.take_of_length_le hl', List.append_nil, shift_all h.2.2.2]
theorem P_reading : ∀ {t : T}, Tab t → P (reading t) = t
  | [], _ => rfl
  | r :: rs, h => by
    have ih := P_reading h.2.2.2
    have e : reading (r :: rs) = reading rs ++ r := by simp [reading]
    rw [e]
    unfold P at ih ⊢
    rw [List.foldl_append, ih]
    have := put_row h.2.2.2 r [] (by simpa using h.2.1) (by simpa using h.2.2.1)
    rw [show shift [] rs = rs by cases rs <;> rfl] at this
    rw [this, List.nil_append, shift_all h]
end RSK
end

section
set_option linter.all false
namespace RSK
theorem rowOut_spec : ∀ {r : Row} {y z : Int}, Sorted r → z ∈ r → z < y → ∃ l x m, r = l ++ x :: m ∧ (∀ a, a ∈ l → a < y) ∧ x < y ∧ (∀ b, b ∈ m → y ≤ b) ∧ rowOut r y = (l ++ y :: m, x)
  | [], _, _, _, h, _ => by cases h
  | a :: r, y, z, hs, hz, hy => by
    have hs' := sorted_cons.mp hs
    have ha : a < y := by
      rcases List.mem_cons.mp hz with rfl | hz
      · exact hy
      · have := hs'.1 z hz; omega
    by_cases hh : ∃ b, b ∈ r ∧ b < y
    · obtain ⟨b, hb, hby⟩ := hh
      obtain ⟨l, x, m, e1, e2, e3, e4, e5⟩ := rowOut_spec (r := r) hs'.2 hb hby
      refine ⟨a :: l, x, m, by rw [e1]; rfl, fun c hc => ?_, e3, e4, ?_⟩
      · rcases List.mem_cons.mp hc with rfl | hc
        · exact ha
        · exact e2 c hc
      · exact rowOut_at (l := a :: l) (m := m) (x := x) (y := y) (fun c hc => by
          rcases List.mem_cons.mp hc with rfl | hc
          · exact ha
          · exact e2 c hc) e3 e4 |> fun q => by rw [e1]; exact q
    · have hm : ∀ b, b ∈ r → y ≤ b := fun b hb => by
        rcases Int.lt_or_le b y with q | q
        · exact absurd ⟨b, hb, q⟩ hh
        · exact q
      exact ⟨[], a, r, rfl, by simp, ha, hm, rowOut_at (l := []) (by simp) ha hm⟩
theorem filter_lt {l m : Row} {x y : Int} (h1 : ∀ a, a ∈ l → a < y) (h2 : x < y) (h3 : ∀ b, b ∈ m → y ≤ b) : (l ++ x :: m).filter (fun a => decide (a < y)) = l ++ [x] := by
  rw [List.filter_append, List.filter_cons, if_pos (by simpa using h2), List.filter_eq_self.mpr fun a ha => by simpa using h1 a ha, List.filter_eq_nil_iff.mpr fun b hb => by simpa using h3 b hb]
/-- up through the rows A, from the last one -/
def upGo : T → Int → T × Int
  | [], y => ([], y)
  | r :: rs, y => ((rowOut r (upGo rs y).2).1 :: (upGo rs y).1, (rowOut r (upGo rs y).2).2)
theorem upGo_snoc : ∀ (A : T) (r : Row) (y : Int), upGo (A ++ [r]) y = ((upGo A (rowOut r y).2).1 ++ [(rowOut r y).1], (upGo A (rowOut r y).2).2)
  | [], r, y => rfl
  | q :: A, r, y => by
    rw [List.cons_append]
    simp only [upGo]
    rw [upGo_snoc A r y]
    rfl
theorem out_up : ∀ (A : T) (r : Row) (B : T), out (A ++ r :: B) A.length = ((upGo A (r.getLastD 0)).1 ++ (if r.dropLast = [] then B else r.dropLast :: B), (upGo A (r.getLastD 0)).2)
  | [], r, B => rfl
  | q :: A, r, B => by
    show ((rowOut q (out (A ++ r :: B) A.length).2).1 :: (out (A ++ r :: B) A.length).1, (rowOut q (out (A ++ r :: B) A.length).2).2) = _
    rw [out_up A r B]
    rfl
theorem tab_mid : ∀ {A : T} {q r : Row} {B : T}, Tab (A ++ q :: r :: B) → Sorted q ∧ below q r
  | [], q, r, B, h => ⟨h.2.1, h.2.2.1⟩
  | a :: A, q, r, B, h => tab_mid (A := A) h.2.2.2
theorem below_mem {q r : Row} {y : Int} (h : below q r) (hy : y ∈ r) : ∃ z, z ∈ q ∧ z < y := by
  obtain ⟨j, hj, e⟩ := List.getElem_of_mem hy
  have hl := below_len h
  have hq : j < q.length := by omega
  exact ⟨q[j], List.getElem_mem hq, below_get h (List.getElem?_eq_getElem hq) (by rw [List.getElem?_eq_getElem hj, e])⟩
theorem upGo_ne : ∀ (A : T) (y : Int), (∀ r, r ∈ A → r ≠ []) → ∀ r, r ∈ (upGo A y).1 → r ≠ []
  | [], _, _, r, h => by cases h
  | q :: A, y, hA, r, h => by
    rcases List.mem_cons.mp (show r ∈ (rowOut q (upGo A y).2).1 :: (upGo A y).1 from h) with rfl | h
    · have hq := hA q (by simp)
      cases q with
      | nil => exact absurd rfl hq
      | cons a q =>
        show (if q.headD _ < _ then _ else _ : Row × Int).1 ≠ []
        split <;> simp
    · exact upGo_ne A y (fun p hp => hA p (by simp [hp])) r h
end RSK
end

section
set_option linter.all false
namespace RSK
/-! sorting of numbers -/
def insI (a : Int) : List Int → List Int
  | [] => [a]
  | b :: l => if a ≤ b then a :: b :: l else b :: insI a l
def sortI : List Int → List Int
  | [] => []
  | a :: l => insI a (sortI l)
theorem insI_comm (a b : Int) : ∀ l, insI a (insI b l) = insI b (insI a l)
  | [] => by
    simp only [insI]
    by_cases h : a ≤ b
    · by_cases h' : b ≤ a
      · have : a = b := by omega
        subst this; rfl
      · simp [h, h']
    · have h' : b ≤ a := by omega
      simp [h, h']
  | c :: l => by
    have ih := insI_comm a b l
    simp only [insI]
    by_cases h1 : b ≤ c <;> by_cases h2 : a ≤ c <;> simp only [h1, h2, if_true, if_false, insI]
    · by_cases h : a ≤ b
      · by_cases h' : b ≤ a
        · have : a = b := by omega
          subst this; rfl
        · simp [h, h', h1]
      · have h' : b ≤ a := by omega
        simp [h, h', h2]
    · have : ¬ a ≤ b := by omega
      simp [this, h2]
    · have : ¬ b ≤ a := by omega
      simp [this, h1]
    · rw [ih]
theorem sortI_perm {l m : List Int} (h : l.Perm m) : sortI l = sortI m := by
  induction h with
  | nil => rfl
  | cons a _ ih => simp only [sortI, ih]
  | swap a b l => simp only [sortI]; exact insI_comm _ _ _
  | trans _ _ i1 i2 => exact i1.trans i2
theorem sortI_sorted : ∀ {l : List Int}, l.Pairwise (· ≤ ·) → sortI l = l
  | [], _ => rfl
  | a :: l, h => by
    have h' := List.pairwise_cons.mp h
    rw [sortI, sortI_sorted h'.2]
    cases l with
    | nil => rfl
    | cons b l => rw [insI, if_pos (h'.1 b (by simp))]
theorem ups_sorted : ∀ n, (ups n).Pairwise (· ≤ ·)
  | 0 => by simp [ups]
  | n + 1 => by
    rw [ups_succ, List.pairwise_append]
    refine ⟨ups_sorted n, by simp, fun a ha b hb => ?_⟩
    have := ups_mem ha
    simp at hb
    omega
theorem sortI_ups {l : List Int} {n : Nat} (h : l.Perm (ups n)) : sortI l = ups n := by rw [sortI_perm h, sortI_sorted (ups_sorted n)]
/-! corners -/
theorem addS_get : ∀ {s : List Nat} {k a b : Nat}, Part s → k ≤ s.length → (addS s k)[k]? = some a → (addS s k)[k + 1]? = some b → b < a
  | [], k, a, b, _, hk, h1, h2 => by
    have : k = 0 := by simpa using hk
    subst this
    simp [addS] at h2
  | c :: s, 0, a, b, hp, _, h1, h2 => by
    have e1 : c + 1 = a := by simpa [addS] using h1
    have e2 : s[0]? = some b := by simpa [addS] using h2
    cases s with
    | nil => simp at e2
    | cons d s =>
      have e3 : d = b := by simpa using e2
      have := hp.2.1
      simp at this
      omega
  | c :: s, k + 1, a, b, hp, hk, h1, h2 => addS_get (s := s) (k := k) hp.2.2 (by simpa using hk) (by simpa [addS] using h1) (by simpa [addS] using h2)
theorem ins_lt (t : T) (x : Int) : (ins t x).2 < (ins t x).1.length := by
  have h : ∀ (s : List Nat) (k : Nat), k ≤ s.length → k < (addS s k).length := by
    intro s
    induction s with
    | nil => intro k hk; have : k = 0 := by simpa using hk
             subst this; simp [addS]
    | cons a s ih =>
      intro k hk
      cases k with
      | zero => simp [addS]
      | succ k => simp [addS]; exact ih k (by simpa using hk)
  have := h (shape t) (ins t x).2 (by simpa [shape] using ins_le t x)
  rw [← shape_ins] at this
  simpa [shape] using this
theorem ins_corner {t : T} {x : Int} (ht : Tab t) {q : Row} (h : (ins t x).1[(ins t x).2 + 1]? = some q) : ∀ r, (ins t x).1[(ins t x).2]? = some r → q.length ≠ r.length := by
  intro r hr
  have h1 : (shape (ins t x).1)[(ins t x).2]? = some r.length := by unfold shape; rw [List.getElem?_map, hr]; rfl
  have h2 : (shape (ins t x).1)[(ins t x).2 + 1]? = some q.length := by unfold shape; rw [List.getElem?_map, h]; rfl
  rw [shape_ins] at h1 h2
  have := addS_get (part_shape ht) (by simpa [shape] using ins_le t x) h1 h2
  omega
/-! unlike words have unlike pairs -/
theorem PQ_len (w : List Int) : size (PQ w).1 = w.length := by rw [PQ_fst, size_P]
theorem PQ_inj : ∀ (u v : List Int), PQ u = PQ v → u = v := by
  intro u
  refine snoc_ind (p := fun u => ∀ v, PQ u = PQ v → u = v) ?_ ?_ u
  · intro v h
    have := PQ_len v
    rw [← h] at this
    have hv : v.length = 0 := by rw [← this]; rfl
    exact (List.eq_nil_of_length_eq_zero hv).symm
  · intro u x ih v h
    have hl : (u ++ [x]).length = v.length := by rw [← PQ_len, ← PQ_len, h]
    have hv : v ≠ [] := fun e => by rw [e] at hl; simp at hl
    obtain ⟨v', y, rfl⟩ : ∃ v' y, v = v' ++ [y] := ⟨v.dropLast, v.getLast hv, (List.dropLast_concat_getLast hv).symm⟩
    have hl' : u.length = v'.length := by simpa using hl
    rw [PQ_snoc, PQ_snoc, hl'] at h
    have hP : (ins (PQ u).1 x).1 = (ins (PQ v').1 y).1 := (Prod.mk.inj h).1
    have hQ : addBox (PQ u).2 (ins (PQ u).1 x).2 ((v'.length : Int) + 1) = addBox (PQ v').2 (ins (PQ v').1 y).2 ((v'.length : Int) + 1) := (Prod.mk.inj h).2
    have kk : ∀ w z, (ins (PQ w).1 z).2 ≤ (PQ w).2.length := fun w z => by
      have := congrArg List.length (PQ_shape w)
      have e : (PQ w).1.length = (PQ w).2.length := by simpa [shape] using this
      rw [← e]; exact ins_le _ _
    have lts : ∀ w, w.length = v'.length → ∀ r, r ∈ (PQ w).2 → ∀ a, a ∈ r → a < (v'.length : Int) + 1 := fun w hw r hr a ha => by
      have hm : a ∈ entries (PQ w).2 := List.mem_flatten.mpr ⟨r, hr, ha⟩
      have := ups_mem ((Q_facts w).2.mem_iff.mp hm)
      omega
    have hk : (ins (PQ u).1 x).2 = (ins (PQ v').1 y).2 := by
      rcases Nat.lt_trichotomy (ins (PQ u).1 x).2 (ins (PQ v').1 y).2 with c | c | c
      · have l1 := last_add (v := (v'.length : Int) + 1) (kk u x)
        rw [hQ] at l1
        exact absurd rfl (last_lt (tab_ne (Q_facts v').1) (lts v' rfl) c (kk v' y) l1)
      · exact c
      · have l1 := last_add (v := (v'.length : Int) + 1) (kk v' y)
        rw [← hQ] at l1
        exact absurd rfl (last_lt (tab_ne (Q_facts u).1) (lts u hl') c (kk u x) l1)
    have hQ' : (PQ u).2 = (PQ v').2 := by
      have r1 := rem_add (v := (v'.length : Int) + 1) (tab_ne (Q_facts u).1) (kk u x)
      have r2 := rem_add (v := (v'.length : Int) + 1) (tab_ne (Q_facts v').1) (kk v' y)
      rw [← r1, ← r2, hQ, hk]
    have tu : Tab (PQ u).1 := by rw [PQ_fst]; exact tab_P u
    have tv : Tab (PQ v').1 := by rw [PQ_fst]; exact tab_P v'
    have o1 := out_ins (x := x) tu
    have o2 := out_ins (x := y) tv
    rw [hP, hk, o2] at o1
    have e1 : (PQ v').1 = (PQ u).1 := (Prod.mk.inj o1).1
    have e2 : y = x := (Prod.mk.inj o1).2
    rw [ih v' (Prod.ext e1.symm hQ'), e2]
end RSK
end

section
set_option linter.all false
namespace RSK
/-! two numbers put in one behind the other -/
theorem rowIns_last {r : Row} {x y : Int} (h : (rowIns r x).2 = none) (hxy : x ≤ y) : (rowIns (rowIns r x).1 y).2 = none := by
  obtain ⟨e1, e2⟩ := rowIns_none h
  rw [e1, rowIns_end fun a ha => by
    rcases List.mem_append.mp ha with ha | ha
    · have := e2 a ha; omega
    · simp at ha; omega]
theorem rowIns_two_up {r : Row} {x y u v : Int} (hs : Sorted r) (h1 : (rowIns r x).2 = some u) (h2 : (rowIns (rowIns r x).1 y).2 = some v) (hxy : x ≤ y) : u ≤ v := by
  obtain ⟨l, m, e1, e2, e3, e4⟩ := rowIns_some h1
  rw [e2] at h2
  have hm : v ∈ m := by
    have key : ∀ (l : Row), (∀ a, a ∈ l → a ≤ y) → ∀ m, (rowIns (l ++ m) y).2 = (rowIns m y).2 := by
      intro l
      induction l with
      | nil => intro _ m; rfl
      | cons a l ih => intro h m; rw [List.cons_append, rowIns_le (h a (by simp))]; exact ih (fun b hb => h b (by simp [hb])) m
    rw [key l (fun a ha => by have := e3 a ha; omega), rowIns_le hxy] at h2
    obtain ⟨l', m', q1, _⟩ := rowIns_some (show (rowIns m y).2 = some v from h2)
    rw [q1]; simp
  subst e1
  unfold Sorted at hs
  rw [List.pairwise_append, List.pairwise_cons] at hs
  exact hs.2.1.1 v hm
theorem rowIns_two_down {r : Row} {x y : Int} (hxy : y < x) : ∃ v, (rowIns (rowIns r x).1 y).2 = some v ∧ v ≤ x := by
  have key : ∀ (r : Row), x ∈ r → ∃ v, (rowIns r y).2 = some v ∧ v ≤ x ∨ (rowIns r y).2 = some v := by
    intro r
    induction r with
    | nil => intro h; cases h
    | cons a r ih =>
      intro h
      by_cases hy : y < a
      · exact ⟨a, .inr (by rw [rowIns_gt hy])⟩
      · rw [rowIns_le (by omega)]
        rcases List.mem_cons.mp h with rfl | h
        · omega
        · obtain ⟨v, hv | hv⟩ := ih h
          · exact ⟨v, .inl hv⟩
          · exact ⟨v, .inr hv⟩
  have first : ∀ (l m : Row), (∀ a, a ∈ l → a ≤ x) → ∃ v, (rowIns (l ++ x :: m) y).2 = some v ∧ v ≤ x := by
    intro l
    induction l with
    | nil => intro m _; exact ⟨x, by rw [List.nil_append, rowIns_gt hxy], by omega⟩
    | cons a l ih =>
      intro m h
      by_cases hy : y < a
      · exact ⟨a, by rw [List.cons_append, rowIns_gt hy], h a (by simp)⟩
      · rw [List.cons_append, rowIns_le (by omega)]
        exact ih m fun b hb => h b (by simp [hb])
  cases h : (rowIns r x).2 with
  | none =>
    obtain ⟨e1, e2⟩ := rowIns_none h
    rw [e1]
    exact first r [] e2
  | some u =>
    obtain ⟨l, m, e1, e2, e3, e4⟩ := rowIns_some h
    rw [e2]
    exact first l m e3
theorem ins_two_up : ∀ {t : T} {x y : Int}, Tab t → x ≤ y → (ins (ins t x).1 y).2 ≤ (ins t x).2
  | [], x, y, _, h => by
    show (ins [[x]] y).2 ≤ 0
    rw [ins_none (by rw [rowIns_end (by simpa using h)])]
    exact Nat.le_refl _
  | r :: rs, x, y, ht, h => by
    cases e : (rowIns r x).2 with
    | none =>
      rw [ins_none e]
      rw [ins_none (rowIns_last e h)]
      exact Nat.le_refl _
    | some u =>
      rw [ins_some e]
      cases e2 : (rowIns (rowIns r x).1 y).2 with
      | none => rw [ins_none e2]; exact Nat.zero_le _
      | some v =>
        rw [ins_some e2]
        have := ins_two_up (t := rs) ht.2.2.2 (rowIns_two_up ht.2.1 e e2 h)
        show (ins (ins rs u).1 v).2 + 1 ≤ (ins rs u).2 + 1
        omega
theorem ins_two_down : ∀ {t : T} {x y : Int}, y < x → (ins t x).2 < (ins (ins t x).1 y).2
  | [], x, y, h => by
    show 0 < (ins [[x]] y).2
    rw [ins_some (y := x) (by rw [rowIns_gt h])]
    exact Nat.succ_pos _
  | r :: rs, x, y, h => by
    obtain ⟨v, hv, hvx⟩ := rowIns_two_down (r := r) h
    cases e : (rowIns r x).2 with
    | none =>
      rw [ins_none e, ins_some hv]
      exact Nat.succ_pos _
    | some u =>
      rw [ins_some e, ins_some hv]
      obtain ⟨l, m, e1, e2, e3, e4⟩ := rowIns_some e
      have := ins_two_down (t := rs) (x := u) (y := v) (by omega)
      show (ins rs u).2 + 1 < (ins (ins rs u).1 v).2 + 1
      omega
end RSK
end

section
set_option linter.all false
namespace RSK
/-! small exchanges; a word comes to its tableau's reading by them -/
inductive K1 : List Int → List Int → Prop
  | yxz (u v : List Int) {x y z : Int} : x < y → y ≤ z → K1 (u ++ y :: x :: z :: v) (u ++ y :: z :: x :: v)
  | xzy (u v : List Int) {x y z : Int} : x ≤ y → y < z → K1 (u ++ x :: z :: y :: v) (u ++ z :: x :: y :: v)
inductive Kn : List Int → List Int → Prop
  | refl (w : List Int) : Kn w w
  | fwd {a b c : List Int} : K1 a b → Kn b c → Kn a c
  | bwd {a b c : List Int} : K1 b a → Kn b c → Kn a c
theorem Kn.trans {a b c : List Int} (h : Kn a b) (g : Kn b c) : Kn a c := by
  induction h with
  | refl => exact g
  | fwd h _ ih => exact .fwd h (ih g)
  | bwd h _ ih => exact .bwd h (ih g)
theorem Kn.symm {a b : List Int} (h : Kn a b) : Kn b a := by
  induction h with
  | refl => exact .refl _
  | fwd h _ ih => exact ih.trans (.bwd h (.refl _))
  | bwd h _ ih => exact ih.trans (.fwd h (.refl _))
theorem Kn.one {a b : List Int} (h : K1 a b) : Kn a b := .fwd h (.refl _)
theorem K1.ctx {a b : List Int} (p s : List Int) (h : K1 a b) : K1 (p ++ a ++ s) (p ++ b ++ s) := by
  cases h with
  | yxz u v h1 h2 =>
    have := K1.yxz (p ++ u) (v ++ s) h1 h2
    simpa using this
  | xzy u v h1 h2 =>
    have := K1.xzy (p ++ u) (v ++ s) h1 h2
    simpa using this
theorem Kn.ctx {a b : List Int} (p s : List Int) (h : Kn a b) : Kn (p ++ a ++ s) (p ++ b ++ s) := by
  induction h with
  | refl => exact .refl _
  | fwd h _ ih => exact .fwd (h.ctx p s) ih
  | bwd h _ ih => exact .bwd (h.ctx p s) ih
theorem Kn.left {a b : List Int} (p : List Int) (h : Kn a b) : Kn (p ++ a) (p ++ b) := by simpa using h.ctx p []
theorem Kn.right {a b : List Int} (s : List Int) (h : Kn a b) : Kn (a ++ s) (b ++ s) := by simpa using h.ctx [] s
theorem kn_in : ∀ (m : Row) (x y : Int), Sorted (y :: m) → x < y → Kn (y :: m ++ [x]) (y :: x :: m)
  | [], x, y, _, _ => .refl _
  | b :: m, x, y, hs, h => by
    have hs' := sorted_cons.mp hs
    have hb : y ≤ b := hs'.1 b (by simp)
    have ih := kn_in m x b hs'.2 (by omega)
    have h1 : Kn (y :: b :: m ++ [x]) (y :: b :: x :: m) := by simpa using ih.left [y]
    exact h1.trans (.bwd (by simpa using K1.yxz [] m h hb) (.refl _))
theorem kn_out : ∀ (l m : Row) (x y : Int), Sorted l → (∀ a, a ∈ l → a ≤ x) → x < y → Kn (l ++ y :: x :: m) (y :: (l ++ x :: m))
  | [], m, x, y, _, _, _ => .refl _
  | a :: l, m, x, y, hs, hl, h => by
    have hs' := sorted_cons.mp hs
    have ih := kn_out l m x y hs'.2 (fun b hb => hl b (by simp [hb])) h
    have h1 : Kn (a :: l ++ y :: x :: m) (a :: y :: (l ++ x :: m)) := by simpa using ih.left [a]
    refine h1.trans ?_
    cases l with
    | nil => exact .one (by simpa using K1.xzy [] m (hl a (by simp)) h)
    | cons b l =>
      have hb : a ≤ b := hs'.1 b (by simp)
      have hbx : b ≤ x := hl b (by simp)
      exact .one (by simpa using K1.xzy [] (l ++ x :: m) hb (show b < y by omega))
theorem kn_row {r : Row} {x y : Int} (hs : Sorted r) (h : (rowIns r x).2 = some y) : Kn (r ++ [x]) (y :: (rowIns r x).1) := by
  obtain ⟨l, m, e1, e2, e3, e4⟩ := rowIns_some h
  rw [e2]
  subst e1
  have hs' := hs
  unfold Sorted at hs'
  rw [List.pairwise_append] at hs'
  have h1 := (kn_in m x y hs'.2.1 e4).left l
  have h2 := kn_out l m x y hs'.1 e3 e4
  have e : l ++ y :: m ++ [x] = l ++ (y :: m ++ [x]) := by simp
  rw [e]
  exact h1.trans h2
theorem reading_cons (r : Row) (rs : T) : reading (r :: rs) = reading rs ++ r := by simp [reading]
theorem kn_ins : ∀ {t : T} {x : Int}, (∀ r, r ∈ t → Sorted r) → Kn (reading t ++ [x]) (reading (ins t x).1)
  | [], x, _ => .refl _
  | r :: rs, x, hs => by
    rw [reading_cons]
    cases e : (rowIns r x).2 with
    | none =>
      rw [ins_none e, reading_cons, (rowIns_none e).1, List.append_assoc]
      exact .refl _
    | some y =>
      rw [ins_some e, reading_cons]
      have h1 := (kn_row (hs r (by simp)) e).left (reading rs)
      have h2 := (kn_ins (t := rs) (x := y) fun q hq => hs q (by simp [hq])).right (rowIns r x).1
      rw [List.append_assoc]
      refine h1.trans ?_
      have e2 : reading rs ++ y :: (rowIns r x).1 = reading rs ++ [y] ++ (rowIns r x).1 := by simp
      rw [e2]
      exact h2
theorem kn_P (w : List Int) : Kn w (reading (P w)) := by
  refine snoc_ind (p := fun w => Kn w (reading (P w))) (.refl _) (fun w x ih => ?_) w
  rw [P_snoc]
  exact (ih.right [x]).trans (kn_ins (tab_sorted (tab_P w)))

/-! parts that rise, or fall: a word with colours; those below k count -/
def Good (R : Int → Int → Prop) (k : Nat) (c : List (Int × Nat)) : Prop := c.Pairwise fun p q => p.2 = q.2 → p.2 < k → R p.1 q.1
def used (k : Nat) (c : List (Int × Nat)) : Nat := c.countP fun p => decide (p.2 < k)
def Reach (R : Int → Int → Prop) (k : Nat) (w : List Int) (n : Nat) : Prop := ∃ c : List (Int × Nat), c.map Prod.fst = w ∧ Good R k c ∧ used k c = n
def sw (a b c : Nat) : Nat := if c = a then b else if c = b then a else c
theorem sw_lt {a b c k : Nat} (ha : a < k) (hb : b < k) : sw a b c < k ↔ c < k := by
  unfold sw
  split
  · omega
  · split <;> omega
theorem sw_inj {a b c d : Nat} (h : sw a b c = sw a b d) : c = d := by
  unfold sw at h
  split at h <;> split at h <;> (try split at h) <;> (try split at h) <;> omega
def swl (a b : Nat) (v : List (Int × Nat)) : List (Int × Nat) := v.map fun p => (p.1, sw a b p.2)
theorem swl_fst (a b : Nat) (v : List (Int × Nat)) : (swl a b v).map Prod.fst = v.map Prod.fst := by simp [swl, Function.comp_def]
theorem swl_used {a b k : Nat} (ha : a < k) (hb : b < k) (v : List (Int × Nat)) : used k (swl a b v) = used k v := by
  unfold used swl
  rw [List.countP_map]
  congr 1
  funext p
  simp [sw_lt ha hb]
theorem swl_good {R : Int → Int → Prop} {a b k : Nat} (ha : a < k) (hb : b < k) {v : List (Int × Nat)} (h : Good R k v) : Good R k (swl a b v) := by
  unfold Good swl at *
  rw [List.pairwise_map]
  exact h.imp fun {p q} hpq e l => hpq (sw_inj e) ((sw_lt ha hb).mp l)
theorem swl_mem {a b : Nat} {v : List (Int × Nat)} {q : Int × Nat} (h : q ∈ swl a b v) : ∃ d, (q.1, d) ∈ v ∧ q.2 = sw a b d := by
  unfold swl at h
  rw [List.mem_map] at h
  obtain ⟨p, h1, h2⟩ := h
  exact ⟨p.2, by rw [← h2]; exact h1, by rw [← h2]⟩
theorem good_mid {R : Int → Int → Prop} {k : Nat} {u v : List (Int × Nat)} {p1 p2 p3 : Int × Nat} : Good R k (u ++ p1 :: p2 :: p3 :: v) ↔
    (Good R k u ∧ Good R k v ∧ (∀ p, p ∈ u → ∀ q, q ∈ v → p.2 = q.2 → p.2 < k → R p.1 q.1)) ∧
    ((p1.2 = p2.2 → p1.2 < k → R p1.1 p2.1) ∧ (p1.2 = p3.2 → p1.2 < k → R p1.1 p3.1) ∧ (p2.2 = p3.2 → p2.2 < k → R p2.1 p3.1)) ∧
    (∀ p, p ∈ u → (p.2 = p1.2 → p.2 < k → R p.1 p1.1) ∧ (p.2 = p2.2 → p.2 < k → R p.1 p2.1) ∧ (p.2 = p3.2 → p.2 < k → R p.1 p3.1)) ∧
    (∀ q, q ∈ v → (p1.2 = q.2 → p1.2 < k → R p1.1 q.1) ∧ (p2.2 = q.2 → p2.2 < k → R p2.1 q.1) ∧ (p3.2 = q.2 → p3.2 < k → R p3.1 q.1)) := by
  unfold Good
  rw [List.pairwise_append]
  simp only [List.pairwise_cons, List.mem_cons, forall_eq_or_imp]
  constructor
  · rintro ⟨h1, ⟨⟨a1, a2, a3⟩, ⟨b1, b2⟩, c1, h2⟩, h3⟩
    exact ⟨⟨h1, h2, fun p hp q hq => (h3 p hp).2.2.2 q hq⟩, ⟨a1, a2, b1⟩, fun p hp => ⟨(h3 p hp).1, (h3 p hp).2.1, (h3 p hp).2.2.1⟩, fun q hq => ⟨a3 q hq, b2 q hq, c1 q hq⟩⟩
  · rintro ⟨⟨h1, h2, h3⟩, ⟨a1, a2, a3⟩, h4, h5⟩
    exact ⟨h1, ⟨⟨a1, a2, fun q hq => (h5 q hq).1⟩, ⟨a3, fun q hq => (h5 q hq).2.1⟩, fun q hq => (h5 q hq).2.2, h2⟩, fun p hp => ⟨(h4 p hp).1, (h4 p hp).2.1, (h4 p hp).2.2, fun q hq => h3 p hp q hq⟩⟩
theorem used_mid {k : Nat} (u v : List (Int × Nat)) (p1 p2 p3 : Int × Nat) : used k (u ++ p1 :: p2 :: p3 :: v) = used k u + ((if p1.2 < k then 1 else 0) + (if p2.2 < k then 1 else 0) + (if p3.2 < k then 1 else 0)) + used k v := by
  unfold used
  rw [List.countP_append, List.countP_cons, List.countP_cons, List.countP_cons]
  simp only [decide_eq_true_eq]
  omega
theorem split_map {c : List (Int × Nat)} {u v : List Int} {x y z : Int} (h : c.map Prod.fst = u ++ x :: y :: z :: v) :
    ∃ cu cv a b d, c = cu ++ (x, a) :: (y, b) :: (z, d) :: cv ∧ cu.map Prod.fst = u ∧ cv.map Prod.fst = v := by
  obtain ⟨cu, c1, e1, e2, e3⟩ := List.map_eq_append_iff.mp h
  obtain ⟨p1, c2, e4, e5, e6⟩ := List.map_eq_cons_iff.mp e3
  obtain ⟨p2, c3, e7, e8, e9⟩ := List.map_eq_cons_iff.mp e6
  obtain ⟨p3, c4, e10, e11, e12⟩ := List.map_eq_cons_iff.mp e9
  refine ⟨cu, c4, p1.2, p2.2, p3.2, ?_, e2, e12⟩
  rw [e1, e4, e7, e10, ← e5, ← e8, ← e11]
end RSK
end

section
set_option linter.all false
namespace RSK
section
variable {R : Int → Int → Prop} {k : Nat}
theorem swap23 {u v : List (Int × Nat)} {p1 p2 p3 : Int × Nat} (h : Good R k (u ++ p1 :: p2 :: p3 :: v)) (g : p3.2 = p2.2 → p3.2 < k → R p3.1 p2.1) : Good R k (u ++ p1 :: p3 :: p2 :: v) := by
  rw [good_mid] at h ⊢
  obtain ⟨h1, h2, h3, h4⟩ := h
  exact ⟨h1, ⟨h2.2.1, h2.1, g⟩, fun p hp => ⟨(h3 p hp).1, (h3 p hp).2.2, (h3 p hp).2.1⟩, fun q hq => ⟨(h4 q hq).1, (h4 q hq).2.2, (h4 q hq).2.1⟩⟩
theorem swap12 {u v : List (Int × Nat)} {p1 p2 p3 : Int × Nat} (h : Good R k (u ++ p1 :: p2 :: p3 :: v)) (g : p2.2 = p1.2 → p2.2 < k → R p2.1 p1.1) : Good R k (u ++ p2 :: p1 :: p3 :: v) := by
  rw [good_mid] at h ⊢
  obtain ⟨h1, h2, h3, h4⟩ := h
  exact ⟨h1, ⟨g, h2.2.2, h2.2.1⟩, fun p hp => ⟨(h3 p hp).2.1, (h3 p hp).1, (h3 p hp).2.2⟩, fun q hq => ⟨(h4 q hq).2.1, (h4 q hq).1, (h4 q hq).2.2⟩⟩
theorem used23 {u v : List (Int × Nat)} {p1 p2 p3 : Int × Nat} : used k (u ++ p1 :: p3 :: p2 :: v) = used k (u ++ p1 :: p2 :: p3 :: v) := by
  rw [used_mid, used_mid]; omega
theorem used12 {u v : List (Int × Nat)} {p1 p2 p3 : Int × Nat} : used k (u ++ p2 :: p1 :: p3 :: v) = used k (u ++ p1 :: p2 :: p3 :: v) := by
  rw [used_mid, used_mid]; omega
end
abbrev Le : Int → Int → Prop := fun a b => a ≤ b
abbrev Gt : Int → Int → Prop := fun a b => b < a
theorem sw_cases (a b d : Nat) : (d = a ∧ sw a b d = b) ∨ (d = b ∧ sw a b d = a) ∨ (d ≠ a ∧ d ≠ b ∧ sw a b d = d) := by
  unfold sw
  by_cases h : d = a
  · exact .inl ⟨h, by simp [h]⟩
  · by_cases h2 : d = b
    · refine .inr (.inl ⟨h2, ?_⟩)
      rw [if_neg h, if_pos h2]
    · exact .inr (.inr ⟨h, h2, by rw [if_neg h, if_neg h2]⟩)
/-- y x z to y z x -/
theorem rise1 {u v : List Int} {x y z : Int} {k n : Nat} (h1 : x < y) (h2 : y ≤ z) (h : Reach Le k (u ++ y :: x :: z :: v) n) : Reach Le k (u ++ y :: z :: x :: v) n := by
  obtain ⟨c, e, g, hn⟩ := h
  obtain ⟨cu, cv, a, b, d, rfl, eu, ev⟩ := split_map e
  by_cases q : b = d ∧ b < k
  · obtain ⟨rfl, hb⟩ := q
    have g' := good_mid.mp g
    obtain ⟨⟨gu, gv, guv⟩, gm, gum, gmv⟩ := g'
    simp only [Le] at gm gum gmv guv
    by_cases ha : a < k
    · refine ⟨cu ++ (y, a) :: (z, a) :: (x, b) :: swl a b cv, by simp [eu, swl_fst, ev], good_mid.mpr ⟨⟨gu, swl_good ha hb gv, fun p hp q hq => ?_⟩, ?_, fun p hp => ?_, fun q hq => ?_⟩, ?_⟩
      · obtain ⟨d, hd, eq⟩ := swl_mem hq
        have f1 := guv p hp _ hd
        have f2 := gum p hp
        have f3 := gmv _ hd
        have f4 := sw_cases a b d
        rw [eq]
        simp only [Le] at *
        omega
      · simp only [Le]; omega
      · have f2 := gum p hp
        simp only [Le] at *
        omega
      · obtain ⟨d, hd, eq⟩ := swl_mem hq
        have f3 := gmv _ hd
        have f4 := sw_cases a b d
        rw [eq]
        simp only [Le] at *
        omega
      · rw [used_mid] at hn ⊢
        rw [swl_used ha hb]
        simp only at hn ⊢
        rw [← hn]
        simp only [ha, hb, if_true]
    · refine ⟨cu ++ (y, b) :: (z, b) :: (x, a) :: cv, by simp [eu, ev], good_mid.mpr ⟨⟨gu, gv, guv⟩, ?_, fun p hp => ?_, fun q hq => ?_⟩, ?_⟩
      · simp only [Le]; omega
      · have f2 := gum p hp
        simp only [Le] at *
        omega
      · have f3 := gmv q hq
        simp only [Le] at *
        omega
      · rw [used_mid] at hn ⊢
        simp only at hn ⊢
        rw [← hn]
        simp only [ha, hb, if_true, if_false]
  · exact ⟨_, by simp [eu, ev], swap23 g (fun e l => absurd ⟨e.symm, by simp only at e l; omega⟩ q), by rw [used23]; exact hn⟩
theorem rise2 {u v : List Int} {x y z : Int} {k n : Nat} (h1 : x < y) (h2 : y ≤ z) (h : Reach Le k (u ++ y :: z :: x :: v) n) : Reach Le k (u ++ y :: x :: z :: v) n := by
  obtain ⟨c, e, g, hn⟩ := h
  obtain ⟨cu, cv, a, b, d, rfl, eu, ev⟩ := split_map e
  exact ⟨_, by simp [eu, ev], swap23 g (fun _ _ => by simp only [Le]; omega), by rw [used23]; exact hn⟩
/-- x z y to z x y -/
theorem rise3 {u v : List Int} {x y z : Int} {k n : Nat} (h1 : x ≤ y) (h2 : y < z) (h : Reach Le k (u ++ x :: z :: y :: v) n) : Reach Le k (u ++ z :: x :: y :: v) n := by
  obtain ⟨c, e, g, hn⟩ := h
  obtain ⟨cu, cv, a, b, d, rfl, eu, ev⟩ := split_map e
  by_cases q : a = b ∧ a < k
  · obtain ⟨rfl, ha⟩ := q
    have g' := good_mid.mp g
    obtain ⟨⟨gu, gv, guv⟩, gm, gum, gmv⟩ := g'
    simp only [Le] at gm gum gmv guv
    by_cases hd : d < k
    · refine ⟨cu ++ (z, d) :: (x, a) :: (y, a) :: swl a d cv, by simp [eu, swl_fst, ev], good_mid.mpr ⟨⟨gu, swl_good ha hd gv, fun p hp q hq => ?_⟩, ?_, fun p hp => ?_, fun q hq => ?_⟩, ?_⟩
      · obtain ⟨d', hd', eq⟩ := swl_mem hq
        have f1 := guv p hp _ hd'
        have f2 := gum p hp
        have f3 := gmv _ hd'
        have f4 := sw_cases a d d'
        rw [eq]
        simp only [Le] at *
        omega
      · simp only [Le]; omega
      · have f2 := gum p hp
        simp only [Le] at *
        omega
      · obtain ⟨d', hd', eq⟩ := swl_mem hq
        have f3 := gmv _ hd'
        have f4 := sw_cases a d d'
        rw [eq]
        simp only [Le] at *
        omega
      · rw [used_mid] at hn ⊢
        rw [swl_used ha hd]
        simp only at hn ⊢
        rw [← hn]
        simp only [ha, hd, if_true]
    · refine ⟨cu ++ (z, d) :: (x, a) :: (y, a) :: cv, by simp [eu, ev], good_mid.mpr ⟨⟨gu, gv, guv⟩, ?_, fun p hp => ?_, fun q hq => ?_⟩, ?_⟩
      · simp only [Le]; omega
      · have f2 := gum p hp
        simp only [Le] at *
        omega
      · have f3 := gmv q hq
        simp only [Le] at *
        omega
      · rw [used_mid] at hn ⊢
        simp only at hn ⊢
        rw [← hn]
        simp only [ha, hd, if_true, if_false]
  · exact ⟨_, by simp [eu, ev], swap12 g (fun e l => absurd ⟨e.symm, by simp only at e l; omega⟩ q), by rw [used12]; exact hn⟩
theorem rise4 {u v : List Int} {x y z : Int} {k n : Nat} (h1 : x ≤ y) (h2 : y < z) (h : Reach Le k (u ++ z :: x :: y :: v) n) : Reach Le k (u ++ x :: z :: y :: v) n := by
  obtain ⟨c, e, g, hn⟩ := h
  obtain ⟨cu, cv, a, b, d, rfl, eu, ev⟩ := split_map e
  exact ⟨_, by simp [eu, ev], swap12 g (fun _ _ => by simp only [Le]; omega), by rw [used12]; exact hn⟩
/-- falling -/
theorem fall1 {u v : List Int} {x y z : Int} {k n : Nat} (h1 : x < y) (h2 : y ≤ z) (h : Reach Gt k (u ++ y :: x :: z :: v) n) : Reach Gt k (u ++ y :: z :: x :: v) n := by
  obtain ⟨c, e, g, hn⟩ := h
  obtain ⟨cu, cv, a, b, d, rfl, eu, ev⟩ := split_map e
  exact ⟨_, by simp [eu, ev], swap23 g (fun _ _ => by simp only [Gt]; omega), by rw [used23]; exact hn⟩
theorem fall2 {u v : List Int} {x y z : Int} {k n : Nat} (h1 : x < y) (h2 : y ≤ z) (h : Reach Gt k (u ++ y :: z :: x :: v) n) : Reach Gt k (u ++ y :: x :: z :: v) n := by
  obtain ⟨c, e, g, hn⟩ := h
  obtain ⟨cu, cv, a, b, d, rfl, eu, ev⟩ := split_map e
  by_cases q : b = d ∧ b < k
  · obtain ⟨rfl, hb⟩ := q
    have g' := good_mid.mp g
    obtain ⟨⟨gu, gv, guv⟩, gm, gum, gmv⟩ := g'
    simp only [Gt] at gm gum gmv guv
    by_cases ha : a < k
    · refine ⟨cu ++ (y, a) :: (x, a) :: (z, b) :: swl a b cv, by simp [eu, swl_fst, ev], good_mid.mpr ⟨⟨gu, swl_good ha hb gv, fun p hp q hq => ?_⟩, ?_, fun p hp => ?_, fun q hq => ?_⟩, ?_⟩
      · obtain ⟨d, hd, eq⟩ := swl_mem hq
        have f1 := guv p hp _ hd
        have f2 := gum p hp
        have f3 := gmv _ hd
        have f4 := sw_cases a b d
        rw [eq]
        simp only [Gt] at *
        omega
      · simp only [Gt]; omega
      · have f2 := gum p hp
        simp only [Gt] at *
        omega
      · obtain ⟨d, hd, eq⟩ := swl_mem hq
        have f3 := gmv _ hd
        have f4 := sw_cases a b d
        rw [eq]
        simp only [Gt] at *
        omega
      · rw [used_mid] at hn ⊢
        rw [swl_used ha hb]
        simp only at hn ⊢
        rw [← hn]
        simp only [ha, hb, if_true]
    · refine ⟨cu ++ (y, b) :: (x, b) :: (z, a) :: cv, by simp [eu, ev], good_mid.mpr ⟨⟨gu, gv, guv⟩, ?_, fun p hp => ?_, fun q hq => ?_⟩, ?_⟩
      · simp only [Gt]; omega
      · have f2 := gum p hp
        simp only [Gt] at *
        omega
      · have f3 := gmv q hq
        simp only [Gt] at *
        omega
      · rw [used_mid] at hn ⊢
        simp only at hn ⊢
        rw [← hn]
        simp only [ha, hb, if_true, if_false]
  · exact ⟨_, by simp [eu, ev], swap23 g (fun e l => absurd ⟨e.symm, by simp only at e l; omega⟩ q), by rw [used23]; exact hn⟩
theorem fall3 {u v : List Int} {x y z : Int} {k n : Nat} (h1 : x ≤ y) (h2 : y < z) (h : Reach Gt k (u ++ x :: z :: y :: v) n) : Reach Gt k (u ++ z :: x :: y :: v) n := by
  obtain ⟨c, e, g, hn⟩ := h
  obtain ⟨cu, cv, a, b, d, rfl, eu, ev⟩ := split_map e
  exact ⟨_, by simp [eu, ev], swap12 g (fun _ _ => by simp only [Gt]; omega), by rw [used12]; exact hn⟩
theorem fall4 {u v : List Int} {x y z : Int} {k n : Nat} (h1 : x ≤ y) (h2 : y < z) (h : Reach Gt k (u ++ z :: x :: y :: v) n) : Reach Gt k (u ++ x :: z :: y :: v) n := by
  obtain ⟨c, e, g, hn⟩ := h
  obtain ⟨cu, cv, a, b, d, rfl, eu, ev⟩ := split_map e
  by_cases q : a = b ∧ a < k
  · obtain ⟨rfl, ha⟩ := q
    have g' := good_mid.mp g
    obtain ⟨⟨gu, gv, guv⟩, gm, gum, gmv⟩ := g'
    simp only [Gt] at gm gum gmv guv
    by_cases hd : d < k
    · refine ⟨cu ++ (x, d) :: (z, a) :: (y, a) :: swl a d cv, by simp [eu, swl_fst, ev], good_mid.mpr ⟨⟨gu, swl_good ha hd gv, fun p hp q hq => ?_⟩, ?_, fun p hp => ?_, fun q hq => ?_⟩, ?_⟩
      · obtain ⟨d', hd', eq⟩ := swl_mem hq
        have f1 := guv p hp _ hd'
        have f2 := gum p hp
        have f3 := gmv _ hd'
        have f4 := sw_cases a d d'
        rw [eq]
        simp only [Gt] at *
        omega
      · simp only [Gt]; omega
      · have f2 := gum p hp
        simp only [Gt] at *
        omega
      · obtain ⟨d', hd', eq⟩ := swl_mem hq
        have f3 := gmv _ hd'
        have f4 := sw_cases a d d'
        rw [eq]
        simp only [Gt] at *
        omega
      · rw [used_mid] at hn ⊢
        rw [swl_used ha hd]
        simp only at hn ⊢
        rw [← hn]
        simp only [ha, hd, if_true]
    · refine ⟨cu ++ (x, d) :: (z, a) :: (y, a) :: cv, by simp [eu, ev], good_mid.mpr ⟨⟨gu, gv, guv⟩, ?_, fun p hp => ?_, fun q hq => ?_⟩, ?_⟩
      · simp only [Gt]; omega
      · have f2 := gum p hp
        simp only [Gt] at *
        omega
      · have f3 := gmv q hq
        simp only [Gt] at *
        omega
      · rw [used_mid] at hn ⊢
        simp only at hn ⊢
        rw [← hn]
        simp only [ha, hd, if_true, if_false]
  · exact ⟨_, by simp [eu, ev], swap12 g (fun e l => absurd ⟨e.symm, by simp only at e l; omega⟩ q), by rw [used12]; exact hn⟩
theorem reach_K1 {a b : List Int} (h : K1 a b) (k n : Nat) : (Reach Le k a n ↔ Reach Le k b n) ∧ (Reach Gt k a n ↔ Reach Gt k b n) := by
  cases h with
  | yxz u v h1 h2 => exact ⟨⟨rise1 h1 h2, rise2 h1 h2⟩, ⟨fall1 h1 h2, fall2 h1 h2⟩⟩
  | xzy u v h1 h2 => exact ⟨⟨rise3 h1 h2, rise4 h1 h2⟩, ⟨fall3 h1 h2, fall4 h1 h2⟩⟩
theorem reach_Kn {a b : List Int} (h : Kn a b) (k n : Nat) : (Reach Le k a n ↔ Reach Le k b n) ∧ (Reach Gt k a n ↔ Reach Gt k b n) := by
  induction h with
  | refl => exact ⟨Iff.rfl, Iff.rfl⟩
  | fwd h _ ih => exact ⟨(reach_K1 h k n).1.trans ih.1, (reach_K1 h k n).2.trans ih.2⟩
  | bwd h _ ih => exact ⟨(reach_K1 h k n).1.symm.trans ih.1, (reach_K1 h k n).2.symm.trans ih.2⟩
end RSK
end

section
set_option linter.all false
namespace RSK
/-! colours of a reading: by rows, by columns -/
def rowCol : Nat → T → List (Int × Nat)
  | _, [] => []
  | i, r :: rs => rowCol (i + 1) rs ++ r.map fun a => (a, i)
theorem rowCol_fst : ∀ (t : T) (i : Nat), (rowCol i t).map Prod.fst = reading t
  | [], _ => rfl
  | r :: rs, i => by
    rw [reading_cons, rowCol, List.map_append, rowCol_fst rs (i + 1)]
    simp [Function.comp_def]
theorem rowCol_ge : ∀ (t : T) (i : Nat) (p : Int × Nat), p ∈ rowCol i t → i ≤ p.2
  | [], _, _, h => by cases h
  | r :: rs, i, p, h => by
    rw [rowCol, List.mem_append] at h
    rcases h with h | h
    · have := rowCol_ge rs (i + 1) p h; omega
    · rw [List.mem_map] at h
      obtain ⟨a, _, rfl⟩ := h
      exact Nat.le_refl _
theorem rowCol_good : ∀ (t : T) (i k : Nat), (∀ r, r ∈ t → Sorted r) → Good Le k (rowCol i t)
  | [], _, _, _ => List.Pairwise.nil
  | r :: rs, i, k, hs => by
    unfold Good
    rw [rowCol, List.pairwise_append]
    refine ⟨rowCol_good rs (i + 1) k fun q hq => hs q (by simp [hq]), ?_, fun p hp q hq e l => ?_⟩
    · rw [List.pairwise_map]
      exact (hs r (by simp)).imp fun h _ _ => h
    · have := rowCol_ge rs (i + 1) p hp
      rw [List.mem_map] at hq
      obtain ⟨a, _, rfl⟩ := hq
      simp only at e
      omega
theorem rowCol_used : ∀ (t : T) (i k : Nat), used k (rowCol i t) = ((shape t).take (k - i)).sum
  | [], _, _ => by simp [rowCol, used, shape]
  | r :: rs, i, k => by
    unfold used
    rw [rowCol, List.countP_append, List.countP_map]
    have ih := rowCol_used rs (i + 1) k
    unfold used at ih
    rw [ih]
    by_cases h : i < k
    · have e : k - i = (k - (i + 1)) + 1 := by omega
      rw [e]
      have : List.countP ((fun p => decide (p.2 < k)) ∘ fun a => (a, i)) r = r.length := by
        rw [List.countP_eq_length]
        intro a _
        simp [h]
      rw [this]
      simp [shape]
      omega
    · have e1 : k - i = 0 := by omega
      have e2 : k - (i + 1) = 0 := by omega
      rw [e1, e2]
      have : List.countP ((fun p => decide (p.2 < k)) ∘ fun a => (a, i)) r = 0 := by
        rw [List.countP_eq_zero]
        intro a _
        simp; omega
      rw [this]
      simp
def colCol : T → List (Int × Nat)
  | [] => []
  | r :: rs => colCol rs ++ r.zipIdx
theorem colCol_fst : ∀ (t : T), (colCol t).map Prod.fst = reading t
  | [] => rfl
  | r :: rs => by
    rw [reading_cons, colCol, List.map_append, colCol_fst rs]
    simp
theorem colCol_mem : ∀ {t : T} {p : Int × Nat}, Tab t → p ∈ colCol t → ∃ b, (t.headD [])[p.2]? = some b ∧ b ≤ p.1
  | [], _, _, h => by cases h
  | r :: rs, p, ht, h => by
    rw [colCol, List.mem_append] at h
    rcases h with h | h
    · obtain ⟨b, hb, hl⟩ := colCol_mem ht.2.2.2 h
      have hlen := below_len ht.2.2.1
      have hlt : p.2 < r.length := by
        have := (List.getElem?_eq_some_iff.mp hb).1
        omega
      have := below_get ht.2.2.1 (List.getElem?_eq_getElem hlt) hb
      exact ⟨r[p.2], List.getElem?_eq_getElem hlt, by omega⟩
    · have hm := List.mem_zipIdx' h
      exact ⟨p.1, by simp [List.getElem?_eq_getElem hm.1, hm.2], Int.le_refl _⟩
theorem zipIdx_pw : ∀ (r : List Int) (i : Nat), (r.zipIdx i).Pairwise fun p q => p.2 < q.2
  | [], _ => List.Pairwise.nil
  | a :: r, i => by
    rw [List.zipIdx_cons, List.pairwise_cons]
    refine ⟨fun q hq => ?_, zipIdx_pw r (i + 1)⟩
    have := List.mem_zipIdx hq
    simp only
    omega
theorem colCol_good : ∀ (t : T) (k : Nat), Tab t → Good Gt k (colCol t)
  | [], _, _ => List.Pairwise.nil
  | r :: rs, k, ht => by
    unfold Good
    rw [colCol, List.pairwise_append]
    refine ⟨colCol_good rs k ht.2.2.2, ?_, fun p hp q hq e l => ?_⟩
    · exact (zipIdx_pw r 0).imp fun {p q} h e _ => by omega
    · obtain ⟨b, hb, hl⟩ := colCol_mem ht.2.2.2 hp
      have hm := List.mem_zipIdx' hq
      rw [e] at hb
      have := below_get ht.2.2.1 (List.getElem?_eq_getElem hm.1) hb
      rw [← hm.2] at this
      show q.1 < p.1
      omega
theorem zipIdx_used : ∀ (r : List Int) (i k : Nat), used k (r.zipIdx i) = min (k - i) r.length
  | [], _, _ => by simp [used]
  | a :: r, i, k => by
    unfold used
    rw [List.zipIdx_cons, List.countP_cons]
    have ih := zipIdx_used r (i + 1) k
    unfold used at ih
    rw [ih]
    simp only [decide_eq_true_eq, List.length_cons]
    split <;> omega
theorem colCol_used : ∀ (t : T) (k : Nat), used k (colCol t) = ((shape t).map (min k)).sum
  | [], _ => by simp [colCol, used, shape]
  | r :: rs, k => by
    have ih := colCol_used rs k
    have h2 := zipIdx_used r 0 k
    unfold used at ih h2 ⊢
    rw [colCol, List.countP_append, ih, h2]
    simp [shape]
    omega
/-! one rising part and one falling part meet once at most -/
theorem nodup_le : ∀ (m : Nat) (l : List Nat), l.Nodup → (∀ a, a ∈ l → a < m) → l.length ≤ m
  | 0, l, _, h => by
    cases l with
    | nil => exact Nat.le_refl _
    | cons a l => exact absurd (h a (by simp)) (by omega)
  | m + 1, l, hn, h => by
    have ih := nodup_le m (l.erase m) (hn.erase m) (fun a ha => by
      have := (hn.mem_erase_iff).mp ha
      have := h a this.2
      omega)
    by_cases hm : m ∈ l
    · rw [List.length_erase_of_mem hm] at ih; omega
    · rw [List.erase_of_not_mem hm] at ih; omega
theorem pw_zip {α β : Type} {R : α → α → Prop} {S : β → β → Prop} : ∀ {a : List α} {b : List β}, a.Pairwise R → b.Pairwise S → (a.zip b).Pairwise fun p q => R p.1 q.1 ∧ S p.2 q.2
  | [], _, _, _ => by simp
  | _ :: _, [], _, _ => by simp
  | x :: a, y :: b, h1, h2 => by
    rw [List.pairwise_cons] at h1 h2
    rw [List.zip_cons_cons, List.pairwise_cons]
    refine ⟨fun q hq => ?_, pw_zip h1.2 h2.2⟩
    have := List.of_mem_zip (a := q.1) (b := q.2) (l₁ := a) (l₂ := b) hq
    exact ⟨h1.1 _ this.1, h2.1 _ this.2⟩
theorem zip_fst : ∀ {c d : List (Int × Nat)}, c.map Prod.fst = d.map Prod.fst → ∀ p, p ∈ c.zip d → p.1.1 = p.2.1
  | [], _, _, p, h => by simp at h
  | _ :: _, [], h, _, _ => by simp at h
  | x :: c, y :: d, h, p, hp => by
    rw [List.map_cons, List.map_cons] at h
    rw [List.zip_cons_cons] at hp
    rcases List.mem_cons.mp hp with rfl | hp
    · exact (List.cons.inj h).1
    · exact zip_fst (List.cons.inj h).2 p hp
theorem code_inj {l a b c d : Nat} (hb : b < l) (hd : d < l) (h : a * l + b = c * l + d) : a = c ∧ b = d := by
  have e1 : (a * l + b) / l = a := by rw [Nat.mul_comm, Nat.mul_add_div (by omega), Nat.div_eq_of_lt hb]; omega
  have e2 : (c * l + d) / l = c := by rw [Nat.mul_comm, Nat.mul_add_div (by omega), Nat.div_eq_of_lt hd]; omega
  have : a = c := by rw [← e1, ← e2, h]
  subst this
  omega
theorem code_lt {l k a b : Nat} (ha : a < k) (hb : b < l) : a * l + b < k * l := by
  have : (a + 1) * l ≤ k * l := Nat.mul_le_mul_right l ha
  rw [Nat.add_mul] at this
  omega
theorem countP_zip1 {α β : Type} (f : α → Bool) : ∀ {a : List α} {b : List β}, a.length = b.length → (a.zip b).countP (fun p => f p.1) = a.countP f
  | [], b, _ => by simp
  | _ :: _, [], h => by simp at h
  | x :: a, y :: b, h => by
    rw [List.zip_cons_cons, List.countP_cons, List.countP_cons, countP_zip1 f (by simpa using h)]
theorem countP_zip2 {α β : Type} (f : β → Bool) : ∀ {a : List α} {b : List β}, a.length = b.length → (a.zip b).countP (fun p => f p.2) = b.countP f
  | [], [], _ => by simp
  | [], _ :: _, h => by simp at h
  | _ :: _, [], h => by simp at h
  | x :: a, y :: b, h => by
    rw [List.zip_cons_cons, List.countP_cons, List.countP_cons, countP_zip2 f (by simpa using h)]
theorem countP_two {α : Type} (f g : α → Bool) : ∀ l : List α, l.countP f + l.countP g ≤ l.length + l.countP (fun a => f a && g a)
  | [] => by simp
  | a :: l => by
    have := countP_two f g l
    rw [List.countP_cons, List.countP_cons, List.countP_cons, List.length_cons]
    cases f a <;> cases g a <;> simp <;> omega
theorem meet {c d : List (Int × Nat)} {k l : Nat} (e : c.map Prod.fst = d.map Prod.fst) (g1 : Good Le k c) (g2 : Good Gt l d) : used k c + used l d ≤ c.length + k * l := by
  have hl : c.length = d.length := by have := congrArg List.length e; simpa using this
  have h1 := countP_zip1 (fun p : Int × Nat => decide (p.2 < k)) hl
  have h2 := countP_zip2 (fun p : Int × Nat => decide (p.2 < l)) hl
  have h3 := countP_two (fun p : (Int × Nat) × (Int × Nat) => decide (p.1.2 < k)) (fun p => decide (p.2.2 < l)) (c.zip d)
  have h4 : (c.zip d).length = c.length := by rw [List.length_zip]; omega
  unfold used
  rw [← h1, ← h2]
  rw [h4] at h3
  have hp := pw_zip g1 g2
  have h5 : (c.zip d).countP (fun p => decide (p.1.2 < k) && decide (p.2.2 < l)) ≤ k * l := by
    rw [List.countP_eq_length_filter]
    have := nodup_le (k * l) (((c.zip d).filter (fun p => decide (p.1.2 < k) && decide (p.2.2 < l))).map fun p => p.1.2 * l + p.2.2) ?_ ?_
    · simpa using this
    · unfold List.Nodup
      rw [List.pairwise_map]
      have hf := hp.filter (fun p => decide (p.1.2 < k) && decide (p.2.2 < l))
      have key : ∀ p, p ∈ (c.zip d).filter (fun p => decide (p.1.2 < k) && decide (p.2.2 < l)) → p.1.1 = p.2.1 ∧ p.1.2 < k ∧ p.2.2 < l := fun p hp => by
        rw [List.mem_filter] at hp
        have := hp.2
        simp only [Bool.and_eq_true, decide_eq_true_eq] at this
        exact ⟨zip_fst e p hp.1, this⟩
      refine hf.imp_of_mem fun {p q} hp hq hpq ec => ?_
      obtain ⟨p1, p2, p3⟩ := key p hp
      obtain ⟨q1, q2, q3⟩ := key q hq
      obtain ⟨c1, c2⟩ := code_inj p3 q3 ec
      have r1 := hpq.1 c1 p2
      have r2 := hpq.2 c2 p3
      simp only [Le, Gt] at r1 r2
      omega
    · intro a ha
      rw [List.mem_map] at ha
      obtain ⟨p, hp, rfl⟩ := ha
      rw [List.mem_filter] at hp
      have := hp.2
      simp only [Bool.and_eq_true, decide_eq_true_eq] at this
      exact code_lt this.1 this.2
  omega
/-! sums over parts -/
theorem part_le : ∀ {a : Nat} {s : List Nat}, Part (a :: s) → ∀ b, b ∈ s → b ≤ a
  | a, [], _, b, h => by cases h
  | a, c :: s, hp, b, h => by
    have h1 : c ≤ a := hp.2.1
    rcases List.mem_cons.mp h with rfl | h
    · exact h1
    · have := part_le hp.2.2 b h; omega
theorem min_id {l : Nat} : ∀ {s : List Nat}, (∀ b, b ∈ s → b ≤ l) → (s.map (min l)).sum = s.sum
  | [], _ => rfl
  | a :: s, h => by
    rw [List.map_cons, List.sum_cons, List.sum_cons, min_id fun b hb => h b (by simp [hb])]
    have := h a (by simp)
    omega
theorem getD_le {a k : Nat} {s : List Nat} (hp : Part (a :: s)) : s.getD k 0 ≤ a := by
  by_cases h : k < s.length
  · rw [List.getD_eq_getElem?_getD, List.getElem?_eq_getElem h]
    exact part_le hp _ (List.getElem_mem h)
  · rw [List.getD_eq_getElem?_getD, List.getElem?_eq_none (by omega)]
    exact Nat.zero_le _
theorem sum_rise : ∀ {s : List Nat} (k : Nat), Part s → s.sum + k * s.getD k 0 ≤ (s.map (min (s.getD k 0))).sum + (s.take k).sum
  | [], k, _ => by simp
  | a :: s, 0, hp => by
    have e : (a :: s).getD 0 0 = a := rfl
    rw [e, min_id fun b hb => by
      rcases List.mem_cons.mp hb with rfl | hb
      · exact Nat.le_refl _
      · exact part_le hp b hb]
    simp
  | a :: s, k + 1, hp => by
    have ih := sum_rise k hp.2.2
    have hle := getD_le (k := k) hp
    have e : (a :: s).getD (k + 1) 0 = s.getD k 0 := rfl
    rw [e]
    simp only [List.map_cons, List.sum_cons, List.take_succ_cons]
    have : min (s.getD k 0) a = s.getD k 0 := by omega
    rw [this, Nat.add_mul]
    omega
theorem sum_fall : ∀ {s : List Nat} (l : Nat), Part s → s.sum + s.countP (fun a => decide (l < a)) * l ≤ (s.map (min l)).sum + (s.take (s.countP fun a => decide (l < a))).sum
  | [], l, _ => by simp
  | a :: s, l, hp => by
    by_cases h : l < a
    · have ih := sum_fall l hp.2.2
      have e : (a :: s).countP (fun a => decide (l < a)) = s.countP (fun a => decide (l < a)) + 1 := by rw [List.countP_cons, if_pos (by simpa using h)]
      rw [e]
      simp only [List.map_cons, List.sum_cons, List.take_succ_cons, Nat.add_mul]
      have : min l a = l := by omega
      rw [this]
      omega
    · have hall : ∀ b, b ∈ a :: s → b ≤ l := fun b hb => by
        rcases List.mem_cons.mp hb with rfl | hb
        · omega
        · have := part_le hp b hb; omega
      have e : (a :: s).countP (fun a => decide (l < a)) = 0 := by
        rw [List.countP_eq_zero]
        intro b hb
        have := hall b hb
        simp; omega
      rw [e, min_id hall]
      simp
/-! so many places by k rising parts, by k falling ones -/
theorem greene_le' (w : List Int) (k : Nat) : Reach Le k w ((shape (P w)).take k).sum := by
  rw [(reach_Kn (kn_P w) k _).1]
  exact ⟨rowCol 0 (P w), rowCol_fst _ 0, rowCol_good _ 0 k (tab_sorted (tab_P w)), by rw [rowCol_used]; rfl⟩
theorem greene_gt' (w : List Int) (k : Nat) : Reach Gt k w ((shape (P w)).map (min k)).sum := by
  rw [(reach_Kn (kn_P w) k _).2]
  exact ⟨colCol (P w), colCol_fst _, colCol_good _ k (tab_P w), by rw [colCol_used]⟩
theorem reach_len {R : Int → Int → Prop} {k n : Nat} {w : List Int} {c : List (Int × Nat)} (e : c.map Prod.fst = w) : c.length = w.length := by
  rw [← e]; simp
theorem greene_le {w : List Int} {k n : Nat} (h : Reach Le k w n) : n ≤ ((shape (P w)).take k).sum := by
  obtain ⟨c, e1, g1, u1⟩ := h
  obtain ⟨d, e2, g2, u2⟩ := greene_gt' w ((shape (P w)).getD k 0)
  have m := meet (e1.trans e2.symm) g1 g2
  rw [u1, u2, reach_len (R := Le) (k := 0) (n := 0) e1, ← size_P w] at m
  have := sum_rise k (part_shape (tab_P w))
  unfold size at m
  omega
theorem greene_gt {w : List Int} {k n : Nat} (h : Reach Gt k w n) : n ≤ ((shape (P w)).map (min k)).sum := by
  obtain ⟨d, e2, g2, u2⟩ := h
  obtain ⟨c, e1, g1, u1⟩ := greene_le' w ((shape (P w)).countP fun a => decide (k < a))
  have m := meet (e1.trans e2.symm) g1 g2
  rw [u1, u2, reach_len (R := Le) (k := 0) (n := 0) e1, ← size_P w] at m
  have := sum_fall k (part_shape (tab_P w))
  unfold size at m
  omega
theorem part_ext : ∀ {s t : List Nat}, Part s → Part t → (∀ k, (s.take k).sum = (t.take k).sum) → s = t
  | [], [], _, _, _ => rfl
  | [], a :: t, _, h, e => by
    have := e 1
    have h1 := h.1
    simp at this
    omega
  | a :: s, [], h, _, e => by
    have := e 1
    have h1 := h.1
    simp at this
    omega
  | a :: s, b :: t, h, g, e => by
    have h1 : a = b := by simpa using e 1
    subst h1
    rw [part_ext h.2.2 g.2.2 fun k => by
      have := e (k + 1)
      simp only [List.take_succ_cons, List.sum_cons] at this
      omega]
theorem shape_of_rise {v w : List Int} (h : ∀ k n, Reach Le k v n ↔ Reach Le k w n) : shape (P v) = shape (P w) := by
  refine part_ext (part_shape (tab_P v)) (part_shape (tab_P w)) fun k => ?_
  have h1 := greene_le ((h k _).mp (greene_le' v k))
  have h2 := greene_le ((h k _).mpr (greene_le' w k))
  omega
theorem shape_Kn {v w : List Int} (h : Kn v w) : shape (P v) = shape (P w) := shape_of_rise fun k n => (reach_Kn h k n).1
end RSK
end

section
set_option linter.all false
namespace RSK
/-! the numbers up to m of a tableau -/
def cutR (m : Int) (r : Row) : Row := r.filter fun a => decide (a ≤ m)
def res (m : Int) : T → T
  | [] => []
  | r :: rs => if cutR m r = [] then [] else cutR m r :: res m rs
theorem cutR_nil {m : Int} {r : Row} : cutR m r = [] ↔ ∀ a, a ∈ r → m < a := by
  unfold cutR
  rw [List.filter_eq_nil_iff]
  constructor
  · intro h a ha
    have := h a ha
    simp at this
    omega
  · intro h a ha
    have := h a ha
    simp; omega
theorem res_nil {m : Int} {r : Row} {rs : T} (ht : Tab (r :: rs)) (h : cutR m r = []) : res m rs = [] := by
  cases rs with
  | nil => rfl
  | cons q qs =>
    have hq : cutR m q = [] := by
      rw [cutR_nil] at h ⊢
      intro b hb
      obtain ⟨a, ha, hab⟩ := below_mem ht.2.2.1 hb
      have := h a ha
      omega
    rw [res, if_pos hq]
theorem cutR_append (m : Int) (a b : Row) : cutR m (a ++ b) = cutR m a ++ cutR m b := by simp [cutR]
theorem cutR_cons_le {m a : Int} {r : Row} (h : a ≤ m) : cutR m (a :: r) = a :: cutR m r := by simp [cutR, h]
theorem cutR_cons_gt {m a : Int} {r : Row} (h : m < a) : cutR m (a :: r) = cutR m r := by
  have : ¬ a ≤ m := by omega
  simp [cutR, this]
theorem cutR_all {m : Int} {r : Row} (h : ∀ a, a ∈ r → a ≤ m) : cutR m r = r := by
  unfold cutR
  rw [List.filter_eq_self]
  intro a ha
  simpa using h a ha
theorem res_ins : ∀ {t : T} {x m : Int}, Tab t → res m (ins t x).1 = if x ≤ m then (ins (res m t) x).1 else res m t
  | [], x, m, _ => by
    show (if cutR m [x] = [] then [] else cutR m [x] :: res m []) = _
    by_cases h : x ≤ m
    · rw [if_pos h, cutR_cons_le h]
      rfl
    · rw [if_neg h, cutR_cons_gt (by omega)]
      rfl
  | r :: rs, x, m, ht => by
    have hs : r.Pairwise (· ≤ ·) := ht.2.1
    cases e : (rowIns r x).2 with
    | none =>
      obtain ⟨e1, e2⟩ := rowIns_none e
      rw [ins_none e, e1]
      by_cases h : x ≤ m
      · have hr : cutR m r = r := cutR_all fun a ha => by have := e2 a ha; omega
        have hr2 : cutR m (r ++ [x]) = r ++ [x] := by rw [cutR_append, hr, cutR_cons_le h]; rfl
        rw [if_pos h, res, hr2, if_neg (by simp), res, hr, if_neg ht.1, ins_none e, e1]
      · have hr2 : cutR m (r ++ [x]) = cutR m r := by rw [cutR_append, cutR_cons_gt (by omega)]; simp [cutR]
        rw [if_neg h, res, hr2, res]
    | some y =>
      obtain ⟨l, mm, e1, e2, e3, e4⟩ := rowIns_some e
      have ih := res_ins (t := rs) (x := y) (m := m) ht.2.2.2
      rw [ins_some e, e2]
      have hm : ∀ b, b ∈ mm → y ≤ b := by
        rw [e1, List.pairwise_append, List.pairwise_cons] at hs
        exact hs.2.1.1
      by_cases h : x ≤ m
      · have hl : cutR m l = l := cutR_all fun a ha => by have := e3 a ha; omega
        rw [if_pos h, res, cutR_append, hl, cutR_cons_le h, if_neg (by simp), ih]
        by_cases hy : y ≤ m
        · have hr : cutR m r = l ++ y :: cutR m mm := by rw [e1, cutR_append, hl, cutR_cons_le hy]
          rw [if_pos hy, res, hr, if_neg (by simp)]
          have e5 := rowIns_at (l := l) (m := cutR m mm) e3 e4
          rw [ins_some (by rw [e5]), e5]
        · have hmm : cutR m mm = [] := cutR_nil.mpr fun b hb => by have := hm b hb; omega
          have hr : cutR m r = l := by rw [e1, cutR_append, hl, cutR_cons_gt (by omega), hmm, List.append_nil]
          rw [if_neg hy, hmm]
          by_cases hl0 : l = []
          · subst hl0
            rw [res_nil ht hr, res, hr, if_pos rfl]
            rfl
          · rw [res, hr, if_neg hl0]
            have e5 := rowIns_end (r := l) (x := x) e3
            rw [ins_none (by rw [e5]), e5]
      · have hr : cutR m (l ++ x :: mm) = cutR m r := by
          rw [e1, cutR_append, cutR_append, cutR_cons_gt (by omega), cutR_cons_gt (by omega)]
        rw [if_neg (show ¬ y ≤ m by omega)] at ih
        rw [if_neg h, res, hr, ih, res]
theorem P_cut (w : List Int) (m : Int) : P (cutR m w) = res m (P w) := by
  refine snoc_ind (p := fun w => P (cutR m w) = res m (P w)) rfl (fun w x ih => ?_) w
  rw [P_snoc, res_ins (tab_P w), cutR_append]
  by_cases h : x ≤ m
  · rw [if_pos h, cutR_cons_le h, ← ih, ← P_snoc]
    rfl
  · rw [if_neg h, cutR_cons_gt (by omega), ← ih]
    simp [cutR]
theorem K1_cut {a b : List Int} (h : K1 a b) (m : Int) : Kn (cutR m a) (cutR m b) := by
  cases h with
  | yxz u v h1 h2 =>
    rename_i x y z
    rw [cutR_append, cutR_append]
    by_cases hz : z ≤ m
    · rw [cutR_cons_le (show y ≤ m by omega), cutR_cons_le (show x ≤ m by omega), cutR_cons_le hz, cutR_cons_le (show y ≤ m by omega), cutR_cons_le hz, cutR_cons_le (show x ≤ m by omega)]
      exact .one (.yxz _ _ h1 h2)
    · have e : cutR m (y :: x :: z :: v) = cutR m (y :: z :: x :: v) := by
        have hz' : ¬ z ≤ m := hz
        unfold cutR
        simp only [List.filter_cons, hz', decide_false, Bool.false_eq_true, if_false]
      rw [e]
      exact .refl _
  | xzy u v h1 h2 =>
    rename_i x y z
    rw [cutR_append, cutR_append]
    by_cases hz : z ≤ m
    · rw [cutR_cons_le (show x ≤ m by omega), cutR_cons_le hz, cutR_cons_le (show y ≤ m by omega), cutR_cons_le hz, cutR_cons_le (show x ≤ m by omega), cutR_cons_le (show y ≤ m by omega)]
      exact .one (.xzy _ _ h1 h2)
    · have e : cutR m (x :: z :: y :: v) = cutR m (z :: x :: y :: v) := by
        have hz' : ¬ z ≤ m := hz
        unfold cutR
        simp only [List.filter_cons, hz', decide_false, Bool.false_eq_true, if_false]
      rw [e]
      exact .refl _
theorem Kn_cut {a b : List Int} (h : Kn a b) (m : Int) : Kn (cutR m a) (cutR m b) := by
  induction h with
  | refl => exact .refl _
  | fwd h _ ih => exact (K1_cut h m).trans ih
  | bwd h _ ih => exact (K1_cut h m).symm.trans ih
/-! a tableau is told by the shapes of its parts up to m -/
theorem row_ext : ∀ {r s : Row}, Sorted r → Sorted s → (∀ m, (cutR m r).length = (cutR m s).length) → r = s
  | [], [], _, _, _ => rfl
  | [], b :: s, _, _, h => by
    have := h b
    rw [cutR_cons_le (Int.le_refl b)] at this
    simp [cutR] at this
  | a :: r, [], _, _, h => by
    have := h a
    rw [cutR_cons_le (Int.le_refl a)] at this
    simp [cutR] at this
  | a :: r, b :: s, hr, hs, h => by
    have hr' := sorted_cons.mp hr
    have hs' := sorted_cons.mp hs
    have hab : a = b := by
      rcases Int.lt_trichotomy a b with c | c | c
      · have := h a
        rw [cutR_cons_le (Int.le_refl a), cutR_nil (m := a) (r := b :: s) |>.mpr (fun x hx => by
          rcases List.mem_cons.mp hx with rfl | hx
          · exact c
          · have := hs'.1 x hx; omega)] at this
        simp at this
      · exact c
      · have := h b
        rw [cutR_cons_le (Int.le_refl b), cutR_nil (m := b) (r := a :: r) |>.mpr (fun x hx => by
          rcases List.mem_cons.mp hx with rfl | hx
          · exact c
          · have := hr'.1 x hx; omega)] at this
        simp at this
    subst hab
    rw [row_ext hr'.2 hs'.2 fun m => by
      have := h m
      by_cases c : a ≤ m
      · rw [cutR_cons_le c, cutR_cons_le c] at this
        simpa using this
      · rw [cutR_cons_gt (by omega), cutR_cons_gt (by omega)] at this
        exact this]
theorem res_head (m : Int) (r : Row) (rs : T) : (shape (res m (r :: rs))).headD 0 = (cutR m r).length := by
  rw [res]
  split
  · rename_i h; rw [h]; rfl
  · rfl
theorem tab_ext : ∀ {s t : T}, Tab s → Tab t → (∀ m, shape (res m s) = shape (res m t)) → s = t
  | [], [], _, _, _ => rfl
  | [], r :: rs, _, ht, h => by
    obtain ⟨a, r', rfl⟩ := List.exists_cons_of_ne_nil ht.1
    have := congrArg (fun l => l.headD 0) (h a)
    simp only [res_head] at this
    rw [cutR_cons_le (Int.le_refl a)] at this
    simp [res, shape] at this
  | r :: rs, [], ht, _, h => by
    obtain ⟨a, r', rfl⟩ := List.exists_cons_of_ne_nil ht.1
    have := congrArg (fun l => l.headD 0) (h a)
    simp only [res_head] at this
    rw [cutR_cons_le (Int.le_refl a)] at this
    simp [res, shape] at this
  | r :: rs, q :: qs, ht, hq, h => by
    have e : r = q := row_ext ht.2.1 hq.2.1 fun m => by
      have := congrArg (fun l => l.headD 0) (h m)
      simpa only [res_head] using this
    subst e
    rw [tab_ext ht.2.2.2 hq.2.2.2 fun m => by
      have hm := h m
      by_cases c : cutR m r = []
      · rw [res_nil ht c, res_nil hq c]
      · rw [res, res, if_neg c, if_neg c] at hm
        exact (List.cons.inj hm).2]
theorem knuth_P {v w : List Int} (h : Kn v w) : P v = P w :=
  tab_ext (tab_P v) (tab_P w) fun m => by
    rw [← P_cut, ← P_cut]
    exact shape_Kn (Kn_cut h m)
theorem knuth_iff {v w : List Int} : Kn v w ↔ P v = P w :=
  ⟨knuth_P, fun h => (kn_P v).trans (by rw [h]; exact (kn_P w).symm)⟩
/-! the second tableau is told by the shapes ahead -/
theorem res_all : ∀ {t : T} {m : Int}, (∀ r, r ∈ t → r ≠ [] ∧ ∀ a, a ∈ r → a ≤ m) → res m t = t
  | [], _, _ => rfl
  | r :: rs, m, h => by
    have h1 := h r (by simp)
    rw [res, cutR_all h1.2, if_neg h1.1, res_all fun q hq => h q (by simp [hq])]
theorem res_add : ∀ {t : T} {k : Nat} {m v : Int}, m < v → res m (addBox t k v) = res m t
  | [], k, m, v, h => by
    show (if cutR m [v] = [] then [] else _) = _
    rw [cutR_cons_gt h]
    rfl
  | r :: rs, 0, m, v, h => by
    have : cutR m (r ++ [v]) = cutR m r := by rw [cutR_append, cutR_cons_gt h]; simp [cutR]
    show res m ((r ++ [v]) :: rs) = _
    rw [res, this, res]
  | r :: rs, k + 1, m, v, h => by
    show res m (r :: addBox rs k v) = _
    rw [res, res_add (t := rs) h, res]
theorem Q_res (w : List Int) (m : Int) : res m (PQ w).2 = (PQ (w.take m.toNat)).2 := by
  refine snoc_ind (p := fun w => res m (PQ w).2 = (PQ (w.take m.toNat)).2) (by simp [PQ, enum, res]) (fun w x ih => ?_) w
  by_cases h : m < (w.length : Int) + 1
  · have e : (w ++ [x]).take m.toNat = w.take m.toNat := by rw [List.take_append_of_le_length (by omega)]
    rw [e, ← ih, PQ_snoc]
    exact res_add h
  · have e : (w ++ [x]).take m.toNat = w ++ [x] := List.take_of_length_le (by simp; omega)
    rw [e]
    refine res_all fun r hr => ⟨tab_ne (Q_facts _).1 r hr, fun a ha => ?_⟩
    have hm : a ∈ entries (PQ (w ++ [x])).2 := List.mem_flatten.mpr ⟨r, hr, ha⟩
    have := ups_mem ((Q_facts _).2.mem_iff.mp hm)
    simp at this
    omega
theorem Q_shape (w : List Int) (m : Int) : shape (res m (PQ w).2) = shape (P (w.take m.toNat)) := by
  rw [Q_res, ← PQ_shape, PQ_fst]
theorem Q_ext {v w : List Int} (h : ∀ i, shape (P (v.take i)) = shape (P (w.take i))) : (PQ v).2 = (PQ w).2 :=
  tab_ext (Q_facts v).1 (Q_facts w).1 fun m => by rw [Q_shape, Q_shape, h]
/-! words whose places are ordered alike -/
def Alike (v w : List Int) : Prop := v.length = w.length ∧ ∀ i j (hi : i < v.length) (hj : j < v.length) (hi' : i < w.length) (hj' : j < w.length), i < j → (v[i] ≤ v[j] ↔ w[i] ≤ w[j])
theorem Alike.symm {v w : List Int} (h : Alike v w) : Alike w v := ⟨h.1.symm, fun i j a b c d l => (h.2 i j c d a b l).symm⟩
theorem Alike.take {v w : List Int} (h : Alike v w) (n : Nat) : Alike (v.take n) (w.take n) := by
  refine ⟨by simp [h.1], fun i j a b c d l => ?_⟩
  simp only [List.getElem_take]
  simp only [List.length_take] at a b c d
  exact h.2 i j (by omega) (by omega) (by omega) (by omega) l
def recol (c : List (Int × Nat)) (w : List Int) : List (Int × Nat) := w.zip (c.map Prod.snd)
theorem recol_fst {c : List (Int × Nat)} {w : List Int} (h : c.length = w.length) : (recol c w).map Prod.fst = w := by
  unfold recol
  rw [List.map_fst_zip (by simp [h])]
theorem recol_used {c : List (Int × Nat)} {w : List Int} {k : Nat} (h : c.length = w.length) : used k (recol c w) = used k c := by
  have e : (recol c w).map Prod.snd = c.map Prod.snd := by unfold recol; rw [List.map_snd_zip (by simp [h])]
  have := congrArg (fun l : List Nat => l.countP fun i => decide (i < k)) e
  simp only [List.countP_map] at this
  exact this
theorem alike_reach {R : Int → Int → Prop} {v w : List Int} {k n : Nat} (hl : v.length = w.length) (hR : ∀ i j (hi : i < v.length) (hj : j < v.length) (hi' : i < w.length) (hj' : j < w.length), i < j → R v[i] v[j] → R w[i] w[j])
    (h : Reach R k v n) : Reach R k w n := by
  obtain ⟨c, e, g, u⟩ := h
  have hc : c.length = v.length := by rw [← e]; simp
  refine ⟨recol c w, recol_fst (by omega), ?_, by rw [recol_used (by omega)]; exact u⟩
  unfold Good at g ⊢
  rw [List.pairwise_iff_getElem] at g ⊢
  intro i j hi hj hij e2 l
  have hi' : i < c.length := by simp [recol] at hi; omega
  have hj' : j < c.length := by simp [recol] at hj; omega
  simp only [recol, List.getElem_zip, List.getElem_map] at e2 l ⊢
  have := g i j hi' hj' hij e2 l
  subst e
  exact hR i j (by simp; omega) (by simp; omega) (by omega) (by omega) hij (by simpa using this)
theorem Alike.rise {v w : List Int} (h : Alike v w) (k n : Nat) : Reach Le k v n ↔ Reach Le k w n :=
  ⟨alike_reach h.1 fun i j a b c d l q => (h.2 i j a b c d l).mp q, alike_reach h.1.symm fun i j a b c d l q => (h.2 i j c d a b l).mpr q⟩
theorem Alike.shape {v w : List Int} (h : Alike v w) : shape (P v) = shape (P w) := shape_of_rise fun k n => h.rise k n
theorem Alike.Q {v w : List Int} (h : Alike v w) : (PQ v).2 = (PQ w).2 := Q_ext fun i => (h.take i).shape
end RSK
end

section
set_option linter.all false
namespace RSK
/-! words backward -/
theorem reach_rev {R : Int → Int → Prop} {k n : Nat} {w : List Int} (h : Reach R k w n) : Reach (fun a b => R b a) k w.reverse n := by
  obtain ⟨c, e, g, u⟩ := h
  refine ⟨c.reverse, by rw [List.map_reverse, e], ?_, ?_⟩
  · unfold Good at *
    rw [List.pairwise_reverse]
    exact g.imp fun {p q} h e l => h e.symm (by omega)
  · unfold used at *
    rw [List.countP_reverse]
    exact u
theorem reach_map {R S : Int → Int → Prop} {k n : Nat} {w : List Int} (f : Int → Int) (hR : ∀ a b, R a b → S (f a) (f b)) (h : Reach R k w n) : Reach S k (w.map f) n := by
  obtain ⟨c, e, g, u⟩ := h
  refine ⟨c.map fun p => (f p.1, p.2), by rw [← e]; simp [Function.comp_def], ?_, ?_⟩
  · unfold Good at *
    rw [List.pairwise_map]
    exact g.imp fun {p q} h e l => hR _ _ (h e l)
  · unfold used at *
    rw [List.countP_map]
    exact u
theorem reach_strict {k n : Nat} {w : List Int} (hn : w.Nodup) (h : Reach (fun a b => b ≤ a) k w n) : Reach Gt k w n := by
  obtain ⟨c, e, g, u⟩ := h
  refine ⟨c, e, ?_, u⟩
  unfold List.Nodup at hn
  rw [← e, List.pairwise_map] at hn
  unfold Good at *
  exact List.Pairwise.imp₂ (fun p q h1 h2 e l => by
    have := h2 e l
    simp only [Gt] at *
    omega) hn g
theorem reach_weak {k n : Nat} {w : List Int} (h : Reach Gt k w n) : Reach (fun a b => b ≤ a) k w n := by
  obtain ⟨c, e, g, u⟩ := h
  exact ⟨c, e, g.imp fun h e l => by have := h e l; simp only [Gt] at this; omega, u⟩
theorem rev_shape {w : List Int} (hn : w.Nodup) (k : Nat) : ((shape (P w.reverse)).take k).sum = ((shape (P w)).map (min k)).sum := by
  have h1 := greene_gt (reach_strict hn (by simpa using reach_rev (greene_le' w.reverse k)))
  have h2 := greene_le (reach_rev (reach_weak (greene_gt' w k)))
  omega
/-- backward, N less each number -/
def back (N : Int) (w : List Int) : List Int := (w.map fun a => N - a).reverse
theorem back_back (N : Int) (w : List Int) : back N (back N w) = w := by
  unfold back
  rw [List.map_reverse, List.reverse_reverse, List.map_map]
  have : (fun a : Int => N - a) ∘ (fun a : Int => N - a) = id := by
    funext a
    simp only [Function.comp, id]
    omega
  rw [this, List.map_id]
theorem back_rise {N : Int} {w : List Int} {k n : Nat} (h : Reach Le k w n) : Reach Le k (back N w) n := by
  have h1 : Reach (fun a b => b ≤ a) k (w.map fun a => N - a) n := reach_map (fun a => N - a) (fun a b (q : a ≤ b) => by omega) h
  exact reach_rev h1
theorem back_fall {N : Int} {w : List Int} {k n : Nat} (h : Reach Gt k w n) : Reach Gt k (back N w) n := by
  have h1 : Reach (fun a b => a < b) k (w.map fun a => N - a) n := reach_map (fun a => N - a) (fun a b (q : b < a) => by omega) h
  exact reach_rev h1
theorem back_shape (N : Int) (w : List Int) : shape (P (back N w)) = shape (P w) :=
  shape_of_rise fun k n => ⟨fun h => by have := back_rise (N := N) h; rwa [back_back] at this, back_rise⟩
theorem back_K1 {N : Int} {a b : List Int} (h : K1 a b) : K1 (back N a) (back N b) := by
  cases h with
  | yxz u v h1 h2 =>
    rename_i x y z
    have := K1.xzy (x := N - z) (y := N - y) (z := N - x) (back N v) (back N u) (by omega) (by omega)
    simpa [back] using this
  | xzy u v h1 h2 =>
    rename_i x y z
    have := K1.yxz (x := N - z) (y := N - y) (z := N - x) (back N v) (back N u) (by omega) (by omega)
    simpa [back] using this
theorem back_Kn {N : Int} {a b : List Int} (h : Kn a b) : Kn (back N a) (back N b) := by
  induction h with
  | refl => exact .refl _
  | fwd h _ ih => exact .fwd (back_K1 h) ih
  | bwd h _ ih => exact .bwd (back_K1 h) ih
def over (N : Int) (t : T) : T := P (back N (reading t))
theorem over_P (N : Int) (w : List Int) : over N (P w) = P (back N w) := (knuth_P (back_Kn (kn_P w))).symm
theorem over_over (N : Int) (w : List Int) : over N (over N (P w)) = P w := by rw [over_P, over_P, back_back]
/-! the other way round -/
theorem perm_lift {α β : Type} (f : α → β) {a b : List β} (h : a.Perm b) : ∀ c : List α, c.map f = a → ∃ d : List α, d.Perm c ∧ d.map f = b := by
  induction h with
  | nil => intro c h; exact ⟨c, .refl _, h⟩
  | cons x _ ih =>
    intro c h
    obtain ⟨y, c', rfl, rfl, h2⟩ := List.map_eq_cons_iff.mp h
    obtain ⟨d, h3, h4⟩ := ih c' h2
    exact ⟨y :: d, h3.cons y, by rw [List.map_cons, h4]⟩
  | swap x y l =>
    intro c h
    obtain ⟨p, c', rfl, rfl, h2⟩ := List.map_eq_cons_iff.mp h
    obtain ⟨q, c'', rfl, rfl, h3⟩ := List.map_eq_cons_iff.mp h2
    exact ⟨q :: p :: c'', .swap _ _ _, by simp [h3]⟩
  | trans _ _ i1 i2 =>
    intro c h
    obtain ⟨d, h1, h2⟩ := i1 c h
    obtain ⟨d', h3, h4⟩ := i2 d h2
    exact ⟨d', h3.trans h1, h4⟩
theorem pw_all {α : Type} {R : α → α → Prop} {l : List α} (hs : ∀ a b, R a b → R b a) (hr : ∀ a, R a a) (h : l.Pairwise R) : ∀ a, a ∈ l → ∀ b, b ∈ l → R a b := by
  induction l with
  | nil => intro a ha; cases ha
  | cons x l ih =>
    rw [List.pairwise_cons] at h
    intro a ha b hb
    rcases List.mem_cons.mp ha with e1 | ha' <;> rcases List.mem_cons.mp hb with e2 | hb'
    · rw [e1, e2]; exact hr _
    · rw [e1]; exact h.1 b hb'
    · rw [e2]; exact hs _ _ (h.1 a ha')
    · exact ih h.2 a ha' b hb'
theorem turn_reach {A B : List (Int × Int)} {k n : Nat} (hp : A.Perm B) (hA : A.Pairwise fun p q => p.1 < q.1) (hB : B.Pairwise fun p q => p.2 < q.2) (h : Reach Le k (A.map Prod.snd) n) : Reach Le k (B.map Prod.fst) n := by
  obtain ⟨c, e, g, u⟩ := h
  have hc : c.length = A.length := by have := congrArg List.length e; simpa using this
  have hz : (A.zip c).map Prod.fst = A := List.map_fst_zip (by omega)
  have hz2 : (A.zip c).map Prod.snd = c := List.map_snd_zip (by omega)
  have hsnd : ∀ p, p ∈ A.zip c → p.1.2 = p.2.1 := by
    have key : ∀ (A : List (Int × Int)) (c : List (Int × Nat)), c.map Prod.fst = A.map Prod.snd → ∀ p, p ∈ A.zip c → p.1.2 = p.2.1 := by
      intro A
      induction A with
      | nil => intro c _ p hp; simp at hp
      | cons a A ih =>
        intro c hc p hp
        cases c with
        | nil => simp at hp
        | cons b c =>
          rw [List.map_cons, List.map_cons] at hc
          rw [List.zip_cons_cons] at hp
          rcases List.mem_cons.mp hp with rfl | hp
          · exact (List.cons.inj hc).1.symm
          · exact ih c (List.cons.inj hc).2 p hp
    exact key A c e
  obtain ⟨d, d1, d2⟩ := perm_lift Prod.fst hp (A.zip c) hz
  have hpw := pw_zip hA g
  have hsym := pw_all (R := fun x y : (Int × Int) × (Int × Nat) => (x.1.1 < y.1.1 → x.2.2 = y.2.2 → x.2.2 < k → x.2.1 ≤ y.2.1) ∧ (y.1.1 < x.1.1 → y.2.2 = x.2.2 → y.2.2 < k → y.2.1 ≤ x.2.1))
    (fun a b h => ⟨h.2, h.1⟩) (fun a => ⟨fun h => absurd h (by omega), fun h => absurd h (by omega)⟩) (hpw.imp fun {p q} h => ⟨fun _ e l => h.2 e l, fun z => absurd h.1 (by omega)⟩)
  refine ⟨d.map fun x => (x.1.1, x.2.2), by rw [← d2]; simp [Function.comp_def], ?_, ?_⟩
  · unfold Good
    rw [List.pairwise_map]
    have hd : d.Pairwise fun p q => p.1.2 < q.1.2 := by
      rw [← d2, List.pairwise_map] at hB
      exact hB
    refine hd.imp_of_mem fun {p q} hp' hq' hlt e l => ?_
    have mp := d1.mem_iff.mp hp'
    have mq := d1.mem_iff.mp hq'
    have r := hsym p mp q mq
    have s1 := hsnd p mp
    have s2 := hsnd q mq
    simp only [Le] at *
    rcases Int.lt_or_le q.1.1 p.1.1 with z | z
    · have := r.2 z e.symm (by omega)
      omega
    · exact z
  · rw [← u]
    unfold used
    rw [List.countP_map, List.Perm.countP_eq _ d1]
    rw [← hz2, List.countP_map, hz2]
    rfl
theorem enum_fst : ∀ (w : List Int) (k : Int), (enum k w).map Prod.snd = w
  | [], _ => rfl
  | a :: w, k => by rw [enum, List.map_cons, enum_fst w (k + 1)]
theorem enum_mem : ∀ (w : List Int) (k : Int) (p : Int × Int), p ∈ enum k w ↔ ∃ i : Nat, w[i]? = some p.2 ∧ p.1 = k + i
  | [], _, p => by simp [enum]
  | a :: w, k, p => by
    rw [enum, List.mem_cons, enum_mem w (k + 1) p]
    constructor
    · rintro (rfl | ⟨i, h1, h2⟩)
      · exact ⟨0, by simp, by simp⟩
      · exact ⟨i + 1, by simpa using h1, by omega⟩
    · rintro ⟨i, h1, h2⟩
      cases i with
      | zero =>
        refine .inl (Prod.ext ?_ ?_)
        · simpa using h2
        · simpa using h1.symm
      | succ i => exact .inr ⟨i, by simpa using h1, by omega⟩
theorem enum_pw : ∀ (w : List Int) (k : Int), (enum k w).Pairwise fun p q => p.1 < q.1
  | [], _ => List.Pairwise.nil
  | a :: w, k => by
    rw [enum, List.pairwise_cons]
    refine ⟨fun q hq => ?_, enum_pw w (k + 1)⟩
    obtain ⟨i, _, h⟩ := (enum_mem w (k + 1) q).mp hq
    simp only
    omega
theorem ups_pw : ∀ n, (ups n).Pairwise (· < ·)
  | 0 => by simp [ups]
  | n + 1 => by
    rw [ups_succ, List.pairwise_append]
    refine ⟨ups_pw n, by simp, fun a ha b hb => ?_⟩
    have := ups_mem ha
    simp at hb
    omega
theorem mem_ups {n : Nat} {a : Int} : a ∈ ups n ↔ 1 ≤ a ∧ a ≤ n := by
  refine ⟨ups_mem, fun ⟨h1, h2⟩ => ?_⟩
  unfold ups
  rw [List.mem_map]
  exact ⟨(a - 1).toNat, by rw [List.mem_range]; omega, by omega⟩
theorem ups_length (n : Nat) : (ups n).length = n := by simp [ups]
/-- which number stands where -/
def inv (w : List Int) : List Int := (ups w.length).map fun v => (w.idxOf v : Int) + 1
theorem inv_length (w : List Int) : (inv w).length = w.length := by simp [inv, ups_length]
theorem turn_perm {w : List Int} (hw : w.Perm (ups w.length)) (m : Int) :
    (enum 1 (w.take m.toNat)).Perm (((ups w.length).map fun v => ((w.idxOf v : Int) + 1, v)).filter fun p => decide (p.1 ≤ m)) := by
  have nd : w.Nodup := hw.nodup_iff.mpr ((ups_pw _).imp fun h => by omega)
  rw [List.perm_ext_iff_of_nodup]
  · rintro ⟨p, v⟩
    rw [enum_mem, List.mem_filter, List.mem_map]
    simp only [decide_eq_true_eq]
    constructor
    · rintro ⟨i, h1, h2⟩
      rw [List.getElem?_take] at h1
      split at h1
      · rename_i hi
        obtain ⟨h3, h4⟩ := List.getElem?_eq_some_iff.mp h1
        have h5 : w.idxOf v = i := by rw [← h4]; exact nd.idxOf_getElem i h3
        refine ⟨⟨v, hw.mem_iff.mp (by rw [← h4]; exact List.getElem_mem h3), ?_⟩, by omega⟩
        rw [h5, h2]
        congr 1
        omega
      · cases h1
    · rintro ⟨⟨v', h1, h2⟩, h3⟩
      cases h2
      have h4 := hw.mem_iff.mpr h1
      have h5 := List.idxOf_lt_length_of_mem h4
      refine ⟨w.idxOf v, ?_, by omega⟩
      rw [List.getElem?_take, if_pos (by omega), List.getElem?_eq_getElem h5, List.getElem_idxOf]
  · exact (enum_pw _ _).imp fun {p q} h e => by rw [e] at h; omega
  · unfold List.Nodup
    refine List.Pairwise.filter _ ?_
    rw [List.pairwise_map]
    exact (ups_pw _).imp fun {a b} h e => by
      have := (Prod.mk.inj e).2
      omega
theorem turn_reach2 {A B : List (Int × Int)} {k n : Nat} (hp : A.Perm B) (hA : A.Pairwise fun p q => p.1 < q.1) (hB : B.Pairwise fun p q => p.2 < q.2) (h : Reach Le k (B.map Prod.fst) n) : Reach Le k (A.map Prod.snd) n := by
  have h1 := turn_reach (A := B.map Prod.swap) (B := A.map Prod.swap) (k := k) (n := n) (hp.symm.map _) (by rw [List.pairwise_map]; exact hB) (by rw [List.pairwise_map]; exact hA) (by simpa [Function.comp_def] using h)
  simpa [Function.comp_def] using h1
theorem P_inv {w : List Int} (hw : w.Perm (ups w.length)) : P (inv w) = (PQ w).2 := by
  refine tab_ext (tab_P _) (Q_facts w).1 fun m => ?_
  rw [← P_cut, Q_shape]
  have e : cutR m (inv w) = (((ups w.length).map fun v => ((w.idxOf v : Int) + 1, v)).filter fun p => decide (p.1 ≤ m)).map Prod.fst := by
    unfold cutR inv
    rw [List.filter_map, List.filter_map, List.map_map]
    rfl
  have pA := enum_pw (w.take m.toNat) 1
  have pB : (((ups w.length).map fun v => ((w.idxOf v : Int) + 1, v)).filter fun p => decide (p.1 ≤ m)).Pairwise fun p q => p.2 < q.2 := by
    refine List.Pairwise.filter _ ?_
    rw [List.pairwise_map]
    exact ups_pw _
  rw [e]
  refine shape_of_rise fun k n => ⟨fun h => ?_, fun h => ?_⟩
  · have := turn_reach2 (turn_perm hw m) pA pB h
    rwa [enum_fst] at this
  · exact turn_reach (turn_perm hw m) pA pB (by rw [enum_fst]; exact h)
theorem inv_perm {w : List Int} (hw : w.Perm (ups w.length)) : (inv w).Perm (ups (inv w).length) := by
  have nd : w.Nodup := hw.nodup_iff.mpr ((ups_pw _).imp fun h => by omega)
  rw [inv_length, List.perm_ext_iff_of_nodup]
  · intro a
    unfold inv
    rw [List.mem_map, mem_ups]
    constructor
    · rintro ⟨v, h1, rfl⟩
      have := List.idxOf_lt_length_of_mem (hw.mem_iff.mpr h1)
      omega
    · rintro ⟨h1, h2⟩
      have hi : (a - 1).toNat < w.length := by omega
      exact ⟨w[(a - 1).toNat], hw.mem_iff.mp (List.getElem_mem hi), by rw [nd.idxOf_getElem]; omega⟩
  · unfold inv List.Nodup
    rw [List.pairwise_map]
    refine (ups_pw _).imp_of_mem fun {a b} ha hb h e => ?_
    have h1 := List.idxOf_lt_length_of_mem (hw.mem_iff.mpr ha)
    have h2 := List.idxOf_lt_length_of_mem (hw.mem_iff.mpr hb)
    have e' : w.idxOf a = w.idxOf b := by omega
    have g1 := List.getElem_idxOf h1
    have g2 := List.getElem_idxOf h2
    simp only [e'] at g1
    omega
  · exact (ups_pw _).imp fun h => by omega
theorem ups_get {n i : Nat} (h : i < (ups n).length) : (ups n)[i] = (i : Int) + 1 := by simp [ups]
theorem inv_inv {w : List Int} (hw : w.Perm (ups w.length)) : inv (inv w) = w := by
  have nd : w.Nodup := hw.nodup_iff.mpr ((ups_pw _).imp fun h => by omega)
  have nd2 : (inv w).Nodup := (inv_perm hw).nodup_iff.mpr ((ups_pw _).imp fun h => by omega)
  apply List.ext_getElem
  · rw [inv_length, inv_length]
  · intro i h1 h2
    have hm : w[i] ∈ ups w.length := hw.mem_iff.mp (List.getElem_mem h2)
    have hb := ups_mem hm
    have hj : (w[i] - 1).toNat < (inv w).length := by rw [inv_length]; omega
    have e1 : (inv w)[(w[i] - 1).toNat] = (i : Int) + 1 := by
      simp only [inv, List.getElem_map]
      rw [ups_get (by rw [ups_length]; omega)]
      have : ((w[i] - 1).toNat : Int) + 1 = w[i] := by omega
      rw [this, nd.idxOf_getElem]
    have e2 : (inv (inv w))[i] = ((inv w).idxOf ((i : Int) + 1) : Int) + 1 := by
      simp only [inv, List.getElem_map]
      rw [ups_get (by rw [ups_length]; simp [ups_length]; omega)]
    rw [e2, ← e1, nd2.idxOf_getElem]
    omega
theorem PQ_inv {w : List Int} (hw : w.Perm (ups w.length)) : PQ (inv w) = ((PQ w).2, (PQ w).1) := by
  refine Prod.ext ?_ ?_
  · rw [PQ_fst]; exact P_inv hw
  · have := P_inv (inv_perm hw)
    rw [inv_inv hw] at this
    show (PQ (inv w)).2 = (PQ w).1
    rw [← this, PQ_fst]
/-! other numbers that rise alike -/
section
variable (f : Int → Int) (S : Int → Prop) (hf : ∀ a b, S a → S b → (a < b ↔ f a < f b))
include hf
theorem rowIns_map : ∀ {r : Row} {x : Int}, S x → (∀ a, a ∈ r → S a) → rowIns (r.map f) (f x) = ((rowIns r x).1.map f, (rowIns r x).2.map f)
  | [], x, _, _ => rfl
  | a :: r, x, sx, sr => by
    have hx := hf x a sx (sr a (by simp))
    have ih := rowIns_map (r := r) (x := x) sx fun b hb => sr b (by simp [hb])
    rw [List.map_cons]
    by_cases c : x < a
    · rw [rowIns_gt (hx.mp c), rowIns_gt c]
      rfl
    · rw [rowIns_le (show f a ≤ f x by
        rcases Int.lt_or_le (f x) (f a) with z | z
        · exact absurd (hx.mpr z) c
        · exact z), rowIns_le (show a ≤ x by omega), ih]
      rfl
theorem ins_map : ∀ {t : T} {x : Int}, S x → (∀ r, r ∈ t → ∀ a, a ∈ r → S a) → ins (t.map fun r => r.map f) (f x) = ((ins t x).1.map fun r => r.map f, (ins t x).2)
  | [], x, _, _ => rfl
  | r :: rs, x, sx, st => by
    have h := rowIns_map (r := r) (x := x) f S hf sx (st r (by simp))
    rw [List.map_cons]
    cases e : (rowIns r x).2 with
    | none =>
      rw [ins_none e, ins_none (by rw [h, e]; rfl), h]
      rfl
    | some y =>
      have sy : S y := by
        obtain ⟨l, m, e1, _⟩ := rowIns_some e
        exact st r (by simp) y (by rw [e1]; simp)
      have ih := ins_map (t := rs) (x := y) sy fun q hq => st q (by simp [hq])
      rw [ins_some e, ins_some (y := f y) (by rw [h, e]; rfl), h, ih]
      rfl
theorem P_map {w : List Int} (hw : ∀ a, a ∈ w → S a) : P (w.map f) = (P w).map fun r => r.map f := by
  have key : ∀ w : List Int, (∀ a, a ∈ w → S a) → P (w.map f) = (P w).map fun r => r.map f := by
    refine snoc_ind (fun _ => rfl) fun w x ih h => ?_
    have hw := ih fun a ha => h a (by simp [ha])
    rw [List.map_append, List.map_singleton, P_snoc, P_snoc, hw, ins_map f S hf (h x (by simp))]
    intro r hr a ha
    have hm : a ∈ entries (P w) := List.mem_flatten.mpr ⟨r, hr, ha⟩
    exact h a (by simp [(entries_P w).mem_iff.mp hm])
  exact key w hw
end
end RSK
end

section
set_option linter.all false
namespace RSK
/-! all words that come by one small exchange -/
def sw3 (a b c : Int) : List (List Int) := (if (b < a ∧ a ≤ c) ∨ (c < a ∧ a ≤ b) then [[a, c, b]] else []) ++ (if (a ≤ c ∧ c < b) ∨ (b ≤ c ∧ c < a) then [[b, a, c]] else [])
def exGo : List Int → List Int → List (List Int)
  | u, a :: b :: c :: v => (sw3 a b c).map (fun t => u ++ t ++ v) ++ exGo (u ++ [a]) (b :: c :: v)
  | _, _ => []
def exs (w : List Int) : List (List Int) := exGo [] w
def Near (v w : List Int) : Prop := K1 v w ∨ K1 w v
theorem Near.symm {v w : List Int} (h : Near v w) : Near w v := Or.symm h
theorem Near.kn {v w : List Int} (h : Near v w) : Kn v w := by
  rcases h with h | h
  · exact .one h
  · exact (Kn.one h).symm
theorem sw3_near {a b c : Int} {t : List Int} (u v : List Int) (h : t ∈ sw3 a b c) : Near (u ++ a :: b :: c :: v) (u ++ t ++ v) := by
  unfold sw3 at h
  rw [List.mem_append] at h
  rcases h with h | h
  · split at h
    · rename_i hc
      rw [List.mem_singleton] at h
      subst h
      rcases hc with ⟨h1, h2⟩ | ⟨h1, h2⟩
      · exact .inl (by simpa using K1.yxz u v h1 h2)
      · exact .inr (by simpa using K1.yxz u v h1 h2)
    · cases h
  · split at h
    · rename_i hc
      rw [List.mem_singleton] at h
      subst h
      rcases hc with ⟨h1, h2⟩ | ⟨h1, h2⟩
      · exact .inl (by simpa using K1.xzy u v h1 h2)
      · exact .inr (by simpa using K1.xzy u v h1 h2)
    · cases h
theorem exGo_near : ∀ (r u : List Int) {w : List Int}, w ∈ exGo u r → Near (u ++ r) w
  | [], _, _, h => by cases h
  | [_], _, _, h => by cases h
  | [_, _], _, _, h => by cases h
  | a :: b :: c :: v, u, w, h => by
    rw [exGo, List.mem_append] at h
    rcases h with h | h
    · rw [List.mem_map] at h
      obtain ⟨t, ht, rfl⟩ := h
      exact sw3_near u v ht
    · have := exGo_near (b :: c :: v) (u ++ [a]) h
      simpa using this
theorem exs_near {v w : List Int} (h : w ∈ exs v) : Near v w := by simpa using exGo_near v [] h
theorem exGo_mem : ∀ (s u : List Int) (a b c : Int) (v t : List Int), t ∈ sw3 a b c → u ++ s ++ t ++ v ∈ exGo u (s ++ a :: b :: c :: v)
  | [], u, a, b, c, v, t, h => by
    rw [List.nil_append, exGo, List.mem_append]
    exact .inl (List.mem_map.mpr ⟨t, h, by simp⟩)
  | [x], u, a, b, c, v, t, h => by
    have := exGo_mem [] (u ++ [x]) a b c v t h
    show _ ∈ exGo u (x :: a :: b :: c :: v)
    rw [exGo, List.mem_append]
    exact .inr (by simpa using this)
  | [x, y], u, a, b, c, v, t, h => by
    have := exGo_mem [y] (u ++ [x]) a b c v t h
    show _ ∈ exGo u (x :: y :: a :: b :: c :: v)
    rw [exGo, List.mem_append]
    exact .inr (by simpa using this)
  | x :: y :: z :: s, u, a, b, c, v, t, h => by
    have := exGo_mem (y :: z :: s) (u ++ [x]) a b c v t h
    show _ ∈ exGo u (x :: y :: z :: (s ++ a :: b :: c :: v))
    rw [exGo, List.mem_append]
    exact .inr (by simpa using this)
theorem exs_of {v w : List Int} (h : Near v w) : w ∈ exs v := by
  rcases h with h | h
  · cases h with
    | yxz u s h1 h2 =>
      rename_i x y z
      have := exGo_mem u [] y x z s [y, z, x] (by unfold sw3; rw [if_pos (.inl ⟨h1, h2⟩)]; simp)
      simpa [exs] using this
    | xzy u s h1 h2 =>
      rename_i x y z
      have := exGo_mem u [] x z y s [z, x, y] (by unfold sw3; rw [List.mem_append, if_pos (show (x ≤ y ∧ y < z) ∨ (z ≤ y ∧ y < x) from .inl ⟨h1, h2⟩)]; simp)
      simpa [exs] using this
  · cases h with
    | yxz u s h1 h2 =>
      rename_i x y z
      have := exGo_mem u [] y z x s [y, x, z] (by unfold sw3; rw [if_pos (.inr ⟨h1, h2⟩)]; simp)
      simpa [exs] using this
    | xzy u s h1 h2 =>
      rename_i x y z
      have := exGo_mem u [] z x y s [x, z, y] (by unfold sw3; rw [List.mem_append, if_pos (show (z ≤ y ∧ y < x) ∨ (x ≤ y ∧ y < z) from .inr ⟨h1, h2⟩)]; simp)
      simpa [exs] using this
theorem exs_iff {v w : List Int} : w ∈ exs v ↔ Near v w := ⟨exs_near, exs_of⟩
theorem K1_ne {v w : List Int} (h : K1 v w) : v ≠ w := by
  intro e
  cases h with
  | yxz u s h1 h2 =>
    rename_i x y z
    have := List.append_cancel_left e
    simp at this
    omega
  | xzy u s h1 h2 =>
    rename_i x y z
    have := List.append_cancel_left e
    simp at this
    omega
theorem Near.ne {v w : List Int} (h : Near v w) : v ≠ w := by
  rcases h with h | h
  · exact K1_ne h
  · exact (K1_ne h).symm
theorem K1_perm {v w : List Int} (h : K1 v w) : v.Perm w := by
  cases h with
  | yxz u s h1 h2 => exact (((List.Perm.swap _ _ _).cons _).append_left u)
  | xzy u s h1 h2 => exact ((List.Perm.swap _ _ _).append_left u)
theorem Near.perm {v w : List Int} (h : Near v w) : v.Perm w := by
  rcases h with h | h
  · exact K1_perm h
  · exact (K1_perm h).symm
theorem sw3_len (a b c : Int) : (sw3 a b c).length ≤ 2 := by
  unfold sw3
  rw [List.length_append]
  split <;> split <;> simp
theorem exGo_len : ∀ (r u : List Int), (exGo u r).length ≤ 2 * r.length
  | [], _ => by simp [exGo]
  | [_], _ => by simp [exGo]
  | [_, _], _ => by simp [exGo]
  | a :: b :: c :: v, u => by
    have := exGo_len (b :: c :: v) (u ++ [a])
    have := sw3_len a b c
    rw [exGo, List.length_append, List.length_map]
    simp only [List.length_cons] at *
    omega
theorem exs_len (w : List Int) : (exs w).length ≤ 2 * w.length := exGo_len w []
/-- what one place gives -/
def exAt (w : List Int) (i : Nat) : List (List Int) := (sw3 (w.getD i 0) (w.getD (i + 1) 0) (w.getD (i + 2) 0)).map fun t => w.take i ++ t ++ w.drop (i + 3)
theorem exGo_at : ∀ (r u : List Int), exGo u r = (List.range (r.length - 2)).flatMap fun i => exAt (u ++ r) (u.length + i)
  | [], _ => rfl
  | [_], _ => rfl
  | [_, _], _ => rfl
  | a :: b :: c :: v, u => by
    have ih := exGo_at (b :: c :: v) (u ++ [a])
    rw [exGo, ih]
    have e1 : (a :: b :: c :: v).length - 2 = ((b :: c :: v).length - 2) + 1 := by simp
    rw [e1, List.range_succ_eq_map, List.flatMap_cons, List.flatMap_map]
    congr 1
    · unfold exAt
      have g0 : (u ++ a :: b :: c :: v).getD (u.length + 0) 0 = a := by simp [List.getD_eq_getElem?_getD]
      have g1 : (u ++ a :: b :: c :: v).getD (u.length + 0 + 1) 0 = b := by
        rw [List.getD_eq_getElem?_getD, List.getElem?_append_right (by omega)]
        have : u.length + 0 + 1 - u.length = 1 := by omega
        rw [this]; rfl
      have g2 : (u ++ a :: b :: c :: v).getD (u.length + 0 + 2) 0 = c := by
        rw [List.getD_eq_getElem?_getD, List.getElem?_append_right (by omega)]
        have : u.length + 0 + 2 - u.length = 2 := by omega
        rw [this]; rfl
      have g3 : (u ++ a :: b :: c :: v).take (u.length + 0) = u := by simp
      have g4 : (u ++ a :: b :: c :: v).drop (u.length + 0 + 3) = v := by
        rw [show u ++ a :: b :: c :: v = (u ++ [a, b, c]) ++ v by simp]
        exact List.drop_left' (by simp)
      rw [g0, g1, g2, g3, g4]
    · congr 1
      funext i
      simp only [List.append_assoc, List.singleton_append, List.length_append, List.length_singleton]
      congr 1
      omega
theorem exs_at (w : List Int) : exs w = (List.range (w.length - 2)).flatMap (exAt w) := by
  have := exGo_at w []
  simpa [exs] using this
end RSK
end

section
set_option linter.all false
namespace RSK
/-! how many places k rising, k falling parts have -/
def riseV (w : List Int) (k : Nat) : Nat := ((shape (P w)).take k).sum
def fallV (w : List Int) (k : Nat) : Nat := ((shape (P w)).map (min k)).sum
theorem take_sum_succ : ∀ (s : List Nat) (k : Nat), (s.take (k + 1)).sum = (s.take k).sum + s.getD k 0
  | [], _ => by simp
  | a :: s, 0 => by simp
  | a :: s, k + 1 => by
    have := take_sum_succ s k
    simp only [List.take_succ_cons, List.sum_cons, this, List.getD_cons_succ]
    omega
theorem getD_down : ∀ {s : List Nat} (k : Nat), Part s → s.getD (k + 1) 0 ≤ s.getD k 0
  | [], _, _ => by simp
  | a :: s, 0, h => by
    rw [List.getD_cons_succ, List.getD_cons_zero]
    exact getD_le (k := 0) h
  | a :: s, k + 1, h => by
    rw [List.getD_cons_succ, List.getD_cons_succ]
    exact getD_down k h.2.2
theorem riseV_step (w : List Int) (k : Nat) : riseV w (k + 1) = riseV w k + (shape (P w)).getD k 0 := take_sum_succ _ k
theorem fall_step : ∀ (s : List Nat) (k : Nat), (s.map (min (k + 1))).sum = (s.map (min k)).sum + s.countP fun a => decide (k < a)
  | [], _ => rfl
  | a :: s, k => by
    have := fall_step s k
    rw [List.map_cons, List.map_cons, List.sum_cons, List.sum_cons, this, List.countP_cons]
    by_cases h : k < a
    · simp [h]; omega
    · simp [h]; omega
theorem count_down (s : List Nat) (k : Nat) : (s.countP fun a => decide (k + 1 < a)) ≤ s.countP fun a => decide (k < a) :=
  List.countP_mono_left fun a _ h => by simp at h ⊢; omega
theorem riseV_zero (w : List Int) : riseV w 0 = 0 := by simp [riseV]
theorem fallV_zero (w : List Int) : fallV w 0 = 0 := by
  unfold fallV
  induction shape (P w) with
  | nil => rfl
  | cons a s ih => rw [List.map_cons, List.sum_cons, ih]; omega
theorem riseV_conc (w : List Int) (k : Nat) : riseV w k ≤ riseV w (k + 1) ∧ riseV w (k + 2) + riseV w k ≤ 2 * riseV w (k + 1) := by
  have h1 := riseV_step w k
  have h2 : riseV w (k + 2) = riseV w (k + 1) + (shape (P w)).getD (k + 1) 0 := riseV_step w (k + 1)
  have h3 := getD_down k (part_shape (tab_P w))
  omega
theorem fallV_conc (w : List Int) (k : Nat) : fallV w k ≤ fallV w (k + 1) ∧ fallV w (k + 2) + fallV w k ≤ 2 * fallV w (k + 1) := by
  have h1 : fallV w (k + 1) = fallV w k + _ := fall_step (shape (P w)) k
  have h2 : fallV w (k + 2) = fallV w (k + 1) + _ := fall_step (shape (P w)) (k + 1)
  have h3 := count_down (shape (P w)) k
  omega
theorem sum_size (w : List Int) : (shape (P w)).sum = w.length := size_P w
theorem riseV_all (w : List Int) {k : Nat} (h : w.length ≤ k) : riseV w k = w.length := by
  unfold riseV
  rw [List.take_of_length_le, sum_size]
  have hl : ∀ {t : T}, Tab t → t.length ≤ size t := by
    intro t
    induction t with
    | nil => intro _; exact Nat.zero_le _
    | cons r t ih =>
      intro ht
      have h1 := List.length_pos_iff.mpr ht.1
      have h2 := ih ht.2.2.2
      have h3 : size (r :: t) = r.length + size t := by simp [size, shape]
      rw [List.length_cons]
      omega
  have := hl (tab_P w)
  rw [size_P] at this
  simp [shape]
  omega
theorem fallV_all (w : List Int) {k : Nat} (h : w.length ≤ k) : fallV w k = w.length := by
  unfold fallV
  rw [min_id, sum_size]
  intro b hb
  have := mem_le_sum hb
  rw [sum_size] at this
  omega
/-! one number left out -/
theorem reach_more {R : Int → Int → Prop} {k n : Nat} {u v : List Int} (x : Int) (h : Reach R k (u ++ v) n) : Reach R k (u ++ x :: v) n := by
  obtain ⟨c, e, g, hu⟩ := h
  obtain ⟨cu, cv, e1, e2, e3⟩ := List.map_eq_append_iff.mp e
  subst e1
  refine ⟨cu ++ (x, k) :: cv, by rw [List.map_append, List.map_cons, e2, e3], ?_, ?_⟩
  · unfold Good at *
    rw [List.pairwise_append] at g ⊢
    refine ⟨g.1, List.pairwise_cons.mpr ⟨fun q _ _ l => ?_, g.2.1⟩, fun p hp q hq e l => ?_⟩
    · simp only at l; omega
    · rcases List.mem_cons.mp hq with rfl | hq
      · simp only at e; omega
      · exact g.2.2 p hp q hq e l
  · rw [← hu]
    unfold used
    rw [List.countP_append, List.countP_append, List.countP_cons]
    simp
theorem reach_less {R : Int → Int → Prop} {k n : Nat} {u v : List Int} {x : Int} (h : Reach R k (u ++ x :: v) n) : ∃ m, Reach R k (u ++ v) m ∧ n ≤ m + 1 := by
  obtain ⟨c, e, g, hu⟩ := h
  obtain ⟨cu, c1, e1, e2, e3⟩ := List.map_eq_append_iff.mp e
  obtain ⟨p, cv, e4, e5, e6⟩ := List.map_eq_cons_iff.mp e3
  subst e1 e4
  refine ⟨used k (cu ++ cv), ⟨cu ++ cv, by rw [List.map_append, e2, e6], ?_, rfl⟩, ?_⟩
  · unfold Good at *
    exact g.sublist (List.Sublist.append_left (List.sublist_cons_self _ _) _)
  · rw [← hu]
    unfold used
    rw [List.countP_append, List.countP_append, List.countP_cons]
    split <;> omega
theorem rise_less {u v : List Int} {x : Int} (k : Nat) : riseV (u ++ v) k ≤ riseV (u ++ x :: v) k ∧ riseV (u ++ x :: v) k ≤ riseV (u ++ v) k + 1 := by
  refine ⟨greene_le (reach_more x (greene_le' (u ++ v) k)), ?_⟩
  obtain ⟨m, h1, h2⟩ := reach_less (greene_le' (u ++ x :: v) k)
  have := greene_le h1
  unfold riseV
  omega
theorem fall_less {u v : List Int} {x : Int} (k : Nat) : fallV (u ++ v) k ≤ fallV (u ++ x :: v) k ∧ fallV (u ++ x :: v) k ≤ fallV (u ++ v) k + 1 := by
  refine ⟨greene_gt (reach_more x (greene_gt' (u ++ v) k)), ?_⟩
  obtain ⟨m, h1, h2⟩ := reach_less (greene_gt' (u ++ x :: v) k)
  have := greene_gt h1
  unfold fallV
  omega
end RSK
end

section
set_option linter.all false
namespace RSK
/-! longest chains, and parts without such -/
def maxN (l : List Nat) : Nat := l.foldl max 0
theorem foldl_max : ∀ (l : List Nat) (a : Nat), l.foldl max a = max a (maxN l)
  | [], a => by simp [maxN]
  | b :: l, a => by
    unfold maxN
    rw [List.foldl_cons, List.foldl_cons, foldl_max l (max a b), foldl_max l (max 0 b)]
    omega
theorem maxN_cons (a : Nat) (l : List Nat) : maxN (a :: l) = max a (maxN l) := by
  show l.foldl max (max 0 a) = _
  rw [foldl_max]
  omega
theorem le_maxN : ∀ {l : List Nat} {a : Nat}, a ∈ l → a ≤ maxN l
  | b :: l, a, h => by
    rw [maxN_cons]
    rcases List.mem_cons.mp h with rfl | h
    · omega
    · have := le_maxN h; omega
theorem maxN_mem : ∀ {l : List Nat}, l ≠ [] → maxN l ∈ l
  | [], h => absurd rfl h
  | [a], _ => by rw [maxN_cons]; simp [maxN]
  | a :: b :: l, _ => by
    have := maxN_mem (l := b :: l) (by simp)
    rw [maxN_cons]
    rcases Nat.le_total a (maxN (b :: l)) with h | h
    · rw [Nat.max_eq_right h]; exact List.mem_cons_of_mem _ this
    · rw [Nat.max_eq_left h]; simp
theorem maxN_le {l : List Nat} {m : Nat} (h : ∀ a, a ∈ l → a ≤ m) : maxN l ≤ m := by
  by_cases h0 : l = []
  · subst h0; exact Nat.zero_le _
  · exact h _ (maxN_mem h0)
section
variable (C : Int → Int → Bool)
def best1 (ps : List (Int × Nat)) (x : Int) : Nat := 1 + maxN ((ps.filter fun p => C p.1 x).map (·.2))
def bests (r : List Int) : List (Int × Nat) := r.foldl (fun ps x => ps ++ [(x, best1 C ps x)]) []
def longest (r : List Int) : Nat := maxN ((bests C r).map (·.2))
theorem bests_snoc (r : List Int) (x : Int) : bests C (r ++ [x]) = bests C r ++ [(x, best1 C (bests C r) x)] := by
  unfold bests
  rw [List.foldl_append]
  rfl
theorem bests_fst (r : List Int) : (bests C r).map (·.1) = r := by
  refine snoc_ind (p := fun r => (bests C r).map (·.1) = r) rfl (fun r x ih => ?_) r
  rw [bests_snoc, List.map_append, ih]
  rfl
theorem bests_len (r : List Int) : (bests C r).length = r.length := by
  have := congrArg List.length (bests_fst C r)
  simpa using this
theorem bests_pw (r : List Int) : (bests C r).Pairwise fun p q => C p.1 q.1 = true → p.2 < q.2 := by
  refine snoc_ind (p := fun r => (bests C r).Pairwise fun p q => C p.1 q.1 = true → p.2 < q.2) List.Pairwise.nil (fun r x ih => ?_) r
  rw [bests_snoc, List.pairwise_append]
  refine ⟨ih, by simp, fun p hp q hq h => ?_⟩
  rw [List.mem_singleton] at hq
  subst hq
  have hm : p.2 ∈ ((bests C r).filter fun p => C p.1 x).map (·.2) := List.mem_map_of_mem (List.mem_filter.mpr ⟨hp, h⟩)
  have := le_maxN hm
  show p.2 < best1 C (bests C r) x
  unfold best1
  omega
theorem bests_pos (r : List Int) : ∀ p, p ∈ bests C r → 1 ≤ p.2 := by
  refine snoc_ind (p := fun r => ∀ p, p ∈ bests C r → 1 ≤ p.2) (fun p h => by cases h) (fun r x ih p hp => ?_) r
  rw [bests_snoc, List.mem_append] at hp
  rcases hp with hp | hp
  · exact ih p hp
  · rw [List.mem_singleton] at hp
    subst hp
    show 1 ≤ best1 C (bests C r) x
    unfold best1
    omega
/-- parts of which no k and one make a chain fall into k that have none -/
theorem reach_of_longest {R : Int → Int → Prop} (hR : ∀ a b, C a b = false → R a b) {r : List Int} {k : Nat} (h : longest C r ≤ k) : ∃ c : List (Int × Nat), c.map Prod.fst = r ∧ Good R k c ∧ ∀ p, p ∈ c → p.2 < k := by
  refine ⟨(bests C r).map fun p => (p.1, p.2 - 1), ?_, ?_, fun p hp => ?_⟩
  · rw [List.map_map]
    exact bests_fst C r
  · unfold Good
    rw [List.pairwise_map]
    refine (bests_pw C r).imp_of_mem fun {p q} hp hq hpq e _ => ?_
    have h1 := bests_pos C r p hp
    have h2 := bests_pos C r q hq
    refine hR _ _ ?_
    cases hc : C p.1 q.1 with
    | false => rfl
    | true =>
      have := hpq hc
      simp only at e
      omega
  · obtain ⟨q, hq, rfl⟩ := List.mem_map.mp hp
    have h1 := bests_pos C r q hq
    have h2 : q.2 ≤ longest C r := le_maxN (List.mem_map_of_mem hq)
    show q.2 - 1 < k
    omega
/-- a chain ends at each place -/
theorem chain_at (tr : ∀ a b c, C a b = true → C b c = true → C a c = true) (c : List (Int × Nat)) : ∀ i (h : i < c.length) (h2 : i < (bests C (c.map (·.1))).length), ∃ ch : List (Int × Nat), ch.Sublist (c.take (i + 1)) ∧ ch.Pairwise (fun p q => C p.1 q.1 = true) ∧ ch.length = (bests C (c.map (·.1)))[i].2 ∧ ch.getLast? = some c[i] := by
  have key : ∀ c : List (Int × Nat), ∀ i (h : i < c.length) (h2 : i < (bests C (c.map (·.1))).length), ∃ ch : List (Int × Nat), ch.Sublist (c.take (i + 1)) ∧ ch.Pairwise (fun p q => C p.1 q.1 = true) ∧ ch.length = (bests C (c.map (·.1)))[i].2 ∧ ch.getLast? = some c[i] := by
    intro c
    rw [← List.reverse_reverse c]
    induction c.reverse with
    | nil => intro i h; simp at h
    | cons x l ih =>
      rw [List.reverse_cons]
      generalize l.reverse = c at ih
      have hl : (bests C (c.map (·.1))).length = c.length := by rw [bests_len]; simp
      have hb : bests C ((c ++ [x]).map (·.1)) = bests C (c.map (·.1)) ++ [(x.1, best1 C (bests C (c.map (·.1))) x.1)] := by rw [List.map_append]; exact bests_snoc C _ _
      intro i h h2
      by_cases hi : i < c.length
      · obtain ⟨ch, a1, a2, a3, a4⟩ := ih i hi (by omega)
        refine ⟨ch, ?_, a2, ?_, ?_⟩
        · rw [List.take_append_of_le_length (by omega)]; exact a1
        · rw [a3]
          simp only [hb]
          rw [List.getElem_append_left (by omega)]
        · rw [a4, List.getElem_append_left hi]
      · have hi' : i = c.length := by simp at h; omega
        subst hi'
        have e1 : (bests C ((c ++ [x]).map (·.1)))[c.length].2 = best1 C (bests C (c.map (·.1))) x.1 := by
          simp only [hb]
          rw [List.getElem_append_right (by omega)]
          simp [hl]
        rw [e1]
        by_cases h0 : (bests C (c.map (·.1))).filter (fun p => C p.1 x.1) = []
        · refine ⟨[x], ?_, by simp, ?_, by simp⟩
          · rw [List.take_of_length_le (by simp)]
            exact List.sublist_append_right c [x]
          · unfold best1
            rw [h0]
            rfl
        · have hne : ((bests C (c.map (·.1))).filter (fun p => C p.1 x.1)).map (·.2) ≠ [] := by simpa using h0
          obtain ⟨q, hq, hq2⟩ := List.mem_map.mp (maxN_mem hne)
          obtain ⟨hq1, hqc⟩ := List.mem_filter.mp hq
          obtain ⟨j, hj, ej⟩ := List.getElem_of_mem hq1
          obtain ⟨ch, a1, a2, a3, a4⟩ := ih j (by omega) hj
          have hv : (bests C (c.map (·.1)))[j].1 = c[j].1 := by
            have := congrArg (fun l => l[j]?) (bests_fst C (c.map (·.1)))
            simp only [List.getElem?_map, List.getElem?_eq_getElem hj, List.getElem?_eq_getElem (show j < c.length by omega), Option.map_some, Option.some.injEq] at this
            exact this
          refine ⟨ch ++ [x], ?_, ?_, ?_, by simp⟩
          · rw [List.take_of_length_le (by simp)]
            exact List.Sublist.append (a1.trans (List.take_sublist _ _)) (List.Sublist.refl _)
          · rw [List.pairwise_append]
            refine ⟨a2, by simp, fun p hp y hy => ?_⟩
            rw [List.mem_singleton] at hy
            rw [hy]
            have hlast : C c[j].1 x.1 = true := by rw [← hv, ej]; exact hqc
            obtain ⟨ini, hini⟩ := List.getLast?_eq_some_iff.mp a4
            rw [hini] at hp a2
            rcases List.mem_append.mp hp with hp | hp
            · rw [List.pairwise_append] at a2
              exact tr _ _ _ (a2.2.2 p hp c[j] (by simp)) hlast
            · rw [List.mem_singleton] at hp
              subst hp
              exact hlast
          · rw [List.length_append, a3, ej, List.length_singleton]
            unfold best1
            rw [← hq2]
            omega
  exact key c
theorem longest_le {R : Int → Int → Prop} (tr : ∀ a b c, C a b = true → C b c = true → C a c = true) (hR : ∀ a b, R a b → C a b = false) {c : List (Int × Nat)} {k : Nat} (g : Good R k c) (hk : ∀ p, p ∈ c → p.2 < k) : longest C (c.map Prod.fst) ≤ k := by
  unfold longest
  refine maxN_le fun a ha => ?_
  obtain ⟨q, hq, rfl⟩ := List.mem_map.mp ha
  obtain ⟨i, hi, ei⟩ := List.getElem_of_mem hq
  have hi' : i < c.length := by
    have := bests_len C (c.map Prod.fst)
    simp at this
    omega
  obtain ⟨ch, a1, a2, a3, _⟩ := chain_at C tr c i hi' hi
  have sub : ch.Sublist c := a1.trans (List.take_sublist _ _)
  have hq2 : ch.length = q.2 := by rw [a3]; exact congrArg Prod.snd ei
  rw [← hq2]
  have := nodup_le k (ch.map (·.2)) ?_ ?_
  · simpa using this
  · unfold List.Nodup
    rw [List.pairwise_map]
    have g2 := g.sublist sub
    refine List.Pairwise.imp_of_mem (fun {p q} hp _ h e => ?_) (List.Pairwise.and a2 g2)
    have := hR _ _ (h.2 e (hk p (sub.subset hp)))
    rw [h.1] at this
    cases this
  · intro b hb
    obtain ⟨p, hp, rfl⟩ := List.mem_map.mp hb
    exact hk p (sub.subset hp)
end
/-! all choices of places -/
def subs (w : List Int) : List (List Int) := w.foldl (fun rs x => rs ++ rs.map fun r => r ++ [x]) [[]]
theorem subs_snoc (w : List Int) (x : Int) : subs (w ++ [x]) = subs w ++ (subs w).map fun r => r ++ [x] := by
  unfold subs
  rw [List.foldl_append]
  rfl
theorem subs_sub (w : List Int) : ∀ r, r ∈ subs w → r.Sublist w := by
  refine snoc_ind (p := fun w => ∀ r, r ∈ subs w → r.Sublist w) (fun r h => ?_) (fun w x ih r h => ?_) w
  · have : r = [] := by simpa [subs] using h
    rw [this]
    exact List.Sublist.refl _
  · rw [subs_snoc, List.mem_append] at h
    rcases h with h | h
    · exact (ih r h).trans (List.sublist_append_left w [x])
    · obtain ⟨q, hq, rfl⟩ := List.mem_map.mp h
      exact (ih q hq).append (List.Sublist.refl _)
theorem subs_all (w : List Int) : ∀ r : List Int, r.Sublist w → r ∈ subs w := by
  refine snoc_ind (p := fun w => ∀ r : List Int, r.Sublist w → r ∈ subs w) (fun r h => ?_) (fun w x ih r h => ?_) w
  · rw [List.sublist_nil.mp h]; simp [subs]
  · rw [subs_snoc, List.mem_append]
    obtain ⟨r1, r2, e, h1, h2⟩ := List.sublist_append_iff.mp h
    rcases List.sublist_cons_iff.mp h2 with h3 | ⟨r3, e3, h3⟩
    · have : r2 = [] := List.sublist_nil.mp h3
      rw [this, List.append_nil] at e
      rw [e]
      exact .inl (ih r1 h1)
    · have : r3 = [] := List.sublist_nil.mp h3
      rw [this] at e3
      rw [e, e3]
      exact .inr (List.mem_map_of_mem (ih r1 h1))
theorem subs_len (w : List Int) : (subs w).length = 2 ^ w.length := by
  refine snoc_ind (p := fun w => (subs w).length = 2 ^ w.length) rfl (fun w x ih => ?_) w
  rw [subs_snoc, List.length_append, List.length_map, ih, List.length_append, List.length_singleton, Nat.pow_succ]
  omega
/-- colours of some of a word's places, the others without -/
theorem reach_sub {R : Int → Int → Prop} {k : Nat} : ∀ {w : List Int} {c : List (Int × Nat)}, (c.map Prod.fst).Sublist w → Good R k c → (∀ p, p ∈ c → p.2 < k) → ∃ d : List (Int × Nat), d.map Prod.fst = w ∧ Good R k d ∧ used k d = c.length ∧ (∀ p, p ∈ d → p.2 < k → p ∈ c)
  | [], c, hs, _, _ => by
    have : c = [] := by
      have := List.sublist_nil.mp hs
      simpa using this
    subst this
    exact ⟨[], rfl, List.Pairwise.nil, rfl, fun p h => by cases h⟩
  | x :: w, c, hs, g, hk => by
    rcases List.sublist_cons_iff.mp hs with h | ⟨r, e, h⟩
    · obtain ⟨d, h1, h2, h3, h4⟩ := reach_sub h g hk
      refine ⟨(x, k) :: d, by rw [List.map_cons, h1], List.pairwise_cons.mpr ⟨fun q _ _ l => ?_, h2⟩, ?_, fun p hp l => ?_⟩
      · simp only at l; omega
      · unfold used at *
        rw [List.countP_cons, h3]
        simp
      · rcases List.mem_cons.mp hp with rfl | hp
        · simp only at l; omega
        · exact h4 p hp l
    · obtain ⟨p, c', e1, e2, e3⟩ := List.map_eq_cons_iff.mp e
      subst e1
      have g' := List.pairwise_cons.mp g
      obtain ⟨d, h1, h2, h3, h4⟩ := reach_sub (c := c') (by rw [e3]; exact h) g'.2 fun q hq => hk q (by simp [hq])
      refine ⟨p :: d, by rw [List.map_cons, h1, e2], List.pairwise_cons.mpr ⟨fun q hq e l => ?_, h2⟩, ?_, fun q hq l => ?_⟩
      · exact g'.1 q (h4 q hq (by omega)) e l
      · unfold used at *
        rw [List.countP_cons, h3, if_pos (by simpa using hk p (by simp))]
        rfl
      · rcases List.mem_cons.mp hq with rfl | hq
        · simp
        · exact List.mem_cons_of_mem _ (h4 q hq l)
/-- so many places by k parts are the most of a choice without a chain of k and one -/
theorem most_choice {R : Int → Int → Prop} {C : Int → Int → Bool} (tr : ∀ a b c, C a b = true → C b c = true → C a c = true) (hR : ∀ a b, R a b ↔ C a b = false) {w : List Int} {k m : Nat} (h1 : Reach R k w m) (h2 : ∀ n, Reach R k w n → n ≤ m) :
    (∃ r, r ∈ subs w ∧ longest C r ≤ k ∧ r.length = m) ∧ ∀ r, r ∈ subs w → longest C r ≤ k → r.length ≤ m := by
  constructor
  · obtain ⟨c, e, g, u⟩ := h1
    have hf : ∀ p, p ∈ c.filter (fun p => decide (p.2 < k)) → p.2 < k := fun p hp => by
      have := (List.mem_filter.mp hp).2
      simpa using this
    have gf : Good R k (c.filter fun p => decide (p.2 < k)) := List.Pairwise.filter _ g
    refine ⟨(c.filter fun p => decide (p.2 < k)).map Prod.fst, subs_all w _ ?_, longest_le C tr (fun a b h => (hR a b).mp h) gf hf, ?_⟩
    · rw [← e]
      exact List.Sublist.map _ List.filter_sublist
    · rw [List.length_map, ← u]
      unfold used
      rw [List.countP_eq_length_filter]
  · intro r hr hl
    obtain ⟨c, e, g, hk⟩ := reach_of_longest C (fun a b h => (hR a b).mpr h) hl
    obtain ⟨d, d1, d2, d3, _⟩ := reach_sub (w := w) (c := c) (by rw [e]; exact subs_sub w r hr) g hk
    have := h2 _ ⟨d, d1, d2, d3⟩
    have hl2 : c.length = r.length := by rw [← e]; simp
    omega
end RSK
end

section
set_option linter.all false
namespace RSK
/-! Taking out at a corner is undone by putting in: so each pair of fillings of one shape is a word's. -/
theorem mem_rowIns (r : Row) (x : Int) : x ∈ (rowIns r x).1 := by
  have := (rowIns_perm r x).mem_iff (a := x)
  induction r with
  | nil => simp [rowIns]
  | cons a r ih =>
    by_cases h : x < a
    · rw [rowIns_gt h]; simp
    · rw [rowIns_le (by omega)]
      exact List.mem_cons_of_mem _ (ih ((rowIns_perm r x).mem_iff (a := x)))
theorem below_raise : ∀ {l m lo : Row} {x y : Int}, below (l ++ x :: m) lo → (∀ c, c ∈ lo → y < c) → below (l ++ y :: m) lo
  | _, _, [], _, _, _, _ => below_nil _
  | [], m, b :: lo, x, y, h, hy => ⟨hy b (by simp), h.2⟩
  | a :: l, m, b :: lo, x, y, h, hy => ⟨h.1, below_raise (l := l) h.2 fun c hc => hy c (by simp [hc])⟩
theorem below_unbump : ∀ {l m lo : Row} {x y : Int}, below (l ++ x :: m) (rowIns lo y).1 → Sorted lo → (∀ a, a ∈ l → a < y) → (∀ b, b ∈ m → y ≤ b) → below (l ++ y :: m) lo
  | _, _, [], _, _, _, _, _, _ => below_nil _
  | [], m, b :: lo, x, y, h, hs, h1, h2 => by
    by_cases hy : y < b
    · rw [rowIns_gt hy] at h
      exact ⟨hy, h.2⟩
    · rw [rowIns_le (by omega)] at h
      obtain ⟨z, hz, hz2⟩ := below_mem h.2 (mem_rowIns lo y)
      have := h2 z hz
      omega
  | a :: l, m, b :: lo, x, y, h, hs, h1, h2 => by
    rw [sorted_cons] at hs
    by_cases hy : y < b
    · rw [rowIns_gt hy] at h
      have ha := h1 a (by simp)
      exact ⟨by omega, below_raise (l := l) h.2 fun c hc => by have := hs.1 c hc; omega⟩
    · rw [rowIns_le (by omega)] at h
      exact ⟨h.1, below_unbump (l := l) h.2 hs.2 (fun c hc => h1 c (by simp [hc])) h2⟩
theorem below_short : ∀ {r lo : Row} {x : Int}, below (r ++ [x]) lo → lo.length ≤ r.length → below r lo
  | _, [], _, _, _ => below_nil _
  | [], b :: lo, _, _, h => by simp at h
  | a :: r, b :: lo, x, h, hl => ⟨h.1, below_short (x := x) h.2 (by simpa using hl)⟩
theorem last_split {r : Row} (h : r ≠ []) : r = r.dropLast ++ [r.getLastD 0] := by
  rw [List.getLastD_eq_getLast?, List.getLast?_eq_some_getLast h]
  exact (List.dropLast_concat_getLast h).symm
theorem ins_out : ∀ {t : T} {k : Nat}, Tab t → k < t.length → (t.getD (k + 1) []).length < (t.getD k []).length → Tab (out t k).1 ∧ ins (out t k).1 (out t k).2 = (t, k) ∧ (out t k).2 ∈ t.headD []
  | [], k, _, h, _ => by simp at h
  | r :: rs, 0, ht, _, hc => by
    obtain ⟨h1, h2, h3, h4⟩ := ht
    have e := last_split h1
    have hm : r.getLastD 0 ∈ r := by rw [e]; simp
    have hle : ∀ a, a ∈ r.dropLast → a ≤ r.getLastD 0 := by
      unfold Sorted at h2
      rw [e, List.pairwise_append] at h2
      intro a ha
      exact h2.2.2 a ha _ (by simp)
    have hc' : (rs.headD []).length < r.length := by
      cases rs with
      | nil => simp; exact List.length_pos_iff.mpr h1
      | cons q rs => simpa using hc
    by_cases hd : r.dropLast = []
    · have hr : rs = [] := by
        cases rs with
        | nil => rfl
        | cons q rs =>
          have hq := h4.1
          have : r.length = 1 := by rw [e, hd]; rfl
          simp at hc'
          have := List.length_pos_iff.mpr hq
          omega
      subst hr
      show Tab (if r.dropLast = [] then [] else r.dropLast :: []) ∧ ins (if r.dropLast = [] then [] else r.dropLast :: []) (r.getLastD 0) = _ ∧ r.getLastD 0 ∈ r
      rw [if_pos hd]
      refine ⟨trivial, ?_, hm⟩
      show ([[r.getLastD 0]], 0) = _
      rw [hd, List.nil_append] at e
      rw [← e]
    · show Tab (if r.dropLast = [] then rs else r.dropLast :: rs) ∧ ins (if r.dropLast = [] then rs else r.dropLast :: rs) (r.getLastD 0) = _ ∧ r.getLastD 0 ∈ r
      rw [if_neg hd]
      refine ⟨⟨hd, h2.sublist (List.dropLast_sublist r), below_short (x := r.getLastD 0) (by rw [← e]; exact h3) (by rw [List.length_dropLast]; omega), h4⟩, ?_, hm⟩
      have hi := rowIns_end hle
      rw [ins_none (by rw [hi]), hi, ← e]
  | r :: rs, k + 1, ht, hk, hc => by
    obtain ⟨h1, h2, h3, h4⟩ := ht
    obtain ⟨i1, i2, i3⟩ := ins_out (t := rs) (k := k) h4 (by simpa using hk) (by simpa using hc)
    obtain ⟨z, hz1, hz2⟩ := below_mem h3 i3
    obtain ⟨l, x, m, e0, g1, g2, g3, e5⟩ := rowOut_spec h2 hz1 hz2
    show Tab ((rowOut r (out rs k).2).1 :: (out rs k).1) ∧ ins ((rowOut r (out rs k).2).1 :: (out rs k).1) (rowOut r (out rs k).2).2 = _ ∧ (rowOut r (out rs k).2).2 ∈ r
    rw [e5]
    have hr : ∀ a, a ∈ l → a ≤ x := by
      unfold Sorted at h2
      rw [e0, List.pairwise_append] at h2
      intro a ha
      exact h2.2.2 a ha _ (by simp)
    have hi := rowIns_at (l := l) (m := m) hr g2
    refine ⟨⟨by simp, ?_, ?_, i1⟩, ?_, by rw [e0]; simp⟩
    · unfold Sorted at h2 ⊢
      rw [e0, List.pairwise_append, List.pairwise_cons] at h2
      rw [List.pairwise_append, List.pairwise_cons]
      refine ⟨h2.1, ⟨g3, h2.2.1.2⟩, fun a ha b hb => ?_⟩
      rcases List.mem_cons.mp hb with rfl | hb
      · have := g1 a ha; omega
      · have := g1 a ha; have := g3 b hb; omega
    · have h5 : rs.headD [] = (rowIns ((out rs k).1.headD []) (out rs k).2).1 := by
        rw [← ins_head, i2]
      have hso : Sorted ((out rs k).1.headD []) := by
        cases hq : (out rs k).1 with
        | nil => exact List.Pairwise.nil
        | cons q qs => rw [hq] at i1; exact i1.2.1
      rw [h5, e0] at h3
      exact below_unbump h3 hso g1 g3
    · rw [ins_some (by rw [hi]), hi, i2, ← e0]
theorem addS_inj : ∀ {s u : List Nat} {k : Nat}, Part s → Part u → k ≤ s.length → k ≤ u.length → addS s k = addS u k → s = u
  | [], [], _, _, _, _, _, _ => rfl
  | [], b :: u, k, _, hu, hk, _, h => by
    have : k = 0 := by simpa using hk
    subst this
    simp [addS] at h
    have := hu.1
    omega
  | a :: s, [], k, hs, _, _, hk, h => by
    have : k = 0 := by simpa using hk
    subst this
    simp [addS] at h
    have := hs.1
    omega
  | a :: s, b :: u, 0, _, _, _, _, h => by
    simp [addS] at h
    rw [h.1, h.2]
  | a :: s, b :: u, k + 1, hs, hu, h1, h2, h => by
    simp [addS] at h
    rw [h.1, addS_inj hs.2.2 hu.2.2 (by simpa using h1) (by simpa using h2) h.2]
theorem addS_len : ∀ {s : List Nat} {k : Nat}, k ≤ s.length → k < (addS s k).length
  | [], k, hk => by
    have : k = 0 := by simpa using hk
    subst this; simp [addS]
  | a :: s, 0, _ => by simp [addS]
  | a :: s, k + 1, hk => by simp [addS]; exact addS_len (by simpa using hk)
theorem addS_corner : ∀ {s : List Nat} {k : Nat}, Part s → k ≤ s.length → (addS s k).getD (k + 1) 0 < (addS s k).getD k 0
  | [], k, _, hk => by
    have : k = 0 := by simpa using hk
    subst this; simp [addS]
  | a :: s, 0, hp, _ => by
    have := hp.2.1
    cases s with
    | nil => simp [addS]
    | cons b s => simp [addS] at this ⊢; omega
  | a :: s, k + 1, hp, hk => by
    have := addS_corner (s := s) (k := k) hp.2.2 (by simpa using hk)
    simpa [addS] using this
/-- boxes put on, one by one -/
inductive Grow : List Nat → List Nat → T → Prop
  | nil : Grow [] [] []
  | snoc {ks s : List Nat} {q : T} {k : Nat} : Grow ks s q → k ≤ s.length → Part (addS s k) → Grow (ks ++ [k]) (addS s k) (addBox q k ((ks.length : Int) + 1))
theorem Grow.part {ks s : List Nat} {q : T} (h : Grow ks s q) : Part s := by
  cases h with
  | nil => trivial
  | snoc _ _ h => exact h
theorem Grow.shape {ks s : List Nat} {q : T} (h : Grow ks s q) : shape q = s := by
  induction h with
  | nil => rfl
  | snoc _ _ _ ih => rw [shape_addBox, ih]
theorem shape_getD (t : T) (k : Nat) : (shape t).getD k 0 = (t.getD k []).length := by
  unfold RSK.shape
  rw [List.getD_eq_getElem?_getD, List.getD_eq_getElem?_getD, List.getElem?_map]
  cases t[k]? <;> rfl
theorem PQ_all {ks s : List Nat} {q : T} (h : Grow ks s q) : ∀ p : T, Tab p → RSK.shape p = s → ∃ w : List Int, PQ w = (p, q) ∧ w.length = ks.length := by
  induction h with
  | nil =>
    intro p hp hs
    have : p = [] := by simpa [RSK.shape] using hs
    exact ⟨[], by rw [this]; rfl, rfl⟩
  | @snoc ks s q k g hk hP ih =>
    intro p hp hs
    have hlen : k < p.length := by
      have := addS_len hk
      rw [← hs] at this
      simpa [RSK.shape] using this
    have hc := addS_corner g.part hk
    rw [← hs, shape_getD, shape_getD] at hc
    obtain ⟨o1, o2, _⟩ := ins_out hp hlen hc
    have hsh : RSK.shape (out p k).1 = s := by
      have e := shape_ins (out p k).1 (out p k).2
      rw [o2] at e
      have hl := ins_le (out p k).1 (out p k).2
      rw [o2] at hl
      exact addS_inj (part_shape o1) g.part (by simpa [RSK.shape] using hl) hk (by rw [← e, hs])
    obtain ⟨w, hw, hwl⟩ := ih _ o1 hsh
    refine ⟨w ++ [(out p k).2], ?_, by simp [hwl]⟩
    rw [PQ_snoc, hw]
    show ((ins (out p k).1 (out p k).2).1, addBox q (ins (out p k).1 (out p k).2).2 ((w.length : Int) + 1)) = _
    rw [o2, hwl]
/-! a corner taken off -/
theorem less_part : ∀ {s : List Nat} {k : Nat}, Part s → k < s.length → s.getD (k + 1) 0 < s.getD k 0 → ∃ u, Part u ∧ k ≤ u.length ∧ addS u k = s
  | [], k, _, h, _ => by simp at h
  | a :: s, 0, hp, _, hc => by
    obtain ⟨h1, h2, h3⟩ := hp
    by_cases ha : a = 1
    · subst ha
      have : s = [] := by
        cases s with
        | nil => rfl
        | cons b s =>
          have := h3.1
          simp at hc
          omega
      subst this
      exact ⟨[], trivial, by simp, rfl⟩
    · refine ⟨(a - 1) :: s, ⟨by omega, ?_, h3⟩, by simp, ?_⟩
      · cases s with
        | nil => simp
        | cons b s => simp at hc ⊢; omega
      · simp [addS]; omega
  | a :: s, k + 1, hp, hk, hc => by
    obtain ⟨h1, h2, h3⟩ := hp
    obtain ⟨u, q1, q2, q3⟩ := less_part (s := s) (k := k) h3 (by simpa using hk) (by simpa using hc)
    refine ⟨a :: u, ⟨h1, ?_, q1⟩, by simp; omega, by simp [addS, q3]⟩
    cases u with
    | nil => simp
    | cons b u =>
      cases k with
      | zero => rw [← q3] at h2; simp [addS] at h2 ⊢; omega
      | succ k => rw [← q3] at h2; simp [addS] at h2 ⊢; omega
theorem addS_sum : ∀ (s : List Nat) (k : Nat), (addS s k).sum = s.sum + 1
  | [], _ => rfl
  | a :: s, 0 => by simp [addS]; omega
  | a :: s, k + 1 => by simp [addS, addS_sum s k]; omega
/-- a shape that is not empty has a corner -/
theorem corner_ex : ∀ {s : List Nat}, Part s → s ≠ [] → ∃ k, k < s.length ∧ s.getD (k + 1) 0 < s.getD k 0
  | [], _, h => absurd rfl h
  | [a], hp, _ => ⟨0, by simp, by simpa using hp.1⟩
  | a :: b :: s, hp, _ => by
    obtain ⟨k, h1, h2⟩ := corner_ex (s := b :: s) hp.2.2 (by simp)
    exact ⟨k + 1, by simpa using h1, by simpa using h2⟩
end RSK
end

section
set_option Elab.async false
set_option linter.all false
set_option maxRecDepth 100000
set_option maxHeartbeats 4000000
noncomputable section
namespace Law
open PySem PySem.Spec L2 Evl PyProof.Rows SB
def topS (i : Nat) : Stmt := PySem.Challenge.pw_stairbox_k51_whole_counted_fillings.main.body.getD i (.Pass ⟨0, 0, 0, 0⟩)
abbrev FnP (K : PySem.W.Frag) (x : Str) (st : Stmt) (f : Addr) (fd : FuncData) : Prop := FunD K x x (defArgs st) (defBody st) (defScope st) [] [] f fd
section
variable {P : Program} {w : World} {K : PySem.W.Frag} {mg : Str → Option Value} {base : Heap} {xc : Nat → Value}
/-! ### turned -/
abbrev s_turned : Stmt := topS 1
abbrev N_turned : List Str := ["shape", "row", "column"]
theorem sc_turned : FnScope N_turned ["shape"] (defScope s_turned) := ⟨rfl, rfl, rfl, by decide +kernel, rfl, by decide +kernel, by decide +kernel⟩
def b_turned_1 : DEnv → Out :=
  sRet (xCall (on1 tupleD) (xCons (xLc (xIt range1D (xCons (xOp ixD (xVar 0) (xC (PyData.int 0))) (xNil))) (yName 2) (xYes) (xCall (on1 lenD) (xCons (xLc (xItems (xVar 0)) (yName 1) (xB (xOp gtD (xVar 1) (xVar 2))) (xVar 1) [1]) (xNil))) [2]) (xNil)))
def b_turned : DEnv → Out :=
  sSeq (sIf (xB (xOp eqD (xCall (on1 lenD) (xCons (xVar 0) (xNil))) (xC (PyData.int 0)))) (sRet (xTup (xNil))) (sNext))
    (b_turned_1)
def dn_turned : List D → Res D := fnD N_turned 1 b_turned
theorem rd_turned {f : Addr} {fd : FuncData} (F : FnP K "turned" s_turned f fd) (gm : mg "turned" = some (.ref f)) (m_len : mg "len" = none) (m_range : mg "range" = none) (m_tuple : mg "tuple" = none) : Rdy P w K mg base xc 1 "turned" ["shape"] dn_turned := by
  refine rdy_of F sc_turned gm (F.bindsN (fun _ _ _ _ _ _ us hl => match us, hl with | [_], _ => rfl)) rfl (fun cdv A outer s H E hr => ?_)
  have nd := sc_turned.nd
  exact dss_cons (ds_if (dt_cmp (opd_eq hr) (de_callB cd_len rfl m_len bt_len (da_cons (de_var 0) (da_nil))) (de_int) (nomark _)) (dss_one (ds_ret (de_tup (da_nil)))) (dss_nil))
    (dss_one (ds_ret (de_callTy cd_tuple rfl m_tuple bt_tuple (da_cons (de_lc [("column", 2)] rfl nd (di_range1 rfl m_range (da_cons (de_ix (de_var 0) (de_int)) (da_nil))) (blkOk_by (own := [("column", 2)]) (N := N_turned) (by kernel_rfl)) (fun _ _ _ _ _ => dg_name 2 nd) (fun _ _ _ _ _ => dts_nil) (fun _ _ _ _ _ => de_callB cd_len rfl m_len bt_len (da_cons (de_lc [("row", 1)] rfl nd (di_seq (de_var 0)) (blkOk_by (own := [("row", 1)]) (N := N_turned) (by kernel_rfl)) (fun _ _ _ _ _ => dg_name 1 nd) (fun _ _ _ _ _ => dts_one (dt_cmp opd_gt (de_var 1) (de_var 2) (nomark _))) (fun _ _ _ _ _ => de_var 1)) (da_nil)))) (da_nil)))))
/-! ### hooks -/
abbrev s_hooks : Stmt := topS 2
abbrev N_hooks : List Str := ["shape", "below", "found", "at", "row", "column"]
theorem sc_hooks : FnScope N_hooks ["shape"] (defScope s_hooks) := ⟨rfl, rfl, rfl, by decide +kernel, rfl, by decide +kernel, by decide +kernel⟩
def b_hooks_3 : DEnv → Out :=
  sRet (xCall (on1 tupleD) (xCons (xOwn 2) (xNil)))
def b_hooks_F1 : DEnv → Out :=
  sApp 2 (xCall (on1 tupleD) (xCons (xLc (xIt range1D (xCons (xVar 4) (xNil))) (yName 5) (xYes) (xOp subD (xOp subD (xOp addD (xOp subD (xVar 4) (xVar 5)) (xOp ixD (xVar 1) (xVar 5))) (xVar 3)) (xC (PyData.int 1))) [5]) (xNil)))
def b_hooks_2 : DEnv → Out :=
  sSeq (sFor (xIt enumD (xCons (xVar 0) (xNil))) (yTup 2 (yCons (yName 3) (yCons (yName 4) (yNil)))) (b_hooks_F1) [0, 3, 4, 5])
    (sKill [0, 1, 3, 4] (b_hooks_3))
def b_hooks_1 : DEnv → Out :=
  sSeq (sNewOwn 2 (fun ρ => ((xNil) ρ).bind okLen))
    (b_hooks_2)
def b_hooks : DEnv → Out :=
  sSeq (sAsg (xCall dn_turned (xCons (xVar 0) (xNil))) (yName 1))
    (b_hooks_1)
def dn_hooks : List D → Res D := fnD N_hooks 1 b_hooks
theorem rd_hooks {f : Addr} {fd : FuncData} (F : FnP K "hooks" s_hooks f fd) (gm : mg "hooks" = some (.ref f)) (m_enumerate : mg "enumerate" = none) (m_range : mg "range" = none) (m_tuple : mg "tuple" = none) (R_turned : Rdy P w K mg base xc 1 "turned" ["shape"] dn_turned) : Rdy P w K mg base xc 2 "hooks" ["shape"] dn_hooks := by
  refine rdy_of F sc_hooks gm (F.bindsN (fun _ _ _ _ _ _ us hl => match us, hl with | [_], _ => rfl)) rfl (fun cdv A outer s H E hr => ?_)
  have nd := sc_hooks.nd
  exact dss_cons (ds_set 1 nd (de_callR tkD R_turned hr (da_cons (de_var 0) (da_nil))))
    (dss_cons (ds_newOwn 2 nd (df_lst (da_nil)))
    (dss_cons (ds_for [0, 3, 4, 5] passD rfl (di_enum rfl m_enumerate (da_cons (de_var 0) (da_nil))) (dg_tup rfl (dgs_cons (dg_name 3 nd) (dgs_cons (dg_name 4 nd) (dgs_nil)))) (dss_one (ds_app 2 (de_callTy cd_tuple rfl m_tuple bt_tuple (da_cons (de_lc [("column", 5)] rfl nd (di_range1 rfl m_range (da_cons (de_var 4) (da_nil))) (blkOk_by (own := [("column", 5)]) (N := N_hooks) (by kernel_rfl)) (fun _ _ _ _ _ => dg_name 5 nd) (fun _ _ _ _ _ => dts_nil) (fun _ _ _ _ _ => de_op opd_sub (de_op opd_sub (de_op opd_add (de_op opd_sub (de_var 4) (de_var 5)) (de_ix (de_var 1) (de_var 5))) (de_var 3)) (de_int))) (da_nil))))))
    (dss_kill [0, 1, 3, 4] (dss_one (ds_ret (de_callTy cd_tuple rfl m_tuple bt_tuple (da_cons (de_own 2) (da_nil))))))))
/-! ### count_of -/
abbrev s_count_of : Stmt := topS 3
abbrev N_count_of : List Str := ["shape", "found", "number", "parts", "row", "hook"]
theorem sc_count_of : FnScope N_count_of ["shape"] (defScope s_count_of) := ⟨rfl, rfl, rfl, by decide +kernel, rfl, by decide +kernel, by decide +kernel⟩
def b_count_of_4 : DEnv → Out :=
  sRet (xOp fdivD (xVar 1) (xVar 3))
def b_count_of_F2 : DEnv → Out :=
  sAsg (xOp mulD (xVar 3) (xVar 5)) (yName 3)
def b_count_of_F1 : DEnv → Out :=
  sFor (xItems (xVar 4)) (yName 5) (b_count_of_F2) [0, 2, 4, 5]
def b_count_of_3 : DEnv → Out :=
  sSeq (sFor (xItems (xCall dn_hooks (xCons (xVar 0) (xNil)))) (yName 4) (b_count_of_F1) [0, 2, 4, 5])
    (sKill [0, 4, 5] (b_count_of_4))
def b_count_of_2 : DEnv → Out :=
  sSeq (sAsg (xC (PyData.int 1)) (yName 3))
    (b_count_of_3)
def b_count_of_F3 : DEnv → Out :=
  sAsg (xOp mulD (xVar 1) (xVar 2)) (yName 1)
def b_count_of_1 : DEnv → Out :=
  sSeq (sFor (xIt range2D (xCons (xC (PyData.int 2)) (xCons (xOp addD (xCall (on1 sumD) (xCons (xVar 0) (xNil))) (xC (PyData.int 1))) (xNil)))) (yName 2) (b_count_of_F3) [2, 3, 4, 5])
    (sKill [2] (b_count_of_2))
def b_count_of : DEnv → Out :=
  sSeq (sAsg (xC (PyData.int 1)) (yName 1))
    (b_count_of_1)
def dn_count_of : List D → Res D := fnD N_count_of 1 b_count_of
theorem rd_count_of {f : Addr} {fd : FuncData} (F : FnP K "count_of" s_count_of f fd) (gm : mg "count_of" = some (.ref f)) (m_range : mg "range" = none) (m_sum : mg "sum" = none) (R_hooks : Rdy P w K mg base xc 2 "hooks" ["shape"] dn_hooks) : Rdy P w K mg base xc 3 "count_of" ["shape"] dn_count_of := by
  refine rdy_of F sc_count_of gm (F.bindsN (fun _ _ _ _ _ _ us hl => match us, hl with | [_], _ => rfl)) rfl (fun cdv A outer s H E hr => ?_)
  have nd := sc_count_of.nd
  exact dss_cons (ds_set 1 nd (de_int))
    (dss_cons (ds_for [2, 3, 4, 5] passD rfl (di_range2 rfl m_range (da_cons (de_int) (da_cons (de_op opd_add (de_callB (cd_sum rfl) rfl m_sum bt_sum (da_cons (de_var 0) (da_nil))) (de_int)) (da_nil)))) (dg_name 2 nd) (dss_one (ds_set 1 nd (de_op opd_mul (de_var 1) (de_var 2)))))
    (dss_kill [2] (dss_cons (ds_set 3 nd (de_int))
    (dss_cons (ds_for [0, 2, 4, 5] passD rfl (di_seq (de_callR tkD R_hooks hr (da_cons (de_var 0) (da_nil)))) (dg_name 4 nd) (dss_one (ds_for [0, 2, 4, 5] passD rfl (di_seq (de_var 4)) (dg_name 5 nd) (dss_one (ds_set 3 nd (de_op opd_mul (de_var 3) (de_var 5)))))))
    (dss_kill [0, 4, 5] (dss_one (ds_ret (de_op opd_fdiv (de_var 1) (de_var 3)))))))))
/-! ### less_at -/
abbrev s_less_at : Stmt := topS 4
abbrev N_less_at : List Str := ["shape", "row"]
theorem sc_less_at : FnScope N_less_at ["shape", "row"] (defScope s_less_at) := ⟨rfl, rfl, rfl, by decide +kernel, rfl, by decide +kernel, by decide +kernel⟩
def b_less_at_2 : DEnv → Out :=
  sRet (xOp addD (xOp addD (xSl (xVar 0) (xNoPart) (xPart (xVar 1))) (xTup (xCons (xOp subD (xOp ixD (xVar 0) (xVar 1)) (xC (PyData.int 1))) (xNil)))) (xSl (xVar 0) (xPart (xOp addD (xVar 1) (xC (PyData.int 1)))) (xNoPart)))
def b_less_at_1 : DEnv → Out :=
  sSeq (sIf (xB (xOp eqD (xOp ixD (xVar 0) (xVar 1)) (xC (PyData.int 1)))) (sRet (xSl (xVar 0) (xNoPart) (xPart (xVar 1)))) (sNext))
    (b_less_at_2)
def b_less_at : DEnv → Out :=
  sSeq (sIf (xAnd (xB (xOp ltD (xOp addD (xVar 1) (xC (PyData.int 1))) (xCall (on1 lenD) (xCons (xVar 0) (xNil))))) (xB (xOp eqD (xOp ixD (xVar 0) (xOp addD (xVar 1) (xC (PyData.int 1)))) (xOp ixD (xVar 0) (xVar 1))))) (sRet (xC PyData.none)) (sNext))
    (b_less_at_1)
def dn_less_at : List D → Res D := fnD N_less_at 2 b_less_at
theorem rd_less_at {f : Addr} {fd : FuncData} (F : FnP K "less_at" s_less_at f fd) (gm : mg "less_at" = some (.ref f)) (m_len : mg "len" = none) : Rdy P w K mg base xc 1 "less_at" ["shape", "row"] dn_less_at := by
  refine rdy_of F sc_less_at gm (F.bindsN (fun _ _ _ _ _ _ us hl => match us, hl with | [_, _], _ => rfl)) rfl (fun cdv A outer s H E hr => ?_)
  have nd := sc_less_at.nd
  exact dss_cons (ds_if (DW.t (dw_and (dt_cmp opd_lt (de_op opd_add (de_var 1) (de_int)) (de_callB cd_len rfl m_len bt_len (da_cons (de_var 0) (da_nil))) (nomark _)) (dw_and1 (dt_cmp (opd_eq hr) (de_ix (de_var 0) (de_op opd_add (de_var 1) (de_int))) (de_ix (de_var 0) (de_var 1)) (nomark _))))) (dss_one (ds_ret (de_non))) (dss_nil))
    (dss_cons (ds_if (dt_cmp (opd_eq hr) (de_ix (de_var 0) (de_var 1)) (de_int) (nomark _)) (dss_one (ds_ret (de_sl (de_var 0) (do_none) (do_some (de_var 1))))) (dss_nil))
    (dss_one (ds_ret (de_op opd_add (de_op opd_add (de_sl (de_var 0) (do_none) (do_some (de_var 1))) (de_tup (da_cons (de_op opd_sub (de_ix (de_var 0) (de_var 1)) (de_int)) (da_nil)))) (de_sl (de_var 0) (do_some (de_op opd_add (de_var 1) (de_int))) (do_none))))))
/-! ### fillings_of -/
abbrev s_fillings_of : Stmt := topS 5
abbrev N_fillings_of : List Str := ["shape", "found", "number", "row", "rest", "filling"]
theorem sc_fillings_of : FnScope N_fillings_of ["shape"] (defScope s_fillings_of) := ⟨rfl, rfl, rfl, by decide +kernel, rfl, by decide +kernel, by decide +kernel⟩
def b_fillings_of_4 (rec : List D → Res D) : DEnv → Out :=
  sRet (xOwn 1)
def b_fillings_of_F2 (rec : List D → Res D) : DEnv → Out :=
  sIf (xB (xOp eqD (xVar 3) (xCall (on1 lenD) (xCons (xVar 5) (xNil))))) (sApp 1 (xOp addD (xVar 5) (xTup (xCons (xTup (xCons (xVar 2) (xNil))) (xNil))))) (sApp 1 (xOp addD (xOp addD (xSl (xVar 5) (xNoPart) (xPart (xVar 3))) (xTup (xCons (xOp addD (xOp ixD (xVar 5) (xVar 3)) (xTup (xCons (xVar 2) (xNil)))) (xNil)))) (xSl (xVar 5) (xPart (xOp addD (xVar 3) (xC (PyData.int 1)))) (xNoPart))))
def b_fillings_of_F1 (rec : List D → Res D) : DEnv → Out :=
  sSeq (sAsg (xCall dn_less_at (xCons (xVar 0) (xCons (xVar 3) (xNil)))) (yName 4))
    (sIf (xB (xOp isNotD (xVar 4) (xC PyData.none))) (sFor (xItems (xCall rec (xCons (xVar 4) (xNil)))) (yName 5) (b_fillings_of_F2 rec) [4, 5]) (sNext))
def b_fillings_of_3 (rec : List D → Res D) : DEnv → Out :=
  sSeq (sFor (xIt range1D (xCons (xCall (on1 lenD) (xCons (xVar 0) (xNil))) (xNil))) (yName 3) (b_fillings_of_F1 rec) [3, 4, 5])
    (sKill [0, 2, 3, 4, 5] (b_fillings_of_4 rec))
def b_fillings_of_2 (rec : List D → Res D) : DEnv → Out :=
  sSeq (sAsg (xCall (on1 sumD) (xCons (xVar 0) (xNil))) (yName 2))
    (b_fillings_of_3 rec)
def b_fillings_of_1 (rec : List D → Res D) : DEnv → Out :=
  sSeq (sNewOwn 1 (fun ρ => ((xNil) ρ).bind okLen))
    (b_fillings_of_2 rec)
def b_fillings_of (rec : List D → Res D) : DEnv → Out :=
  sSeq (sIf (xB (xOp eqD (xCall (on1 lenD) (xCons (xVar 0) (xNil))) (xC (PyData.int 0)))) (sRet (xLst (xCons (xTup (xNil)) (xNil)))) (sNext))
    (b_fillings_of_1 rec)
def dr_fillings_of (n : Nat) : List D → Res D := Nat.rec (motive := fun _ => List D → Res D) (fun _ => .bad) (fun _ ih => fnD N_fillings_of 1 (b_fillings_of ih)) n
def dn_fillings_of : List D → Res D := dr_fillings_of 14
theorem rr_fillings_of {f : Addr} {fd : FuncData} (F : FnP K "fillings_of" s_fillings_of f fd) (gm : mg "fillings_of" = some (.ref f)) (m_len : mg "len" = none) (m_range : mg "range" = none) (m_sum : mg "sum" = none) (R_less_at : Rdy P w K mg base xc 1 "less_at" ["shape", "row"] dn_less_at) : ∀ n : Nat, Rdy P w K mg base xc (1 + n) "fillings_of" ["shape"] (dr_fillings_of n)
  | 0 => rdy_bad F gm (F.bindsN (fun _ _ _ _ _ _ us hl => match us, hl with | [_], _ => rfl))
  | n + 1 => by
    have R_rec := rr_fillings_of F gm m_len m_range m_sum R_less_at n
    have hk_less_at : 1 ≤ 1 + n := by omega
    refine rdy_of F sc_fillings_of gm (F.bindsN (fun _ _ _ _ _ _ us hl => match us, hl with | [_], _ => rfl)) rfl (fun cdv A outer s H E hr => ?_)
    have nd := sc_fillings_of.nd
    exact dss_cons (ds_if (dt_cmp (opd_eq hr) (de_callB cd_len rfl m_len bt_len (da_cons (de_var 0) (da_nil))) (de_int) (nomark _)) (dss_one (ds_ret (de_lst (da_cons (de_tup (da_nil)) (da_nil))))) (dss_nil))
      (dss_cons (ds_newOwn 1 nd (df_lst (da_nil)))
      (dss_cons (ds_set 2 nd (de_callB (cd_sum rfl) rfl m_sum bt_sum (da_cons (de_var 0) (da_nil))))
      (dss_cons (ds_for [3, 4, 5] passD rfl (di_range1 rfl m_range (da_cons (de_callB cd_len rfl m_len bt_len (da_cons (de_var 0) (da_nil))) (da_nil))) (dg_name 3 nd) (dss_cons (ds_set 4 nd (de_callR tkD R_less_at hr (da_cons (de_var 0) (da_cons (de_var 3) (da_nil))) hk_less_at))
      (dss_one (ds_if (dt_cmp opd_isNot (de_var 4) (de_non) (nomark _)) (dss_one (ds_for [4, 5] passD rfl (di_seq (de_callR tkD R_rec hr (da_cons (de_var 4) (da_nil)) (Nat.le_refl _))) (dg_name 5 nd) (dss_one (ds_if (dt_cmp (opd_eq hr) (de_var 3) (de_callB cd_len rfl m_len bt_len (da_cons (de_var 5) (da_nil))) (nomark _)) (dss_one (ds_app 1 (de_op opd_add (de_var 5) (de_tup (da_cons (de_tup (da_cons (de_var 2) (da_nil))) (da_nil)))))) (dss_one (ds_app 1 (de_op opd_add (de_op opd_add (de_sl (de_var 5) (do_none) (do_some (de_var 3))) (de_tup (da_cons (de_op opd_add (de_ix (de_var 5) (de_var 3)) (de_tup (da_cons (de_var 2) (da_nil)))) (da_nil)))) (de_sl (de_var 5) (do_some (de_op opd_add (de_var 3) (de_int))) (do_none))))))))) (dss_nil)))))
      (dss_kill [0, 2, 3, 4, 5] (dss_one (ds_retOwn (e := .Constant .none 0 ⟨0, 0, 0, 0⟩) (f := fun _ => .bad) 1))))))
theorem rd_fillings_of {f : Addr} {fd : FuncData} (F : FnP K "fillings_of" s_fillings_of f fd) (gm : mg "fillings_of" = some (.ref f)) (m_len : mg "len" = none) (m_range : mg "range" = none) (m_sum : mg "sum" = none) (R_less_at : Rdy P w K mg base xc 1 "less_at" ["shape", "row"] dn_less_at) : Rdy P w K mg base xc 15 "fillings_of" ["shape"] dn_fillings_of := rr_fillings_of F gm m_len m_range m_sum R_less_at 14
/-! ### fillings -/
abbrev s_fillings : Stmt := topS 6
abbrev N_fillings : List Str := ["shape"]
theorem sc_fillings : FnScope N_fillings ["shape"] (defScope s_fillings) := ⟨rfl, rfl, rfl, by decide +kernel, rfl, by decide +kernel, by decide +kernel⟩
def b_fillings : DEnv → Out :=
  sRet (xCall (on1 tupleD) (xCons (xCall (on1 sort2D) (xCons (xCall dn_fillings_of (xCons (xVar 0) (xNil))) (xNil))) (xNil)))
def dn_fillings : List D → Res D := fnD N_fillings 1 b_fillings
theorem rd_fillings {f : Addr} {fd : FuncData} (F : FnP K "fillings" s_fillings f fd) (gm : mg "fillings" = some (.ref f)) (m_sorted : mg "sorted" = none) (m_tuple : mg "tuple" = none) (R_fillings_of : Rdy P w K mg base xc 15 "fillings_of" ["shape"] dn_fillings_of) : Rdy P w K mg base xc 16 "fillings" ["shape"] dn_fillings := by
  refine rdy_of F sc_fillings gm (F.bindsN (fun _ _ _ _ _ _ us hl => match us, hl with | [_], _ => rfl)) rfl (fun cdv A outer s H E hr => ?_)
  have nd := sc_fillings.nd
  exact dss_one (ds_ret (de_callTy cd_tuple rfl m_tuple bt_tuple (da_cons (de_callB (cd_sort2 hr) rfl m_sorted bt_sorted (da_cons (de_callR tkD R_fillings_of hr (da_cons (de_var 0) (da_nil))) (da_nil))) (da_nil))))
/-! ### is_number -/
abbrev s_is_number : Stmt := topS 9
abbrev N_is_number : List Str := ["thing", "low", "high"]
theorem sc_is_number : FnScope N_is_number ["thing", "low", "high"] (defScope s_is_number) := ⟨rfl, rfl, rfl, by decide +kernel, rfl, by decide +kernel, by decide +kernel⟩
def b_is_number : DEnv → Out :=
  sRet (xAndV (xIsi isIntD (xVar 0)) (xAndV (xNotV (xIsi isBoolD (xVar 0))) (xChain leD leD (xVar 1) (xVar 0) (xVar 2))))
def dn_is_number : List D → Res D := fnD N_is_number 3 b_is_number
theorem rd_is_number {f : Addr} {fd : FuncData} (F : FnP K "is_number" s_is_number f fd) (gm : mg "is_number" = some (.ref f)) (m_bool : mg "bool" = none) (m_int : mg "int" = none) (m_isinstance : mg "isinstance" = none) : Rdy P w K mg base xc 1 "is_number" ["thing", "low", "high"] dn_is_number := by
  refine rdy_of F sc_is_number gm (F.bindsN (fun _ _ _ _ _ _ us hl => match us, hl with | [_, _, _], _ => rfl)) rfl (fun cdv A outer s H E hr => ?_)
  have nd := sc_is_number.nd
  exact dss_one (ds_ret (de_and (de_isi isi_int bt_int rfl m_isinstance rfl m_int (de_var 0)) (de_and (de_not (de_isi isi_bool bt_bool rfl m_isinstance rfl m_bool (de_var 0))) (de_one (de_chain opd_le opd_le (de_var 1) (de_var 0) (de_var 2))))))
/-! ### are_numbers -/
abbrev s_are_numbers : Stmt := topS 10
abbrev N_are_numbers : List Str := ["thing", "part"]
theorem sc_are_numbers : FnScope N_are_numbers ["thing"] (defScope s_are_numbers) := ⟨rfl, rfl, rfl, by decide +kernel, rfl, by decide +kernel, by decide +kernel⟩
def b_are_numbers : DEnv → Out :=
  sRet (xAndV (xIsi isTupleD (xVar 0)) (xCall (on1 allD) (xCons (xLc (xItems (xVar 0)) (yName 1) (xYes) (xCall dn_is_number (xCons (xVar 1) (xCons (xC (PyData.int 1)) (xCons (xC (PyData.int 12)) (xNil))))) [1]) (xNil))))
def dn_are_numbers : List D → Res D := fnD N_are_numbers 1 b_are_numbers
theorem rd_are_numbers {f : Addr} {fd : FuncData} (F : FnP K "are_numbers" s_are_numbers f fd) (gm : mg "are_numbers" = some (.ref f)) (m_all : mg "all" = none) (m_isinstance : mg "isinstance" = none) (m_tuple : mg "tuple" = none) (g_MOST : ∃ t, mg "MOST" = some (.int 12 t)) (R_is_number : Rdy P w K mg base xc 1 "is_number" ["thing", "low", "high"] dn_is_number) : Rdy P w K mg base xc 2 "are_numbers" ["thing"] dn_are_numbers := by
  refine rdy_of F sc_are_numbers gm (F.bindsN (fun _ _ _ _ _ _ us hl => match us, hl with | [_], _ => rfl)) rfl (fun cdv A outer s H E hr => ?_)
  have nd := sc_are_numbers.nd
  exact dss_one (ds_ret (de_and (de_isi isi_tuple bt_tuple rfl m_isinstance rfl m_tuple (de_var 0)) (de_one (de_callB (cd_all rfl) rfl m_all bt_all (da_cons (de_lc [("part", 1)] rfl nd (di_seq (de_var 0)) (blkOk_by (own := [("part", 1)]) (N := N_are_numbers) (by kernel_rfl)) (fun _ _ _ _ _ => dg_name 1 nd) (fun _ _ _ _ _ => dts_nil) (fun _ _ _ _ _ => de_callR tk0 R_is_number hr (da_cons (de_var 1) (da_cons (de_int) (da_cons (de_glob (v := .int 12) rfl g_MOST.choose_spec ⟨_, rfl⟩ (fun _ => .int _)) (da_nil)))))) (da_nil))))))
/-! ### falls -/
abbrev s_falls : Stmt := topS 11
abbrev N_falls : List Str := ["row", "one", "other"]
theorem sc_falls : FnScope N_falls ["row"] (defScope s_falls) := ⟨rfl, rfl, rfl, by decide +kernel, rfl, by decide +kernel, by decide +kernel⟩
def b_falls : DEnv → Out :=
  sRet (xCall (on1 allD) (xCons (xLc (xIt zipD (xCons (xSl (xVar 0) (xNoPart) (xPart (xNeg (xC (PyData.int 1))))) (xCons (xSl (xVar 0) (xPart (xC (PyData.int 1))) (xNoPart)) (xNil)))) (yTup 2 (yCons (yName 1) (yCons (yName 2) (yNil)))) (xYes) (xOp geD (xVar 1) (xVar 2)) [1, 2]) (xNil)))
def dn_falls : List D → Res D := fnD N_falls 1 b_falls
theorem rd_falls {f : Addr} {fd : FuncData} (F : FnP K "falls" s_falls f fd) (gm : mg "falls" = some (.ref f)) (m_all : mg "all" = none) (m_zip : mg "zip" = none) : Rdy P w K mg base xc 1 "falls" ["row"] dn_falls := by
  refine rdy_of F sc_falls gm (F.bindsN (fun _ _ _ _ _ _ us hl => match us, hl with | [_], _ => rfl)) rfl (fun cdv A outer s H E hr => ?_)
  have nd := sc_falls.nd
  exact dss_one (ds_ret (de_callB (cd_all rfl) rfl m_all bt_all (da_cons (de_lc [("one", 1), ("other", 2)] rfl nd (di_zip rfl m_zip (da_cons (de_sl (de_var 0) (do_none) (do_some (de_neg (de_int)))) (da_cons (de_sl (de_var 0) (do_some (de_int)) (do_none)) (da_nil)))) (blkOk_by (own := [("one", 1), ("other", 2)]) (N := N_falls) (by kernel_rfl)) (fun _ _ _ _ _ => dg_tup rfl (dgs_cons (dg_name 1 nd) (dgs_cons (dg_name 2 nd) (dgs_nil)))) (fun _ _ _ _ _ => dts_nil) (fun _ _ _ _ _ => de_cmp opd_ge (de_var 1) (de_var 2) (nomark _))) (da_nil))))
/-! ### stands_on -/
abbrev s_stands_on : Stmt := topS 12
abbrev N_stands_on : List Str := ["low", "high", "one", "other"]
theorem sc_stands_on : FnScope N_stands_on ["low", "high"] (defScope s_stands_on) := ⟨rfl, rfl, rfl, by decide +kernel, rfl, by decide +kernel, by decide +kernel⟩
def b_stands_on : DEnv → Out :=
  sRet (xAndV (xOp leD (xCall (on1 lenD) (xCons (xVar 0) (xNil))) (xCall (on1 lenD) (xCons (xVar 1) (xNil)))) (xCall (on1 allD) (xCons (xLc (xIt zipD (xCons (xVar 1) (xCons (xVar 0) (xNil)))) (yTup 2 (yCons (yName 2) (yCons (yName 3) (yNil)))) (xYes) (xOp ltD (xVar 2) (xVar 3)) [2, 3]) (xNil))))
def dn_stands_on : List D → Res D := fnD N_stands_on 2 b_stands_on
theorem rd_stands_on {f : Addr} {fd : FuncData} (F : FnP K "stands_on" s_stands_on f fd) (gm : mg "stands_on" = some (.ref f)) (m_all : mg "all" = none) (m_len : mg "len" = none) (m_zip : mg "zip" = none) : Rdy P w K mg base xc 1 "stands_on" ["low", "high"] dn_stands_on := by
  refine rdy_of F sc_stands_on gm (F.bindsN (fun _ _ _ _ _ _ us hl => match us, hl with | [_, _], _ => rfl)) rfl (fun cdv A outer s H E hr => ?_)
  have nd := sc_stands_on.nd
  exact dss_one (ds_ret (de_and (de_cmp opd_le (de_callB cd_len rfl m_len bt_len (da_cons (de_var 0) (da_nil))) (de_callB cd_len rfl m_len bt_len (da_cons (de_var 1) (da_nil))) (nomark _)) (de_one (de_callB (cd_all rfl) rfl m_all bt_all (da_cons (de_lc [("one", 2), ("other", 3)] rfl nd (di_zip rfl m_zip (da_cons (de_var 1) (da_cons (de_var 0) (da_nil)))) (blkOk_by (own := [("one", 2), ("other", 3)]) (N := N_stands_on) (by kernel_rfl)) (fun _ _ _ _ _ => dg_tup rfl (dgs_cons (dg_name 2 nd) (dgs_cons (dg_name 3 nd) (dgs_nil)))) (fun _ _ _ _ _ => dts_nil) (fun _ _ _ _ _ => de_cmp opd_lt (de_var 2) (de_var 3) (nomark _))) (da_nil))))))
/-! ### is_filling -/
abbrev s_is_filling : Stmt := topS 13
abbrev N_is_filling : List Str := ["thing", "row", "high", "low"]
theorem sc_is_filling : FnScope N_is_filling ["thing"] (defScope s_is_filling) := ⟨rfl, rfl, rfl, by decide +kernel, rfl, by decide +kernel, by decide +kernel⟩
def b_is_filling_2 : DEnv → Out :=
  sRet (xCall (on1 allD) (xCons (xLc (xIt zipD (xCons (xSl (xVar 0) (xNoPart) (xPart (xNeg (xC (PyData.int 1))))) (xCons (xSl (xVar 0) (xPart (xC (PyData.int 1))) (xNoPart)) (xNil)))) (yTup 2 (yCons (yName 2) (yCons (yName 3) (yNil)))) (xYes) (xCall dn_stands_on (xCons (xVar 3) (xCons (xVar 2) (xNil)))) [2, 3]) (xNil)))
def b_is_filling_1 : DEnv → Out :=
  sSeq (sIf (xOr (xNot (xB (xCall (on1 allD) (xCons (xLc (xItems (xVar 0)) (yName 1) (xYes) (xCall dn_falls (xCons (xRev (xVar 1)) (xNil))) [1]) (xNil))))) (xB (xOp gtD (xCall (on1 sumD) (xCons (xLc (xItems (xVar 0)) (yName 1) (xYes) (xCall (on1 lenD) (xCons (xVar 1) (xNil))) [1]) (xNil))) (xC (PyData.int 12))))) (sRet (xC (PyData.bool false))) (sNext))
    (b_is_filling_2)
def b_is_filling : DEnv → Out :=
  sSeq (sIf (xOr (xNot (xB (xIsi isTupleD (xVar 0)))) (xNot (xB (xCall (on1 allD) (xCons (xLc (xItems (xVar 0)) (yName 1) (xYes) (xAndV (xCall dn_are_numbers (xCons (xVar 1) (xNil))) (xOp gtD (xCall (on1 lenD) (xCons (xVar 1) (xNil))) (xC (PyData.int 0)))) [1]) (xNil)))))) (sRet (xC (PyData.bool false))) (sNext))
    (b_is_filling_1)
def dn_is_filling : List D → Res D := fnD N_is_filling 1 b_is_filling
theorem rd_is_filling {f : Addr} {fd : FuncData} (F : FnP K "is_filling" s_is_filling f fd) (gm : mg "is_filling" = some (.ref f)) (m_all : mg "all" = none) (m_isinstance : mg "isinstance" = none) (m_len : mg "len" = none) (m_sum : mg "sum" = none) (m_tuple : mg "tuple" = none) (m_zip : mg "zip" = none) (g_MOST : ∃ t, mg "MOST" = some (.int 12 t)) (R_stands_on : Rdy P w K mg base xc 1 "stands_on" ["low", "high"] dn_stands_on) (R_falls : Rdy P w K mg base xc 1 "falls" ["row"] dn_falls) (R_are_numbers : Rdy P w K mg base xc 2 "are_numbers" ["thing"] dn_are_numbers) : Rdy P w K mg base xc 3 "is_filling" ["thing"] dn_is_filling := by
  refine rdy_of F sc_is_filling gm (F.bindsN (fun _ _ _ _ _ _ us hl => match us, hl with | [_], _ => rfl)) rfl (fun cdv A outer s H E hr => ?_)
  have nd := sc_is_filling.nd
  exact dss_cons (ds_if (DW.t (dw_or (dt_not (dt_val (b := false) (de_isi isi_tuple bt_tuple rfl m_isinstance rfl m_tuple (de_var 0)))) (dw_or1 (dt_not (dt_val (b := false) (de_callB (cd_all rfl) rfl m_all bt_all (da_cons (de_lc [("row", 1)] rfl nd (di_seq (de_var 0)) (blkOk_by (own := [("row", 1)]) (N := N_is_filling) (by kernel_rfl)) (fun _ _ _ _ _ => dg_name 1 nd) (fun _ _ _ _ _ => dts_nil) (fun _ _ _ _ _ => de_and (de_callR tk0 R_are_numbers hr (da_cons (de_var 1) (da_nil))) (de_one (de_cmp opd_gt (de_callB cd_len rfl m_len bt_len (da_cons (de_var 1) (da_nil))) (de_int) (nomark _))))) (da_nil)))))))) (dss_one (ds_ret (de_bl))) (dss_nil))
    (dss_cons (ds_if (DW.t (dw_or (dt_not (dt_val (b := false) (de_callB (cd_all rfl) rfl m_all bt_all (da_cons (de_lc [("row", 1)] rfl nd (di_seq (de_var 0)) (blkOk_by (own := [("row", 1)]) (N := N_is_filling) (by kernel_rfl)) (fun _ _ _ _ _ => dg_name 1 nd) (fun _ _ _ _ _ => dts_nil) (fun _ _ _ _ _ => de_callR tk0 R_falls hr (da_cons (de_rev (de_var 1)) (da_nil)))) (da_nil))))) (dw_or1 (dt_cmp opd_gt (de_callB (cd_sum rfl) rfl m_sum bt_sum (da_cons (de_lc [("row", 1)] rfl nd (di_seq (de_var 0)) (blkOk_by (own := [("row", 1)]) (N := N_is_filling) (by kernel_rfl)) (fun _ _ _ _ _ => dg_name 1 nd) (fun _ _ _ _ _ => dts_nil) (fun _ _ _ _ _ => de_callB cd_len rfl m_len bt_len (da_cons (de_var 1) (da_nil)))) (da_nil))) (de_glob (v := .int 12) rfl g_MOST.choose_spec ⟨_, rfl⟩ (fun _ => .int _)) (nomark _))))) (dss_one (ds_ret (de_bl))) (dss_nil))
    (dss_one (ds_ret (de_callB (cd_all rfl) rfl m_all bt_all (da_cons (de_lc [("high", 2), ("low", 3)] rfl nd (di_zip rfl m_zip (da_cons (de_sl (de_var 0) (do_none) (do_some (de_neg (de_int)))) (da_cons (de_sl (de_var 0) (do_some (de_int)) (do_none)) (da_nil)))) (blkOk_by (own := [("high", 2), ("low", 3)]) (N := N_is_filling) (by kernel_rfl)) (fun _ _ _ _ _ => dg_tup rfl (dgs_cons (dg_name 2 nd) (dgs_cons (dg_name 3 nd) (dgs_nil)))) (fun _ _ _ _ _ => dts_nil) (fun _ _ _ _ _ => de_callR tk0 R_stands_on hr (da_cons (de_var 3) (da_cons (de_var 2) (da_nil))))) (da_nil))))))
/-! ### all_numbers -/
abbrev s_all_numbers : Stmt := topS 14
abbrev N_all_numbers : List Str := ["filling", "found", "row"]
theorem sc_all_numbers : FnScope N_all_numbers ["filling"] (defScope s_all_numbers) := ⟨rfl, rfl, rfl, by decide +kernel, rfl, by decide +kernel, by decide +kernel⟩
def b_all_numbers_2 : DEnv → Out :=
  sRet (xVar 1)
def b_all_numbers_F1 : DEnv → Out :=
  sAsg (xOp addD (xVar 1) (xVar 2)) (yName 1)
def b_all_numbers_1 : DEnv → Out :=
  sSeq (sFor (xItems (xVar 0)) (yName 2) (b_all_numbers_F1) [0, 2])
    (sKill [0, 2] (b_all_numbers_2))
def b_all_numbers : DEnv → Out :=
  sSeq (sAsg (xTup (xNil)) (yName 1))
    (b_all_numbers_1)
def dn_all_numbers : List D → Res D := fnD N_all_numbers 1 b_all_numbers
theorem rd_all_numbers {f : Addr} {fd : FuncData} (F : FnP K "all_numbers" s_all_numbers f fd) (gm : mg "all_numbers" = some (.ref f)) : Rdy P w K mg base xc 1 "all_numbers" ["filling"] dn_all_numbers := by
  refine rdy_of F sc_all_numbers gm (F.bindsN (fun _ _ _ _ _ _ us hl => match us, hl with | [_], _ => rfl)) rfl (fun cdv A outer s H E hr => ?_)
  have nd := sc_all_numbers.nd
  exact dss_cons (ds_set 1 nd (de_tup (da_nil)))
    (dss_cons (ds_for [0, 2] passD rfl (di_seq (de_var 0)) (dg_name 2 nd) (dss_one (ds_set 1 nd (de_op opd_add (de_var 1) (de_var 2)))))
    (dss_kill [0, 2] (dss_one (ds_ret (de_var 1)))))
/-! ### is_counted -/
abbrev s_is_counted : Stmt := topS 15
abbrev N_is_counted : List Str := ["thing", "numbers"]
theorem sc_is_counted : FnScope N_is_counted ["thing"] (defScope s_is_counted) := ⟨rfl, rfl, rfl, by decide +kernel, rfl, by decide +kernel, by decide +kernel⟩
def b_is_counted_2 : DEnv → Out :=
  sRet (xOp eqD (xCall (on1 sort2D) (xCons (xVar 1) (xNil))) (xListRg2 (xC (PyData.int 1)) (xOp addD (xCall (on1 lenD) (xCons (xVar 1) (xNil))) (xC (PyData.int 1)))))
def b_is_counted_1 : DEnv → Out :=
  sSeq (sAsg (xCall dn_all_numbers (xCons (xVar 0) (xNil))) (yName 1))
    (sKill [0] (b_is_counted_2))
def b_is_counted : DEnv → Out :=
  sSeq (sIf (xNot (xB (xCall dn_is_filling (xCons (xVar 0) (xNil))))) (sRet (xC (PyData.bool false))) (sNext))
    (b_is_counted_1)
def dn_is_counted : List D → Res D := fnD N_is_counted 1 b_is_counted
theorem rd_is_counted {f : Addr} {fd : FuncData} (F : FnP K "is_counted" s_is_counted f fd) (gm : mg "is_counted" = some (.ref f)) (m_len : mg "len" = none) (m_list : mg "list" = none) (m_range : mg "range" = none) (m_sorted : mg "sorted" = none) (R_all_numbers : Rdy P w K mg base xc 1 "all_numbers" ["filling"] dn_all_numbers) (R_is_filling : Rdy P w K mg base xc 3 "is_filling" ["thing"] dn_is_filling) : Rdy P w K mg base xc 4 "is_counted" ["thing"] dn_is_counted := by
  refine rdy_of F sc_is_counted gm (F.bindsN (fun _ _ _ _ _ _ us hl => match us, hl with | [_], _ => rfl)) rfl (fun cdv A outer s H E hr => ?_)
  have nd := sc_is_counted.nd
  exact dss_cons (ds_if (dt_not (dt_val (b := false) (de_callR tkD R_is_filling hr (da_cons (de_var 0) (da_nil))))) (dss_one (ds_ret (de_bl))) (dss_nil))
    (dss_cons (ds_set 1 nd (de_callR tkD R_all_numbers hr (da_cons (de_var 0) (da_nil))))
    (dss_kill [0] (dss_one (ds_ret (de_cmp (opd_eq hr) (de_callB (cd_sort2 hr) rfl m_sorted bt_sorted (da_cons (de_var 1) (da_nil))) (de_listRange2 rfl m_list rfl m_range (de_int) (de_op opd_add (de_callB cd_len rfl m_len bt_len (da_cons (de_var 1) (da_nil))) (de_int))) (nomark _))))))
/-! ### shape_of -/
abbrev s_shape_of : Stmt := topS 16
abbrev N_shape_of : List Str := ["filling", "row"]
theorem sc_shape_of : FnScope N_shape_of ["filling"] (defScope s_shape_of) := ⟨rfl, rfl, rfl, by decide +kernel, rfl, by decide +kernel, by decide +kernel⟩
def b_shape_of : DEnv → Out :=
  sRet (xCall (on1 tupleD) (xCons (xLc (xItems (xVar 0)) (yName 1) (xYes) (xCall (on1 lenD) (xCons (xVar 1) (xNil))) [1]) (xNil)))
def dn_shape_of : List D → Res D := fnD N_shape_of 1 b_shape_of
theorem rd_shape_of {f : Addr} {fd : FuncData} (F : FnP K "shape_of" s_shape_of f fd) (gm : mg "shape_of" = some (.ref f)) (m_len : mg "len" = none) (m_tuple : mg "tuple" = none) : Rdy P w K mg base xc 1 "shape_of" ["filling"] dn_shape_of := by
  refine rdy_of F sc_shape_of gm (F.bindsN (fun _ _ _ _ _ _ us hl => match us, hl with | [_], _ => rfl)) rfl (fun cdv A outer s H E hr => ?_)
  have nd := sc_shape_of.nd
  exact dss_one (ds_ret (de_callTy cd_tuple rfl m_tuple bt_tuple (da_cons (de_lc [("row", 1)] rfl nd (di_seq (de_var 0)) (blkOk_by (own := [("row", 1)]) (N := N_shape_of) (by kernel_rfl)) (fun _ _ _ _ _ => dg_name 1 nd) (fun _ _ _ _ _ => dts_nil) (fun _ _ _ _ _ => de_callB cd_len rfl m_len bt_len (da_cons (de_var 1) (da_nil)))) (da_nil))))
/-! ### _law_cell_at -/
abbrev s__law_cell_at : Stmt := topS 18
abbrev N__law_cell_at : List Str := ["script", "k"]
theorem sc__law_cell_at : FnScope N__law_cell_at ["script", "k"] (defScope s__law_cell_at) := ⟨rfl, rfl, rfl, by decide +kernel, rfl, by decide +kernel, by decide +kernel⟩
def b__law_cell_at_1 : DEnv → Out :=
  sRet (xC (PyData.int 0))
def b__law_cell_at : DEnv → Out :=
  sSeq (sIf (xB (xOp ltD (xVar 1) (xCall (on1 lenD) (xCons (xVar 0) (xNil))))) (sRet (xOp ixD (xVar 0) (xVar 1))) (sNext))
    (sKill [0, 1] (b__law_cell_at_1))
def dn__law_cell_at : List D → Res D := fnD N__law_cell_at 2 b__law_cell_at
theorem rd__law_cell_at {f : Addr} {fd : FuncData} (F : FnP K "_law_cell_at" s__law_cell_at f fd) (gm : mg "_law_cell_at" = some (.ref f)) (m_len : mg "len" = none) : Rdy P w K mg base xc 1 "_law_cell_at" ["script", "k"] dn__law_cell_at := by
  refine rdy_of F sc__law_cell_at gm (F.bindsN (fun _ _ _ _ _ _ us hl => match us, hl with | [_, _], _ => rfl)) rfl (fun cdv A outer s H E hr => ?_)
  have nd := sc__law_cell_at.nd
  exact dss_cons (ds_if (dt_cmp opd_lt (de_var 1) (de_callB cd_len rfl m_len bt_len (da_cons (de_var 0) (da_nil))) (nomark _)) (dss_one (ds_ret (de_ix (de_var 0) (de_var 1)))) (dss_nil))
    (dss_kill [0, 1] (dss_one (ds_ret (de_int))))
/-! ### _law_mixed -/
abbrev s__law_mixed : Stmt := topS 19
abbrev N__law_mixed : List Str := ["script", "k", "drawn"]
theorem sc__law_mixed : FnScope N__law_mixed ["script", "k"] (defScope s__law_mixed) := ⟨rfl, rfl, rfl, by decide +kernel, rfl, by decide +kernel, by decide +kernel⟩
def b__law_mixed_1 : DEnv → Out :=
  sRet (xOp modD (xOp addD (xOp addD (xOp mulD (xVar 2) (xVar 2)) (xOp mulD (xC (PyData.int 7)) (xVar 2))) (xVar 1)) (xC (PyData.int 2147483629)))
def b__law_mixed : DEnv → Out :=
  sSeq (sAsg (xOp modD (xOp mulD (xOp addD (xOp addD (xCall dn__law_cell_at (xCons (xVar 0) (xCons (xVar 1) (xNil)))) (xOp mulD (xC (PyData.int 7919)) (xVar 1))) (xC (PyData.int 1))) (xC (PyData.int 48271))) (xC (PyData.int 2147483647))) (yName 2))
    (sKill [0] (b__law_mixed_1))
def dn__law_mixed : List D → Res D := fnD N__law_mixed 2 b__law_mixed
theorem rd__law_mixed {f : Addr} {fd : FuncData} (F : FnP K "_law_mixed" s__law_mixed f fd) (gm : mg "_law_mixed" = some (.ref f)) (R__law_cell_at : Rdy P w K mg base xc 1 "_law_cell_at" ["script", "k"] dn__law_cell_at) : Rdy P w K mg base xc 2 "_law_mixed" ["script", "k"] dn__law_mixed := by
  refine rdy_of F sc__law_mixed gm (F.bindsN (fun _ _ _ _ _ _ us hl => match us, hl with | [_, _], _ => rfl)) rfl (fun cdv A outer s H E hr => ?_)
  have nd := sc__law_mixed.nd
  exact dss_cons (ds_set 2 nd (de_op opd_mod (de_op opd_mul (de_op opd_add (de_op opd_add (de_callR tkD R__law_cell_at hr (da_cons (de_var 0) (da_cons (de_var 1) (da_nil)))) (de_op opd_mul (de_int) (de_var 1))) (de_int)) (de_int)) (de_int)))
    (dss_kill [0] (dss_one (ds_ret (de_op opd_mod (de_op opd_add (de_op opd_add (de_op opd_mul (de_var 2) (de_var 2)) (de_op opd_mul (de_int) (de_var 2))) (de_var 1)) (de_int)))))
/-! ### _law_drawn -/
abbrev s__law_drawn : Stmt := topS 20
abbrev N__law_drawn : List Str := ["number", "k", "drawn"]
theorem sc__law_drawn : FnScope N__law_drawn ["number", "k"] (defScope s__law_drawn) := ⟨rfl, rfl, rfl, by decide +kernel, rfl, by decide +kernel, by decide +kernel⟩
def b__law_drawn_1 : DEnv → Out :=
  sRet (xOp modD (xOp addD (xOp addD (xOp mulD (xVar 2) (xVar 2)) (xOp mulD (xC (PyData.int 3)) (xVar 2))) (xVar 1)) (xC (PyData.int 2147483629)))
def b__law_drawn : DEnv → Out :=
  sSeq (sAsg (xOp modD (xOp mulD (xOp addD (xOp addD (xVar 0) (xOp mulD (xC (PyData.int 104729)) (xVar 1))) (xC (PyData.int 17))) (xC (PyData.int 69621))) (xC (PyData.int 2147483647))) (yName 2))
    (sKill [0] (b__law_drawn_1))
def dn__law_drawn : List D → Res D := fnD N__law_drawn 2 b__law_drawn
theorem rd__law_drawn {f : Addr} {fd : FuncData} (F : FnP K "_law_drawn" s__law_drawn f fd) (gm : mg "_law_drawn" = some (.ref f)) : Rdy P w K mg base xc 1 "_law_drawn" ["number", "k"] dn__law_drawn := by
  refine rdy_of F sc__law_drawn gm (F.bindsN (fun _ _ _ _ _ _ us hl => match us, hl with | [_, _], _ => rfl)) rfl (fun cdv A outer s H E hr => ?_)
  have nd := sc__law_drawn.nd
  exact dss_cons (ds_set 2 nd (de_op opd_mod (de_op opd_mul (de_op opd_add (de_op opd_add (de_var 0) (de_op opd_mul (de_int) (de_var 1))) (de_int)) (de_int)) (de_int)))
    (dss_kill [0] (dss_one (ds_ret (de_op opd_mod (de_op opd_add (de_op opd_add (de_op opd_mul (de_var 2) (de_var 2)) (de_op opd_mul (de_int) (de_var 2))) (de_var 1)) (de_int)))))
/-! ### _law_word -/
abbrev s__law_word : Stmt := topS 21
abbrev N__law_word : List Str := ["number", "most", "wide", "found", "k"]
theorem sc__law_word : FnScope N__law_word ["number", "most"] (defScope s__law_word) := ⟨rfl, rfl, rfl, by decide +kernel, rfl, by decide +kernel, by decide +kernel⟩
def b__law_word_3 : DEnv → Out :=
  sRet (xCall (on1 tupleD) (xCons (xOwn 3) (xNil)))
def b__law_word_F1 : DEnv → Out :=
  sApp 3 (xOp addD (xC (PyData.int 1)) (xOp modD (xCall dn__law_drawn (xCons (xVar 0) (xCons (xVar 4) (xNil)))) (xVar 2)))
def b__law_word_2 : DEnv → Out :=
  sSeq (sFor (xIt range1D (xCons (xOp modD (xOp fdivD (xVar 0) (xC (PyData.int 4))) (xOp addD (xVar 1) (xC (PyData.int 1)))) (xNil))) (yName 4) (b__law_word_F1) [1, 4])
    (sKill [0, 1, 2, 4] (b__law_word_3))
def b__law_word_1 : DEnv → Out :=
  sSeq (sNewOwn 3 (fun ρ => ((xNil) ρ).bind okLen))
    (b__law_word_2)
def b__law_word : DEnv → Out :=
  sSeq (sAsg (xOp ixD (xTup (xCons (xC (PyData.int 2)) (xCons (xC (PyData.int 3)) (xCons (xC (PyData.int 5)) (xCons (xC (PyData.int 12)) (xNil)))))) (xOp modD (xVar 0) (xC (PyData.int 4)))) (yName 2))
    (b__law_word_1)
def dn__law_word : List D → Res D := fnD N__law_word 2 b__law_word
theorem rd__law_word {f : Addr} {fd : FuncData} (F : FnP K "_law_word" s__law_word f fd) (gm : mg "_law_word" = some (.ref f)) (m_range : mg "range" = none) (m_tuple : mg "tuple" = none) (R__law_drawn : Rdy P w K mg base xc 1 "_law_drawn" ["number", "k"] dn__law_drawn) : Rdy P w K mg base xc 2 "_law_word" ["number", "most"] dn__law_word := by
  refine rdy_of F sc__law_word gm (F.bindsN (fun _ _ _ _ _ _ us hl => match us, hl with | [_, _], _ => rfl)) rfl (fun cdv A outer s H E hr => ?_)
  have nd := sc__law_word.nd
  exact dss_cons (ds_set 2 nd (de_ix (de_tup (da_cons (de_int) (da_cons (de_int) (da_cons (de_int) (da_cons (de_int) (da_nil)))))) (de_op opd_mod (de_var 0) (de_int))))
    (dss_cons (ds_newOwn 3 nd (df_lst (da_nil)))
    (dss_cons (ds_for [1, 4] passD rfl (di_range1 rfl m_range (da_cons (de_op opd_mod (de_op opd_fdiv (de_var 0) (de_int)) (de_op opd_add (de_var 1) (de_int))) (da_nil))) (dg_name 4 nd) (dss_one (ds_app 3 (de_op opd_add (de_int) (de_op opd_mod (de_callR tkD R__law_drawn hr (da_cons (de_var 0) (da_cons (de_var 4) (da_nil)))) (de_var 2))))))
    (dss_kill [0, 1, 2, 4] (dss_one (ds_ret (de_callTy cd_tuple rfl m_tuple bt_tuple (da_cons (de_own 3) (da_nil))))))))
/-! ### _law_put -/
abbrev s__law_put : Stmt := topS 22
abbrev N__law_put : List Str := ["rows", "number", "left", "found", "new", "at", "row", "more", "less", "other", "rest"]
theorem sc__law_put : FnScope N__law_put ["rows", "number"] (defScope s__law_put) := ⟨rfl, rfl, rfl, by decide +kernel, rfl, by decide +kernel, by decide +kernel⟩
def b__law_put_5 : DEnv → Out :=
  sRet (xTup (xCons (xCall (on1 tupleD) (xCons (xOwn 3) (xNil))) (xCons (xVar 4) (xNil))))
def b__law_put_4 : DEnv → Out :=
  sSeq (sIf (xB (xOp isNotD (xVar 2) (xC PyData.none))) (sApp 3 (xTup (xCons (xVar 2) (xNil)))) (sNext))
    (sKill [2] (b__law_put_5))
def b__law_put_F1 : DEnv → Out :=
  sSeq (sAsg (xVar 6) (yName 7))
    (sSeq (sIf (xB (xOp isNotD (xVar 2) (xC PyData.none))) (sSeq (sAsg (xLc (xItems (xVar 6)) (yName 9) (xB (xOp leD (xVar 9) (xVar 2))) (xVar 9) [9]) (yName 8))
    (sSeq (sAsg (xLc (xItems (xVar 6)) (yName 9) (xB (xOp gtD (xVar 9) (xVar 2))) (xVar 9) [9]) (yName 10))
    (sKill [6] (sSeq (sAsg (xCall (on1 tupleD) (xCons (xOp addD (xOp addD (xVar 8) (xLst (xCons (xVar 2) (xNil)))) (xSl (xVar 10) (xPart (xC (PyData.int 1))) (xNoPart))) (xNil))) (yName 7))
    (sKill [2, 8] (sSeq (sAsg (xOp ixD (xOp addD (xVar 10) (xLst (xCons (xC PyData.none) (xNil)))) (xC (PyData.int 0))) (yName 2))
    (sKill [10] (sIf (xB (xOp isD (xVar 2) (xC PyData.none))) (sAsg (xVar 5) (yName 4)) (sNext))))))))) (sNext))
    (sKill [5, 6, 8, 10] (sApp 3 (xVar 7))))
def b__law_put_3 : DEnv → Out :=
  sSeq (sFor (xIt enumD (xCons (xVar 0) (xNil))) (yTup 2 (yCons (yName 5) (yCons (yName 6) (yNil)))) (b__law_put_F1) [0, 1, 5, 6, 7, 8, 9, 10])
    (sKill [0, 5, 6, 7, 8, 10] (b__law_put_4))
def b__law_put_2 : DEnv → Out :=
  sSeq (sAsg (xCall (on1 lenD) (xCons (xVar 0) (xNil))) (yName 4))
    (b__law_put_3)
def b__law_put_1 : DEnv → Out :=
  sSeq (sNewOwn 3 (fun ρ => ((xNil) ρ).bind okLen))
    (b__law_put_2)
def b__law_put : DEnv → Out :=
  sSeq (sAsg (xVar 1) (yName 2))
    (sKill [1] (b__law_put_1))
def dn__law_put : List D → Res D := fnD N__law_put 2 b__law_put
theorem rd__law_put {f : Addr} {fd : FuncData} (F : FnP K "_law_put" s__law_put f fd) (gm : mg "_law_put" = some (.ref f)) (m_enumerate : mg "enumerate" = none) (m_len : mg "len" = none) (m_tuple : mg "tuple" = none) : Rdy P w K mg base xc 1 "_law_put" ["rows", "number"] dn__law_put := by
  refine rdy_of F sc__law_put gm (F.bindsN (fun _ _ _ _ _ _ us hl => match us, hl with | [_, _], _ => rfl)) rfl (fun cdv A outer s H E hr => ?_)
  have nd := sc__law_put.nd
  exact dss_cons (ds_set 2 nd (de_var 1))
    (dss_kill [1] (dss_cons (ds_newOwn 3 nd (df_lst (da_nil)))
    (dss_cons (ds_set 4 nd (de_callB cd_len rfl m_len bt_len (da_cons (de_var 0) (da_nil))))
    (dss_cons (ds_for [0, 1, 5, 6, 7, 8, 9, 10] passD rfl (di_enum rfl m_enumerate (da_cons (de_var 0) (da_nil))) (dg_tup rfl (dgs_cons (dg_name 5 nd) (dgs_cons (dg_name 6 nd) (dgs_nil)))) (dss_cons (ds_set 7 nd (de_var 6))
    (dss_cons (ds_if (dt_cmp opd_isNot (de_var 2) (de_non) (nomark _)) (dss_cons (ds_setLc 8 [("other", 9)] rfl nd (di_seq (de_var 6)) (blkOk_by (own := [("other", 9)]) (N := N__law_put) (by kernel_rfl)) (fun _ _ _ _ _ => dg_name 9 nd) (fun _ _ _ _ _ => dts_one (dt_cmp opd_le (de_var 9) (de_var 2) (nomark _))) (fun _ _ _ _ _ => de_var 9) (sw_true rfl rfl rfl (by decide +kernel)))
    (dss_cons (ds_setLc 10 [("other", 9)] rfl nd (di_seq (de_var 6)) (blkOk_by (own := [("other", 9)]) (N := N__law_put) (by kernel_rfl)) (fun _ _ _ _ _ => dg_name 9 nd) (fun _ _ _ _ _ => dts_one (dt_cmp opd_gt (de_var 9) (de_var 2) (nomark _))) (fun _ _ _ _ _ => de_var 9) (sw_true rfl rfl rfl (by decide +kernel)))
    (dss_kill [6] (dss_cons (ds_set 7 nd (de_callTy cd_tuple rfl m_tuple bt_tuple (da_cons (de_op opd_add (de_op opd_add (de_var 8) (de_lst (da_cons (de_var 2) (da_nil)))) (de_sl (de_var 10) (do_some (de_int)) (do_none))) (da_nil))))
    (dss_kill [2, 8] (dss_cons (ds_set 2 nd (de_ix (de_op opd_add (de_var 10) (de_lst (da_cons (de_non) (da_nil)))) (de_int)))
    (dss_kill [10] (dss_one (ds_if (dt_cmp opd_is (de_var 2) (de_non) (nomark _)) (dss_one (ds_set 4 nd (de_var 5))) (dss_nil)))))))))) (dss_nil))
    (dss_kill [5, 6, 8, 10] (dss_one (ds_app 3 (de_var 7)))))))
    (dss_kill [0, 5, 6, 7, 8, 10] (dss_cons (ds_if (dt_cmp opd_isNot (de_var 2) (de_non) (nomark _)) (dss_one (ds_app 3 (de_tup (da_cons (de_var 2) (da_nil))))) (dss_nil))
    (dss_kill [2] (dss_one (ds_ret (de_tup (da_cons (de_callTy cd_tuple rfl m_tuple bt_tuple (da_cons (de_own 3) (da_nil))) (da_cons (de_var 4) (da_nil)))))))))))))
/-! ### _law_pair -/
abbrev s__law_pair : Stmt := topS 23
abbrev N__law_pair : List Str := ["word", "first", "second", "at", "number", "row"]
theorem sc__law_pair : FnScope N__law_pair ["word"] (defScope s__law_pair) := ⟨rfl, rfl, rfl, by decide +kernel, rfl, by decide +kernel, by decide +kernel⟩
def b__law_pair_3 : DEnv → Out :=
  sRet (xTup (xCons (xVar 1) (xCons (xVar 2) (xNil))))
def b__law_pair_F1 : DEnv → Out :=
  sSeq (sAsg (xCall dn__law_put (xCons (xVar 1) (xCons (xVar 4) (xNil)))) (yTup 2 (yCons (yName 1) (yCons (yName 5) (yNil)))))
    (sKill [4] (sIf (xB (xOp eqD (xVar 5) (xCall (on1 lenD) (xCons (xVar 2) (xNil))))) (sAsg (xOp addD (xVar 2) (xTup (xCons (xTup (xCons (xOp addD (xVar 3) (xC (PyData.int 1))) (xNil))) (xNil)))) (yName 2)) (sAsg (xOp addD (xOp addD (xSl (xVar 2) (xNoPart) (xPart (xVar 5))) (xTup (xCons (xOp addD (xOp ixD (xVar 2) (xVar 5)) (xTup (xCons (xOp addD (xVar 3) (xC (PyData.int 1))) (xNil)))) (xNil)))) (xSl (xVar 2) (xPart (xOp addD (xVar 5) (xC (PyData.int 1)))) (xNoPart))) (yName 2))))
def b__law_pair_2 : DEnv → Out :=
  sSeq (sFor (xIt enumD (xCons (xVar 0) (xNil))) (yTup 2 (yCons (yName 3) (yCons (yName 4) (yNil)))) (b__law_pair_F1) [0, 3, 4, 5])
    (sKill [0, 3, 4, 5] (b__law_pair_3))
def b__law_pair_1 : DEnv → Out :=
  sSeq (sAsg (xTup (xNil)) (yName 2))
    (b__law_pair_2)
def b__law_pair : DEnv → Out :=
  sSeq (sAsg (xTup (xNil)) (yName 1))
    (b__law_pair_1)
def dn__law_pair : List D → Res D := fnD N__law_pair 1 b__law_pair
theorem rd__law_pair {f : Addr} {fd : FuncData} (F : FnP K "_law_pair" s__law_pair f fd) (gm : mg "_law_pair" = some (.ref f)) (m_enumerate : mg "enumerate" = none) (m_len : mg "len" = none) (R__law_put : Rdy P w K mg base xc 1 "_law_put" ["rows", "number"] dn__law_put) : Rdy P w K mg base xc 2 "_law_pair" ["word"] dn__law_pair := by
  refine rdy_of F sc__law_pair gm (F.bindsN (fun _ _ _ _ _ _ us hl => match us, hl with | [_], _ => rfl)) rfl (fun cdv A outer s H E hr => ?_)
  have nd := sc__law_pair.nd
  exact dss_cons (ds_set 1 nd (de_tup (da_nil)))
    (dss_cons (ds_set 2 nd (de_tup (da_nil)))
    (dss_cons (ds_for [0, 3, 4, 5] passD rfl (di_enum rfl m_enumerate (da_cons (de_var 0) (da_nil))) (dg_tup rfl (dgs_cons (dg_name 3 nd) (dgs_cons (dg_name 4 nd) (dgs_nil)))) (dss_cons (ds_asg (de_callR tkD R__law_put hr (da_cons (de_var 1) (da_cons (de_var 4) (da_nil)))) (dg_tup rfl (dgs_cons (dg_name 1 nd) (dgs_cons (dg_name 5 nd) (dgs_nil)))))
    (dss_kill [4] (dss_one (ds_if (dt_cmp (opd_eq hr) (de_var 5) (de_callB cd_len rfl m_len bt_len (da_cons (de_var 2) (da_nil))) (nomark _)) (dss_one (ds_set 2 nd (de_op opd_add (de_var 2) (de_tup (da_cons (de_tup (da_cons (de_op opd_add (de_var 3) (de_int)) (da_nil))) (da_nil)))))) (dss_one (ds_set 2 nd (de_op opd_add (de_op opd_add (de_sl (de_var 2) (do_none) (do_some (de_var 5))) (de_tup (da_cons (de_op opd_add (de_ix (de_var 2) (de_var 5)) (de_tup (da_cons (de_op opd_add (de_var 3) (de_int)) (da_nil)))) (da_nil)))) (de_sl (de_var 2) (do_some (de_op opd_add (de_var 5) (de_int))) (do_none))))))))))
    (dss_kill [0, 3, 4, 5] (dss_one (ds_ret (de_tup (da_cons (de_var 1) (da_cons (de_var 2) (da_nil)))))))))
/-! ### _law_count -/
abbrev s__law_count : Stmt := topS 24
abbrev N__law_count : List Str := ["shape", "known", "found", "at", "row", "less", "part"]
theorem sc__law_count : FnScope N__law_count ["shape", "known"] (defScope s__law_count) := ⟨rfl, rfl, rfl, by decide +kernel, rfl, by decide +kernel, by decide +kernel⟩
def b__law_count_2 (rec : OV → List D → RO) : DEnv → Out :=
  sRetX (xP (xDixO 1 (xVar 0)))
def b__law_count_F1 (rec : OV → List D → RO) : DEnv → Out :=
  sIf (xB (xOp gtD (xVar 4) (xOp ixD (xOp addD (xVar 0) (xTup (xCons (xC (PyData.int 0)) (xNil)))) (xOp addD (xVar 3) (xC (PyData.int 1)))))) (sSeq (sAsg (xOp addD (xOp addD (xSl (xVar 0) (xNoPart) (xPart (xVar 3))) (xTup (xCons (xOp subD (xVar 4) (xC (PyData.int 1))) (xNil)))) (xSl (xVar 0) (xPart (xOp addD (xVar 3) (xC (PyData.int 1)))) (xNoPart))) (yName 5))
    (sKill [3, 4] (sSetX 2 (xOpX addD (xP (xVar 2)) (xCO 1 rec (xCons (xCall (on1 tupleD) (xCons (xLc (xItems (xVar 5)) (yName 6) (xB (xOp gtD (xVar 6) (xC (PyData.int 0)))) (xVar 6) [6]) (xNil))) xNil)))))) (sNext)
def b__law_count_1 (rec : OV → List D → RO) : DEnv → Out :=
  sSeq (sIf (xB (xInO true 1 (xVar 0))) (sSeq (sAsg (xC (PyData.int 0)) (yName 2))
    (sSeq (sFor (xIt enumD (xCons (xVar 0) (xNil))) (yTup 2 (yCons (yName 3) (yCons (yName 4) (yNil)))) (b__law_count_F1 rec) [3, 4, 5, 6])
    (sKill [3, 4, 5] (sDputO 1 (xVar 0) (xVar 2))))) (sNext))
    (sKill [2, 3, 4, 5] (b__law_count_2 rec))
def b__law_count (rec : OV → List D → RO) : DEnv → Out :=
  sSeq (sIf (xB (xOp eqD (xVar 0) (xTup (xNil)))) (sRetX (xP (xC (PyData.int 1)))) (sNext))
    (b__law_count_1 rec)
def dr__law_count (n : Nat) : OV → List D → RO := Nat.rec (motive := fun _ => OV → List D → RO) (fun _ _ => .bad) (fun _ ih => fnO N__law_count 2 1 (b__law_count ih)) n
def dn__law_count : OV → List D → RO := dr__law_count 14
theorem rr__law_count {f : Addr} {fd : FuncData} (F : FnP K "_law_count" s__law_count f fd) (gm : mg "_law_count" = some (.ref f)) (m_enumerate : mg "enumerate" = none) (m_tuple : mg "tuple" = none) : ∀ n : Nat, RdyO P w K mg base xc (0 + n) "_law_count" ["shape", "known"] 1 (dr__law_count n)
  | 0 => rdyO_bad F gm (F.bindsN (fun _ _ _ _ _ _ us hl => match us, hl with | [_, _], _ => rfl))
  | n + 1 => by
    have R_rec := rr__law_count F gm m_enumerate m_tuple n
    refine rdyO_of F sc__law_count gm (F.bindsN (fun _ _ _ _ _ _ us hl => match us, hl with | [_, _], _ => rfl)) rfl (fun cdv A outer s H E hr => ?_)
    have nd := sc__law_count.nd
    exact dss_cons (ds_if (dt_cmp (opd_eq hr) (de_var 0) (de_tup (da_nil)) (nomark _)) (dss_one (ds_retX (dx_pure (de_int)))) (dss_nil))
      (dss_cons (ds_if (dt_ninO 1 hr (de_var 0)) (dss_cons (ds_set 2 nd (de_int))
      (dss_cons (ds_for [3, 4, 5, 6] passD rfl (di_enum rfl m_enumerate (da_cons (de_var 0) (da_nil))) (dg_tup rfl (dgs_cons (dg_name 3 nd) (dgs_cons (dg_name 4 nd) (dgs_nil)))) (dss_one (ds_if (dt_cmp opd_gt (de_var 4) (de_ix (de_op opd_add (de_var 0) (de_tup (da_cons (de_int) (da_nil)))) (de_op opd_add (de_var 3) (de_int))) (nomark _)) (dss_cons (ds_set 5 nd (de_op opd_add (de_op opd_add (de_sl (de_var 0) (do_none) (do_some (de_var 3))) (de_tup (da_cons (de_op opd_sub (de_var 4) (de_int)) (da_nil)))) (de_sl (de_var 0) (do_some (de_op opd_add (de_var 3) (de_int))) (do_none))))
      (dss_kill [3, 4] (dss_one (ds_setX 2 nd (dx_op opd_add (dx_pure (de_var 2)) (dx_callO1 1 tkD R_rec hr (de_callTy cd_tuple rfl m_tuple bt_tuple (da_cons (de_lc [("part", 6)] rfl nd (di_seq (de_var 5)) (blkOk_by (own := [("part", 6)]) (N := N__law_count) (by kernel_rfl)) (fun _ _ _ _ _ => dg_name 6 nd) (fun _ _ _ _ _ => dts_one (dt_cmp opd_gt (de_var 6) (de_int) (nomark _))) (fun _ _ _ _ _ => de_var 6)) (da_nil))) (Nat.le_refl _))))))) (dss_nil))))
      (dss_kill [3, 4, 5] (dss_one (ds_dputO 1 hr (de_var 2) (de_var 0)))))) (dss_nil))
      (dss_kill [2, 3, 4, 5] (dss_one (ds_retX (dx_pure (de_dixO 1 hr (de_var 0)))))))
theorem rd__law_count {f : Addr} {fd : FuncData} (F : FnP K "_law_count" s__law_count f fd) (gm : mg "_law_count" = some (.ref f)) (m_enumerate : mg "enumerate" = none) (m_tuple : mg "tuple" = none) : RdyO P w K mg base xc 14 "_law_count" ["shape", "known"] 1 dn__law_count := rr__law_count F gm m_enumerate m_tuple 14
/-! ### _law_shapes -/
abbrev s__law_shapes : Stmt := topS 25
abbrev N__law_shapes : List Str := ["many", "most", "found", "row", "rest"]
theorem sc__law_shapes : FnScope N__law_shapes ["many", "most"] (defScope s__law_shapes) := ⟨rfl, rfl, rfl, by decide +kernel, rfl, by decide +kernel, by decide +kernel⟩
def b__law_shapes_3 (rec : List D → Res D) : DEnv → Out :=
  sRet (xVar 2)
def b__law_shapes_F1 (rec : List D → Res D) : DEnv → Out :=
  sAsg (xOp addD (xVar 2) (xLc (xItems (xCall rec (xCons (xOp subD (xVar 0) (xVar 3)) (xCons (xVar 3) (xNil))))) (yName 4) (xYes) (xOp addD (xTup (xCons (xVar 3) (xNil))) (xVar 4)) [4])) (yName 2)
def b__law_shapes_2 (rec : List D → Res D) : DEnv → Out :=
  sSeq (sFor (xIt range2D (xCons (xC (PyData.int 1)) (xCons (xOp addD (xCall (on2 min2D) (xCons (xVar 0) (xCons (xVar 1) (xNil)))) (xC (PyData.int 1))) (xNil)))) (yName 3) (b__law_shapes_F1 rec) [1, 3, 4])
    (sKill [0, 1, 3] (b__law_shapes_3 rec))
def b__law_shapes_1 (rec : List D → Res D) : DEnv → Out :=
  sSeq (sAsg (xLst (xNil)) (yName 2))
    (b__law_shapes_2 rec)
def b__law_shapes (rec : List D → Res D) : DEnv → Out :=
  sSeq (sIf (xB (xOp eqD (xVar 0) (xC (PyData.int 0)))) (sRet (xLst (xCons (xTup (xNil)) (xNil)))) (sNext))
    (b__law_shapes_1 rec)
def dr__law_shapes (n : Nat) : List D → Res D := Nat.rec (motive := fun _ => List D → Res D) (fun _ => .bad) (fun _ ih => fnD N__law_shapes 2 (b__law_shapes ih)) n
def dn__law_shapes : List D → Res D := dr__law_shapes 14
theorem rr__law_shapes {f : Addr} {fd : FuncData} (F : FnP K "_law_shapes" s__law_shapes f fd) (gm : mg "_law_shapes" = some (.ref f)) (m_min : mg "min" = none) (m_range : mg "range" = none) : ∀ n : Nat, Rdy P w K mg base xc (0 + n) "_law_shapes" ["many", "most"] (dr__law_shapes n)
  | 0 => rdy_bad F gm (F.bindsN (fun _ _ _ _ _ _ us hl => match us, hl with | [_, _], _ => rfl))
  | n + 1 => by
    have R_rec := rr__law_shapes F gm m_min m_range n
    refine rdy_of F sc__law_shapes gm (F.bindsN (fun _ _ _ _ _ _ us hl => match us, hl with | [_, _], _ => rfl)) rfl (fun cdv A outer s H E hr => ?_)
    have nd := sc__law_shapes.nd
    exact dss_cons (ds_if (dt_cmp (opd_eq hr) (de_var 0) (de_int) (nomark _)) (dss_one (ds_ret (de_lst (da_cons (de_tup (da_nil)) (da_nil))))) (dss_nil))
      (dss_cons (ds_set 2 nd (de_lst (da_nil)))
      (dss_cons (ds_for [1, 3, 4] passD rfl (di_range2 rfl m_range (da_cons (de_int) (da_cons (de_op opd_add (de_callB (cd_min2 rfl) rfl m_min bt_min (da_cons (de_var 0) (da_cons (de_var 1) (da_nil)))) (de_int)) (da_nil)))) (dg_name 3 nd) (dss_one (ds_set 2 nd (de_op opd_add (de_var 2) (de_lc [("rest", 4)] rfl nd (di_seq (de_callR tkD R_rec hr (da_cons (de_op opd_sub (de_var 0) (de_var 3)) (da_cons (de_var 3) (da_nil))) (Nat.le_refl _))) (blkOk_by (own := [("rest", 4)]) (N := N__law_shapes) (by kernel_rfl)) (fun _ _ _ _ _ => dg_name 4 nd) (fun _ _ _ _ _ => dts_nil) (fun _ _ _ _ _ => de_op opd_add (de_tup (da_cons (de_var 3) (da_nil))) (de_var 4)))))))
      (dss_kill [0, 1, 3] (dss_one (ds_ret (de_var 2))))))
theorem rd__law_shapes {f : Addr} {fd : FuncData} (F : FnP K "_law_shapes" s__law_shapes f fd) (gm : mg "_law_shapes" = some (.ref f)) (m_min : mg "min" = none) (m_range : mg "range" = none) : Rdy P w K mg base xc 14 "_law_shapes" ["many", "most"] dn__law_shapes := rr__law_shapes F gm m_min m_range 14
/-! ### law -/
abbrev s_law : Stmt := topS 26
abbrev N_law : List Str := ["script", "shape", "row", "some", "known", "filling", "great", "many", "boxes", "whole", "k", "one"]
theorem sc_law : FnScope N_law ["script"] (defScope s_law) := ⟨rfl, rfl, rfl, by decide +kernel, rfl, by decide +kernel, by decide +kernel⟩
def b_law_11 : DEnv → Out :=
  sRet (xOp eqD (xCall (on1 sumD) (xCons (xLc (xItems (xCall dn__law_shapes (xCons (xVar 8) (xCons (xVar 8) (xNil))))) (yName 11) (xYes) (xOp powD (xCall dn_count_of (xCons (xVar 11) (xNil))) (xC (PyData.int 2))) [11]) (xNil))) (xVar 9))
def b_law_F1 : DEnv → Out :=
  sAsg (xOp mulD (xVar 9) (xVar 10)) (yName 9)
def b_law_10 : DEnv → Out :=
  sSeq (sFor (xIt range2D (xCons (xC (PyData.int 1)) (xCons (xOp addD (xVar 8) (xC (PyData.int 1))) (xNil)))) (yName 10) (b_law_F1) [0, 1, 2, 3, 4, 5, 6, 7, 10, 11])
    (sKill [10] (b_law_11))
def b_law_9 : DEnv → Out :=
  sSeq (sAsg (xC (PyData.int 1)) (yName 9))
    (b_law_10)
def b_law_8 : DEnv → Out :=
  sSeq (sAsg (xOp modD (xCall dn__law_mixed (xCons (xVar 0) (xCons (xC (PyData.int 2)) (xNil)))) (xC (PyData.int 7))) (yName 8))
    (sKill [0] (b_law_9))
def b_law_7 : DEnv → Out :=
  sSeq (sIfX (xOrX (xP (xB (xIsi isBoolD (xVar 7)))) (xOrX (xBX (xOpX neD (xP (xVar 7)) (xCO 4 dn__law_count (xCons (xVar 6) xNil)))) (xP (xB (xOp neD (xCall dn_count_of (xCons (xVar 1) (xNil))) (xCall (on1 lenD) (xCons (xVar 3) (xNil)))))))) (sRet (xC (PyData.bool false))) (sNext))
    (sKill [1, 3, 4, 6, 7] (b_law_8))
def b_law_6 : DEnv → Out :=
  sSeq (sAsg (xCall dn_count_of (xCons (xVar 6) (xNil))) (yName 7))
    (b_law_7)
def b_law_5 : DEnv → Out :=
  sSeq (sAsg (xCall (on1 tupleD) (xCons (xLc (xItems (xOp ixD (xCall dn__law_pair (xCons (xCall dn__law_word (xCons (xCall dn__law_mixed (xCons (xVar 0) (xCons (xC (PyData.int 1)) (xNil)))) (xCons (xC (PyData.int 12)) (xNil)))) (xNil))) (xC (PyData.int 0)))) (yName 2) (xYes) (xCall (on1 lenD) (xCons (xVar 2) (xNil))) [2]) (xNil))) (yName 6))
    (b_law_6)
def b_law_F2 : DEnv → Out :=
  sIf (xOr (xNot (xB (xCall dn_is_counted (xCons (xVar 5) (xNil))))) (xB (xOp neD (xCall dn_shape_of (xCons (xVar 5) (xNil))) (xVar 1)))) (sRet (xC (PyData.bool false))) (sNext)
def b_law_4 : DEnv → Out :=
  sSeq (sFor (xItems (xVar 3)) (yName 5) (b_law_F2) [2, 5, 6, 7, 8, 9, 10, 11])
    (sKill [5] (b_law_5))
def b_law_3 : DEnv → Out :=
  sSeq (sIfX (xOrX (xBX (xOpX neD (xP (xCall (on1 lenD) (xCons (xVar 3) (xNil)))) (xCO 4 dn__law_count (xCons (xVar 1) xNil)))) (xOrX (xP (xB (xOp neD (xLenSet (xVar 3)) (xCall (on1 lenD) (xCons (xVar 3) (xNil)))))) (xP (xB (xOp neD (xVar 3) (xCall (on1 tupleD) (xCons (xCall (on1 sort2D) (xCons (xVar 3) (xNil))) (xNil)))))))) (sRet (xC (PyData.bool false))) (sNext))
    (b_law_4)
def b_law_2 : DEnv → Out :=
  sSeq (sNewDO 4)
    (b_law_3)
def b_law_1 : DEnv → Out :=
  sSeq (sAsg (xCall dn_fillings (xCons (xVar 1) (xNil))) (yName 3))
    (b_law_2)
def b_law : DEnv → Out :=
  sSeq (sAsg (xCall (on1 tupleD) (xCons (xLc (xItems (xOp ixD (xCall dn__law_pair (xCons (xCall dn__law_word (xCons (xCall dn__law_mixed (xCons (xVar 0) (xCons (xC (PyData.int 0)) (xNil)))) (xCons (xC (PyData.int 8)) (xNil)))) (xNil))) (xC (PyData.int 0)))) (yName 2) (xYes) (xCall (on1 lenD) (xCons (xVar 2) (xNil))) [2]) (xNil))) (yName 1))
    (b_law_1)
def dn_law : List D → Res D := fnD N_law 1 b_law
theorem ok_law {f : Addr} {fd : FuncData} (F : FnP K "law" s_law f fd) (m_bool : mg "bool" = none) (m_isinstance : mg "isinstance" = none) (m_len : mg "len" = none) (m_range : mg "range" = none) (m_set : mg "set" = none) (m_sorted : mg "sorted" = none) (m_sum : mg "sum" = none) (m_tuple : mg "tuple" = none) (R__law_shapes : Rdy P w K mg base xc 14 "_law_shapes" ["many", "most"] dn__law_shapes) (R_count_of : Rdy P w K mg base xc 3 "count_of" ["shape"] dn_count_of) (R__law_mixed : Rdy P w K mg base xc 2 "_law_mixed" ["script", "k"] dn__law_mixed) (R__law_count : RdyO P w K mg base xc 14 "_law_count" ["shape", "known"] 1 dn__law_count) (R__law_word : Rdy P w K mg base xc 2 "_law_word" ["number", "most"] dn__law_word) (R__law_pair : Rdy P w K mg base xc 2 "_law_pair" ["word"] dn__law_pair) (R_is_counted : Rdy P w K mg base xc 4 "is_counted" ["thing"] dn_is_counted) (R_shape_of : Rdy P w K mg base xc 1 "shape_of" ["filling"] dn_shape_of) (R_fillings : Rdy P w K mg base xc 16 "fillings" ["shape"] dn_fillings) : FnOk P w K mg base (L2N.CX P w) 17 f fd ["script"] (spOf K xc dn_law) := by
  refine fnok_of F sc_law rfl (fun cdv A outer s H E hr => ?_)
  have nd := sc_law.nd
  exact dss_cons (ds_set 1 nd (de_callTy cd_tuple rfl m_tuple bt_tuple (da_cons (de_lc [("row", 2)] rfl nd (di_seq (de_ix (de_callR tkD R__law_pair hr (da_cons (de_callR tkD R__law_word hr (da_cons (de_callR tkD R__law_mixed hr (da_cons (de_var 0) (da_cons (de_int) (da_nil)))) (da_cons (de_int) (da_nil)))) (da_nil))) (de_int))) (blkOk_by (own := [("row", 2)]) (N := N_law) (by kernel_rfl)) (fun _ _ _ _ _ => dg_name 2 nd) (fun _ _ _ _ _ => dts_nil) (fun _ _ _ _ _ => de_callB cd_len rfl m_len bt_len (da_cons (de_var 2) (da_nil)))) (da_nil))))
    (dss_cons (ds_set 3 nd (de_callR tkD R_fillings hr (da_cons (de_var 1) (da_nil))))
    (dss_cons (ds_newDO 4 nd)
    (dss_cons (ds_ifX (DWX.t (dwx_or (dtx_cmp (opd_ne hr) (dx_pure (de_callB cd_len rfl m_len bt_len (da_cons (de_var 3) (da_nil)))) (dx_callO1 4 tkD R__law_count hr (de_var 1)) (nomark _)) (dwx_or (dtx_pure (dt_cmp (opd_ne hr) (de_lenSet rfl (un_of hr) rfl m_len rfl m_set (de_var 3)) (de_callB cd_len rfl m_len bt_len (da_cons (de_var 3) (da_nil))) (nomark _))) (dwx_or1 (dtx_pure (dt_cmp (opd_ne hr) (de_var 3) (de_callTy cd_tuple rfl m_tuple bt_tuple (da_cons (de_callB (cd_sort2 hr) rfl m_sorted bt_sorted (da_cons (de_var 3) (da_nil))) (da_nil))) (nomark _))))))) (dss_one (ds_ret (de_bl))) (dss_nil))
    (dss_cons (ds_for [2, 5, 6, 7, 8, 9, 10, 11] passD rfl (di_seq (de_var 3)) (dg_name 5 nd) (dss_one (ds_if (DW.t (dw_or (dt_not (dt_val (b := false) (de_callR tkD R_is_counted hr (da_cons (de_var 5) (da_nil))))) (dw_or1 (dt_cmp (opd_ne hr) (de_callR tkD R_shape_of hr (da_cons (de_var 5) (da_nil))) (de_var 1) (nomark _))))) (dss_one (ds_ret (de_bl))) (dss_nil))))
    (dss_kill [5] (dss_cons (ds_set 6 nd (de_callTy cd_tuple rfl m_tuple bt_tuple (da_cons (de_lc [("row", 2)] rfl nd (di_seq (de_ix (de_callR tkD R__law_pair hr (da_cons (de_callR tkD R__law_word hr (da_cons (de_callR tkD R__law_mixed hr (da_cons (de_var 0) (da_cons (de_int) (da_nil)))) (da_cons (de_int) (da_nil)))) (da_nil))) (de_int))) (blkOk_by (own := [("row", 2)]) (N := N_law) (by kernel_rfl)) (fun _ _ _ _ _ => dg_name 2 nd) (fun _ _ _ _ _ => dts_nil) (fun _ _ _ _ _ => de_callB cd_len rfl m_len bt_len (da_cons (de_var 2) (da_nil)))) (da_nil))))
    (dss_cons (ds_set 7 nd (de_callR tkD R_count_of hr (da_cons (de_var 6) (da_nil))))
    (dss_cons (ds_ifX (DWX.t (dwx_or (dtx_pure (dt_val (b := false) (de_isi isi_bool bt_bool rfl m_isinstance rfl m_bool (de_var 7)))) (dwx_or (dtx_cmp (opd_ne hr) (dx_pure (de_var 7)) (dx_callO1 4 tkD R__law_count hr (de_var 6)) (nomark _)) (dwx_or1 (dtx_pure (dt_cmp (opd_ne hr) (de_callR tkD R_count_of hr (da_cons (de_var 1) (da_nil))) (de_callB cd_len rfl m_len bt_len (da_cons (de_var 3) (da_nil))) (nomark _))))))) (dss_one (ds_ret (de_bl))) (dss_nil))
    (dss_kill [1, 3, 4, 6, 7] (dss_cons (ds_set 8 nd (de_op opd_mod (de_callR tkD R__law_mixed hr (da_cons (de_var 0) (da_cons (de_int) (da_nil)))) (de_int)))
    (dss_kill [0] (dss_cons (ds_set 9 nd (de_int))
    (dss_cons (ds_for [0, 1, 2, 3, 4, 5, 6, 7, 10, 11] passD rfl (di_range2 rfl m_range (da_cons (de_int) (da_cons (de_op opd_add (de_var 8) (de_int)) (da_nil)))) (dg_name 10 nd) (dss_one (ds_set 9 nd (de_op opd_mul (de_var 9) (de_var 10)))))
    (dss_kill [10] (dss_one (ds_ret (de_cmp (opd_eq hr) (de_callB (cd_sum rfl) rfl m_sum bt_sum (da_cons (de_lc [("one", 11)] rfl nd (di_seq (de_callR tkD R__law_shapes hr (da_cons (de_var 8) (da_cons (de_var 8) (da_nil))))) (blkOk_by (own := [("one", 11)]) (N := N_law) (by kernel_rfl)) (fun _ _ _ _ _ => dg_name 11 nd) (fun _ _ _ _ _ => dts_nil) (fun _ _ _ _ _ => de_op opd_pow (de_callR tk0 R_count_of hr (da_cons (de_var 11) (da_nil))) (de_int))) (da_nil))) (de_var 9) (nomark _))))))))))))))))))
end
end Law
end
end

section
set_option Elab.async false
set_option linter.all false
set_option maxRecDepth 100000
set_option maxHeartbeats 4000000
namespace Law
open PySem PySem.Spec L2 Evl PyProof.Rows SB
def d_turned : He.DefD := ⟨("turned", none), "turned", "turned", defArgs s_turned, defBody s_turned, defScope s_turned, [], []⟩
def d_hooks : He.DefD := ⟨("hooks", none), "hooks", "hooks", defArgs s_hooks, defBody s_hooks, defScope s_hooks, [], []⟩
def d_count_of : He.DefD := ⟨("count_of", none), "count_of", "count_of", defArgs s_count_of, defBody s_count_of, defScope s_count_of, [], []⟩
def d_less_at : He.DefD := ⟨("less_at", none), "less_at", "less_at", defArgs s_less_at, defBody s_less_at, defScope s_less_at, [], []⟩
def d_fillings_of : He.DefD := ⟨("fillings_of", none), "fillings_of", "fillings_of", defArgs s_fillings_of, defBody s_fillings_of, defScope s_fillings_of, [], []⟩
def d_fillings : He.DefD := ⟨("fillings", none), "fillings", "fillings", defArgs s_fillings, defBody s_fillings, defScope s_fillings, [], []⟩
def d_is_number : He.DefD := ⟨("is_number", none), "is_number", "is_number", defArgs s_is_number, defBody s_is_number, defScope s_is_number, [], []⟩
def d_are_numbers : He.DefD := ⟨("are_numbers", none), "are_numbers", "are_numbers", defArgs s_are_numbers, defBody s_are_numbers, defScope s_are_numbers, [], []⟩
def d_falls : He.DefD := ⟨("falls", none), "falls", "falls", defArgs s_falls, defBody s_falls, defScope s_falls, [], []⟩
def d_stands_on : He.DefD := ⟨("stands_on", none), "stands_on", "stands_on", defArgs s_stands_on, defBody s_stands_on, defScope s_stands_on, [], []⟩
def d_is_filling : He.DefD := ⟨("is_filling", none), "is_filling", "is_filling", defArgs s_is_filling, defBody s_is_filling, defScope s_is_filling, [], []⟩
def d_all_numbers : He.DefD := ⟨("all_numbers", none), "all_numbers", "all_numbers", defArgs s_all_numbers, defBody s_all_numbers, defScope s_all_numbers, [], []⟩
def d_is_counted : He.DefD := ⟨("is_counted", none), "is_counted", "is_counted", defArgs s_is_counted, defBody s_is_counted, defScope s_is_counted, [], []⟩
def d_shape_of : He.DefD := ⟨("shape_of", none), "shape_of", "shape_of", defArgs s_shape_of, defBody s_shape_of, defScope s_shape_of, [], []⟩
def d__law_cell_at : He.DefD := ⟨("_law_cell_at", none), "_law_cell_at", "_law_cell_at", defArgs s__law_cell_at, defBody s__law_cell_at, defScope s__law_cell_at, [], []⟩
def d__law_mixed : He.DefD := ⟨("_law_mixed", none), "_law_mixed", "_law_mixed", defArgs s__law_mixed, defBody s__law_mixed, defScope s__law_mixed, [], []⟩
def d__law_drawn : He.DefD := ⟨("_law_drawn", none), "_law_drawn", "_law_drawn", defArgs s__law_drawn, defBody s__law_drawn, defScope s__law_drawn, [], []⟩
def d__law_word : He.DefD := ⟨("_law_word", none), "_law_word", "_law_word", defArgs s__law_word, defBody s__law_word, defScope s__law_word, [], []⟩
def d__law_put : He.DefD := ⟨("_law_put", none), "_law_put", "_law_put", defArgs s__law_put, defBody s__law_put, defScope s__law_put, [], []⟩
def d__law_pair : He.DefD := ⟨("_law_pair", none), "_law_pair", "_law_pair", defArgs s__law_pair, defBody s__law_pair, defScope s__law_pair, [], []⟩
def d__law_count : He.DefD := ⟨("_law_count", none), "_law_count", "_law_count", defArgs s__law_count, defBody s__law_count, defScope s__law_count, [], []⟩
def d__law_shapes : He.DefD := ⟨("_law_shapes", none), "_law_shapes", "_law_shapes", defArgs s__law_shapes, defBody s__law_shapes, defScope s__law_shapes, [], []⟩
def d_law : He.DefD := ⟨("law", none), "law", "law", defArgs s_law, defBody s_law, defScope s_law, [], []⟩
def fnL : List He.DefD := [d_turned, d_hooks, d_count_of, d_less_at, d_fillings_of, d_fillings, d_is_number, d_are_numbers, d_falls, d_stands_on, d_is_filling, d_all_numbers, d_is_counted, d_shape_of, d__law_cell_at, d__law_mixed, d__law_drawn, d__law_word, d__law_put, d__law_pair, d__law_count, d__law_shapes, d_law]
def faL : List He.Fa := [.glo "turned", .glo "hooks", .glo "count_of", .glo "less_at", .glo "fillings_of", .glo "fillings", .glo "is_number", .glo "are_numbers", .glo "falls", .glo "stands_on", .glo "is_filling", .glo "all_numbers", .glo "is_counted", .glo "shape_of", .glo "_law_cell_at", .glo "_law_mixed", .glo "_law_drawn", .glo "_law_word", .glo "_law_put", .glo "_law_pair", .glo "_law_count", .glo "_law_shapes", .glo "law", .free "all", .free "bool", .free "enumerate", .free "int", .free "isinstance", .free "len", .free "list", .free "min", .free "range", .free "set", .free "sorted", .free "sum", .free "tuple", .free "zip", .int "MOST" 12]
abbrev R : PySem.W.OpenRow := PySem.W.OpenLaw.row PySem.Challenge.rw_stairbox_k51_whole_counted_fillings
abbrev hk : PySem.W.Hook := He.hookD 4 faL fnL
def ob (s : PySem.W.SharedT) : He.AlD := He.obsDG 4 faL fnL (HandSHeadRun.getT s)
theorem ob_eq (s : PySem.W.SharedT) : ob s = hk.obs s.abs := He.obsDG_eq (HandSHeadRun.getT_eq s)
def looseL : List Str := [("turned" : Str), ("hooks" : Str), ("count_of" : Str), ("less_at" : Str), ("fillings_of" : Str), ("fillings" : Str), ("is_number" : Str), ("are_numbers" : Str), ("falls" : Str), ("stands_on" : Str), ("is_filling" : Str), ("all_numbers" : Str), ("is_counted" : Str), ("shape_of" : Str), ("_law_cell_at" : Str), ("_law_mixed" : Str), ("_law_drawn" : Str), ("_law_word" : Str), ("_law_put" : Str), ("_law_pair" : Str), ("_law_count" : Str), ("_law_shapes" : Str), ("MOST" : Str)]
theorem run (w : World) : HandSHeadRun.RunEq R (PySem.W.view R.prog [26]) hk ob 12000 looseL w := by
  intro os
  kernel_rfl
theorem facts {P : Program} {w : World} {K : PySem.W.Frag} {h : Heap} {mg : Str → Option Value} {f : Addr} (X : K.In h) (G : h.Ns mainGlobals mg) (hfa : mg ("law" : Str) = some (.ref f)) (c : He.SaysD faL fnL K) :
    ∃ fd : FuncData, (∀ (s : Shared) (v : Value), BindsTo s fd ⟨[v], []⟩ [("script", v)]) ∧ ∀ base : Heap, K.In base → base.Ns mainGlobals mg → FnOk P w K mg base (L2N.CX P w) 17 f fd ["script"] (spOf K (fun _ => .none) dn_law) := by
  obtain ⟨fd_turned, F_turned⟩ := c.def_ 0 (d := d_turned) rfl
  have gm_turned := He.glo_ok X G (c.fact 0 (f := .glo "turned") rfl)
  obtain ⟨fd_hooks, F_hooks⟩ := c.def_ 1 (d := d_hooks) rfl
  have gm_hooks := He.glo_ok X G (c.fact 1 (f := .glo "hooks") rfl)
  obtain ⟨fd_count_of, F_count_of⟩ := c.def_ 2 (d := d_count_of) rfl
  have gm_count_of := He.glo_ok X G (c.fact 2 (f := .glo "count_of") rfl)
  obtain ⟨fd_less_at, F_less_at⟩ := c.def_ 3 (d := d_less_at) rfl
  have gm_less_at := He.glo_ok X G (c.fact 3 (f := .glo "less_at") rfl)
  obtain ⟨fd_fillings_of, F_fillings_of⟩ := c.def_ 4 (d := d_fillings_of) rfl
  have gm_fillings_of := He.glo_ok X G (c.fact 4 (f := .glo "fillings_of") rfl)
  obtain ⟨fd_fillings, F_fillings⟩ := c.def_ 5 (d := d_fillings) rfl
  have gm_fillings := He.glo_ok X G (c.fact 5 (f := .glo "fillings") rfl)
  obtain ⟨fd_is_number, F_is_number⟩ := c.def_ 6 (d := d_is_number) rfl
  have gm_is_number := He.glo_ok X G (c.fact 6 (f := .glo "is_number") rfl)
  obtain ⟨fd_are_numbers, F_are_numbers⟩ := c.def_ 7 (d := d_are_numbers) rfl
  have gm_are_numbers := He.glo_ok X G (c.fact 7 (f := .glo "are_numbers") rfl)
  obtain ⟨fd_falls, F_falls⟩ := c.def_ 8 (d := d_falls) rfl
  have gm_falls := He.glo_ok X G (c.fact 8 (f := .glo "falls") rfl)
  obtain ⟨fd_stands_on, F_stands_on⟩ := c.def_ 9 (d := d_stands_on) rfl
  have gm_stands_on := He.glo_ok X G (c.fact 9 (f := .glo "stands_on") rfl)
  obtain ⟨fd_is_filling, F_is_filling⟩ := c.def_ 10 (d := d_is_filling) rfl
  have gm_is_filling := He.glo_ok X G (c.fact 10 (f := .glo "is_filling") rfl)
  obtain ⟨fd_all_numbers, F_all_numbers⟩ := c.def_ 11 (d := d_all_numbers) rfl
  have gm_all_numbers := He.glo_ok X G (c.fact 11 (f := .glo "all_numbers") rfl)
  obtain ⟨fd_is_counted, F_is_counted⟩ := c.def_ 12 (d := d_is_counted) rfl
  have gm_is_counted := He.glo_ok X G (c.fact 12 (f := .glo "is_counted") rfl)
  obtain ⟨fd_shape_of, F_shape_of⟩ := c.def_ 13 (d := d_shape_of) rfl
  have gm_shape_of := He.glo_ok X G (c.fact 13 (f := .glo "shape_of") rfl)
  obtain ⟨fd__law_cell_at, F__law_cell_at⟩ := c.def_ 14 (d := d__law_cell_at) rfl
  have gm__law_cell_at := He.glo_ok X G (c.fact 14 (f := .glo "_law_cell_at") rfl)
  obtain ⟨fd__law_mixed, F__law_mixed⟩ := c.def_ 15 (d := d__law_mixed) rfl
  have gm__law_mixed := He.glo_ok X G (c.fact 15 (f := .glo "_law_mixed") rfl)
  obtain ⟨fd__law_drawn, F__law_drawn⟩ := c.def_ 16 (d := d__law_drawn) rfl
  have gm__law_drawn := He.glo_ok X G (c.fact 16 (f := .glo "_law_drawn") rfl)
  obtain ⟨fd__law_word, F__law_word⟩ := c.def_ 17 (d := d__law_word) rfl
  have gm__law_word := He.glo_ok X G (c.fact 17 (f := .glo "_law_word") rfl)
  obtain ⟨fd__law_put, F__law_put⟩ := c.def_ 18 (d := d__law_put) rfl
  have gm__law_put := He.glo_ok X G (c.fact 18 (f := .glo "_law_put") rfl)
  obtain ⟨fd__law_pair, F__law_pair⟩ := c.def_ 19 (d := d__law_pair) rfl
  have gm__law_pair := He.glo_ok X G (c.fact 19 (f := .glo "_law_pair") rfl)
  obtain ⟨fd__law_count, F__law_count⟩ := c.def_ 20 (d := d__law_count) rfl
  have gm__law_count := He.glo_ok X G (c.fact 20 (f := .glo "_law_count") rfl)
  obtain ⟨fd__law_shapes, F__law_shapes⟩ := c.def_ 21 (d := d__law_shapes) rfl
  have gm__law_shapes := He.glo_ok X G (c.fact 21 (f := .glo "_law_shapes") rfl)
  obtain ⟨fd_law, F_law⟩ := c.def_ 22 (d := d_law) rfl
  have gm_law := He.glo_ok X G (c.fact 22 (f := .glo "law") rfl)
  have m_all := He.free_ok X G (c.fact 23 (f := .free "all") rfl)
  have m_bool := He.free_ok X G (c.fact 24 (f := .free "bool") rfl)
  have m_enumerate := He.free_ok X G (c.fact 25 (f := .free "enumerate") rfl)
  have m_int := He.free_ok X G (c.fact 26 (f := .free "int") rfl)
  have m_isinstance := He.free_ok X G (c.fact 27 (f := .free "isinstance") rfl)
  have m_len := He.free_ok X G (c.fact 28 (f := .free "len") rfl)
  have m_list := He.free_ok X G (c.fact 29 (f := .free "list") rfl)
  have m_min := He.free_ok X G (c.fact 30 (f := .free "min") rfl)
  have m_range := He.free_ok X G (c.fact 31 (f := .free "range") rfl)
  have m_set := He.free_ok X G (c.fact 32 (f := .free "set") rfl)
  have m_sorted := He.free_ok X G (c.fact 33 (f := .free "sorted") rfl)
  have m_sum := He.free_ok X G (c.fact 34 (f := .free "sum") rfl)
  have m_tuple := He.free_ok X G (c.fact 35 (f := .free "tuple") rfl)
  have m_zip := He.free_ok X G (c.fact 36 (f := .free "zip") rfl)
  have g_MOST := He.int_ok X G (c.fact 37 (f := .int "MOST" 12) rfl)
  have e := hfa.symm.trans gm_law
  cases e
  have b := FunD.bindsA (ps := ["script"]) F_law fun _ _ _ _ _ _ us hl => match us, hl with | [_], _ => rfl
  refine ⟨fd_law, fun s v => b s [v] rfl, fun base _ _ => ?_⟩
  have R_turned : Rdy P w K mg base (fun _ => .none) 1 "turned" ["shape"] dn_turned := rd_turned F_turned gm_turned m_len m_range m_tuple
  have R_hooks : Rdy P w K mg base (fun _ => .none) 2 "hooks" ["shape"] dn_hooks := rd_hooks F_hooks gm_hooks m_enumerate m_range m_tuple R_turned
  have R_count_of : Rdy P w K mg base (fun _ => .none) 3 "count_of" ["shape"] dn_count_of := rd_count_of F_count_of gm_count_of m_range m_sum R_hooks
  have R_less_at : Rdy P w K mg base (fun _ => .none) 1 "less_at" ["shape", "row"] dn_less_at := rd_less_at F_less_at gm_less_at m_len
  have R_fillings_of : Rdy P w K mg base (fun _ => .none) 15 "fillings_of" ["shape"] dn_fillings_of := rd_fillings_of F_fillings_of gm_fillings_of m_len m_range m_sum R_less_at
  have R_fillings : Rdy P w K mg base (fun _ => .none) 16 "fillings" ["shape"] dn_fillings := rd_fillings F_fillings gm_fillings m_sorted m_tuple R_fillings_of
  have R_is_number : Rdy P w K mg base (fun _ => .none) 1 "is_number" ["thing", "low", "high"] dn_is_number := rd_is_number F_is_number gm_is_number m_bool m_int m_isinstance
  have R_are_numbers : Rdy P w K mg base (fun _ => .none) 2 "are_numbers" ["thing"] dn_are_numbers := rd_are_numbers F_are_numbers gm_are_numbers m_all m_isinstance m_tuple g_MOST R_is_number
  have R_falls : Rdy P w K mg base (fun _ => .none) 1 "falls" ["row"] dn_falls := rd_falls F_falls gm_falls m_all m_zip
  have R_stands_on : Rdy P w K mg base (fun _ => .none) 1 "stands_on" ["low", "high"] dn_stands_on := rd_stands_on F_stands_on gm_stands_on m_all m_len m_zip
  have R_is_filling : Rdy P w K mg base (fun _ => .none) 3 "is_filling" ["thing"] dn_is_filling := rd_is_filling F_is_filling gm_is_filling m_all m_isinstance m_len m_sum m_tuple m_zip g_MOST R_stands_on R_falls R_are_numbers
  have R_all_numbers : Rdy P w K mg base (fun _ => .none) 1 "all_numbers" ["filling"] dn_all_numbers := rd_all_numbers F_all_numbers gm_all_numbers 
  have R_is_counted : Rdy P w K mg base (fun _ => .none) 4 "is_counted" ["thing"] dn_is_counted := rd_is_counted F_is_counted gm_is_counted m_len m_list m_range m_sorted R_all_numbers R_is_filling
  have R_shape_of : Rdy P w K mg base (fun _ => .none) 1 "shape_of" ["filling"] dn_shape_of := rd_shape_of F_shape_of gm_shape_of m_len m_tuple
  have R__law_cell_at : Rdy P w K mg base (fun _ => .none) 1 "_law_cell_at" ["script", "k"] dn__law_cell_at := rd__law_cell_at F__law_cell_at gm__law_cell_at m_len
  have R__law_mixed : Rdy P w K mg base (fun _ => .none) 2 "_law_mixed" ["script", "k"] dn__law_mixed := rd__law_mixed F__law_mixed gm__law_mixed R__law_cell_at
  have R__law_drawn : Rdy P w K mg base (fun _ => .none) 1 "_law_drawn" ["number", "k"] dn__law_drawn := rd__law_drawn F__law_drawn gm__law_drawn 
  have R__law_word : Rdy P w K mg base (fun _ => .none) 2 "_law_word" ["number", "most"] dn__law_word := rd__law_word F__law_word gm__law_word m_range m_tuple R__law_drawn
  have R__law_put : Rdy P w K mg base (fun _ => .none) 1 "_law_put" ["rows", "number"] dn__law_put := rd__law_put F__law_put gm__law_put m_enumerate m_len m_tuple
  have R__law_pair : Rdy P w K mg base (fun _ => .none) 2 "_law_pair" ["word"] dn__law_pair := rd__law_pair F__law_pair gm__law_pair m_enumerate m_len R__law_put
  have R__law_count : RdyO P w K mg base (fun _ => .none) 14 "_law_count" ["shape", "known"] 1 dn__law_count := rd__law_count F__law_count gm__law_count m_enumerate m_tuple
  have R__law_shapes : Rdy P w K mg base (fun _ => .none) 14 "_law_shapes" ["many", "most"] dn__law_shapes := rd__law_shapes F__law_shapes gm__law_shapes m_min m_range
  exact ok_law F_law m_bool m_isinstance m_len m_range m_set m_sorted m_sum m_tuple R__law_shapes R_count_of R__law_mixed R__law_count R__law_word R__law_pair R_is_counted R_shape_of R_fillings
end Law
end

section
noncomputable section
namespace Law
open SB PySem
theorem all_chunks {α : Type} (f : α → Bool) (n : Nat) : ∀ (m : Nat) (l : List α), l.length ≤ n * m → (∀ k, k < m → ((l.drop (n * k)).take n).all f = true) → l.all f = true
  | 0, l, h, _ => by
    have : l = [] := List.eq_nil_of_length_eq_zero (by simpa using h)
    rw [this]; rfl
  | m + 1, l, h, H => by
    have h0 := H 0 (by omega)
    rw [Nat.mul_zero, List.drop_zero] at h0
    rw [← List.take_append_drop n l, List.all_append, h0, Bool.true_and]
    refine all_chunks f n m (l.drop n) (by rw [List.length_drop]; rw [Nat.mul_succ] at h; omega) fun k hk => ?_
    have := H (k + 1) (by omega)
    rw [Nat.mul_succ, Nat.add_comm, ← List.drop_drop] at this
    exact this

/-! ### fillings of shapes of up to 8 boxes, checked by the kernel -/
abbrev T3 := List (List Nat)
def encN (s : List Nat) : D := .tuple (s.map fun (n : Nat) => (PyData.int (n : Int) : D))
def encT (t : T3) : D := .tuple (t.map encN)
def encL (l : List T3) : D := .tuple (l.map encT)
def eqN' (a : List Nat) : List Nat → Bool := List.rec (motive := fun _ => List Nat → Bool) (fun b => List.rec (motive := fun _ => Bool) true (fun _ _ _ => false) b) (fun x _ ih b => List.rec (motive := fun _ => Bool) false (fun y t _ => cond (Nat.beq x y) (ih t) false) b) a
theorem eqN_iff : ∀ a b : List Nat, eqN' a b = true ↔ a = b
  | [], [] => by simp [eqN']
  | [], _ :: _ => by simp [eqN']
  | _ :: _, [] => by simp [eqN']
  | x :: a, y :: b => by
    show cond (Nat.beq x y) (eqN' a b) false = true ↔ _
    by_cases h : x = y
    · subst h
      rw [Nat.beq_refl]
      simp [eqN_iff a b]
    · rw [show Nat.beq x y = false from by rw [← Bool.not_eq_true]; exact fun e => h (Nat.eq_of_beq_eq_true e)]
      simp [h]
def eqT3 (a : T3) : T3 → Bool := List.rec (motive := fun _ => T3 → Bool) (fun b => List.rec (motive := fun _ => Bool) true (fun _ _ _ => false) b) (fun x _ ih b => List.rec (motive := fun _ => Bool) false (fun y t _ => cond (eqN' x y) (ih t) false) b) a
theorem eqT3_iff : ∀ a b : T3, eqT3 a b = true → a = b
  | [], [], _ => rfl
  | [], _ :: _, h => by cases h
  | _ :: _, [], h => by cases h
  | x :: a, y :: b, h => by
    replace h : cond (eqN' x y) (eqT3 a b) false = true := h
    cases e : eqN' x y with
    | false => rw [e] at h; cases h
    | true => rw [e] at h; rw [(eqN_iff x y).mp e, eqT3_iff a b h]
abbrev S8 : List (List Nat) := RSK.partsUpTo 8
/-- the same data, numbers and tuples up to n deep -/
def sm (n : Nat) : D → D → Bool := Nat.rec (motive := fun _ => D → D → Bool) (fun a b => match a, b with
  | .int i, .int j => decide (i = j)
  | _, _ => false) (fun _ ih a b => match a, b with
  | .tuple xs, .tuple ys => all2 ih xs ys
  | .list xs, .list ys => all2 ih xs ys
  | .int i, .int j => decide (i = j)
  | .bool i, .bool j => i == j
  | _, _ => false) n
theorem all2_eq {f : D → D → Bool} (h : ∀ a b, f a b = true → a = b) : ∀ xs ys : List D, all2 f xs ys = true → xs = ys
  | [], [], _ => rfl
  | [], _ :: _, e => by cases e
  | _ :: _, [], e => by cases e
  | x :: xs, y :: ys, e => by
    replace e : cond (f x y) (all2 f xs ys) false = true := e
    cases e1 : f x y with
    | false => rw [e1] at e; cases e
    | true => rw [e1] at e; rw [h x y e1, all2_eq h xs ys e]
theorem sm_eq : ∀ (n : Nat) (a b : D), sm n a b = true → a = b
  | 0, a, b, h => by
    cases a <;> cases b <;> first | (cases h; done) | skip
    exact congrArg PyData.int (of_decide_eq_true h)
  | n + 1, a, b, h => by
    cases a <;> cases b <;> first | (cases h; done) | skip
    · exact congrArg PyData.bool (eq_of_beq h)
    · exact congrArg PyData.int (of_decide_eq_true h)
    · exact congrArg PyData.list (all2_eq (sm_eq n) _ _ h)
    · exact congrArg PyData.tuple (all2_eq (sm_eq n) _ _ h)
def okD (r : Res D) (d : D) : Bool := match r with
  | .ok e => sm 5 e d
  | _ => false
theorem okD_eq {r : Res D} {d : D} (h : okD r d = true) : r = .ok d := by
  unfold okD at h
  split at h
  · rw [sm_eq _ _ _ h]
  · cases h
def allI {α : Type} (f : Nat → α → Bool) (l : List α) : Nat → Bool := List.rec (motive := fun _ => Nat → Bool) (fun _ => true) (fun a _ ih i => cond (f i a) (ih (Nat.succ i)) false) l
theorem allI_get {α : Type} {f : Nat → α → Bool} : ∀ {l : List α} {k : Nat}, allI f l k = true → ∀ {i : Nat} {a : α}, l[i]? = some a → f (k + i) a = true
  | [], _, _, _, _, e => by simp at e
  | x :: l, k, h, i, a, e => by
    replace h : cond (f k x) (allI f l (Nat.succ k)) false = true := h
    cases e1 : f k x with
    | false => rw [e1] at h; cases h
    | true =>
      rw [e1] at h
      cases i with
      | zero => simp at e; subst e; exact e1
      | succ i =>
        have := allI_get (k := Nat.succ k) h (i := i) (a := a) (by simpa using e)
        rwa [show Nat.succ k + i = k + (i + 1) by omega] at this
def chkS (s : List Nat) (L : List T3) : Bool := okD (dn_fillings [encN s]) (encL L) && okD (dn_count_of [encN s]) (.int (L.length : Int)) && okD (lenSetD (encL L)) (.int (L.length : Int)) && okD (((sort2D (encL L)).bind tupleD).bind (neD (encL L))) (.bool false)
  && L.all fun t => okD (dn_is_counted [encT t]) (.bool true) && okD ((dn_shape_of [encT t]).bind fun x => neD x (encN s)) (.bool false)
abbrev S12 : List (List Nat) := RSK.partsUpTo 12
def lessN (s : List Nat) (k : Nat) : List Nat := (s.take k ++ (s.getD k 0 - 1) :: s.drop (k + 1)).filter fun n => decide (0 < n)
def cN (s : List Nat) : Nat := match dn_count_of [encN s] with
  | .ok (.int i) => i.toNat
  | _ => 0
def corN (s : List Nat) (k : Nat) : Bool := Nat.blt (s.getD (k + 1) 0) (s.getD k 0)
def sumC (s : List Nat) (n : Nat) : Nat := Nat.rec (motive := fun _ => Nat) 0 (fun k ih => cond (corN s k) (ih + cN (lessN s k)) ih) n
def chkC (s : List Nat) : Bool := okD (dn_count_of [encN s]) (.int (cN s : Int)) && Nat.ble s.length 12 && Nat.ble s.sum 12 && (s.isEmpty || Nat.beq (cN s) (sumC s s.length)) && (List.range s.length).all (fun k => !corN s k || ((S12.any fun u => eqN' (lessN s k) u) && Nat.beq ((lessN s k).sum + 1) s.sum))
theorem chkC_nil : cN [] = 1 := by decide +kernel

abbrev L_0 : List T3 := [[]]
theorem sh_0 : chkS [] L_0 = true := by decide +kernel
abbrev L_1 : List T3 := [[[1]]]
theorem sh_1 : chkS [1] L_1 = true := by decide +kernel
abbrev L_2 : List T3 := [[[1], [2]]]
theorem sh_2 : chkS [1, 1] L_2 = true := by decide +kernel
abbrev L_3 : List T3 := [[[1, 2]]]
theorem sh_3 : chkS [2] L_3 = true := by decide +kernel
abbrev L_4 : List T3 := [[[1], [2], [3]]]
theorem sh_4 : chkS [1, 1, 1] L_4 = true := by decide +kernel
abbrev L_5 : List T3 := [[[1, 2], [3]], [[1, 3], [2]]]
theorem sh_5 : chkS [2, 1] L_5 = true := by decide +kernel
abbrev L_6 : List T3 := [[[1, 2, 3]]]
theorem sh_6 : chkS [3] L_6 = true := by decide +kernel
abbrev L_7 : List T3 := [[[1], [2], [3], [4]]]
theorem sh_7 : chkS [1, 1, 1, 1] L_7 = true := by decide +kernel
abbrev L_8 : List T3 := [[[1, 2], [3], [4]], [[1, 3], [2], [4]], [[1, 4], [2], [3]]]
theorem sh_8 : chkS [2, 1, 1] L_8 = true := by decide +kernel
abbrev L_9 : List T3 := [[[1, 2], [3, 4]], [[1, 3], [2, 4]]]
theorem sh_9 : chkS [2, 2] L_9 = true := by decide +kernel
abbrev L_10 : List T3 := [[[1, 2, 3], [4]], [[1, 2, 4], [3]], [[1, 3, 4], [2]]]
theorem sh_10 : chkS [3, 1] L_10 = true := by decide +kernel
abbrev L_11 : List T3 := [[[1, 2, 3, 4]]]
theorem sh_11 : chkS [4] L_11 = true := by decide +kernel
abbrev L_12 : List T3 := [[[1], [2], [3], [4], [5]]]
theorem sh_12 : chkS [1, 1, 1, 1, 1] L_12 = true := by decide +kernel
abbrev L_13 : List T3 := [[[1, 2], [3], [4], [5]], [[1, 3], [2], [4], [5]], [[1, 4], [2], [3], [5]], [[1, 5], [2], [3], [4]]]
theorem sh_13 : chkS [2, 1, 1, 1] L_13 = true := by decide +kernel
abbrev L_14 : List T3 := [[[1, 2], [3, 4], [5]], [[1, 2], [3, 5], [4]], [[1, 3], [2, 4], [5]], [[1, 3], [2, 5], [4]], [[1, 4], [2, 5], [3]]]
theorem sh_14 : chkS [2, 2, 1] L_14 = true := by decide +kernel
abbrev L_15 : List T3 := [[[1, 2, 3], [4], [5]], [[1, 2, 4], [3], [5]], [[1, 2, 5], [3], [4]], [[1, 3, 4], [2], [5]], [[1, 3, 5], [2], [4]], [[1, 4, 5], [2], [3]]]
theorem sh_15 : chkS [3, 1, 1] L_15 = true := by decide +kernel
abbrev L_16 : List T3 := [[[1, 2, 3], [4, 5]], [[1, 2, 4], [3, 5]], [[1, 2, 5], [3, 4]], [[1, 3, 4], [2, 5]], [[1, 3, 5], [2, 4]]]
theorem sh_16 : chkS [3, 2] L_16 = true := by decide +kernel
abbrev L_17 : List T3 := [[[1, 2, 3, 4], [5]], [[1, 2, 3, 5], [4]], [[1, 2, 4, 5], [3]], [[1, 3, 4, 5], [2]]]
theorem sh_17 : chkS [4, 1] L_17 = true := by decide +kernel
abbrev L_18 : List T3 := [[[1, 2, 3, 4, 5]]]
theorem sh_18 : chkS [5] L_18 = true := by decide +kernel
abbrev L_19 : List T3 := [[[1], [2], [3], [4], [5], [6]]]
theorem sh_19 : chkS [1, 1, 1, 1, 1, 1] L_19 = true := by decide +kernel
abbrev L_20 : List T3 := [[[1, 2], [3], [4], [5], [6]], [[1, 3], [2], [4], [5], [6]], [[1, 4], [2], [3], [5], [6]], [[1, 5], [2], [3], [4], [6]], [[1, 6], [2], [3], [4], [5]]]
theorem sh_20 : chkS [2, 1, 1, 1, 1] L_20 = true := by decide +kernel
abbrev L_21 : List T3 := [[[1, 2], [3, 4], [5], [6]], [[1, 2], [3, 5], [4], [6]], [[1, 2], [3, 6], [4], [5]], [[1, 3], [2, 4], [5], [6]], [[1, 3], [2, 5], [4], [6]], [[1, 3], [2, 6], [4], [5]], [[1, 4], [2, 5], [3], [6]], [[1, 4], [2, 6], [3], [5]], [[1, 5], [2, 6], [3], [4]]]
theorem sh_21 : chkS [2, 2, 1, 1] L_21 = true := by decide +kernel
abbrev L_22 : List T3 := [[[1, 2], [3, 4], [5, 6]], [[1, 2], [3, 5], [4, 6]], [[1, 3], [2, 4], [5, 6]], [[1, 3], [2, 5], [4, 6]], [[1, 4], [2, 5], [3, 6]]]
theorem sh_22 : chkS [2, 2, 2] L_22 = true := by decide +kernel
abbrev L_23 : List T3 := [[[1, 2, 3], [4], [5], [6]], [[1, 2, 4], [3], [5], [6]], [[1, 2, 5], [3], [4], [6]], [[1, 2, 6], [3], [4], [5]], [[1, 3, 4], [2], [5], [6]], [[1, 3, 5], [2], [4], [6]], [[1, 3, 6], [2], [4], [5]], [[1, 4, 5], [2], [3], [6]], [[1, 4, 6], [2], [3], [5]], [[1, 5, 6], [2], [3], [4]]]
theorem sh_23 : chkS [3, 1, 1, 1] L_23 = true := by decide +kernel
abbrev L_24 : List T3 := [[[1, 2, 3], [4, 5], [6]], [[1, 2, 3], [4, 6], [5]], [[1, 2, 4], [3, 5], [6]], [[1, 2, 4], [3, 6], [5]], [[1, 2, 5], [3, 4], [6]], [[1, 2, 5], [3, 6], [4]], [[1, 2, 6], [3, 4], [5]], [[1, 2, 6], [3, 5], [4]], [[1, 3, 4], [2, 5], [6]], [[1, 3, 4], [2, 6], [5]], [[1, 3, 5], [2, 4], [6]], [[1, 3, 5], [2, 6], [4]], [[1, 3, 6], [2, 4], [5]], [[1, 3, 6], [2, 5], [4]], [[1, 4, 5], [2, 6], [3]], [[1, 4, 6], [2, 5], [3]]]
theorem sh_24 : chkS [3, 2, 1] L_24 = true := by decide +kernel
abbrev L_25 : List T3 := [[[1, 2, 3], [4, 5, 6]], [[1, 2, 4], [3, 5, 6]], [[1, 2, 5], [3, 4, 6]], [[1, 3, 4], [2, 5, 6]], [[1, 3, 5], [2, 4, 6]]]
theorem sh_25 : chkS [3, 3] L_25 = true := by decide +kernel
abbrev L_26 : List T3 := [[[1, 2, 3, 4], [5], [6]], [[1, 2, 3, 5], [4], [6]], [[1, 2, 3, 6], [4], [5]], [[1, 2, 4, 5], [3], [6]], [[1, 2, 4, 6], [3], [5]], [[1, 2, 5, 6], [3], [4]], [[1, 3, 4, 5], [2], [6]], [[1, 3, 4, 6], [2], [5]], [[1, 3, 5, 6], [2], [4]], [[1, 4, 5, 6], [2], [3]]]
theorem sh_26 : chkS [4, 1, 1] L_26 = true := by decide +kernel
abbrev L_27 : List T3 := [[[1, 2, 3, 4], [5, 6]], [[1, 2, 3, 5], [4, 6]], [[1, 2, 3, 6], [4, 5]], [[1, 2, 4, 5], [3, 6]], [[1, 2, 4, 6], [3, 5]], [[1, 2, 5, 6], [3, 4]], [[1, 3, 4, 5], [2, 6]], [[1, 3, 4, 6], [2, 5]], [[1, 3, 5, 6], [2, 4]]]
theorem sh_27 : chkS [4, 2] L_27 = true := by decide +kernel
abbrev L_28 : List T3 := [[[1, 2, 3, 4, 5], [6]], [[1, 2, 3, 4, 6], [5]], [[1, 2, 3, 5, 6], [4]], [[1, 2, 4, 5, 6], [3]], [[1, 3, 4, 5, 6], [2]]]
theorem sh_28 : chkS [5, 1] L_28 = true := by decide +kernel
abbrev L_29 : List T3 := [[[1, 2, 3, 4, 5, 6]]]
theorem sh_29 : chkS [6] L_29 = true := by decide +kernel
abbrev L_30 : List T3 := [[[1], [2], [3], [4], [5], [6], [7]]]
theorem sh_30 : chkS [1, 1, 1, 1, 1, 1, 1] L_30 = true := by decide +kernel
abbrev L_31 : List T3 := [[[1, 2], [3], [4], [5], [6], [7]], [[1, 3], [2], [4], [5], [6], [7]], [[1, 4], [2], [3], [5], [6], [7]], [[1, 5], [2], [3], [4], [6], [7]], [[1, 6], [2], [3], [4], [5], [7]], [[1, 7], [2], [3], [4], [5], [6]]]
theorem sh_31 : chkS [2, 1, 1, 1, 1, 1] L_31 = true := by decide +kernel
abbrev L_32 : List T3 := [[[1, 2], [3, 4], [5], [6], [7]], [[1, 2], [3, 5], [4], [6], [7]], [[1, 2], [3, 6], [4], [5], [7]], [[1, 2], [3, 7], [4], [5], [6]], [[1, 3], [2, 4], [5], [6], [7]], [[1, 3], [2, 5], [4], [6], [7]], [[1, 3], [2, 6], [4], [5], [7]], [[1, 3], [2, 7], [4], [5], [6]], [[1, 4], [2, 5], [3], [6], [7]], [[1, 4], [2, 6], [3], [5], [7]], [[1, 4], [2, 7], [3], [5], [6]], [[1, 5], [2, 6], [3], [4], [7]], [[1, 5], [2, 7], [3], [4], [6]], [[1, 6], [2, 7], [3], [4], [5]]]
theorem sh_32 : chkS [2, 2, 1, 1, 1] L_32 = true := by decide +kernel
abbrev L_33 : List T3 := [[[1, 2], [3, 4], [5, 6], [7]], [[1, 2], [3, 4], [5, 7], [6]], [[1, 2], [3, 5], [4, 6], [7]], [[1, 2], [3, 5], [4, 7], [6]], [[1, 2], [3, 6], [4, 7], [5]], [[1, 3], [2, 4], [5, 6], [7]], [[1, 3], [2, 4], [5, 7], [6]], [[1, 3], [2, 5], [4, 6], [7]], [[1, 3], [2, 5], [4, 7], [6]], [[1, 3], [2, 6], [4, 7], [5]], [[1, 4], [2, 5], [3, 6], [7]], [[1, 4], [2, 5], [3, 7], [6]], [[1, 4], [2, 6], [3, 7], [5]], [[1, 5], [2, 6], [3, 7], [4]]]
theorem sh_33 : chkS [2, 2, 2, 1] L_33 = true := by decide +kernel
abbrev L_34 : List T3 := [[[1, 2, 3], [4], [5], [6], [7]], [[1, 2, 4], [3], [5], [6], [7]], [[1, 2, 5], [3], [4], [6], [7]], [[1, 2, 6], [3], [4], [5], [7]], [[1, 2, 7], [3], [4], [5], [6]], [[1, 3, 4], [2], [5], [6], [7]], [[1, 3, 5], [2], [4], [6], [7]], [[1, 3, 6], [2], [4], [5], [7]], [[1, 3, 7], [2], [4], [5], [6]], [[1, 4, 5], [2], [3], [6], [7]], [[1, 4, 6], [2], [3], [5], [7]], [[1, 4, 7], [2], [3], [5], [6]], [[1, 5, 6], [2], [3], [4], [7]], [[1, 5, 7], [2], [3], [4], [6]], [[1, 6, 7], [2], [3], [4], [5]]]
theorem sh_34 : chkS [3, 1, 1, 1, 1] L_34 = true := by decide +kernel
abbrev L_35 : List T3 := [[[1, 2, 3], [4, 5], [6], [7]], [[1, 2, 3], [4, 6], [5], [7]], [[1, 2, 3], [4, 7], [5], [6]], [[1, 2, 4], [3, 5], [6], [7]], [[1, 2, 4], [3, 6], [5], [7]], [[1, 2, 4], [3, 7], [5], [6]], [[1, 2, 5], [3, 4], [6], [7]], [[1, 2, 5], [3, 6], [4], [7]], [[1, 2, 5], [3, 7], [4], [6]], [[1, 2, 6], [3, 4], [5], [7]], [[1, 2, 6], [3, 5], [4], [7]], [[1, 2, 6], [3, 7], [4], [5]], [[1, 2, 7], [3, 4], [5], [6]], [[1, 2, 7], [3, 5], [4], [6]], [[1, 2, 7], [3, 6], [4], [5]], [[1, 3, 4], [2, 5], [6], [7]], [[1, 3, 4], [2, 6], [5], [7]], [[1, 3, 4], [2, 7], [5], [6]], [[1, 3, 5], [2, 4], [6], [7]], [[1, 3, 5], [2, 6], [4], [7]], [[1, 3, 5], [2, 7], [4], [6]], [[1, 3, 6], [2, 4], [5], [7]], [[1, 3, 6], [2, 5], [4], [7]], [[1, 3, 6], [2, 7], [4], [5]], [[1, 3, 7], [2, 4], [5], [6]], [[1, 3, 7], [2, 5], [4], [6]], [[1, 3, 7], [2, 6], [4], [5]], [[1, 4, 5], [2, 6], [3], [7]], [[1, 4, 5], [2, 7], [3], [6]], [[1, 4, 6], [2, 5], [3], [7]], [[1, 4, 6], [2, 7], [3], [5]], [[1, 4, 7], [2, 5], [3], [6]], [[1, 4, 7], [2, 6], [3], [5]], [[1, 5, 6], [2, 7], [3], [4]], [[1, 5, 7], [2, 6], [3], [4]]]
theorem sh_35 : chkS [3, 2, 1, 1] L_35 = true := by decide +kernel
abbrev L_36 : List T3 := [[[1, 2, 3], [4, 5], [6, 7]], [[1, 2, 3], [4, 6], [5, 7]], [[1, 2, 4], [3, 5], [6, 7]], [[1, 2, 4], [3, 6], [5, 7]], [[1, 2, 5], [3, 4], [6, 7]], [[1, 2, 5], [3, 6], [4, 7]], [[1, 2, 6], [3, 4], [5, 7]], [[1, 2, 6], [3, 5], [4, 7]], [[1, 2, 7], [3, 4], [5, 6]], [[1, 2, 7], [3, 5], [4, 6]], [[1, 3, 4], [2, 5], [6, 7]], [[1, 3, 4], [2, 6], [5, 7]], [[1, 3, 5], [2, 4], [6, 7]], [[1, 3, 5], [2, 6], [4, 7]], [[1, 3, 6], [2, 4], [5, 7]], [[1, 3, 6], [2, 5], [4, 7]], [[1, 3, 7], [2, 4], [5, 6]], [[1, 3, 7], [2, 5], [4, 6]], [[1, 4, 5], [2, 6], [3, 7]], [[1, 4, 6], [2, 5], [3, 7]], [[1, 4, 7], [2, 5], [3, 6]]]
theorem sh_36 : chkS [3, 2, 2] L_36 = true := by decide +kernel
abbrev L_37 : List T3 := [[[1, 2, 3], [4, 5, 6], [7]], [[1, 2, 3], [4, 5, 7], [6]], [[1, 2, 3], [4, 6, 7], [5]], [[1, 2, 4], [3, 5, 6], [7]], [[1, 2, 4], [3, 5, 7], [6]], [[1, 2, 4], [3, 6, 7], [5]], [[1, 2, 5], [3, 4, 6], [7]], [[1, 2, 5], [3, 4, 7], [6]], [[1, 2, 5], [3, 6, 7], [4]], [[1, 2, 6], [3, 4, 7], [5]], [[1, 2, 6], [3, 5, 7], [4]], [[1, 3, 4], [2, 5, 6], [7]], [[1, 3, 4], [2, 5, 7], [6]], [[1, 3, 4], [2, 6, 7], [5]], [[1, 3, 5], [2, 4, 6], [7]], [[1, 3, 5], [2, 4, 7], [6]], [[1, 3, 5], [2, 6, 7], [4]], [[1, 3, 6], [2, 4, 7], [5]], [[1, 3, 6], [2, 5, 7], [4]], [[1, 4, 5], [2, 6, 7], [3]], [[1, 4, 6], [2, 5, 7], [3]]]
theorem sh_37 : chkS [3, 3, 1] L_37 = true := by decide +kernel
abbrev L_38 : List T3 := [[[1, 2, 3, 4], [5], [6], [7]], [[1, 2, 3, 5], [4], [6], [7]], [[1, 2, 3, 6], [4], [5], [7]], [[1, 2, 3, 7], [4], [5], [6]], [[1, 2, 4, 5], [3], [6], [7]], [[1, 2, 4, 6], [3], [5], [7]], [[1, 2, 4, 7], [3], [5], [6]], [[1, 2, 5, 6], [3], [4], [7]], [[1, 2, 5, 7], [3], [4], [6]], [[1, 2, 6, 7], [3], [4], [5]], [[1, 3, 4, 5], [2], [6], [7]], [[1, 3, 4, 6], [2], [5], [7]], [[1, 3, 4, 7], [2], [5], [6]], [[1, 3, 5, 6], [2], [4], [7]], [[1, 3, 5, 7], [2], [4], [6]], [[1, 3, 6, 7], [2], [4], [5]], [[1, 4, 5, 6], [2], [3], [7]], [[1, 4, 5, 7], [2], [3], [6]], [[1, 4, 6, 7], [2], [3], [5]], [[1, 5, 6, 7], [2], [3], [4]]]
theorem sh_38 : chkS [4, 1, 1, 1] L_38 = true := by decide +kernel
abbrev L_39 : List T3 := [[[1, 2, 3, 4], [5, 6], [7]], [[1, 2, 3, 4], [5, 7], [6]], [[1, 2, 3, 5], [4, 6], [7]], [[1, 2, 3, 5], [4, 7], [6]], [[1, 2, 3, 6], [4, 5], [7]], [[1, 2, 3, 6], [4, 7], [5]], [[1, 2, 3, 7], [4, 5], [6]], [[1, 2, 3, 7], [4, 6], [5]], [[1, 2, 4, 5], [3, 6], [7]], [[1, 2, 4, 5], [3, 7], [6]], [[1, 2, 4, 6], [3, 5], [7]], [[1, 2, 4, 6], [3, 7], [5]], [[1, 2, 4, 7], [3, 5], [6]], [[1, 2, 4, 7], [3, 6], [5]], [[1, 2, 5, 6], [3, 4], [7]], [[1, 2, 5, 6], [3, 7], [4]], [[1, 2, 5, 7], [3, 4], [6]], [[1, 2, 5, 7], [3, 6], [4]], [[1, 2, 6, 7], [3, 4], [5]], [[1, 2, 6, 7], [3, 5], [4]], [[1, 3, 4, 5], [2, 6], [7]], [[1, 3, 4, 5], [2, 7], [6]], [[1, 3, 4, 6], [2, 5], [7]], [[1, 3, 4, 6], [2, 7], [5]], [[1, 3, 4, 7], [2, 5], [6]], [[1, 3, 4, 7], [2, 6], [5]], [[1, 3, 5, 6], [2, 4], [7]], [[1, 3, 5, 6], [2, 7], [4]], [[1, 3, 5, 7], [2, 4], [6]], [[1, 3, 5, 7], [2, 6], [4]], [[1, 3, 6, 7], [2, 4], [5]], [[1, 3, 6, 7], [2, 5], [4]], [[1, 4, 5, 6], [2, 7], [3]], [[1, 4, 5, 7], [2, 6], [3]], [[1, 4, 6, 7], [2, 5], [3]]]
theorem sh_39 : chkS [4, 2, 1] L_39 = true := by decide +kernel
abbrev L_40 : List T3 := [[[1, 2, 3, 4], [5, 6, 7]], [[1, 2, 3, 5], [4, 6, 7]], [[1, 2, 3, 6], [4, 5, 7]], [[1, 2, 3, 7], [4, 5, 6]], [[1, 2, 4, 5], [3, 6, 7]], [[1, 2, 4, 6], [3, 5, 7]], [[1, 2, 4, 7], [3, 5, 6]], [[1, 2, 5, 6], [3, 4, 7]], [[1, 2, 5, 7], [3, 4, 6]], [[1, 3, 4, 5], [2, 6, 7]], [[1, 3, 4, 6], [2, 5, 7]], [[1, 3, 4, 7], [2, 5, 6]], [[1, 3, 5, 6], [2, 4, 7]], [[1, 3, 5, 7], [2, 4, 6]]]
theorem sh_40 : chkS [4, 3] L_40 = true := by decide +kernel
abbrev L_41 : List T3 := [[[1, 2, 3, 4, 5], [6], [7]], [[1, 2, 3, 4, 6], [5], [7]], [[1, 2, 3, 4, 7], [5], [6]], [[1, 2, 3, 5, 6], [4], [7]], [[1, 2, 3, 5, 7], [4], [6]], [[1, 2, 3, 6, 7], [4], [5]], [[1, 2, 4, 5, 6], [3], [7]], [[1, 2, 4, 5, 7], [3], [6]], [[1, 2, 4, 6, 7], [3], [5]], [[1, 2, 5, 6, 7], [3], [4]], [[1, 3, 4, 5, 6], [2], [7]], [[1, 3, 4, 5, 7], [2], [6]], [[1, 3, 4, 6, 7], [2], [5]], [[1, 3, 5, 6, 7], [2], [4]], [[1, 4, 5, 6, 7], [2], [3]]]
theorem sh_41 : chkS [5, 1, 1] L_41 = true := by decide +kernel
abbrev L_42 : List T3 := [[[1, 2, 3, 4, 5], [6, 7]], [[1, 2, 3, 4, 6], [5, 7]], [[1, 2, 3, 4, 7], [5, 6]], [[1, 2, 3, 5, 6], [4, 7]], [[1, 2, 3, 5, 7], [4, 6]], [[1, 2, 3, 6, 7], [4, 5]], [[1, 2, 4, 5, 6], [3, 7]], [[1, 2, 4, 5, 7], [3, 6]], [[1, 2, 4, 6, 7], [3, 5]], [[1, 2, 5, 6, 7], [3, 4]], [[1, 3, 4, 5, 6], [2, 7]], [[1, 3, 4, 5, 7], [2, 6]], [[1, 3, 4, 6, 7], [2, 5]], [[1, 3, 5, 6, 7], [2, 4]]]
theorem sh_42 : chkS [5, 2] L_42 = true := by decide +kernel
abbrev L_43 : List T3 := [[[1, 2, 3, 4, 5, 6], [7]], [[1, 2, 3, 4, 5, 7], [6]], [[1, 2, 3, 4, 6, 7], [5]], [[1, 2, 3, 5, 6, 7], [4]], [[1, 2, 4, 5, 6, 7], [3]], [[1, 3, 4, 5, 6, 7], [2]]]
theorem sh_43 : chkS [6, 1] L_43 = true := by decide +kernel
abbrev L_44 : List T3 := [[[1, 2, 3, 4, 5, 6, 7]]]
theorem sh_44 : chkS [7] L_44 = true := by decide +kernel
abbrev L_45 : List T3 := [[[1], [2], [3], [4], [5], [6], [7], [8]]]
theorem sh_45 : chkS [1, 1, 1, 1, 1, 1, 1, 1] L_45 = true := by decide +kernel
abbrev L_46 : List T3 := [[[1, 2], [3], [4], [5], [6], [7], [8]], [[1, 3], [2], [4], [5], [6], [7], [8]], [[1, 4], [2], [3], [5], [6], [7], [8]], [[1, 5], [2], [3], [4], [6], [7], [8]], [[1, 6], [2], [3], [4], [5], [7], [8]], [[1, 7], [2], [3], [4], [5], [6], [8]], [[1, 8], [2], [3], [4], [5], [6], [7]]]
theorem sh_46 : chkS [2, 1, 1, 1, 1, 1, 1] L_46 = true := by decide +kernel
abbrev L_47 : List T3 := [[[1, 2], [3, 4], [5], [6], [7], [8]], [[1, 2], [3, 5], [4], [6], [7], [8]], [[1, 2], [3, 6], [4], [5], [7], [8]], [[1, 2], [3, 7], [4], [5], [6], [8]], [[1, 2], [3, 8], [4], [5], [6], [7]], [[1, 3], [2, 4], [5], [6], [7], [8]], [[1, 3], [2, 5], [4], [6], [7], [8]], [[1, 3], [2, 6], [4], [5], [7], [8]], [[1, 3], [2, 7], [4], [5], [6], [8]], [[1, 3], [2, 8], [4], [5], [6], [7]], [[1, 4], [2, 5], [3], [6], [7], [8]], [[1, 4], [2, 6], [3], [5], [7], [8]], [[1, 4], [2, 7], [3], [5], [6], [8]], [[1, 4], [2, 8], [3], [5], [6], [7]], [[1, 5], [2, 6], [3], [4], [7], [8]], [[1, 5], [2, 7], [3], [4], [6], [8]], [[1, 5], [2, 8], [3], [4], [6], [7]], [[1, 6], [2, 7], [3], [4], [5], [8]], [[1, 6], [2, 8], [3], [4], [5], [7]], [[1, 7], [2, 8], [3], [4], [5], [6]]]
theorem sh_47 : chkS [2, 2, 1, 1, 1, 1] L_47 = true := by decide +kernel
abbrev L_48 : List T3 := [[[1, 2], [3, 4], [5, 6], [7], [8]], [[1, 2], [3, 4], [5, 7], [6], [8]], [[1, 2], [3, 4], [5, 8], [6], [7]], [[1, 2], [3, 5], [4, 6], [7], [8]], [[1, 2], [3, 5], [4, 7], [6], [8]], [[1, 2], [3, 5], [4, 8], [6], [7]], [[1, 2], [3, 6], [4, 7], [5], [8]], [[1, 2], [3, 6], [4, 8], [5], [7]], [[1, 2], [3, 7], [4, 8], [5], [6]], [[1, 3], [2, 4], [5, 6], [7], [8]], [[1, 3], [2, 4], [5, 7], [6], [8]], [[1, 3], [2, 4], [5, 8], [6], [7]], [[1, 3], [2, 5], [4, 6], [7], [8]], [[1, 3], [2, 5], [4, 7], [6], [8]], [[1, 3], [2, 5], [4, 8], [6], [7]], [[1, 3], [2, 6], [4, 7], [5], [8]], [[1, 3], [2, 6], [4, 8], [5], [7]], [[1, 3], [2, 7], [4, 8], [5], [6]], [[1, 4], [2, 5], [3, 6], [7], [8]], [[1, 4], [2, 5], [3, 7], [6], [8]], [[1, 4], [2, 5], [3, 8], [6], [7]], [[1, 4], [2, 6], [3, 7], [5], [8]], [[1, 4], [2, 6], [3, 8], [5], [7]], [[1, 4], [2, 7], [3, 8], [5], [6]], [[1, 5], [2, 6], [3, 7], [4], [8]], [[1, 5], [2, 6], [3, 8], [4], [7]], [[1, 5], [2, 7], [3, 8], [4], [6]], [[1, 6], [2, 7], [3, 8], [4], [5]]]
theorem sh_48 : chkS [2, 2, 2, 1, 1] L_48 = true := by decide +kernel
abbrev L_49 : List T3 := [[[1, 2], [3, 4], [5, 6], [7, 8]], [[1, 2], [3, 4], [5, 7], [6, 8]], [[1, 2], [3, 5], [4, 6], [7, 8]], [[1, 2], [3, 5], [4, 7], [6, 8]], [[1, 2], [3, 6], [4, 7], [5, 8]], [[1, 3], [2, 4], [5, 6], [7, 8]], [[1, 3], [2, 4], [5, 7], [6, 8]], [[1, 3], [2, 5], [4, 6], [7, 8]], [[1, 3], [2, 5], [4, 7], [6, 8]], [[1, 3], [2, 6], [4, 7], [5, 8]], [[1, 4], [2, 5], [3, 6], [7, 8]], [[1, 4], [2, 5], [3, 7], [6, 8]], [[1, 4], [2, 6], [3, 7], [5, 8]], [[1, 5], [2, 6], [3, 7], [4, 8]]]
theorem sh_49 : chkS [2, 2, 2, 2] L_49 = true := by decide +kernel
abbrev L_50 : List T3 := [[[1, 2, 3], [4], [5], [6], [7], [8]], [[1, 2, 4], [3], [5], [6], [7], [8]], [[1, 2, 5], [3], [4], [6], [7], [8]], [[1, 2, 6], [3], [4], [5], [7], [8]], [[1, 2, 7], [3], [4], [5], [6], [8]], [[1, 2, 8], [3], [4], [5], [6], [7]], [[1, 3, 4], [2], [5], [6], [7], [8]], [[1, 3, 5], [2], [4], [6], [7], [8]], [[1, 3, 6], [2], [4], [5], [7], [8]], [[1, 3, 7], [2], [4], [5], [6], [8]], [[1, 3, 8], [2], [4], [5], [6], [7]], [[1, 4, 5], [2], [3], [6], [7], [8]], [[1, 4, 6], [2], [3], [5], [7], [8]], [[1, 4, 7], [2], [3], [5], [6], [8]], [[1, 4, 8], [2], [3], [5], [6], [7]], [[1, 5, 6], [2], [3], [4], [7], [8]], [[1, 5, 7], [2], [3], [4], [6], [8]], [[1, 5, 8], [2], [3], [4], [6], [7]], [[1, 6, 7], [2], [3], [4], [5], [8]], [[1, 6, 8], [2], [3], [4], [5], [7]], [[1, 7, 8], [2], [3], [4], [5], [6]]]
theorem sh_50 : chkS [3, 1, 1, 1, 1, 1] L_50 = true := by decide +kernel
abbrev L_51 : List T3 := [[[1, 2, 3], [4, 5], [6], [7], [8]], [[1, 2, 3], [4, 6], [5], [7], [8]], [[1, 2, 3], [4, 7], [5], [6], [8]], [[1, 2, 3], [4, 8], [5], [6], [7]], [[1, 2, 4], [3, 5], [6], [7], [8]], [[1, 2, 4], [3, 6], [5], [7], [8]], [[1, 2, 4], [3, 7], [5], [6], [8]], [[1, 2, 4], [3, 8], [5], [6], [7]], [[1, 2, 5], [3, 4], [6], [7], [8]], [[1, 2, 5], [3, 6], [4], [7], [8]], [[1, 2, 5], [3, 7], [4], [6], [8]], [[1, 2, 5], [3, 8], [4], [6], [7]], [[1, 2, 6], [3, 4], [5], [7], [8]], [[1, 2, 6], [3, 5], [4], [7], [8]], [[1, 2, 6], [3, 7], [4], [5], [8]], [[1, 2, 6], [3, 8], [4], [5], [7]], [[1, 2, 7], [3, 4], [5], [6], [8]], [[1, 2, 7], [3, 5], [4], [6], [8]], [[1, 2, 7], [3, 6], [4], [5], [8]], [[1, 2, 7], [3, 8], [4], [5], [6]], [[1, 2, 8], [3, 4], [5], [6], [7]], [[1, 2, 8], [3, 5], [4], [6], [7]], [[1, 2, 8], [3, 6], [4], [5], [7]], [[1, 2, 8], [3, 7], [4], [5], [6]], [[1, 3, 4], [2, 5], [6], [7], [8]], [[1, 3, 4], [2, 6], [5], [7], [8]], [[1, 3, 4], [2, 7], [5], [6], [8]], [[1, 3, 4], [2, 8], [5], [6], [7]], [[1, 3, 5], [2, 4], [6], [7], [8]], [[1, 3, 5], [2, 6], [4], [7], [8]], [[1, 3, 5], [2, 7], [4], [6], [8]], [[1, 3, 5], [2, 8], [4], [6], [7]], [[1, 3, 6], [2, 4], [5], [7], [8]], [[1, 3, 6], [2, 5], [4], [7], [8]], [[1, 3, 6], [2, 7], [4], [5], [8]], [[1, 3, 6], [2, 8], [4], [5], [7]], [[1, 3, 7], [2, 4], [5], [6], [8]], [[1, 3, 7], [2, 5], [4], [6], [8]], [[1, 3, 7], [2, 6], [4], [5], [8]], [[1, 3, 7], [2, 8], [4], [5], [6]], [[1, 3, 8], [2, 4], [5], [6], [7]], [[1, 3, 8], [2, 5], [4], [6], [7]], [[1, 3, 8], [2, 6], [4], [5], [7]], [[1, 3, 8], [2, 7], [4], [5], [6]], [[1, 4, 5], [2, 6], [3], [7], [8]], [[1, 4, 5], [2, 7], [3], [6], [8]], [[1, 4, 5], [2, 8], [3], [6], [7]], [[1, 4, 6], [2, 5], [3], [7], [8]], [[1, 4, 6], [2, 7], [3], [5], [8]], [[1, 4, 6], [2, 8], [3], [5], [7]], [[1, 4, 7], [2, 5], [3], [6], [8]], [[1, 4, 7], [2, 6], [3], [5], [8]], [[1, 4, 7], [2, 8], [3], [5], [6]], [[1, 4, 8], [2, 5], [3], [6], [7]], [[1, 4, 8], [2, 6], [3], [5], [7]], [[1, 4, 8], [2, 7], [3], [5], [6]], [[1, 5, 6], [2, 7], [3], [4], [8]], [[1, 5, 6], [2, 8], [3], [4], [7]], [[1, 5, 7], [2, 6], [3], [4], [8]], [[1, 5, 7], [2, 8], [3], [4], [6]], [[1, 5, 8], [2, 6], [3], [4], [7]], [[1, 5, 8], [2, 7], [3], [4], [6]], [[1, 6, 7], [2, 8], [3], [4], [5]], [[1, 6, 8], [2, 7], [3], [4], [5]]]
theorem sh_51 : chkS [3, 2, 1, 1, 1] L_51 = true := by decide +kernel
abbrev L_52 : List T3 := [[[1, 2, 3], [4, 5], [6, 7], [8]], [[1, 2, 3], [4, 5], [6, 8], [7]], [[1, 2, 3], [4, 6], [5, 7], [8]], [[1, 2, 3], [4, 6], [5, 8], [7]], [[1, 2, 3], [4, 7], [5, 8], [6]], [[1, 2, 4], [3, 5], [6, 7], [8]], [[1, 2, 4], [3, 5], [6, 8], [7]], [[1, 2, 4], [3, 6], [5, 7], [8]], [[1, 2, 4], [3, 6], [5, 8], [7]], [[1, 2, 4], [3, 7], [5, 8], [6]], [[1, 2, 5], [3, 4], [6, 7], [8]], [[1, 2, 5], [3, 4], [6, 8], [7]], [[1, 2, 5], [3, 6], [4, 7], [8]], [[1, 2, 5], [3, 6], [4, 8], [7]], [[1, 2, 5], [3, 7], [4, 8], [6]], [[1, 2, 6], [3, 4], [5, 7], [8]], [[1, 2, 6], [3, 4], [5, 8], [7]], [[1, 2, 6], [3, 5], [4, 7], [8]], [[1, 2, 6], [3, 5], [4, 8], [7]], [[1, 2, 6], [3, 7], [4, 8], [5]], [[1, 2, 7], [3, 4], [5, 6], [8]], [[1, 2, 7], [3, 4], [5, 8], [6]], [[1, 2, 7], [3, 5], [4, 6], [8]], [[1, 2, 7], [3, 5], [4, 8], [6]], [[1, 2, 7], [3, 6], [4, 8], [5]], [[1, 2, 8], [3, 4], [5, 6], [7]], [[1, 2, 8], [3, 4], [5, 7], [6]], [[1, 2, 8], [3, 5], [4, 6], [7]], [[1, 2, 8], [3, 5], [4, 7], [6]], [[1, 2, 8], [3, 6], [4, 7], [5]], [[1, 3, 4], [2, 5], [6, 7], [8]], [[1, 3, 4], [2, 5], [6, 8], [7]], [[1, 3, 4], [2, 6], [5, 7], [8]], [[1, 3, 4], [2, 6], [5, 8], [7]], [[1, 3, 4], [2, 7], [5, 8], [6]], [[1, 3, 5], [2, 4], [6, 7], [8]], [[1, 3, 5], [2, 4], [6, 8], [7]], [[1, 3, 5], [2, 6], [4, 7], [8]], [[1, 3, 5], [2, 6], [4, 8], [7]], [[1, 3, 5], [2, 7], [4, 8], [6]], [[1, 3, 6], [2, 4], [5, 7], [8]], [[1, 3, 6], [2, 4], [5, 8], [7]], [[1, 3, 6], [2, 5], [4, 7], [8]], [[1, 3, 6], [2, 5], [4, 8], [7]], [[1, 3, 6], [2, 7], [4, 8], [5]], [[1, 3, 7], [2, 4], [5, 6], [8]], [[1, 3, 7], [2, 4], [5, 8], [6]], [[1, 3, 7], [2, 5], [4, 6], [8]], [[1, 3, 7], [2, 5], [4, 8], [6]], [[1, 3, 7], [2, 6], [4, 8], [5]], [[1, 3, 8], [2, 4], [5, 6], [7]], [[1, 3, 8], [2, 4], [5, 7], [6]], [[1, 3, 8], [2, 5], [4, 6], [7]], [[1, 3, 8], [2, 5], [4, 7], [6]], [[1, 3, 8], [2, 6], [4, 7], [5]], [[1, 4, 5], [2, 6], [3, 7], [8]], [[1, 4, 5], [2, 6], [3, 8], [7]], [[1, 4, 5], [2, 7], [3, 8], [6]], [[1, 4, 6], [2, 5], [3, 7], [8]], [[1, 4, 6], [2, 5], [3, 8], [7]], [[1, 4, 6], [2, 7], [3, 8], [5]], [[1, 4, 7], [2, 5], [3, 6], [8]], [[1, 4, 7], [2, 5], [3, 8], [6]], [[1, 4, 7], [2, 6], [3, 8], [5]], [[1, 4, 8], [2, 5], [3, 6], [7]], [[1, 4, 8], [2, 5], [3, 7], [6]], [[1, 4, 8], [2, 6], [3, 7], [5]], [[1, 5, 6], [2, 7], [3, 8], [4]], [[1, 5, 7], [2, 6], [3, 8], [4]], [[1, 5, 8], [2, 6], [3, 7], [4]]]
theorem sh_52 : chkS [3, 2, 2, 1] L_52 = true := by decide +kernel
abbrev L_53 : List T3 := [[[1, 2, 3], [4, 5, 6], [7], [8]], [[1, 2, 3], [4, 5, 7], [6], [8]], [[1, 2, 3], [4, 5, 8], [6], [7]], [[1, 2, 3], [4, 6, 7], [5], [8]], [[1, 2, 3], [4, 6, 8], [5], [7]], [[1, 2, 3], [4, 7, 8], [5], [6]], [[1, 2, 4], [3, 5, 6], [7], [8]], [[1, 2, 4], [3, 5, 7], [6], [8]], [[1, 2, 4], [3, 5, 8], [6], [7]], [[1, 2, 4], [3, 6, 7], [5], [8]], [[1, 2, 4], [3, 6, 8], [5], [7]], [[1, 2, 4], [3, 7, 8], [5], [6]], [[1, 2, 5], [3, 4, 6], [7], [8]], [[1, 2, 5], [3, 4, 7], [6], [8]], [[1, 2, 5], [3, 4, 8], [6], [7]], [[1, 2, 5], [3, 6, 7], [4], [8]], [[1, 2, 5], [3, 6, 8], [4], [7]], [[1, 2, 5], [3, 7, 8], [4], [6]], [[1, 2, 6], [3, 4, 7], [5], [8]], [[1, 2, 6], [3, 4, 8], [5], [7]], [[1, 2, 6], [3, 5, 7], [4], [8]], [[1, 2, 6], [3, 5, 8], [4], [7]], [[1, 2, 6], [3, 7, 8], [4], [5]], [[1, 2, 7], [3, 4, 8], [5], [6]], [[1, 2, 7], [3, 5, 8], [4], [6]], [[1, 2, 7], [3, 6, 8], [4], [5]], [[1, 3, 4], [2, 5, 6], [7], [8]], [[1, 3, 4], [2, 5, 7], [6], [8]], [[1, 3, 4], [2, 5, 8], [6], [7]], [[1, 3, 4], [2, 6, 7], [5], [8]], [[1, 3, 4], [2, 6, 8], [5], [7]], [[1, 3, 4], [2, 7, 8], [5], [6]], [[1, 3, 5], [2, 4, 6], [7], [8]], [[1, 3, 5], [2, 4, 7], [6], [8]], [[1, 3, 5], [2, 4, 8], [6], [7]], [[1, 3, 5], [2, 6, 7], [4], [8]], [[1, 3, 5], [2, 6, 8], [4], [7]], [[1, 3, 5], [2, 7, 8], [4], [6]], [[1, 3, 6], [2, 4, 7], [5], [8]], [[1, 3, 6], [2, 4, 8], [5], [7]], [[1, 3, 6], [2, 5, 7], [4], [8]], [[1, 3, 6], [2, 5, 8], [4], [7]], [[1, 3, 6], [2, 7, 8], [4], [5]], [[1, 3, 7], [2, 4, 8], [5], [6]], [[1, 3, 7], [2, 5, 8], [4], [6]], [[1, 3, 7], [2, 6, 8], [4], [5]], [[1, 4, 5], [2, 6, 7], [3], [8]], [[1, 4, 5], [2, 6, 8], [3], [7]], [[1, 4, 5], [2, 7, 8], [3], [6]], [[1, 4, 6], [2, 5, 7], [3], [8]], [[1, 4, 6], [2, 5, 8], [3], [7]], [[1, 4, 6], [2, 7, 8], [3], [5]], [[1, 4, 7], [2, 5, 8], [3], [6]], [[1, 4, 7], [2, 6, 8], [3], [5]], [[1, 5, 6], [2, 7, 8], [3], [4]], [[1, 5, 7], [2, 6, 8], [3], [4]]]
theorem sh_53 : chkS [3, 3, 1, 1] L_53 = true := by decide +kernel
abbrev L_54 : List T3 := [[[1, 2, 3], [4, 5, 6], [7, 8]], [[1, 2, 3], [4, 5, 7], [6, 8]], [[1, 2, 3], [4, 5, 8], [6, 7]], [[1, 2, 3], [4, 6, 7], [5, 8]], [[1, 2, 3], [4, 6, 8], [5, 7]], [[1, 2, 4], [3, 5, 6], [7, 8]], [[1, 2, 4], [3, 5, 7], [6, 8]], [[1, 2, 4], [3, 5, 8], [6, 7]], [[1, 2, 4], [3, 6, 7], [5, 8]], [[1, 2, 4], [3, 6, 8], [5, 7]], [[1, 2, 5], [3, 4, 6], [7, 8]], [[1, 2, 5], [3, 4, 7], [6, 8]], [[1, 2, 5], [3, 4, 8], [6, 7]], [[1, 2, 5], [3, 6, 7], [4, 8]], [[1, 2, 5], [3, 6, 8], [4, 7]], [[1, 2, 6], [3, 4, 7], [5, 8]], [[1, 2, 6], [3, 4, 8], [5, 7]], [[1, 2, 6], [3, 5, 7], [4, 8]], [[1, 2, 6], [3, 5, 8], [4, 7]], [[1, 2, 7], [3, 4, 8], [5, 6]], [[1, 2, 7], [3, 5, 8], [4, 6]], [[1, 3, 4], [2, 5, 6], [7, 8]], [[1, 3, 4], [2, 5, 7], [6, 8]], [[1, 3, 4], [2, 5, 8], [6, 7]], [[1, 3, 4], [2, 6, 7], [5, 8]], [[1, 3, 4], [2, 6, 8], [5, 7]], [[1, 3, 5], [2, 4, 6], [7, 8]], [[1, 3, 5], [2, 4, 7], [6, 8]], [[1, 3, 5], [2, 4, 8], [6, 7]], [[1, 3, 5], [2, 6, 7], [4, 8]], [[1, 3, 5], [2, 6, 8], [4, 7]], [[1, 3, 6], [2, 4, 7], [5, 8]], [[1, 3, 6], [2, 4, 8], [5, 7]], [[1, 3, 6], [2, 5, 7], [4, 8]], [[1, 3, 6], [2, 5, 8], [4, 7]], [[1, 3, 7], [2, 4, 8], [5, 6]], [[1, 3, 7], [2, 5, 8], [4, 6]], [[1, 4, 5], [2, 6, 7], [3, 8]], [[1, 4, 5], [2, 6, 8], [3, 7]], [[1, 4, 6], [2, 5, 7], [3, 8]], [[1, 4, 6], [2, 5, 8], [3, 7]], [[1, 4, 7], [2, 5, 8], [3, 6]]]
theorem sh_54 : chkS [3, 3, 2] L_54 = true := by decide +kernel
abbrev L_55 : List T3 := [[[1, 2, 3, 4], [5], [6], [7], [8]], [[1, 2, 3, 5], [4], [6], [7], [8]], [[1, 2, 3, 6], [4], [5], [7], [8]], [[1, 2, 3, 7], [4], [5], [6], [8]], [[1, 2, 3, 8], [4], [5], [6], [7]], [[1, 2, 4, 5], [3], [6], [7], [8]], [[1, 2, 4, 6], [3], [5], [7], [8]], [[1, 2, 4, 7], [3], [5], [6], [8]], [[1, 2, 4, 8], [3], [5], [6], [7]], [[1, 2, 5, 6], [3], [4], [7], [8]], [[1, 2, 5, 7], [3], [4], [6], [8]], [[1, 2, 5, 8], [3], [4], [6], [7]], [[1, 2, 6, 7], [3], [4], [5], [8]], [[1, 2, 6, 8], [3], [4], [5], [7]], [[1, 2, 7, 8], [3], [4], [5], [6]], [[1, 3, 4, 5], [2], [6], [7], [8]], [[1, 3, 4, 6], [2], [5], [7], [8]], [[1, 3, 4, 7], [2], [5], [6], [8]], [[1, 3, 4, 8], [2], [5], [6], [7]], [[1, 3, 5, 6], [2], [4], [7], [8]], [[1, 3, 5, 7], [2], [4], [6], [8]], [[1, 3, 5, 8], [2], [4], [6], [7]], [[1, 3, 6, 7], [2], [4], [5], [8]], [[1, 3, 6, 8], [2], [4], [5], [7]], [[1, 3, 7, 8], [2], [4], [5], [6]], [[1, 4, 5, 6], [2], [3], [7], [8]], [[1, 4, 5, 7], [2], [3], [6], [8]], [[1, 4, 5, 8], [2], [3], [6], [7]], [[1, 4, 6, 7], [2], [3], [5], [8]], [[1, 4, 6, 8], [2], [3], [5], [7]], [[1, 4, 7, 8], [2], [3], [5], [6]], [[1, 5, 6, 7], [2], [3], [4], [8]], [[1, 5, 6, 8], [2], [3], [4], [7]], [[1, 5, 7, 8], [2], [3], [4], [6]], [[1, 6, 7, 8], [2], [3], [4], [5]]]
theorem sh_55 : chkS [4, 1, 1, 1, 1] L_55 = true := by decide +kernel
abbrev L_56 : List T3 := [[[1, 2, 3, 4], [5, 6], [7], [8]], [[1, 2, 3, 4], [5, 7], [6], [8]], [[1, 2, 3, 4], [5, 8], [6], [7]], [[1, 2, 3, 5], [4, 6], [7], [8]], [[1, 2, 3, 5], [4, 7], [6], [8]], [[1, 2, 3, 5], [4, 8], [6], [7]], [[1, 2, 3, 6], [4, 5], [7], [8]], [[1, 2, 3, 6], [4, 7], [5], [8]], [[1, 2, 3, 6], [4, 8], [5], [7]], [[1, 2, 3, 7], [4, 5], [6], [8]], [[1, 2, 3, 7], [4, 6], [5], [8]], [[1, 2, 3, 7], [4, 8], [5], [6]], [[1, 2, 3, 8], [4, 5], [6], [7]], [[1, 2, 3, 8], [4, 6], [5], [7]], [[1, 2, 3, 8], [4, 7], [5], [6]], [[1, 2, 4, 5], [3, 6], [7], [8]], [[1, 2, 4, 5], [3, 7], [6], [8]], [[1, 2, 4, 5], [3, 8], [6], [7]], [[1, 2, 4, 6], [3, 5], [7], [8]], [[1, 2, 4, 6], [3, 7], [5], [8]], [[1, 2, 4, 6], [3, 8], [5], [7]], [[1, 2, 4, 7], [3, 5], [6], [8]], [[1, 2, 4, 7], [3, 6], [5], [8]], [[1, 2, 4, 7], [3, 8], [5], [6]], [[1, 2, 4, 8], [3, 5], [6], [7]], [[1, 2, 4, 8], [3, 6], [5], [7]], [[1, 2, 4, 8], [3, 7], [5], [6]], [[1, 2, 5, 6], [3, 4], [7], [8]], [[1, 2, 5, 6], [3, 7], [4], [8]], [[1, 2, 5, 6], [3, 8], [4], [7]], [[1, 2, 5, 7], [3, 4], [6], [8]], [[1, 2, 5, 7], [3, 6], [4], [8]], [[1, 2, 5, 7], [3, 8], [4], [6]], [[1, 2, 5, 8], [3, 4], [6], [7]], [[1, 2, 5, 8], [3, 6], [4], [7]], [[1, 2, 5, 8], [3, 7], [4], [6]], [[1, 2, 6, 7], [3, 4], [5], [8]], [[1, 2, 6, 7], [3, 5], [4], [8]], [[1, 2, 6, 7], [3, 8], [4], [5]], [[1, 2, 6, 8], [3, 4], [5], [7]], [[1, 2, 6, 8], [3, 5], [4], [7]], [[1, 2, 6, 8], [3, 7], [4], [5]], [[1, 2, 7, 8], [3, 4], [5], [6]], [[1, 2, 7, 8], [3, 5], [4], [6]], [[1, 2, 7, 8], [3, 6], [4], [5]], [[1, 3, 4, 5], [2, 6], [7], [8]], [[1, 3, 4, 5], [2, 7], [6], [8]], [[1, 3, 4, 5], [2, 8], [6], [7]], [[1, 3, 4, 6], [2, 5], [7], [8]], [[1, 3, 4, 6], [2, 7], [5], [8]], [[1, 3, 4, 6], [2, 8], [5], [7]], [[1, 3, 4, 7], [2, 5], [6], [8]], [[1, 3, 4, 7], [2, 6], [5], [8]], [[1, 3, 4, 7], [2, 8], [5], [6]], [[1, 3, 4, 8], [2, 5], [6], [7]], [[1, 3, 4, 8], [2, 6], [5], [7]], [[1, 3, 4, 8], [2, 7], [5], [6]], [[1, 3, 5, 6], [2, 4], [7], [8]], [[1, 3, 5, 6], [2, 7], [4], [8]], [[1, 3, 5, 6], [2, 8], [4], [7]], [[1, 3, 5, 7], [2, 4], [6], [8]], [[1, 3, 5, 7], [2, 6], [4], [8]], [[1, 3, 5, 7], [2, 8], [4], [6]], [[1, 3, 5, 8], [2, 4], [6], [7]], [[1, 3, 5, 8], [2, 6], [4], [7]], [[1, 3, 5, 8], [2, 7], [4], [6]], [[1, 3, 6, 7], [2, 4], [5], [8]], [[1, 3, 6, 7], [2, 5], [4], [8]], [[1, 3, 6, 7], [2, 8], [4], [5]], [[1, 3, 6, 8], [2, 4], [5], [7]], [[1, 3, 6, 8], [2, 5], [4], [7]], [[1, 3, 6, 8], [2, 7], [4], [5]], [[1, 3, 7, 8], [2, 4], [5], [6]], [[1, 3, 7, 8], [2, 5], [4], [6]], [[1, 3, 7, 8], [2, 6], [4], [5]], [[1, 4, 5, 6], [2, 7], [3], [8]], [[1, 4, 5, 6], [2, 8], [3], [7]], [[1, 4, 5, 7], [2, 6], [3], [8]], [[1, 4, 5, 7], [2, 8], [3], [6]], [[1, 4, 5, 8], [2, 6], [3], [7]], [[1, 4, 5, 8], [2, 7], [3], [6]], [[1, 4, 6, 7], [2, 5], [3], [8]], [[1, 4, 6, 7], [2, 8], [3], [5]], [[1, 4, 6, 8], [2, 5], [3], [7]], [[1, 4, 6, 8], [2, 7], [3], [5]], [[1, 4, 7, 8], [2, 5], [3], [6]], [[1, 4, 7, 8], [2, 6], [3], [5]], [[1, 5, 6, 7], [2, 8], [3], [4]], [[1, 5, 6, 8], [2, 7], [3], [4]], [[1, 5, 7, 8], [2, 6], [3], [4]]]
theorem sh_56 : chkS [4, 2, 1, 1] L_56 = true := by decide +kernel
abbrev L_57 : List T3 := [[[1, 2, 3, 4], [5, 6], [7, 8]], [[1, 2, 3, 4], [5, 7], [6, 8]], [[1, 2, 3, 5], [4, 6], [7, 8]], [[1, 2, 3, 5], [4, 7], [6, 8]], [[1, 2, 3, 6], [4, 5], [7, 8]], [[1, 2, 3, 6], [4, 7], [5, 8]], [[1, 2, 3, 7], [4, 5], [6, 8]], [[1, 2, 3, 7], [4, 6], [5, 8]], [[1, 2, 3, 8], [4, 5], [6, 7]], [[1, 2, 3, 8], [4, 6], [5, 7]], [[1, 2, 4, 5], [3, 6], [7, 8]], [[1, 2, 4, 5], [3, 7], [6, 8]], [[1, 2, 4, 6], [3, 5], [7, 8]], [[1, 2, 4, 6], [3, 7], [5, 8]], [[1, 2, 4, 7], [3, 5], [6, 8]], [[1, 2, 4, 7], [3, 6], [5, 8]], [[1, 2, 4, 8], [3, 5], [6, 7]], [[1, 2, 4, 8], [3, 6], [5, 7]], [[1, 2, 5, 6], [3, 4], [7, 8]], [[1, 2, 5, 6], [3, 7], [4, 8]], [[1, 2, 5, 7], [3, 4], [6, 8]], [[1, 2, 5, 7], [3, 6], [4, 8]], [[1, 2, 5, 8], [3, 4], [6, 7]], [[1, 2, 5, 8], [3, 6], [4, 7]], [[1, 2, 6, 7], [3, 4], [5, 8]], [[1, 2, 6, 7], [3, 5], [4, 8]], [[1, 2, 6, 8], [3, 4], [5, 7]], [[1, 2, 6, 8], [3, 5], [4, 7]], [[1, 2, 7, 8], [3, 4], [5, 6]], [[1, 2, 7, 8], [3, 5], [4, 6]], [[1, 3, 4, 5], [2, 6], [7, 8]], [[1, 3, 4, 5], [2, 7], [6, 8]], [[1, 3, 4, 6], [2, 5], [7, 8]], [[1, 3, 4, 6], [2, 7], [5, 8]], [[1, 3, 4, 7], [2, 5], [6, 8]], [[1, 3, 4, 7], [2, 6], [5, 8]], [[1, 3, 4, 8], [2, 5], [6, 7]], [[1, 3, 4, 8], [2, 6], [5, 7]], [[1, 3, 5, 6], [2, 4], [7, 8]], [[1, 3, 5, 6], [2, 7], [4, 8]], [[1, 3, 5, 7], [2, 4], [6, 8]], [[1, 3, 5, 7], [2, 6], [4, 8]], [[1, 3, 5, 8], [2, 4], [6, 7]], [[1, 3, 5, 8], [2, 6], [4, 7]], [[1, 3, 6, 7], [2, 4], [5, 8]], [[1, 3, 6, 7], [2, 5], [4, 8]], [[1, 3, 6, 8], [2, 4], [5, 7]], [[1, 3, 6, 8], [2, 5], [4, 7]], [[1, 3, 7, 8], [2, 4], [5, 6]], [[1, 3, 7, 8], [2, 5], [4, 6]], [[1, 4, 5, 6], [2, 7], [3, 8]], [[1, 4, 5, 7], [2, 6], [3, 8]], [[1, 4, 5, 8], [2, 6], [3, 7]], [[1, 4, 6, 7], [2, 5], [3, 8]], [[1, 4, 6, 8], [2, 5], [3, 7]], [[1, 4, 7, 8], [2, 5], [3, 6]]]
theorem sh_57 : chkS [4, 2, 2] L_57 = true := by decide +kernel
abbrev L_58 : List T3 := [[[1, 2, 3, 4], [5, 6, 7], [8]], [[1, 2, 3, 4], [5, 6, 8], [7]], [[1, 2, 3, 4], [5, 7, 8], [6]], [[1, 2, 3, 5], [4, 6, 7], [8]], [[1, 2, 3, 5], [4, 6, 8], [7]], [[1, 2, 3, 5], [4, 7, 8], [6]], [[1, 2, 3, 6], [4, 5, 7], [8]], [[1, 2, 3, 6], [4, 5, 8], [7]], [[1, 2, 3, 6], [4, 7, 8], [5]], [[1, 2, 3, 7], [4, 5, 6], [8]], [[1, 2, 3, 7], [4, 5, 8], [6]], [[1, 2, 3, 7], [4, 6, 8], [5]], [[1, 2, 3, 8], [4, 5, 6], [7]], [[1, 2, 3, 8], [4, 5, 7], [6]], [[1, 2, 3, 8], [4, 6, 7], [5]], [[1, 2, 4, 5], [3, 6, 7], [8]], [[1, 2, 4, 5], [3, 6, 8], [7]], [[1, 2, 4, 5], [3, 7, 8], [6]], [[1, 2, 4, 6], [3, 5, 7], [8]], [[1, 2, 4, 6], [3, 5, 8], [7]], [[1, 2, 4, 6], [3, 7, 8], [5]], [[1, 2, 4, 7], [3, 5, 6], [8]], [[1, 2, 4, 7], [3, 5, 8], [6]], [[1, 2, 4, 7], [3, 6, 8], [5]], [[1, 2, 4, 8], [3, 5, 6], [7]], [[1, 2, 4, 8], [3, 5, 7], [6]], [[1, 2, 4, 8], [3, 6, 7], [5]], [[1, 2, 5, 6], [3, 4, 7], [8]], [[1, 2, 5, 6], [3, 4, 8], [7]], [[1, 2, 5, 6], [3, 7, 8], [4]], [[1, 2, 5, 7], [3, 4, 6], [8]], [[1, 2, 5, 7], [3, 4, 8], [6]], [[1, 2, 5, 7], [3, 6, 8], [4]], [[1, 2, 5, 8], [3, 4, 6], [7]], [[1, 2, 5, 8], [3, 4, 7], [6]], [[1, 2, 5, 8], [3, 6, 7], [4]], [[1, 2, 6, 7], [3, 4, 8], [5]], [[1, 2, 6, 7], [3, 5, 8], [4]], [[1, 2, 6, 8], [3, 4, 7], [5]], [[1, 2, 6, 8], [3, 5, 7], [4]], [[1, 3, 4, 5], [2, 6, 7], [8]], [[1, 3, 4, 5], [2, 6, 8], [7]], [[1, 3, 4, 5], [2, 7, 8], [6]], [[1, 3, 4, 6], [2, 5, 7], [8]], [[1, 3, 4, 6], [2, 5, 8], [7]], [[1, 3, 4, 6], [2, 7, 8], [5]], [[1, 3, 4, 7], [2, 5, 6], [8]], [[1, 3, 4, 7], [2, 5, 8], [6]], [[1, 3, 4, 7], [2, 6, 8], [5]], [[1, 3, 4, 8], [2, 5, 6], [7]], [[1, 3, 4, 8], [2, 5, 7], [6]], [[1, 3, 4, 8], [2, 6, 7], [5]], [[1, 3, 5, 6], [2, 4, 7], [8]], [[1, 3, 5, 6], [2, 4, 8], [7]], [[1, 3, 5, 6], [2, 7, 8], [4]], [[1, 3, 5, 7], [2, 4, 6], [8]], [[1, 3, 5, 7], [2, 4, 8], [6]], [[1, 3, 5, 7], [2, 6, 8], [4]], [[1, 3, 5, 8], [2, 4, 6], [7]], [[1, 3, 5, 8], [2, 4, 7], [6]], [[1, 3, 5, 8], [2, 6, 7], [4]], [[1, 3, 6, 7], [2, 4, 8], [5]], [[1, 3, 6, 7], [2, 5, 8], [4]], [[1, 3, 6, 8], [2, 4, 7], [5]], [[1, 3, 6, 8], [2, 5, 7], [4]], [[1, 4, 5, 6], [2, 7, 8], [3]], [[1, 4, 5, 7], [2, 6, 8], [3]], [[1, 4, 5, 8], [2, 6, 7], [3]], [[1, 4, 6, 7], [2, 5, 8], [3]], [[1, 4, 6, 8], [2, 5, 7], [3]]]
theorem sh_58 : chkS [4, 3, 1] L_58 = true := by decide +kernel
abbrev L_59 : List T3 := [[[1, 2, 3, 4], [5, 6, 7, 8]], [[1, 2, 3, 5], [4, 6, 7, 8]], [[1, 2, 3, 6], [4, 5, 7, 8]], [[1, 2, 3, 7], [4, 5, 6, 8]], [[1, 2, 4, 5], [3, 6, 7, 8]], [[1, 2, 4, 6], [3, 5, 7, 8]], [[1, 2, 4, 7], [3, 5, 6, 8]], [[1, 2, 5, 6], [3, 4, 7, 8]], [[1, 2, 5, 7], [3, 4, 6, 8]], [[1, 3, 4, 5], [2, 6, 7, 8]], [[1, 3, 4, 6], [2, 5, 7, 8]], [[1, 3, 4, 7], [2, 5, 6, 8]], [[1, 3, 5, 6], [2, 4, 7, 8]], [[1, 3, 5, 7], [2, 4, 6, 8]]]
theorem sh_59 : chkS [4, 4] L_59 = true := by decide +kernel
abbrev L_60 : List T3 := [[[1, 2, 3, 4, 5], [6], [7], [8]], [[1, 2, 3, 4, 6], [5], [7], [8]], [[1, 2, 3, 4, 7], [5], [6], [8]], [[1, 2, 3, 4, 8], [5], [6], [7]], [[1, 2, 3, 5, 6], [4], [7], [8]], [[1, 2, 3, 5, 7], [4], [6], [8]], [[1, 2, 3, 5, 8], [4], [6], [7]], [[1, 2, 3, 6, 7], [4], [5], [8]], [[1, 2, 3, 6, 8], [4], [5], [7]], [[1, 2, 3, 7, 8], [4], [5], [6]], [[1, 2, 4, 5, 6], [3], [7], [8]], [[1, 2, 4, 5, 7], [3], [6], [8]], [[1, 2, 4, 5, 8], [3], [6], [7]], [[1, 2, 4, 6, 7], [3], [5], [8]], [[1, 2, 4, 6, 8], [3], [5], [7]], [[1, 2, 4, 7, 8], [3], [5], [6]], [[1, 2, 5, 6, 7], [3], [4], [8]], [[1, 2, 5, 6, 8], [3], [4], [7]], [[1, 2, 5, 7, 8], [3], [4], [6]], [[1, 2, 6, 7, 8], [3], [4], [5]], [[1, 3, 4, 5, 6], [2], [7], [8]], [[1, 3, 4, 5, 7], [2], [6], [8]], [[1, 3, 4, 5, 8], [2], [6], [7]], [[1, 3, 4, 6, 7], [2], [5], [8]], [[1, 3, 4, 6, 8], [2], [5], [7]], [[1, 3, 4, 7, 8], [2], [5], [6]], [[1, 3, 5, 6, 7], [2], [4], [8]], [[1, 3, 5, 6, 8], [2], [4], [7]], [[1, 3, 5, 7, 8], [2], [4], [6]], [[1, 3, 6, 7, 8], [2], [4], [5]], [[1, 4, 5, 6, 7], [2], [3], [8]], [[1, 4, 5, 6, 8], [2], [3], [7]], [[1, 4, 5, 7, 8], [2], [3], [6]], [[1, 4, 6, 7, 8], [2], [3], [5]], [[1, 5, 6, 7, 8], [2], [3], [4]]]
theorem sh_60 : chkS [5, 1, 1, 1] L_60 = true := by decide +kernel
abbrev L_61 : List T3 := [[[1, 2, 3, 4, 5], [6, 7], [8]], [[1, 2, 3, 4, 5], [6, 8], [7]], [[1, 2, 3, 4, 6], [5, 7], [8]], [[1, 2, 3, 4, 6], [5, 8], [7]], [[1, 2, 3, 4, 7], [5, 6], [8]], [[1, 2, 3, 4, 7], [5, 8], [6]], [[1, 2, 3, 4, 8], [5, 6], [7]], [[1, 2, 3, 4, 8], [5, 7], [6]], [[1, 2, 3, 5, 6], [4, 7], [8]], [[1, 2, 3, 5, 6], [4, 8], [7]], [[1, 2, 3, 5, 7], [4, 6], [8]], [[1, 2, 3, 5, 7], [4, 8], [6]], [[1, 2, 3, 5, 8], [4, 6], [7]], [[1, 2, 3, 5, 8], [4, 7], [6]], [[1, 2, 3, 6, 7], [4, 5], [8]], [[1, 2, 3, 6, 7], [4, 8], [5]], [[1, 2, 3, 6, 8], [4, 5], [7]], [[1, 2, 3, 6, 8], [4, 7], [5]], [[1, 2, 3, 7, 8], [4, 5], [6]], [[1, 2, 3, 7, 8], [4, 6], [5]], [[1, 2, 4, 5, 6], [3, 7], [8]], [[1, 2, 4, 5, 6], [3, 8], [7]], [[1, 2, 4, 5, 7], [3, 6], [8]], [[1, 2, 4, 5, 7], [3, 8], [6]], [[1, 2, 4, 5, 8], [3, 6], [7]], [[1, 2, 4, 5, 8], [3, 7], [6]], [[1, 2, 4, 6, 7], [3, 5], [8]], [[1, 2, 4, 6, 7], [3, 8], [5]], [[1, 2, 4, 6, 8], [3, 5], [7]], [[1, 2, 4, 6, 8], [3, 7], [5]], [[1, 2, 4, 7, 8], [3, 5], [6]], [[1, 2, 4, 7, 8], [3, 6], [5]], [[1, 2, 5, 6, 7], [3, 4], [8]], [[1, 2, 5, 6, 7], [3, 8], [4]], [[1, 2, 5, 6, 8], [3, 4], [7]], [[1, 2, 5, 6, 8], [3, 7], [4]], [[1, 2, 5, 7, 8], [3, 4], [6]], [[1, 2, 5, 7, 8], [3, 6], [4]], [[1, 2, 6, 7, 8], [3, 4], [5]], [[1, 2, 6, 7, 8], [3, 5], [4]], [[1, 3, 4, 5, 6], [2, 7], [8]], [[1, 3, 4, 5, 6], [2, 8], [7]], [[1, 3, 4, 5, 7], [2, 6], [8]], [[1, 3, 4, 5, 7], [2, 8], [6]], [[1, 3, 4, 5, 8], [2, 6], [7]], [[1, 3, 4, 5, 8], [2, 7], [6]], [[1, 3, 4, 6, 7], [2, 5], [8]], [[1, 3, 4, 6, 7], [2, 8], [5]], [[1, 3, 4, 6, 8], [2, 5], [7]], [[1, 3, 4, 6, 8], [2, 7], [5]], [[1, 3, 4, 7, 8], [2, 5], [6]], [[1, 3, 4, 7, 8], [2, 6], [5]], [[1, 3, 5, 6, 7], [2, 4], [8]], [[1, 3, 5, 6, 7], [2, 8], [4]], [[1, 3, 5, 6, 8], [2, 4], [7]], [[1, 3, 5, 6, 8], [2, 7], [4]], [[1, 3, 5, 7, 8], [2, 4], [6]], [[1, 3, 5, 7, 8], [2, 6], [4]], [[1, 3, 6, 7, 8], [2, 4], [5]], [[1, 3, 6, 7, 8], [2, 5], [4]], [[1, 4, 5, 6, 7], [2, 8], [3]], [[1, 4, 5, 6, 8], [2, 7], [3]], [[1, 4, 5, 7, 8], [2, 6], [3]], [[1, 4, 6, 7, 8], [2, 5], [3]]]
theorem sh_61 : chkS [5, 2, 1] L_61 = true := by decide +kernel
abbrev L_62 : List T3 := [[[1, 2, 3, 4, 5], [6, 7, 8]], [[1, 2, 3, 4, 6], [5, 7, 8]], [[1, 2, 3, 4, 7], [5, 6, 8]], [[1, 2, 3, 4, 8], [5, 6, 7]], [[1, 2, 3, 5, 6], [4, 7, 8]], [[1, 2, 3, 5, 7], [4, 6, 8]], [[1, 2, 3, 5, 8], [4, 6, 7]], [[1, 2, 3, 6, 7], [4, 5, 8]], [[1, 2, 3, 6, 8], [4, 5, 7]], [[1, 2, 3, 7, 8], [4, 5, 6]], [[1, 2, 4, 5, 6], [3, 7, 8]], [[1, 2, 4, 5, 7], [3, 6, 8]], [[1, 2, 4, 5, 8], [3, 6, 7]], [[1, 2, 4, 6, 7], [3, 5, 8]], [[1, 2, 4, 6, 8], [3, 5, 7]], [[1, 2, 4, 7, 8], [3, 5, 6]], [[1, 2, 5, 6, 7], [3, 4, 8]], [[1, 2, 5, 6, 8], [3, 4, 7]], [[1, 2, 5, 7, 8], [3, 4, 6]], [[1, 3, 4, 5, 6], [2, 7, 8]], [[1, 3, 4, 5, 7], [2, 6, 8]], [[1, 3, 4, 5, 8], [2, 6, 7]], [[1, 3, 4, 6, 7], [2, 5, 8]], [[1, 3, 4, 6, 8], [2, 5, 7]], [[1, 3, 4, 7, 8], [2, 5, 6]], [[1, 3, 5, 6, 7], [2, 4, 8]], [[1, 3, 5, 6, 8], [2, 4, 7]], [[1, 3, 5, 7, 8], [2, 4, 6]]]
theorem sh_62 : chkS [5, 3] L_62 = true := by decide +kernel
abbrev L_63 : List T3 := [[[1, 2, 3, 4, 5, 6], [7], [8]], [[1, 2, 3, 4, 5, 7], [6], [8]], [[1, 2, 3, 4, 5, 8], [6], [7]], [[1, 2, 3, 4, 6, 7], [5], [8]], [[1, 2, 3, 4, 6, 8], [5], [7]], [[1, 2, 3, 4, 7, 8], [5], [6]], [[1, 2, 3, 5, 6, 7], [4], [8]], [[1, 2, 3, 5, 6, 8], [4], [7]], [[1, 2, 3, 5, 7, 8], [4], [6]], [[1, 2, 3, 6, 7, 8], [4], [5]], [[1, 2, 4, 5, 6, 7], [3], [8]], [[1, 2, 4, 5, 6, 8], [3], [7]], [[1, 2, 4, 5, 7, 8], [3], [6]], [[1, 2, 4, 6, 7, 8], [3], [5]], [[1, 2, 5, 6, 7, 8], [3], [4]], [[1, 3, 4, 5, 6, 7], [2], [8]], [[1, 3, 4, 5, 6, 8], [2], [7]], [[1, 3, 4, 5, 7, 8], [2], [6]], [[1, 3, 4, 6, 7, 8], [2], [5]], [[1, 3, 5, 6, 7, 8], [2], [4]], [[1, 4, 5, 6, 7, 8], [2], [3]]]
theorem sh_63 : chkS [6, 1, 1] L_63 = true := by decide +kernel
abbrev L_64 : List T3 := [[[1, 2, 3, 4, 5, 6], [7, 8]], [[1, 2, 3, 4, 5, 7], [6, 8]], [[1, 2, 3, 4, 5, 8], [6, 7]], [[1, 2, 3, 4, 6, 7], [5, 8]], [[1, 2, 3, 4, 6, 8], [5, 7]], [[1, 2, 3, 4, 7, 8], [5, 6]], [[1, 2, 3, 5, 6, 7], [4, 8]], [[1, 2, 3, 5, 6, 8], [4, 7]], [[1, 2, 3, 5, 7, 8], [4, 6]], [[1, 2, 3, 6, 7, 8], [4, 5]], [[1, 2, 4, 5, 6, 7], [3, 8]], [[1, 2, 4, 5, 6, 8], [3, 7]], [[1, 2, 4, 5, 7, 8], [3, 6]], [[1, 2, 4, 6, 7, 8], [3, 5]], [[1, 2, 5, 6, 7, 8], [3, 4]], [[1, 3, 4, 5, 6, 7], [2, 8]], [[1, 3, 4, 5, 6, 8], [2, 7]], [[1, 3, 4, 5, 7, 8], [2, 6]], [[1, 3, 4, 6, 7, 8], [2, 5]], [[1, 3, 5, 6, 7, 8], [2, 4]]]
theorem sh_64 : chkS [6, 2] L_64 = true := by decide +kernel
abbrev L_65 : List T3 := [[[1, 2, 3, 4, 5, 6, 7], [8]], [[1, 2, 3, 4, 5, 6, 8], [7]], [[1, 2, 3, 4, 5, 7, 8], [6]], [[1, 2, 3, 4, 6, 7, 8], [5]], [[1, 2, 3, 5, 6, 7, 8], [4]], [[1, 2, 4, 5, 6, 7, 8], [3]], [[1, 3, 4, 5, 6, 7, 8], [2]]]
theorem sh_65 : chkS [7, 1] L_65 = true := by decide +kernel
abbrev L_66 : List T3 := [[[1, 2, 3, 4, 5, 6, 7, 8]]]
theorem sh_66 : chkS [8] L_66 = true := by decide +kernel
def TB : List (List Nat × List T3) := [([], L_0), ([1], L_1), ([1, 1], L_2), ([2], L_3), ([1, 1, 1], L_4), ([2, 1], L_5), ([3], L_6), ([1, 1, 1, 1], L_7), ([2, 1, 1], L_8), ([2, 2], L_9), ([3, 1], L_10), ([4], L_11), ([1, 1, 1, 1, 1], L_12), ([2, 1, 1, 1], L_13), ([2, 2, 1], L_14), ([3, 1, 1], L_15), ([3, 2], L_16), ([4, 1], L_17), ([5], L_18), ([1, 1, 1, 1, 1, 1], L_19), ([2, 1, 1, 1, 1], L_20), ([2, 2, 1, 1], L_21), ([2, 2, 2], L_22), ([3, 1, 1, 1], L_23), ([3, 2, 1], L_24), ([3, 3], L_25), ([4, 1, 1], L_26), ([4, 2], L_27), ([5, 1], L_28), ([6], L_29), ([1, 1, 1, 1, 1, 1, 1], L_30), ([2, 1, 1, 1, 1, 1], L_31), ([2, 2, 1, 1, 1], L_32), ([2, 2, 2, 1], L_33), ([3, 1, 1, 1, 1], L_34), ([3, 2, 1, 1], L_35), ([3, 2, 2], L_36), ([3, 3, 1], L_37), ([4, 1, 1, 1], L_38), ([4, 2, 1], L_39), ([4, 3], L_40), ([5, 1, 1], L_41), ([5, 2], L_42), ([6, 1], L_43), ([7], L_44), ([1, 1, 1, 1, 1, 1, 1, 1], L_45), ([2, 1, 1, 1, 1, 1, 1], L_46), ([2, 2, 1, 1, 1, 1], L_47), ([2, 2, 2, 1, 1], L_48), ([2, 2, 2, 2], L_49), ([3, 1, 1, 1, 1, 1], L_50), ([3, 2, 1, 1, 1], L_51), ([3, 2, 2, 1], L_52), ([3, 3, 1, 1], L_53), ([3, 3, 2], L_54), ([4, 1, 1, 1, 1], L_55), ([4, 2, 1, 1], L_56), ([4, 2, 2], L_57), ([4, 3, 1], L_58), ([4, 4], L_59), ([5, 1, 1, 1], L_60), ([5, 2, 1], L_61), ([5, 3], L_62), ([6, 1, 1], L_63), ([6, 2], L_64), ([7, 1], L_65), ([8], L_66)]
theorem sh_all : ∀ p, p ∈ TB → chkS p.1 p.2 = true := by
  unfold TB
  exact (List.forall_mem_cons.mpr ⟨sh_0, (List.forall_mem_cons.mpr ⟨sh_1, (List.forall_mem_cons.mpr ⟨sh_2, (List.forall_mem_cons.mpr ⟨sh_3, (List.forall_mem_cons.mpr ⟨sh_4, (List.forall_mem_cons.mpr ⟨sh_5, (List.forall_mem_cons.mpr ⟨sh_6, (List.forall_mem_cons.mpr ⟨sh_7, (List.forall_mem_cons.mpr ⟨sh_8, (List.forall_mem_cons.mpr ⟨sh_9, (List.forall_mem_cons.mpr ⟨sh_10, (List.forall_mem_cons.mpr ⟨sh_11, (List.forall_mem_cons.mpr ⟨sh_12, (List.forall_mem_cons.mpr ⟨sh_13, (List.forall_mem_cons.mpr ⟨sh_14, (List.forall_mem_cons.mpr ⟨sh_15, (List.forall_mem_cons.mpr ⟨sh_16, (List.forall_mem_cons.mpr ⟨sh_17, (List.forall_mem_cons.mpr ⟨sh_18, (List.forall_mem_cons.mpr ⟨sh_19, (List.forall_mem_cons.mpr ⟨sh_20, (List.forall_mem_cons.mpr ⟨sh_21, (List.forall_mem_cons.mpr ⟨sh_22, (List.forall_mem_cons.mpr ⟨sh_23, (List.forall_mem_cons.mpr ⟨sh_24, (List.forall_mem_cons.mpr ⟨sh_25, (List.forall_mem_cons.mpr ⟨sh_26, (List.forall_mem_cons.mpr ⟨sh_27, (List.forall_mem_cons.mpr ⟨sh_28, (List.forall_mem_cons.mpr ⟨sh_29, (List.forall_mem_cons.mpr ⟨sh_30, (List.forall_mem_cons.mpr ⟨sh_31, (List.forall_mem_cons.mpr ⟨sh_32, (List.forall_mem_cons.mpr ⟨sh_33, (List.forall_mem_cons.mpr ⟨sh_34, (List.forall_mem_cons.mpr ⟨sh_35, (List.forall_mem_cons.mpr ⟨sh_36, (List.forall_mem_cons.mpr ⟨sh_37, (List.forall_mem_cons.mpr ⟨sh_38, (List.forall_mem_cons.mpr ⟨sh_39, (List.forall_mem_cons.mpr ⟨sh_40, (List.forall_mem_cons.mpr ⟨sh_41, (List.forall_mem_cons.mpr ⟨sh_42, (List.forall_mem_cons.mpr ⟨sh_43, (List.forall_mem_cons.mpr ⟨sh_44, (List.forall_mem_cons.mpr ⟨sh_45, (List.forall_mem_cons.mpr ⟨sh_46, (List.forall_mem_cons.mpr ⟨sh_47, (List.forall_mem_cons.mpr ⟨sh_48, (List.forall_mem_cons.mpr ⟨sh_49, (List.forall_mem_cons.mpr ⟨sh_50, (List.forall_mem_cons.mpr ⟨sh_51, (List.forall_mem_cons.mpr ⟨sh_52, (List.forall_mem_cons.mpr ⟨sh_53, (List.forall_mem_cons.mpr ⟨sh_54, (List.forall_mem_cons.mpr ⟨sh_55, (List.forall_mem_cons.mpr ⟨sh_56, (List.forall_mem_cons.mpr ⟨sh_57, (List.forall_mem_cons.mpr ⟨sh_58, (List.forall_mem_cons.mpr ⟨sh_59, (List.forall_mem_cons.mpr ⟨sh_60, (List.forall_mem_cons.mpr ⟨sh_61, (List.forall_mem_cons.mpr ⟨sh_62, (List.forall_mem_cons.mpr ⟨sh_63, (List.forall_mem_cons.mpr ⟨sh_64, (List.forall_mem_cons.mpr ⟨sh_65, (List.forall_mem_cons.mpr ⟨sh_66, (fun _ h => by cases h)⟩)⟩)⟩)⟩)⟩)⟩)⟩)⟩)⟩)⟩)⟩)⟩)⟩)⟩)⟩)⟩)⟩)⟩)⟩)⟩)⟩)⟩)⟩)⟩)⟩)⟩)⟩)⟩)⟩)⟩)⟩)⟩)⟩)⟩)⟩)⟩)⟩)⟩)⟩)⟩)⟩)⟩)⟩)⟩)⟩)⟩)⟩)⟩)⟩)⟩)⟩)⟩)⟩)⟩)⟩)⟩)⟩)⟩)⟩)⟩)⟩)⟩)⟩)⟩)⟩)⟩)⟩)
theorem S8_in : S8.all (fun s => TB.any fun p => eqN' s p.1) = true := by decide +kernel
theorem cc_0 : ((S12.drop 0).take 16).all chkC = true := by decide +kernel
theorem cc_1 : ((S12.drop 16).take 16).all chkC = true := by decide +kernel
theorem cc_2 : ((S12.drop 32).take 16).all chkC = true := by decide +kernel
theorem cc_3 : ((S12.drop 48).take 16).all chkC = true := by decide +kernel
theorem cc_4 : ((S12.drop 64).take 16).all chkC = true := by decide +kernel
theorem cc_5 : ((S12.drop 80).take 16).all chkC = true := by decide +kernel
theorem cc_6 : ((S12.drop 96).take 16).all chkC = true := by decide +kernel
theorem cc_7 : ((S12.drop 112).take 16).all chkC = true := by decide +kernel
theorem cc_8 : ((S12.drop 128).take 16).all chkC = true := by decide +kernel
theorem cc_9 : ((S12.drop 144).take 16).all chkC = true := by decide +kernel
theorem cc_10 : ((S12.drop 160).take 16).all chkC = true := by decide +kernel
theorem cc_11 : ((S12.drop 176).take 16).all chkC = true := by decide +kernel
theorem cc_12 : ((S12.drop 192).take 16).all chkC = true := by decide +kernel
theorem cc_13 : ((S12.drop 208).take 16).all chkC = true := by decide +kernel
theorem cc_14 : ((S12.drop 224).take 16).all chkC = true := by decide +kernel
theorem cc_15 : ((S12.drop 240).take 16).all chkC = true := by decide +kernel
theorem cc_16 : ((S12.drop 256).take 16).all chkC = true := by decide +kernel
theorem cc_all : S12.all chkC = true := by
  refine all_chunks _ 16 17 _ (by decide +kernel) fun k hk => ?_
  match k, hk with
  | 0, _ => exact cc_0
  | 1, _ => exact cc_1
  | 2, _ => exact cc_2
  | 3, _ => exact cc_3
  | 4, _ => exact cc_4
  | 5, _ => exact cc_5
  | 6, _ => exact cc_6
  | 7, _ => exact cc_7
  | 8, _ => exact cc_8
  | 9, _ => exact cc_9
  | 10, _ => exact cc_10
  | 11, _ => exact cc_11
  | 12, _ => exact cc_12
  | 13, _ => exact cc_13
  | 14, _ => exact cc_14
  | 15, _ => exact cc_15
  | 16, _ => exact cc_16
  | k + 17, h => exact absurd h (by omega)

/-! ### the memo -/
def kOf (s : List Nat) : List L2.Key := s.map fun (n : Nat) => (Sum.inl (n : Int) : L2.Key)
theorem tk_N (s : List Nat) : tkOf (encN s) = some (kOf s) := by
  show keysD (s.map fun (n : Nat) => (PyData.int (n : Int) : D)) = _
  induction s with
  | nil => rfl
  | cons n s ih =>
    show (match keyOfD (.int (n : Int)) with | some k => (keysD (s.map fun (n : Nat) => (PyData.int (n : Int) : D))).map fun l => k :: l | none => none) = _
    rw [ih]
    rfl
theorem kOf_inj : ∀ {a b : List Nat}, kOf a = kOf b → a = b
  | [], [], _ => rfl
  | [], _ :: _, h => by simp [kOf] at h
  | _ :: _, [], h => by simp [kOf] at h
  | x :: a, y :: b, h => by
    have h' : (Sum.inl (x : Int) : L2.Key) :: kOf a = Sum.inl (y : Int) :: kOf b := h
    rw [List.cons.injEq] at h'
    rw [kOf_inj h'.2]
    congr 1
    have := Sum.inl.inj h'.1
    omega
def memo (us : List (List Nat)) : List (List L2.Key × D) := us.map fun u => (kOf u, (PyData.int (cN u : Int) : D))
theorem val_memo (s : List Nat) : ∀ us : List (List Nat), valG (memo us) (kOf s) = if s ∈ us then some (.int (cN s : Int)) else none
  | [] => by simp [memo, valG]
  | u :: us => by
    show (if kOf u = kOf s then some (PyData.int (cN u : Int)) else valG (memo us) (kOf s)) = _
    by_cases h : u = s
    · subst h
      rw [if_pos rfl, if_pos (by simp)]
    · rw [if_neg (fun z => h (kOf_inj z)), val_memo s us]
      by_cases c : s ∈ us
      · rw [if_pos c, if_pos (by simp [c])]
      · rw [if_neg c, if_neg (by
          intro z
          rcases List.mem_cons.mp z with z | z
          · exact h z.symm
          · exact c z)]
theorem put_memo (s : List Nat) : ∀ us : List (List Nat), putG (memo us) (kOf s) (.int (cN s : Int)) = memo (if s ∈ us then us else us ++ [s])
  | [] => by simp [memo, putG]
  | u :: us => by
    show (if kOf u = kOf s then (kOf u, (PyData.int (cN s : Int) : D)) :: memo us else (kOf u, (PyData.int (cN u : Int) : D)) :: putG (memo us) (kOf s) (.int (cN s : Int))) = _
    by_cases h : u = s
    · subst h
      rw [if_pos rfl, if_pos (by simp)]
      rfl
    · rw [if_neg (fun z => h (kOf_inj z)), put_memo s us]
      by_cases c : s ∈ us
      · rw [if_pos c, if_pos (by simp [c])]; rfl
      · rw [if_neg c, if_neg (by
          intro z
          rcases List.mem_cons.mp z with z | z
          · exact h z.symm
          · exact c z)]
        rfl
structure Good (us : List (List Nat)) : Prop where
  nd : us.Nodup
  mem : ∀ u, u ∈ us → u ∈ S12
theorem Good.put {us : List (List Nat)} (g : Good us) {s : List Nat} (hs : s ∈ S12) : Good (if s ∈ us then us else us ++ [s]) := by
  by_cases c : s ∈ us
  · rw [if_pos c]; exact g
  · rw [if_neg c]
    refine ⟨?_, fun u hu => ?_⟩
    · rw [List.nodup_append]
      refine ⟨g.nd, by simp, fun a ha b hb => ?_⟩
      rw [List.mem_singleton] at hb
      subst hb
      exact fun z => c (z ▸ ha)
    · rcases List.mem_append.mp hu with hu | hu
      · exact g.mem u hu
      · rw [List.mem_singleton.mp hu]; exact hs
theorem nd_len : ∀ (l m : List (List Nat)), l.Nodup → (∀ x, x ∈ l → x ∈ m) → l.length ≤ m.length
  | [], _, _, _ => Nat.zero_le _
  | a :: l, m, nd, h => by
    have nd' := List.nodup_cons.mp nd
    have ih := nd_len l (m.erase a) nd'.2 fun x hx => (List.mem_erase_of_ne (fun z : x = a => nd'.1 (by rw [← z]; exact hx))).mpr (h x (by simp [hx]))
    rw [List.length_erase_of_mem (h a (by simp))] at ih
    have : 0 < m.length := List.length_pos_of_mem (h a (by simp))
    simp
    omega
theorem S12_len : S12.length ≤ 300 := by decide +kernel
theorem Good.ok {us : List (List Nat)} (g : Good us) : (small (memo us).length && ndT (memo us)) = true := by
  rw [Bool.and_eq_true]
  refine ⟨small_of ?_, decide_eq_true ?_⟩
  · have := nd_len us S12 g.nd g.mem
    have := S12_len
    simp [memo]
    omega
  · have e : (memo us).map (·.1) = us.map kOf := by unfold memo; rw [List.map_map]; rfl
    rw [e]
    exact List.pairwise_map.mpr (g.nd.imp fun h z => h (kOf_inj z))
/-! ### what the checks tell of shapes of up to 12 boxes -/
structure CF (s : List Nat) : Prop where
  cnt : dn_count_of [encN s] = .ok (.int (cN s : Int))
  len : s.length ≤ 12
  sum : s.sum ≤ 12
  rcr : s ≠ [] → cN s = sumC s s.length
  less : ∀ k, k < s.length → corN s k = true → lessN s k ∈ S12 ∧ (lessN s k).sum + 1 = s.sum
theorem cf {s : List Nat} (hs : s ∈ S12) : CF s := by
  have := List.all_eq_true.mp cc_all s hs
  unfold chkC at this
  simp only [Bool.and_eq_true] at this
  obtain ⟨⟨⟨⟨h1, h2⟩, h3⟩, h4⟩, h5⟩ := this
  refine ⟨okD_eq h1, Nat.le_of_ble_eq_true h2, Nat.le_of_ble_eq_true h3, fun hne => ?_, fun k hk hc => ?_⟩
  · rw [Bool.or_eq_true] at h4
    rcases h4 with h4 | h4
    · exact absurd (List.isEmpty_iff.mp h4) hne
    · exact Nat.eq_of_beq_eq_true h4
  · have := List.all_eq_true.mp h5 k (List.mem_range.mpr hk)
    rw [hc] at this
    simp only [Bool.not_true, Bool.false_or, Bool.and_eq_true, List.any_eq_true] at this
    obtain ⟨⟨u, hu, e⟩, h⟩ := this
    rw [(eqN_iff _ _).mp e] at h ⊢
    exact ⟨hu, Nat.eq_of_beq_eq_true h⟩
/-! ### the law's count -/
theorem addD_N {a b : List Nat} (h : a.length + b.length ≤ 1000000) : addD (encN a) (encN b) = .ok (encN (a ++ b)) := by
  unfold encN
  rw [addD_t (by simpa using h), List.map_append]
theorem ixD_N {a : List Nat} {k : Nat} (h : k < a.length) : ixD (encN a) (.int (k : Int)) = .ok (.int ((a.getD k 0 : Nat) : Int)) := ixD_t (by rw [List.getElem?_map, List.getElem?_eq_getElem h, List.getD_eq_getElem?_getD, List.getElem?_eq_getElem h]; rfl)
def rhoC (s : List Nat) (us : List (List Nat)) (f : Int) : DEnv := [some (.dat (encN s)), some (.obj (some 1) (.dT (memo us))), some (.dat (.int f)), none, none, none, none]
theorem snoc0 (l : List Nat) (k : Nat) : (l ++ [0]).getD k 0 = l.getD k 0 := by
  rw [List.getD_eq_getElem?_getD, List.getD_eq_getElem?_getD]
  by_cases h : k < l.length
  · rw [List.getElem?_append_left h]
  · rw [List.getElem?_append_right (by omega), List.getElem?_eq_none (l := l) (by omega)]
    cases k - l.length <;> simp
def IHC (n : Nat) : Prop := ∀ (u : List Nat) (us : List (List Nat)), u ∈ S12 → u.sum < n → Good us → ∃ us', Good us' ∧ dr__law_count n (.dT (memo us)) [encN u] = .ok (.int (cN u : Int)) (.dT (memo us'))
theorem count_turn {n : Nat} (ih : IHC n) {s : List Nat} (hs : s ∈ S12) (hn : s.sum < n + 1) {k : Nat} (hk : k < s.length) {us : List (List Nat)} (g : Good us) (f : Nat) : ∃ us', Good us' ∧
    turn (yTup 2 (yCons (yName 3) (yCons (yName 4) (yNil)))) (b__law_count_F1 (dr__law_count n)) [3, 4, 5, 6] (.tuple [.int (k : Int), .int ((s.getD k 0 : Nat) : Int)]) (rhoC s us f) = .next (rhoC s us' ((cond (corN s k) (f + cN (lessN s k)) f : Nat) : Int)) := by
  have F := cf hs
  have e0 : addD (encN s) (.tuple [.int 0]) = .ok (encN (s ++ [0])) := addD_N (b := [0]) (by have := F.len; simp; omega)
  have e1 : ixD (encN (s ++ [0])) (.int ((k : Int) + 1)) = .ok (.int ((s.getD (k + 1) 0 : Nat) : Int)) := by
    rw [show ((k : Int) + 1) = ((k + 1 : Nat) : Int) by omega, ixD_N (by simp; omega), snoc0]
  have tq : ∀ us : List (List Nat), (yTup 2 (yCons (yName 3) (yCons (yName 4) (yNil)))) (.tuple [.int (k : Int), .int ((s.getD k 0 : Nat) : Int)]) (rhoC s us f) = some [some (.dat (encN s)), some (.obj (some 1) (.dT (memo us))), some (.dat (.int (f : Int))), some (.dat (.int (k : Int))), some (.dat (.int ((s.getD k 0 : Nat) : Int))), none, none] := fun us => rfl
  rw [turn_eq (tq us)]
  cases hc : corN s k with
  | false =>
    have hle : ¬ (((s.getD (k + 1) 0 : Nat) : Int) < ((s.getD k 0 : Nat) : Int)) := fun z => by
      have : Nat.blt (s.getD (k + 1) 0) (s.getD k 0) = true := Nat.ble_eq_true_of_le (by omega)
      rw [show Nat.blt (s.getD (k + 1) 0) (s.getD k 0) = corN s k from rfl, hc] at this
      cases this
    refine ⟨us, g, ?_⟩
    have hb : b__law_count_F1 (dr__law_count n) [some (.dat (encN s)), some (.obj (some 1) (.dT (memo us))), some (.dat (.int (f : Int))), some (.dat (.int (k : Int))), some (.dat (.int ((s.getD k 0 : Nat) : Int))), none, none] = .next [some (.dat (encN s)), some (.obj (some 1) (.dT (memo us))), some (.dat (.int (f : Int))), some (.dat (.int (k : Int))), some (.dat (.int ((s.getD k 0 : Nat) : Int))), none, none] := by
      simp only [b__law_count_F1, out_ok, out_bad, out_exc, xVar_def, xOwn_def, xC_def, xOp_def, xB_def, asB_bool, xChain_def, xAnd_def, xOr_def, xNot_def, xAndV_def, xOrV_def, xNotV_def, xNeg_def, negD_int, xNil_def, xCons_def, xTup_def, xLst_def, mkT_0, mkT_1, mkT_2, mkT_3, mkT_4, mkL_0, mkL_1, mkL_2, okLen_0, okLen_1, xCall_def, on1_def, on2_def, xSl_def, xPart_def, asI_int, xNoPart_def, xIt_def, xItems_def, itemsD_t, itemsD_l, enumD_t, enumD_l, xYes_def, sNext_def, sPass_def, sBreak_def, sCont_def, seqOut_next, seqOut_ret, seqOut_exc, seqOut_brk, seqOut_cont, seqOut_bad, sSeq_def, sKill_def, sRet_def, sIf_def, sAsg_name, yName_def, yTup_def, yCons_def, yNil_def, sNewOwn_def, sApp_def, sFor_def, forGo_nil, outRes_ret, outRes_next, outRes_exc, fnD_1, fnD_2, fnD_3, addD_int, subD_int, ltD_int, leD_int, gtD_int, geD_int, eqD_int, neD_int, lenD_t, lenD_l, tupleD_t, tupleD_l, listD_t, listD_l, isD_none, isNotD_none, isNoneD_none, isNoneD_int, slD_l1, slD_t1, lenD_F, lenD_W, slD_Fto, slD_Wto, slD_Ffrom, slD_Wfrom, slD_Ffrom1, slD_Wfrom1, itemsD_W, itemsD_F, enumD_W, enumD_F, tupleD_W, tupleD_F, ownAt_def, lk_nil, lk_zero, lk_succ, st_nil, st_zero, st_succ, kill_nil, kill_cons, Res.bind_ok, Res.bind_exc, Res.bind_bad, ↓reduceIte, Bool.false_eq_true, Bool.not_true, Bool.not_false, Option.bind_some, List.length_cons, List.length_nil, Nat.reduceAdd, Nat.reduceSub, Nat.reduceEqDiff, decide_eq_true_eq, e0, e1, decide_eq_false hle]
    rw [hb]
    rfl
  | true =>
    have hgt : s.getD (k + 1) 0 < s.getD k 0 := Nat.le_of_ble_eq_true hc
    have hlt : (((s.getD (k + 1) 0 : Nat) : Int) < ((s.getD k 0 : Nat) : Int)) := by omega
    obtain ⟨m1, m2⟩ := F.less k hk hc
    obtain ⟨us', g', hrec⟩ := ih (lessN s k) us m1 (by omega) g
    refine ⟨us', g', ?_⟩
    have t1 : slD none (some (k : Int)) (encN s) = .ok (encN (s.take k)) := by unfold encN; rw [slD_t, cut_take, List.map_take]
    have t2 : slD (some ((k : Int) + 1)) none (encN s) = .ok (encN (s.drop (k + 1))) := by
      rw [show ((k : Int) + 1) = ((k + 1 : Nat) : Int) by omega]
      unfold encN; rw [slD_t, cut_drop, List.map_drop]
    have t3 : addD (encN (s.take k)) (.tuple [.int (((s.getD k 0 : Nat) : Int) - 1)]) = .ok (encN (s.take k ++ [s.getD k 0 - 1])) := by
      rw [show (((s.getD k 0 : Nat) : Int) - 1) = ((s.getD k 0 - 1 : Nat) : Int) by omega]
      exact addD_N (b := [s.getD k 0 - 1]) (by have := F.len; simp; omega)
    have t4 : addD (encN (s.take k ++ [s.getD k 0 - 1])) (encN (s.drop (k + 1))) = .ok (encN (s.take k ++ (s.getD k 0 - 1) :: s.drop (k + 1))) := by
      rw [addD_N (by have := F.len; simp; omega)]
      simp
    have hlen : (s.take k ++ (s.getD k 0 - 1) :: s.drop (k + 1)).length ≤ 1000 := by have := F.len; simp; omega
    have lc : xLc (xItems (xVar 5)) (yName 6) (xB (xOp gtD (xVar 6) (xC (PyData.int 0)))) (xVar 6) [6] [some (.dat (encN s)), some (.obj (some 1) (.dT (memo us))), some (.dat (.int (f : Int))), none, none, some (.dat (encN (s.take k ++ (s.getD k 0 - 1) :: s.drop (k + 1)))), none] = .ok (.list ((lessN s k).map fun (n : Nat) => (PyData.int (n : Int) : D))) := by
      have := xLc_map (fi := xItems (xVar 5)) (g := yName 6) (ft := xB (xOp gtD (xVar 6) (xC (PyData.int 0)))) (fe := xVar 6) (vs := [6]) (ρ := [some (.dat (encN s)), some (.obj (some 1) (.dT (memo us))), some (.dat (.int (f : Int))), none, none, some (.dat (encN (s.take k ++ (s.getD k 0 - 1) :: s.drop (k + 1)))), none]) (xs := s.take k ++ (s.getD k 0 - 1) :: s.drop (k + 1)) (fun (n : Nat) => (PyData.int (n : Int) : D)) (fun n => decide (0 < n)) (fun (n : Nat) => (PyData.int (n : Int) : D)) rfl (by omega) fun n _ => ⟨_, rfl, by
        simp only [out_ok, out_bad, out_exc, xVar_def, xOwn_def, xC_def, xOp_def, xB_def, asB_bool, xChain_def, xAnd_def, xOr_def, xNot_def, xAndV_def, xOrV_def, xNotV_def, xNeg_def, negD_int, xNil_def, xCons_def, xTup_def, xLst_def, mkT_0, mkT_1, mkT_2, mkT_3, mkT_4, mkL_0, mkL_1, mkL_2, okLen_0, okLen_1, xCall_def, on1_def, on2_def, xSl_def, xPart_def, asI_int, xNoPart_def, xIt_def, xItems_def, itemsD_t, itemsD_l, enumD_t, enumD_l, xYes_def, sNext_def, sPass_def, sBreak_def, sCont_def, seqOut_next, seqOut_ret, seqOut_exc, seqOut_brk, seqOut_cont, seqOut_bad, sSeq_def, sKill_def, sRet_def, sIf_def, sAsg_name, yName_def, yTup_def, yCons_def, yNil_def, sNewOwn_def, sApp_def, sFor_def, forGo_nil, outRes_ret, outRes_next, outRes_exc, fnD_1, fnD_2, fnD_3, addD_int, subD_int, ltD_int, leD_int, gtD_int, geD_int, eqD_int, neD_int, lenD_t, lenD_l, tupleD_t, tupleD_l, listD_t, listD_l, isD_none, isNotD_none, isNoneD_none, isNoneD_int, slD_l1, slD_t1, lenD_F, lenD_W, slD_Fto, slD_Wto, slD_Ffrom, slD_Wfrom, slD_Ffrom1, slD_Wfrom1, itemsD_W, itemsD_F, enumD_W, enumD_F, tupleD_W, tupleD_F, ownAt_def, lk_nil, lk_zero, lk_succ, st_nil, st_zero, st_succ, kill_nil, kill_cons, Res.bind_ok, Res.bind_exc, Res.bind_bad, ↓reduceIte, Bool.false_eq_true, Bool.not_true, Bool.not_false, Option.bind_some, List.length_cons, List.length_nil, Nat.reduceAdd, Nat.reduceSub, Nat.reduceEqDiff, decide_eq_true_eq]
        congr 1
        exact decide_eq_decide.mpr (by omega), fun _ => rfl⟩
      exact this
    have tt : tupleD (.list ((lessN s k).map fun (n : Nat) => (PyData.int (n : Int) : D))) = .ok (encN (lessN s k)) := rfl
    have hb : b__law_count_F1 (dr__law_count n) [some (.dat (encN s)), some (.obj (some 1) (.dT (memo us))), some (.dat (.int (f : Int))), some (.dat (.int (k : Int))), some (.dat (.int ((s.getD k 0 : Nat) : Int))), none, none] = .next [some (.dat (encN s)), some (.obj (some 1) (.dT (memo us'))), some (.dat (.int ((f : Int) + (cN (lessN s k) : Int)))), none, none, some (.dat (encN (s.take k ++ (s.getD k 0 - 1) :: s.drop (k + 1)))), none] := by
      simp only [b__law_count_F1, out_ok, out_bad, out_exc, xVar_def, xOwn_def, xC_def, xOp_def, xB_def, asB_bool, xChain_def, xAnd_def, xOr_def, xNot_def, xAndV_def, xOrV_def, xNotV_def, xNeg_def, negD_int, xNil_def, xCons_def, xTup_def, xLst_def, mkT_0, mkT_1, mkT_2, mkT_3, mkT_4, mkL_0, mkL_1, mkL_2, okLen_0, okLen_1, xCall_def, on1_def, on2_def, xSl_def, xPart_def, asI_int, xNoPart_def, xIt_def, xItems_def, itemsD_t, itemsD_l, enumD_t, enumD_l, xYes_def, sNext_def, sPass_def, sBreak_def, sCont_def, seqOut_next, seqOut_ret, seqOut_exc, seqOut_brk, seqOut_cont, seqOut_bad, sSeq_def, sKill_def, sRet_def, sIf_def, sAsg_name, yName_def, yTup_def, yCons_def, yNil_def, sNewOwn_def, sApp_def, sFor_def, forGo_nil, outRes_ret, outRes_next, outRes_exc, fnD_1, fnD_2, fnD_3, addD_int, subD_int, ltD_int, leD_int, gtD_int, geD_int, eqD_int, neD_int, lenD_t, lenD_l, tupleD_t, tupleD_l, listD_t, listD_l, isD_none, isNotD_none, isNoneD_none, isNoneD_int, slD_l1, slD_t1, lenD_F, lenD_W, slD_Fto, slD_Wto, slD_Ffrom, slD_Wfrom, slD_Ffrom1, slD_Wfrom1, itemsD_W, itemsD_F, enumD_W, enumD_F, tupleD_W, tupleD_F, ownAt_def, lk_nil, lk_zero, lk_succ, st_nil, st_zero, st_succ, kill_nil, kill_cons, Res.bind_ok, Res.bind_exc, Res.bind_bad, ↓reduceIte, Bool.false_eq_true, Bool.not_true, Bool.not_false, Option.bind_some, List.length_cons, List.length_nil, Nat.reduceAdd, Nat.reduceSub, Nat.reduceEqDiff, decide_eq_true_eq, e0, e1, decide_eq_true hlt, t1, t2, t3, t4]
      simp only [sSetX, xOpX, xP, xCO, out_ok, out_bad, out_exc, xVar_def, xOwn_def, xC_def, xOp_def, xB_def, asB_bool, xChain_def, xAnd_def, xOr_def, xNot_def, xAndV_def, xOrV_def, xNotV_def, xNeg_def, negD_int, xNil_def, xCons_def, xTup_def, xLst_def, mkT_0, mkT_1, mkT_2, mkT_3, mkT_4, mkL_0, mkL_1, mkL_2, okLen_0, okLen_1, xCall_def, on1_def, on2_def, xSl_def, xPart_def, asI_int, xNoPart_def, xIt_def, xItems_def, itemsD_t, itemsD_l, enumD_t, enumD_l, xYes_def, sNext_def, sPass_def, sBreak_def, sCont_def, seqOut_next, seqOut_ret, seqOut_exc, seqOut_brk, seqOut_cont, seqOut_bad, sSeq_def, sKill_def, sRet_def, sIf_def, sAsg_name, yName_def, yTup_def, yCons_def, yNil_def, sNewOwn_def, sApp_def, sFor_def, forGo_nil, outRes_ret, outRes_next, outRes_exc, fnD_1, fnD_2, fnD_3, addD_int, subD_int, ltD_int, leD_int, gtD_int, geD_int, eqD_int, neD_int, lenD_t, lenD_l, tupleD_t, tupleD_l, listD_t, listD_l, isD_none, isNotD_none, isNoneD_none, isNoneD_int, slD_l1, slD_t1, lenD_F, lenD_W, slD_Fto, slD_Wto, slD_Ffrom, slD_Wfrom, slD_Ffrom1, slD_Wfrom1, itemsD_W, itemsD_F, enumD_W, enumD_F, tupleD_W, tupleD_F, ownAt_def, lk_nil, lk_zero, lk_succ, st_nil, st_zero, st_succ, kill_nil, kill_cons, Res.bind_ok, Res.bind_exc, Res.bind_bad, ↓reduceIte, Bool.false_eq_true, Bool.not_true, Bool.not_false, Option.bind_some, List.length_cons, List.length_nil, Nat.reduceAdd, Nat.reduceSub, Nat.reduceEqDiff, decide_eq_true_eq, RX.of_ok, RX.bind_ok, lc, tt, hrec, coK, RX.outX_ok]
    rw [hb]
    rfl
theorem count_hit {n : Nat} (ih : IHC n) {s : List Nat} (hs : s ∈ S12) (hn : s.sum < n + 1) : ∀ (j k : Nat), k + j = s.length → ∀ us : List (List Nat), Good us → ∃ us', Good us' ∧
    forGo (yTup 2 (yCons (yName 3) (yCons (yName 4) (yNil)))) (b__law_count_F1 (dr__law_count n)) [3, 4, 5, 6] (enumFrom (k : Int) ((s.drop k).map fun (n : Nat) => (PyData.int (n : Int) : D))) (rhoC s us (sumC s k : Int)) = .next (rhoC s us' (sumC s s.length : Int))
  | 0, k, hk, us, g => by
    have : k = s.length := by omega
    subst this
    refine ⟨us, g, ?_⟩
    rw [List.drop_length]
    rfl
  | j + 1, k, hk, us, g => by
    have hlt : k < s.length := by omega
    obtain ⟨us1, g1, h1⟩ := count_turn ih hs hn hlt g (sumC s k)
    obtain ⟨us2, g2, h2⟩ := count_hit ih hs hn j (k + 1) (by omega) us1 g1
    refine ⟨us2, g2, ?_⟩
    have e : enumFrom (k : Int) ((s.drop k).map fun (n : Nat) => (PyData.int (n : Int) : D)) = .tuple [.int (k : Int), .int ((s.getD k 0 : Nat) : Int)] :: enumFrom ((k + 1 : Nat) : Int) ((s.drop (k + 1)).map fun (n : Nat) => (PyData.int (n : Int) : D)) := by
      rw [List.drop_eq_getElem_cons hlt, List.getD_eq_getElem?_getD, List.getElem?_eq_getElem hlt]
      rfl
    rw [e, forGo_next h1]
    exact h2
theorem count_at : ∀ n : Nat, IHC n
  | 0 => fun u us _ h _ => absurd h (by omega)
  | n + 1 => fun s us hs hn g => by
    have F := cf hs
    have eN : ∀ s : List Nat, env0O N__law_count 1 (.dT (memo us)) [encN s] = [some (.dat (encN s)), some (.obj (some 1) (.dT (memo us))), none, none, none, none, none] := fun s => rfl
    show ∃ us', Good us' ∧ fnO N__law_count 2 1 (b__law_count (dr__law_count n)) (.dT (memo us)) [encN s] = _
    have ef : ∀ (s : List Nat), fnO N__law_count 2 1 (b__law_count (dr__law_count n)) (.dT (memo us)) [encN s] = outO 1 (b__law_count (dr__law_count n) [some (.dat (encN s)), some (.obj (some 1) (.dT (memo us))), none, none, none, none, none]) := fun s => rfl
    rw [ef]
    by_cases hne : s = []
    · subst hne
      refine ⟨us, g, ?_⟩
      have h1 : eqD (encN []) (.tuple []) = .ok (.bool true) := rfl
      simp only [b__law_count, out_ok, out_bad, out_exc, xVar_def, xOwn_def, xC_def, xOp_def, xB_def, asB_bool, xChain_def, xAnd_def, xOr_def, xNot_def, xAndV_def, xOrV_def, xNotV_def, xNeg_def, negD_int, xNil_def, xCons_def, xTup_def, xLst_def, mkT_0, mkT_1, mkT_2, mkT_3, mkT_4, mkL_0, mkL_1, mkL_2, okLen_0, okLen_1, xCall_def, on1_def, on2_def, xSl_def, xPart_def, asI_int, xNoPart_def, xIt_def, xItems_def, itemsD_t, itemsD_l, enumD_t, enumD_l, xYes_def, sNext_def, sPass_def, sBreak_def, sCont_def, seqOut_next, seqOut_ret, seqOut_exc, seqOut_brk, seqOut_cont, seqOut_bad, sSeq_def, sKill_def, sRet_def, sIf_def, sAsg_name, yName_def, yTup_def, yCons_def, yNil_def, sNewOwn_def, sApp_def, sFor_def, forGo_nil, outRes_ret, outRes_next, outRes_exc, fnD_1, fnD_2, fnD_3, addD_int, subD_int, ltD_int, leD_int, gtD_int, geD_int, eqD_int, neD_int, lenD_t, lenD_l, tupleD_t, tupleD_l, listD_t, listD_l, isD_none, isNotD_none, isNoneD_none, isNoneD_int, slD_l1, slD_t1, lenD_F, lenD_W, slD_Fto, slD_Wto, slD_Ffrom, slD_Wfrom, slD_Ffrom1, slD_Wfrom1, itemsD_W, itemsD_F, enumD_W, enumD_F, tupleD_W, tupleD_F, ownAt_def, lk_nil, lk_zero, lk_succ, st_nil, st_zero, st_succ, kill_nil, kill_cons, Res.bind_ok, Res.bind_exc, Res.bind_bad, ↓reduceIte, Bool.false_eq_true, Bool.not_true, Bool.not_false, Option.bind_some, List.length_cons, List.length_nil, Nat.reduceAdd, Nat.reduceSub, Nat.reduceEqDiff, decide_eq_true_eq, h1, sRetX, xP, RX.of_ok, RX.outX_ok]
      rw [chkC_nil]
      rfl
    · have h1 : eqD (encN s) (.tuple []) = .ok (.bool false) := by
        cases s with
        | nil => exact absurd rfl hne
        | cons a s =>
          unfold eqD
          rw [if_pos (by
            show allL (dpN 29) _ = true
            have : ∀ l : List Nat, allL (dpN 29) (l.map fun (n : Nat) => (PyData.int (n : Int) : D)) = true := by
              intro l
              induction l with
              | nil => rfl
              | cons x l ih =>
                show cond (dpN 29 (.int (x : Int))) (allL (dpN 29) (l.map fun (n : Nat) => (PyData.int (n : Int) : D))) false = true
                rw [ih]
                rfl
            exact this (a :: s))]
          rfl
      have tk := tk_N s
      by_cases hm : s ∈ us
      · refine ⟨us, g, ?_⟩
        have hv : valG (memo us) (kOf s) = some (.int (cN s : Int)) := by rw [val_memo, if_pos hm]
        simp only [b__law_count, b__law_count_1, b__law_count_2, out_ok, out_bad, out_exc, xVar_def, xOwn_def, xC_def, xOp_def, xB_def, asB_bool, xChain_def, xAnd_def, xOr_def, xNot_def, xAndV_def, xOrV_def, xNotV_def, xNeg_def, negD_int, xNil_def, xCons_def, xTup_def, xLst_def, mkT_0, mkT_1, mkT_2, mkT_3, mkT_4, mkL_0, mkL_1, mkL_2, okLen_0, okLen_1, xCall_def, on1_def, on2_def, xSl_def, xPart_def, asI_int, xNoPart_def, xIt_def, xItems_def, itemsD_t, itemsD_l, enumD_t, enumD_l, xYes_def, sNext_def, sPass_def, sBreak_def, sCont_def, seqOut_next, seqOut_ret, seqOut_exc, seqOut_brk, seqOut_cont, seqOut_bad, sSeq_def, sKill_def, sRet_def, sIf_def, sAsg_name, yName_def, yTup_def, yCons_def, yNil_def, sNewOwn_def, sApp_def, sFor_def, forGo_nil, outRes_ret, outRes_next, outRes_exc, fnD_1, fnD_2, fnD_3, addD_int, subD_int, ltD_int, leD_int, gtD_int, geD_int, eqD_int, neD_int, lenD_t, lenD_l, tupleD_t, tupleD_l, listD_t, listD_l, isD_none, isNotD_none, isNoneD_none, isNoneD_int, slD_l1, slD_t1, lenD_F, lenD_W, slD_Fto, slD_Wto, slD_Ffrom, slD_Wfrom, slD_Ffrom1, slD_Wfrom1, itemsD_W, itemsD_F, enumD_W, enumD_F, tupleD_W, tupleD_F, ownAt_def, lk_nil, lk_zero, lk_succ, st_nil, st_zero, st_succ, kill_nil, kill_cons, Res.bind_ok, Res.bind_exc, Res.bind_bad, ↓reduceIte, Bool.false_eq_true, Bool.not_true, Bool.not_false, Option.bind_some, List.length_cons, List.length_nil, Nat.reduceAdd, Nat.reduceSub, Nat.reduceEqDiff, decide_eq_true_eq, h1, xInO, memAt, inT, tk, hv, Option.isSome_some, cond_true, sRetX, xP, xDixO, getOD, RX.of_ok, RX.outX_ok]
        rfl
      · have hv : valG (memo us) (kOf s) = none := by rw [val_memo, if_neg hm]
        obtain ⟨us1, g1, hf⟩ := count_hit (count_at n) hs hn s.length 0 (by omega) us g
        rw [← F.rcr hne] at hf
        have hf0 : forGo (yTup 2 (yCons (yName 3) (yCons (yName 4) (yNil)))) (b__law_count_F1 (dr__law_count n)) [3, 4, 5, 6] (enumFrom 0 (s.map fun (n : Nat) => (PyData.int (n : Int) : D))) [some (.dat (encN s)), some (.obj (some 1) (.dT (memo us))), some (.dat (.int 0)), none, none, none, none] = .next (rhoC s us1 (cN s : Int)) := hf
        have en : enumD [encN s] = .ok (enumFrom 0 (s.map fun (n : Nat) => (PyData.int (n : Int) : D))) := rfl
        have ok := g1.ok
        refine ⟨_, g1.put hs, ?_⟩
        have hv2 : valG (memo (if s ∈ us1 then us1 else us1 ++ [s])) (kOf s) = some (.int (cN s : Int)) := by
          rw [val_memo, if_pos]
          by_cases c : s ∈ us1
          · rw [if_pos c]; exact c
          · rw [if_neg c]; simp
        simp only [b__law_count, b__law_count_1, b__law_count_2, out_ok, out_bad, out_exc, xVar_def, xOwn_def, xC_def, xOp_def, xB_def, asB_bool, xChain_def, xAnd_def, xOr_def, xNot_def, xAndV_def, xOrV_def, xNotV_def, xNeg_def, negD_int, xNil_def, xCons_def, xTup_def, xLst_def, mkT_0, mkT_1, mkT_2, mkT_3, mkT_4, mkL_0, mkL_1, mkL_2, okLen_0, okLen_1, xCall_def, on1_def, on2_def, xSl_def, xPart_def, asI_int, xNoPart_def, xIt_def, xItems_def, itemsD_t, itemsD_l, enumD_t, enumD_l, xYes_def, sNext_def, sPass_def, sBreak_def, sCont_def, seqOut_next, seqOut_ret, seqOut_exc, seqOut_brk, seqOut_cont, seqOut_bad, sSeq_def, sKill_def, sRet_def, sIf_def, sAsg_name, yName_def, yTup_def, yCons_def, yNil_def, sNewOwn_def, sApp_def, sFor_def, forGo_nil, outRes_ret, outRes_next, outRes_exc, fnD_1, fnD_2, fnD_3, addD_int, subD_int, ltD_int, leD_int, gtD_int, geD_int, eqD_int, neD_int, lenD_t, lenD_l, tupleD_t, tupleD_l, listD_t, listD_l, isD_none, isNotD_none, isNoneD_none, isNoneD_int, slD_l1, slD_t1, lenD_F, lenD_W, slD_Fto, slD_Wto, slD_Ffrom, slD_Wfrom, slD_Ffrom1, slD_Wfrom1, itemsD_W, itemsD_F, enumD_W, enumD_F, tupleD_W, tupleD_F, ownAt_def, lk_nil, lk_zero, lk_succ, st_nil, st_zero, st_succ, kill_nil, kill_cons, Res.bind_ok, Res.bind_exc, Res.bind_bad, ↓reduceIte, Bool.false_eq_true, Bool.not_true, Bool.not_false, Option.bind_some, List.length_cons, List.length_nil, Nat.reduceAdd, Nat.reduceSub, Nat.reduceEqDiff, decide_eq_true_eq, h1, xInO, memAt, inT, tk, hv, Option.isSome_none, cond_true, Bool.not_false, en, hf0, rhoC, sDputO, ok, put_memo, sRetX, xP, xDixO, getOD, hv2, RX.of_ok, RX.outX_ok]
        rfl

/-! ### the law's draws -/
def cellV (ns : List Int) (k : Nat) : Int := ns.getD k 0
theorem cell_at (ns : List Int) (k : Nat) : dn__law_cell_at [.list (ns.map .int), .int k] = .ok (.int (cellV ns k)) := by
  unfold dn__law_cell_at
  by_cases h : k < ns.length
  · have hx : (ns.map PyData.int)[k]? = some (.int ns[k]) := by simp [h]
    simp [env0, b__law_cell_at, b__law_cell_at_1, h, ixD_l hx, cellV]
  · simp [env0, b__law_cell_at, b__law_cell_at_1, h, cellV]
def mixedV (ns : List Int) (k : Nat) : Int :=
  let d := (cellV ns k + 7919 * k + 1) * 48271 % 2147483647
  (d * d + 7 * d + k) % 2147483629
theorem mod_small (x : Int) {m : Int} (h : 0 < m) (h2 : m ≤ 2147483647) : (x % m).natAbs < 18446744073709551616 := by
  have h3 := Int.emod_nonneg x (show m ≠ 0 by omega)
  have h4 := Int.emod_lt_of_pos x h
  omega
theorem mixed_at (ns : List Int) (k : Nat) (hk : k < 1000) : dn__law_mixed [.list (ns.map .int), .int k] = .ok (.int (mixedV ns k)) := by
  unfold dn__law_mixed
  have m1 := mod_small ((cellV ns k + 7919 * k + 1) * 48271) (m := 2147483647) (by decide) (by decide)
  simp [env0, b__law_mixed, b__law_mixed_1, cell_at, mulD_int, modD_int, m1, show ((k : Int)).natAbs < 18446744073709551616 by omega, mixedV]
theorem mixed_lo (ns : List Int) (k : Nat) : 0 ≤ mixedV ns k := Int.emod_nonneg _ (by decide)
theorem mixed_hi (ns : List Int) (k : Nat) : mixedV ns k < 2147483629 := Int.emod_lt_of_pos _ (by decide)
def drawnV (n : Int) (k : Nat) : Int :=
  let d := (n + 104729 * k + 17) * 69621 % 2147483647
  (d * d + 3 * d + k) % 2147483629
theorem drawn_at (n : Int) (k : Nat) (hk : k < 1000) : dn__law_drawn [.int n, .int k] = .ok (.int (drawnV n k)) := by
  unfold dn__law_drawn
  have m1 := mod_small ((n + 104729 * k + 17) * 69621) (m := 2147483647) (by decide) (by decide)
  simp [env0, b__law_drawn, b__law_drawn_1, mulD_int, modD_int, m1, show ((k : Int)).natAbs < 18446744073709551616 by omega, drawnV]
theorem drawn_lo (n : Int) (k : Nat) : 0 ≤ drawnV n k := Int.emod_nonneg _ (by decide)
theorem drawn_hi (n : Int) (k : Nat) : drawnV n k < 2147483629 := Int.emod_lt_of_pos _ (by decide)
/-- the word drawn -/
def wideV (n : Int) : Int := if n % 4 = 0 then 2 else if n % 4 = 1 then 3 else if n % 4 = 2 then 5 else 12
def wordV (n : Int) (most : Nat) : List Int := (List.range (n / 4 % ((most : Int) + 1)).toNat).map fun (k : Nat) => 1 + drawnV n k % wideV n
theorem wide_lo (n : Int) : 0 < wideV n := by
  unfold wideV
  split
  · decide
  · split
    · decide
    · split <;> decide
theorem wide_hi (n : Int) : wideV n ≤ 12 := by
  unfold wideV
  split
  · decide
  · split
    · decide
    · split <;> decide
theorem word_len (n : Int) (most : Nat) : (wordV n most).length ≤ most := by
  unfold wordV
  rw [List.length_map, List.length_range]
  have h1 := Int.emod_nonneg (n / 4) (show (most : Int) + 1 ≠ 0 by omega)
  have h2 := Int.emod_lt_of_pos (n / 4) (show 0 < (most : Int) + 1 by omega)
  omega
theorem word_in {n : Int} {most : Nat} {x : Int} (h : x ∈ wordV n most) : 1 ≤ x ∧ x ≤ 12 := by
  unfold wordV at h
  rw [List.mem_map] at h
  obtain ⟨k, _, rfl⟩ := h
  have h1 := Int.emod_nonneg (drawnV n k) (show wideV n ≠ 0 by have := wide_lo n; omega)
  have h2 := Int.emod_lt_of_pos (drawnV n k) (wide_lo n)
  have h3 := wide_hi n
  omega
theorem wide_at (n : Int) : ixD (.tuple [.int 2, .int 3, .int 5, .int 12]) (.int (n % 4)) = .ok (.int (wideV n)) := by
  have e : n % 4 = 0 ∨ n % 4 = 1 ∨ n % 4 = 2 ∨ n % 4 = 3 := by omega
  unfold wideV
  rcases e with e | e | e | e <;> rw [e] <;> rfl
theorem word_turn (n : Int) (k : Nat) (b : List D) (hk : k < 1000) (hb : b.length ≤ 1000) : turn (yName 4) b__law_word_F1 [1, 4] (.int (0 + (k : Int))) [some (.dat (.int n)), none, some (.dat (.int (wideV n))), some (.own b), none] =
    .next [some (.dat (.int n)), none, some (.dat (.int (wideV n))), some (.own (b ++ [PyData.int (1 + drawnV n k % wideV n)])), none] := by
  simp [turn, b__law_word_F1, drawn_at n k hk, modD_int (wide_lo n), small_of (show b.length ≤ 1000000 by omega)]
theorem tA (m : Nat) (h : m ≤ 900) : range1D [.int (m : Int)] = .ok (upFrom 0 m) := range1_nat (m := m) (by omega)
theorem tB (n : Int) (m most : Nat) (hm : n / 4 % ((most : Int) + 1) = m) : encW (wordV n most) = .tuple ((List.range m).map fun (k : Nat) => (PyData.int (1 + drawnV n k % wideV n) : D)) := by
    unfold encW wordV
    rw [hm, List.map_map]
    rfl
theorem tC (n : Int) (most : Nat) : ∃ m : Nat, n / 4 % ((most : Int) + 1) = m ∧ m ≤ most := by
    have a := Int.emod_nonneg (n / 4) (show (most : Int) + 1 ≠ 0 by omega)
    have b := Int.emod_lt_of_pos (n / 4) (show 0 < (most : Int) + 1 by omega)
    exact ⟨(n / 4 % ((most : Int) + 1)).toNat, by omega, by omega⟩
theorem word_hit (n : Int) (m : Nat) (hmm : m < 900) : forGo (yName 4) b__law_word_F1 [1, 4] (upFrom 0 m) [some (.dat (.int n)), none, some (.dat (.int (wideV n))), some (.own []), none] =
    .next [some (.dat (.int n)), none, some (.dat (.int (wideV n))), some (.own ((List.range m).map fun (k : Nat) => (PyData.int (1 + drawnV n k % wideV n) : D))), none] := by
  have hit := forGo_fold (g := yName 4) (body := b__law_word_F1) (ks := [1, 4]) (fun (i : Nat) => (PyData.int (0 + (i : Int)) : D)) (fun b => [some (.dat (.int n)), none, some (.dat (.int (wideV n))), some (.own b), none])
    (fun b k => b ++ [PyData.int (1 + drawnV n k % wideV n)]) (fun xs b => (∀ x, x ∈ xs → x < 1000) ∧ b.length + xs.length ≤ 1000) (by
      rintro k r b ⟨g1, g2⟩
      simp only [List.length_cons] at g2
      exact ⟨word_turn n k b (g1 k (by simp)) (by omega), fun x hx => g1 x (by simp [hx]), by simp; omega⟩) (List.range m) [] ⟨fun x hx => by rw [List.mem_range] at hx; omega, by simp; omega⟩
  rw [foldl_app, List.nil_append] at hit
  exact hit
theorem word_at (n : Int) (most : Nat) (h1 : most < 900) : dn__law_word [.int n, .int most] = .ok (encW (wordV n most)) := by
  obtain ⟨m, hm, hmm⟩ := tC n most
  rw [tB n m most hm]
  have hit := word_hit n m (by omega)
  have hr := tA m (by omega)
  have e1 : fdivD (.int n) (.int 4) = .ok (.int (n / 4)) := fdivD_int (by decide) (by decide)
  have e2 : modD (.int (n / 4)) (.int ((most : Int) + 1)) = .ok (.int m) := by rw [modD_int (by omega), hm]
  have e3 : modD (.int n) (.int 4) = .ok (.int (n % 4)) := modD_int (by decide)
  simp [dn__law_word, env0, b__law_word, b__law_word_1, b__law_word_2, b__law_word_3, wide_at, e1, e2, e3, hr, hit]

/-! ### the law's own putting in -/
open RSK in
theorem filt_ins : ∀ {r : Row} {x : Int}, Sorted r → (r.filter fun o => decide (o ≤ x)) ++ [x] ++ (r.filter fun o => decide (x < o)).drop 1 = (rowIns r x).1 ∧ (r.filter fun o => decide (x < o)).head? = (rowIns r x).2
  | [], x, _ => ⟨rfl, rfl⟩
  | a :: r, x, h => by
    rw [sorted_cons] at h
    by_cases hx : x < a
    · have big : ∀ b, b ∈ r → x < b := fun b hb => by have := h.1 b hb; omega
      have e1 : (r.filter fun o => decide (o ≤ x)) = [] := by
        rw [List.filter_eq_nil_iff]
        intro b hb
        have := big b hb
        simp; omega
      have e2 : (r.filter fun o => decide (x < o)) = r := by
        rw [List.filter_eq_self]
        intro b hb
        simp [big b hb]
      rw [rowIns_gt hx, List.filter_cons_of_neg (by simp; omega), List.filter_cons_of_pos (by simp [hx]), e1, e2]
      exact ⟨rfl, rfl⟩
    · have ih := filt_ins (r := r) (x := x) h.2
      rw [rowIns_le (by omega), List.filter_cons_of_pos (by simp; omega), List.filter_cons_of_neg (by simp; omega)]
      exact ⟨by rw [← ih.1]; simp, ih.2⟩
def encO : Option Int → D
  | none => .none
  | some x => .int x
abbrev PutS := Option Int × RSK.T × Int
open RSK in
def lstep (s : PutS) (p : Int × Row) : PutS := match s.1 with
  | none => (none, s.2.1 ++ [p.2], s.2.2)
  | some x => ((rowIns p.2 x).2, s.2.1 ++ [(rowIns p.2 x).1], if (rowIns p.2 x).2 = none then p.1 else s.2.2)
def putEnv (s : PutS) : DEnv := [none, none, some (.dat (encO s.1)), some (.own (s.2.1.map encW)), some (.dat (.int s.2.2)), none, none, none, none, none, none]
theorem xs_row (row : List Int) (x : Int) (g : Int → Int → Bool) (gd : D → D → Res D) (hg : ∀ i j, gd (.int i) (.int j) = .ok (.bool (g i j))) (hz : row.length ≤ 1000) (a0 a1 a3 a4 a5 a7 a8 a9 : Option LV) (r : DEnv) :
    xLc (xItems (xVar 6)) (yName 9) (xB (xOp gd (xVar 9) (xVar 2))) (xVar 9) [9] (a0 :: a1 :: some (.dat (.int x)) :: a3 :: a4 :: a5 :: some (.dat (encW row)) :: a7 :: a8 :: a9 :: r) = .ok (.list ((row.filter fun o => g o x).map .int)) := by
  refine xLc_map (xs := row) PyData.int (fun o => g o x) PyData.int ?_ (by omega) fun o _ => ⟨_, rfl, ?_, fun _ => ?_⟩
  · simp [encW]
  · simp [hg]
  · simp
open RSK in
theorem put_turn (at_ : Int) (row : Row) (s : PutS) (hs : Sorted row) (hz : row.length ≤ 1000) (hf : s.2.1.length ≤ 1000) :
    turn (yTup 2 (yCons (yName 5) (yCons (yName 6) yNil))) b__law_put_F1 [0, 1, 5, 6, 7, 8, 9, 10] (.tuple [.int at_, encW row]) (putEnv s) = .next (putEnv (lstep s (at_, row))) := by
  obtain ⟨l, f, n⟩ := s
  have hsm : small f.length = true := small_of (by simp at hf; omega)
  cases l with
  | none => simp [turn, putEnv, encO, b__law_put_F1, lstep, hsm]
  | some x =>
    obtain ⟨f1, f2⟩ := filt_ins (x := x) hs
    have lc1 := xs_row row x (fun o x => decide (o ≤ x)) leD (fun _ _ => rfl) hz
    have lc2 := xs_row row x (fun o x => decide (x < o)) gtD (fun _ _ => rfl) hz
    generalize hL : (row.filter fun o => decide (o ≤ x)) = L at *
    generalize hR : (row.filter fun o => decide (x < o)) = R at *
    have lL : L.length ≤ 1000 := by rw [← hL]; exact Nat.le_trans (List.length_filter_le _ _) hz
    have lR : R.length ≤ 1000 := by rw [← hR]; exact Nat.le_trans (List.length_filter_le _ _) hz
    have a1 : addD (.list (L.map PyData.int)) (.list [.int x]) = .ok (.list ((L ++ [x]).map .int)) := by
      rw [addD_l (by simp; omega), List.map_append]; rfl
    have a2 : addD (.list ((L ++ [x]).map PyData.int)) (.list ((R.map PyData.int).drop 1)) = .ok (.list ((rowIns row x).1.map .int)) := by
      rw [addD_l (by simp; omega), ← List.map_drop, ← List.map_append, f1]
    have a3 : addD (.list (R.map PyData.int)) (.list [.none]) = .ok (.list (R.map .int ++ [.none])) := addD_l (by simp; omega)
    have a4 : ixD (.list (R.map PyData.int ++ [.none])) (.int 0) = .ok (encO (rowIns row x).2) := by
      rw [← f2]
      cases R with
      | nil => rfl
      | cons y R => exact ixD_l (n := 0) rfl
    generalize hq : (rowIns row x).2 = o at a4
    cases o <;> (simp only [turn, putEnv, b__law_put_F1, lstep, out_ok, out_bad, out_exc, xVar_def, xOwn_def, xC_def, xOp_def, xB_def, asB_bool, xChain_def, xAnd_def, xOr_def, xNot_def, xAndV_def, xOrV_def, xNotV_def, xNeg_def, negD_int, xNil_def, xCons_def, xTup_def, xLst_def, mkT_0, mkT_1, mkT_2, mkT_3, mkT_4, mkL_0, mkL_1, mkL_2, okLen_0, okLen_1, xCall_def, on1_def, on2_def, xSl_def, xPart_def, asI_int, xNoPart_def, xIt_def, xItems_def, itemsD_t, itemsD_l, enumD_t, enumD_l, xYes_def, sNext_def, sPass_def, sBreak_def, sCont_def, seqOut_next, seqOut_ret, seqOut_exc, seqOut_brk, seqOut_cont, seqOut_bad, sSeq_def, sKill_def, sRet_def, sIf_def, sAsg_name, yName_def, yTup_def, yCons_def, yNil_def, sNewOwn_def, sApp_def, sFor_def, forGo_nil, outRes_ret, outRes_next, outRes_exc, fnD_1, fnD_2, fnD_3, addD_int, subD_int, ltD_int, leD_int, gtD_int, geD_int, eqD_int, neD_int, lenD_t, lenD_l, tupleD_t, tupleD_l, listD_t, listD_l, isD_none, isNotD_none, isNoneD_none, isNoneD_int, slD_l1, slD_t1, lenD_F, lenD_W, slD_Fto, slD_Wto, slD_Ffrom, slD_Wfrom, slD_Ffrom1, slD_Wfrom1, itemsD_W, itemsD_F, enumD_W, enumD_F, tupleD_W, tupleD_F, ownAt_def, lk_nil, lk_zero, lk_succ, st_nil, st_zero, st_succ, kill_nil, kill_cons, Res.bind_ok, Res.bind_exc, Res.bind_bad, ↓reduceIte, Bool.false_eq_true, Bool.not_true, Bool.not_false, Option.bind_some, List.length_cons, List.length_nil, Nat.reduceAdd, Nat.reduceSub, Nat.reduceEqDiff, decide_eq_true_eq, hsm, lc1, lc2, a1, a2, a3, a4, hq, encO, List.length_map, reduceCtorEq]; rw [List.map_append]; rfl)
/-! the whole of the rows -/
open RSK in
theorem fold_none (t : T) : ∀ (k : Int) (f : T) (n : Int), (enumI k t).foldl lstep (none, f, n) = (none, f ++ t, n) := by
  induction t with
  | nil => intro k f n; simp [enumI]
  | cons r rs ih => intro k f n; simp [enumI, lstep, ih]
def putEnd (s : PutS) : RSK.T × Int := (match s.1 with | some y => s.2.1 ++ [[y]] | none => s.2.1, s.2.2)
open RSK in
theorem fold_ins (t : T) : ∀ (k : Int) (x : Int) (f : T), putEnd ((enumI k t).foldl lstep (some x, f, k + t.length)) = (f ++ (ins t x).1, k + ((ins t x).2 : Int)) := by
  induction t with
  | nil => intro k x f; simp [enumI, putEnd, ins]
  | cons r rs ih =>
    intro k x f
    rw [enumI, List.foldl_cons]
    cases e : (rowIns r x).2 with
    | none =>
      simp only [lstep, e, if_true]
      rw [fold_none, ins_none e]
      simp [putEnd]
    | some y =>
      have h := ih (k + 1) y (f ++ [(rowIns r x).1])
      simp only [lstep, e, reduceCtorEq, if_false]
      rw [show k + ((r :: rs).length : Int) = k + 1 + (rs.length : Int) by simp; omega, h, ins_some e]
      simp; omega
open RSK in
theorem tab_rows : ∀ {t : T}, Tab t → ∀ r, r ∈ t → Sorted r ∧ r.length ≤ size t
  | a :: t, ⟨_, h2, _, h4⟩, r, hr => by
    have hs : size (a :: t) = a.length + size t := by simp [size, shape]
    rcases List.mem_cons.mp hr with rfl | hr
    · exact ⟨h2, by omega⟩
    · obtain ⟨q1, q2⟩ := tab_rows h4 r hr
      exact ⟨q1, by omega⟩
open RSK in
theorem tab_len : ∀ {t : T}, Tab t → t.length ≤ size t
  | [], _ => Nat.zero_le _
  | a :: t, ⟨h1, _, _, h4⟩ => by
    have hs : size (a :: t) = a.length + size t := by simp [size, shape]
    have := tab_len h4
    have := List.length_pos_iff.mpr h1
    simp; omega
theorem enumI_mem {α : Type} : ∀ {xs : List α} {k : Int} {p : Int × α}, p ∈ enumI k xs → p.2 ∈ xs
  | a :: r, k, p, h => by
    rw [enumI] at h
    rcases List.mem_cons.mp h with rfl | h
    · simp
    · exact List.mem_cons_of_mem _ (enumI_mem h)
theorem enumI_len {α : Type} : ∀ (xs : List α) (k : Int), (enumI k xs).length = xs.length
  | [], _ => rfl
  | a :: r, k => by simp [enumI, enumI_len r]
open RSK in
theorem put_hit (t : T) (x : Int) (ht : Tab t) (hz : size t ≤ 900) : forGo (yTup 2 (yCons (yName 5) (yCons (yName 6) yNil))) b__law_put_F1 [0, 1, 5, 6, 7, 8, 9, 10] (enumFrom 0 (t.map encW)) (putEnv (some x, [], (t.length : Int))) =
    .next (putEnv ((enumI 0 t).foldl lstep (some x, [], (t.length : Int)))) := by
  rw [enumFrom_map]
  refine forGo_fold (fun p : Int × Row => (PyData.tuple [.int p.1, encW p.2] : D)) putEnv lstep (fun xs s => (∀ p, p ∈ xs → Sorted p.2 ∧ p.2.length ≤ 1000) ∧ s.2.1.length + xs.length ≤ 1000) ?_ _ _ ⟨fun p hp => ?_, ?_⟩
  · rintro p r s ⟨h1, h2⟩
    obtain ⟨q1, q2⟩ := h1 p (by simp)
    refine ⟨put_turn p.1 p.2 s q1 q2 (by simp at h2; omega), fun q hq => h1 q (by simp [hq]), ?_⟩
    have : (lstep s p).2.1.length = s.2.1.length + 1 := by
      unfold lstep
      cases s.1 <;> simp
    rw [this]
    simp at h2
    omega
  · obtain ⟨q1, q2⟩ := tab_rows ht p.2 (enumI_mem hp)
    exact ⟨q1, by omega⟩
  · rw [enumI_len]
    have := tab_len ht
    simp; omega
open RSK in
theorem put_at (t : T) (x : Int) (ht : Tab t) (hz : size t ≤ 900) : dn__law_put [encF t, .int x] = .ok (.tuple [encF (ins t x).1, .int ((ins t x).2 : Int)]) := by
  have hit := put_hit t x ht hz
  have hf := fold_ins t 0 x []
  rw [Int.zero_add, Int.zero_add, List.nil_append] at hf
  generalize (enumI 0 t).foldl lstep (some x, [], (t.length : Int)) = s at hit hf
  obtain ⟨l, f, n⟩ := s
  have hl := tab_len ht
  have e1 : (ins t x).1.length ≤ 1000 := by
    have a := tab_len (tab_ins (x := x) ht)
    rw [size_ins] at a
    omega
  injection hf with hf1 hf2
  replace hf2 : n = ((ins t x).2 : Int) := hf2
  subst hf2
  have hsm : small f.length = true := small_of (by
    have : f.length ≤ (ins t x).1.length := by rw [← hf1]; cases l <;> simp
    omega)
  rw [← hf1]
  unfold encF
  simp only [putEnv, encO, List.map_nil] at hit
  cases l <;> simp only [dn__law_put, env0, List.map_cons, List.map_nil, List.replicate_succ, List.replicate_zero, List.cons_append, List.nil_append, b__law_put, b__law_put_1, b__law_put_2, b__law_put_3, b__law_put_4, b__law_put_5, out_ok, out_bad, out_exc, xVar_def, xOwn_def, xC_def, xOp_def, xB_def, asB_bool, xChain_def, xAnd_def, xOr_def, xNot_def, xAndV_def, xOrV_def, xNotV_def, xNeg_def, negD_int, xNil_def, xCons_def, xTup_def, xLst_def, mkT_0, mkT_1, mkT_2, mkT_3, mkT_4, mkL_0, mkL_1, mkL_2, okLen_0, okLen_1, xCall_def, on1_def, on2_def, xSl_def, xPart_def, asI_int, xNoPart_def, xIt_def, xItems_def, itemsD_t, itemsD_l, enumD_t, enumD_l, xYes_def, sNext_def, sPass_def, sBreak_def, sCont_def, seqOut_next, seqOut_ret, seqOut_exc, seqOut_brk, seqOut_cont, seqOut_bad, sSeq_def, sKill_def, sRet_def, sIf_def, sAsg_name, yName_def, yTup_def, yCons_def, yNil_def, sNewOwn_def, sApp_def, sFor_def, forGo_nil, outRes_ret, outRes_next, outRes_exc, fnD_1, fnD_2, fnD_3, addD_int, subD_int, ltD_int, leD_int, gtD_int, geD_int, eqD_int, neD_int, lenD_t, lenD_l, tupleD_t, tupleD_l, listD_t, listD_l, isD_none, isNotD_none, isNoneD_none, isNoneD_int, slD_l1, slD_t1, lenD_F, lenD_W, slD_Fto, slD_Wto, slD_Ffrom, slD_Wfrom, slD_Ffrom1, slD_Wfrom1, itemsD_W, itemsD_F, enumD_W, enumD_F, tupleD_W, tupleD_F, ownAt_def, lk_nil, lk_zero, lk_succ, st_nil, st_zero, st_succ, kill_nil, kill_cons, Res.bind_ok, Res.bind_exc, Res.bind_bad, ↓reduceIte, Bool.false_eq_true, Bool.not_true, Bool.not_false, Option.bind_some, List.length_cons, List.length_nil, Nat.reduceAdd, Nat.reduceSub, Nat.reduceEqDiff, decide_eq_true_eq, hit, putEnv, encO, List.length_map, hsm, List.map_append] <;> rfl
theorem enum_I : ∀ (k : Int) (w : List Int), RSK.enum k w = enumI k w
  | _, [] => rfl
  | k, a :: r => by rw [RSK.enum, enumI, enum_I (k + 1) r]
def pairEnv (s : RSK.T × RSK.T) : DEnv := [none, some (.dat (encF s.1)), some (.dat (encF s.2)), none, none, none]
open RSK in
theorem pair_turn (k x : Int) (s : T × T) (ht : Tab s.1) (hz : size s.1 ≤ 900) (hs : shape s.1 = shape s.2) :
    turn (yTup 2 (yCons (yName 3) (yCons (yName 4) yNil))) b__law_pair_F1 [0, 3, 4, 5] (.tuple [.int k, .int x]) (pairEnv s) = .next (pairEnv (pqStep s (k, x))) := by
  obtain ⟨t, u⟩ := s
  replace ht : Tab t := ht
  replace hz : size t ≤ 900 := hz
  replace hs : shape t = shape u := hs
  have hp := put_at t x ht hz
  have hl : t.length = u.length := by have := congrArg List.length hs; simpa [shape] using this
  have hle := ins_le t x
  have htl := tab_len ht
  by_cases he : (ins t x).2 = u.length
  · have hd : decide (((ins t x).2 : Int) = (u.length : Int)) = true := by simp [he]
    have a1 : addD (encF u) (.tuple [.tuple [.int (k + 1)]]) = .ok (encF (addBox u (ins t x).2 (k + 1))) := by
      rw [he, addBox_end]
      exact addD_F1 (b := [k + 1]) (by omega)
    simp only [turn, pairEnv, b__law_pair_F1, pqStep, out_ok, out_bad, out_exc, xVar_def, xOwn_def, xC_def, xOp_def, xB_def, asB_bool, xChain_def, xAnd_def, xOr_def, xNot_def, xAndV_def, xOrV_def, xNotV_def, xNeg_def, negD_int, xNil_def, xCons_def, xTup_def, xLst_def, mkT_0, mkT_1, mkT_2, mkT_3, mkT_4, mkL_0, mkL_1, mkL_2, okLen_0, okLen_1, xCall_def, on1_def, on2_def, xSl_def, xPart_def, asI_int, xNoPart_def, xIt_def, xItems_def, itemsD_t, itemsD_l, enumD_t, enumD_l, xYes_def, sNext_def, sPass_def, sBreak_def, sCont_def, seqOut_next, seqOut_ret, seqOut_exc, seqOut_brk, seqOut_cont, seqOut_bad, sSeq_def, sKill_def, sRet_def, sIf_def, sAsg_name, yName_def, yTup_def, yCons_def, yNil_def, sNewOwn_def, sApp_def, sFor_def, forGo_nil, outRes_ret, outRes_next, outRes_exc, fnD_1, fnD_2, fnD_3, addD_int, subD_int, ltD_int, leD_int, gtD_int, geD_int, eqD_int, neD_int, lenD_t, lenD_l, tupleD_t, tupleD_l, listD_t, listD_l, isD_none, isNotD_none, isNoneD_none, isNoneD_int, slD_l1, slD_t1, lenD_F, lenD_W, slD_Fto, slD_Wto, slD_Ffrom, slD_Wfrom, slD_Ffrom1, slD_Wfrom1, itemsD_W, itemsD_F, enumD_W, enumD_F, tupleD_W, tupleD_F, ownAt_def, lk_nil, lk_zero, lk_succ, st_nil, st_zero, st_succ, kill_nil, kill_cons, Res.bind_ok, Res.bind_exc, Res.bind_bad, ↓reduceIte, Bool.false_eq_true, Bool.not_true, Bool.not_false, Option.bind_some, List.length_cons, List.length_nil, Nat.reduceAdd, Nat.reduceSub, Nat.reduceEqDiff, decide_eq_true_eq, sAsg_def, hp, hd, a1]
  · have hd : decide (((ins t x).2 : Int) = (u.length : Int)) = false := by simp; omega
    have hlt : (ins t x).2 < u.length := by omega
    obtain ⟨r, hr⟩ : ∃ r, u[(ins t x).2]? = some r := ⟨u[(ins t x).2], by simp [hlt]⟩
    have hrl : r.length ≤ 900 := by
      have hm : r.length ∈ shape u := List.mem_map.mpr ⟨r, List.mem_of_getElem? hr, rfl⟩
      have : r.length ≤ (shape u).sum := mem_le_sum hm
      rw [← hs] at this
      exact Nat.le_trans this hz
    have a1 := ixD_F hr
    have a2 := addD_W1 (a := r) (v := k + 1) (by omega)
    have a3 := addD_F1 (a := u.take (ins t x).2) (b := r ++ [k + 1]) (by simp; omega)
    have a4 := addD_F (a := u.take (ins t x).2 ++ [r ++ [k + 1]]) (b := u.drop ((ins t x).2 + 1)) (by simp; omega)
    rw [← addBox_in u _ (k + 1) r hr] at a4
    simp only [turn, pairEnv, b__law_pair_F1, pqStep, out_ok, out_bad, out_exc, xVar_def, xOwn_def, xC_def, xOp_def, xB_def, asB_bool, xChain_def, xAnd_def, xOr_def, xNot_def, xAndV_def, xOrV_def, xNotV_def, xNeg_def, negD_int, xNil_def, xCons_def, xTup_def, xLst_def, mkT_0, mkT_1, mkT_2, mkT_3, mkT_4, mkL_0, mkL_1, mkL_2, okLen_0, okLen_1, xCall_def, on1_def, on2_def, xSl_def, xPart_def, asI_int, xNoPart_def, xIt_def, xItems_def, itemsD_t, itemsD_l, enumD_t, enumD_l, xYes_def, sNext_def, sPass_def, sBreak_def, sCont_def, seqOut_next, seqOut_ret, seqOut_exc, seqOut_brk, seqOut_cont, seqOut_bad, sSeq_def, sKill_def, sRet_def, sIf_def, sAsg_name, yName_def, yTup_def, yCons_def, yNil_def, sNewOwn_def, sApp_def, sFor_def, forGo_nil, outRes_ret, outRes_next, outRes_exc, fnD_1, fnD_2, fnD_3, addD_int, subD_int, ltD_int, leD_int, gtD_int, geD_int, eqD_int, neD_int, lenD_t, lenD_l, tupleD_t, tupleD_l, listD_t, listD_l, isD_none, isNotD_none, isNoneD_none, isNoneD_int, slD_l1, slD_t1, lenD_F, lenD_W, slD_Fto, slD_Wto, slD_Ffrom, slD_Wfrom, slD_Ffrom1, slD_Wfrom1, itemsD_W, itemsD_F, enumD_W, enumD_F, tupleD_W, tupleD_F, ownAt_def, lk_nil, lk_zero, lk_succ, st_nil, st_zero, st_succ, kill_nil, kill_cons, Res.bind_ok, Res.bind_exc, Res.bind_bad, ↓reduceIte, Bool.false_eq_true, Bool.not_true, Bool.not_false, Option.bind_some, List.length_cons, List.length_nil, Nat.reduceAdd, Nat.reduceSub, Nat.reduceEqDiff, decide_eq_true_eq, sAsg_def, hp, hd, a1, a2, a3, a4]
open RSK in
theorem pair_at (w : List Int) (hw : w.length ≤ 800) : dn__law_pair [encW w] = .ok (.tuple [encF (PQ w).1, encF (PQ w).2]) := by
  have hit := forGo_fold (g := yTup 2 (yCons (yName 3) (yCons (yName 4) yNil))) (body := b__law_pair_F1) (ks := [0, 3, 4, 5]) (fun p : Int × Int => (PyData.tuple [.int p.1, .int p.2] : D)) pairEnv pqStep (fun xs s => Tab s.1 ∧ size s.1 + xs.length ≤ 900 ∧ shape s.1 = shape s.2) (by
    rintro p r s ⟨h1, h2, h3⟩
    simp only [List.length_cons] at h2
    refine ⟨pair_turn p.1 p.2 s h1 (by omega) h3, tab_ins h1, ?_, ?_⟩
    · show size (ins s.1 p.2).1 + r.length ≤ 900
      rw [size_ins]; omega
    · show shape (ins s.1 p.2).1 = shape (addBox s.2 (ins s.1 p.2).2 (p.1 + 1))
      rw [shape_ins, shape_addBox, h3]) (enumI 0 w) ([], []) ⟨trivial, by rw [enumI_len]; simp [size, shape]; omega, rfl⟩
  rw [← enumFrom_map PyData.int, ← enum_I] at hit
  replace hit : forGo (yTup 2 (yCons (yName 3) (yCons (yName 4) yNil))) b__law_pair_F1 [0, 3, 4, 5] (enumFrom 0 (w.map .int)) (pairEnv ([], [])) = .next (pairEnv (PQ w)) := hit
  simp only [pairEnv, encF, List.map_nil] at hit
  simp only [dn__law_pair, env0, List.map_cons, List.map_nil, List.replicate_succ, List.replicate_zero, List.cons_append, List.nil_append, b__law_pair, b__law_pair_1, b__law_pair_2, b__law_pair_3, out_ok, out_bad, out_exc, xVar_def, xOwn_def, xC_def, xOp_def, xB_def, asB_bool, xChain_def, xAnd_def, xOr_def, xNot_def, xAndV_def, xOrV_def, xNotV_def, xNeg_def, negD_int, xNil_def, xCons_def, xTup_def, xLst_def, mkT_0, mkT_1, mkT_2, mkT_3, mkT_4, mkL_0, mkL_1, mkL_2, okLen_0, okLen_1, xCall_def, on1_def, on2_def, xSl_def, xPart_def, asI_int, xNoPart_def, xIt_def, xItems_def, itemsD_t, itemsD_l, enumD_t, enumD_l, xYes_def, sNext_def, sPass_def, sBreak_def, sCont_def, seqOut_next, seqOut_ret, seqOut_exc, seqOut_brk, seqOut_cont, seqOut_bad, sSeq_def, sKill_def, sRet_def, sIf_def, sAsg_name, yName_def, yTup_def, yCons_def, yNil_def, sNewOwn_def, sApp_def, sFor_def, forGo_nil, outRes_ret, outRes_next, outRes_exc, fnD_1, fnD_2, fnD_3, addD_int, subD_int, ltD_int, leD_int, gtD_int, geD_int, eqD_int, neD_int, lenD_t, lenD_l, tupleD_t, tupleD_l, listD_t, listD_l, isD_none, isNotD_none, isNoneD_none, isNoneD_int, slD_l1, slD_t1, lenD_F, lenD_W, slD_Fto, slD_Wto, slD_Ffrom, slD_Wfrom, slD_Ffrom1, slD_Wfrom1, itemsD_W, itemsD_F, enumD_W, enumD_F, tupleD_W, tupleD_F, ownAt_def, lk_nil, lk_zero, lk_succ, st_nil, st_zero, st_succ, kill_nil, kill_cons, Res.bind_ok, Res.bind_exc, Res.bind_bad, ↓reduceIte, Bool.false_eq_true, Bool.not_true, Bool.not_false, Option.bind_some, List.length_cons, List.length_nil, Nat.reduceAdd, Nat.reduceSub, Nat.reduceEqDiff, decide_eq_true_eq, hit]
  rfl

theorem lens_at (t : RSK.T) (hz : t.length ≤ 1000) (fi : DEnv → Res (List D)) (i : Nat) (ρ : DEnv) (hi : fi ρ = .ok (t.map encW)) (H : ∀ d, lk (st (st ρ i none) i (some (.dat d))) i = some (.dat d)) :
    xLc fi (yName i) xYes (xCall (on1 lenD) (xCons (xVar i) xNil)) [i] ρ = .ok (.list ((RSK.shape t).map fun (n : Nat) => (PyData.int (n : Int) : D))) := by
  have h := xLc_map (g := yName i) (ft := xYes) (fe := xCall (on1 lenD) (xCons (xVar i) xNil)) (vs := [i]) (xs := t) encW (fun _ => true) (fun r => .int (r.length : Int)) hi (by omega) (fun r _ => ⟨_, rfl, rfl, fun _ => by simp only [out_ok, out_bad, out_exc, xVar_def, xOwn_def, xC_def, xOp_def, xB_def, asB_bool, xChain_def, xAnd_def, xOr_def, xNot_def, xAndV_def, xOrV_def, xNotV_def, xNeg_def, negD_int, xNil_def, xCons_def, xTup_def, xLst_def, mkT_0, mkT_1, mkT_2, mkT_3, mkT_4, mkL_0, mkL_1, mkL_2, okLen_0, okLen_1, xCall_def, on1_def, on2_def, xSl_def, xPart_def, asI_int, xNoPart_def, xIt_def, xItems_def, itemsD_t, itemsD_l, enumD_t, enumD_l, xYes_def, sNext_def, sPass_def, sBreak_def, sCont_def, seqOut_next, seqOut_ret, seqOut_exc, seqOut_brk, seqOut_cont, seqOut_bad, sSeq_def, sKill_def, sRet_def, sIf_def, sAsg_name, yName_def, yTup_def, yCons_def, yNil_def, sNewOwn_def, sApp_def, sFor_def, forGo_nil, outRes_ret, outRes_next, outRes_exc, fnD_1, fnD_2, fnD_3, addD_int, subD_int, ltD_int, leD_int, gtD_int, geD_int, eqD_int, neD_int, lenD_t, lenD_l, tupleD_t, tupleD_l, listD_t, listD_l, isD_none, isNotD_none, isNoneD_none, isNoneD_int, slD_l1, slD_t1, lenD_F, lenD_W, slD_Fto, slD_Wto, slD_Ffrom, slD_Wfrom, slD_Ffrom1, slD_Wfrom1, itemsD_W, itemsD_F, enumD_W, enumD_F, tupleD_W, tupleD_F, ownAt_def, lk_nil, lk_zero, lk_succ, st_nil, st_zero, st_succ, kill_nil, kill_cons, Res.bind_ok, Res.bind_exc, Res.bind_bad, ↓reduceIte, Bool.false_eq_true, Bool.not_true, Bool.not_false, Option.bind_some, List.length_cons, List.length_nil, Nat.reduceAdd, Nat.reduceSub, Nat.reduceEqDiff, decide_eq_true_eq, H]⟩)
  rw [h, List.filter_eq_self.mpr (fun _ _ => rfl)]
  unfold RSK.shape
  rw [List.map_map]
  rfl

/-! ### fillings of shapes of up to 8 boxes -/
structure SF (s : List Nat) (L : List T3) : Prop where
  fil : dn_fillings [encN s] = .ok (encL L)
  cnt : dn_count_of [encN s] = .ok (.int (L.length : Int))
  set : lenSetD (encL L) = .ok (.int (L.length : Int))
  srt : ((sort2D (encL L)).bind tupleD).bind (neD (encL L)) = .ok (.bool false)
  isc : ∀ t, t ∈ L → dn_is_counted [encT t] = .ok (.bool true)
  shp : ∀ t, t ∈ L → ((dn_shape_of [encT t]).bind fun x => neD x (encN s)) = .ok (.bool false)
theorem sf_of {s : List Nat} {L : List T3} (h : chkS s L = true) : SF s L := by
  unfold chkS at h
  simp only [Bool.and_eq_true, List.all_eq_true] at h
  obtain ⟨⟨⟨⟨h1, h2⟩, h3⟩, h4⟩, h5⟩ := h
  exact ⟨okD_eq h1, okD_eq h2, okD_eq h3, okD_eq h4, fun t ht => okD_eq (h5 t ht).1, fun t ht => okD_eq (h5 t ht).2⟩
theorem tb_in {s : List Nat} (hs : s ∈ S8) : ∃ p, p ∈ TB ∧ eqN' s p.1 = true := by
  have h : (TB.any fun p => eqN' s p.1) = true := List.all_eq_true.mp S8_in s hs
  exact List.any_eq_true.mp h
theorem sf_at (p : List Nat × List T3) (hp : p ∈ TB) : SF p.1 p.2 := sf_of (sh_all p hp)
theorem sf_ex {s : List Nat} (hs : s ∈ S8) : ∃ L, SF s L :=
  match tb_in hs with
  | ⟨p, hp, e⟩ => ⟨p.2, by
    have e : s = p.1 := (eqN_iff _ _).mp e
    rw [e]
    exact sf_at p hp⟩
/-! ### the law -/
theorem shape_draw (ns : List Int) (k most : Nat) (hk : k < 100) (hm : most ≤ 12) : ∃ s, RSK.Part s ∧ s.sum ≤ most ∧ ∀ (m : Nat) (ρ : DEnv), lk ρ 0 = some (.dat (.list (ns.map .int))) → (∀ d, lk (st (st ρ 2 none) 2 (some (.dat d))) 2 = some (.dat d)) →
    (xCall (on1 tupleD) (xCons (xLc (xItems (xOp ixD (xCall dn__law_pair (xCons (xCall dn__law_word (xCons (xCall dn__law_mixed (xCons (xVar 0) (xCons (xC (PyData.int (k : Int))) (xNil)))) (xCons (xC (PyData.int (most : Int))) (xNil)))) (xNil))) (xC (PyData.int 0)))) (yName 2) (xYes) (xCall (on1 lenD) (xCons (xVar 2) (xNil))) [2]) (xNil))) ρ = .ok (encN s) := by
  generalize hw : wordV (mixedV ns k) most = w
  have hwl : w.length ≤ most := by rw [← hw]; exact word_len _ _
  have e1 := mixed_at ns k (by omega)
  have e2 := word_at (mixedV ns k) most (by omega)
  rw [hw] at e2
  have e3 := pair_at w (by omega)
  have e4 : ixD (.tuple [encF (RSK.PQ w).1, encF (RSK.PQ w).2]) (.int 0) = .ok (encF (RSK.P w)) := by rw [RSK.PQ_fst]; rfl
  have ht := RSK.tab_P w
  have hl := tab_len ht
  rw [RSK.size_P] at hl
  refine ⟨RSK.shape (RSK.P w), RSK.part_shape ht, by have := RSK.size_P w; unfold RSK.size at this; omega, fun m ρ h0 h2 => ?_⟩
  have := lens_at (RSK.P w) (by omega) (xItems (xOp ixD (xCall dn__law_pair (xCons (xCall dn__law_word (xCons (xCall dn__law_mixed (xCons (xVar 0) (xCons (xC (PyData.int (k : Int))) (xNil)))) (xCons (xC (PyData.int (most : Int))) (xNil)))) (xNil))) (xC (PyData.int 0)))) 2 ρ (by
    simp only [env0, List.map_cons, List.map_nil, List.replicate_succ, List.replicate_zero, List.cons_append, List.nil_append, out_ok, out_bad, out_exc, xVar_def, xOwn_def, xC_def, xOp_def, xB_def, asB_bool, xChain_def, xAnd_def, xOr_def, xNot_def, xAndV_def, xOrV_def, xNotV_def, xNeg_def, negD_int, xNil_def, xCons_def, xTup_def, xLst_def, mkT_0, mkT_1, mkT_2, mkT_3, mkT_4, mkL_0, mkL_1, mkL_2, okLen_0, okLen_1, xCall_def, on1_def, on2_def, xSl_def, xPart_def, asI_int, xNoPart_def, xIt_def, xItems_def, itemsD_t, itemsD_l, enumD_t, enumD_l, xYes_def, sNext_def, sPass_def, sBreak_def, sCont_def, seqOut_next, seqOut_ret, seqOut_exc, seqOut_brk, seqOut_cont, seqOut_bad, sSeq_def, sKill_def, sRet_def, sIf_def, sAsg_name, yName_def, yTup_def, yCons_def, yNil_def, sNewOwn_def, sApp_def, sFor_def, forGo_nil, outRes_ret, outRes_next, outRes_exc, fnD_1, fnD_2, fnD_3, addD_int, subD_int, ltD_int, leD_int, gtD_int, geD_int, eqD_int, neD_int, lenD_t, lenD_l, tupleD_t, tupleD_l, listD_t, listD_l, isD_none, isNotD_none, isNoneD_none, isNoneD_int, slD_l1, slD_t1, lenD_F, lenD_W, slD_Fto, slD_Wto, slD_Ffrom, slD_Wfrom, slD_Ffrom1, slD_Wfrom1, itemsD_W, itemsD_F, enumD_W, enumD_F, tupleD_W, tupleD_F, ownAt_def, lk_nil, lk_zero, lk_succ, st_nil, st_zero, st_succ, kill_nil, kill_cons, Res.bind_ok, Res.bind_exc, Res.bind_bad, ↓reduceIte, Bool.false_eq_true, Bool.not_true, Bool.not_false, Option.bind_some, List.length_cons, List.length_nil, Nat.reduceAdd, Nat.reduceSub, Nat.reduceEqDiff, decide_eq_true_eq, h0, e1, e2, e3, e4]) h2
  simp only [out_ok, out_bad, out_exc, xVar_def, xOwn_def, xC_def, xOp_def, xB_def, asB_bool, xChain_def, xAnd_def, xOr_def, xNot_def, xAndV_def, xOrV_def, xNotV_def, xNeg_def, negD_int, xNil_def, xCons_def, xTup_def, xLst_def, mkT_0, mkT_1, mkT_2, mkT_3, mkT_4, mkL_0, mkL_1, mkL_2, okLen_0, okLen_1, xCall_def, on1_def, on2_def, xSl_def, xPart_def, asI_int, xNoPart_def, xIt_def, xItems_def, itemsD_t, itemsD_l, enumD_t, enumD_l, xYes_def, sNext_def, sPass_def, sBreak_def, sCont_def, seqOut_next, seqOut_ret, seqOut_exc, seqOut_brk, seqOut_cont, seqOut_bad, sSeq_def, sKill_def, sRet_def, sIf_def, sAsg_name, yName_def, yTup_def, yCons_def, yNil_def, sNewOwn_def, sApp_def, sFor_def, forGo_nil, outRes_ret, outRes_next, outRes_exc, fnD_1, fnD_2, fnD_3, addD_int, subD_int, ltD_int, leD_int, gtD_int, geD_int, eqD_int, neD_int, lenD_t, lenD_l, tupleD_t, tupleD_l, listD_t, listD_l, isD_none, isNotD_none, isNoneD_none, isNoneD_int, slD_l1, slD_t1, lenD_F, lenD_W, slD_Fto, slD_Wto, slD_Ffrom, slD_Wfrom, slD_Ffrom1, slD_Wfrom1, itemsD_W, itemsD_F, enumD_W, enumD_F, tupleD_W, tupleD_F, ownAt_def, lk_nil, lk_zero, lk_succ, st_nil, st_zero, st_succ, kill_nil, kill_cons, Res.bind_ok, Res.bind_exc, Res.bind_bad, ↓reduceIte, Bool.false_eq_true, Bool.not_true, Bool.not_false, Option.bind_some, List.length_cons, List.length_nil, Nat.reduceAdd, Nat.reduceSub, Nat.reduceEqDiff, decide_eq_true_eq, this]
  rfl
theorem boxes_end (b : Nat) (h : b ≤ 6) : outRes (b_law_9 [none, none, none, none, none, none, none, none, some (.dat (.int (b : Int))), none, none, none]) = .ok (.bool true) := by
  have c : (List.range 7).all (fun b => okD (outRes (b_law_9 [none, none, none, none, none, none, none, none, some (.dat (.int (b : Int))), none, none, none])) (.bool true)) = true := by decide +kernel
  exact okD_eq (List.all_eq_true.mp c b (by simp; omega))
theorem neD_nat (n : Nat) : neD (.int (n : Int)) (.int (n : Int)) = .ok (.bool false) := by rw [neD_int]; simp
theorem for_fill {s : List Nat} {L : List T3} (F : SF s L) (ρ : Nat → DEnv) {sc : Option LV} {o : Option LV} : ∀ M : List T3, (∀ t, t ∈ M → t ∈ L) →
    forGo (yName 5) b_law_F2 [2, 5, 6, 7, 8, 9, 10, 11] (M.map encT) [sc, some (.dat (encN s)), none, some (.dat (encL L)), o, none, none, none, none, none, none, none] = .next [sc, some (.dat (encN s)), none, some (.dat (encL L)), o, none, none, none, none, none, none, none]
  | [], _ => rfl
  | t :: M, h => by
    have h1 := F.isc t (h t (by simp))
    have h2 := F.shp t (h t (by simp))
    have ht : turn (yName 5) b_law_F2 [2, 5, 6, 7, 8, 9, 10, 11] (encT t) [sc, some (.dat (encN s)), none, some (.dat (encL L)), o, none, none, none, none, none, none, none] = .next [sc, some (.dat (encN s)), none, some (.dat (encL L)), o, none, none, none, none, none, none, none] := by
      rw [turn_eq (ρ1 := [sc, some (.dat (encN s)), none, some (.dat (encL L)), o, some (.dat (encT t)), none, none, none, none, none, none]) rfl]
      have hb : b_law_F2 [sc, some (.dat (encN s)), none, some (.dat (encL L)), o, some (.dat (encT t)), none, none, none, none, none, none] = .next [sc, some (.dat (encN s)), none, some (.dat (encL L)), o, some (.dat (encT t)), none, none, none, none, none, none] := by
        cases hx : dn_shape_of [encT t] with
        | ok x =>
          rw [hx] at h2
          simp only [Res.bind_ok] at h2
          simp only [b_law_F2, out_ok, out_bad, out_exc, xVar_def, xOwn_def, xC_def, xOp_def, xB_def, asB_bool, xChain_def, xAnd_def, xOr_def, xNot_def, xAndV_def, xOrV_def, xNotV_def, xNeg_def, negD_int, xNil_def, xCons_def, xTup_def, xLst_def, mkT_0, mkT_1, mkT_2, mkT_3, mkT_4, mkL_0, mkL_1, mkL_2, okLen_0, okLen_1, xCall_def, on1_def, on2_def, xSl_def, xPart_def, asI_int, xNoPart_def, xIt_def, xItems_def, itemsD_t, itemsD_l, enumD_t, enumD_l, xYes_def, sNext_def, sPass_def, sBreak_def, sCont_def, seqOut_next, seqOut_ret, seqOut_exc, seqOut_brk, seqOut_cont, seqOut_bad, sSeq_def, sKill_def, sRet_def, sIf_def, sAsg_name, yName_def, yTup_def, yCons_def, yNil_def, sNewOwn_def, sApp_def, sFor_def, forGo_nil, outRes_ret, outRes_next, outRes_exc, fnD_1, fnD_2, fnD_3, addD_int, subD_int, ltD_int, leD_int, gtD_int, geD_int, eqD_int, neD_int, lenD_t, lenD_l, tupleD_t, tupleD_l, listD_t, listD_l, isD_none, isNotD_none, isNoneD_none, isNoneD_int, slD_l1, slD_t1, lenD_F, lenD_W, slD_Fto, slD_Wto, slD_Ffrom, slD_Wfrom, slD_Ffrom1, slD_Wfrom1, itemsD_W, itemsD_F, enumD_W, enumD_F, tupleD_W, tupleD_F, ownAt_def, lk_nil, lk_zero, lk_succ, st_nil, st_zero, st_succ, kill_nil, kill_cons, Res.bind_ok, Res.bind_exc, Res.bind_bad, ↓reduceIte, Bool.false_eq_true, Bool.not_true, Bool.not_false, Option.bind_some, List.length_cons, List.length_nil, Nat.reduceAdd, Nat.reduceSub, Nat.reduceEqDiff, decide_eq_true_eq, h1, hx, h2]
        | exc c => rw [hx] at h2; cases h2
        | bad => rw [hx] at h2; cases h2
      rw [hb]
      rfl
    rw [List.map_cons, forGo_next ht]
    exact for_fill F ρ M fun u hu => h u (by simp [hu])
theorem pure_law : ∀ ns : List Int, ns.length ≤ 63 → dn_law [.list (ns.map .int)] = .ok (.bool true) := by
  intro ns _
  obtain ⟨s, p1, p2, d1⟩ := shape_draw ns 0 8 (by omega) (by omega)
  obtain ⟨u, r1, r2, d2⟩ := shape_draw ns 1 12 (by omega) (by omega)
  have hs : s ∈ S8 := RSK.partsUpTo_mem p1 p2
  have hs12 : s ∈ S12 := RSK.partsUpTo_mem p1 (by omega)
  have hu : u ∈ S12 := RSK.partsUpTo_mem r1 r2
  obtain ⟨L, F⟩ := sf_ex hs
  have C1 := cf hs12
  have C2 := cf hu
  obtain ⟨us1, g1, c1⟩ := count_at 14 s [] hs12 (by omega) ⟨List.nodup_nil, fun _ h => by cases h⟩
  obtain ⟨us2, g2, c2⟩ := count_at 14 u us1 hu (by omega) g1
  have hcl : cN s = L.length := by
    have := C1.cnt.symm.trans F.cnt
    have := PyData.int.inj (Res.ok.inj this)
    omega
  rw [hcl] at c1
  have c1' : dn__law_count (.dT []) [encN s] = .ok (.int (L.length : Int)) (.dT (memo us1)) := c1
  have c2' : dn__law_count (.dT (memo us1)) [encN u] = .ok (.int (cN u : Int)) (.dT (memo us2)) := c2
  have e1 : lenD (encL L) = .ok (.int (L.length : Int)) := by unfold encL; rw [lenD_t, List.length_map]
  have hx1 := d1 0 (env0 N_law [.list (ns.map .int)]) rfl (fun _ => rfl)
  have hx2 := d2 0 [some (.dat (.list (ns.map .int))), some (.dat (encN s)), none, some (.dat (encL L)), some (.obj none (.dT (memo us1))), none, none, none, none, none, none, none] rfl (fun _ => rfl)
  have hfor := for_fill F (fun _ => []) (sc := some (.dat (.list (ns.map .int)))) (o := some (.obj none (.dT (memo us1)))) L (fun _ h => h)
  have ei : itemsD (encL L) = .ok (L.map encT) := rfl
  have m2 := mixed_at ns 2 (by omega)
  have b0 := Int.emod_nonneg (mixedV ns 2) (show (7 : Int) ≠ 0 by omega)
  have b1 := Int.emod_lt_of_pos (mixedV ns 2) (show (0 : Int) < 7 by omega)
  obtain ⟨b, hb⟩ := Int.eq_ofNat_of_zero_le b0
  have q7 : modD (.int (mixedV ns 2)) (.int 7) = .ok (.int (b : Int)) := by rw [modD_int (by decide), hb]
  have hend := boxes_end b (by omega)
  have isb : ∀ i : Int, isBoolD (.int i) = false := fun _ => rfl
  have srt : ∃ y, (sort2D (encL L)).bind tupleD = .ok y ∧ neD (encL L) y = .ok (.bool false) := by
    have := F.srt
    cases hy : (sort2D (encL L)).bind tupleD with
    | ok y => rw [hy] at this; exact ⟨y, rfl, this⟩
    | exc c => rw [hy] at this; cases this
    | bad => rw [hy] at this; cases this
  obtain ⟨y, y1, y2⟩ := srt
  obtain ⟨z, z1, z2⟩ : ∃ z, sort2D (encL L) = .ok z ∧ tupleD z = .ok y := by
    cases hz : sort2D (encL L) with
    | ok z => rw [hz] at y1; exact ⟨z, rfl, y1⟩
    | exc c => rw [hz] at y1; cases y1
    | bad => rw [hz] at y1; cases y1
  have nn := neD_nat
  unfold dn_law
  rw [fnD_1]
  show outRes (b_law (env0 N_law [.list (ns.map .int)])) = _
  simp only [b_law, sSeq_def, sAsg_name]
  rw [show ((0 : Nat) : Int) = 0 from rfl, show ((8 : Nat) : Int) = 8 from rfl] at hx1
  rw [hx1]
  simp only [env0, List.map_cons, List.map_nil, List.replicate_succ, List.replicate_zero, List.cons_append, List.nil_append, N_law, out_ok, out_bad, out_exc, xVar_def, xOwn_def, xC_def, xOp_def, xB_def, asB_bool, xChain_def, xAnd_def, xOr_def, xNot_def, xAndV_def, xOrV_def, xNotV_def, xNeg_def, negD_int, xNil_def, xCons_def, xTup_def, xLst_def, mkT_0, mkT_1, mkT_2, mkT_3, mkT_4, mkL_0, mkL_1, mkL_2, okLen_0, okLen_1, xCall_def, on1_def, on2_def, xSl_def, xPart_def, asI_int, xNoPart_def, xIt_def, xItems_def, itemsD_t, itemsD_l, enumD_t, enumD_l, xYes_def, sNext_def, sPass_def, sBreak_def, sCont_def, seqOut_next, seqOut_ret, seqOut_exc, seqOut_brk, seqOut_cont, seqOut_bad, sSeq_def, sKill_def, sRet_def, sIf_def, sAsg_name, yName_def, yTup_def, yCons_def, yNil_def, sNewOwn_def, sApp_def, sFor_def, forGo_nil, outRes_ret, outRes_next, outRes_exc, fnD_1, fnD_2, fnD_3, addD_int, subD_int, ltD_int, leD_int, gtD_int, geD_int, eqD_int, neD_int, lenD_t, lenD_l, tupleD_t, tupleD_l, listD_t, listD_l, isD_none, isNotD_none, isNoneD_none, isNoneD_int, slD_l1, slD_t1, lenD_F, lenD_W, slD_Fto, slD_Wto, slD_Ffrom, slD_Wfrom, slD_Ffrom1, slD_Wfrom1, itemsD_W, itemsD_F, enumD_W, enumD_F, tupleD_W, tupleD_F, ownAt_def, lk_nil, lk_zero, lk_succ, st_nil, st_zero, st_succ, kill_nil, kill_cons, Res.bind_ok, Res.bind_exc, Res.bind_bad, ↓reduceIte, Bool.false_eq_true, Bool.not_true, Bool.not_false, Option.bind_some, List.length_cons, List.length_nil, Nat.reduceAdd, Nat.reduceSub, Nat.reduceEqDiff, decide_eq_true_eq, b_law_1, F.fil, b_law_2, sNewDO, b_law_3, sIfX, xOrX, xBX, xOpX, xP, xCO, RX.of_ok, RX.bind_ok, RX.outX_ok, e1, coK, c1', nn, xLenSet, F.set, z1, z2, y2]
  simp only [b_law_4, out_ok, out_bad, out_exc, xVar_def, xOwn_def, xC_def, xOp_def, xB_def, asB_bool, xChain_def, xAnd_def, xOr_def, xNot_def, xAndV_def, xOrV_def, xNotV_def, xNeg_def, negD_int, xNil_def, xCons_def, xTup_def, xLst_def, mkT_0, mkT_1, mkT_2, mkT_3, mkT_4, mkL_0, mkL_1, mkL_2, okLen_0, okLen_1, xCall_def, on1_def, on2_def, xSl_def, xPart_def, asI_int, xNoPart_def, xIt_def, xItems_def, itemsD_t, itemsD_l, enumD_t, enumD_l, xYes_def, sNext_def, sPass_def, sBreak_def, sCont_def, seqOut_next, seqOut_ret, seqOut_exc, seqOut_brk, seqOut_cont, seqOut_bad, sSeq_def, sKill_def, sRet_def, sIf_def, sAsg_name, yName_def, yTup_def, yCons_def, yNil_def, sNewOwn_def, sApp_def, sFor_def, forGo_nil, outRes_ret, outRes_next, outRes_exc, fnD_1, fnD_2, fnD_3, addD_int, subD_int, ltD_int, leD_int, gtD_int, geD_int, eqD_int, neD_int, lenD_t, lenD_l, tupleD_t, tupleD_l, listD_t, listD_l, isD_none, isNotD_none, isNoneD_none, isNoneD_int, slD_l1, slD_t1, lenD_F, lenD_W, slD_Fto, slD_Wto, slD_Ffrom, slD_Wfrom, slD_Ffrom1, slD_Wfrom1, itemsD_W, itemsD_F, enumD_W, enumD_F, tupleD_W, tupleD_F, ownAt_def, lk_nil, lk_zero, lk_succ, st_nil, st_zero, st_succ, kill_nil, kill_cons, Res.bind_ok, Res.bind_exc, Res.bind_bad, ↓reduceIte, Bool.false_eq_true, Bool.not_true, Bool.not_false, Option.bind_some, List.length_cons, List.length_nil, Nat.reduceAdd, Nat.reduceSub, Nat.reduceEqDiff, decide_eq_true_eq, ei, hfor]
  simp only [b_law_5, sSeq_def, sAsg_name]
  rw [show ((1 : Nat) : Int) = 1 from rfl, show ((12 : Nat) : Int) = 12 from rfl] at hx2
  rw [hx2]
  simp only [out_ok, out_bad, out_exc, xVar_def, xOwn_def, xC_def, xOp_def, xB_def, asB_bool, xChain_def, xAnd_def, xOr_def, xNot_def, xAndV_def, xOrV_def, xNotV_def, xNeg_def, negD_int, xNil_def, xCons_def, xTup_def, xLst_def, mkT_0, mkT_1, mkT_2, mkT_3, mkT_4, mkL_0, mkL_1, mkL_2, okLen_0, okLen_1, xCall_def, on1_def, on2_def, xSl_def, xPart_def, asI_int, xNoPart_def, xIt_def, xItems_def, itemsD_t, itemsD_l, enumD_t, enumD_l, xYes_def, sNext_def, sPass_def, sBreak_def, sCont_def, seqOut_next, seqOut_ret, seqOut_exc, seqOut_brk, seqOut_cont, seqOut_bad, sSeq_def, sKill_def, sRet_def, sIf_def, sAsg_name, yName_def, yTup_def, yCons_def, yNil_def, sNewOwn_def, sApp_def, sFor_def, forGo_nil, outRes_ret, outRes_next, outRes_exc, fnD_1, fnD_2, fnD_3, addD_int, subD_int, ltD_int, leD_int, gtD_int, geD_int, eqD_int, neD_int, lenD_t, lenD_l, tupleD_t, tupleD_l, listD_t, listD_l, isD_none, isNotD_none, isNoneD_none, isNoneD_int, slD_l1, slD_t1, lenD_F, lenD_W, slD_Fto, slD_Wto, slD_Ffrom, slD_Wfrom, slD_Ffrom1, slD_Wfrom1, itemsD_W, itemsD_F, enumD_W, enumD_F, tupleD_W, tupleD_F, ownAt_def, lk_nil, lk_zero, lk_succ, st_nil, st_zero, st_succ, kill_nil, kill_cons, Res.bind_ok, Res.bind_exc, Res.bind_bad, ↓reduceIte, Bool.false_eq_true, Bool.not_true, Bool.not_false, Option.bind_some, List.length_cons, List.length_nil, Nat.reduceAdd, Nat.reduceSub, Nat.reduceEqDiff, decide_eq_true_eq, b_law_6, C2.cnt, b_law_7, sIfX, xOrX, xBX, xOpX, xP, xCO, xIsi, isb, RX.of_ok, RX.bind_ok, RX.outX_ok, coK, c2', nn, F.cnt, e1, b_law_8]
  rw [show ((2 : Nat) : Int) = 2 from rfl] at m2
  simp only [m2, out_ok, out_bad, out_exc, xVar_def, xOwn_def, xC_def, xOp_def, xB_def, asB_bool, xChain_def, xAnd_def, xOr_def, xNot_def, xAndV_def, xOrV_def, xNotV_def, xNeg_def, negD_int, xNil_def, xCons_def, xTup_def, xLst_def, mkT_0, mkT_1, mkT_2, mkT_3, mkT_4, mkL_0, mkL_1, mkL_2, okLen_0, okLen_1, xCall_def, on1_def, on2_def, xSl_def, xPart_def, asI_int, xNoPart_def, xIt_def, xItems_def, itemsD_t, itemsD_l, enumD_t, enumD_l, xYes_def, sNext_def, sPass_def, sBreak_def, sCont_def, seqOut_next, seqOut_ret, seqOut_exc, seqOut_brk, seqOut_cont, seqOut_bad, sSeq_def, sKill_def, sRet_def, sIf_def, sAsg_name, yName_def, yTup_def, yCons_def, yNil_def, sNewOwn_def, sApp_def, sFor_def, forGo_nil, outRes_ret, outRes_next, outRes_exc, fnD_1, fnD_2, fnD_3, addD_int, subD_int, ltD_int, leD_int, gtD_int, geD_int, eqD_int, neD_int, lenD_t, lenD_l, tupleD_t, tupleD_l, listD_t, listD_l, isD_none, isNotD_none, isNoneD_none, isNoneD_int, slD_l1, slD_t1, lenD_F, lenD_W, slD_Fto, slD_Wto, slD_Ffrom, slD_Wfrom, slD_Ffrom1, slD_Wfrom1, itemsD_W, itemsD_F, enumD_W, enumD_F, tupleD_W, tupleD_F, ownAt_def, lk_nil, lk_zero, lk_succ, st_nil, st_zero, st_succ, kill_nil, kill_cons, Res.bind_ok, Res.bind_exc, Res.bind_bad, ↓reduceIte, Bool.false_eq_true, Bool.not_true, Bool.not_false, Option.bind_some, List.length_cons, List.length_nil, Nat.reduceAdd, Nat.reduceSub, Nat.reduceEqDiff, decide_eq_true_eq, q7]
  exact hend

end Law
end
end
open PySem PySem.W PySem.Calls PyProof.Rows
theorem PySem.Challenge.cw_stairbox_k51_whole_counted_fillings_holds : PySem.Challenge.rw_stairbox_k51_whole_counted_fillings.Holds := by
  w_on; o_law
  refine HandSHeadRun.head_any (r := OpenLaw.row PySem.Challenge.rw_stairbox_k51_whole_counted_fillings) (q := view (OpenLaw.row PySem.Challenge.rw_stairbox_k51_whole_counted_fillings).prog [26]) (H := Law.hk) (ob := Law.ob) (M := 12000) (loose := Law.looseL)
    (d := HandSHeadRun.topDef (OpenLaw.row PySem.Challenge.rw_stairbox_k51_whole_counted_fillings).prog 26) (kwd := []) Law.ob_eq
    (by kernel_rfl) (fun s => by kernel_rfl) Law.run (by kernel_rfl) (by kernel_rfl) (by kernel_rfl) (by rfl) (by first | assumption | decide +kernel) (by decide +kernel) ⟨rfl, rfl, rfl, rfl, rfl, by decide +kernel⟩ ?hw ?hc
  case hw => w_witness2
  case hc =>
    refine L2.walk_ofE (l := PySem.Challenge.rw_stairbox_k51_whole_counted_fillings) (n := 63) (k := 17) (x := "script") (CX := L2.CX0) rfl (by decide) (by kernel_rfl) ⟨rfl, by decide, by decide⟩ ?F (fun _ _ _ _ z => z)
    intro w mg fa h Y G hmg0
    obtain ⟨K, KX, c⟩ := Y
    have hmg : mg ("law" : PySem.Str) = some (.ref fa) := by
      have e : (HandSHeadRun.topDef (OpenLaw.row PySem.Challenge.rw_stairbox_k51_whole_counted_fillings).prog 26).name = ("law" : PySem.Str) := by kernel_rfl
      rw [← e]
      exact hmg0
    obtain ⟨fd, hb, hF⟩ := Law.facts (P := (PySem.Challenge.rw_stairbox_k51_whole_counted_fillings).prog) (w := w) KX G hmg c
    exact ⟨K, fd, fun vs H Q _ => SB.spOf K (fun _ => .none) Law.dn_law vs H Q fun _ _ _ => False, KX, hb, fun H a ns hl _ hS => SB.law_sp Law.pure_law H a ns hl hS, fun base h1 h2 => SB.calm_fn (hF base h1 h2)⟩
