import PyProof.Rows.All
import Wide.All
import OpenK.AllK
import Wide.FinOn
import HandS.Base
import HandS.Call
import HandS.List
import HandS.Comp
import HandS.Ends
import HandS.Dict
import HandS.Iter
import HandS.Walk
import HandS.Words
import HandS.WordsList
import HandS.Exc
import HandS.ExcOwn
import HandS.ExcCtx
import HandS.WordsExc
import HandS.Evl
import KE.DataEq
import HandS.TupAny
import HandS.TupMul
import HandS.Text
import HandS.Style
import HandS.Deep
import KE.DataIsa
import KE.DataAny
import KE.KTupSum
import HandS.Conv
import HandS.Zip
import HandS.Rev
import HandS.RevRange
import KE.GoesMore
import KE.GoesEnum
import HandS.Defaults
import KE.SortData
import KE.SortCalls
import KE.LtData
import HandS.IsInst
import KE.DataMinMax
import KE.KRevSl
import KE.DataFind
import HandS.HeadHook2
import KE.KStateDown
import HandS.More
import HandS.Head0
import HandS.Head1
import HandS.Head2
import HandS.HeadEnd
import HandS.HeadHook1
import PySem.Challenge.RW_stairbox_k70_whole_numbers_of_fillings
set_option Elab.async false
set_option linter.all false
set_option maxRecDepth 100000
set_option maxHeartbeats 8000000
section
set_option Elab.async false
set_option linter.all false
set_option maxRecDepth 100000
set_option maxHeartbeats 2000000
/-! The data layer: denotations over plain data for the hand layer's judgements. -/
noncomputable section
namespace SB
open PySem L2 Evl

abbrev D := PyData

/-- what a piece of code comes to: a thing, an exception (by its number), or: not covered -/
inductive Res (α : Type) where
  | ok (a : α)
  | exc (c : Nat)
  | bad

namespace Res
def bind {α β : Type} : Res α → (α → Res β) → Res β
  | .ok a, f => f a
  | .exc c, _ => .exc c
  | .bad, _ => .bad
@[simp] theorem bind_ok {α β : Type} (a : α) (f : α → Res β) : (Res.ok a).bind f = f a := rfl
@[simp] theorem bind_exc {α β : Type} (c : Nat) (f : α → Res β) : (Res.exc c).bind f = .exc c := rfl
@[simp] theorem bind_bad {α β : Type} (f : α → Res β) : (Res.bad).bind f = .bad := rfl
end Res

/-- what a local name holds: shared data that never changes; a list that is this frame's own -/
inductive LV where
  | dat (d : D)
  | own (ds : List D)
  | ndt (ds : List D)
  | dct (kvs : List (Key × D))
  | dctT (kvs : List (List Key × D))
  | dctL (kvs : List (Key × D))

abbrev DEnv := List (Option LV)

/-! ### heaps: the shared part Hs of H -/
/-- new shared things are old shared things or new ones -/
def Away (Hs H Hs' : Hp) : Prop := ∀ a o, H a = some o → Hs a = none → Hs' a = none
structure Step (Hs H Hs' H' : Hp) : Prop where
  sh : Ex Hs Hs'
  wh : Ex H H'
  sub : Ex Hs' H'
  away : Away Hs H Hs'
theorem Step.refl {Hs H : Hp} (h : Ex Hs H) : Step Hs H Hs H := ⟨Ex.refl _, Ex.refl _, h, fun _ _ _ e => e⟩
theorem Step.trans {Hs H Hs1 H1 Hs2 H2 : Hp} (a : Step Hs H Hs1 H1) (b : Step Hs1 H1 Hs2 H2) : Step Hs H Hs2 H2 :=
  ⟨a.sh.trans b.sh, a.wh.trans b.wh, b.sub, fun x o h e => b.away x o (a.wh x o h) (a.away x o h e)⟩
theorem sub_none {Hs H : Hp} (h : Ex Hs H) {p : Addr} (e : H p = none) : Hs p = none := fresh_back h e
/-- a new shared object -/
theorem Step.new {Hs H : Hp} {p : Addr} {o : HO} (h : Ex Hs H) (e : H p = none) : Step Hs H (upd Hs p o) (upd H p o) := by
  refine ⟨Ex.new (sub_none h e), Ex.new e, ?_, ?_⟩
  · intro a u q
    by_cases hp : a = p
    · subst hp; rw [upd_same] at q ⊢; exact q
    · rw [upd_ne hp] at q ⊢; exact h a u q
  · intro a u q n
    have hp : a ≠ p := ne_of_none q e
    rw [upd_ne hp]; exact n

/-! ### data in a heap -/
variable {K : PySem.W.Frag}
/-- a tuple that may be a dict's key -/
def TAt (H : Hp) (a : Addr) (xs : List V) : Prop := ∃ ob : Obj, H a = some (.frz ob (.tup xs)) ∧ ob.dict = none
theorem tat_of {H : Hp} {a : Addr} {ob : Obj} {xs : List V} (h : H a = some (.frz ob (.tup xs))) (d : ob.dict = none) : TAt H a xs := ⟨ob, h, d⟩
theorem tat_ex {H H' : Hp} {a : Addr} {xs : List V} (e : Ex H H') (h : TAt H a xs) : TAt H' a xs := let ⟨ob, h1, h2⟩ := h; ⟨ob, e _ _ h1, h2⟩
theorem tat_rd {H : Hp} {a : Addr} {xs : List V} (h : TAt H a xs) : Rd H a (.tup xs) := .inr ⟨h.choose, h.choose_spec.1⟩
theorem ex_td {H H' : Hp} {a : Addr} {xs : List V} (e : Ex H H') (h : TAt H a xs) : Rd H' a (.tup xs) := .inr ⟨h.choose, e _ _ h.choose_spec.1⟩
mutual
/-- the value v is the data d, over the heap H -/
inductive Rp (K : PySem.W.Frag) (H : Hp) : V → D → Prop
  | non : Rp K H .non .none
  | bl (b : Bool) : Rp K H (.bl b) (.bool b)
  | int (i : Int) : Rp K H (.int i) (.int i)
  | str (x : Str) : Rp K H (.str x) (.str x)
  | lst {a : Addr} {xs : List V} {ds : List D} : SqL K H a xs → RpAll K H xs ds → Rp K H (.ref a) (.list ds)
  | tup {a : Addr} {xs : List V} {ds : List D} : TAt H a xs → RpAll K H xs ds → Rp K H (.ref a) (.tuple ds)
inductive RpAll (K : PySem.W.Frag) (H : Hp) : List V → List D → Prop
  | nil : RpAll K H [] []
  | cons {v : V} {vs : List V} {d : D} {ds : List D} : Rp K H v d → RpAll K H vs ds → RpAll K H (v :: vs) (d :: ds)
end
mutual
theorem Rp.ex {H H' : Hp} (e : Ex H H') : ∀ {v : V} {d : D}, Rp K H v d → Rp K H' v d
  | _, _, .non => .non
  | _, _, .bl b => .bl b
  | _, _, .int i => .int i
  | _, _, .str x => .str x
  | _, _, .lst h q => .lst (ex_l e h) (RpAll.ex e q)
  | _, _, .tup h q => .tup (tat_ex e h) (RpAll.ex e q)
theorem RpAll.ex {H H' : Hp} (e : Ex H H') : ∀ {vs : List V} {ds : List D}, RpAll K H vs ds → RpAll K H' vs ds
  | _, _, .nil => .nil
  | _, _, .cons h q => .cons (Rp.ex e h) (RpAll.ex e q)
end
mutual
theorem Rp.dp {H : Hp} : ∀ {v : V} {d : D}, Rp K H v d → Dp K H v d
  | _, _, .non => .non
  | _, _, .bl b => .bl b
  | _, _, .int i => .int i
  | _, _, .str x => .str x
  | _, _, .lst h q => .lst h (RpAll.dp q)
  | _, _, .tup h q => .tup (.inl (tat_rd h)) (RpAll.dp q)
theorem RpAll.dp {H : Hp} : ∀ {vs : List V} {ds : List D}, RpAll K H vs ds → DpAll K H vs ds
  | _, _, .nil => .nil
  | _, _, .cons h q => .cons (Rp.dp h) (RpAll.dp q)
end
mutual
theorem Rp.plain {H : Hp} : ∀ {v : V} {d : D}, Rp K H v d → d.plain = true
  | _, _, .non => rfl
  | _, _, .bl _ => rfl
  | _, _, .int _ => rfl
  | _, _, .str _ => rfl
  | _, _, .lst _ q => by simp only [PyData.plain]; exact RpAll.plain q
  | _, _, .tup _ q => by simp only [PyData.plain]; exact RpAll.plain q
theorem RpAll.plain {H : Hp} : ∀ {vs : List V} {ds : List D}, RpAll K H vs ds → PyData.plainAll ds = true
  | _, _, .nil => rfl
  | _, _, .cons h q => by simp only [PyData.plainAll, Rp.plain h, RpAll.plain q, Bool.and_self]
end
theorem RpAll.len {H : Hp} : ∀ {vs : List V} {ds : List D}, RpAll K H vs ds → vs.length = ds.length
  | _, _, .nil => rfl
  | _, _, .cons _ q => by simp [RpAll.len q]
theorem RpAll.append {H : Hp} : ∀ {vs ws : List V} {ds es : List D}, RpAll K H vs ds → RpAll K H ws es → RpAll K H (vs ++ ws) (ds ++ es)
  | _, _, _, _, .nil, q => q
  | _, _, _, _, .cons h r, q => .cons h (RpAll.append r q)
theorem RpAll.get {H : Hp} : ∀ {vs : List V} {ds : List D} {i : Nat} {d : D}, RpAll K H vs ds → ds[i]? = some d → ∃ v, vs[i]? = some v ∧ Rp K H v d
  | _, _, _, _, .nil, e => by simp at e
  | _, _, 0, _, .cons h _, e => by simp at e; subst e; exact ⟨_, rfl, h⟩
  | _, _, i + 1, _, .cons _ r, e => by
    obtain ⟨v, h1, h2⟩ := RpAll.get (i := i) r (by simpa using e)
    exact ⟨v, by simpa using h1, h2⟩
theorem RpAll.getV {H : Hp} : ∀ {vs : List V} {ds : List D} {i : Nat} {v : V}, RpAll K H vs ds → vs[i]? = some v → ∃ d, ds[i]? = some d ∧ Rp K H v d
  | _, _, _, _, .nil, e => by simp at e
  | _, _, 0, _, .cons h _, e => by simp at e; subst e; exact ⟨_, rfl, h⟩
  | _, _, i + 1, _, .cons _ r, e => by
    obtain ⟨v, h1, h2⟩ := RpAll.getV (i := i) r (by simpa using e)
    exact ⟨v, by simpa using h1, h2⟩
theorem RpAll.take {H : Hp} : ∀ {vs : List V} {ds : List D} (n : Nat), RpAll K H vs ds → RpAll K H (vs.take n) (ds.take n)
  | _, _, 0, _ => by simp; exact .nil
  | _, _, _ + 1, .nil => by simp; exact .nil
  | _, _, n + 1, .cons h r => by simp; exact .cons h (RpAll.take n r)
theorem RpAll.drop {H : Hp} : ∀ {vs : List V} {ds : List D} (n : Nat), RpAll K H vs ds → RpAll K H (vs.drop n) (ds.drop n)
  | _, _, 0, q => by simpa using q
  | _, _, _ + 1, .nil => by simp; exact .nil
  | _, _, n + 1, .cons _ r => by simp; exact RpAll.drop n r
theorem RpAll.set {H : Hp} {v : V} {d : D} (h : Rp K H v d) : ∀ {vs : List V} {ds : List D} (n : Nat), RpAll K H vs ds → RpAll K H (vs.set n v) (ds.set n d)
  | _, _, _, .nil => by simp; exact .nil
  | _, _, 0, .cons _ r => by simp; exact .cons h r
  | _, _, n + 1, .cons q r => by simp; exact .cons q (RpAll.set h n r)
theorem RpAll.reverse {H : Hp} : ∀ {vs : List V} {ds : List D}, RpAll K H vs ds → RpAll K H vs.reverse ds.reverse
  | _, _, .nil => .nil
  | _, _, .cons h r => by simp; exact RpAll.append (RpAll.reverse r) (.cons h .nil)
/-- data, or a list of the frame's own -/
def Rep (b : Bool) (K : PySem.W.Frag) (Hs H : Hp) (v : V) (d : D) : Prop :=
  Rp K Hs v d ∨ (b = true ∧ ∃ a ds vs, v = .ref a ∧ d = .list ds ∧ H a = some (.lst vs) ∧ RpAll K Hs vs ds)
theorem Rep.of {b : Bool} {Hs H : Hp} {v : V} {d : D} (h : Rp K Hs v d) : Rep b K Hs H v d := .inl h
theorem Rep.rp {Hs H : Hp} {v : V} {d : D} (h : Rep false K Hs H v d) : Rp K Hs v d := by
  rcases h with h | ⟨h, _⟩
  · exact h
  · cases h
theorem Rep.whole {b : Bool} {Hs H : Hp} {v : V} {d : D} (e : Ex Hs H) (h : Rep b K Hs H v d) : Rp K H v d := by
  rcases h with h | ⟨_, a, ds, vs, rfl, rfl, h1, h2⟩
  · exact Rp.ex e h
  · exact .lst (sq_of h1) (RpAll.ex e h2)
theorem Rep.up {b : Bool} {Hs H : Hp} {v : V} {d : D} (h : Rep b K Hs H v d) : Rep true K Hs H v d := by
  rcases h with h | ⟨_, h⟩
  · exact .inl h
  · exact .inr ⟨rfl, h⟩
theorem Rep.step {b : Bool} {Hs H Hs' H' : Hp} {v : V} {d : D} (s : Step Hs H Hs' H') (h : Rep b K Hs H v d) : Rep b K Hs' H' v d := by
  rcases h with h | ⟨hb, a, ds, vs, rfl, rfl, h1, h2⟩
  · exact .inl (Rp.ex s.sh h)
  · exact .inr ⟨hb, a, ds, vs, rfl, rfl, s.wh _ _ h1, RpAll.ex s.sh h2⟩

/-- several things -/
inductive RpsAll (b : Bool) (K : PySem.W.Frag) (Hs H : Hp) : List V → List D → Prop
  | nil : RpsAll b K Hs H [] []
  | cons {v : V} {vs : List V} {d : D} {ds : List D} : Rep b K Hs H v d → RpsAll b K Hs H vs ds → RpsAll b K Hs H (v :: vs) (d :: ds)
theorem RpsAll.step {b : Bool} {Hs H Hs' H' : Hp} (s : Step Hs H Hs' H') : ∀ {vs : List V} {ds : List D}, RpsAll b K Hs H vs ds → RpsAll b K Hs' H' vs ds
  | _, _, .nil => .nil
  | _, _, .cons h q => .cons (h.step s) (RpsAll.step s q)
theorem RpsAll.rp {Hs H : Hp} : ∀ {vs : List V} {ds : List D}, RpsAll false K Hs H vs ds → RpAll K Hs vs ds
  | _, _, .nil => .nil
  | _, _, .cons h q => .cons h.rp (RpsAll.rp q)
theorem Rep.int {b : Bool} {Hs H : Hp} {v : V} {i : Int} (h : Rep b K Hs H v (.int i)) : v = .int i := by
  rcases h with h | ⟨_, a, ds, vs, _, e, _⟩
  · cases h; rfl
  · cases e
theorem Rep.bool {b : Bool} {Hs H : Hp} {v : V} {i : Bool} (h : Rep b K Hs H v (.bool i)) : v = .bl i := by
  rcases h with h | ⟨_, a, ds, vs, _, e, _⟩
  · cases h; rfl
  · cases e
theorem Rep.str {b : Bool} {Hs H : Hp} {v : V} {i : Str} (h : Rep b K Hs H v (.str i)) : v = .str i := by
  rcases h with h | ⟨_, a, ds, vs, _, e, _⟩
  · cases h; rfl
  · cases e
theorem Rep.none {b : Bool} {Hs H : Hp} {v : V} (h : Rep b K Hs H v .none) : v = .non := by
  rcases h with h | ⟨_, a, ds, vs, _, e, _⟩
  · cases h; rfl
  · cases e
theorem Rep.tuple {b : Bool} {Hs H : Hp} {v : V} {ds : List D} (h : Rep b K Hs H v (.tuple ds)) : ∃ a vs, v = .ref a ∧ TAt Hs a vs ∧ RpAll K Hs vs ds := by
  rcases h with h | ⟨_, a, ds, vs, _, e, _⟩
  · cases h with
    | tup h1 h2 => exact ⟨_, _, rfl, h1, h2⟩
  · cases e
theorem Rep.list {b : Bool} {Hs H : Hp} {v : V} {ds : List D} (e : Ex Hs H) (h : Rep b K Hs H v (.list ds)) : ∃ a vs, v = .ref a ∧ SqL K H a vs ∧ RpAll K Hs vs ds := by
  rcases h with h | ⟨_, a, es, vs, rfl, q, h1, h2⟩
  · cases h with
    | lst h1 h2 => exact ⟨_, _, rfl, ex_l e h1, h2⟩
  · cases q
    exact ⟨a, vs, rfl, sq_of h1, h2⟩

/-! ### what the frame holds -/
/-- entries of a dict -/
inductive RpKs {κ : Type} (K : PySem.W.Frag) (H : Hp) : List (κ × V) → List (κ × D) → Prop
  | nil : RpKs K H [] []
  | cons {k : κ} {v : V} {d : D} {vs : List (κ × V)} {ds : List (κ × D)} : Rp K H v d → RpKs K H vs ds → RpKs K H ((k, v) :: vs) ((k, d) :: ds)
theorem RpKs.ex {κ : Type} {H H' : Hp} (e : Ex H H') : ∀ {vs : List (κ × V)} {ds : List (κ × D)}, RpKs K H vs ds → RpKs K H' vs ds
  | _, _, .nil => .nil
  | _, _, .cons h r => .cons (Rp.ex e h) (RpKs.ex e r)
/-- an object of the frame's own, as its slot tells it -/
def ownR (K : PySem.W.Frag) (Hs : Hp) : LV → HO → Prop
  | .own ds, .lst vs => RpAll K Hs vs ds
  | .dct kvs, .dK ws => RpKs K Hs ws kvs
  | .dctT kvs, .dT ws => RpKs K Hs ws kvs
  | .dctL kvs, .frz _ (.dK ws) => RpKs K Hs ws kvs
  | _, _ => False
def isOwn : LV → Bool
  | .own _ => true
  | .dct _ => true
  | .dctT _ => true
  | .dctL _ => true
  | _ => false
theorem ownR.ex {H H' : Hp} (e : Ex H H') {x : LV} {o : HO} (h : ownR K H x o) : ownR K H' x o := by
  cases x with
  | own ds => cases o <;> first | exact RpAll.ex e h | exact h
  | dct kvs => cases o <;> first | exact RpKs.ex e h | exact h
  | dctT kvs => cases o <;> first | exact RpKs.ex e h | exact h
  | dctL kvs =>
    cases o with
    | frz ob u => cases u <;> first | exact RpKs.ex e h | exact h
    | _ => exact h
  | _ => exact h
/-- a tuple whose object is known to have no names of its own -/
def NdT (K : PySem.W.Frag) (Hs : Hp) (a : Addr) (ds : List D) : Prop := ds = [PyData.int ((a : Nat) : Int)]
theorem NdT.ex {H H' : Hp} (e : Ex H H') {a : Addr} {ds : List D} (h : NdT K H a ds) : NdT K H' a ds := h
structure EnvOk (K : PySem.W.Frag) (Hs0 H0 : Hp) (ρ : DEnv) (σ : L2.St) (Hs H : Hp) : Prop where
  len : ρ.length = σ.length
  sub : Ex Hs H
  sh0 : Ex Hs0 Hs
  wh0 : Ex H0 H
  aw0 : Away Hs0 H0 Hs
  dat : ∀ (i : Nat) (d : D), ρ[i]? = some (some (LV.dat d)) → ∃ v, σ[i]? = some (some v) ∧ Rp K Hs v d
  nd : ∀ (i : Nat) (ds : List D), ρ[i]? = some (some (LV.ndt ds)) → ∃ a, σ[i]? = some (some (V.ref a)) ∧ NdT K Hs a ds
  ow : ∀ (i : Nat) (x : LV), isOwn x = true → ρ[i]? = some (some x) → ∃ a o, σ[i]? = some (some (V.ref a)) ∧ Hs a = none ∧ H0 a = none ∧ H a = some o ∧ ownR K Hs x o
  inj : ∀ (i j : Nat) (x y : LV) (a : Addr), isOwn x = true → isOwn y = true → ρ[i]? = some (some x) → ρ[j]? = some (some y) → σ[i]? = some (some (V.ref a)) → σ[j]? = some (some (V.ref a)) → i = j

section
variable {Hs0 H0 Hs H Hs' H' : Hp} {ρ : DEnv} {σ : L2.St}
theorem EnvOk.own (e : EnvOk K Hs0 H0 ρ σ Hs H) (i : Nat) (ds : List D) (h : ρ[i]? = some (some (LV.own ds))) : ∃ a vs, σ[i]? = some (some (V.ref a)) ∧ Hs a = none ∧ H0 a = none ∧ H a = some (.lst vs) ∧ RpAll K Hs vs ds := by
  obtain ⟨a, o, h1, h2, h3, h4, h5⟩ := e.ow i _ rfl h
  cases o with
  | lst vs => exact ⟨a, vs, h1, h2, h3, h4, h5⟩
  | _ => exact h5.elim
theorem EnvOk.step (e : EnvOk K Hs0 H0 ρ σ Hs H) (s : Step Hs H Hs' H') : EnvOk K Hs0 H0 ρ σ Hs' H' where
  len := e.len
  sub := s.sub
  sh0 := e.sh0.trans s.sh
  wh0 := e.wh0.trans s.wh
  aw0 := fun a o h n => s.away a o (e.wh0 a o h) (e.aw0 a o h n)
  dat := fun i d h => let ⟨v, a, b⟩ := e.dat i d h; ⟨v, a, Rp.ex s.sh b⟩
  nd := fun i d h => let ⟨v, a, b⟩ := e.nd i d h; ⟨v, a, b.ex s.sh⟩
  ow := fun i x hx h => let ⟨a, o, h1, h2, h3, h4, h5⟩ := e.ow i x hx h; ⟨a, o, h1, s.away a _ h4 h2, h3, s.wh _ _ h4, h5.ex s.sh⟩
  inj := e.inj
theorem EnvOk.step0 (e : EnvOk K Hs0 H0 ρ σ Hs H) : Step Hs0 H0 Hs H := ⟨e.sh0, e.wh0, e.sub, e.aw0⟩
/-- fewer things known -/
theorem EnvOk.less {ρ' : DEnv} (e : EnvOk K Hs0 H0 ρ σ Hs H) (hl : ρ'.length = ρ.length) (h : ∀ (i : Nat) (x : LV), ρ'[i]? = some (some x) → ρ[i]? = some (some x)) : EnvOk K Hs0 H0 ρ' σ Hs H where
  len := hl.trans e.len
  sub := e.sub
  sh0 := e.sh0
  wh0 := e.wh0
  aw0 := e.aw0
  dat := fun i d q => e.dat i d (h i _ q)
  nd := fun i d q => e.nd i d (h i _ q)
  ow := fun i x hx q => e.ow i x hx (h i _ q)
  inj := fun i j x y a hx hy p q r s => e.inj i j x y a hx hy (h i _ p) (h j _ q) r s
theorem set_back {i j : Nat} {x y : LV} (h : (ρ.set i (some x))[j]? = some (some y)) : (i = j ∧ i < ρ.length ∧ y = x) ∨ (i ≠ j ∧ ρ[j]? = some (some y)) := by
  by_cases hj : i = j
  · subst hj
    have hlt : i < ρ.length := by
      have := (List.getElem?_eq_some_iff.mp h).1
      simpa using this
    rw [List.getElem?_set_self hlt] at h
    cases h
    exact .inl ⟨rfl, hlt, rfl⟩
  · rw [List.getElem?_set_ne hj] at h
    exact .inr ⟨hj, h⟩
theorem EnvOk.set {i : Nat} {v : V} {d : D} (e : EnvOk K Hs0 H0 ρ σ Hs H) (h : Rp K Hs v d) : EnvOk K Hs0 H0 (ρ.set i (some (.dat d))) (σ.set i (some v)) Hs H where
  len := by simp [e.len]
  sub := e.sub
  sh0 := e.sh0
  wh0 := e.wh0
  aw0 := e.aw0
  dat := fun j d' q => by
    rcases set_back q with ⟨rfl, hl, z⟩ | ⟨hj, q⟩
    · cases z
      exact ⟨v, List.getElem?_set_self (by rw [← e.len]; exact hl), h⟩
    · rw [List.getElem?_set_ne hj]
      exact e.dat j d' q
  nd := fun j d' q => by
    rcases set_back q with ⟨_, _, z⟩ | ⟨hj, q⟩
    · cases z
    · rw [List.getElem?_set_ne hj]
      exact e.nd j d' q
  ow := fun j x hx q => by
    rcases set_back q with ⟨_, _, z⟩ | ⟨hj, q⟩
    · subst z; cases hx
    · rw [List.getElem?_set_ne hj]
      exact e.ow j x hx q
  inj := fun j k x y a hx hy p q r s => by
    rcases set_back p with ⟨_, _, z⟩ | ⟨hj, p⟩
    · subst z; cases hx
    rcases set_back q with ⟨_, _, z⟩ | ⟨hk, q⟩
    · subst z; cases hy
    rw [List.getElem?_set_ne hj] at r
    rw [List.getElem?_set_ne hk] at s
    exact e.inj j k x y a hx hy p q r s
/-- a tuple without names of its own, stored -/
theorem EnvOk.setNd {i : Nat} {a : Addr} {ds : List D} (e : EnvOk K Hs0 H0 ρ σ Hs H) (h : NdT K Hs a ds) : EnvOk K Hs0 H0 (ρ.set i (some (.ndt ds))) (σ.set i (some (.ref a))) Hs H where
  len := by simp [e.len]
  sub := e.sub
  sh0 := e.sh0
  wh0 := e.wh0
  aw0 := e.aw0
  dat := fun j d' q => by
    rcases set_back q with ⟨_, _, z⟩ | ⟨hj, q⟩
    · cases z
    · rw [List.getElem?_set_ne hj]
      exact e.dat j d' q
  nd := fun j d' q => by
    rcases set_back q with ⟨rfl, hl, z⟩ | ⟨hj, q⟩
    · cases z
      exact ⟨a, List.getElem?_set_self (by rw [← e.len]; exact hl), h⟩
    · rw [List.getElem?_set_ne hj]
      exact e.nd j d' q
  ow := fun j x hx q => by
    rcases set_back q with ⟨_, _, z⟩ | ⟨hj, q⟩
    · subst z; cases hx
    · rw [List.getElem?_set_ne hj]
      exact e.ow j x hx q
  inj := fun j k x y b hx hy p q r s => by
    rcases set_back p with ⟨_, _, z⟩ | ⟨hj, p⟩
    · subst z; cases hx
    rcases set_back q with ⟨_, _, z⟩ | ⟨hk, q⟩
    · subst z; cases hy
    rw [List.getElem?_set_ne hj] at r
    rw [List.getElem?_set_ne hk] at s
    exact e.inj j k x y b hx hy p q r s
/-- a new object of the frame's own -/
theorem EnvOk.setObj {i : Nat} {a : Addr} {x : LV} {o : HO} (e : EnvOk K Hs0 H0 ρ σ Hs H) (hx : isOwn x = true) (hp : H a = none) (r : ownR K Hs x o) :
    EnvOk K Hs0 H0 (ρ.set i (some x)) (σ.set i (some (.ref a))) Hs (upd H a o) := by
  have sa : Hs a = none := sub_none e.sub hp
  have oa : H0 a = none := sub_none e.wh0 hp
  have other : ∀ {j : Nat} {y : LV} {c : Addr}, isOwn y = true → ρ[j]? = some (some y) → σ[j]? = some (some (V.ref c)) → c ≠ a := fun {j y c} hy q r => by
    obtain ⟨c', o', h1, h2, h3, h4, h5⟩ := e.ow j y hy q
    rw [r] at h1
    cases h1
    exact ne_of_none h4 hp
  refine ⟨by simp [e.len], Ex.mut e.sub sa, e.sh0, Ex.mut e.wh0 oa, e.aw0, fun j d q => ?_, fun j d q => ?_, fun j y hy q => ?_, fun j k y z c hy hz p q r s => ?_⟩
  · rcases set_back q with ⟨_, _, z⟩ | ⟨hj, q⟩
    · subst z; cases hx
    · rw [List.getElem?_set_ne hj]
      exact e.dat j d q
  · rcases set_back q with ⟨_, _, z⟩ | ⟨hj, q⟩
    · subst z; cases hx
    · rw [List.getElem?_set_ne hj]
      exact e.nd j d q
  · rcases set_back q with ⟨rfl, hl, z⟩ | ⟨hj, q⟩
    · subst z
      exact ⟨a, o, List.getElem?_set_self (by rw [← e.len]; exact hl), sa, oa, upd_same, r⟩
    · rw [List.getElem?_set_ne hj]
      obtain ⟨c, o', h1, h2, h3, h4, h5⟩ := e.ow j y hy q
      exact ⟨c, o', h1, h2, h3, by rw [upd_ne (ne_of_none h4 hp)]; exact h4, h5⟩
  · have mine : ∀ {j : Nat}, i < ρ.length → (σ.set i (some (V.ref a)))[i]? = some (some (V.ref c)) → c = a := fun {j} hl r => by
      rw [List.getElem?_set_self (by rw [← e.len]; exact hl)] at r
      cases r
      rfl
    rcases set_back p with ⟨hj, hl, _⟩ | ⟨hj, p⟩
    · rcases set_back q with ⟨hk, _, _⟩ | ⟨hk, q⟩
      · exact hj.symm.trans hk
      · subst hj
        rw [List.getElem?_set_ne hk] at s
        exact absurd (mine (j := 0) hl r) (other hz q s)
    · rcases set_back q with ⟨hk, hl, _⟩ | ⟨hk, q⟩
      · subst hk
        rw [List.getElem?_set_ne hj] at r
        exact absurd (mine (j := 0) hl s) (other hy p r)
      · rw [List.getElem?_set_ne hj] at r
        rw [List.getElem?_set_ne hk] at s
        exact e.inj j k y z c hy hz p q r s
/-- the own object at slot i becomes another -/
theorem EnvOk.putObj {i : Nat} {a : Addr} {x y : LV} {o : HO} (e : EnvOk K Hs0 H0 ρ σ Hs H) (hx : isOwn x = true) (hy : isOwn y = true) (hr : ρ[i]? = some (some x)) (hs : σ[i]? = some (some (.ref a))) (r : ownR K Hs y o) :
    EnvOk K Hs0 H0 (ρ.set i (some y)) σ Hs (upd H a o) := by
  obtain ⟨a', o', g1, sa, oa, g4, g5⟩ := e.ow i x hx hr
  rw [hs] at g1
  cases g1
  refine ⟨by simp [e.len], Ex.mut e.sub sa, e.sh0, Ex.mut e.wh0 oa, e.aw0, fun j d q => ?_, fun j d q => ?_, fun j z hz q => ?_, fun j k z z' c hz hz' p q r s => ?_⟩
  · rcases set_back q with ⟨_, _, z⟩ | ⟨hj, q⟩
    · subst z; cases hy
    · exact e.dat j d q
  · rcases set_back q with ⟨_, _, z⟩ | ⟨hj, q⟩
    · subst z; cases hy
    · exact e.nd j d q
  · rcases set_back q with ⟨rfl, hl, w⟩ | ⟨hj, q⟩
    · subst w
      exact ⟨a, o, hs, sa, oa, upd_same, r⟩
    · obtain ⟨c, o2, h1, h2, h3, h4, h5⟩ := e.ow j z hz q
      have : c ≠ a := fun w => by
        subst w
        exact hj (e.inj i j x z c hx hz hr q hs h1)
      exact ⟨c, o2, h1, h2, h3, by rw [upd_ne this]; exact h4, h5⟩
  · have back : ∀ {j : Nat} {z : LV}, isOwn z = true → (ρ.set i (some y))[j]? = some (some z) → ∃ z', isOwn z' = true ∧ ρ[j]? = some (some z') := fun {j z} hz q => by
      rcases set_back q with ⟨rfl, _, _⟩ | ⟨_, q⟩
      · exact ⟨x, hx, hr⟩
      · exact ⟨z, hz, q⟩
    obtain ⟨f1, o1, p1⟩ := back hz p
    obtain ⟨f2, o2, p2⟩ := back hz' q
    exact e.inj j k f1 f2 c o1 o2 p1 p2 r s
end

/-- a slot's thing; a slot stored (by the recursors themselves: the kernel runs these) -/
def lk (ρ : DEnv) (n : Nat) : Option LV := List.rec (motive := fun _ => Nat → Option LV) (fun _ => none) (fun a _ ih n => Nat.rec (motive := fun _ => Option LV) a (fun m _ => ih m) n) ρ n
def st (ρ : DEnv) (n : Nat) (v : Option LV) : DEnv := List.rec (motive := fun _ => Nat → DEnv) (fun _ => []) (fun a r ih n => Nat.rec (motive := fun _ => DEnv) (v :: r) (fun m _ => a :: ih m) n) ρ n
@[simp] theorem lk_nil (n : Nat) : lk [] n = none := rfl
@[simp] theorem lk_zero (a : Option LV) (r : DEnv) : lk (a :: r) 0 = a := rfl
@[simp] theorem lk_succ (a : Option LV) (r : DEnv) (n : Nat) : lk (a :: r) (n + 1) = lk r n := rfl
@[simp] theorem st_nil (n : Nat) (v : Option LV) : st [] n v = [] := rfl
@[simp] theorem st_zero (a : Option LV) (r : DEnv) (v : Option LV) : st (a :: r) 0 v = v :: r := rfl
@[simp] theorem st_succ (a : Option LV) (r : DEnv) (n : Nat) (v : Option LV) : st (a :: r) (n + 1) v = a :: st r n v := rfl
theorem st_eq : ∀ (ρ : DEnv) (n : Nat) (v : Option LV), st ρ n v = ρ.set n v
  | [], _, _ => rfl
  | _ :: _, 0, _ => rfl
  | a :: r, n + 1, v => by rw [st_succ, st_eq r n v]; rfl
theorem lk_some : ∀ {ρ : DEnv} {n : Nat} {x : LV}, lk ρ n = some x → ρ[n]? = some (some x)
  | [], _, _, h => by cases h
  | _ :: _, 0, _, h => by rw [lk_zero] at h; rw [h]; rfl
  | a :: r, n + 1, x, h => by
    rw [lk_succ] at h
    rw [List.getElem?_cons_succ]
    exact lk_some h
/-- some slots forgotten -/
def kill (ρ : DEnv) (vs : List Nat) : DEnv := List.rec (motive := fun _ => DEnv) ρ (fun v _ ih => st ih v none) vs
@[simp] theorem kill_nil (ρ : DEnv) : kill ρ [] = ρ := rfl
@[simp] theorem kill_cons (ρ : DEnv) (v : Nat) (vs : List Nat) : kill ρ (v :: vs) = st (kill ρ vs) v none := rfl
theorem kill_length (ρ : DEnv) : ∀ vs : List Nat, (kill ρ vs).length = ρ.length
  | [] => rfl
  | v :: vs => by rw [kill_cons, st_eq, List.length_set, kill_length ρ vs]
theorem kill_some {ρ : DEnv} {i : Nat} {x : LV} : ∀ {vs : List Nat}, (kill ρ vs)[i]? = some (some x) → ρ[i]? = some (some x) ∧ i ∉ vs
  | [], h => ⟨h, by simp⟩
  | v :: vs, h => by
    rw [kill_cons, st_eq] at h
    by_cases e : v = i
    · subst e
      have hlt : v < (kill ρ vs).length := by
        have := (List.getElem?_eq_some_iff.mp h).1
        simpa using this
      rw [List.getElem?_set_self hlt] at h
      cases h
    · rw [List.getElem?_set_ne e] at h
      obtain ⟨a, b⟩ := kill_some h
      exact ⟨a, by simp [b, Ne.symm e]⟩
theorem wipe_get {σ : L2.St} {i : Nat} : ∀ {vs : List Nat}, i ∉ vs → (wipe σ vs)[i]? = σ[i]?
  | [], _ => rfl
  | v :: vs, h => by
    have h1 : v ≠ i := fun z => h (by simp [z])
    have h2 : i ∉ vs := fun z => h (by simp [z])
    unfold wipe
    rw [List.getElem?_set_ne h1]
    exact wipe_get h2
section
variable {Hs0 H0 Hs H Hs' H' : Hp} {ρ : DEnv} {σ : L2.St}
theorem EnvOk.kill (e : EnvOk K Hs0 H0 ρ σ Hs H) (vs : List Nat) : EnvOk K Hs0 H0 (kill ρ vs) σ Hs H := e.less (kill_length ρ vs) fun _ _ h => (kill_some h).1
theorem EnvOk.wipe (e : EnvOk K Hs0 H0 ρ σ Hs H) (vs : List Nat) : EnvOk K Hs0 H0 (SB.kill ρ vs) (L2.wipe σ vs) Hs H where
  len := by rw [kill_length, wipe_length, e.len]
  sub := e.sub
  sh0 := e.sh0
  wh0 := e.wh0
  aw0 := e.aw0
  dat := fun i d q => by
    obtain ⟨h1, h2⟩ := kill_some q
    rw [wipe_get h2]
    exact e.dat i d h1
  nd := fun i d q => by
    obtain ⟨h1, h2⟩ := kill_some q
    rw [wipe_get h2]
    exact e.nd i d h1
  ow := fun i x hx q => by
    obtain ⟨h1, h2⟩ := kill_some q
    rw [wipe_get h2]
    exact e.ow i x hx h1
  inj := fun i j x y a hx hy p q r s => by
    obtain ⟨h1, h2⟩ := kill_some p
    obtain ⟨h3, h4⟩ := kill_some q
    rw [wipe_get h2] at r
    rw [wipe_get h4] at s
    exact e.inj i j x y a hx hy h1 h3 r s
end
end SB
end
end

section
set_option Elab.async false
set_option linter.all false
set_option maxRecDepth 100000
set_option maxHeartbeats 2000000
noncomputable section
namespace SB
open PySem PySem.Spec L2 Evl PyProof.Rows

/-! ### what is wanted behind a piece of code -/
abbrev WD := Nat → L2.St → Hp → Prop
def W0 : WD := fun _ _ _ => False
def PostA {α : Type} (W : WD) (σ : L2.St) (Hs H : Hp) (K : α → Hp → Hp → Prop) : Res α → Prop
  | .ok a => ∀ Hs' H', Step Hs H Hs' H' → K a Hs' H'
  | .exc c => ∀ Hs' H', Step Hs H Hs' H' → W c σ H'
  | .bad => False
section
variable {α β : Type} {W : WD} {σ : L2.St} {Hs H Hs' H' : Hp} {K K' : α → Hp → Hp → Prop} {r : Res α}
theorem PostA.step (s : Step Hs H Hs' H') (h : PostA W σ Hs H K r) : PostA W σ Hs' H' K r := by
  cases r with
  | ok a => exact fun _ _ s' => h _ _ (s.trans s')
  | exc c => exact fun _ _ s' => h _ _ (s.trans s')
  | bad => exact h
theorem PostA.mono (h : PostA W σ Hs H K r) (k : ∀ a Hs' H', Step Hs H Hs' H' → K a Hs' H' → K' a Hs' H') : PostA W σ Hs H K' r := by
  cases r with
  | ok a => exact fun _ _ s' => k _ _ _ s' (h _ _ s')
  | exc c => exact h
  | bad => exact h
theorem PostA.bind {f : α → Res β} {K : β → Hp → Hp → Prop} (h : PostA W σ Hs H K (r.bind f)) : PostA W σ Hs H (fun a Hs' H' => PostA W σ Hs' H' K (f a)) r := by
  cases r with
  | ok a => exact fun _ _ s' => PostA.step s' (show PostA W σ Hs H K (f a) from h)
  | exc c => exact h
  | bad => exact h
theorem PostA.now {a : α} (e : Ex Hs H) (h : PostA W σ Hs H K (.ok a)) : K a Hs H := h Hs H (Step.refl e)
end
/-- .. behind an expression -/
abbrev Post (K : PySem.W.Frag) (b : Bool) (W : WD) (σ : L2.St) (Hs H : Hp) (Q : VK) : Res D → Prop := PostA W σ Hs H fun d Hs' H' => ∀ v, Rep b K Hs' H' v d → Q v H'

structure DE (X : Cx) (W : WD) (b : Bool) (e : Expr) (f : DEnv → Res D) : Prop where
  ex : ∃ t : TE, PE X e t ∧ ∀ Hs0 H0 ρ σ Hs H Q, EnvOk X.K Hs0 H0 ρ σ Hs H → Post X.K b W σ Hs H Q (f ρ) → t σ H Q
structure DT (X : Cx) (W : WD) (e : Expr) (f : DEnv → Res Bool) : Prop where
  ex : ∃ t : TT, PT X e t ∧ ∀ Hs0 H0 ρ σ Hs H Q, EnvOk X.K Hs0 H0 ρ σ Hs H → PostA W σ Hs H (fun b _ H' => Q b H') (f ρ) → t σ H Q
/-- a test whatever its whole is -/
structure DW (X : Cx) (W : WD) (e : Expr) (f : DEnv → Res Bool) : Prop where
  ex : ∃ t : TT, PW X e t ∧ ∀ Hs0 H0 ρ σ Hs H Q, EnvOk X.K Hs0 H0 ρ σ Hs H → PostA W σ Hs H (fun b _ H' => Q b H') (f ρ) → t σ H Q
structure DA (X : Cx) (W : WD) (b : Bool) (es : List Expr) (f : DEnv → Res (List D)) : Prop where
  ex : ∃ t : TA, PA X es t ∧ ∀ Hs0 H0 ρ σ Hs H Q, EnvOk X.K Hs0 H0 ρ σ Hs H → PostA W σ Hs H (fun ds Hs' H' => ∀ vs, RpsAll b X.K Hs' H' vs ds → Q vs H') (f ρ) → t σ H Q

/-! ### expressions -/
section
variable {X : Cx} {W : WD} {b bb : Bool} {a c e : Expr} {fa fb f : DEnv → Res D} {pos : Pos}
theorem DE.up (h : DE X W b e f) : DE X W true e f := by
  obtain ⟨t, p, q⟩ := h.ex
  exact ⟨t, p, fun Hs0 H0 ρ σ Hs H Q e hp => q Hs0 H0 ρ σ Hs H Q e (hp.mono fun d Hs' H' _ k v r => k v r.up)⟩
theorem DE.any (h : DE X W false e f) : DE X W b e f := by
  obtain ⟨t, p, q⟩ := h.ex
  exact ⟨t, p, fun Hs0 H0 ρ σ Hs H Q e hp => q Hs0 H0 ρ σ Hs H Q e (hp.mono fun d Hs' H' _ k v r => k v (.inl r.rp))⟩

/-- a name -/
def xVar (i : Nat) : DEnv → Res D := fun ρ => match lk ρ i with
  | some (.dat d) => .ok d
  | _ => .bad
def xOwn (i : Nat) : DEnv → Res D := fun ρ => match lk ρ i with
  | some (.own ds) => .ok (.list ds)
  | _ => .bad
theorem de_var (i : Nat) {x : Str} (hN : X.N[i]? = some x := by rfl) (hv : Vis X.env.scope x := by first | exact Or.inl rfl | exact Or.inr (Or.inl rfl) | exact Or.inr (Or.inr rfl)) (hd : (x == ("__debug__" : Str)) = false := by decide)
    (hcd : (x == ("__classdict__" : Str)) = false := by decide) : DE X W b (.Name x pos) (xVar i) := by
  refine ⟨tVar i, pe_var hN hv hd hcd, fun Hs0 H0 ρ σ Hs H Q e hp => ?_⟩
  unfold xVar at hp
  split at hp
  · rename_i d h
    obtain ⟨v, h1, h2⟩ := e.dat i d (lk_some h)
    exact ⟨v, h1, hp.now e.sub v (.of h2)⟩
  · exact hp.elim
theorem de_own (i : Nat) {x : Str} (hN : X.N[i]? = some x := by rfl) (hv : Vis X.env.scope x := by first | exact Or.inl rfl | exact Or.inr (Or.inl rfl) | exact Or.inr (Or.inr rfl)) (hd : (x == ("__debug__" : Str)) = false := by decide)
    (hcd : (x == ("__classdict__" : Str)) = false := by decide) : DE X W true (.Name x pos) (xOwn i) := by
  refine ⟨tVar i, pe_var hN hv hd hcd, fun Hs0 H0 ρ σ Hs H Q e hp => ?_⟩
  unfold xOwn at hp
  split at hp
  · rename_i ds h
    obtain ⟨a, vs, h1, h2, h3, h4, h5⟩ := e.own i ds (lk_some h)
    exact ⟨_, h1, hp.now e.sub _ (.inr ⟨rfl, a, ds, vs, rfl, rfl, h4, h5⟩)⟩
  · exact hp.elim
def xC (d : D) : DEnv → Res D := fun _ => .ok d
theorem de_c {v : V} {d : D} (h : PE X e (tC v)) (r : ∀ H, Rp X.K H v d) : DE X W b e (xC d) :=
  ⟨tC v, h, fun Hs0 H0 ρ σ Hs H Q e hp => hp.now e.sub v (.of (r Hs))⟩
theorem de_int {i : Int} {j : Nat} : DE X W b (.Constant (.int i) j pos) (xC (.int i)) := de_c pe_int fun _ => .int i
theorem de_bl {i : Bool} {j : Nat} : DE X W b (.Constant (.bool i) j pos) (xC (.bool i)) := de_c pe_bl fun _ => .bl i
theorem de_non {j : Nat} : DE X W b (.Constant .none j pos) (xC .none) := de_c pe_non fun _ => .non
theorem de_str {x : Str} {j : Nat} : DE X W b (.Constant (.str x) j pos) (xC (.str x)) := de_c pe_str fun _ => .str x
/-- a constant of the module -/
theorem de_glob {x : Str} {v : V} {d : D} {u : Value} (hg : Gl X x) (hm : X.mg x = some u) (r : RelV v u) (q : ∀ H, Rp X.K H v d) (hd : (x == ("__debug__" : Str)) = false := by decide) : DE X W b (.Name x pos) (xC d) := de_c (pe_glob hg hm r hd) q

/-- two-place operations by values -/
structure OpD (X : Cx) (F : Value → Value → Sem Value) (g : D → D → Res D) : Prop where
  ex : ∃ r : R2, OpR X F r ∧ ∀ (W : WD) (σ : L2.St) (Hs H : Hp) (x y : V) (a c : D) (Q : VK), Ex Hs H → Rep true X.K Hs H x a → Rep true X.K Hs H y c → Post X.K false W σ Hs H Q (g a c) → r x y H Q
def xOp (g : D → D → Res D) (fa fb : DEnv → Res D) : DEnv → Res D := fun ρ => (fa ρ).bind fun x => (fb ρ).bind fun y => g x y
theorem op_read {F : Value → Value → Sem Value} {g : D → D → Res D} {ta tb : TE} {r : R2} {ρ : DEnv} {σ : L2.St} {Hs0 H0 Hs H : Hp} {Q : VK}
    (hr : ∀ (W : WD) (σ : L2.St) (Hs H : Hp) (x y : V) (a c : D) (Q : VK), Ex Hs H → Rep true X.K Hs H x a → Rep true X.K Hs H y c → Post X.K false W σ Hs H Q (g a c) → r x y H Q)
    (ha : ∀ Hs0 H0 ρ σ Hs H Q, EnvOk X.K Hs0 H0 ρ σ Hs H → Post X.K true W σ Hs H Q (fa ρ) → ta σ H Q) (hb : ∀ Hs0 H0 ρ σ Hs H Q, EnvOk X.K Hs0 H0 ρ σ Hs H → Post X.K true W σ Hs H Q (fb ρ) → tb σ H Q)
    (e : EnvOk X.K Hs0 H0 ρ σ Hs H) (h : Post X.K bb W σ Hs H Q (xOp g fa fb ρ)) : tOp r ta tb σ H Q := by
  have h' : Post X.K false W σ Hs H Q (xOp g fa fb ρ) := h.mono fun d Hs' H' _ k v rv => k v (.inl rv.rp)
  refine ha _ _ ρ σ Hs H _ e (h'.bind.mono fun x Hs1 H1 s1 h1 v rv => ?_)
  refine hb _ _ ρ σ Hs1 H1 _ (e.step s1) (h1.bind.mono fun y Hs2 H2 s2 h2 u ru => ?_)
  exact hr W σ Hs2 H2 v u x y Q s2.sub (rv.step s2) ru h2
theorem de_op {op : Operator} {g : D → D → Res D} (ho : OpD X (binaryOp op) g) (ha : DE X W true a fa) (hb : DE X W true c fb) : DE X W b (.BinOp a op c pos) (xOp g fa fb) := by
  obtain ⟨r, hor, hr⟩ := ho.ex
  obtain ⟨ta, pa, ha⟩ := ha.ex
  obtain ⟨tb, pb, hb⟩ := hb.ex
  exact ⟨tOp r ta tb, pe_op hor pa pb, fun Hs0 H0 ρ σ Hs H Q e h => op_read (F := binaryOp op) hr ha hb e h⟩
theorem de_cmp {op : CmpOp} {g : D → D → Res D} (ho : OpD X (compareOp op) g) (ha : DE X W true a fa) (hb : DE X W true c fb) (hm : behindInMarks op c = false) : DE X W b (.Compare a [op] [c] pos) (xOp g fa fb) := by
  obtain ⟨r, hor, hr⟩ := ho.ex
  obtain ⟨ta, pa, ha⟩ := ha.ex
  obtain ⟨tb, pb, hb⟩ := hb.ex
  exact ⟨tOp r ta tb, pe_cmpR hor pa pb hm, fun Hs0 H0 ρ σ Hs H Q e h => op_read (F := compareOp op) hr ha hb e h⟩
/-- a truth's bit -/
def asB : D → Res Bool
  | .bool k => .ok k
  | _ => .bad
def xB (f : DEnv → Res D) : DEnv → Res Bool := fun ρ => (f ρ).bind asB
theorem asB_post {σ : L2.St} {Hs H : Hp} {Q : Bool → Hp → Prop} {r : Res D} (h : PostA W σ Hs H (fun k _ H' => Q k H') (r.bind asB)) : Post X.K true W σ Hs H (fun x H' => ∃ k, x = .bl k ∧ Q k H') r := by
  refine h.bind.mono fun d Hs' H' s k v rv => ?_
  cases d with
  | bool i =>
    have := rv.bool
    subst this
    exact ⟨i, rfl, k.now s.sub⟩
  | _ => exact k.elim
theorem dt_cmp {op : CmpOp} {g : D → D → Res D} (ho : OpD X (compareOp op) g) (ha : DE X W true a fa) (hb : DE X W true c fb) (hm : behindInMarks op c = false) : DT X W (.Compare a [op] [c] pos) (xB (xOp g fa fb)) := by
  obtain ⟨r, hor, hr⟩ := ho.ex
  obtain ⟨ta, pa, ha⟩ := ha.ex
  obtain ⟨tb, pb, hb⟩ := hb.ex
  exact ⟨tTest (tOp r ta tb), pt_cmpR hor pa pb hm, fun Hs0 H0 ρ σ Hs H Q e h => op_read (F := compareOp op) hr ha hb e (asB_post h)⟩
/-- a value as a test -/
theorem dt_val (h : DE X W b e f) (he : ∀ whole, isTrue e X.env whole = (do let v ← whole; standAt e.pos; holding [v] (truthy v)) := by intro _; rfl) : DT X W e (xB f) := by
  obtain ⟨t, p, q⟩ := h.up.ex
  exact ⟨tB t, pt_val p he, fun Hs0 H0 ρ σ Hs H Q e h => q Hs0 H0 ρ σ Hs H _ e (asB_post h)⟩
/-- a op b op' c -/
def xChain (g g' : D → D → Res D) (fa fb fc : DEnv → Res D) : DEnv → Res D := fun ρ => (fa ρ).bind fun x => (fb ρ).bind fun y => (g x y).bind fun z => (asB z).bind fun k => if k = true then (fc ρ).bind fun w => g' y w else .ok (.bool false)
theorem chain_read {g g' : D → D → Res D} {ta tb tc : TE} {r r' : R2} {fc : DEnv → Res D} {ρ : DEnv} {σ : L2.St} {Hs0 H0 Hs H : Hp} {Q : VK}
    (hr : ∀ (W : WD) (σ : L2.St) (Hs H : Hp) (x y : V) (a c : D) (Q : VK), Ex Hs H → Rep true X.K Hs H x a → Rep true X.K Hs H y c → Post X.K false W σ Hs H Q (g a c) → r x y H Q)
    (hr' : ∀ (W : WD) (σ : L2.St) (Hs H : Hp) (x y : V) (a c : D) (Q : VK), Ex Hs H → Rep true X.K Hs H x a → Rep true X.K Hs H y c → Post X.K false W σ Hs H Q (g' a c) → r' x y H Q)
    (ha : ∀ Hs0 H0 ρ σ Hs H Q, EnvOk X.K Hs0 H0 ρ σ Hs H → Post X.K true W σ Hs H Q (fa ρ) → ta σ H Q) (hb : ∀ Hs0 H0 ρ σ Hs H Q, EnvOk X.K Hs0 H0 ρ σ Hs H → Post X.K true W σ Hs H Q (fb ρ) → tb σ H Q)
    (hc : ∀ Hs0 H0 ρ σ Hs H Q, EnvOk X.K Hs0 H0 ρ σ Hs H → Post X.K true W σ Hs H Q (fc ρ) → tc σ H Q)
    (e : EnvOk X.K Hs0 H0 ρ σ Hs H) (h : Post X.K bb W σ Hs H Q (xChain g g' fa fb fc ρ)) : tChain r r' ta tb tc σ H Q := by
  have h' : Post X.K false W σ Hs H Q (xChain g g' fa fb fc ρ) := h.mono fun d Hs' H' _ k v rv => k v (.inl rv.rp)
  refine ha _ _ ρ σ Hs H _ e (h'.bind.mono fun x Hs1 H1 s1 h1 v rv => ?_)
  refine hb _ _ ρ σ Hs1 H1 _ (e.step s1) (h1.bind.mono fun y Hs2 H2 s2 h2 u ru => ?_)
  refine hr W σ Hs2 H2 v u x y _ s2.sub (rv.step s2) ru (h2.bind.mono fun z Hs3 H3 s3 h3 zv rz => ?_)
  cases z with
  | bool k =>
    have := rz.bool
    subst this
    refine ⟨k, rfl, ?_⟩
    have h3 : Post X.K false W σ Hs3 H3 Q (if k = true then (fc ρ).bind fun w => g' y w else .ok (.bool false)) := h3
    cases k with
    | true =>
      show tc σ H3 _
      refine hc _ _ ρ σ Hs3 H3 _ ((e.step (s1.trans s2)).step s3) (PostA.bind (f := fun w => g' y w) h3 |>.mono fun w Hs4 H4 s4 h4 wv rw => ?_)
      exact hr' W σ Hs4 H4 u wv y w Q s4.sub ((ru.step s3).step s4) rw h4
    | false =>
      show Q (.bl false) H3
      exact h3.now s3.sub _ (.of (.bl false))
  | _ => exact h3.elim
theorem de_chain {op op' : CmpOp} {d : Expr} {g g' : D → D → Res D} {fc : DEnv → Res D} (ho : OpD X (compareOp op) g) (ho' : OpD X (compareOp op') g') (ha : DE X W true a fa) (hb : DE X W true c fb) (hc : DE X W true d fc)
    (hm : lastMarks [op, op'] [c, d] = false := by with_unfolding_all rfl) : DE X W b (.Compare a [op, op'] [c, d] pos) (xChain g g' fa fb fc) := by
  obtain ⟨r, hor, hr⟩ := ho.ex
  obtain ⟨r', hor', hr'⟩ := ho'.ex
  obtain ⟨ta, pa, ha⟩ := ha.ex
  obtain ⟨tb, pb, hb⟩ := hb.ex
  obtain ⟨tc, pc, hc⟩ := hc.ex
  exact ⟨tChain r r' ta tb tc, pe_chain hor hor' pa pb pc hm, fun Hs0 H0 ρ σ Hs H Q e h => chain_read hr hr' ha hb hc e h⟩
theorem dt_chain {op op' : CmpOp} {d : Expr} {g g' : D → D → Res D} {fc : DEnv → Res D} (ho : OpD X (compareOp op) g) (ho' : OpD X (compareOp op') g') (ha : DE X W true a fa) (hb : DE X W true c fb) (hc : DE X W true d fc)
    (hm : lastMarks [op, op'] [c, d] = false := by with_unfolding_all rfl) : DT X W (.Compare a [op, op'] [c, d] pos) (xB (xChain g g' fa fb fc)) := by
  obtain ⟨r, hor, hr⟩ := ho.ex
  obtain ⟨r', hor', hr'⟩ := ho'.ex
  obtain ⟨ta, pa, ha⟩ := ha.ex
  obtain ⟨tb, pb, hb⟩ := hb.ex
  obtain ⟨tc, pc, hc⟩ := hc.ex
  exact ⟨tTest (tChain r r' ta tb tc), pt_chain hor hor' pa pb pc hm, fun Hs0 H0 ρ σ Hs H Q e h => chain_read hr hr' ha hb hc e (asB_post h)⟩

/-! ### and, or, not -/
variable {rest : List Expr} {ga gb : DEnv → Res Bool}
def xAnd (ga gb : DEnv → Res Bool) : DEnv → Res Bool := fun ρ => (ga ρ).bind fun k => if k = true then gb ρ else .ok false
def xOr (ga gb : DEnv → Res Bool) : DEnv → Res Bool := fun ρ => (ga ρ).bind fun k => if k = true then .ok true else gb ρ
def xNot (ga : DEnv → Res Bool) : DEnv → Res Bool := fun ρ => (ga ρ).bind fun k => .ok (!k)
theorem dw_and1 (h : DT X W a ga) : DW X W (.BoolOp .And [a] pos) ga := by
  obtain ⟨t, p, q⟩ := h.ex
  exact ⟨t, pw_and1 p, q⟩
theorem dw_or1 (h : DT X W a ga) : DW X W (.BoolOp .Or [a] pos) ga := by
  obtain ⟨t, p, q⟩ := h.ex
  exact ⟨t, pw_or1 p, q⟩
theorem dw_and (h : DT X W a ga) (h2 : DW X W (.BoolOp .And (c :: rest) pos) gb) : DW X W (.BoolOp .And (a :: c :: rest) pos) (xAnd ga gb) := by
  obtain ⟨t, p, q⟩ := h.ex
  obtain ⟨t2, p2, q2⟩ := h2.ex
  refine ⟨tAnd t t2, pw_and p p2, fun Hs0 H0 ρ σ Hs H Q e h => ?_⟩
  refine q _ _ ρ σ Hs H _ e (h.bind.mono fun k Hs1 H1 s1 h1 => ?_)
  cases k with
  | true => exact q2 _ _ ρ σ Hs1 H1 _ (e.step s1) h1
  | false => exact h1.now s1.sub
theorem dw_or (h : DT X W a ga) (h2 : DW X W (.BoolOp .Or (c :: rest) pos) gb) : DW X W (.BoolOp .Or (a :: c :: rest) pos) (xOr ga gb) := by
  obtain ⟨t, p, q⟩ := h.ex
  obtain ⟨t2, p2, q2⟩ := h2.ex
  refine ⟨tOr t t2, pw_or p p2, fun Hs0 H0 ρ σ Hs H Q e h => ?_⟩
  refine q _ _ ρ σ Hs H _ e (h.bind.mono fun k Hs1 H1 s1 h1 => ?_)
  cases k with
  | true => exact h1.now s1.sub
  | false => exact q2 _ _ ρ σ Hs1 H1 _ (e.step s1) h1
theorem DW.t (h : DW X W e ga) : DT X W e ga := by
  obtain ⟨t, p, q⟩ := h.ex
  exact ⟨t, p.pt, q⟩
theorem dt_not (h : DT X W a ga) : DT X W (.UnaryOp .Not a pos) (xNot ga) := by
  obtain ⟨t, p, q⟩ := h.ex
  refine ⟨tNot t, pt_not p, fun Hs0 H0 ρ σ Hs H Q e h => ?_⟩
  exact q _ _ ρ σ Hs H _ e (h.bind.mono fun k Hs1 H1 s1 h1 => h1.now s1.sub)
/-- as values -/
def xAndV (fa fb : DEnv → Res D) : DEnv → Res D := fun ρ => (fa ρ).bind fun x => (asB x).bind fun k => if k = true then fb ρ else .ok (.bool false)
def xOrV (fa fb : DEnv → Res D) : DEnv → Res D := fun ρ => (fa ρ).bind fun x => (asB x).bind fun k => if k = true then .ok (.bool true) else fb ρ
def xNotV (fa : DEnv → Res D) : DEnv → Res D := fun ρ => (fa ρ).bind fun x => (asB x).bind fun k => .ok (.bool (!k))
theorem de_one {op : BoolOp} (h : DE X W b a fa) : DE X W b (.BoolOp op [a] pos) fa := by
  obtain ⟨t, p, q⟩ := h.ex
  exact ⟨t, pe_one p, q⟩
theorem de_and (h : DE X W true a fa) (h2 : DE X W b (.BoolOp .And (c :: rest) pos) fb) : DE X W b (.BoolOp .And (a :: c :: rest) pos) (xAndV fa fb) := by
  obtain ⟨t, p, q⟩ := h.ex
  obtain ⟨t2, p2, q2⟩ := h2.ex
  refine ⟨tAndV t t2, pe_and p p2, fun Hs0 H0 ρ σ Hs H Q e h => ?_⟩
  refine q _ _ ρ σ Hs H _ e (h.bind.mono fun x Hs1 H1 s1 h1 v rv => ?_)
  cases x with
  | bool k =>
    have := rv.bool
    subst this
    refine ⟨k, rfl, ?_⟩
    cases k with
    | true => exact q2 _ _ ρ σ Hs1 H1 _ (e.step s1) h1
    | false => exact h1.now s1.sub _ (.of (.bl false))
  | _ => exact h1.elim
theorem de_or (h : DE X W true a fa) (h2 : DE X W b (.BoolOp .Or (c :: rest) pos) fb) : DE X W b (.BoolOp .Or (a :: c :: rest) pos) (xOrV fa fb) := by
  obtain ⟨t, p, q⟩ := h.ex
  obtain ⟨t2, p2, q2⟩ := h2.ex
  refine ⟨tOrV t t2, pe_or p p2, fun Hs0 H0 ρ σ Hs H Q e h => ?_⟩
  refine q _ _ ρ σ Hs H _ e (h.bind.mono fun x Hs1 H1 s1 h1 v rv => ?_)
  cases x with
  | bool k =>
    have := rv.bool
    subst this
    refine ⟨k, rfl, ?_⟩
    cases k with
    | true => exact h1.now s1.sub _ (.of (.bl true))
    | false => exact q2 _ _ ρ σ Hs1 H1 _ (e.step s1) h1
  | _ => exact h1.elim
theorem de_not (h : DE X W true a fa) : DE X W b (.UnaryOp .Not a pos) (xNotV fa) := by
  obtain ⟨t, p, q⟩ := h.ex
  refine ⟨tNotV t, pe_not p, fun Hs0 H0 ρ σ Hs H Q e h => ?_⟩
  refine q _ _ ρ σ Hs H _ e (h.bind.mono fun x Hs1 H1 s1 h1 v rv => ?_)
  cases x with
  | bool k =>
    have := rv.bool
    subst this
    exact ⟨k, rfl, h1.now s1.sub _ (.of (.bl _))⟩
  | _ => exact h1.elim
/-- -a -/
def negD : D → Res D
  | .int i => .ok (.int (-i))
  | _ => .bad
def xNeg (fa : DEnv → Res D) : DEnv → Res D := fun ρ => (fa ρ).bind negD
theorem de_neg (h : DE X W true a fa) : DE X W b (.UnaryOp .USub a pos) (xNeg fa) := by
  obtain ⟨t, p, q⟩ := h.ex
  refine ⟨tUn (rU fun i => .int (-i)) t, pe_un un_neg p, fun Hs0 H0 ρ σ Hs H Q e h => ?_⟩
  refine q _ _ ρ σ Hs H _ e (h.bind.mono fun x Hs1 H1 s1 h1 v rv => ?_)
  cases x with
  | int i =>
    have := rv.int
    subst this
    exact ⟨i, rfl, h1.now s1.sub _ (.of (.int _))⟩
  | _ => exact h1.elim

/-! ### several expressions, displays -/
variable {es : List Expr} {fs : DEnv → Res (List D)}
def xNil : DEnv → Res (List D) := fun _ => .ok []
def xCons (fa : DEnv → Res D) (fs : DEnv → Res (List D)) : DEnv → Res (List D) := fun ρ => (fa ρ).bind fun x => (fs ρ).bind fun xs => .ok (x :: xs)
theorem da_nil : DA X W b [] xNil := ⟨tNil, pa_nil, fun Hs0 H0 ρ σ Hs H Q e h => h.now e.sub [] .nil⟩
theorem da_cons (h : DE X W b e fa) (hr : DA X W b es fs) (hs : starEach (e :: es) X.env = (false, eval e X.env) :: starEach es X.env := by rfl) : DA X W b (e :: es) (xCons fa fs) := by
  obtain ⟨t, p, q⟩ := h.ex
  obtain ⟨t2, p2, q2⟩ := hr.ex
  refine ⟨tCons t t2, pa_cons p p2 hs, fun Hs0 H0 ρ σ Hs H Q e h => ?_⟩
  refine q _ _ ρ σ Hs H _ e (h.bind.mono fun x Hs1 H1 s1 h1 v rv => ?_)
  refine q2 _ _ ρ σ Hs1 H1 _ (e.step s1) (h1.bind.mono fun xs Hs2 H2 s2 h2 vs rvs => ?_)
  exact h2.now s2.sub _ (.cons (rv.step s2) rvs)
def small (n : Nat) : Bool := Nat.ble n 1000000
theorem small_line {n : Nat} (h : small n = true) : n ≤ sizeLine := Nat.le_trans (Nat.le_of_ble_eq_true h) (by decide)
theorem small_lt {n : Nat} (h : small n = true) : n < sizeLine := Nat.lt_of_le_of_lt (Nat.le_of_ble_eq_true h) (by decide)
/-- a new tuple, a new list -/
def mkT (ds : List D) : Res D := if small ds.length = true then .ok (.tuple ds) else .bad
def mkL (ds : List D) : Res D := if small ds.length = true then .ok (.list ds) else .bad
theorem post_mk {α : Type} {σ : L2.St} {Hs H : Hp} {r : Res α} {g : Prop} {c : Prop} [Decidable c] {K : α → Hp → Hp → Prop} (h : PostA W σ Hs H K (if c then r else .bad)) (k : c → PostA W σ Hs H K r → g) : g := by
  by_cases hc : c
  · rw [if_pos hc] at h
    exact k hc h
  · rw [if_neg hc] at h
    exact h.elim
theorem mkT_post {σ : L2.St} {Hs H : Hp} {Q : VK} {ds : List D} {vs : List V} {p : Addr} (h : Post X.K bb W σ Hs H Q (.ok (.tuple ds))) (e : Ex Hs H) (r : RpAll X.K Hs vs ds) {ob : Obj} (hp : H p = none) (ho : ob.dict = none) : Q (.ref p) (upd H p (.frz ob (.tup vs))) :=
  h _ _ (Step.new e hp) _ (.inl (.tup (tat_of upd_same ho) (RpAll.ex (Ex.new (sub_none e hp)) r)))
theorem mkL_post {σ : L2.St} {Hs H : Hp} {Q : VK} {ds : List D} {vs : List V} {p : Addr} (h : Post X.K bb W σ Hs H Q (.ok (.list ds))) (e : Ex Hs H) (r : RpAll X.K Hs vs ds) (hp : H p = none) : Q (.ref p) (upd H p (.lst vs)) :=
  h _ _ (Step.new e hp) _ (.inl (.lst (sq_of upd_same) (RpAll.ex (Ex.new (sub_none e hp)) r)))
def xTup (fs : DEnv → Res (List D)) : DEnv → Res D := fun ρ => (fs ρ).bind mkT
def xLst (fs : DEnv → Res (List D)) : DEnv → Res D := fun ρ => (fs ρ).bind mkL
def tTupF (t : TA) : TE := fun σ H Q => t σ H fun xs H1 => xs.length ≤ sizeLine ∧ ∀ (p : Addr) (ob : Obj), H1 p = none → ob.dict = none → Q (.ref p) (upd H1 p (.frz ob (.tup xs)))
theorem pe_tupF {es : List Expr} {t : TA} {x1 : Nat} {pos : Pos} (h : PA X es t) : PE X (.Tuple es x1 pos) (tTupF t) := by
  refine ⟨fun pins s σ H Q I hq => ?_⟩
  refine wpAny_Tuple_spliced (thn (h.run pos pins s σ H _ I hq) fun us s1 ⟨xs, H1, I1, r, z, q⟩ => ⟨by rw [← r.length]; exact z, ?_⟩)
  exact ⟨.ref s1.heap.objs.size, _, I1.laid (t' := s1.toks) (o := .frz { cls := .type "tuple", data := .seq us.toArray } (.tup xs)) (fun b u e => Heap.get?_push_of_some _ e) (Nat.le_refl _) ⟨Heap.get?_push_size _ rfl, z, us, r, ⟨_, Heap.get?_push_size _ rfl, rfl, _, rfl⟩⟩, rfl, q _ _ (I1.hok.fresh (Nat.le_refl _)) rfl⟩
theorem de_tup {x1 : Nat} (h : DA X W false es fs) : DE X W b (.Tuple es x1 pos) (xTup fs) := by
  obtain ⟨t, p, q⟩ := h.ex
  refine ⟨tTupF t, pe_tupF p, fun Hs0 H0 ρ σ Hs H Q e h => ?_⟩
  refine q _ _ ρ σ Hs H _ e (h.bind.mono fun xs Hs1 H1 s1 h1 vs rv => ?_)
  refine post_mk h1 fun hz h1 => ⟨?_, fun p ob hp ho => mkT_post h1 s1.sub rv.rp hp ho⟩
  rw [RpAll.len rv.rp]
  exact small_line hz
theorem de_lst (h : DA X W false es fs) : DE X W b (.List es pos) (xLst fs) := by
  obtain ⟨t, p, q⟩ := h.ex
  refine ⟨tLst t, pe_lst p, fun Hs0 H0 ρ σ Hs H Q e h => ?_⟩
  refine q _ _ ρ σ Hs H _ e (h.bind.mono fun xs Hs1 H1 s1 h1 vs rv => ?_)
  refine post_mk h1 fun hz h1 => ⟨?_, fun p hp => mkL_post h1 s1.sub rv.rp hp⟩
  rw [RpAll.len rv.rp]
  exact small_line hz
end
end SB
end
end

section
set_option Elab.async false
set_option linter.all false
set_option maxRecDepth 100000
set_option maxHeartbeats 2000000
noncomputable section
namespace SB
open PySem PySem.Spec L2 Evl PyProof.Rows
section
variable {X : Cx} {W : WD}

/-! ### + -/
def rCatR (K : PySem.W.Frag) : R2 := fun x y H Q => ∃ l b xs zs, x = .ref l ∧ y = .ref b ∧ SqL K H l xs ∧ SqL K H b zs ∧ xs.length + zs.length ≤ sizeLine ∧ ∀ p, H p = none → Q (.ref p) (upd H p (.lst (xs ++ zs)))
theorem op_catR : OpR X (binaryOp .Add) (rCatR X.K) := by
  intro pins s σ H x y v u Q I rx ry h
  obtain ⟨l, b, xs, zs, rfl, rfl, h1, h2, hz, q⟩ := h
  cases rx
  cases ry
  obtain ⟨vals, r1, p1, _⟩ := I.list h1
  obtain ⟨vals2, r2, p2, _⟩ := I.list h2
  have n1 := r1.length
  have n2 := r2.length
  obtain ⟨⟨c1, d1, t1, s1⟩, g1, k1, m1, e1⟩ := p1.isList
  obtain ⟨⟨c2, d2, t2, s2⟩, g2, k2, m2, e2⟩ := p2.isList
  simp only at k1 e1 k2 e2
  subst k1 e1 k2 e2
  refine concat_meets ⟨_, g1, rfl⟩ ⟨_, g2, rfl⟩ noFill_list_add seq_list_add PySem.F.slot_list_add PySem.F.entry_list_add (PySem.F.args_list_add_2 _ _)
    (list_addW l b vals.toArray vals2.toArray m1 m2 d1 d2 s1 s2 (by rw [List.size_toArray, List.size_toArray]; omega)) ⟨g1, g2, ?_⟩
  have ea : vals.toArray ++ vals2.toArray = (vals ++ vals2).toArray := by simp
  rw [ea]
  exact ⟨.ref _, _, I.lnew (t' := s.toks) (r1.append r2) (by rw [List.length_append]; omega), rfl, q _ I.fresh⟩
def rCatF (K : PySem.W.Frag) : R2 := fun x y H Q => ∃ a b xs ys, x = .ref a ∧ y = .ref b ∧ SqT K H a xs ∧ SqT K H b ys ∧ xs.length + ys.length ≤ sizeLine ∧ (xs = [] → Q (.ref b) H) ∧ (xs ≠ [] → ys = [] → Q (.ref a) H) ∧
  (xs ≠ [] → ys ≠ [] → ∀ (p : Addr) (ob : Obj), H p = none → ob.dict = none → Q (.ref p) (upd H p (.frz ob (.tup (xs ++ ys)))))
theorem op_catF : OpR X (binaryOp .Add) (rCatF X.K) := by
  intro pins s σ H x y v u Q I rx ry h
  obtain ⟨a, b, xs, ys, rfl, rfl, ha, hb, hz, q0, q1, q2⟩ := h
  cases rx
  cases ry
  obtain ⟨its, r1, p1, _⟩ := I.tuple ha
  obtain ⟨its2, r2, p2, _⟩ := I.tuple hb
  by_cases hx : xs = []
  · subst hx
    cases r1
    exact cat_tup0 p1 p2 ⟨.ref b, H, I, rfl, q0 rfl⟩
  · refine HT.cat_tup p1 p2 (fun z => hx (r1.nil_iff.mp z)) (fun z => ⟨.ref a, H, I, rfl, q1 hx (r2.nil_iff.mp z)⟩) (fun z => ?_) (by rw [← r1.length, ← r2.length]; exact hz)
    exact ⟨.ref s.heap.objs.size, _, I.laid (t' := s.toks) (o := .frz { cls := .type "tuple", data := .seq (its ++ its2).toArray } (.tup (xs ++ ys))) (fun b ob q => Heap.get?_push_of_some _ q) (Nat.le_refl _) ⟨Heap.get?_push_size _ rfl, by rw [List.length_append]; exact hz, _, r1.append r2, IsTup.new _ _⟩, rfl, q2 hx (fun w => z (r2.nil_iff.mpr w)) _ _ (I.hok.fresh (Nat.le_refl _)) rfl⟩
def addD : D → D → Res D
  | .int i, .int j => .ok (.int (i + j))
  | .tuple xs, .tuple ys => if small (xs.length + ys.length) = true then .ok (.tuple (xs ++ ys)) else .bad
  | .list xs, .list ys => if small (xs.length + ys.length) = true then .ok (.list (xs ++ ys)) else .bad
  | .str x, .str y => if small (x.length + y.length) = true then .ok (.str (x ++ y)) else .bad
  | _, _ => .bad
theorem opd_add : OpD X (binaryOp .Add) addD := by
  refine ⟨_, op_add.or (op_catF.or (op_catR.or op_add_str)), fun W σ Hs H x y a c Q e rx ry h => ?_⟩
  cases a with
  | int i =>
    cases c with
    | int j => exact .inl ⟨i, j, rx.int, ry.int, h.now e _ (.of (.int _))⟩
    | _ => exact h.elim
  | tuple xs =>
    cases c with
    | tuple ys =>
      refine post_mk h fun hz h => ?_
      obtain ⟨p, vs, rfl, h1, r1⟩ := rx.tuple
      obtain ⟨q, ws, rfl, h2, r2⟩ := ry.tuple
      refine .inr (.inl ⟨p, q, vs, ws, rfl, rfl, .inl (ex_td e h1), .inl (ex_td e h2), ?_, ?_, ?_, ?_⟩)
      · rw [RpAll.len r1, RpAll.len r2]
        exact small_line hz
      · intro z
        subst z
        cases r1
        exact h.now e _ (.of (.tup h2 r2))
      · intro _ z
        subst z
        cases r2
        rw [List.append_nil] at h
        exact h.now e _ (.of (.tup h1 r1))
      · intro _ _ p ob hp ho
        exact mkT_post h e (RpAll.append r1 r2) hp ho
    | _ => exact h.elim
  | list xs =>
    cases c with
    | list ys =>
      refine post_mk h fun hz h => ?_
      obtain ⟨p, vs, rfl, h1, r1⟩ := rx.list e
      obtain ⟨q, ws, rfl, h2, r2⟩ := ry.list e
      refine .inr (.inr (.inl ⟨p, q, vs, ws, rfl, rfl, h1, h2, ?_, fun p hp => mkL_post h e (RpAll.append r1 r2) hp⟩))
      rw [RpAll.len r1, RpAll.len r2]
      exact small_line hz
    | _ => exact h.elim
  | str i =>
    cases c with
    | str j =>
      refine post_mk h fun hz h => ?_
      exact .inr (.inr (.inr ⟨i, j, rx.str, ry.str, small_line hz, h.now e _ (.of (.str _))⟩))
    | _ => exact h.elim
  | _ => cases c <;> exact h.elim
def subD : D → D → Res D
  | .int i, .int j => .ok (.int (i - j))
  | _, _ => .bad
theorem opd_int {F : Value → Value → Sem Value} {C : Int → Int → Prop} [∀ i j, Decidable (C i j)] {g : Int → Int → Int} {gd : D → D → Res D} (ho : OpR X F (rI C fun i j => .int (g i j)))
    (h1 : ∀ i j, gd (.int i) (.int j) = if C i j then .ok (.int (g i j)) else .bad) (h2 : ∀ a c, (∀ i j, ¬ (a = .int i ∧ c = .int j)) → gd a c = .bad) : OpD X F gd := by
  refine ⟨_, ho, fun W σ Hs H x y a c Q e rx ry h => ?_⟩
  cases a with
  | int i =>
    cases c with
    | int j =>
      rw [h1] at h
      exact post_mk h fun hc h => ⟨i, j, rx.int, ry.int, hc, h.now e _ (.of (.int _))⟩
    | _ => rw [h2 _ _ (by rintro _ _ ⟨_, z⟩; cases z)] at h; exact h.elim
  | _ => rw [h2 _ _ (by rintro _ _ ⟨z, _⟩; cases z)] at h; exact h.elim
theorem opd_sub : OpD X (binaryOp .Sub) subD := by
  refine ⟨_, op_sub, fun W σ Hs H x y a c Q e rx ry h => ?_⟩
  cases a with
  | int i =>
    cases c with
    | int j => exact ⟨i, j, rx.int, ry.int, h.now e _ (.of (.int _))⟩
    | _ => exact h.elim
  | _ => cases c <;> exact h.elim
instance (i j : Int) : Decidable (CMul i j) := by unfold CMul; exact inferInstance
instance (i j : Int) : Decidable (CDiv i j) := by unfold CDiv; exact inferInstance
def mulC (i j : Int) : Bool := decide (i.natAbs < 18446744073709551616) || decide (j.natAbs < 18446744073709551616)
theorem mulC_ok {i j : Int} (h : mulC i j = true) : CMul i j := by
  unfold mulC at h
  rw [Bool.or_eq_true] at h
  rcases h with h | h
  · have := of_decide_eq_true h
    exact .inl ⟨by omega, by omega⟩
  · have := of_decide_eq_true h
    exact .inr ⟨by omega, by omega⟩
/-- a tuple some times -/
theorem tuple_mul1 (l : Addr) (items : Array Value) (n : Nat) (dd : Option Addr) (sl : Array (Option Value)) (u : Tok) :
    Meets (Builtin.«tuple.__mul__» ⟨[.ref l, .int 1 u], []⟩) (fun _ R s => s.heap.get? l = some { cls := .type "tuple", dict := dd, data := .seq items n, slots := sl } ∧
      R (.ok (.ret (Value.ref l))) s) :=
  .of_wp fun prog w A R s h => by
    obtain ⟨hp, g, d, tk, os⟩ := s
    obtain ⟨hl, h⟩ := h
    have f1 := AutoSeq1.idx_int
    have c1 : (items.isEmpty || (1 : Int) == 1) = true := by cases items.isEmpty <;> rfl
    wp_walk using wpAny_loadPart' hl
    repeat (first
      | (refine wpAny_ite_false (decide_eq_false (by decide)) ?_; wp_walk using wpAny_loadPart' hl)
      | (refine wpAny_ite_true (decide_eq_true c1) ?_; wp_walk using wpAny_loadPart' hl))
    exact ⟨_, rfl, h⟩
def rRep1 (K : PySem.W.Frag) : R2 := fun x y H Q => ∃ l xs, x = .ref l ∧ y = .int 1 ∧ SqT K H l xs ∧ Q (.ref l) H
theorem op_rep1 : OpR X (binaryOp .Mult) (rRep1 X.K) := by
  intro pins s σ H x y v u Q I rx ry h
  obtain ⟨l, xs, rfl, rfl, hT, q⟩ := h
  cases rx
  obtain ⟨t, rfl⟩ := ry
  obtain ⟨its, r, ⟨⟨cls, dd, data, sl⟩, ho, hc, n, hd⟩, hs⟩ := I.tuple hT
  simp only at hc hd
  subst hc hd
  refine wpAny_binaryOp_repeat_ref (T := "tuple") (U := "int") (by decide) ⟨_, ho, rfl⟩ (fun s' => typeIs_int s' 1 t) noFill_tuple_mul F.fills_int_mul F.slot_int_rmul repeat_tuple F.slot_int_index.lookup
    (call_meets F.slot_int_rmul (typeIs_int s 1 t) F.entry_int_rmul (F.args_int_rmul_2 _ _) (int_rmul_tuple 1 t l its.toArray n dd sl)
      ⟨ho, rfl, ⟨_, ho, rfl⟩, call_meets F.slot_tuple_mul ⟨_, ho, rfl⟩ F.entry_tuple_mul (F.args_tuple_mul_2 _ _) (tuple_mul1 l its.toArray n dd sl t) ⟨ho, ?_⟩⟩)
  exact ⟨.ref l, H, I, rfl, q⟩
/-- a tuple k times, k at least two: a new tuple -/
def rRepF (K : PySem.W.Frag) : R2 := fun x y H Q => ∃ a m xs, x = .ref a ∧ y = .int m ∧ SqT K H a xs ∧ xs ≠ [] ∧ (2 ≤ m ∧ m ≤ 1000) ∧ xs.length ≤ 1000 ∧ ∀ (p : Addr) (ob : Obj), H p = none → ob.dict = none → Q (.ref p) (upd H p (.frz ob (.tup (List.replicate m.toNat xs).flatten)))
theorem op_repF : OpR X (binaryOp .Mult) (rRepF X.K) := by
  intro pn st σ G x y v u Q J rx ry hh
  obtain ⟨a, m, xs, rfl, rfl, sq, ne, ⟨lo, hi⟩, le, q⟩ := hh
  cases rx
  obtain ⟨tk, rfl⟩ := ry
  obtain ⟨vals, rel, ⟨⟨c, di, dt, slo⟩, ob, hc, nn, hd⟩, _⟩ := J.tuple sq
  simp only at hc hd
  subst hc hd
  have ln : vals.length = xs.length := rel.length.symm
  have vne : vals.toArray.isEmpty = false := by
    cases vals with
    | nil => exact absurd (List.eq_nil_of_length_eq_zero ln.symm) ne
    | cons _ _ => rfl
  have sz : vals.toArray.size = xs.length := by rw [List.size_toArray, ln]
  have few : m.toNat * xs.length ≤ 1000000 := Nat.le_trans (Nat.mul_le_mul (show m.toNat ≤ 1000 by omega) le) (by decide)
  have fewI : ((vals.toArray.size : Nat) : Int) * m ≤ 1000000 := by
    rw [sz]
    have e : m = ((m.toNat : Nat) : Int) := by omega
    rw [e, ← Int.natCast_mul, Nat.mul_comm]
    omega
  have b1 : (decide (m < -(2 ^ 63)) || decide (m ≥ 2 ^ 63)) = false := by rw [decide_eq_false (by omega), decide_eq_false (by omega)]; rfl
  have b2 : (vals.toArray.isEmpty || m == 1) = false := by rw [vne]; exact beq_eq_false_iff_ne.mpr (by omega)
  have b3 : (decide (m ≤ 0) || vals.toArray.isEmpty) = false := by rw [vne, decide_eq_false (by omega)]; rfl
  have b4 : Builtin.Tuple.tupleTooMany (((vals.toArray.size : Nat) : Int) * m) = false := by
    have z := sizeLine_eq
    unfold Builtin.Tuple.tupleTooMany
    exact decide_eq_false (by omega)
  have fl : (List.replicate m.toNat vals).flatten.length ≤ sizeLine := by
    have z := sizeLine_eq
    rw [PyProof.Rows.lm_len_rep_flat, ln]
    omega
  have fl2 : (List.replicate m.toNat xs).flatten.length ≤ sizeLine := by
    have z := sizeLine_eq
    rw [PyProof.Rows.lm_len_rep_flat]
    omega
  refine wpAny_binaryOp_repeat_ref (T := "tuple") (U := "int") (by decide) ⟨_, ob, rfl⟩ (fun z => typeIs_int z m tk) noFill_tuple_mul F.fills_int_mul F.slot_int_rmul repeat_tuple F.slot_int_index.lookup ?_
  refine call_meets F.slot_int_rmul (typeIs_int st m tk) F.entry_int_rmul (F.args_int_rmul_2 _ _) (int_rmul_tuple m tk a vals.toArray nn di slo) ⟨ob, rfl, ⟨_, ob, rfl⟩, ?_⟩
  refine call_meets F.slot_tuple_mul ⟨_, ob, rfl⟩ F.entry_tuple_mul (F.args_tuple_mul_2 _ _) (tuple_mulW a vals.toArray nn di slo m tk b1 b2 b3 (by omega) b4 (by rw [size_rep, List.size_toArray]; exact fl)) ⟨ob, ?_⟩
  rw [size_rep]
  exact ⟨.ref st.heap.objs.size, _, J.laid (t' := st.toks) (o := .frz { cls := .type "tuple", data := .seq (List.replicate m.toNat vals).flatten.toArray } (.tup (List.replicate m.toNat xs).flatten)) (fun b ob q => Heap.get?_push_of_some _ q) (Nat.le_refl _)
    ⟨Heap.get?_push_size _ rfl, fl2, _, rel.rep m.toNat, IsTup.new _ _⟩, rfl, q _ _ (J.hok.fresh (Nat.le_refl _)) rfl⟩
/-- none times: a new empty tuple -/
theorem tuple_mul0 (l : Addr) (items : Array Value) (n : Nat) (dd : Option Addr) (sl : Array (Option Value)) (u : Tok) (c1 : (items.isEmpty || (0 : Int) == 1) = false) :
    Meets (Builtin.«tuple.__mul__» ⟨[.ref l, .int 0 u], []⟩) (fun _ R s => s.heap.get? l = some { cls := .type "tuple", dict := dd, data := .seq items n, slots := sl } ∧
      R (.ok (.ret (Value.ref s.heap.objs.size))) { s with heap := s.heap.push { cls := Value.type "tuple", data := Data.seq #[] }, toks := s.toks }) :=
  .of_wp fun prog w A R s h => by
    obtain ⟨hp, g, d, tk, os⟩ := s
    obtain ⟨hl, h⟩ := h
    have f1 := AutoSeq1.idx_int
    have c2 : (decide ((0 : Int) ≤ 0) || items.isEmpty) = true := by cases items.isEmpty <;> rfl
    wp_walk using wpAny_loadPart' hl
    repeat (first
      | (refine wpAny_ite_false (decide_eq_false (by decide)) ?_; wp_walk using wpAny_loadPart' hl)
      | (refine wpAny_ite_false (decide_eq_false (by rw [c1]; exact Bool.false_ne_true)) ?_; wp_walk using wpAny_loadPart' hl)
      | (refine wpAny_ite_true (decide_eq_true c2) ?_; wp_walk using wpAny_loadPart' hl)
      | (refine wpAny_ite_false (decide_eq_false (Nat.not_lt.mpr (Nat.zero_le _))) ?_; wp_walk using wpAny_loadPart' hl))
    exact ⟨_, rfl, h⟩
def rRep0 (K : PySem.W.Frag) : R2 := fun x y H Q => ∃ a xs, x = .ref a ∧ y = .int 0 ∧ SqT K H a xs ∧ xs ≠ [] ∧ ∀ (p : Addr) (ob : Obj), H p = none → ob.dict = none → Q (.ref p) (upd H p (.frz ob (.tup [])))
theorem op_rep0 : OpR X (binaryOp .Mult) (rRep0 X.K) := by
  intro pn st σ G x y v u Q J rx ry hh
  obtain ⟨a, xs, rfl, rfl, sq, ne, q⟩ := hh
  cases rx
  obtain ⟨tk, rfl⟩ := ry
  obtain ⟨vals, rel, ⟨⟨c, di, dt, slo⟩, ob, hc, nn, hd⟩, _⟩ := J.tuple sq
  simp only at hc hd
  subst hc hd
  have ln : vals.length = xs.length := rel.length.symm
  have vne : (vals.toArray.isEmpty || (0 : Int) == 1) = false := by
    cases vals with
    | nil => exact absurd (List.eq_nil_of_length_eq_zero ln.symm) ne
    | cons _ _ => rfl
  refine wpAny_binaryOp_repeat_ref (T := "tuple") (U := "int") (by decide) ⟨_, ob, rfl⟩ (fun z => typeIs_int z 0 tk) noFill_tuple_mul F.fills_int_mul F.slot_int_rmul repeat_tuple F.slot_int_index.lookup ?_
  refine call_meets F.slot_int_rmul (typeIs_int st 0 tk) F.entry_int_rmul (F.args_int_rmul_2 _ _) (int_rmul_tuple 0 tk a vals.toArray nn di slo) ⟨ob, rfl, ⟨_, ob, rfl⟩, ?_⟩
  refine call_meets F.slot_tuple_mul ⟨_, ob, rfl⟩ F.entry_tuple_mul (F.args_tuple_mul_2 _ _) (tuple_mul0 a vals.toArray nn di slo tk vne) ⟨ob, ?_⟩
  exact ⟨.ref st.heap.objs.size, _, J.laid (t' := st.toks) (o := .frz { cls := .type "tuple", data := .seq #[] } (.tup [])) (fun b ob q => Heap.get?_push_of_some _ q) (Nat.le_refl _)
    ⟨Heap.get?_push_size _ rfl, Nat.zero_le _, [], .nil, IsTup.new _ _⟩, rfl, q _ _ (J.hok.fresh (Nat.le_refl _)) rfl⟩
/-- a list some times -/
def rRepLR (K : PySem.W.Frag) : R2 := fun x y H Q => ∃ a m xs, x = .ref a ∧ y = .int m ∧ SqL K H a xs ∧ (0 ≤ m ∧ m ≤ 1000) ∧ xs.length ≤ 1000 ∧ ∀ p, H p = none → Q (.ref p) (upd H p (.lst (List.replicate m.toNat xs).flatten))
theorem op_repLR : OpR X (binaryOp .Mult) (rRepLR X.K) := by
  intro pn st σ G x y v u Q J rx ry hh
  obtain ⟨a, m, xs, rfl, rfl, sq, ⟨lo, hi⟩, le, q⟩ := hh
  cases rx
  obtain ⟨tk, rfl⟩ := ry
  obtain ⟨vals, rel, pl, _⟩ := J.list sq
  obtain ⟨⟨c, di, dt, slo⟩, ob, hc, nn, hd⟩ := pl.isList
  simp only at hc hd
  subst hc hd
  have z := sizeLine_eq
  have ln : vals.length = xs.length := rel.length.symm
  have few : vals.length * m.toNat ≤ 1000000 := Nat.le_trans (Nat.mul_le_mul (show vals.length ≤ 1000 by omega) (show m.toNat ≤ 1000 by omega)) (by decide)
  have few' : vals.toArray.size * m.toNat ≤ 1000000 := by simpa using few
  refine wpAny_binaryOp_repeat_ref (T := "list") (U := "int") (by decide) ⟨_, ob, rfl⟩ (fun w => typeIs_int w m tk) noFill_list_mul F.fills_int_mul F.slot_int_rmul repeat_list F.slot_int_index.lookup ?_
  refine call_meets F.slot_int_rmul (typeIs_int st m tk) F.entry_int_rmul (F.args_int_rmul_2 _ _) (lm_int_rmul_list_any m tk a vals.toArray nn di slo) ⟨ob, rfl, ⟨_, ob, rfl⟩, ?_⟩
  refine call_meets F.slot_list_mul ⟨_, ob, rfl⟩ F.entry_list_mul (F.args_list_mul_2 _ _)
    (lm_list_mul_any a vals.toArray nn di slo m tk (by simp [Builtin.List.listFitsIndex]; omega) (by omega) (by simp [Builtin.List.listTooLong, sizeLine]; omega)) ⟨ob, ?_⟩
  rw [listMul_foldl_if]
  exact ⟨.ref _, _, J.lnew (t' := st.toks) (rel.rep m.toNat) (by rw [PyProof.Rows.lm_len_rep_flat, Nat.mul_comm, ← ln]; omega), rfl, q _ J.fresh⟩
def repT0 (xs : List D) : Res D := if !xs.isEmpty then .ok (.tuple []) else .bad
def repL (xs : List D) (k : Int) : Res D := if decide (0 ≤ k) && decide (k ≤ 1000) && decide (xs.length ≤ 1000) then .ok (.list (List.replicate k.toNat xs).flatten) else .bad
def repT (xs : List D) (k : Int) : Res D := if decide (2 ≤ k) && decide (k ≤ 1000) && decide (xs.length ≤ 1000) && !xs.isEmpty then .ok (.tuple (List.replicate k.toNat xs).flatten) else .bad
def mulD : D → D → Res D
  | .int i, .int j => if mulC i j = true then .ok (.int (i * j)) else .bad
  | .tuple xs, .int k => if decide (k = 1) = true then .ok (.tuple xs) else if decide (k = 0) = true then repT0 xs else repT xs k
  | .list xs, .int k => repL xs k
  | _, _ => .bad
theorem RpAll.rep {H : Hp} {vs : List V} {ds : List D} (r : RpAll X.K H vs ds) : ∀ n : Nat, RpAll X.K H (List.replicate n vs).flatten (List.replicate n ds).flatten
  | 0 => by simp; exact .nil
  | n + 1 => by
    rw [List.replicate_succ, List.replicate_succ, List.flatten_cons, List.flatten_cons]
    exact RpAll.append r (RpAll.rep r n)
theorem opd_mul : OpD X (binaryOp .Mult) mulD := by
  refine ⟨_, op_mul.or (op_repF.or (op_rep1.or (op_rep0.or op_repLR))), fun W σ Hs H x y a c Q e rx ry h => ?_⟩
  cases a with
  | int i =>
    cases c with
    | int j =>
      refine post_mk h fun hc h => ?_
      exact .inl ⟨i, j, rx.int, ry.int, mulC_ok hc, h.now e _ (.of (.int _))⟩
    | _ => exact h.elim
  | tuple xs =>
    cases c with
    | int k =>
      obtain ⟨p, vs, rfl, h1, r1⟩ := rx.tuple
      change Post X.K false W σ Hs H Q (if decide (k = 1) = true then .ok (.tuple xs) else if decide (k = 0) = true then repT0 xs else repT xs k) at h
      by_cases k1 : k = 1
      · subst k1
        rw [if_pos (by decide)] at h
        exact .inr (.inr (.inl ⟨p, vs, rfl, ry.int, .inl (ex_td e h1), h.now e _ (.of (.tup h1 r1))⟩))
      rw [if_neg (by simpa using k1)] at h
      by_cases k0 : k = 0
      · subst k0
        rw [if_pos (by decide)] at h
        refine post_mk h fun hc h => .inr (.inr (.inr (.inl ⟨p, vs, rfl, ry.int, .inl (ex_td e h1), ?_, fun q ob hq ho => mkT_post h e .nil hq ho⟩)))
        rintro rfl
        cases r1
        simp at hc
      rw [if_neg (by simpa using k0)] at h
      refine post_mk h fun hc h => ?_
      simp only [Bool.and_eq_true, decide_eq_true_eq] at hc
      refine .inr (.inl ⟨p, k, vs, rfl, ry.int, .inl (ex_td e h1), ?_, ⟨hc.1.1.1, hc.1.1.2⟩, ?_, fun q ob hq ho => mkT_post h e (RpAll.rep r1 _) hq ho⟩)
      · rintro rfl
        cases r1
        simp at hc
      · rw [RpAll.len r1]
        exact hc.1.2
    | _ => exact h.elim
  | list xs =>
    cases c with
    | int k =>
      obtain ⟨p, vs, rfl, h1, r1⟩ := rx.list e
      refine post_mk h fun hc h => ?_
      simp only [Bool.and_eq_true, decide_eq_true_eq] at hc
      refine .inr (.inr (.inr (.inr ⟨p, k, vs, rfl, ry.int, h1, hc.1, by rw [RpAll.len r1]; exact hc.2, fun q hq => mkL_post h e (RpAll.rep r1 _) hq⟩)))
    | _ => exact h.elim
  | _ => cases c <;> exact h.elim
/-- divisors that are served (a test that does not run down a great number) -/
def divC : Int → Bool
  | .ofNat n => Nat.ble 1 n && Nat.ble n 1000000000
  | .negSucc _ => false
theorem divC_ok {i j : Int} (h : divC j = true) : CDiv i j := by
  cases j with
  | ofNat n =>
    have h' : (Nat.ble 1 n && Nat.ble n 1000000000) = true := h
    rw [Bool.and_eq_true] at h'
    have h1 := Nat.le_of_ble_eq_true h'.1
    have h2 := Nat.le_of_ble_eq_true h'.2
    exact ⟨by simp only [Int.ofNat_eq_natCast]; omega, by simp only [Int.ofNat_eq_natCast]; omega⟩
  | negSucc n => cases h
def fdivD : D → D → Res D
  | .int i, .int j => if divC j = true then .ok (.int (i / j)) else .bad
  | _, _ => .bad
theorem opd_fdiv : OpD X (binaryOp .FloorDiv) fdivD := by
  refine ⟨_, op_fdiv, fun W σ Hs H x y a c Q e rx ry h => ?_⟩
  cases a with
  | int i =>
    cases c with
    | int j =>
      refine post_mk h fun hc h => ?_
      exact ⟨i, j, rx.int, ry.int, divC_ok hc, h.now e _ (.of (.int _))⟩
    | _ => exact h.elim
  | _ => cases c <;> exact h.elim
def modD : D → D → Res D
  | .int i, .int j => if 0 < j then .ok (.int (i % j)) else .bad
  | _, _ => .bad
theorem opd_mod : OpD X (binaryOp .Mod) modD := opd_int (C := fun _ j => 0 < j) op_mod (fun _ _ => rfl) (fun a c h => by
  cases a with
  | int i => cases c with
    | int j => exact absurd ⟨rfl, rfl⟩ (h i j)
    | _ => rfl
  | _ => cases c <;> rfl)

/-! ### comparisons -/
theorem opd_cmp {F : Value → Value → Sem Value} {g : Int → Int → Bool} {gd : D → D → Res D} (ho : OpR X F (rI0 fun i j => .bl (g i j)))
    (h1 : ∀ i j, gd (.int i) (.int j) = .ok (.bool (g i j))) (h2 : ∀ a c, (∀ i j, ¬ (a = .int i ∧ c = .int j)) → gd a c = .bad) : OpD X F gd := by
  refine ⟨_, ho, fun W σ Hs H x y a c Q e rx ry h => ?_⟩
  cases a with
  | int i =>
    cases c with
    | int j =>
      rw [h1] at h
      exact ⟨i, j, rx.int, ry.int, h.now e _ (.of (.bl _))⟩
    | _ => rw [h2 _ _ (by rintro _ _ ⟨_, z⟩; cases z)] at h; exact h.elim
  | _ => rw [h2 _ _ (by rintro _ _ ⟨z, _⟩; cases z)] at h; exact h.elim
def cmpD (g : Int → Int → Bool) : D → D → Res D
  | .int i, .int j => .ok (.bool (g i j))
  | _, _ => .bad
theorem cmpD_bad {g : Int → Int → Bool} (a c : D) (h : ∀ i j, ¬ (a = .int i ∧ c = .int j)) : cmpD g a c = .bad := by
  cases a with
  | int i => cases c with
    | int j => exact absurd ⟨rfl, rfl⟩ (h i j)
    | _ => rfl
  | _ => cases c <;> rfl
def ltD : D → D → Res D := cmpD fun i j => decide (i < j)
def leD : D → D → Res D := cmpD fun i j => decide (i ≤ j)
def gtD : D → D → Res D := cmpD fun i j => decide (j < i)
def geD : D → D → Res D := cmpD fun i j => decide (j ≤ i)
theorem opd_lt : OpD X (compareOp .Lt) ltD := opd_cmp op_lt (fun _ _ => rfl) cmpD_bad
theorem opd_le : OpD X (compareOp .LtE) leD := opd_cmp op_le (fun _ _ => rfl) cmpD_bad
theorem opd_gt : OpD X (compareOp .Gt) gtD := opd_cmp op_gt (fun _ _ => rfl) cmpD_bad
theorem opd_ge : OpD X (compareOp .GtE) geD := opd_cmp op_ge (fun _ _ => rfl) cmpD_bad
/-- == and != of any data; dp n d: d is at most n deep; eqF: by steps of depth -/
def allL {α : Type} (f : α → Bool) (xs : List α) : Bool := List.rec (motive := fun _ => Bool) true (fun a _ ih => cond (f a) ih false) xs
def anyL {α : Type} (f : α → Bool) (xs : List α) : Bool := List.rec (motive := fun _ => Bool) false (fun a _ ih => cond (f a) true ih) xs
def all2 {α : Type} (f : α → α → Bool) (xs : List α) : List α → Bool := List.rec (motive := fun _ => List α → Bool)
  (fun ys => List.rec (motive := fun _ => Bool) true (fun _ _ _ => false) ys)
  (fun a _ ih ys => List.rec (motive := fun _ => Bool) false (fun b r _ => cond (f a b) (ih r) false) ys) xs
def dpStep (f : D → Bool) : D → Bool
  | .list xs => allL f xs
  | .tuple xs => allL f xs
  | .dict _ => false
  | _ => true
def dpN (n : Nat) : D → Bool := Nat.rec (motive := fun _ => D → Bool) (fun d => dpStep (fun _ => false) d) (fun _ ih d => dpStep ih d) n
def eqStep (f : D → D → Bool) : D → D → Bool
  | .int i, .int j => decide (i = j)
  | .tuple xs, .tuple ys => all2 f xs ys
  | .list xs, .list ys => all2 f xs ys
  | .none, .none => true
  | .str x, .str y => x == y
  | .bool a, .bool b => a == b
  | .bool a, .int j => (if a then 1 else 0) == j
  | .int i, .bool b => i == (if b then 1 else 0)
  | _, _ => false
def eqN (n : Nat) : D → D → Bool := Nat.rec (motive := fun _ => D → D → Bool) (fun a c => eqStep (fun _ _ => false) a c) (fun _ ih a c => eqStep ih a c) n
theorem allL_eq {α : Type} (f : α → Bool) : ∀ xs : List α, allL f xs = xs.all f
  | [] => rfl
  | a :: r => by
    show cond (f a) (allL f r) false = (f a && r.all f)
    rw [allL_eq f r]
    cases f a <;> rfl
theorem anyL_eq {α : Type} (f : α → Bool) : ∀ xs : List α, anyL f xs = xs.any f
  | [] => rfl
  | a :: r => by
    show cond (f a) true (anyL f r) = (f a || r.any f)
    rw [anyL_eq f r]
    cases f a <;> rfl
theorem dpAll_le : ∀ (xs : List D) (n : Nat), xs.all (fun d => Nat.ble d.depth n) = true → PyData.depthAll xs ≤ n
  | [], _, _ => Nat.zero_le _
  | x :: xs, n, h => by
    simp only [List.all_cons, Bool.and_eq_true] at h
    have h1 := Nat.le_of_ble_eq_true h.1
    have h2 := dpAll_le xs n h.2
    simp only [PyData.depthAll]
    omega
theorem dpN_ok : ∀ (n : Nat) (d : D), dpN n d = true → d.depth ≤ n + 1
  | n, d, h => by
    have step : ∀ (f : D → Bool) (m : Nat), (∀ e, f e = true → e.depth ≤ m) → ∀ e, dpStep f e = true → e.depth ≤ m + 1 := by
      intro f m hf e he
      have lst : ∀ xs : List D, allL f xs = true → PyData.depthAll xs ≤ m := fun xs hx => by
        rw [allL_eq] at hx
        refine dpAll_le xs m ?_
        rw [List.all_eq_true] at hx ⊢
        exact fun z hz => Nat.ble_eq_true_of_le (hf z (hx z hz))
      cases e with
      | list xs => simp only [PyData.depth]; exact Nat.succ_le_succ (lst xs he)
      | tuple xs => simp only [PyData.depth]; exact Nat.succ_le_succ (lst xs he)
      | dict _ => cases he
      | _ => simp [PyData.depth]
    induction n generalizing d with
    | zero => exact step (fun _ => false) 0 (fun _ z => nomatch z) d h
    | succ n ih => exact step (dpN n) (n + 1) (fun e he => ih e he) d h
theorem all2_eqv (f : D → D → Bool) : ∀ (xs ys : List D), (∀ x, x ∈ xs → ∀ y, f x y = PyData.eqv x y) → all2 f xs ys = PyData.eqvAll xs ys
  | [], [], _ => rfl
  | [], _ :: _, _ => rfl
  | _ :: _, [], _ => rfl
  | x :: xs, y :: ys, h => by
    show cond (f x y) (all2 f xs ys) false = _
    rw [h x (by simp) y, all2_eqv f xs ys fun z hz => h z (by simp [hz])]
    simp only [PyData.eqvAll]
    cases PyData.eqv x y <;> rfl
theorem eqN_ok : ∀ (n : Nat) (a c : D), dpN n a = true → eqN n a c = PyData.eqv a c := by
  have step : ∀ (f : D → D → Bool) (g : D → Bool), (∀ x, g x = true → ∀ y, f x y = PyData.eqv x y) → ∀ a c, dpStep g a = true → eqStep f a c = PyData.eqv a c := by
    intro f g hf a c ha
    have lst : ∀ xs ys : List D, allL g xs = true → all2 f xs ys = PyData.eqvAll xs ys := fun xs ys hx => by
      rw [allL_eq, List.all_eq_true] at hx
      exact all2_eqv f xs ys fun x hm y => hf x (hx x hm) y
    cases a with
    | list xs =>
      cases c with
      | list ys => simp only [PyData.eqv]; exact lst xs ys ha
      | _ => simp [eqStep, PyData.eqv]
    | tuple xs =>
      cases c with
      | tuple ys => simp only [PyData.eqv]; exact lst xs ys ha
      | _ => simp [eqStep, PyData.eqv]
    | int i =>
      cases c with
      | int j => simp only [eqStep, PyData.eqv]; rw [Bool.eq_iff_iff]; simp
      | _ => simp [eqStep, PyData.eqv]
    | dict _ => cases ha
    | _ => cases c <;> simp [eqStep, PyData.eqv]
  intro n
  induction n with
  | zero => exact fun a c h => step (fun _ _ => false) (fun _ => false) (fun _ z => nomatch z) a c h
  | succ n ih => exact fun a c h => step (eqN n) (dpN n) (fun x hx y => ih x y hx) a c h
def depOk (a : D) : Bool := dpN 30 a
def eqvD (a c : D) : Bool := eqN 30 a c
theorem eqvD_ok {a c : D} (h : depOk a = true) : eqvD a c = PyData.eqv a c := eqN_ok 30 a c h
def eqD (a c : D) : Res D := if depOk a = true then .ok (.bool (eqvD a c)) else .bad
def neD (a c : D) : Res D := if depOk a = true then .ok (.bool (!eqvD a c)) else .bad
def rEqP (K : PySem.W.Frag) : R2 := fun x y H Q => ∃ d e, Rp K H x d ∧ Rp K H y e ∧ depOk d = true ∧ Q (.bl (PyData.eqv d e)) H
def rNeP (K : PySem.W.Frag) : R2 := fun x y H Q => ∃ d e, Rp K H x d ∧ Rp K H y e ∧ depOk d = true ∧ Q (.bl (!PyData.eqv d e)) H
theorem min_dep {A : Around} {d e : D} (hu : A.units + 64 < cLine) (h : depOk d = true) : A.units + min d.depth e.depth < cLine := by
  have h1 : d.depth ≤ 31 := dpN_ok 30 d h
  have h2 : min d.depth e.depth ≤ d.depth := Nat.min_le_left _ _
  omega
theorem op_eqP (hu : X.A.units + 64 < cLine) : OpR X (compareOp .Eq) (rEqP X.K) := by
  intro pins s σ H x y v u Q I rx ry h
  obtain ⟨d, e, hd, he, h1, q⟩ := h
  obtain ⟨as, r1⟩ := Dp.reads I d x v (Rp.dp hd) rx
  obtain ⟨bs, r2⟩ := Dp.reads I e y u (Rp.dp he) ry
  exact SeqAt.eq_plain r1 r2 (Rp.plain hd) (Rp.plain he) (min_dep hu h1) ⟨.bl _, H, I, rfl, q⟩
theorem op_neP (hu : X.A.units + 64 < cLine) : OpR X (compareOp .NotEq) (rNeP X.K) := by
  intro pins s σ H x y v u Q I rx ry h
  obtain ⟨d, e, hd, he, h1, q⟩ := h
  obtain ⟨as, r1⟩ := Dp.reads I d x v (Rp.dp hd) rx
  obtain ⟨bs, r2⟩ := Dp.reads I e y u (Rp.dp he) ry
  exact SeqAt.ne_plain r1 r2 (Rp.plain hd) (Rp.plain he) (min_dep hu h1) ⟨.bl _, H, I, rfl, q⟩
theorem opd_eq {k : Nat} (hr : Room k X.A) : OpD X (compareOp .Eq) eqD := by
  refine ⟨_, op_eqP (by have := hr.un; omega), fun W σ Hs H x y a c Q e rx ry h => ?_⟩
  exact post_mk h fun hc h => ⟨a, c, rx.whole e, ry.whole e, hc, by rw [← eqvD_ok hc]; exact h.now e _ (.of (.bl _))⟩
theorem opd_ne {k : Nat} (hr : Room k X.A) : OpD X (compareOp .NotEq) neD := by
  refine ⟨_, op_neP (by have := hr.un; omega), fun W σ Hs H x y a c Q e rx ry h => ?_⟩
  exact post_mk h fun hc h => ⟨a, c, rx.whole e, ry.whole e, hc, by rw [← eqvD_ok hc]; exact h.now e _ (.of (.bl _))⟩
/-- in, not in of tuples and lists -/
def inD (a : D) : D → Res D
  | .list xs => if (depOk a && allL depOk xs) = true then .ok (.bool (anyL (fun z => eqvD z a) xs)) else .bad
  | .tuple xs => if (depOk a && allL depOk xs) = true then .ok (.bool (anyL (fun z => eqvD z a) xs)) else .bad
  | _ => .bad
def notInD (a : D) : D → Res D
  | .list xs => if (depOk a && allL depOk xs) = true then .ok (.bool (!anyL (fun z => eqvD z a) xs)) else .bad
  | .tuple xs => if (depOk a && allL depOk xs) = true then .ok (.bool (!anyL (fun z => eqvD z a) xs)) else .bad
  | _ => .bad
def rInP (K : PySem.W.Frag) (neg : Bool) : R2 := fun x y H Q => ∃ d e, Rp K H x d ∧ Rp K H y e ∧ depOk d = true ∧ ∃ ds, (e = .list ds ∨ e = .tuple ds) ∧ Q (.bl (if neg then !(ds.any fun z => PyData.eqv z d) else ds.any fun z => PyData.eqv z d)) H
theorem min_depA {A : Around} {d : D} {ds : List D} (hu : A.units + 65 < cLine) (h : depOk d = true) : A.units + 1 + min (PyData.depthAll ds) d.depth < cLine := by
  have h1 : d.depth ≤ 31 := dpN_ok 30 d h
  have h2 : min (PyData.depthAll ds) d.depth ≤ d.depth := Nat.min_le_right _ _
  omega
theorem op_inP (hu : X.A.units + 65 < cLine) : OpR X (compareOp .In) (rInP X.K false) := by
  intro pins s σ H x y v u Q I rx ry h
  obtain ⟨d, e, hd, he, h1, ds, hh, q⟩ := h
  obtain ⟨as, r1⟩ := Dp.reads I d x v (Rp.dp hd) rx
  obtain ⟨bs, r2⟩ := Dp.reads I e y u (Rp.dp he) ry
  have hp := Rp.plain he
  rcases hh with rfl | rfl
  · simp only [PyData.plain] at hp
    exact SeqAt.in_list_data r2 r1 hp (Rp.plain hd) (min_depA hu h1) ⟨.bl _, H, I, rfl, q⟩
  · simp only [PyData.plain] at hp
    exact SeqAt.in_tuple_data r2 r1 hp (Rp.plain hd) (min_depA hu h1) ⟨.bl _, H, I, rfl, q⟩
theorem op_notInP (hu : X.A.units + 65 < cLine) : OpR X (compareOp .NotIn) (rInP X.K true) := by
  intro pins s σ H x y v u Q I rx ry h
  obtain ⟨d, e, hd, he, h1, ds, hh, q⟩ := h
  obtain ⟨as, r1⟩ := Dp.reads I d x v (Rp.dp hd) rx
  obtain ⟨bs, r2⟩ := Dp.reads I e y u (Rp.dp he) ry
  have hp := Rp.plain he
  rcases hh with rfl | rfl
  · simp only [PyData.plain] at hp
    exact SeqAt.notIn_list_data r2 r1 hp (Rp.plain hd) (min_depA hu h1) ⟨.bl _, H, I, rfl, q⟩
  · simp only [PyData.plain] at hp
    exact SeqAt.notIn_tuple_data r2 r1 hp (Rp.plain hd) (min_depA hu h1) ⟨.bl _, H, I, rfl, q⟩
theorem anyL_eqv {a : D} {xs : List D} (h : (depOk a && allL depOk xs) = true) : (depOk a = true) ∧ anyL (fun z => eqvD z a) xs = xs.any fun z => PyData.eqv z a := by
  rw [Bool.and_eq_true, allL_eq, List.all_eq_true] at h
  refine ⟨h.1, ?_⟩
  rw [anyL_eq]
  have go : ∀ ys : List D, (∀ z, z ∈ ys → depOk z = true) → (ys.any fun z => eqvD z a) = ys.any fun z => PyData.eqv z a := by
    intro ys
    induction ys with
    | nil => intro _; rfl
    | cons y ys ih =>
      intro hy
      rw [List.any_cons, List.any_cons, eqvD_ok (hy y (by simp)), ih fun z hz => hy z (by simp [hz])]
  exact go xs h.2
theorem opd_in {k : Nat} (hr : Room k X.A) : OpD X (compareOp .In) inD := by
  refine ⟨_, op_inP (by have := hr.un; omega), fun W σ Hs H x y a c Q e rx ry h => ?_⟩
  cases c with
  | list xs => exact post_mk h fun hc h => ⟨a, _, rx.whole e, ry.whole e, (anyL_eqv hc).1, xs, .inl rfl, by rw [← (anyL_eqv hc).2]; exact h.now e _ (.of (.bl _))⟩
  | tuple xs => exact post_mk h fun hc h => ⟨a, _, rx.whole e, ry.whole e, (anyL_eqv hc).1, xs, .inr rfl, by rw [← (anyL_eqv hc).2]; exact h.now e _ (.of (.bl _))⟩
  | _ => exact h.elim
theorem opd_notIn {k : Nat} (hr : Room k X.A) : OpD X (compareOp .NotIn) notInD := by
  refine ⟨_, op_notInP (by have := hr.un; omega), fun W σ Hs H x y a c Q e rx ry h => ?_⟩
  cases c with
  | list xs => exact post_mk h fun hc h => ⟨a, _, rx.whole e, ry.whole e, (anyL_eqv hc).1, xs, .inl rfl, by rw [← (anyL_eqv hc).2]; exact h.now e _ (.of (.bl _))⟩
  | tuple xs => exact post_mk h fun hc h => ⟨a, _, rx.whole e, ry.whole e, (anyL_eqv hc).1, xs, .inr rfl, by rw [← (anyL_eqv hc).2]; exact h.now e _ (.of (.bl _))⟩
  | _ => exact h.elim
/-- is, is not: None, True, False on the right -/
def isNoneD : D → Bool
  | .none => true
  | _ => false
def isD (a : D) : D → Res D
  | .none => .ok (.bool (isNoneD a))
  | .bool k => match a with | .bool i => .ok (.bool (decide (i = k))) | _ => .bad
  | _ => .bad
def isNotD (a : D) : D → Res D
  | .none => .ok (.bool (!isNoneD a))
  | .bool k => match a with | .bool i => .ok (.bool (!decide (i = k))) | _ => .bad
  | _ => .bad
theorem non_iff {Hs H : Hp} {x : V} {a : D} (rx : Rep true X.K Hs H x a) : decide (x = .non) = isNoneD a := by
  rcases rx with h | ⟨_, p, ds, vs, rfl, rfl, _⟩
  · cases h <;> rfl
  · rfl
theorem opd_is : OpD X (compareOp .Is) isD := by
  refine ⟨_, op_isN.or op_isBl, fun W σ Hs H x y a c Q e rx ry h => ?_⟩
  cases c with
  | none => exact .inl ⟨ry.none, by rw [non_iff rx]; exact h.now e _ (.of (.bl _))⟩
  | bool k =>
    cases a with
    | bool i => exact .inr ⟨i, k, rx.bool, ry.bool, h.now e _ (.of (.bl _))⟩
    | _ => exact h.elim
  | _ => exact h.elim
theorem opd_isNot : OpD X (compareOp .IsNot) isNotD := by
  refine ⟨_, op_notN.or op_notBl, fun W σ Hs H x y a c Q e rx ry h => ?_⟩
  cases c with
  | none =>
    refine .inl ⟨ry.none, ?_⟩
    rw [non_iff rx]
    exact h.now e _ (.of (.bl _))
  | bool k =>
    cases a with
    | bool i => exact .inr ⟨i, k, rx.bool, ry.bool, h.now e _ (.of (.bl _))⟩
    | _ => exact h.elim
  | _ => exact h.elim

/-! ### items and slices -/
def ixD : D → D → Res D
  | .list xs, .int i => match atI xs i with | some d => .ok d | none => .bad
  | .tuple xs, .int i => match atI xs i with | some d => .ok d | none => .bad
  | .str x, .int i => if small x.length = true then (match atI x.cps.toList i with | some c => .ok (.str ⟨#[c]⟩) | none => .bad) else .bad
  | _, _ => .bad
theorem atI_rp {H : Hp} {vs : List V} {ds : List D} {i : Int} {d : D} (r : RpAll X.K H vs ds) (h : atI ds i = some d) : ∃ v, atI vs i = some v ∧ Rp X.K H v d := by
  unfold atI at h ⊢
  rw [RpAll.len r]
  cases e : ixN ds.length i with
  | none => rw [e] at h; cases h
  | some j =>
    rw [e] at h
    exact RpAll.get r h
theorem de_ix {a c : Expr} {fa fb : DEnv → Res D} {b : Bool} {pos : Pos} (ha : DE X W true a fa) (hb : DE X W true c fb) (hs : PlainIx c := by exact fun _ _ => rfl) : DE X W b (.Subscript a c pos) (xOp ixD fa fb) := by
  obtain ⟨ta, pa, ha⟩ := ha.ex
  obtain ⟨tb, pb, hb⟩ := hb.ex
  refine ⟨tOp (rIx X.K) ta tb, pe_ix ix_seq pa pb hs, fun Hs0 H0 ρ σ Hs H Q e h => op_read (F := fun _ _ => pure .none) ?_ ha hb e h⟩
  intro W σ Hs H x y a c Q e rx ry h
  cases c with
  | int i =>
    have := ry.int
    subst this
    cases a with
    | list xs =>
      obtain ⟨p, vs, rfl, h1, r1⟩ := rx.list e
      change Post X.K false W σ Hs H Q (match atI xs i with | some d => .ok d | none => .bad) at h
      cases q : atI xs i with
      | none => rw [q] at h; exact h.elim
      | some d =>
        rw [q] at h
        obtain ⟨v, h2, h3⟩ := atI_rp r1 q
        exact .inl ⟨p, vs, i, v, rfl, rfl, h1, h2, h.now e _ (.of h3)⟩
    | tuple xs =>
      obtain ⟨p, vs, rfl, h1, r1⟩ := rx.tuple
      change Post X.K false W σ Hs H Q (match atI xs i with | some d => .ok d | none => .bad) at h
      cases q : atI xs i with
      | none => rw [q] at h; exact h.elim
      | some d =>
        rw [q] at h
        obtain ⟨v, h2, h3⟩ := atI_rp r1 q
        exact .inr (.inl ⟨p, vs, i, v, rfl, rfl, .inl (ex_td e h1), h2, h.now e _ (.of h3)⟩)
    | str z =>
      have := rx.str
      subst this
      change Post X.K false W σ Hs H Q (if small z.length = true then (match atI z.cps.toList i with | some c => .ok (.str ⟨#[c]⟩) | none => .bad) else .bad) at h
      refine post_mk h fun hz h => ?_
      cases q : atI z.cps.toList i with
      | none => rw [q] at h; exact h.elim
      | some c =>
        rw [q] at h
        exact .inr (.inr ⟨z, i, c, rfl, rfl, small_line hz, q, h.now e _ (.of (.str _))⟩)
    | _ => exact h.elim
  | _ => cases a <;> exact h.elim
/-- the part of a list between two places -/
def cutD (xs : List D) (lo hi : Option Int) : List D := (xs.drop (HT.sIx xs.length 0 lo)).take (HT.sIx xs.length xs.length hi - HT.sIx xs.length 0 lo)
theorem cutD_rp {H : Hp} {vs : List V} {ds : List D} (r : RpAll X.K H vs ds) (lo hi : Option Int) : RpAll X.K H (cutV vs lo hi) (cutD ds lo hi) := by
  unfold cutV cutD
  rw [RpAll.len r]
  exact RpAll.take _ (RpAll.drop _ r)
theorem cutD_whole {ds : List D} {lo hi : Option Int} (h : HT.sIx ds.length 0 lo = 0 ∧ HT.sIx ds.length ds.length hi = ds.length) : cutD ds lo hi = ds := by
  unfold cutD
  rw [h.1, h.2]
  simp
def slD (lo hi : Option Int) : D → Res D
  | .list xs => .ok (.list (cutD xs lo hi))
  | .tuple xs => .ok (.tuple (cutD xs lo hi))
  | .str x => if small x.length = true then .ok (.str (cutS x lo hi)) else .bad
  | _ => .bad
structure DO (X : Cx) (W : WD) (e : Option Expr) (f : DEnv → Res (Option Int)) : Prop where
  ex : ∃ t : TO, PO X e t ∧ ∀ Hs0 H0 ρ σ Hs H Q, EnvOk X.K Hs0 H0 ρ σ Hs H → PostA W σ Hs H (fun o _ H' => Q o H') (f ρ) → t σ H Q
def xNoPart : DEnv → Res (Option Int) := fun _ => .ok none
def asI : D → Res (Option Int)
  | .int i => .ok (some i)
  | _ => .bad
def rSlF (K : PySem.W.Frag) : V → Option Int → Option Int → Hp → VK → Prop := fun x lo hi H Q => ∃ a xs, x = .ref a ∧ SqT K H a xs ∧
  (HT.sIx xs.length 0 lo = 0 ∧ HT.sIx xs.length xs.length hi = xs.length → Q (.ref a) H) ∧ (¬ (HT.sIx xs.length 0 lo = 0 ∧ HT.sIx xs.length xs.length hi = xs.length) → ∀ (p : Addr) (ob : Obj), H p = none → ob.dict = none → Q (.ref p) (upd H p (.frz ob (.tup (cutV xs lo hi)))))
theorem sl_tupF : SlR X (rSlF X.K) := by
  intro pins s σ H x v vl vu lo hi sl Q I rx hs pl pu h
  obtain ⟨a, xs, rfl, hx, q1, q2⟩ := h
  cases rx
  obtain ⟨its, r, ht, hz⟩ := I.tuple hx
  have hn : its.toArray.size = xs.length := by rw [List.size_toArray]; exact r.length.symm
  refine ⟨"tuple", _, slot_tuple_getitem.lookup, ht.typeIs, ?_⟩
  by_cases hw : HT.sIx xs.length 0 lo = 0 ∧ HT.sIx xs.length xs.length hi = xs.length
  · exact getItem_tuple_whole ht hs pl pu (by rw [hn]; exact hw) ⟨.ref a, H, I, rfl, q1 hw⟩
  · refine HT.getItem_tuple_cut ht hs pl pu (by rw [hn]; exact hw) ?_ (by rw [hn]; exact hz)
    rw [hn]
    exact ⟨.ref s.heap.objs.size, _, I.laid (t' := s.toks) (o := .frz { cls := .type "tuple", data := .seq ((its.drop (HT.sIx xs.length 0 lo)).take (HT.sIx xs.length xs.length hi - HT.sIx xs.length 0 lo)).toArray } (.tup (cutV xs lo hi))) (fun b ob q => Heap.get?_push_of_some _ q) (Nat.le_refl _)
      ⟨Heap.get?_push_size _ rfl, Nat.le_trans (cutV_length xs lo hi) hz, _, (r.drop (HT.sIx xs.length 0 lo)).take (HT.sIx xs.length xs.length hi - HT.sIx xs.length 0 lo), IsTup.new _ _⟩, rfl, q2 hw _ _ (I.hok.fresh (Nat.le_refl _)) rfl⟩
def xPart (f : DEnv → Res D) : DEnv → Res (Option Int) := fun ρ => (f ρ).bind asI
theorem do_none : DO X W none xNoPart := ⟨tNoPart, po_none, fun Hs0 H0 ρ σ Hs H Q e h => h.now e.sub⟩
theorem do_some {e : Expr} {f : DEnv → Res D} (h : DE X W true e f) : DO X W (some e) (xPart f) := by
  obtain ⟨t, p, q⟩ := h.ex
  refine ⟨tPart t, po_some p, fun Hs0 H0 ρ σ Hs H Q e h => ?_⟩
  refine q _ _ ρ σ Hs H _ e (h.bind.mono fun x Hs1 H1 s1 h1 v rv => ?_)
  cases x with
  | int i => exact ⟨i, rv.int, h1.now s1.sub⟩
  | _ => exact h1.elim
def xSl (fa : DEnv → Res D) (fl fh : DEnv → Res (Option Int)) : DEnv → Res D := fun ρ => (fa ρ).bind fun x => (fl ρ).bind fun lo => (fh ρ).bind fun hi => slD lo hi x
theorem de_sl {a : Expr} {lo hi : Option Expr} {fa : DEnv → Res D} {fl fh : DEnv → Res (Option Int)} {b : Bool} {pos p2 : Pos} (ha : DE X W true a fa) (hl : DO X W lo fl) (hh : DO X W hi fh) : DE X W b (.Subscript a (.Slice lo hi none p2) pos) (xSl fa fl fh) := by
  obtain ⟨ta, pa, qa⟩ := ha.ex
  obtain ⟨tl, pl, ql⟩ := hl.ex
  obtain ⟨th, ph, qh⟩ := hh.ex
  refine ⟨tSl _ ta tl th, pe_slice (sl_list.or (sl_tupF.or sl_str)) pa pl ph, fun Hs0 H0 ρ σ Hs H Q e h => ?_⟩
  refine qa _ _ ρ σ Hs H _ e (h.bind.mono fun x Hs1 H1 s1 h1 v rv => ?_)
  refine ql _ _ ρ σ Hs1 H1 _ (e.step s1) (h1.bind.mono fun lo Hs2 H2 s2 h2 => ?_)
  refine qh _ _ ρ σ Hs2 H2 _ ((e.step s1).step s2) (h2.bind.mono fun hi Hs3 H3 s3 h3 => ?_)
  have rv := (rv.step s2).step s3
  have e3 := s3.sub
  cases x with
  | list xs =>
    obtain ⟨p, vs, rfl, q1, r1⟩ := rv.list e3
    exact .inl ⟨p, vs, rfl, q1, fun p hp => mkL_post h3 e3 (cutD_rp r1 lo hi) hp⟩
  | tuple xs =>
    obtain ⟨p, vs, rfl, q1, r1⟩ := rv.tuple
    refine .inr (.inl ⟨p, vs, rfl, .inl (ex_td e3 q1), fun hw => ?_, fun _ p ob hp ho => mkT_post h3 e3 (cutD_rp r1 lo hi) hp ho⟩)
    have h3' : Post X.K b W σ Hs3 H3 Q (.ok (.tuple (cutD xs lo hi))) := h3
    rw [cutD_whole (by rw [← RpAll.len r1]; exact hw)] at h3'
    exact h3'.now e3 _ (.of (.tup q1 r1))
  | str z =>
    have := rv.str
    subst this
    exact post_mk h3 fun hz h3 => .inr (.inr ⟨z, rfl, small_line hz, h3.now e3 _ (.of (.str _))⟩)
  | _ => exact h3.elim
end
end SB
end
end

section
set_option Elab.async false
set_option linter.all false
set_option maxRecDepth 100000
set_option maxHeartbeats 2000000
noncomputable section
namespace SB
open PySem PySem.Spec L2 Evl PyProof.Rows

/-! ### calls of built-ins -/
structure CallD (X : Cx) (f : Value) (g : List D → Res D) : Prop where
  ex : ∃ r : List V → Hp → VK → Prop, CallR X f r ∧ ∀ (W : WD) (σ : L2.St) (Hs H : Hp) (vs : List V) (ds : List D) (Q : VK), Ex Hs H → RpsAll true X.K Hs H vs ds → Post X.K false W σ Hs H Q (g ds) → r vs H Q
def xCall (g : List D → Res D) (fs : DEnv → Res (List D)) : DEnv → Res D := fun ρ => (fs ρ).bind g
section
variable {X : Cx} {W : WD} {b : Bool} {x : Str} {e : Expr} {es : List Expr} {p pos : Pos} {fs : DEnv → Res (List D)} {g : List D → Res D}
theorem de_callB {id : String} (hc : CallD X (.builtin id) g) (hg : Gl X x) (hm : X.mg x = none) (hv : bootBuiltins x = some (.builtin id)) (ha : DA X W true (e :: es) fs) (hn : x ≠ "__name__" := by decide) (hdb : (x == ("__debug__" : Str)) = false := by decide)
    (he : starEach (e :: es) X.env = (false, eval e X.env) :: starEach es X.env := by rfl) (hpl : (backTo pos (starEach es X.env)).any (·.1) = false := by rfl) : DE X W b (.Call (.Name x p) (e :: es) [] pos) (xCall g fs) := by
  obtain ⟨r, hr, q⟩ := hc.ex
  obtain ⟨t, pt, qa⟩ := ha.ex
  refine ⟨tCB r t, pe_callB hr hg hm hv pt hn hdb he hpl, fun Hs0 H0 ρ σ Hs H Q e h => ?_⟩
  have h' : Post X.K false W σ Hs H Q (xCall g fs ρ) := h.mono fun d Hs' H' _ k v rv => k v (.inl rv.rp)
  exact qa _ _ ρ σ Hs H _ e (h'.bind.mono fun ds Hs1 H1 s1 h1 vs rvs => q W σ Hs1 H1 vs ds Q s1.sub rvs h1)
theorem de_callTy {T : String} (hc : CallD X (.type T) g) (hg : Gl X x) (hm : X.mg x = none) (hv : bootBuiltins x = some (.type T)) (ha : DA X W true (e :: es) fs) (hn : x ≠ "__name__" := by decide) (hdb : (x == ("__debug__" : Str)) = false := by decide)
    (he : starEach (e :: es) X.env = (false, eval e X.env) :: starEach es X.env := by rfl) (hpl : (backTo pos (starEach es X.env)).any (·.1) = false := by rfl) : DE X W b (.Call (.Name x p) (e :: es) [] pos) (xCall g fs) := by
  obtain ⟨r, hr, q⟩ := hc.ex
  obtain ⟨t, pt, qa⟩ := ha.ex
  refine ⟨tCB r t, pe_callTy hr hg hm hv pt hn hdb he hpl, fun Hs0 H0 ρ σ Hs H Q e h => ?_⟩
  have h' : Post X.K false W σ Hs H Q (xCall g fs ρ) := h.mono fun d Hs' H' _ k v rv => k v (.inl rv.rp)
  exact qa _ _ ρ σ Hs H _ e (h'.bind.mono fun ds Hs1 H1 s1 h1 vs rvs => q W σ Hs1 H1 vs ds Q s1.sub rvs h1)
end
section
variable {X : Cx} {W : WD}
theorem rps1 {b : Bool} {Hs H : Hp} {vs : List V} {d : D} (h : RpsAll b X.K Hs H vs [d]) : ∃ v, vs = [v] ∧ Rep b X.K Hs H v d := by
  cases h with
  | cons h1 h2 => cases h2; exact ⟨_, rfl, h1⟩
theorem rps2 {b : Bool} {Hs H : Hp} {vs : List V} {d d' : D} (h : RpsAll b X.K Hs H vs [d, d']) : ∃ v v', vs = [v, v'] ∧ Rep b X.K Hs H v d ∧ Rep b X.K Hs H v' d' := by
  cases h with
  | cons h1 h2 =>
    obtain ⟨v', rfl, h3⟩ := rps1 h2
    exact ⟨_, v', rfl, h1, h3⟩
def on1 (g : D → Res D) : List D → Res D
  | [d] => g d
  | _ => .bad
def on2 (g : D → D → Res D) : List D → Res D
  | [d, d'] => g d d'
  | _ => .bad
theorem cd1 {f : Value} {g : D → Res D} {r : List V → Hp → VK → Prop} (hr : CallR X f r) (k : ∀ (W : WD) (σ : L2.St) (Hs H : Hp) (v : V) (d : D) (Q : VK), Ex Hs H → Rep true X.K Hs H v d → Post X.K false W σ Hs H Q (g d) → r [v] H Q) : CallD X f (on1 g) := by
  refine ⟨r, hr, fun W σ Hs H vs ds Q e q h => ?_⟩
  cases ds with
  | nil => exact False.elim h
  | cons d tl =>
    cases tl with
    | nil =>
      obtain ⟨v, rfl, rv⟩ := rps1 q
      exact k W σ Hs H v d Q e rv h
    | cons _ _ => exact False.elim h
theorem cd2 {f : Value} {g : D → D → Res D} {r : List V → Hp → VK → Prop} (hr : CallR X f r) (k : ∀ (W : WD) (σ : L2.St) (Hs H : Hp) (v v' : V) (d d' : D) (Q : VK), Ex Hs H → Rep true X.K Hs H v d → Rep true X.K Hs H v' d' → Post X.K false W σ Hs H Q (g d d') → r [v, v'] H Q) : CallD X f (on2 g) := by
  refine ⟨r, hr, fun W σ Hs H vs ds Q e q h => ?_⟩
  cases ds with
  | nil => exact False.elim h
  | cons d tl =>
    cases tl with
    | nil => exact False.elim h
    | cons d' tl =>
      cases tl with
      | nil =>
        obtain ⟨v, v', rfl, rv, rv'⟩ := rps2 q
        exact k W σ Hs H v v' d d' Q e rv rv' h
      | cons _ _ => exact False.elim h
def lenD : D → Res D
  | .tuple xs => .ok (.int xs.length)
  | .list xs => .ok (.int xs.length)
  | .str x => if small x.length = true then .ok (.int x.length) else .bad
  | _ => .bad
theorem cd_len : CallD X (.builtin "len") (on1 lenD) := by
  refine cd1 (call_len_seq.or call_len_str) fun W σ Hs H v d Q e rv h => ?_
  cases d with
  | tuple xs =>
    obtain ⟨p, ws, rfl, h1, r1⟩ := rv.tuple
    refine .inl ⟨p, ws, rfl, .inr (.inl (ex_td e h1)), ?_⟩
    rw [RpAll.len r1]
    exact h.now e _ (.of (.int _))
  | list xs =>
    obtain ⟨p, ws, rfl, h1, r1⟩ := rv.list e
    refine .inl ⟨p, ws, rfl, .inl h1, ?_⟩
    rw [RpAll.len r1]
    exact h.now e _ (.of (.int _))
  | str z =>
    have := rv.str
    subst this
    exact post_mk h fun hz h => .inr ⟨z, rfl, small_line hz, h.now e _ (.of (.int _))⟩
  | _ => exact h.elim
/-- tuple(x), list(x) -/
def tupleD : D → Res D
  | .tuple xs => .ok (.tuple xs)
  | .list xs => .ok (.tuple xs)
  | _ => .bad
def listD : D → Res D
  | .tuple xs => .ok (.list xs)
  | .list xs => .ok (.list xs)
  | _ => .bad
theorem call_tupleF : CallR X (.type "tuple") (fun xs H Q => ∃ p ys, xs = [.ref p] ∧ ((SqL X.K H p ys ∧ ∀ (l : Addr) (ob : Obj), H l = none → ob.dict = none → Q (.ref l) (upd H l (.frz ob (.tup ys)))) ∨ (SqT X.K H p ys ∧ Q (.ref p) H))) := by
  intro pn st σ G xs us Q J r hh
  obtain ⟨p, ys, rfl, hh⟩ := hh
  obtain ⟨u, rfl, ru⟩ := vals1 r
  cases ru
  rcases hh with ⟨sq, q⟩ | ⟨sq, q⟩
  · obtain ⟨vals, rel, pl, few⟩ := J.list sq
    have ln := rel.length
    refine call_tuple_list pl.isList (fun hp kp => ?_) (by simp only [List.size_toArray] <;> omega)
    have J1 : Inv X pn σ G { st with heap := hp } := J.kept (t' := st.toks) kp
    have J2 := J1.laid (t' := st.toks) (o := .frz { cls := .type "tuple", data := .seq vals.toArray } (.tup ys)) (fun b o e => Heap.get?_push_of_some _ e) (Nat.le_refl _) ⟨Heap.get?_push_size _ rfl, few, vals, rel, IsTup.new _ _⟩
    exact ⟨.ref hp.objs.size, _, J2, rfl, q _ _ (J1.hok.fresh (Nat.le_refl _)) rfl⟩
  · obtain ⟨vals, rel, pl, _⟩ := J.tuple sq
    exact call_tuple_same pl ⟨.ref p, G, J, rfl, q⟩
theorem cd_tuple : CallD X (.type "tuple") (on1 tupleD) := by
  refine cd1 call_tupleF fun W σ Hs H v d Q e rv h => ?_
  cases d with
  | tuple xs =>
    obtain ⟨p, ws, rfl, h1, r1⟩ := rv.tuple
    exact ⟨p, ws, rfl, .inr ⟨.inl (ex_td e h1), h.now e _ (.of (.tup h1 r1))⟩⟩
  | list xs =>
    obtain ⟨p, ws, rfl, h1, r1⟩ := rv.list e
    exact ⟨p, ws, rfl, .inl ⟨h1, fun l ob hl ho => mkT_post h e r1 hl ho⟩⟩
  | _ => exact h.elim
theorem cd_list : CallD X (.type "list") (on1 listD) := by
  refine cd1 call_list_of fun W σ Hs H v d Q e rv h => ?_
  cases d with
  | tuple xs =>
    obtain ⟨p, ws, rfl, h1, r1⟩ := rv.tuple
    exact ⟨p, ws, rfl, .inr (.inl (ex_td e h1)), fun l hl => mkL_post h e r1 hl⟩
  | list xs =>
    obtain ⟨p, ws, rfl, h1, r1⟩ := rv.list e
    exact ⟨p, ws, rfl, .inl h1, fun l hl => mkL_post h e r1 hl⟩
  | _ => exact h.elim
/-- the ints of a list of data -/
def intsOf : List D → Option (List Int)
  | [] => some []
  | .int i :: r => (intsOf r).map (i :: ·)
  | _ => none
theorem intsOf_map (ns : List Int) : intsOf (ns.map .int) = some ns := by
  induction ns with
  | nil => rfl
  | cons n r ih => simp [intsOf, ih]
theorem intsOf_rp {H : Hp} : ∀ {vs : List V} {ds : List D} {ns : List Int}, RpAll X.K H vs ds → intsOf ds = some ns → vs = ns.map V.int
  | _, _, ns, .nil, e => by cases e; rfl
  | _, _, ns, .cons (ds := ds) h r, e => by
    cases h with
    | int i =>
      simp only [intsOf] at e
      cases q : intsOf ds with
      | none => rw [q] at e; cases e
      | some ms =>
        rw [q] at e
        cases e
        rw [intsOf_rp r q]
        rfl
    | _ => cases e
def sumD : D → Res D
  | .tuple xs => match intsOf xs with | some ns => .ok (.int ns.sum) | none => .bad
  | .list xs => match intsOf xs with | some ns => .ok (.int ns.sum) | none => .bad
  | _ => .bad
def rSumT (K : PySem.W.Frag) : List V → Hp → VK → Prop := fun vs H Q => ∃ (a : Addr) (ns : List Int), vs = [V.ref a] ∧ SqT K H a (ns.map V.int) ∧ Q (.int ns.sum) H
theorem cr_sumT (hc : X.calm = true) : CallR X (.builtin "sum") (rSumT X.K) := by
  intro pins s σ H vs us Q I r h
  obtain ⟨a, ns, rfl, hs, q⟩ := h
  obtain ⟨its, rv, hl, _⟩ := I.tuple hs
  rw [Vals.ref1 r]
  have hi := rv.ints
  obtain ⟨xs, hx⟩ := hi.allInts.items
  have hn : numsOf its.toArray.toList = ns := by rw [show its.toArray.toList = its from rfl, hi.numsOf]
  rw [hx] at hl hn
  rw [nums_intItems] at hn
  refine PySem.W.ktm_sumG (I.ok.hd hc) hl fun h' tk t' hk => ?_
  rw [PySem.preSum_eq, List.take_of_length_le (by simp), hn]
  exact ⟨.int _, H, I.kept hk, ⟨_, rfl⟩, q⟩
theorem cd_sum (hc : X.calm = true) : CallD X (.builtin "sum") (on1 sumD) := by
  refine cd1 ((cr_sum hc).or (cr_sumT hc)) fun W σ Hs H v d Q e rv h => ?_
  cases d with
  | tuple xs =>
    obtain ⟨p, ws, rfl, h1, r1⟩ := rv.tuple
    change Post X.K false W σ Hs H Q (match intsOf xs with | some ns => .ok (.int ns.sum) | none => .bad) at h
    cases q : intsOf xs with
    | none => rw [q] at h; exact h.elim
    | some ns =>
      rw [q] at h
      have := intsOf_rp r1 q
      subst this
      exact .inr ⟨p, ns, rfl, .inl (ex_td e h1), h.now e _ (.of (.int _))⟩
  | list xs =>
    obtain ⟨p, ws, rfl, h1, r1⟩ := rv.list e
    change Post X.K false W σ Hs H Q (match intsOf xs with | some ns => .ok (.int ns.sum) | none => .bad) at h
    cases q : intsOf xs with
    | none => rw [q] at h; exact h.elim
    | some ns =>
      rw [q] at h
      have := intsOf_rp r1 q
      subst this
      exact .inl ⟨p, ns, rfl, h1, h.now e _ (.of (.int _))⟩
  | _ => exact h.elim
end
end SB
end
end

section
set_option Elab.async false
set_option linter.all false
set_option maxRecDepth 100000
set_option maxHeartbeats 2000000
noncomputable section
namespace SB
open PySem PySem.Spec L2 Evl PyProof.Rows

/-! ### what is walked -/
/-- the iterator J gives the items, as long as the shared things stand (b: all things) -/
def Walked (K : PySem.W.Frag) (b : Bool) (items : List D) (Hs1 H1 : Hp) (J : It) : Prop :=
  ∃ G Y, Walk J items.length G Y ∧ (∀ H', Ex Hs1 H' → (b = true → Ex H1 H') → G H') ∧
    ∀ (i : Nat) (x : V) (Hs' H' H'' : Hp), Ex Hs1 Hs' → Ex Hs' H' → i < items.length → Y i H' x H'' → ∃ Hs'', Step Hs' H' Hs'' H'' ∧ ∃ d, items[i]? = some d ∧ Rp K Hs'' x d
structure DI (X : Cx) (W : WD) (b : Bool) (tg iter : Expr) (f : DEnv → Res (List D)) : Prop where
  ex : ∃ wi : TI, PI X tg iter wi ∧ ∀ Hs0 H0 ρ σ Hs H R, EnvOk X.K Hs0 H0 ρ σ Hs H → PostA W σ Hs H (fun items Hs1 H1 => ∀ J, Walked X.K b items Hs1 H1 J → R J H1) (f ρ) → wi σ H R
section
variable {X : Cx} {W : WD} {b : Bool} {tg : Expr}
theorem pi_or {iter : Expr} {w1 w2 : TI} (h1 : PI X tg iter w1) (h2 : PI X tg iter w2) : PI X tg iter (fun σ H R => w1 σ H R ∨ w2 σ H R) :=
  ⟨fun pins s σ H R I h => h.elim (fun h => h1.run pins s σ H R I h) fun h => h2.run pins s σ H R I h⟩
theorem walked_at {items : List D} {Hs1 H1 : Hp} {J : It} {G : Hp → Prop} {xs : List V} (r : RpAll X.K Hs1 xs items) (w : Walk J xs.length G (YAt xs)) (g : ∀ H', Ex Hs1 H' → (b = true → Ex H1 H') → G H') : Walked X.K b items Hs1 H1 J := by
  refine ⟨G, YAt xs, by rw [← RpAll.len r]; exact w, g, fun i x Hs' H' H'' e1 e2 hi y => ?_⟩
  obtain ⟨rfl, hx⟩ := y
  obtain ⟨d, h1, h2⟩ := RpAll.getV r hx
  exact ⟨Hs', Step.refl e2, d, h1, Rp.ex e1 h2⟩
/-- the items of a list, a tuple, a text -/
def itemsD : D → Res (List D)
  | .list xs => .ok xs
  | .tuple xs => .ok xs
  | .str x => .ok (x.cps.toList.map fun c => .str ⟨#[c]⟩)
  | _ => .bad
def xItems (f : DEnv → Res D) : DEnv → Res (List D) := fun ρ => (f ρ).bind itemsD
theorem rep_list_g {Hs H : Hp} {v : V} {ds : List D} (e : Ex Hs H) (h : Rep b X.K Hs H v (.list ds)) : ∃ a vs, v = .ref a ∧ SqL X.K H a vs ∧ RpAll X.K Hs vs ds ∧ ∀ H', Ex Hs H' → (b = true → Ex H H') → SqL X.K H' a vs := by
  rcases h with h | ⟨hb, a, es, vs, rfl, q, h1, h2⟩
  · cases h with
    | lst h1 h2 => exact ⟨_, _, rfl, ex_l e h1, h2, fun H' x _ => ex_l x h1⟩
  · cases q
    exact ⟨a, vs, rfl, sq_of h1, h2, fun H' _ y => sq_of (y hb _ _ h1)⟩
theorem walked_str {x : Str} {Hs1 H1 : Hp} : Walked X.K b (x.cps.toList.map fun c => (PyData.str ⟨#[c]⟩ : D)) Hs1 H1 (Its x) := by
  have e0 : (x.cps.toList.map fun c => (PyData.str ⟨#[c]⟩ : D)).length = x.cps.size := by simp
  have w := walk_str (z := x)
  rw [← e0] at w
  refine ⟨_, _, w, fun _ _ _ => trivial, fun i y Hs' H' H'' e1 e2 hi yy => ?_⟩
  obtain ⟨rfl, c, hc, rfl⟩ := yy
  exact ⟨Hs', Step.refl e2, .str ⟨#[c]⟩, by simp [hc], .str _⟩
theorem di_seq {iter : Expr} {f : DEnv → Res D} (h : DE X W b iter f) : DI X W b tg iter (xItems f) := by
  obtain ⟨t, p, q⟩ := h.ex
  refine ⟨_, pi_or (pi_list p) (pi_or (pi_tup p) (pi_str p)), fun Hs0 H0 ρ σ Hs H R e h => ?_⟩
  have hb := h.bind
  cases hf : f ρ with
  | bad => rw [hf] at hb; exact hb.elim
  | exc c =>
    rw [hf] at hb
    refine .inl (q _ _ ρ σ Hs H _ e ?_)
    rw [hf]
    exact hb
  | ok d =>
    rw [hf] at hb
    cases d with
    | list xs =>
      refine .inl (q _ _ ρ σ Hs H _ e ?_)
      rw [hf]
      intro Hs1 H1 s1 v rv
      have k := (hb Hs1 H1 s1).now s1.sub
      obtain ⟨p, vs, rfl, h1, r1, g⟩ := rep_list_g s1.sub rv
      exact ⟨p, rfl, ⟨vs, h1⟩, k _ (walked_at (X := X) r1 walk_list fun H' a c => g H' a c)⟩
    | tuple xs =>
      refine .inr (.inl (q _ _ ρ σ Hs H _ e ?_))
      rw [hf]
      intro Hs1 H1 s1 v rv
      have k := (hb Hs1 H1 s1).now s1.sub
      obtain ⟨p, vs, rfl, h1, r1⟩ := rv.tuple
      exact ⟨p, rfl, ⟨vs, .inl (ex_td s1.sub h1)⟩, k _ (walked_at r1 walk_tup fun H' a c => .inl (ex_td a h1))⟩
    | str x =>
      refine .inr (.inr (q _ _ ρ σ Hs H _ e ?_))
      rw [hf]
      intro Hs1 H1 s1 v rv
      have k := (hb Hs1 H1 s1).now s1.sub
      have := rv.str
      subst this
      exact ⟨x, rfl, k _ walked_str⟩
    | _ => exact ((hb Hs H (Step.refl e.sub)) : False).elim
/-! ranges -/
def big : Int → Bool
  | .ofNat n => Nat.ble n 1000000000000
  | .negSucc n => Nat.ble n 1000000000000
theorem big_ok {i : Int} (h : big i = true) : -(2 ^ 62) ≤ i ∧ i < 2 ^ 62 := by
  cases i with
  | ofNat n =>
    have h1 : n ≤ 1000000000000 := Nat.le_of_ble_eq_true h
    exact ⟨by simp only [Int.ofNat_eq_natCast]; omega, by simp only [Int.ofNat_eq_natCast]; omega⟩
  | negSucc n =>
    have h1 : n ≤ 1000000000000 := Nat.le_of_ble_eq_true h
    exact ⟨by omega, by omega⟩
/-- lo, lo + 1, .. (n of them); by steps of c -/
def upFrom (lo : Int) (n : Nat) : List D := (List.range n).map fun (i : Nat) => (PyData.int (lo + (i : Int)) : D)
def stepFrom (lo c : Int) (n : Nat) : List D := (List.range n).map fun (i : Nat) => (PyData.int (lo + (i : Int) * c) : D)
theorem walked_fn {items : List D} {Hs1 H1 : Hp} {J : It} {n : Nat} {f : Nat → Int} (hn : items = (List.range n).map fun (i : Nat) => (PyData.int (f i) : D)) (w : Walk J n (fun _ => True) (YFn fun i => .int (f i))) : Walked X.K b items Hs1 H1 J := by
  subst hn
  refine ⟨_, _, by rw [List.length_map, List.length_range]; exact w, fun _ _ _ => trivial, fun i x Hs' H' H'' e1 e2 hi y => ?_⟩
  obtain ⟨rfl, rfl⟩ := y
  rw [List.length_map, List.length_range] at hi
  exact ⟨Hs', Step.refl e2, .int (f i), by simp [hi], .int _⟩
def range1D : List D → Res (List D)
  | [.int n] => if big n = true then .ok (upFrom 0 n.toNat) else .bad
  | _ => .bad
def range2D : List D → Res (List D)
  | [.int i, .int j] => if (big i && big j) = true then .ok (upFrom i (j - i).toNat) else .bad
  | _ => .bad
def xIt (g : List D → Res (List D)) (fs : DEnv → Res (List D)) : DEnv → Res (List D) := fun ρ => (fs ρ).bind g
variable {fs : DEnv → Res (List D)} {p pos : Pos}
theorem di_range1 {a : Expr} (hg : Gl X "range") (hm : X.mg "range" = none) (ha : DA X W true [a] fs) (hs : starEach [a] X.env = [(false, eval a X.env)] := by rfl) : DI X W b tg (.Call (.Name "range" p) [a] [] pos) (xIt range1D fs) := by
  obtain ⟨t, pt, q⟩ := ha.ex
  refine ⟨_, pi_range1 hg hm pt hs, fun Hs0 H0 ρ σ Hs H R e h => ?_⟩
  refine q _ _ ρ σ Hs H _ e (h.bind.mono fun ds Hs1 H1 s1 h1 vs rv => ?_)
  match ds, rv, h1 with
  | [.int n], rv, h1 =>
    obtain ⟨v, rfl, r⟩ := rps1 rv
    have := r.int
    subst this
    refine post_mk h1 fun hb h1 => ⟨n, rfl, (big_ok hb).1, (big_ok hb).2, h1.now s1.sub _ (walked_fn rfl walk_range)⟩
theorem di_range2 {a c : Expr} (hg : Gl X "range") (hm : X.mg "range" = none) (ha : DA X W true [a, c] fs) (hs : starEach [a, c] X.env = [(false, eval a X.env), (false, eval c X.env)] := by rfl) (hs2 : starEach [c] X.env = [(false, eval c X.env)] := by rfl) :
    DI X W b tg (.Call (.Name "range" p) [a, c] [] pos) (xIt range2D fs) := by
  obtain ⟨t, pt, q⟩ := ha.ex
  refine ⟨_, pi_range2 hg hm pt hs hs2, fun Hs0 H0 ρ σ Hs H R e h => ?_⟩
  refine q _ _ ρ σ Hs H _ e (h.bind.mono fun ds Hs1 H1 s1 h1 vs rv => ?_)
  match ds, rv, h1 with
  | [.int i, .int j], rv, h1 =>
    obtain ⟨v, v', rfl, r, r'⟩ := rps2 rv
    have := r.int
    subst this
    have := r'.int
    subst this
    refine post_mk h1 fun hb h1 => ?_
    rw [Bool.and_eq_true] at hb
    exact ⟨i, j, rfl, ⟨(big_ok hb.1).1, (big_ok hb.1).2, (big_ok hb.2).1, (big_ok hb.2).2⟩, h1.now s1.sub _ (walked_fn rfl walk_range)⟩
/-! pairs: enumerate, zip -/
def YPairF (xs ys : Nat → Option V) : Nat → Hp → V → Hp → Prop := fun i H v H' => ∃ (T : Addr) (x y : V) (ob : Obj), v = .ref T ∧ H T = none ∧ ob.dict = none ∧ H' = upd H T (.frz ob (.tup [x, y])) ∧ xs i = some x ∧ ys i = some y
theorem walked_pair {items : List D} {Hs1 H1 : Hp} {J : It} {G : Hp → Prop} {n : Nat} {xs ys : Nat → Option V} (hn : n = items.length) (w : Walk J n G (YPairF xs ys)) (g : ∀ H', Ex Hs1 H' → (b = true → Ex H1 H') → G H')
    (hi : ∀ i x y, i < n → xs i = some x → ys i = some y → ∃ d e, items[i]? = some (.tuple [d, e]) ∧ Rp X.K Hs1 x d ∧ Rp X.K Hs1 y e) : Walked X.K b items Hs1 H1 J := by
  subst hn
  refine ⟨G, _, w, g, fun i v Hs' H' H'' e1 e2 h y => ?_⟩
  obtain ⟨T, x, y, ob, rfl, hT, ho, rfl, h1, h2⟩ := y
  obtain ⟨d, e, h3, h4, h5⟩ := hi i x y h h1 h2
  refine ⟨_, Step.new e2 hT, _, h3, .tup (tat_of upd_same ho) (.cons ?_ (.cons ?_ .nil))⟩
  · exact Rp.ex (e1.trans (Ex.new (sub_none e2 hT))) h4
  · exact Rp.ex (e1.trans (Ex.new (sub_none e2 hT))) h5
def enumFrom (k : Int) : List D → List D
  | [] => []
  | d :: r => .tuple [.int k, d] :: enumFrom (k + 1) r
theorem enumFrom_len : ∀ (k : Int) (ds : List D), (enumFrom k ds).length = ds.length
  | _, [] => rfl
  | k, d :: r => by simp [enumFrom, enumFrom_len (k + 1) r]
theorem enumFrom_get : ∀ (k : Int) (ds : List D) (i : Nat) (d : D), ds[i]? = some d → (enumFrom k ds)[i]? = some (.tuple [.int (k + (i : Int)), d])
  | _, [], i, d, h => by simp at h
  | k, d' :: r, 0, d, h => by
    simp at h
    subst h
    simp [enumFrom]
  | k, d' :: r, i + 1, d, h => by
    simp only [List.getElem?_cons_succ] at h
    simp only [enumFrom, List.getElem?_cons_succ]
    rw [enumFrom_get (k + 1) r i d h]
    have : k + 1 + (i : Int) = k + ((i + 1 : Nat) : Int) := by omega
    rw [this]
/-! enumerate(tuple): the tuple's own iterator within an enumerate object -/
def IteT (K : PySem.W.Frag) (tp : Addr) : It where
  go := fun k H => ∃ (items : List V) (v : V), SqT K H tp items ∧ items[k]? = some v
  yld := fun k H v H' => ∃ (pr : Addr) (y : V) (ob : Obj), v = .ref pr ∧ H pr = none ∧ ob.dict = none ∧ H' = upd H pr (.frz ob (.tup [.int (k : Nat), y])) ∧ ∀ items, SqT K H tp items → items[k]? = some y
  stop := fun k H => ∃ items : List V, SqT K H tp items ∧ items.length ≤ k
theorem enumT_end {prog : Program} {w : World} {A : Around} {E : Value → Shared → Prop} {s : Shared} {en it tp : Addr} {k : Nat} {vals : Array Value} {prev : Value} {Q : Option Value → Shared → Prop} (calm : A.handled = none)
    (hen : IsEnum s.heap en it k prev) (hit : s.heap.IsTupleIter it tp k) (htp : s.heap.IsTuple tp vals) (none : vals[k]? = none) (fin : ∀ h', Heap.ExtBut it s.heap h' → Q Option.none { s with heap := h' }) : wpAny (model prog w) A (pyNext (.ref en)) Q E s := by
  unfold pyNext
  have ty : s.TypeIs (.ref en) "enumerate" := ⟨_, hen, rfl⟩
  apply wpAny_bind
  apply wpAny_attempt
  apply wpAny_callSpecial?_slot (name := Str.ofString "__next__") ty F.slot_enumerate_next
  refine wpAny_call_entry F.slot_enumerate_next ty F.entry_enumerate_next ?_ (F.args_enumerate_next_1 _)
  show wpAny _ _ (field (.ref en) 2 >>= _) _ _ _
  refine wpAny_bind (wpAny_field hen rfl (x := .ref it) rfl (wpAny_bind (wpAny_nextOf_tuple_end calm hit htp none fun h' ex keep here => ?_)))
  obtain ⟨ob, g1, g2⟩ := here
  exact wpAny_bind (wpAny_isInstance (T := "StopIteration") (b := true) ⟨ob, g1, g2⟩ isSubtype_stop (wpAny_pure (fin _ keep)))
theorem two_of {b en it : Addr} (h : b ∈ [en, it]) : b = en ∨ b = it := by simpa using h
theorem turn_enumT {P : Program} {w : World} {K : PySem.W.Frag} {elts : List Expr} {n1 : Nat} {q1 : Pos} (tp en it : Addr) (d1 : tp ≠ it) (d2 : tp ≠ en) :
    Turn P w K (.Tuple elts n1 q1) (IteT K tp) [en, it] en (fun k h => (∃ prev, IsEnum h en it ((k : Nat) : Int) prev) ∧ h.IsTupleIter it tp k ∧ en ≠ it) where
  mem := List.mem_cons_self
  obj := by
    rintro k h ⟨⟨prev, g1⟩, ⟨ob, g2, g3, g4⟩, _⟩ b hb
    rcases two_of hb with rfl | rfl
    · exact ⟨_, g1, by intro v q; cases q⟩
    · exact ⟨ob, g2, by intro v q; rw [g4] at q; cases q⟩
  keep := by
    rintro k h h' ⟨⟨prev, g1⟩, g2, g3⟩ kp
    exact ⟨⟨prev, kp en (by simp) _ g1⟩, g2.at fun ob z => kp it (by simp) ob z, g3⟩
  item := by
    rintro X rfl rfl rfl calm k pins s σ H E I fp ⟨⟨prev, g1⟩, g2, g3⟩ ⟨items, v, sq, at_⟩
    obtain ⟨vals, rel, tup, _⟩ := I.tuple sq
    obtain ⟨u, u1, u2⟩ := rel.get at_
    have enOld : en < s.heap.objs.size := Heap.lt_size g1
    have itOld : it < s.heap.objs.size := by
      obtain ⟨ob, z, _⟩ := g2
      exact Heap.lt_size z
    have inn : k < vals.toArray.size := by simpa using (List.getElem?_eq_some_iff.mp u1).1
    refine wpAny_pyNext_enum_itemD (Draws.tuple (show X.A.in1.handled = none from I.ok.hd calm) it tp d1 vals.toArray) g1 ⟨g2, tup⟩ inn g3 (by simp [g3, Ne.symm d2]) fun y h1 tk got out after pr _ kp => ⟨_, rfl, ?_⟩
    have same : y = u := by
      have z : vals.toArray[k]? = some y := got
      have z2 : vals.toArray[k]? = some u := by simpa using u1
      exact Option.some.inj (z.symm.trans z2)
    subst same
    refine wpAny_letOwnedTupleGo_enum (s := { s with heap := h1, toks := tk + 1 }) out fun h2 en2 but => ?_
    have fz := (but.2 _ (Nat.ne_of_gt enOld)).trans pr
    have made : ObjOk X.prog X.w (upd H s.heap.objs.size (.frz { cls := .type "tuple", data := .seq #[.int (k : Nat) tk, y] } (.tup [.int (k : Nat), v]))) h2 s.heap.objs.size (.frz { cls := .type "tuple", data := .seq #[.int (k : Nat) tk, y] } (.tup [.int (k : Nat), v])) := by
      exact ⟨fz, by show 2 ≤ sizeLine; decide, [.int k tk, y], .cons ⟨_, rfl⟩ (.cons u2 .nil), _, fz, rfl, _, rfl⟩
    have J : Inv X pins σ (upd H s.heap.objs.size (.frz { cls := .type "tuple", data := .seq #[.int (k : Nat) tk, y] } (.tup [.int (k : Nat), v]))) { s with heap := h2, toks := tk + 1 } := by
      refine I.turnedNew (ch := [en, it]) (fun b ob nb z => ?_) fp (Nat.le_refl _) made
      exact (but.2 b fun z1 => nb (by simp [z1])).trans (kp b ob (fun z1 => nb (by simp [z1])) (fun z1 => nb (by simp [z1])) z)
    refine ⟨.ref s.heap.objs.size, _, J, rfl, ⟨_, v, _, rfl, I.hok.fresh (Nat.le_refl _), rfl, rfl, fun other z => ?_⟩, ⟨⟨y, ?_⟩, after.1.at fun ob z => (but.2 it (Ne.symm g3)).trans z, g3⟩, fun b hb => ?_⟩
    · rw [I.tuple_inj z sq]
      exact at_
    · rw [show ((k + 1 : Nat) : Int) = (k : Int) + 1 by omega]
      exact en2
    · have old : b < s.heap.objs.size := by rcases two_of hb with rfl | rfl <;> assumption
      rw [upd_ne (Nat.ne_of_lt old)]
      exact (fp b hb).1
  done := by
    rintro X rfl rfl rfl calm k pins s σ H E I fp ⟨⟨prev, g1⟩, g2, g3⟩ ⟨items, sq, past⟩
    obtain ⟨vals, rel, tup, _⟩ := I.tuple sq
    have ln := rel.length
    obtain ⟨f0, f1, _, f3, f4, f5⟩ := fp it (by simp)
    refine enumT_end (I.ok.hd calm) g1 g2 tup (by simp; omega) fun h1 kp => ⟨rfl, ?_⟩
    exact I.turned (t' := s.toks) (fun b ob nb z => kp b ob nb z) f0 f1 f3 f4 f5
  self := by
    rintro A k s Q E ⟨⟨prev, g1⟩, _⟩ h
    exact wpAny_pyIter_enum g1 h
theorem meets_enumT (tp : Addr) (vals : Array Value) :
    Meets (Builtin.«enumerate.__new__» ⟨[.type "enumerate", .ref tp], []⟩) (fun _ R s => s.heap.IsTuple tp vals ∧
      R (.ok (.ret (.ref (s.heap.push { cls := .type "tuple_iterator", data := .fields #[.ref tp, .int 0 0] }).objs.size)))
        { s with heap := (s.heap.push { cls := .type "tuple_iterator", data := .fields #[.ref tp, .int 0 0] }).push { cls := .type "enumerate", data := .fields #[.none, .bool false, .ref s.heap.objs.size, rawInt 0, .none, .none] } }) :=
  .of_wp fun prog w A R s h => by
    obtain ⟨hp, g, d, tk, os⟩ := s
    obtain ⟨ht, h⟩ := h
    have hsub := sub_enumerate
    wp_walk
    refine wpAny_stack_any fun st => wpAny_pure ?_
    split
    · rename_i c _ _ _ _ _
      cases (c == Value.type "enumerate") <;> (wp_walk using (wpAny_pyIter_tuple ht); exact ⟨_, rfl, h⟩)
    · wp_walk using (wpAny_pyIter_tuple ht)
      exact ⟨_, rfl, h⟩
end
end SB
end
end

section
set_option Elab.async false
set_option linter.all false
set_option maxRecDepth 100000
set_option maxHeartbeats 2000000
noncomputable section
namespace SB
open PySem PySem.Spec L2 Evl PyProof.Rows
section
variable {X : Cx} {W : WD} {b : Bool}
theorem call_enumT {prog : Program} {w : World} {A : Around} {E : Value → Shared → Prop} {s : Shared} {tp : Addr} {vals : Array Value} {Q : Value → Shared → Prop} (ht : s.heap.IsTuple tp vals)
    (fin : ∀ h', IsEnum h' (s.heap.objs.size + 1) s.heap.objs.size 0 .none → h'.IsTupleIter s.heap.objs.size tp 0 → (∀ b o, s.heap.get? b = some o → h'.get? b = some o) → Q (.ref (s.heap.objs.size + 1)) { s with heap := h' }) :
    wpAny (model prog w) A (call (.type "enumerate") [.ref tp]) Q E s := by
  apply callType_new F.called_enumerate (by decide) (F.typeCall_enumerate_1 _) (F.newCall_enumerate_1 _) (fun obj => F.args_object_init_2 obj _) F.entry_enumerate_new (meets_enumT tp vals)
  refine ⟨ht, ?_⟩
  generalize hit : ({ cls := .type "tuple_iterator", data := .fields #[.ref tp, .int 0 0] } : Obj) = oi
  generalize hen : ({ cls := .type "enumerate", data := .fields #[.none, .bool false, .ref s.heap.objs.size, rawInt 0, .none, .none] } : Obj) = oe
  have grown : (s.heap.push oi).objs.size = s.heap.objs.size + 1 := Heap.size_push ..
  have at2 : ((s.heap.push oi).push oe).get? (s.heap.objs.size + 1) = some oe := by
    have z := Heap.get?_push_size (s.heap.push oi) (o := oe) (by subst hen; rfl)
    rwa [grown] at z
  have at1 : ((s.heap.push oi).push oe).get? s.heap.objs.size = some oi := Heap.get?_push_of_some _ (Heap.get?_push_size _ (by subst hit; rfl))
  rw [grown]
  refine ⟨⟨_, at2, by subst hen; rfl⟩, fin _ ?_ ⟨_, at1, by subst hit; rfl, by subst hit; rfl⟩ fun b o z => Heap.get?_push_of_some _ (Heap.get?_push_of_some _ z)⟩
  show Heap.get? _ _ = some _
  rw [at2, ← hen]
theorem walk_enumT {K : PySem.W.Frag} {a : Addr} {xs : List V} : Walk (IteT K a) xs.length (fun H => SqT K H a xs) (YPairF (fun i => some (.int (i : Nat))) (fun i => xs[i]?)) := by
  refine ⟨fun k H lt sq => ⟨xs, xs[k], sq, List.getElem?_eq_getElem lt⟩, fun H sq => ⟨xs, sq, Nat.le_refl _⟩, ?_⟩
  rintro k H v H' _ sq ⟨pr, y, ob, rfl, z1, z0, z2, z3⟩
  exact ⟨pr, .int (k : Nat), y, ob, rfl, z1, z0, z2, rfl, z3 xs sq⟩
/-- the pair's first and second thing are walked by the same rule for lists and tuples -/
def iEnumA (K : PySem.W.Frag) (ta : TA) : TI := fun σ H R => ta σ H fun vs H1 => ∃ a xs, vs = [.ref a] ∧ SqT K H1 a xs ∧ R (IteT K a) H1
theorem pi_enumT {e : Expr} {ta : TA} {p pos tpos : Pos} {elts : List Expr} {kk : Nat} (hg : Gl X "enumerate") (hm : X.mg "enumerate" = none) (ha : PA X [e] ta) (hs : starEach [e] X.env = [(false, eval e X.env)] := by rfl) :
    PI X (.Tuple elts kk tpos) (.Call (.Name "enumerate" p) [e] [] pos) (iEnumA X.K ta) := by
  constructor
  intro pins s σ H R I h
  refine Call_ (ld_blt I hg hm boot_enumerate ?_)
  refine PyProof.Rows.callWith_type1 (thn (ha.run pos pins s σ H _ I h) ?_) hs rfl
  rintro us s1 ⟨vs, H1, I1, rel, tp, xs, rfl, sq, q⟩
  cases rel with
  | cons r0 rest =>
    cases rest
    cases r0
    obtain ⟨vals, rv, tup, _⟩ := I1.tuple sq
    have young : tp < s1.heap.objs.size := tup.lt
    apply call_enumT tup
    intro h' en it kp
    apply wpAny_pyIter_enum en
    refine ⟨s1.heap.objs.size + 1, [s1.heap.objs.size + 1, s1.heap.objs.size], _, _, H1, rfl, I1.kept (t' := s1.toks) kp, turn_enumT tp _ _ (Nat.ne_of_lt young) (Nat.ne_of_lt (Nat.lt_succ_of_lt young)), ⟨⟨.none, en⟩, it, Nat.succ_ne_self _⟩, ?_, q⟩
    intro b hb
    have le : s1.heap.objs.size ≤ b := by
      rcases two_of hb with rfl | rfl
      · exact Nat.le_add_right _ _
      · exact Nat.le_refl _
    exact I1.fpOk le (I1.hok.fresh le)
def enumD : List D → Res (List D)
  | [.tuple xs] => .ok (enumFrom 0 xs)
  | _ => .bad
variable {fs : DEnv → Res (List D)} {p pos tpos : Pos} {elts : List Expr} {kk : Nat}
theorem enum_items {Hs : Hp} {vs : List V} {ds : List D} (r : RpAll X.K Hs vs ds) : ∀ (i : Nat) (x y : V), i < vs.length → some (V.int (i : Nat)) = some x → vs[i]? = some y → ∃ d e, (enumFrom 0 ds)[i]? = some (.tuple [d, e]) ∧ Rp X.K Hs x d ∧ Rp X.K Hs y e := by
  intro i x y hi hx hy
  cases hx
  obtain ⟨d, h1, h2⟩ := RpAll.getV r hy
  refine ⟨_, d, enumFrom_get 0 ds i d h1, ?_, h2⟩
  rw [Int.zero_add]
  exact .int _
theorem di_enum {e : Expr} (hg : Gl X "enumerate") (hm : X.mg "enumerate" = none) (ha : DA X W b [e] fs) (hs : starEach [e] X.env = [(false, eval e X.env)] := by rfl) :
    DI X W b (.Tuple elts kk tpos) (.Call (.Name "enumerate" p) [e] [] pos) (xIt enumD fs) := by
  obtain ⟨t, pt, q⟩ := ha.ex
  refine ⟨_, pi_enumT hg hm pt hs, fun Hs0 H0 ρ σ Hs H R e h => ?_⟩
  refine q _ _ ρ σ Hs H _ e ((PostA.bind h).mono fun ds Hs1 H1 s1 h1 vs rvs => ?_)
  match ds, rvs, h1 with
  | [.tuple xs], rvs, h1 =>
    obtain ⟨v, rfl, rv⟩ := rps1 rvs
    obtain ⟨p, ws, rfl, g1, r1⟩ := rv.tuple
    refine ⟨p, ws, rfl, .inl (ex_td s1.sub g1), PostA.now s1.sub h1 _ (walked_pair ?_ walk_enumT (fun H' a c => .inl (ex_td a g1)) (enum_items r1))⟩
    rw [enumFrom_len, RpAll.len r1]
end
end SB
end
end

section
set_option Elab.async false
set_option linter.all false
set_option maxRecDepth 100000
set_option maxHeartbeats 2000000
noncomputable section
namespace SB
open PySem PySem.Spec L2 Evl PyProof.Rows

theorem wipe_wipe (σ : L2.St) (vs : List Nat) : wipe (wipe σ vs) vs = wipe σ vs := by
  apply List.ext_getElem?
  intro i
  by_cases h : i ∈ vs
  · have gone : ∀ (τ : L2.St) (ws : List Nat), i ∈ ws → (wipe τ ws)[i]? = if i < τ.length then some none else none := by
      intro τ ws
      induction ws with
      | nil => intro z; cases z
      | cons w ws ih =>
        intro z
        show ((wipe τ ws).set w none)[i]? = _
        rw [List.getElem?_set, wipe_length]
        by_cases e : w = i
        · simp [e]
        · rw [if_neg e]
          exact ih ((List.mem_cons.mp z).resolve_left (Ne.symm e))
    rw [gone _ vs h, gone _ vs h, wipe_length]
  · rw [wipe_get h]
/-! ### targets -/
theorem wipe_set {σ : L2.St} {i : Nat} {x : Option V} : ∀ {vs : List Nat}, i ∈ vs → wipe (σ.set i x) vs = wipe σ vs
  | v :: vs, h => by
    unfold wipe
    by_cases e : i ∈ vs
    · rw [wipe_set e]
    · have hv : v = i := by
        rcases List.mem_cons.mp h with z | z
        · exact z.symm
        · exact absurd z e
      subst hv
      have out : ∀ (ws : List Nat), v ∉ ws → wipe (σ.set v x) ws = (wipe σ ws).set v x := by
        intro ws
        induction ws with
        | nil => intro _; rfl
        | cons w ws ih =>
          intro hn
          have n1 : v ≠ w := fun z => hn (by simp [z])
          have n2 : v ∉ ws := fun z => hn (by simp [z])
          show (wipe (σ.set v x) ws).set w none = ((wipe σ ws).set w none).set v x
          rw [ih n2, List.set_comm _ _ n1]
      rw [out vs e, List.set_set]
abbrev GD := D → DEnv → Option DEnv
/-- the slots ts are stored -/
def OutOf (ts : List Nat) (σ σ' : L2.St) : Prop := ∀ vs : List Nat, (∀ i, i ∈ ts → i ∈ vs) → wipe σ' vs = wipe σ vs
structure DG (X : Cx) (tg : Expr) (ts : List Nat) (g : GD) : Prop where
  ex : ∃ t : TG, PG X tg t ∧ ∀ Hs0 H0 ρ σ Hs H v d ρ' Q, EnvOk X.K Hs0 H0 ρ σ Hs H → Rp X.K Hs v d → g d ρ = some ρ' → (∀ σ', OutOf ts σ σ' → EnvOk X.K Hs0 H0 ρ' σ' Hs H → Q σ' H) → t v σ H Q
structure DGs (X : Cx) (es : List Expr) (ts : List Nat) (g : List D → DEnv → Option DEnv) : Prop where
  ex : ∃ t : TGs, PGs X es t ∧ ∀ Hs0 H0 ρ σ Hs H vs ds ρ' Q, EnvOk X.K Hs0 H0 ρ σ Hs H → RpAll X.K Hs vs ds → g ds ρ = some ρ' → (∀ σ', OutOf ts σ σ' → EnvOk X.K Hs0 H0 ρ' σ' Hs H → Q σ' H) → t vs σ H Q
section
variable {X : Cx} {pos : Pos}
def yName (i : Nat) : GD := fun d ρ => some (st ρ i (some (.dat d)))
theorem dg_name (i : Nat) {x : Str} (hN : X.N.Nodup) (hi : X.N[i]? = some x := by rfl) (hx : Loc X.env.scope x := by first | exact Or.inl rfl | exact Or.inr rfl) (hf : X.fn x = true ∨ X.env.scope.names.lookup x = some .local := by first | exact .inl rfl | exact .inr rfl | assumption) : DG X (.Name x pos) [i] (yName i) := by
  refine ⟨gName i, pg_name hN hi hx hf, fun Hs0 H0 ρ σ Hs H v d ρ' Q e r h k => ?_⟩
  cases h
  rw [st_eq] at k
  exact k _ (fun vs hv => wipe_set (hv i (by simp))) (e.set r)
def yNil : List D → DEnv → Option DEnv := fun ds ρ => match ds with
  | [] => some ρ
  | _ => none
def yCons (g : GD) (gs : List D → DEnv → Option DEnv) : List D → DEnv → Option DEnv := fun ds ρ => match ds with
  | d :: r => (g d ρ).bind fun ρ' => gs r ρ'
  | [] => none
theorem dgs_nil : DGs X [] [] yNil := by
  refine ⟨gNil, pgs_nil, fun Hs0 H0 ρ σ Hs H vs ds ρ' Q e r h k => ?_⟩
  cases ds with
  | nil => cases r; cases h; exact ⟨rfl, k _ (fun _ _ => rfl) e⟩
  | cons _ _ => cases h
theorem dgs_cons {t : Expr} {es : List Expr} {ts us : List Nat} {g : GD} {gs : List D → DEnv → Option DEnv} (h1 : DG X t ts g) (h2 : DGs X es us gs) (he : (assignEach (t :: es) X.env).map (·.2) = assign t X.env :: (assignEach es X.env).map (·.2) := by rfl) : DGs X (t :: es) (ts ++ us) (yCons g gs) := by
  obtain ⟨u, p, q⟩ := h1.ex
  obtain ⟨u2, p2, q2⟩ := h2.ex
  refine ⟨gCons u u2, pgs_cons p p2 he, fun Hs0 H0 ρ σ Hs H vs ds ρ' Q e r h k => ?_⟩
  cases r with
  | nil => cases h
  | cons r1 r2 =>
    rename_i v vs d ds
    change ((g d ρ).bind fun ρ' => gs ds ρ') = some ρ' at h
    cases hg : g d ρ with
    | none => rw [hg] at h; cases h
    | some ρ1 =>
      rw [hg] at h
      refine ⟨v, vs, rfl, q _ _ ρ σ Hs H v d ρ1 _ e r1 hg fun σ1 o1 e1 => q2 _ _ ρ1 σ1 Hs H vs ds ρ' _ e1 r2 h fun σ2 o2 e2 => k σ2 (fun ws hw => ?_) e2⟩
      rw [o2 ws fun i hi => hw i (by simp [hi]), o1 ws fun i hi => hw i (by simp [hi])]
def yTup (n : Nat) (gs : List D → DEnv → Option DEnv) : GD := fun d ρ => match d with
  | .tuple ds => if ds.length = n then gs ds ρ else none
  | _ => none
theorem dg_tup {es : List Expr} {ts : List Nat} {k n : Nat} {gs : List D → DEnv → Option DEnv} (hc : X.calm = true) (h : DGs X es ts gs) (hn : (assignEach es X.env).length = n := by rfl) (hst : (assignEach es X.env).findIdx? (·.1) = none := by rfl) : DG X (.Tuple es k pos) ts (yTup n gs) := by
  obtain ⟨t, p, q⟩ := h.ex
  refine ⟨gTup X.K n t, pg_tup hc p hn hst, fun Hs0 H0 ρ σ Hs H v d ρ' Q e r h k => ?_⟩
  cases r with
  | tup h1 h2 =>
    rename_i a xs ds
    change (if ds.length = n then gs ds ρ else none) = some ρ' at h
    by_cases hl : ds.length = n
    · rw [if_pos hl] at h
      exact ⟨a, xs, rfl, .inl (ex_td e.sub h1), by rw [RpAll.len h2]; exact hl, q _ _ ρ σ Hs H xs ds ρ' Q e h2 h k⟩
    · rw [if_neg hl] at h
      cases h
  | _ => cases h
end

/-! ### list comprehensions -/
structure DTs (X : Cx) (ifs : List Expr) (f : DEnv → Res Bool) : Prop where
  ex : ∃ t : TT, PTs X ifs t ∧ ∀ Hs0 H0 ρ σ Hs H Q, EnvOk X.K Hs0 H0 ρ σ Hs H → PostA W0 σ Hs H (fun b _ H' => Q b H') (f ρ) → t σ H Q
def xYes : DEnv → Res Bool := fun _ => .ok true
theorem dts_nil {X : Cx} : DTs X [] xYes := ⟨tYes, pts_nil, fun Hs0 H0 ρ σ Hs H Q e h => h.now e.sub⟩
theorem dts_one {X : Cx} {c : Expr} {f : DEnv → Res Bool} (h : DT X W0 c f) : DTs X [c] f := by
  obtain ⟨t, p, q⟩ := h.ex
  exact ⟨t, pts_one p, q⟩
/-- the items of a comprehension -/
def lcGo (g : GD) (ft : DEnv → Res Bool) (fe : DEnv → Res D) (ρ : DEnv) : List D → Res (List D)
  | [] => .ok []
  | d :: r => match g d ρ with
    | none => .bad
    | some ρ1 => (ft ρ1).bind fun k => if k = true then (fe ρ1).bind fun y => (lcGo g ft fe ρ r).bind fun ys => .ok (y :: ys) else lcGo g ft fe ρ r
/-- no exception comes of a comprehension's block -/
def noExc {α : Type} : Res α → Res α
  | .exc _ => .bad
  | r => r
def xLc (fi : DEnv → Res (List D)) (g : GD) (ft : DEnv → Res Bool) (fe : DEnv → Res D) (vs : List Nat) : DEnv → Res D := fun ρ => (fi ρ).bind fun items => if small items.length = true then (noExc (lcGo g ft fe (kill ρ vs) items)).bind fun ys => .ok (.list ys) else .bad

section
variable {X : Cx} {W : WD} {b : Bool}
/-- the comprehension's state ahead of turn i: D holds what is made so far -/
def LcInv (K : PySem.W.Frag) (g : GD) (ft : DEnv → Res Bool) (fe : DEnv → Res D) (ρ : DEnv) (items ys : List D) (Hs1 H1 : Hp) (Dl : Addr) (i : Nat) (H' : Hp) : Prop :=
  ∃ Hs', Step Hs1 H1 Hs' H' ∧ Hs' Dl = none ∧ ∃ acc rest vs, H' Dl = some (.lst vs) ∧ RpAll K Hs' vs acc ∧ lcGo g ft fe ρ (items.drop i) = .ok rest ∧ ys = acc ++ rest ∧ acc.length ≤ i
theorem step_mut {Hs1 H1 Hs' H' : Hp} {p : Addr} {o : HO} (s : Step Hs1 H1 Hs' H') (h1 : H1 p = none) (h2 : Hs' p = none) : Step Hs1 H1 Hs' (upd H' p o) :=
  ⟨s.sh, Ex.mut s.wh h1, Ex.mut s.sub h2, s.away⟩
theorem lc_read {tg iter : Expr} {wi : TI} {gt : TG} {tt : TT} {te : TE} {fi : DEnv → Res (List D)} {g : GD} {ts vs : List Nat} {ft : DEnv → Res Bool} {fe : DEnv → Res D} {ρ : DEnv} {σ : L2.St} {Hs0 H0 Hs H : Hp} {Q : VK}
    (qi : ∀ Hs0 H0 ρ σ Hs H R, EnvOk X.K Hs0 H0 ρ σ Hs H → PostA W σ Hs H (fun items Hs1 H1 => ∀ J, Walked X.K true items Hs1 H1 J → R J H1) (fi ρ) → wi σ H R)
    (qg : ∀ Hs0 H0 ρ σ Hs H v d ρ' Q, EnvOk X.K Hs0 H0 ρ σ Hs H → Rp X.K Hs v d → g d ρ = some ρ' → (∀ σ', OutOf ts σ σ' → EnvOk X.K Hs0 H0 ρ' σ' Hs H → Q σ' H) → gt v σ H Q)
    (qt : ∀ Hs0 H0 ρ σ Hs H Q, EnvOk X.K Hs0 H0 ρ σ Hs H → PostA W0 σ Hs H (fun b _ H' => Q b H') (ft ρ) → tt σ H Q)
    (qe : ∀ Hs0 H0 ρ σ Hs H Q, EnvOk X.K Hs0 H0 ρ σ Hs H → Post X.K false W0 σ Hs H Q (fe ρ) → te σ H Q)
    (hts : ∀ i, i ∈ ts → i ∈ vs) (e : EnvOk X.K Hs0 H0 ρ σ Hs H) (h : Post X.K b W σ Hs H Q (xLc fi g ft fe vs ρ)) : tLc wi gt tt te vs σ H Q := by
  refine qi _ _ ρ σ Hs H _ e (h.bind.mono fun items Hs1 H1 s1 h1 J wk => ?_)
  refine post_mk h1 fun hz h1 => ?_
  cases hl : lcGo g ft fe (kill ρ vs) items with
  | bad => rw [hl] at h1; exact (h1 : False).elim
  | exc c => rw [hl] at h1; exact (h1 : False).elim
  | ok ys =>
    rw [hl] at h1
    replace h1 : Post X.K b W σ Hs1 H1 Q (.ok (.list ys)) := h1
    intro Dl hD
    obtain ⟨G, Y, w, hG, hY⟩ := wk
    have sD : Hs1 Dl = none := sub_none s1.sub hD
    refine lc_it w (LcInv X.K g ft fe (kill ρ vs) items ys Hs1 H1 Dl) ?_ ?_ ?_ ?_
    · exact ⟨Hs1, step_mut (Step.refl s1.sub) hD sD, sD, [], ys, [], upd_same, .nil, by simpa using hl, rfl, Nat.le_refl _⟩
    · rintro i H' _ ⟨Hs', st, _⟩
      exact hG H' (st.sh.trans st.sub) fun _ => st.wh
    · rintro i x H' H'' hi ⟨Hs', st, nD, acc, rest, ws, hH, ra, hr, hy, hle⟩ y
      obtain ⟨Hs2, st2, d, hd, rd⟩ := hY i x Hs' H' H'' st.sh st.sub hi y
      have st2' := st.trans st2
      have nD2 : Hs2 Dl = none := st2.away Dl _ hH nD
      have hH2 := st2.wh _ _ hH
      have hdrop : items.drop i = d :: items.drop (i + 1) := by
        have hlt : i < items.length := hi
        rw [List.drop_eq_getElem_cons hlt]
        have : items[i] = d := by rw [List.getElem?_eq_getElem hlt] at hd; exact Option.some.inj hd
        rw [this]
      rw [hdrop] at hr
      cases hg : g d (kill ρ vs) with
      | none => simp only [lcGo, hg] at hr; cases hr
      | some ρ1 =>
        simp only [lcGo, hg] at hr
        refine qg _ _ (kill ρ vs) (wipe σ vs) Hs2 H'' x d ρ1 _ (((e.step s1).step st2').wipe vs) rd hg fun σ1 o1 e1 => ⟨?_, ?_⟩
        · rw [o1 vs hts]
          exact wipe_wipe σ vs
        · have lcW : acc.length < sizeLine := by
            have h2 := Nat.le_of_ble_eq_true hz
            have h3 : (1000000 : Nat) < sizeLine := by decide
            have h4 : i < items.length := hi
            omega
          cases hft : ft ρ1 with
          | bad => rw [hft] at hr; cases hr
          | exc c => rw [hft] at hr; cases hr
          | ok k =>
            rw [hft] at hr
            refine qt _ _ ρ1 σ1 Hs2 H'' _ e1 ?_
            rw [hft]
            intro Hs3 H3 s3
            have st3 := st2'.trans s3
            have nD3 : Hs3 Dl = none := s3.away Dl _ hH2 nD2
            have hH3 := s3.wh _ _ hH2
            cases k with
            | false =>
              show LcInv X.K g ft fe (kill ρ vs) items ys Hs1 H1 Dl (i + 1) H3
              exact ⟨Hs3, st3, nD3, acc, rest, ws, hH3, RpAll.ex (st2.sh.trans s3.sh) ra, hr, hy, by omega⟩
            | true =>
              show te σ1 H3 _
              replace hr : ((fe ρ1).bind fun y => (lcGo g ft fe (kill ρ vs) (items.drop (i + 1))).bind fun ys => .ok (y :: ys)) = .ok rest := hr
              cases hfe : fe ρ1 with
              | bad => rw [hfe] at hr; cases hr
              | exc c => rw [hfe] at hr; cases hr
              | ok yd =>
                rw [hfe] at hr
                refine qe _ _ ρ1 σ1 Hs3 H3 _ (e1.step s3) ?_
                rw [hfe]
                intro Hs4 H4 s4 yv ry
                have st4 := st3.trans s4
                have nD4 : Hs4 Dl = none := s4.away Dl _ hH3 nD3
                cases hrest : lcGo g ft fe (kill ρ vs) (items.drop (i + 1)) with
                | bad => rw [hrest] at hr; cases hr
                | exc c => rw [hrest] at hr; cases hr
                | ok rest2 =>
                  rw [hrest] at hr
                  replace hr : (Res.ok (yd :: rest2) : Res (List D)) = .ok rest := hr
                  cases hr
                  refine ⟨ws, s4.wh _ _ hH3, ?_, Hs4, step_mut st4 hD nD4, nD4, acc ++ [yd], rest2, ws ++ [yv], upd_same, RpAll.append (RpAll.ex ((st2.sh.trans s3.sh).trans s4.sh) ra) (.cons ry.rp .nil), hrest, by rw [hy]; simp, by simp; omega⟩
                  rw [RpAll.len ra]
                  exact lcW
    · rintro H' ⟨Hs', st, nD, acc, rest, ws, hH, ra, hr, hy, hle⟩
      have : items.drop items.length = [] := List.drop_length
      rw [this] at hr
      cases hr
      rw [List.append_nil] at hy
      subst hy
      have fin : Step Hs1 H1 (upd Hs' Dl (.lst ws)) H' := by
        refine ⟨st.sh.trans (Ex.new nD), st.wh, ?_, ?_⟩
        · intro a o q
          by_cases ha : a = Dl
          · subst ha; rw [upd_same] at q; cases q; exact hH
          · rw [upd_ne ha] at q; exact st.sub a o q
        · intro a o q n
          rw [upd_ne (ne_of_none q hD)]
          exact st.away a o q n
      exact h1 _ _ fin _ (.of (.lst (sq_of upd_same) (RpAll.ex (Ex.new nD) ra)))

/-! one reading for all contexts -/
def tOf (K : PySem.W.Frag) (W : WD) (b : Bool) (f : DEnv → Res D) : TE := fun σ H Q => ∃ Hs0 H0 ρ Hs, EnvOk K Hs0 H0 ρ σ Hs H ∧ Post K b W σ Hs H Q (f ρ)
def ttOf (K : PySem.W.Frag) (f : DEnv → Res Bool) : TT := fun σ H Q => ∃ Hs0 H0 ρ Hs, EnvOk K Hs0 H0 ρ σ Hs H ∧ PostA W0 σ Hs H (fun b _ H' => Q b H') (f ρ)
def gOf (K : PySem.W.Frag) (ts : List Nat) (g : GD) : TG := fun v σ H Q => ∃ Hs0 H0 ρ Hs d ρ', EnvOk K Hs0 H0 ρ σ Hs H ∧ Rp K Hs v d ∧ g d ρ = some ρ' ∧ ∀ σ', OutOf ts σ σ' → EnvOk K Hs0 H0 ρ' σ' Hs H → Q σ' H
theorem DE.pe {e : Expr} {f : DEnv → Res D} (h : DE X W b e f) : PE X e (tOf X.K W b f) := by
  obtain ⟨t, p, q⟩ := h.ex
  exact ⟨fun pins s σ H Q I ⟨Hs0, H0, ρ, Hs, e, hp⟩ => p.run pins s σ H Q I (q Hs0 H0 ρ σ Hs H Q e hp)⟩
theorem DTs.pts {ifs : List Expr} {f : DEnv → Res Bool} (h : DTs X ifs f) : PTs X ifs (ttOf X.K f) := by
  obtain ⟨t, p, q⟩ := h.ex
  exact ⟨fun pins s σ H Q I ⟨Hs0, H0, ρ, Hs, e, hp⟩ => p.run pins s σ H Q I (q Hs0 H0 ρ σ Hs H Q e hp)⟩
theorem DG.pg {tg : Expr} {ts : List Nat} {g : GD} (h : DG X tg ts g) : PG X tg (gOf X.K ts g) := by
  obtain ⟨t, p, q⟩ := h.ex
  exact ⟨fun pins s σ H v u Q I r ⟨Hs0, H0, ρ, Hs, d, ρ', e, rd, hg, k⟩ => p.run pins s σ H v u Q I r (q Hs0 H0 ρ σ Hs H v d ρ' Q e rd hg k)⟩
theorem lc_ok {tg iter : Expr} {wi : TI} {fi : DEnv → Res (List D)} {g : GD} {ts vs : List Nat} {ft : DEnv → Res Bool} {fe : DEnv → Res D} {ρ : DEnv} {σ : L2.St} {Hs0 H0 Hs H : Hp} {Q : VK}
    (qi : ∀ Hs0 H0 ρ σ Hs H R, EnvOk X.K Hs0 H0 ρ σ Hs H → PostA W σ Hs H (fun items Hs1 H1 => ∀ J, Walked X.K true items Hs1 H1 J → R J H1) (fi ρ) → wi σ H R)
    (hts : ∀ i, i ∈ ts → i ∈ vs) (e : EnvOk X.K Hs0 H0 ρ σ Hs H) (h : Post X.K b W σ Hs H Q (xLc fi g ft fe vs ρ)) : tLc wi (gOf X.K ts g) (ttOf X.K ft) (tOf X.K W0 false fe) vs σ H Q :=
  lc_read (tg := tg) (iter := iter) (ts := ts) qi (fun Hs0 H0 ρ σ Hs H v d ρ' Q e rd hg k => ⟨Hs0, H0, ρ, Hs, d, ρ', e, rd, hg, k⟩) (fun Hs0 H0 ρ σ Hs H Q e h => ⟨Hs0, H0, ρ, Hs, e, h⟩) (fun Hs0 H0 ρ σ Hs H Q e h => ⟨Hs0, H0, ρ, Hs, e, h⟩) hts e h
theorem de_lc {elt tg iter : Expr} {ifs : List Expr} {scope : Scope} {pos : Pos} {fi : DEnv → Res (List D)} {g : GD} {ts : List Nat} {ft : DEnv → Res Bool} {fe : DEnv → Res D} (own : List (Str × Nat)) (hc : X.calm = true) (hN : X.N.Nodup) (hi : DI X W true tg iter fi) (ok : BlkOk X.N X.env.scope scope own)
    (hg : ∀ (s : Shared) (H : Hp) (C : Addr) (cl : List (Str × Addr)) (fp : List Addr), DG (X.blk s H scope (compEnvC scope cl C X.env) fp) tg ts g)
    (ht : ∀ (s : Shared) (H : Hp) (C : Addr) (cl : List (Str × Addr)) (fp : List Addr), DTs (X.blk s H scope (compEnvC scope cl C X.env) fp) ifs ft)
    (he : ∀ (s : Shared) (H : Hp) (C : Addr) (cl : List (Str × Addr)) (fp : List Addr), DE (X.blk s H scope (compEnvC scope cl C X.env) fp) W0 false elt fe)
    (hts : ∀ i, i ∈ ts → i ∈ own.map (·.2) := by decide) (hs : ∀ x, foldedSetIterable iter X.env x = pure x := by intro _; rfl) : DE X W b (.ListComp elt [⟨tg, iter, ifs, 0⟩] scope pos) (xLc fi g ft fe (own.map (·.2))) := by
  obtain ⟨wi, pi, qi⟩ := hi.ex
  exact ⟨_, pe_lc hc hN pi ok (fun s H C cl fp => (hg s H C cl fp).pg) (fun s H C cl fp => (ht s H C cl fp).pts) (fun s H C cl fp => (he s H C cl fp).pe) hs, fun Hs0 H0 ρ σ Hs H Q e h => lc_ok (tg := tg) (iter := iter) qi hts e h⟩

/-! ### statements -/
inductive Out where
  | next (ρ : DEnv)
  | ret (d : D)
  | brk (ρ : DEnv)
  | cont (ρ : DEnv)
  | exc (c : Nat)
  | bad
def PostS (K : PySem.W.Frag) (W : WD) (Hs0 H0 : Hp) (Hs : Hp) (E : Ends) : Out → Prop
  | .next ρ => ∀ σ' Hs' H', Ex Hs Hs' → EnvOk K Hs0 H0 ρ σ' Hs' H' → E.nx σ' H'
  | .ret d => ∀ v Hs' H', Step Hs0 H0 Hs' H' → Rp K Hs' v d → E.rt v H'
  | .brk ρ => ∀ σ' Hs' H', Ex Hs Hs' → EnvOk K Hs0 H0 ρ σ' Hs' H' → E.bk σ' H'
  | .cont ρ => ∀ σ' Hs' H', Ex Hs Hs' → EnvOk K Hs0 H0 ρ σ' Hs' H' → E.ct σ' H'
  | .exc c => ∀ σ' Hs' H', Step Hs0 H0 Hs' H' → W c σ' H'
  | .bad => False
theorem PostS.step {Hs0 H0 Hs Hs' : Hp} {E : Ends} {o : Out} (s : Ex Hs Hs') (h : PostS X.K W Hs0 H0 Hs E o) : PostS X.K W Hs0 H0 Hs' E o := by
  cases o with
  | next ρ => exact fun σ' Hs2 H' e k => h σ' Hs2 H' (s.trans e) k
  | brk ρ => exact fun σ' Hs2 H' e k => h σ' Hs2 H' (s.trans e) k
  | cont ρ => exact fun σ' Hs2 H' e k => h σ' Hs2 H' (s.trans e) k
  | ret d => exact h
  | exc c => exact h
  | bad => exact h
structure DS (X : Cx) (W : WD) (st : Stmt) (f : DEnv → Out) : Prop where
  ex : ∃ t : TS, PS X st t ∧ ∀ Hs0 H0 ρ σ Hs H E, EnvOk X.K Hs0 H0 ρ σ Hs H → PostS X.K W Hs0 H0 Hs E (f ρ) → t E σ H
structure DSs (X : Cx) (W : WD) (st : List Stmt) (f : DEnv → Out) : Prop where
  ex : ∃ t : TS, PSs X st t ∧ ∀ Hs0 H0 ρ σ Hs H E, EnvOk X.K Hs0 H0 ρ σ Hs H → PostS X.K W Hs0 H0 Hs E (f ρ) → t E σ H
/-- an expression's outcome within a statement -/
def Res.out {α : Type} : Res α → (α → Out) → Out
  | .ok a, k => k a
  | .exc c, _ => .exc c
  | .bad, _ => .bad
theorem post_out {α : Type} {r : Res α} {k : α → Out} {Hs0 H0 Hs H : Hp} {E : Ends} {ρ : DEnv} {σ : L2.St} (e : EnvOk X.K Hs0 H0 ρ σ Hs H) (h : PostS X.K W Hs0 H0 Hs E (r.out k)) : PostA W σ Hs H (fun a Hs' H' => PostS X.K W Hs0 H0 Hs' E (k a)) r := by
  cases r with
  | ok a => exact fun Hs' H' s => PostS.step s.sh (show PostS X.K W Hs0 H0 Hs E (k a) from h)
  | exc c => exact fun Hs' H' s => h σ Hs' H' (e.step s).step0
  | bad => exact h
def sNext : DEnv → Out := .next
def sSeq (f g : DEnv → Out) : DEnv → Out := fun ρ => match f ρ with
  | .next ρ' => g ρ'
  | o => o
theorem dss_nil : DSs X W [] sNext := ⟨tNext, pss_nil, fun Hs0 H0 ρ σ Hs H E e h => h σ Hs H (Ex.refl _) e⟩
theorem dss_cons {st : Stmt} {rest : List Stmt} {f g : DEnv → Out} (h1 : DS X W st f) (h2 : DSs X W rest g) : DSs X W (st :: rest) (sSeq f g) := by
  obtain ⟨t, p, q⟩ := h1.ex
  obtain ⟨t2, p2, q2⟩ := h2.ex
  refine ⟨tSeq t t2, pss_cons p p2, fun Hs0 H0 ρ σ Hs H E e h => ?_⟩
  refine q _ _ ρ σ Hs H { E with nx := t2 E } e ?_
  unfold sSeq at h
  cases hf : f ρ with
  | next ρ' =>
    rw [hf] at h
    exact fun σ' Hs' H' s e' => q2 _ _ ρ' σ' Hs' H' E e' (PostS.step s h)
  | ret d => rw [hf] at h; exact h
  | brk d => rw [hf] at h; exact h
  | cont d => rw [hf] at h; exact h
  | exc d => rw [hf] at h; exact h
  | bad => rw [hf] at h; exact h
theorem dss_one {st : Stmt} {f : DEnv → Out} (h : DS X W st f) : DSs X W [st] f := by
  obtain ⟨t, p, q⟩ := h.ex
  exact ⟨t, pss_one p, q⟩
/-- some names forgotten ahead of the rest -/
def sKill (vs : List Nat) (g : DEnv → Out) : DEnv → Out := fun ρ => g (kill ρ vs)
theorem dss_kill {sts : List Stmt} {g : DEnv → Out} (vs : List Nat) (h : DSs X W sts g) : DSs X W sts (sKill vs g) := by
  obtain ⟨t, p, q⟩ := h.ex
  exact ⟨t, p, fun Hs0 H0 ρ σ Hs H E e h => q _ _ _ σ Hs H E (e.kill vs) h⟩
variable {pos : Pos}
def sPass : DEnv → Out := .next
theorem ds_pass : DS X W (.Pass pos) sPass := ⟨tNext, ps_pass, fun Hs0 H0 ρ σ Hs H E e h => h σ Hs H (Ex.refl _) e⟩
def sBreak : DEnv → Out := .brk
def sCont : DEnv → Out := .cont
theorem ds_break : DS X W (.Break pos) sBreak := ⟨tBreak, ps_break, fun Hs0 H0 ρ σ Hs H E e h => h σ Hs H (Ex.refl _) e⟩
theorem ds_cont : DS X W (.Continue pos) sCont := ⟨tCont, ps_continue, fun Hs0 H0 ρ σ Hs H E e h => h σ Hs H (Ex.refl _) e⟩
def sRet (f : DEnv → Res D) : DEnv → Out := fun ρ => (f ρ).out .ret
theorem ds_ret {e : Expr} {f : DEnv → Res D} (h : DE X W false e f) : DS X W (.Return (some e) pos) (sRet f) := by
  obtain ⟨t, p, q⟩ := h.ex
  refine ⟨tRet t, ps_ret p, fun Hs0 H0 ρ σ Hs H E e h => ?_⟩
  exact q _ _ ρ σ Hs H _ e ((post_out e h).mono fun d Hs' H' s k v r => k v Hs' H' (e.step s).step0 r.rp)
/-- the frame's own list handed back -/
theorem ds_retOwn {e : Expr} {f : DEnv → Res D} (i : Nat) {x : Str} {pos' : Pos} (hN : X.N[i]? = some x := by rfl) (hv : Vis X.env.scope x := by first | exact Or.inl rfl | exact Or.inr (Or.inl rfl) | exact Or.inr (Or.inr rfl)) (hd : (x == ("__debug__" : Str)) = false := by decide)
    (hcd : (x == ("__classdict__" : Str)) = false := by decide) : DS X W (.Return (some (.Name x pos')) pos) (sRet (xOwn i)) := by
  refine ⟨tRet (tVar i), ps_ret (pe_var hN hv hd hcd), fun Hs0 H0 ρ σ Hs H E e h => ?_⟩
  unfold sRet xOwn at h
  split at h
  · rename_i ds hr
    obtain ⟨a, vs, h1, h2, h3, h4, h5⟩ := e.own i ds (lk_some hr)
    refine ⟨_, h1, h _ (upd Hs a (.lst vs)) H ⟨e.sh0.trans (Ex.new h2), e.wh0, ?_, ?_⟩ (.lst (sq_of upd_same) (RpAll.ex (Ex.new h2) h5))⟩
    · intro c o q
      by_cases hc : c = a
      · subst hc; rw [upd_same] at q; cases q; exact h4
      · rw [upd_ne hc] at q; exact e.sub c o q
    · intro c o q n
      rw [upd_ne (ne_of_none q h3)]
      exact e.aw0 c o q n
  · exact h.elim
def sIf (c : DEnv → Res Bool) (f g : DEnv → Out) : DEnv → Out := fun ρ => (c ρ).out fun k => if k = true then f ρ else g ρ
theorem ds_if {c : Expr} {a d : List Stmt} {fc : DEnv → Res Bool} {f g : DEnv → Out} (hc : DT X W c fc) (ha : DSs X W a f) (hb : DSs X W d g) : DS X W (.If c a d pos) (sIf fc f g) := by
  obtain ⟨t, p, q⟩ := hc.ex
  obtain ⟨t1, p1, q1⟩ := ha.ex
  obtain ⟨t2, p2, q2⟩ := hb.ex
  refine ⟨tIfS t t1 t2, ps_if p p1 p2, fun Hs0 H0 ρ σ Hs H E e h => ?_⟩
  refine q _ _ ρ σ Hs H _ e ((post_out e h).mono fun k Hs' H' s k1 => ?_)
  cases k with
  | true => exact q1 _ _ ρ σ Hs' H' E (e.step s) k1
  | false => exact q2 _ _ ρ σ Hs' H' E (e.step s) k1
def sAsg (f : DEnv → Res D) (g : GD) : DEnv → Out := fun ρ => (f ρ).out fun d => match g d ρ with
  | some ρ' => .next ρ'
  | none => .bad
theorem asg_read {te : TE} {gt : TG} {f : DEnv → Res D} {g : GD} {ts : List Nat} {Hs0 H0 Hs H : Hp} {E : Ends} {ρ : DEnv} {σ : L2.St} (q : ∀ Hs0 H0 ρ σ Hs H Q, EnvOk X.K Hs0 H0 ρ σ Hs H → Post X.K false W σ Hs H Q (f ρ) → te σ H Q)
    (qg : ∀ Hs0 H0 ρ σ Hs H v d ρ' Q, EnvOk X.K Hs0 H0 ρ σ Hs H → Rp X.K Hs v d → g d ρ = some ρ' → (∀ σ', OutOf ts σ σ' → EnvOk X.K Hs0 H0 ρ' σ' Hs H → Q σ' H) → gt v σ H Q)
    (e : EnvOk X.K Hs0 H0 ρ σ Hs H) (h : PostS X.K W Hs0 H0 Hs E (sAsg f g ρ)) : tAsg te gt E σ H := by
  refine q _ _ ρ σ Hs H _ e ((post_out e h).mono fun d Hs' H' s k v r => ?_)
  cases hg : g d ρ with
  | none => rw [hg] at k; exact k.elim
  | some ρ' =>
    rw [hg] at k
    exact qg _ _ ρ σ Hs' H' v d ρ' _ (e.step s) r.rp hg fun σ' _ e' => k σ' Hs' H' (Ex.refl _) e'
theorem ds_asg {tg e : Expr} {f : DEnv → Res D} {g : GD} {ts : List Nat} (he : DE X W false e f) (hg : DG X tg ts g) (hs : swapsWithSole [tg] e pos.line X.env = pure false := by rfl) (hw : swappedStores [tg] e X.env = pure none := by rfl)
    (hq : (assignEach [tg] X.env).map (·.2) = [assign tg X.env] := by rfl) : DS X W (.Assign [tg] e pos) (sAsg f g) := by
  obtain ⟨t, p, q⟩ := he.ex
  obtain ⟨tg', p2, q2⟩ := hg.ex
  exact ⟨tAsg t tg', ps_asg p p2 hs hw hq, fun Hs0 H0 ρ σ Hs H E e h => asg_read q q2 e h⟩
end
end SB
end
end

section
set_option Elab.async false
set_option linter.all false
set_option maxRecDepth 100000
set_option maxHeartbeats 2000000
noncomputable section
namespace SB
open PySem PySem.Spec L2 Evl PyProof.Rows
section
variable {X : Cx} {W : WD} {pos : Pos}
/-! ### names stored -/
theorem ds_set (i : Nat) {x : Str} {e : Expr} {pos' : Pos} {f : DEnv → Res D} (hN : X.N.Nodup) (he : DE X W false e f) (hi : X.N[i]? = some x := by rfl) (hx : Loc X.env.scope x := by first | exact Or.inl rfl | exact Or.inr rfl)
    (hs : swapsWith e (some (.Name x pos')) pos.line X.env = pure false := by rfl) (hf : X.fn x = true ∨ X.env.scope.names.lookup x = some .local := by first | exact .inl rfl | exact .inr rfl | assumption) : DS X W (.Assign [.Name x pos'] e pos) (sAsg f (yName i)) := by
  obtain ⟨t, p, q⟩ := he.ex
  refine ⟨tAsg t (gName i), ps_set hN hi hx p hs hf, fun Hs0 H0 ρ σ Hs H E e h => asg_read (ts := [i]) q (fun Hs0 H0 ρ σ Hs H v d ρ' Q e r h k => ?_) e h⟩
  cases h
  rw [st_eq] at k
  exact k _ (fun vs hv => wipe_set (hv i (by simp))) (e.set r)
/-- y = [..] on one line -/
theorem ds_setLc (i : Nat) {y : Str} {py spos : Pos} {elt tg iter : Expr} {ifs : List Expr} {scope : Scope} {fi : DEnv → Res (List D)} {g : GD} {ts : List Nat} {ft : DEnv → Res Bool} {fe : DEnv → Res D} (own : List (Str × Nat)) (hc : X.calm = true) (hN : X.N.Nodup)
    (hi : DI X W true tg iter fi) (ok : BlkOk X.N X.env.scope scope own)
    (hg : ∀ (s : Shared) (H : Hp) (C : Addr) (cl : List (Str × Addr)) (fp : List Addr), DG (X.blk s H scope (compEnvC scope cl C X.env) fp) tg ts g)
    (ht : ∀ (s : Shared) (H : Hp) (C : Addr) (cl : List (Str × Addr)) (fp : List Addr), DTs (X.blk s H scope (compEnvC scope cl C X.env) fp) ifs ft)
    (he : ∀ (s : Shared) (H : Hp) (C : Addr) (cl : List (Str × Addr)) (fp : List Addr), DE (X.blk s H scope (compEnvC scope cl C X.env) fp) W0 false elt fe)
    (hsw : swapsWith (.ListComp elt [⟨tg, iter, ifs, 0⟩] scope pos) (some (.Name y py)) spos.line X.env = pure true)
    (hy : X.N[i]? = some y := by rfl) (hyl : X.env.scope.names.lookup y = some .local := by rfl)
    (hts : ∀ i, i ∈ ts → i ∈ own.map (·.2) := by decide) (hs : ∀ x, foldedSetIterable iter X.env x = pure x := by intro _; rfl) :
    DS X W (.Assign [.Name y py] (.ListComp elt [⟨tg, iter, ifs, 0⟩] scope pos) spos) (sAsg (xLc fi g ft fe (own.map (·.2))) (yName i)) := by
  obtain ⟨wi, pi, qi⟩ := hi.ex
  refine ⟨_, ps_setLc (g := gOf X.K ts g) (tt := ttOf X.K ft) (te := tOf X.K W0 false fe) hc hN hy hyl hsw pi ok (fun s H C cl fp => (hg s H C cl fp).pg) (fun s H C cl fp => (ht s H C cl fp).pts) (fun s H C cl fp => (he s H C cl fp).pe) hs, fun Hs0 H0 ρ σ Hs H E e h => ?_⟩
  refine asg_read (ts := [i]) (f := xLc fi g ft fe (own.map (·.2))) (fun Hs0 H0 ρ σ Hs H Q e h => lc_ok (tg := tg) (iter := iter) qi hts e h) (fun Hs0 H0 ρ σ Hs H v d ρ' Q e r h k => ?_) e h
  cases h
  rw [st_eq] at k
  exact k _ (fun vs hv => wipe_set (hv i (by simp))) (e.set r)

/-! ### lists of the frame's own -/
structure DF (X : Cx) (W : WD) (e : Expr) (f : DEnv → Res (List D)) : Prop where
  ex : ∃ t : TE, PE X e t ∧ ∀ Hs0 H0 ρ σ Hs H Q, EnvOk X.K Hs0 H0 ρ σ Hs H → PostA W σ Hs H (fun ds Hs' H' => ∀ p vs, H' p = none → RpAll X.K Hs' vs ds → Q (.ref p) (upd H' p (.lst vs))) (f ρ) → t σ H Q
def okLen (ds : List D) : Res (List D) := if small ds.length = true then .ok ds else .bad
theorem df_lst {es : List Expr} {fs : DEnv → Res (List D)} (h : DA X W false es fs) : DF X W (.List es pos) (fun ρ => (fs ρ).bind okLen) := by
  obtain ⟨t, p, q⟩ := h.ex
  refine ⟨tLst t, pe_lst p, fun Hs0 H0 ρ σ Hs H Q e h => ?_⟩
  refine q _ _ ρ σ Hs H _ e (h.bind.mono fun xs Hs1 H1 s1 h1 vs rv => ?_)
  refine post_mk h1 fun hz h1 => ⟨?_, fun p hp => h1.now s1.sub p vs hp rv.rp⟩
  rw [RpAll.len rv.rp]
  exact small_line hz
def seqOf : List D → Res (List D)
  | [.tuple xs] => .ok xs
  | [.list xs] => .ok xs
  | _ => .bad
theorem df_list {x : Str} {e : Expr} {p pos : Pos} {fs : DEnv → Res (List D)} (hg : Gl X x) (hm : X.mg x = none) (hv : bootBuiltins x = some (.type "list")) (ha : DA X W true [e] fs) (hn : x ≠ "__name__" := by decide) (hdb : (x == ("__debug__" : Str)) = false := by decide)
    (he : starEach (e :: []) X.env = (false, eval e X.env) :: starEach [] X.env := by rfl) (hpl : (backTo pos (starEach [] X.env)).any (·.1) = false := by rfl) : DF X W (.Call (.Name x p) [e] [] pos) (fun ρ => (fs ρ).bind seqOf) := by
  obtain ⟨t, pt, q⟩ := ha.ex
  refine ⟨_, pe_callTy call_list_of hg hm hv pt hn hdb he hpl, fun Hs0 H0 ρ σ Hs H Q e h => ?_⟩
  refine q _ _ ρ σ Hs H _ e (h.bind.mono fun ds Hs1 H1 s1 h1 vs rvs => ?_)
  match ds, rvs, h1 with
  | [.tuple xs], rvs, h1 =>
    obtain ⟨v, rfl, rv⟩ := rps1 rvs
    obtain ⟨p, ws, rfl, g1, r1⟩ := rv.tuple
    exact ⟨p, ws, rfl, .inr (.inl (ex_td s1.sub g1)), fun l hl => h1.now s1.sub l ws hl r1⟩
  | [.list xs], rvs, h1 =>
    obtain ⟨v, rfl, rv⟩ := rps1 rvs
    obtain ⟨p, ws, rfl, g1, r1⟩ := rv.list s1.sub
    exact ⟨p, ws, rfl, .inl g1, fun l hl => h1.now s1.sub l ws hl r1⟩
theorem EnvOk.setOwn {Hs0 H0 Hs H : Hp} {ρ : DEnv} {σ : L2.St} {i : Nat} {a : Addr} {vs : List V} {ds : List D} (e : EnvOk X.K Hs0 H0 ρ σ Hs H) (hp : H a = none) (r : RpAll X.K Hs vs ds) :
    EnvOk X.K Hs0 H0 (ρ.set i (some (.own ds))) (σ.set i (some (.ref a))) Hs (upd H a (.lst vs)) := e.setObj rfl hp r
/-- x = [..], x the frame's own list from here on -/
def sNewOwn (i : Nat) (f : DEnv → Res (List D)) : DEnv → Out := fun ρ => (f ρ).out fun ds => .next (st ρ i (some (.own ds)))
theorem ds_newOwn (i : Nat) {x : Str} {e : Expr} {pos' : Pos} {f : DEnv → Res (List D)} (hN : X.N.Nodup) (he : DF X W e f) (hi : X.N[i]? = some x := by rfl) (hx : Loc X.env.scope x := by first | exact Or.inl rfl | exact Or.inr rfl)
    (hs : swapsWith e (some (.Name x pos')) pos.line X.env = pure false := by rfl) (hf : X.fn x = true ∨ X.env.scope.names.lookup x = some .local := by first | exact .inl rfl | exact .inr rfl | assumption) : DS X W (.Assign [.Name x pos'] e pos) (sNewOwn i f) := by
  obtain ⟨t, p, q⟩ := he.ex
  refine ⟨tAsg t (gName i), ps_set hN hi hx p hs hf, fun Hs0 H0 ρ σ Hs H E e h => ?_⟩
  refine q _ _ ρ σ Hs H _ e ((post_out e h).mono fun ds Hs' H' s k p vs hp r => ?_)
  rw [st_eq] at k
  exact k _ Hs' _ (Ex.refl _) ((e.step s).setOwn hp r)
/-- the own list at slot i becomes another -/
theorem EnvOk.putOwn {Hs0 H0 Hs H : Hp} {ρ : DEnv} {σ : L2.St} {i : Nat} {a : Addr} {vs : List V} {ds es : List D} (e : EnvOk X.K Hs0 H0 ρ σ Hs H) (hr : ρ[i]? = some (some (.own ds))) (hs : σ[i]? = some (some (.ref a))) (r : RpAll X.K Hs vs es) :
    EnvOk X.K Hs0 H0 (ρ.set i (some (.own es))) σ Hs (upd H a (.lst vs)) := e.putObj rfl rfl hr hs r
/-- x.append(e) -/
def ownAt (ρ : DEnv) (i : Nat) (k : List D → Out) : Out := match lk ρ i with
  | some (.own ds) => k ds
  | _ => .bad
theorem ownAt_ok {ρ : DEnv} {i : Nat} {k : List D → Out} {Hs0 H0 Hs : Hp} {E : Ends} {g : Prop} (h : PostS X.K W Hs0 H0 Hs E (ownAt ρ i k)) (q : ∀ ds, ρ[i]? = some (some (.own ds)) → PostS X.K W Hs0 H0 Hs E (k ds) → g) : g := by
  unfold ownAt at h
  split at h
  · rename_i ds hr
    exact q ds (lk_some hr) h
  · exact h.elim
def sApp (i : Nat) (f : DEnv → Res D) : DEnv → Out := fun ρ => ownAt ρ i fun ds => (f ρ).out fun d => if small ds.length = true then .next (st ρ i (some (.own (ds ++ [d])))) else .bad
theorem postS_mk {o : Out} {c : Prop} [Decidable c] {Hs0 H0 Hs : Hp} {E : Ends} {g : Prop} (h : PostS X.K W Hs0 H0 Hs E (if c then o else .bad)) (k : c → PostS X.K W Hs0 H0 Hs E o → g) : g := by
  by_cases hc : c
  · rw [if_pos hc] at h
    exact k hc h
  · rw [if_neg hc] at h
    exact h.elim
theorem ds_app (i : Nat) {x : Str} {e : Expr} {p1 p2 p3 : Pos} {f : DEnv → Res D} (he : DE X W false e f) (hN : X.N[i]? = some x := by rfl) (hv : Vis X.env.scope x := by first | exact Or.inl rfl | exact Or.inr (Or.inl rfl) | exact Or.inr (Or.inr rfl)) (hd : (x == ("__debug__" : Str)) = false := by decide)
    (hcd : (x == ("__classdict__" : Str)) = false := by decide) (hbase : attributeBase (.Name x p1) "append" X.env (eval (.Name x p1) X.env) = eval (.Name x p1) X.env := by rfl)
    (hfew : ((backTo p3 (starEach [e] X.env)).all (fun x => !x.1) && (backToKw p3 (keywordEach [] X.env)).all (fun x => x.1.isSome) && decide ([e].length + ([] : List Keyword).length + (if ([] : List Keyword).isEmpty then 0 else 1) < 30)) = true := by rfl)
    (hline : (p2.endLine == p3.line) = true := by rfl) (hs : starEach [e] X.env = (false, eval e X.env) :: starEach [] X.env := by rfl) (hplain : (backTo p3 (starEach [] X.env)).any (·.1) = false := by rfl)
    (hsw : swapsWith (.Call (.Attribute (.Name x p1) "append" p2) [e] [] p3) none pos.line X.env = pure false := by rfl) : DS X W (.Expr (.Call (.Attribute (.Name x p1) "append" p2) [e] [] p3) pos) (sApp i f) := by
  obtain ⟨te, pe, qe⟩ := he.ex
  have pb : PE X (.Call (.Attribute (.Name x p1) "append" p2) [e] [] p3) (tBM X.K "list" rAppend (tVar i) (tCons te tNil)) :=
    pe_bm PySem.F.plainAttrs_list PySem.F.slot_list_append PySem.F.type_list_append mt_append (pe_var hN hv hd hcd) (pa_cons pe pa_nil hs) hbase hfew hline hs hplain
  refine ⟨_, ps_expr pb hsw, fun Hs0 H0 ρ σ Hs H E e h => ?_⟩
  refine ownAt_ok h fun ds hr h => ?_
  obtain ⟨a, vs, g1, g2, g3, g4, g5⟩ := e.own i ds hr
  refine ⟨_, g1, .inl ⟨rfl, vs, .inl (.inl g4)⟩, qe _ _ ρ σ Hs H _ e ((post_out e h).mono fun d Hs' H' s k v r => ?_)⟩
  refine postS_mk k fun hz k => ⟨a, vs, v, rfl, rfl, s.wh _ _ g4, ?_, (show PostS X.K W Hs0 H0 Hs' E (.next (ρ.set i (some (.own (ds ++ [d]))))) by rw [← st_eq]; exact k) σ Hs' _ (Ex.refl _) ((e.step s).putOwn hr g1 (RpAll.append (RpAll.ex s.sh g5) (.cons r.rp .nil)))⟩
  rw [RpAll.len g5]
  exact small_lt hz
/-- x[k] = e, x the frame's own list -/
def sPut (i : Nat) (fk fv : DEnv → Res D) : DEnv → Out := fun ρ => ownAt ρ i fun ds => (fv ρ).out fun d => (fk ρ).out fun kd => match kd with
  | .int k => match ixN ds.length k with
    | some j => .next (st ρ i (some (.own (ds.set j d))))
    | none => .bad
  | _ => .bad
theorem ds_put (i : Nat) {x : Str} {e ke : Expr} {p1 p2 : Pos} {fk fv : DEnv → Res D} (he : DE X W false e fv) (hk : DE X W true ke fk) (hN : X.N[i]? = some x := by rfl) (hv : Vis X.env.scope x := by first | exact Or.inl rfl | exact Or.inr (Or.inl rfl) | exact Or.inr (Or.inr rfl)) (hd : (x == ("__debug__" : Str)) = false := by decide)
    (hcd : (x == ("__classdict__" : Str)) = false := by decide) (hs : swapsWithSole [.Subscript (.Name x p1) ke p2] e pos.line X.env = pure false := by rfl) (hw : swappedStores [.Subscript (.Name x p1) ke p2] e X.env = pure none := by rfl)
    (hq : (assignEach [.Subscript (.Name x p1) ke p2] X.env).map (·.2) = [assign (.Subscript (.Name x p1) ke p2) X.env] := by rfl)
    (ha : ∀ v, assign (.Subscript (.Name x p1) ke p2) X.env v = (do let ov ← holding [v] (eval (.Name x p1) X.env); let iv ← holding [v, ov] (eval ke X.env); standAt p2; holding [v, ov, iv] (setItem ov iv v); release [v, ov, iv] []) := by intro _; rfl) : DS X W (.Assign [.Subscript (.Name x p1) ke p2] e pos) (sPut i fk fv) := by
  obtain ⟨te, pe, qe⟩ := he.ex
  obtain ⟨tk, pk, qk⟩ := hk.ex
  refine ⟨_, ps_asg pe (pg_sub (pe_var hN hv hd hcd) pk set_list ha) hs hw hq, fun Hs0 H0 ρ σ Hs H E e h => ?_⟩
  refine ownAt_ok h fun ds hr h => ?_
  obtain ⟨a, vs, g1, g2, g3, g4, g5⟩ := e.own i ds hr
  refine qe _ _ ρ σ Hs H _ e ((post_out e h).mono fun d Hs1 H1 s1 k v r => ⟨_, g1, qk _ _ ρ σ Hs1 H1 _ (e.step s1) ((post_out (e.step s1) k).mono fun kd Hs2 H2 s2 k2 u ru => ?_)⟩)
  cases kd with
  | int n =>
    have := ru.int
    subst this
    change PostS X.K W Hs0 H0 Hs2 E (match ixN ds.length n with | some j => .next (st ρ i (some (.own (ds.set j d)))) | none => .bad) at k2
    cases hj : ixN ds.length n with
    | none => rw [hj] at k2; exact k2.elim
    | some j =>
      rw [hj] at k2
      replace k2 : PostS X.K W Hs0 H0 Hs2 E (.next (ρ.set i (some (.own (ds.set j d))))) := by rw [← st_eq]; exact k2
      have s12 := s1.trans s2
      refine ⟨a, vs, n, j, rfl, rfl, s12.wh _ _ g4, by rw [RpAll.len g5]; exact hj, ?_⟩
      exact k2 σ Hs2 _ (Ex.refl _) ((e.step s12).putOwn hr g1 (RpAll.set (Rp.ex s2.sh r.rp) j (RpAll.ex s12.sh g5)))
  | _ => exact k2.elim

/-! ### for -/
def forGo (g : GD) (body : DEnv → Out) (ks : List Nat) : List D → DEnv → Out
  | [], ρ => .next ρ
  | d :: r, ρ => match g d ρ with
    | none => .bad
    | some ρ1 => match body ρ1 with
      | .next ρ2 => forGo g body ks r (kill ρ2 ks)
      | .cont ρ2 => forGo g body ks r (kill ρ2 ks)
      | .brk ρ2 => .next (kill ρ2 ks)
      | .ret d => .ret d
      | .exc c => .exc c
      | .bad => .bad
def sFor (fi : DEnv → Res (List D)) (g : GD) (body : DEnv → Out) (ks : List Nat) : DEnv → Out := fun ρ => (fi ρ).out fun items => forGo g body ks items (kill ρ ks)
theorem ds_for {tg iter : Expr} {body : List Stmt} {fi : DEnv → Res (List D)} {g : GD} {ts : List Nat} {f : DEnv → Out} (ks : List Nat) (hp : PassesOwn (model X.prog X.w) X.A X.env X.xe) (hc : X.calm = true) (hi : DI X W false tg iter fi) (hg : DG X tg ts g) (hb : DSs X W body f)
    (hs : ∀ x, foldedSetIterable iter X.env x = pure x := by intro _; rfl) : DS X W (.For tg iter body [] pos) (sFor fi g f ks) := by
  obtain ⟨wi, pi, qi⟩ := hi.ex
  obtain ⟨tg', pg, qg⟩ := hg.ex
  obtain ⟨tb, pb, qb⟩ := hb.ex
  refine ⟨tFor wi tg' tb, ps_for hp hc pi pg pb hs, fun Hs0 H0 ρ σ Hs H E e h => ?_⟩
  refine qi _ _ ρ σ Hs H _ e ((post_out e h).mono fun items Hs1 H1 s1 k J wk => ?_)
  obtain ⟨G, Y, w, hG, hY⟩ := wk
  refine for_it w (fun i σ' H' => ∃ Hs' ρ', Ex Hs1 Hs' ∧ EnvOk X.K Hs0 H0 ρ' σ' Hs' H' ∧ PostS X.K W Hs0 H0 Hs' E (forGo g f ks (items.drop i) ρ')) ?_ ?_ ?_ ?_
  · exact ⟨Hs1, kill ρ ks, Ex.refl _, (e.step s1).kill ks, by simpa using k⟩
  · rintro i σ' H' _ ⟨Hs', ρ', x1, x2, _⟩
    exact hG H' (x1.trans x2.sub) fun z => nomatch z
  · rintro i x σ' H' H'' hi ⟨Hs', ρ', x1, x2, x3⟩ y
    obtain ⟨Hs2, st2, d, hd, rd⟩ := hY i x Hs' H' H'' x1 x2.sub hi y
    have hdrop : items.drop i = d :: items.drop (i + 1) := by
      have hlt : i < items.length := hi
      rw [List.drop_eq_getElem_cons hlt]
      have : items[i] = d := by rw [List.getElem?_eq_getElem hlt] at hd; exact Option.some.inj hd
      rw [this]
    rw [hdrop] at x3
    cases hgd : g d ρ' with
    | none => simp only [forGo, hgd] at x3; exact x3.elim
    | some ρ1 =>
      simp only [forGo, hgd] at x3
      refine qg _ _ ρ' σ' Hs2 H'' x d ρ1 _ (x2.step st2) rd hgd fun σ1 _ e1 => qb _ _ ρ1 σ1 Hs2 H'' _ e1 ?_
      have x3 := PostS.step st2.sh x3
      have x4 : Ex Hs1 Hs2 := x1.trans st2.sh
      cases hf : f ρ1 with
      | next ρ2 =>
        rw [hf] at x3
        exact fun σ3 Hs3 H3 y1 y2 => ⟨Hs3, kill ρ2 ks, x4.trans y1, y2.kill ks, PostS.step y1 x3⟩
      | cont ρ2 =>
        rw [hf] at x3
        exact fun σ3 Hs3 H3 y1 y2 => ⟨Hs3, kill ρ2 ks, x4.trans y1, y2.kill ks, PostS.step y1 x3⟩
      | brk ρ2 =>
        rw [hf] at x3
        exact fun σ3 Hs3 H3 y1 y2 => x3 σ3 Hs3 H3 y1 (y2.kill ks)
      | ret d => rw [hf] at x3; exact x3
      | exc c => rw [hf] at x3; exact x3
      | bad => rw [hf] at x3; exact x3
  · rintro σ' H' ⟨Hs', ρ', x1, x2, x3⟩
    have : items.drop items.length = [] := List.drop_length
    rw [this] at x3
    exact x3 σ' Hs' H' (Ex.refl _) x2

/-! ### calls of the program's own defs -/
/-- the exceptions c that may leave, by their classes xc c -/
def Tk (X : Cx) (xc : Nat → Value) (W : WD) : Prop := ∃ W' : WX, L2N.Takes X W' ∧ ∀ c σ H, W c σ H → W' (xc c) none σ H
theorem tk0 {xc : Nat → Value} : Tk X xc W0 := ⟨fun _ _ _ _ => False, fun _ _ ⟨_, _, _, _, _, _, _, _, _, _, _, _, _, _, _, _, w⟩ => w.elim, fun _ _ _ h => h⟩
/-- a def's promise: F over data -/
def spOf (K : PySem.W.Frag) (xc : Nat → Value) (F : List D → Res D) : Sp := fun vs H Q E => ∃ Hs ds, Ex Hs H ∧ RpAll K Hs vs ds ∧ match F ds with
  | .ok d => ∀ v Hs' H', Step Hs H Hs' H' → Rp K Hs' v d → Q v H'
  | .exc c => ∀ Hs' H', Step Hs H Hs' H' → E (xc c) none H'
  | .bad => False
theorem de_call {xc : Nat → Value} {x : Str} {e : Expr} {es : List Expr} {p pos : Pos} {k : Nat} {f : Addr} {fd : FuncData} {ps : List Str} {F : List D → Res D} {fs : DEnv → Res (List D)} {b : Bool} (tk : Tk X xc W) (G : FnOk X.prog X.w X.K X.mg X.base (L2N.CX X.prog X.w) k f fd ps (spOf X.K xc F)) (hr : Room k X.A) (hg : Gl X x) (hm : X.mg x = some (.ref f))
    (hk : PySem.W.keepIn X.K (.ref f) = true) (hb : Binds X.K fd ps []) (ha : DA X W false (e :: es) fs) (hdb : (x == ("__debug__" : Str)) = false := by decide)
    (he : starEach (e :: es) X.env = (false, eval e X.env) :: starEach es X.env := by rfl) (hpl : (backTo pos (starEach es X.env)).any (·.1) = false := by rfl) : DE X W b (.Call (.Name x p) (e :: es) [] pos) (xCall F fs) := by
  obtain ⟨t, pt, q⟩ := ha.ex
  obtain ⟨W', tk', hW⟩ := tk
  refine ⟨_, pe_callS (E := WE W') G hr hg hm hk hb (fun σ => L2N.passAt tk' σ) pt hdb he hpl, fun Hs0 H0 ρ σ Hs H Q e h => ?_⟩
  have hb := h.bind
  cases hf : fs ρ with
  | bad => rw [hf] at hb; exact hb.elim
  | exc c =>
    rw [hf] at hb
    refine q _ _ ρ σ Hs H _ e ?_
    rw [hf]
    exact hb
  | ok ds =>
    rw [hf] at hb
    refine q _ _ ρ σ Hs H _ e ?_
    rw [hf]
    intro Hs1 H1 s1 vs rv
    have h1 : Post X.K b W σ Hs1 H1 Q (F ds) := hb Hs1 H1 s1
    refine ⟨Hs1, ds, s1.sub, rv.rp, ?_⟩
    cases hF : F ds with
    | bad => rw [hF] at h1; exact (h1 : False).elim
    | exc c =>
      rw [hF] at h1
      exact fun Hs' H' s => hW c σ H' (h1 Hs' H' s)
    | ok d =>
      rw [hF] at h1
      exact fun v Hs' H' s r => h1 Hs' H' s v (.of r)
end

/-! ### a def keeps its promise -/
def env0 (N : List Str) (ds : List D) : DEnv := ds.map (fun d => some (LV.dat d)) ++ List.replicate (N.length - ds.length) none
def outRes : Out → Res D
  | .ret d => .ok d
  | .next _ => .ok .none
  | .exc c => .exc c
  | _ => .bad
/-- the def of n parameters whose names are N and whose body is f -/
def fnD (N : List Str) (n : Nat) (f : DEnv → Out) : List D → Res D := fun ds => if ds.length = n then outRes (f (env0 N ds)) else .bad
theorem env0_ok {K : PySem.W.Frag} {N : List Str} {vs : List V} {ds : List D} {Hs H : Hp} (r : RpAll K Hs vs ds) (e : Ex Hs H) : EnvOk K Hs H (env0 N ds) (L2.start N vs) Hs H := by
  have hl := RpAll.len r
  have pick : ∀ (i : Nat) (x : LV), (env0 N ds)[i]? = some (some x) → ∃ d, ds[i]? = some d ∧ x = .dat d := fun i x h => by
    unfold env0 at h
    by_cases hi : i < ds.length
    · rw [List.getElem?_append_left (by simpa using hi), List.getElem?_map, List.getElem?_eq_getElem hi] at h
      cases h
      exact ⟨_, List.getElem?_eq_getElem hi, rfl⟩
    · rw [List.getElem?_append_right (by simpa using hi)] at h
      rw [List.getElem?_replicate] at h
      split at h <;> cases h
  refine ⟨by simp [env0, L2.start, hl], e, Ex.refl _, Ex.refl _, fun _ _ _ n => n, fun i d h => ?_, fun i es h => ?_, fun i x hx h => ?_, fun i j x y a hx hy p q r s => ?_⟩
  · obtain ⟨d', h1, h2⟩ := pick i _ h
    cases h2
    obtain ⟨v, h3, h4⟩ := RpAll.get r h1
    have hi : i < vs.length := (List.getElem?_eq_some_iff.mp h3).1
    refine ⟨v, ?_, h4⟩
    unfold L2.start
    rw [List.getElem?_append_left (by simpa using hi), List.getElem?_map, h3]
    rfl
  · obtain ⟨d', _, h2⟩ := pick i _ h
    cases h2
  · obtain ⟨d', _, h2⟩ := pick i _ h
    subst h2
    cases hx
  · obtain ⟨d', _, h2⟩ := pick i _ p
    subst h2
    cases hx
section
variable {P : Program} {w : World} {K : PySem.W.Frag} {mg : Str → Option Value} {base : Heap}
/-- the exceptions that leave a def -/
def WDof (xc : Nat → Value) (E : XK) : WD := fun c _ H => E (xc c) none H
theorem fn_ok {x qual : Str} {args : Arguments} {st : List Stmt} {sc : Scope} {f : Addr} {fd : FuncData} {N ps : List Str} {k n : Nat} {xc : Nat → Value} {F : DEnv → Out}
    (hfn : ∀ (sp : Sp), (∀ vs H Q E, sp vs H Q E → vs.length = ps.length) →
      (∀ (cdv : Value) (A : Around) (outer : List Env) (s : Shared) (H : Hp) (vs : List V) (Q : VK) (E : XK), Room k (A.deeper (envOfC qual sc s.heap.objs.size f cdv)) → sp vs H Q E →
        ∃ t, PSs (cxOf (L2N.CX P w) P w K mg base N qual sc f cdv A outer s H E) st t ∧ t { nx := fun _ H' => Q .non H', rt := Q } (L2.start N vs) H) → FnOk P w K mg base (L2N.CX P w) (k + 1) f fd ps sp)
    (hn : ps.length = n)
    (body : ∀ (cdv : Value) (A : Around) (outer : List Env) (s : Shared) (H : Hp) (E : XK), Room k (A.deeper (envOfC qual sc s.heap.objs.size f cdv)) →
      DSs (cxOf (L2N.CX P w) P w K mg base N qual sc f cdv A outer s H E) (WDof xc E) st F) : FnOk P w K mg base (L2N.CX P w) (k + 1) f fd ps (spOf K xc (fnD N n F)) := by
  refine hfn _ ?_ ?_
  · rintro vs H Q E ⟨Hs, ds, e, r, h⟩
    by_cases hl : ds.length = n
    · rw [RpAll.len r, hl, hn]
    · unfold fnD at h
      rw [if_neg hl] at h
      exact h.elim
  · rintro cdv A outer s H vs Q E hr ⟨Hs, ds, e, r, h⟩
    obtain ⟨t, p, q⟩ := (body cdv A outer s H E hr).ex
    refine ⟨t, p, q Hs H (env0 N ds) (L2.start N vs) Hs H _ (env0_ok r e) ?_⟩
    unfold fnD at h
    by_cases hl : ds.length = n
    · rw [if_pos hl] at h
      cases ho : F (env0 N ds) with
      | next ρ =>
        rw [ho] at h
        exact fun σ' Hs' H' _ e' => h _ Hs' H' e'.step0 .non
      | ret d =>
        rw [ho] at h
        exact fun v Hs' H' s r => h v Hs' H' s r
      | exc c =>
        rw [ho] at h
        exact fun σ' Hs' H' s => h Hs' H' s
      | brk _ => rw [ho] at h; exact h.elim
      | cont _ => rw [ho] at h; exact h.elim
      | bad => rw [ho] at h; exact h.elim
    · rw [if_neg hl] at h
      exact h.elim
end
end SB

namespace SB
open PySem PySem.Spec L2 Evl PyProof.Rows
/-! ### defs by name -/
structure Rdy (P : Program) (w : World) (K : PySem.W.Frag) (mg : Str → Option Value) (base : Heap) (xc : Nat → Value) (k : Nat) (x : Str) (ps : List Str) (F : List D → Res D) : Prop where
  ex : ∃ (f : Addr) (fd : FuncData), FnOk P w K mg base (L2N.CX P w) k f fd ps (spOf K xc F) ∧ mg x = some (.ref f) ∧ PySem.W.keepIn K (.ref f) = true ∧ Binds K fd ps []
section
variable {X : Cx} {W : WD}
theorem de_callR {xc : Nat → Value} {x : Str} {e : Expr} {es : List Expr} {p pos : Pos} {k j : Nat} {ps : List Str} {F : List D → Res D} {fs : DEnv → Res (List D)} {b : Bool} (tk : Tk X xc W) (R : Rdy X.prog X.w X.K X.mg X.base xc k x ps F) (hr : Room j X.A) (ha : DA X W false (e :: es) fs)
    (hk : k ≤ j := by decide) (hg : Gl X x := by rfl) (hdb : (x == ("__debug__" : Str)) = false := by decide)
    (he : starEach (e :: es) X.env = (false, eval e X.env) :: starEach es X.env := by rfl) (hpl : (backTo pos (starEach es X.env)).any (·.1) = false := by rfl) : DE X W b (.Call (.Name x p) (e :: es) [] pos) (xCall F fs) := by
  obtain ⟨f, fd, G, gm, kp, hb⟩ := R.ex
  exact de_call tk G (hr.mono hk) hg gm kp hb ha hdb he hpl
end
section
variable {P : Program} {w : World} {K : PySem.W.Frag} {mg : Str → Option Value} {base : Heap} {xc : Nat → Value}
theorem fnok_of {x : Str} {args : Arguments} {st : List Stmt} {sc : Scope} {f : Addr} {fd : FuncData} {N ps : List Str} {k n : Nat} {F : DEnv → Out} (Fn : FunD K x x args st sc [] [] f fd) (S : FnScope N ps sc) (hn : ps.length = n)
    (body : ∀ (cdv : Value) (A : Around) (outer : List Env) (s : Shared) (H : Hp) (E : XK), Room k (A.deeper (envOfC x sc s.heap.objs.size f cdv)) →
      DSs (cxOf (L2N.CX P w) P w K mg base N x sc f cdv A outer s H E) (WDof xc E) st F) : FnOk P w K mg base (L2N.CX P w) (k + 1) f fd ps (spOf K xc (fnD N n F)) :=
  fn_ok (x := x) (args := args) (fun sp len b => Fn.ok S len b) hn body
theorem rdy_of {x : Str} {args : Arguments} {st : List Stmt} {sc : Scope} {f : Addr} {fd : FuncData} {N ps : List Str} {k n : Nat} {F : DEnv → Out} (Fn : FunD K x x args st sc [] [] f fd) (S : FnScope N ps sc) (gm : mg x = some (.ref f)) (hb : Binds K fd ps []) (hn : ps.length = n)
    (body : ∀ (cdv : Value) (A : Around) (outer : List Env) (s : Shared) (H : Hp) (E : XK), Room k (A.deeper (envOfC x sc s.heap.objs.size f cdv)) →
      DSs (cxOf (L2N.CX P w) P w K mg base N x sc f cdv A outer s H E) (WDof xc E) st F) : Rdy P w K mg base xc (k + 1) x ps (fnD N n F) := by
  refine ⟨f, fd, ?_, gm, Fn.kp, hb⟩
  exact fn_ok (x := x) (args := args) (fun sp len b => Fn.ok S len b) hn body
/-- what leaves the def is taken by its caller -/
theorem tkD {x : Str} {sc : Scope} {f : Addr} {N : List Str} {cdv : Value} {A : Around} {outer : List Env} {s : Shared} {H : Hp} {E : XK} : Tk (cxOf (L2N.CX P w) P w K mg base N x sc f cdv A outer s H E) xc (WDof xc E) :=
  ⟨_, L2N.takes_of rfl rfl rfl rfl, fun _ _ _ h => h⟩
theorem passD {x : Str} {sc : Scope} {f : Addr} {N : List Str} {cdv : Value} {A : Around} {outer : List Env} {s : Shared} {H : Hp} {E : XK} :
    PassesOwn (model P w) (cxOf (L2N.CX P w) P w K mg base N x sc f cdv A outer s H E).A (cxOf (L2N.CX P w) P w K mg base N x sc f cdv A outer s H E).env (cxOf (L2N.CX P w) P w K mg base N x sc f cdv A outer s H E).xe := PassesOwn.leaving
theorem cx_no {H : Hp} {s : Shared} {e : Value} {s' : Shared} (h : L2N.CX P w [] H s (fun _ _ _ => False) e s') : False := by
  obtain ⟨_, _, _, _, _, _, _, _, _, _, _, _, z⟩ := h
  exact z
/-- the law's own promise from its pure statement -/
theorem law_sp {F : List D → Res D} (h : ∀ ns : List Int, ns.length ≤ 63 → F [.list (ns.map .int)] = .ok (.bool true)) (H : Hp) (a : Addr) (ns : List Int) (hl : ns.length ≤ 63) (hS : SqL K H a (ns.map V.int)) : spOf K xc F [.ref a] H (fun v _ => v = .bl true) fun _ _ _ => False := by
  have hi : ∀ ms : List Int, RpAll K H (ms.map V.int) (ms.map .int) := by
    intro ms
    induction ms with
    | nil => exact .nil
    | cons m ms ih => exact .cons (.int m) ih
  refine ⟨H, [.list (ns.map .int)], Ex.refl _, .cons (.lst hS (hi ns)) .nil, ?_⟩
  rw [h ns hl]
  intro v Hs' H' _ r
  cases r
  rfl
end
theorem bt_len : bootBuiltins "len" = some (.builtin "len") := by decide +kernel
theorem bt_sum : bootBuiltins "sum" = some (.builtin "sum") := by decide +kernel
theorem bt_tuple : bootBuiltins "tuple" = some (.type "tuple") := by decide +kernel
theorem bt_list : bootBuiltins "list" = some (.type "list") := by decide +kernel
end SB

namespace SB
open PySem PySem.Spec L2 Evl PyProof.Rows
/-- a def that lets nothing out -/
theorem calm_fn {P : Program} {w : World} {K : PySem.W.Frag} {mg : Str → Option Value} {base : Heap} {k : Nat} {f : Addr} {fd : FuncData} {ps : List Str} {sp : Sp} (F : FnOk P w K mg base (L2N.CX P w) k f fd ps sp) :
    FnOk P w K mg base L2.CX0 k f fd ps (fun vs H Q _ => sp vs H Q fun _ _ _ => False) := by
  refine ⟨fun vs H Q E h => F.len _ _ _ _ h, fun A outer s H args us vs Q E hr he hb hv hs => ?_⟩
  refine codeAny_mono (F.run A outer s H args us vs Q _ hr he hb hv hs) fun r s' h => ?_
  cases r with
  | error e =>
    obtain ⟨_, _, _, _, _, _, _, _, _, _, _, _, z⟩ := h
    exact z.elim
  | ok fl => cases fl <;> exact h
end SB
end
end

section
set_option Elab.async false
set_option linter.all false
set_option maxRecDepth 100000
set_option maxHeartbeats 2000000
noncomputable section
namespace SB
open PySem
/-! ### evaluation by simp -/
@[simp] theorem out_ok {α : Type} (a : α) (k : α → Out) : (Res.ok a).out k = k a := rfl
@[simp] theorem out_bad {α : Type} (k : α → Out) : (Res.bad : Res α).out k = .bad := rfl
@[simp] theorem out_exc {α : Type} (c : Nat) (k : α → Out) : (Res.exc c : Res α).out k = .exc c := rfl
@[simp] theorem xVar_def (i : Nat) (ρ : DEnv) : xVar i ρ = match lk ρ i with | some (.dat d) => .ok d | _ => .bad := rfl
@[simp] theorem xOwn_def (i : Nat) (ρ : DEnv) : xOwn i ρ = match lk ρ i with | some (.own ds) => .ok (.list ds) | _ => .bad := rfl
@[simp] theorem xC_def (d : D) (ρ : DEnv) : xC d ρ = .ok d := rfl
@[simp] theorem xOp_def (g : D → D → Res D) (fa fb : DEnv → Res D) (ρ : DEnv) : xOp g fa fb ρ = (fa ρ).bind fun x => (fb ρ).bind fun y => g x y := rfl
@[simp] theorem xB_def (f : DEnv → Res D) (ρ : DEnv) : xB f ρ = (f ρ).bind asB := rfl
@[simp] theorem asB_bool (k : Bool) : asB (.bool k) = .ok k := rfl
@[simp] theorem xChain_def (g g' : D → D → Res D) (fa fb fc : DEnv → Res D) (ρ : DEnv) : xChain g g' fa fb fc ρ = (fa ρ).bind fun x => (fb ρ).bind fun y => (g x y).bind fun z => (asB z).bind fun k => if k = true then (fc ρ).bind fun w => g' y w else .ok (.bool false) := rfl
@[simp] theorem xAnd_def (ga gb : DEnv → Res Bool) (ρ : DEnv) : xAnd ga gb ρ = (ga ρ).bind fun k => if k = true then gb ρ else .ok false := rfl
@[simp] theorem xOr_def (ga gb : DEnv → Res Bool) (ρ : DEnv) : xOr ga gb ρ = (ga ρ).bind fun k => if k = true then .ok true else gb ρ := rfl
@[simp] theorem xNot_def (ga : DEnv → Res Bool) (ρ : DEnv) : xNot ga ρ = (ga ρ).bind fun k => .ok (!k) := rfl
@[simp] theorem xAndV_def (fa fb : DEnv → Res D) (ρ : DEnv) : xAndV fa fb ρ = (fa ρ).bind fun x => (asB x).bind fun k => if k = true then fb ρ else .ok (.bool false) := rfl
@[simp] theorem xOrV_def (fa fb : DEnv → Res D) (ρ : DEnv) : xOrV fa fb ρ = (fa ρ).bind fun x => (asB x).bind fun k => if k = true then .ok (.bool true) else fb ρ := rfl
@[simp] theorem xNotV_def (fa : DEnv → Res D) (ρ : DEnv) : xNotV fa ρ = (fa ρ).bind fun x => (asB x).bind fun k => .ok (.bool (!k)) := rfl
@[simp] theorem xNeg_def (fa : DEnv → Res D) (ρ : DEnv) : xNeg fa ρ = (fa ρ).bind negD := rfl
@[simp] theorem negD_int (i : Int) : negD (.int i) = .ok (.int (-i)) := rfl
@[simp] theorem xNil_def (ρ : DEnv) : xNil ρ = .ok [] := rfl
@[simp] theorem xCons_def (fa : DEnv → Res D) (fs : DEnv → Res (List D)) (ρ : DEnv) : xCons fa fs ρ = (fa ρ).bind fun x => (fs ρ).bind fun xs => .ok (x :: xs) := rfl
@[simp] theorem xTup_def (fs : DEnv → Res (List D)) (ρ : DEnv) : xTup fs ρ = (fs ρ).bind mkT := rfl
@[simp] theorem xLst_def (fs : DEnv → Res (List D)) (ρ : DEnv) : xLst fs ρ = (fs ρ).bind mkL := rfl
@[simp] theorem mkT_0 : mkT [] = .ok (.tuple []) := rfl
@[simp] theorem mkT_1 (a : D) : mkT [a] = .ok (.tuple [a]) := rfl
@[simp] theorem mkT_2 (a b : D) : mkT [a, b] = .ok (.tuple [a, b]) := rfl
@[simp] theorem mkT_3 (a b c : D) : mkT [a, b, c] = .ok (.tuple [a, b, c]) := rfl
@[simp] theorem mkT_4 (a b c d : D) : mkT [a, b, c, d] = .ok (.tuple [a, b, c, d]) := rfl
@[simp] theorem mkL_0 : mkL [] = .ok (.list []) := rfl
@[simp] theorem mkL_1 (a : D) : mkL [a] = .ok (.list [a]) := rfl
@[simp] theorem mkL_2 (a b : D) : mkL [a, b] = .ok (.list [a, b]) := rfl
@[simp] theorem okLen_0 : okLen [] = .ok [] := rfl
@[simp] theorem okLen_1 (a : D) : okLen [a] = .ok [a] := rfl
@[simp] theorem xCall_def (g : List D → Res D) (fs : DEnv → Res (List D)) (ρ : DEnv) : xCall g fs ρ = (fs ρ).bind g := rfl
@[simp] theorem on1_def (g : D → Res D) (d : D) : on1 g [d] = g d := rfl
@[simp] theorem on2_def (g : D → D → Res D) (d e : D) : on2 g [d, e] = g d e := rfl
@[simp] theorem xSl_def (fa : DEnv → Res D) (fl fh : DEnv → Res (Option Int)) (ρ : DEnv) : xSl fa fl fh ρ = (fa ρ).bind fun x => (fl ρ).bind fun lo => (fh ρ).bind fun hi => slD lo hi x := rfl
@[simp] theorem xPart_def (f : DEnv → Res D) (ρ : DEnv) : xPart f ρ = (f ρ).bind asI := rfl
@[simp] theorem asI_int (i : Int) : asI (.int i) = .ok (some i) := rfl
@[simp] theorem xNoPart_def (ρ : DEnv) : xNoPart ρ = .ok none := rfl
@[simp] theorem xIt_def (g : List D → Res (List D)) (fs : DEnv → Res (List D)) (ρ : DEnv) : xIt g fs ρ = (fs ρ).bind g := rfl
@[simp] theorem xItems_def (f : DEnv → Res D) (ρ : DEnv) : xItems f ρ = (f ρ).bind itemsD := rfl
@[simp] theorem itemsD_t (xs : List D) : itemsD (.tuple xs) = .ok xs := rfl
@[simp] theorem itemsD_l (xs : List D) : itemsD (.list xs) = .ok xs := rfl
@[simp] theorem enumD_t (xs : List D) : enumD [.tuple xs] = .ok (enumFrom 0 xs) := rfl
theorem range1D_def (n : Int) : range1D [.int n] = if big n = true then .ok (upFrom 0 n.toNat) else .bad := rfl
theorem range2D_def (i j : Int) : range2D [.int i, .int j] = if (big i && big j) = true then .ok (upFrom i (j - i).toNat) else .bad := rfl
@[simp] theorem xYes_def (ρ : DEnv) : xYes ρ = .ok true := rfl
@[simp] theorem sNext_def (ρ : DEnv) : sNext ρ = .next ρ := rfl
@[simp] theorem sPass_def (ρ : DEnv) : sPass ρ = .next ρ := rfl
@[simp] theorem sBreak_def (ρ : DEnv) : sBreak ρ = .brk ρ := rfl
@[simp] theorem sCont_def (ρ : DEnv) : sCont ρ = .cont ρ := rfl
def seqOut (o : Out) (g : DEnv → Out) : Out := match o with
  | .next ρ => g ρ
  | o => o
@[simp] theorem seqOut_next (ρ : DEnv) (g : DEnv → Out) : seqOut (.next ρ) g = g ρ := rfl
@[simp] theorem seqOut_ret (d : D) (g : DEnv → Out) : seqOut (.ret d) g = .ret d := rfl
@[simp] theorem seqOut_exc (c : Nat) (g : DEnv → Out) : seqOut (.exc c) g = .exc c := rfl
@[simp] theorem seqOut_brk (ρ : DEnv) (g : DEnv → Out) : seqOut (.brk ρ) g = .brk ρ := rfl
@[simp] theorem seqOut_cont (ρ : DEnv) (g : DEnv → Out) : seqOut (.cont ρ) g = .cont ρ := rfl
@[simp] theorem seqOut_bad (g : DEnv → Out) : seqOut .bad g = .bad := rfl
@[simp] theorem sSeq_def (f g : DEnv → Out) (ρ : DEnv) : sSeq f g ρ = seqOut (f ρ) g := rfl
@[simp] theorem sKill_def (vs : List Nat) (g : DEnv → Out) (ρ : DEnv) : sKill vs g ρ = g (kill ρ vs) := rfl
@[simp] theorem sRet_def (f : DEnv → Res D) (ρ : DEnv) : sRet f ρ = (f ρ).out .ret := rfl
@[simp] theorem sIf_def (c : DEnv → Res Bool) (f g : DEnv → Out) (ρ : DEnv) : sIf c f g ρ = (c ρ).out fun k => if k = true then f ρ else g ρ := rfl
@[simp] theorem sAsg_name (f : DEnv → Res D) (i : Nat) (ρ : DEnv) : sAsg f (yName i) ρ = (f ρ).out fun d => .next (st ρ i (some (.dat d))) := rfl
theorem sAsg_def (f : DEnv → Res D) (g : GD) (ρ : DEnv) : sAsg f g ρ = (f ρ).out fun d => match g d ρ with | some ρ' => .next ρ' | none => .bad := rfl
@[simp] theorem yName_def (i : Nat) (d : D) (ρ : DEnv) : yName i d ρ = some (st ρ i (some (.dat d))) := rfl
@[simp] theorem yTup_def (n : Nat) (gs : List D → DEnv → Option DEnv) (ds : List D) (ρ : DEnv) : yTup n gs (.tuple ds) ρ = if ds.length = n then gs ds ρ else none := rfl
@[simp] theorem yCons_def (g : GD) (gs : List D → DEnv → Option DEnv) (d : D) (r : List D) (ρ : DEnv) : yCons g gs (d :: r) ρ = (g d ρ).bind fun ρ' => gs r ρ' := rfl
@[simp] theorem yNil_def (ρ : DEnv) : yNil [] ρ = some ρ := rfl
@[simp] theorem sNewOwn_def (i : Nat) (f : DEnv → Res (List D)) (ρ : DEnv) : sNewOwn i f ρ = (f ρ).out fun ds => .next (st ρ i (some (.own ds))) := rfl
theorem ownAt_of {ρ : DEnv} {i : Nat} {ds : List D} (k : List D → Out) (h : lk ρ i = some (.own ds)) : ownAt ρ i k = k ds := by unfold ownAt; rw [h]
@[simp] theorem ownAt_def (ρ : DEnv) (i : Nat) (k : List D → Out) : ownAt ρ i k = match lk ρ i with | some (.own ds) => k ds | _ => .bad := rfl
@[simp] theorem sApp_def (i : Nat) (f : DEnv → Res D) (ρ : DEnv) : sApp i f ρ = ownAt ρ i fun ds => (f ρ).out fun d => if small ds.length = true then .next (st ρ i (some (.own (ds ++ [d])))) else .bad := rfl
@[simp] theorem sFor_def (fi : DEnv → Res (List D)) (g : GD) (body : DEnv → Out) (ks : List Nat) (ρ : DEnv) : sFor fi g body ks ρ = (fi ρ).out fun items => forGo g body ks items (kill ρ ks) := rfl
@[simp] theorem forGo_nil (g : GD) (body : DEnv → Out) (ks : List Nat) (ρ : DEnv) : forGo g body ks [] ρ = .next ρ := rfl
@[simp] theorem outRes_ret (d : D) : outRes (.ret d) = .ok d := rfl
@[simp] theorem outRes_next (ρ : DEnv) : outRes (.next ρ) = .ok .none := rfl
@[simp] theorem outRes_exc (c : Nat) : outRes (.exc c) = .exc c := rfl
@[simp] theorem fnD_1 (N : List Str) (f : DEnv → Out) (a : D) : fnD N 1 f [a] = outRes (f (env0 N [a])) := rfl
@[simp] theorem fnD_2 (N : List Str) (f : DEnv → Out) (a b : D) : fnD N 2 f [a, b] = outRes (f (env0 N [a, b])) := rfl
@[simp] theorem fnD_3 (N : List Str) (f : DEnv → Out) (a b c : D) : fnD N 3 f [a, b, c] = outRes (f (env0 N [a, b, c])) := rfl
theorem fnD_def {N : List Str} {n : Nat} {f : DEnv → Out} {ds : List D} (h : ds.length = n) : fnD N n f ds = outRes (f (env0 N ds)) := if_pos h
/-! operations -/
@[simp] theorem addD_int (i j : Int) : addD (.int i) (.int j) = .ok (.int (i + j)) := rfl
@[simp] theorem subD_int (i j : Int) : subD (.int i) (.int j) = .ok (.int (i - j)) := rfl
theorem small_of {n : Nat} (h : n ≤ 1000000) : small n = true := Nat.ble_eq_true_of_le h
theorem addD_t {xs ys : List D} (h : xs.length + ys.length ≤ 1000000) : addD (.tuple xs) (.tuple ys) = .ok (.tuple (xs ++ ys)) := if_pos (small_of h)
theorem addD_l {xs ys : List D} (h : xs.length + ys.length ≤ 1000000) : addD (.list xs) (.list ys) = .ok (.list (xs ++ ys)) := if_pos (small_of h)
@[simp] theorem ltD_int (i j : Int) : ltD (.int i) (.int j) = .ok (.bool (decide (i < j))) := rfl
@[simp] theorem leD_int (i j : Int) : leD (.int i) (.int j) = .ok (.bool (decide (i ≤ j))) := rfl
@[simp] theorem gtD_int (i j : Int) : gtD (.int i) (.int j) = .ok (.bool (decide (j < i))) := rfl
@[simp] theorem geD_int (i j : Int) : geD (.int i) (.int j) = .ok (.bool (decide (j ≤ i))) := rfl
@[simp] theorem eqD_int (i j : Int) : eqD (.int i) (.int j) = .ok (.bool (decide (i = j))) := rfl
@[simp] theorem neD_int (i j : Int) : neD (.int i) (.int j) = .ok (.bool (!decide (i = j))) := rfl
theorem mulD_int {i j : Int} (h : i.natAbs < 18446744073709551616 ∨ j.natAbs < 18446744073709551616) : mulD (.int i) (.int j) = .ok (.int (i * j)) := by
  show (if mulC i j = true then _ else _) = _
  rw [if_pos]
  unfold mulC
  rcases h with h | h
  · simp [h]
  · simp [h]
theorem divC_of {j : Int} (h : 0 < j) (h2 : j ≤ 1000000000) : divC j = true := by
  cases j with
  | ofNat n =>
    show (Nat.ble 1 n && Nat.ble n 1000000000) = true
    simp only [Int.ofNat_eq_natCast] at h h2
    rw [Nat.ble_eq_true_of_le (by omega), Nat.ble_eq_true_of_le (by omega)]
    rfl
  | negSucc n => omega
theorem fdivD_int {i j : Int} (h : 0 < j) (h2 : j ≤ 1000000000) : fdivD (.int i) (.int j) = .ok (.int (i / j)) := if_pos (divC_of h h2)
theorem modD_int {i j : Int} (h : 0 < j) : modD (.int i) (.int j) = .ok (.int (i % j)) := if_pos h
@[simp] theorem lenD_t (xs : List D) : lenD (.tuple xs) = .ok (.int xs.length) := rfl
@[simp] theorem lenD_l (xs : List D) : lenD (.list xs) = .ok (.int xs.length) := rfl
@[simp] theorem tupleD_t (xs : List D) : tupleD (.tuple xs) = .ok (.tuple xs) := rfl
@[simp] theorem tupleD_l (xs : List D) : tupleD (.list xs) = .ok (.tuple xs) := rfl
@[simp] theorem listD_t (xs : List D) : listD (.tuple xs) = .ok (.list xs) := rfl
@[simp] theorem listD_l (xs : List D) : listD (.list xs) = .ok (.list xs) := rfl
@[simp] theorem isD_none (a : D) : isD a .none = .ok (.bool (isNoneD a)) := rfl
@[simp] theorem isNotD_none (a : D) : isNotD a .none = .ok (.bool (!isNoneD a)) := rfl
@[simp] theorem isNoneD_none : isNoneD .none = true := rfl
@[simp] theorem isNoneD_int (i : Int) : isNoneD (.int i) = false := rfl
theorem ixD_t {xs : List D} {n : Nat} {d : D} (h : xs[n]? = some d) : ixD (.tuple xs) (.int (n : Int)) = .ok d := by
  show (match L2.atI xs (n : Int) with | some d => Res.ok d | none => .bad) = _
  rw [L2.atI_nat h]
theorem ixD_l {xs : List D} {n : Nat} {d : D} (h : xs[n]? = some d) : ixD (.list xs) (.int (n : Int)) = .ok d := by
  show (match L2.atI xs (n : Int) with | some d => Res.ok d | none => .bad) = _
  rw [L2.atI_nat h]
theorem big_of {i : Int} (h : -1000000000000 ≤ i) (h2 : i ≤ 1000000000000) : big i = true := by
  cases i with
  | ofNat n =>
    simp only [Int.ofNat_eq_natCast] at h h2
    exact Nat.ble_eq_true_of_le (by omega)
  | negSucc n => exact Nat.ble_eq_true_of_le (by omega)
theorem range1_nat {m : Nat} (h : m ≤ 1000000) : range1D [.int (m : Int)] = .ok (upFrom 0 m) := by
  rw [range1D_def, if_pos (big_of (by omega) (by omega)), Int.toNat_natCast]
theorem range2_nat {a m : Nat} (h : a ≤ 1000000) (h2 : m ≤ 1000000) : range2D [.int (a : Int), .int (m : Int)] = .ok (upFrom a (m - a)) := by
  rw [range2D_def, if_pos (by rw [big_of (by omega) (by omega), big_of (by omega) (by omega)]; rfl)]
  congr 2
  omega
/-! ### encodings -/
def encW (w : List Int) : D := .tuple (w.map .int)
def encF (f : List (List Int)) : D := .tuple (f.map encW)
def enumI {α : Type} : Int → List α → List (Int × α)
  | _, [] => []
  | k, a :: r => (k, a) :: enumI (k + 1) r
theorem enumFrom_map {α : Type} (enc : α → D) : ∀ (k : Int) (xs : List α), enumFrom k (xs.map enc) = (enumI k xs).map fun p => .tuple [.int p.1, enc p.2]
  | _, [] => rfl
  | k, a :: r => by simp [enumFrom, enumI, enumFrom_map enc (k + 1) r]
theorem upFrom_map (lo : Int) (n : Nat) : upFrom lo n = ((List.range n).map fun (i : Nat) => lo + (i : Int)).map .int := by simp [upFrom, Function.comp_def]
/-! slices -/
theorem cut_drop (xs : List D) (k : Nat) : cutD xs (some (k : Int)) none = xs.drop k := by
  unfold cutD
  rw [HT.sIx_nat, HT.sIx_none]
  by_cases h : k ≤ xs.length
  · rw [Nat.min_eq_left h, List.take_of_length_le (by simp)]
  · rw [Nat.min_eq_right (by omega), Nat.sub_self, List.take_zero, List.drop_of_length_le (by omega)]
theorem cut_take (xs : List D) (k : Nat) : cutD xs none (some (k : Int)) = xs.take k := by
  unfold cutD
  rw [HT.sIx_nat, HT.sIx_none, List.drop_zero, Nat.sub_zero]
  by_cases h : k ≤ xs.length
  · rw [Nat.min_eq_left h]
  · rw [Nat.min_eq_right (by omega), List.take_of_length_le (Nat.le_refl _), List.take_of_length_le (by omega)]
theorem slD_t (lo hi : Option Int) (xs : List D) : slD lo hi (.tuple xs) = .ok (.tuple (cutD xs lo hi)) := rfl
theorem slD_l (lo hi : Option Int) (xs : List D) : slD lo hi (.list xs) = .ok (.list (cutD xs lo hi)) := rfl
@[simp] theorem slD_l1 (xs : List D) : slD (some 1) none (.list xs) = .ok (.list (xs.drop 1)) := by rw [slD_l]; congr 2; exact cut_drop xs 1
@[simp] theorem slD_t1 (xs : List D) : slD (some 1) none (.tuple xs) = .ok (.tuple (xs.drop 1)) := by rw [slD_t]; congr 2; exact cut_drop xs 1
theorem foldl_app {α β : Type} (f : α → β) : ∀ (xs : List α) (b : List β), xs.foldl (fun b x => b ++ [f x]) b = b ++ xs.map f
  | [], b => by simp
  | x :: r, b => by rw [List.foldl_cons, foldl_app f r]; simp
/-! words and fillings -/
@[simp] theorem lenD_F (t : List (List Int)) : lenD (encF t) = .ok (.int t.length) := by unfold encF; rw [lenD_t, List.length_map]
@[simp] theorem lenD_W (t : List Int) : lenD (encW t) = .ok (.int t.length) := by unfold encW; rw [lenD_t, List.length_map]
@[simp] theorem slD_Fto (t : List (List Int)) (k : Nat) : slD none (some (k : Int)) (encF t) = .ok (encF (t.take k)) := by unfold encF; rw [slD_t, cut_take, List.map_take]
@[simp] theorem slD_Wto (t : List Int) (k : Nat) : slD none (some (k : Int)) (encW t) = .ok (encW (t.take k)) := by unfold encW; rw [slD_t, cut_take, List.map_take]
@[simp] theorem slD_Ffrom (t : List (List Int)) (k : Nat) : slD (some (k : Int)) none (encF t) = .ok (encF (t.drop k)) := by unfold encF; rw [slD_t, cut_drop, List.map_drop]
@[simp] theorem slD_Wfrom (t : List Int) (k : Nat) : slD (some (k : Int)) none (encW t) = .ok (encW (t.drop k)) := by unfold encW; rw [slD_t, cut_drop, List.map_drop]
@[simp] theorem slD_Ffrom1 (t : List (List Int)) (k : Nat) : slD (some ((k : Int) + 1)) none (encF t) = .ok (encF (t.drop (k + 1))) := slD_Ffrom t (k + 1)
@[simp] theorem slD_Wfrom1 (t : List Int) (k : Nat) : slD (some ((k : Int) + 1)) none (encW t) = .ok (encW (t.drop (k + 1))) := slD_Wfrom t (k + 1)
theorem ixD_F {t : List (List Int)} {k : Nat} {r : List Int} (h : t[k]? = some r) : ixD (encF t) (.int (k : Int)) = .ok (encW r) := ixD_t (by rw [List.getElem?_map, h]; rfl)
theorem ixD_W {t : List Int} {k : Nat} {r : Int} (h : t[k]? = some r) : ixD (encW t) (.int (k : Int)) = .ok (.int r) := ixD_t (by rw [List.getElem?_map, h]; rfl)
theorem addD_W {a b : List Int} (h : a.length + b.length ≤ 1000000) : addD (encW a) (encW b) = .ok (encW (a ++ b)) := by
  unfold encW; rw [addD_t (by simpa using h), List.map_append]
theorem addD_W1 {a : List Int} {v : Int} (h : a.length ≤ 100000) : addD (encW a) (.tuple [.int v]) = .ok (encW (a ++ [v])) := addD_W (b := [v]) (by simp; omega)
theorem addD_F {a b : List (List Int)} (h : a.length + b.length ≤ 1000000) : addD (encF a) (encF b) = .ok (encF (a ++ b)) := by
  unfold encF; rw [addD_t (by simpa using h), List.map_append]
theorem addD_F1 {a : List (List Int)} {b : List Int} (h : a.length ≤ 100000) : addD (encF a) (.tuple [encW b]) = .ok (encF (a ++ [b])) := addD_F (b := [b]) (by simp; omega)
@[simp] theorem itemsD_W (t : List Int) : itemsD (encW t) = .ok (t.map .int) := rfl
@[simp] theorem itemsD_F (t : List (List Int)) : itemsD (encF t) = .ok (t.map encW) := rfl
@[simp] theorem enumD_W (t : List Int) : enumD [encW t] = .ok (enumFrom 0 (t.map .int)) := rfl
@[simp] theorem enumD_F (t : List (List Int)) : enumD [encF t] = .ok (enumFrom 0 (t.map encW)) := rfl
@[simp] theorem tupleD_W (t : List Int) : tupleD (.list (t.map .int)) = .ok (encW t) := rfl
@[simp] theorem tupleD_F (t : List (List Int)) : tupleD (.list (t.map encW)) = .ok (encF t) := rfl
/-! ### loops and comprehensions -/
theorem lcGo_map {α : Type} {g : GD} {ft : DEnv → Res Bool} {fe : DEnv → Res D} {ρ : DEnv} (enc : α → D) (p : α → Bool) (h : α → D) : ∀ (xs : List α),
    (∀ x, x ∈ xs → ∃ ρ1, g (enc x) ρ = some ρ1 ∧ ft ρ1 = .ok (p x) ∧ (p x = true → fe ρ1 = .ok (h x))) → lcGo g ft fe ρ (xs.map enc) = .ok ((xs.filter p).map h)
  | [], _ => rfl
  | x :: r, H => by
    obtain ⟨ρ1, h1, h2, h3⟩ := H x (by simp)
    have ih := lcGo_map (g := g) (ft := ft) (fe := fe) (ρ := ρ) enc p h r fun y hy => H y (by simp [hy])
    rw [List.map_cons]
    simp only [lcGo, h1, h2, Res.bind_ok]
    cases hp : p x with
    | true =>
      rw [if_pos rfl, h3 hp, ih, List.filter_cons, if_pos hp]
      rfl
    | false =>
      rw [if_neg (by decide), ih, List.filter_cons, if_neg (by simp [hp])]
theorem xLc_map {α : Type} {fi : DEnv → Res (List D)} {g : GD} {ft : DEnv → Res Bool} {fe : DEnv → Res D} {vs : List Nat} {ρ : DEnv} {xs : List α} (enc : α → D) (p : α → Bool) (h : α → D) (hi : fi ρ = .ok (xs.map enc)) (hz : xs.length ≤ 1000000)
    (H : ∀ x, x ∈ xs → ∃ ρ1, g (enc x) (kill ρ vs) = some ρ1 ∧ ft ρ1 = .ok (p x) ∧ (p x = true → fe ρ1 = .ok (h x))) : xLc fi g ft fe vs ρ = .ok (.list ((xs.filter p).map h)) := by
  unfold xLc
  rw [hi, Res.bind_ok, if_pos (by rw [List.length_map]; exact small_of hz), lcGo_map enc p h xs H]
  rfl
/-- one turn of a for loop: next: on with the rest; brk: behind the loop -/
def turn (g : GD) (body : DEnv → Out) (ks : List Nat) (d : D) (ρ : DEnv) : Out := match g d ρ with
  | none => .bad
  | some ρ1 => match body ρ1 with
    | .next ρ2 => .next (kill ρ2 ks)
    | .cont ρ2 => .next (kill ρ2 ks)
    | .brk ρ2 => .brk (kill ρ2 ks)
    | .ret d => .ret d
    | .exc c => .exc c
    | .bad => .bad
theorem forGo_cons (g : GD) (body : DEnv → Out) (ks : List Nat) (d : D) (r : List D) (ρ : DEnv) : forGo g body ks (d :: r) ρ = match turn g body ks d ρ with
    | .next ρ' => forGo g body ks r ρ'
    | .brk ρ' => .next ρ'
    | o => o := by
  unfold turn
  rw [forGo]
  cases g d ρ with
  | none => rfl
  | some ρ1 =>
    simp only
    cases body ρ1 <;> rfl
theorem forGo_next {g : GD} {body : DEnv → Out} {ks : List Nat} {d : D} {r : List D} {ρ ρ' : DEnv} (h : turn g body ks d ρ = .next ρ') : forGo g body ks (d :: r) ρ = forGo g body ks r ρ' := by
  rw [forGo_cons, h]
theorem forGo_brk {g : GD} {body : DEnv → Out} {ks : List Nat} {d : D} {r : List D} {ρ ρ' : DEnv} (h : turn g body ks d ρ = .brk ρ') : forGo g body ks (d :: r) ρ = .next ρ' := by
  rw [forGo_cons, h]
theorem forGo_ret {g : GD} {body : DEnv → Out} {ks : List Nat} {d v : D} {r : List D} {ρ : DEnv} (h : turn g body ks d ρ = .ret v) : forGo g body ks (d :: r) ρ = .ret v := by
  rw [forGo_cons, h]
theorem forGo_exc {g : GD} {body : DEnv → Out} {ks : List Nat} {d : D} {c : Nat} {r : List D} {ρ : DEnv} (h : turn g body ks d ρ = .exc c) : forGo g body ks (d :: r) ρ = .exc c := by
  rw [forGo_cons, h]
theorem turn_eq {g : GD} {body : DEnv → Out} {ks : List Nat} {d : D} {ρ ρ1 : DEnv} (h : g d ρ = some ρ1) : turn g body ks d ρ = match body ρ1 with
    | .next ρ2 => .next (kill ρ2 ks)
    | .cont ρ2 => .next (kill ρ2 ks)
    | .brk ρ2 => .brk (kill ρ2 ks)
    | .ret d => .ret d
    | .exc c => .exc c
    | .bad => .bad := by
  unfold turn; rw [h]
/-- a for loop that goes through, its state told by b -/
theorem forGo_fold {α β : Type} {g : GD} {body : DEnv → Out} {ks : List Nat} (enc : α → D) (envOf : β → DEnv) (step : β → α → β) (I : List α → β → Prop)
    (H : ∀ x r b, I (x :: r) b → turn g body ks (enc x) (envOf b) = .next (envOf (step b x)) ∧ I r (step b x)) : ∀ (xs : List α) (b : β), I xs b → forGo g body ks (xs.map enc) (envOf b) = .next (envOf (xs.foldl step b))
  | [], b, _ => rfl
  | x :: r, b, hi => by
    obtain ⟨h1, h2⟩ := H x r b hi
    rw [List.map_cons, List.foldl_cons, forGo_next h1]
    exact forGo_fold enc envOf step I H r (step b x) h2
end SB
end
end

section
set_option Elab.async false
set_option linter.all false
set_option maxRecDepth 100000
set_option maxHeartbeats 4000000
noncomputable section
namespace SB
open PySem PySem.Spec L2 Evl PyProof.Rows
/-! ### a def that calls itself -/
section
variable {P : Program} {w : World} {K : PySem.W.Frag} {mg : Str → Option Value} {base : Heap} {xc : Nat → Value}
theorem rdy_bad {x : Str} {args : Arguments} {st : List Stmt} {sc : Scope} {f : Addr} {fd : FuncData} {ps : List Str} {k : Nat} (Fn : FunD K x x args st sc [] [] f fd) (gm : mg x = some (.ref f)) (hb : Binds K fd ps []) : Rdy P w K mg base xc k x ps (fun _ => .bad) := by
  refine ⟨f, fd, ⟨?_, ?_⟩, gm, Fn.kp, hb⟩
  · rintro vs H Q E ⟨Hs, ds, _, _, h⟩
    exact h.elim
  · rintro A outer s H as us vs Q E _ _ _ _ ⟨Hs, ds, _, _, h⟩
    exact h.elim
end
/-! ### a, b = x, y -/
def two : List D → Res (D × D)
  | [a, c] => .ok (a, c)
  | _ => .bad
def sPar (i j : Nat) (fs : DEnv → Res (List D)) : DEnv → Out := fun ρ => ((fs ρ).bind two).out fun p => .next (SB.st (SB.st ρ i (some (.dat p.1))) j (some (.dat p.2)))
theorem ds_par {X : Cx} {W : WD} {pos : Pos} (i j : Nat) {x y : Str} {a b : Expr} {fs : DEnv → Res (List D)} {px py pt : Pos} {kt k2 pt2} (hN : X.N.Nodup) (ha : DA X W false [a, b] fs) (hc : X.calm = true := by rfl) (hi : X.N[i]? = some x := by rfl) (hj : X.N[j]? = some y := by rfl) (hij : i ≠ j := by decide)
    (hx : X.env.scope.names.lookup x = some .local := by rfl) (hy : X.env.scope.names.lookup y = some .local := by rfl)
    (hw : swappedStores [.Tuple [.Name x px, .Name y py] kt pt] (.Tuple [a, b] k2 pt2) X.env = pure (some [x, y]) := by rfl)
    (hs : swapsWithSole [.Tuple [.Name x px, .Name y py] kt pt] (.Tuple [a, b] k2 pt2) pos.line X.env = pure false := by rfl) :
    DS X W (.Assign [.Tuple [.Name x px, .Name y py] kt pt] (.Tuple [a, b] k2 pt2) pos) (sPar i j fs) := by
  obtain ⟨t, p, q⟩ := ha.ex
  refine ⟨tPar i j t, ps_par hc hN hi hj hij hx hy p hw hs, fun Hs0 H0 ρ σ Hs H E e h => ?_⟩
  have h' := post_out e h
  refine q _ _ ρ σ Hs H _ e (h'.bind.mono fun ds Hs1 H1 s1 h1 vs rv => ?_)
  match ds, rv, h1 with
  | [d, d'], rv, h1 =>
    obtain ⟨v, v', rfl, r1, r2⟩ := rps2 rv
    have h2 := h1.now s1.sub
    rw [st_eq, st_eq] at h2
    exact ⟨v, v', rfl, h2 _ Hs1 H1 (Ex.refl _) (((e.step s1).set r1.rp).set r2.rp)⟩
/-! ### a value dropped -/
def sDrop (f : DEnv → Res D) : DEnv → Out := fun ρ => (f ρ).out fun _ => .next ρ
/-! ### sorted -/
def rk (n : Nat) : D → Bool := Nat.rec (motive := fun _ => D → Bool) (fun d => match d with | .int _ => true | _ => false) (fun _ ih d => match d with | .tuple xs => allL ih xs | _ => false) n
def lexE (lt eq : D → D → Bool) (xs : List D) : List D → Bool := List.rec (motive := fun _ => List D → Bool)
  (fun ys => List.rec (motive := fun _ => Bool) false (fun _ _ _ => true) ys)
  (fun a _ ih ys => List.rec (motive := fun _ => Bool) false (fun b r _ => cond (eq a b) (ih r) (lt a b)) ys) xs
def ltStep (f : D → D → Bool) : D → D → Bool
  | .int i, .int j => decide (i < j)
  | .tuple xs, .tuple ys => lexE f eqvD xs ys
  | _, _ => false
def ltN (n : Nat) : D → D → Bool := Nat.rec (motive := fun _ => D → D → Bool) (fun a c => ltStep (fun _ _ => false) a c) (fun _ ih a c => ltStep ih a c) n
def ltE (a c : D) : Bool := ltN 3 a c
def leE (a c : D) : Bool := !ltE c a
def insE (le : D → D → Bool) (a : D) (l : List D) : List D := List.rec (motive := fun _ => List D) [a] (fun b l ih => cond (le a b) (a :: b :: l) (b :: ih)) l
def sortE (le : D → D → Bool) (l : List D) : List D := List.rec (motive := fun _ => List D) [] (fun a _ ih => insE le a ih) l
@[simp] theorem insE_nil (le : D → D → Bool) (a : D) : insE le a [] = [a] := rfl
theorem insE_cons (le : D → D → Bool) (a b : D) (l : List D) : insE le a (b :: l) = cond (le a b) (a :: b :: l) (b :: insE le a l) := rfl
@[simp] theorem sortE_nil (le : D → D → Bool) : sortE le [] = [] := rfl
theorem sortE_cons (le : D → D → Bool) (a : D) (l : List D) : sortE le (a :: l) = insE le a (sortE le l) := rfl
theorem insE_perm (le : D → D → Bool) (a : D) : ∀ l, (insE le a l).Perm (a :: l)
  | [] => .refl _
  | b :: l => by
    rw [insE_cons]
    cases le a b
    · exact ((insE_perm le a l).cons b).trans (.swap a b l)
    · exact .refl _
theorem sortE_perm (le : D → D → Bool) : ∀ l, (sortE le l).Perm l
  | [] => .refl _
  | a :: l => (insE_perm le a _).trans ((sortE_perm le l).cons a)
theorem insE_congr {le le' : D → D → Bool} {a : D} : ∀ {l : List D}, (∀ b, b ∈ l → le a b = le' a b) → insE le a l = insE le' a l
  | [], _ => rfl
  | b :: l, h => by rw [insE_cons, insE_cons, h b (by simp), insE_congr fun c hc => h c (by simp [hc])]
theorem sortE_congr {le le' : D → D → Bool} : ∀ {l : List D}, (∀ a, a ∈ l → ∀ b, b ∈ l → le a b = le' a b) → sortE le l = sortE le' l
  | [], _ => rfl
  | a :: l, h => by
    rw [sortE_cons, sortE_cons, sortE_congr fun b hb c hc => h b (by simp [hb]) c (by simp [hc])]
    exact insE_congr fun b hb => h a (by simp) b (by simp [(sortE_perm le' l).mem_iff.mp hb])
theorem insE_mid {le : D → D → Bool} {a : D} : ∀ {l₁ l₂ : List D}, (∀ b, b ∈ l₁ → le a b = false) → (∀ b, b ∈ l₂ → le a b = true) → insE le a (l₁ ++ l₂) = l₁ ++ a :: l₂
  | [], [], _, _ => rfl
  | [], c :: l₂, _, h => by
    rw [List.nil_append, insE_cons, h c (by simp)]
    rfl
  | b :: l₁, l₂, h1, h2 => by
    rw [List.cons_append, insE_cons, h1 b (by simp), insE_mid (fun c hc => h1 c (by simp [hc])) h2]
    rfl
theorem sortE_merge {le : D → D → Bool} (trans : ∀ a b c, le a b = true → le b c = true → le a c = true) (total : ∀ a b, (le a b || le b a) = true) : ∀ l : List D, sortE le l = l.mergeSort le
  | [] => by simp
  | a :: l => by
    obtain ⟨l₁, l₂, h1, h2, h3⟩ := List.mergeSort_cons (le := le) trans total a l
    have hp := List.pairwise_mergeSort (le := le) trans total (a :: l)
    rw [h1, List.pairwise_append, List.pairwise_cons] at hp
    rw [sortE_cons, sortE_merge trans total l, h2, h1]
    exact insE_mid (fun b hb => by simpa using h3 b hb) fun b hb => hp.2.1.1 b hb

theorem rk_zero {d : D} (h : rk 0 d = true) : ∃ i, d = .int i := by
  cases d with
  | int i => exact ⟨i, rfl⟩
  | _ => cases h
theorem rk_succ {n : Nat} {d : D} (h : rk (n + 1) d = true) : ∃ xs, d = .tuple xs ∧ ∀ x, x ∈ xs → rk n x = true := by
  cases d with
  | tuple xs =>
    have h' : allL (rk n) xs = true := h
    rw [allL_eq, List.all_eq_true] at h'
    exact ⟨xs, rfl, h'⟩
  | _ => cases h
theorem rk_alike : ∀ {n : Nat} {a c : D}, rk n a = true → rk n c = true → PySem.W.alike a c = true
  | 0, a, c, h1, h2 => by
    obtain ⟨i, rfl⟩ := rk_zero h1
    obtain ⟨j, rfl⟩ := rk_zero h2
    simp [PySem.W.alike]
  | n + 1, a, c, h1, h2 => by
    obtain ⟨xs, rfl, hx⟩ := rk_succ h1
    obtain ⟨ys, rfl, hy⟩ := rk_succ h2
    rw [PySem.W.alike]
    clear h1 h2
    induction xs generalizing ys with
    | nil => simp [PySem.W.alikeAll]
    | cons x xs ih =>
      cases ys with
      | nil => simp [PySem.W.alikeAll]
      | cons y ys =>
        rw [PySem.W.alikeAll, rk_alike (hx x (by simp)) (hy y (by simp)), Bool.true_and]
        exact ih (fun z hz => hx z (by simp [hz])) ys (fun z hz => hy z (by simp [hz]))
theorem rk_dp : ∀ {n m : Nat} {a : D}, rk n a = true → n ≤ m → dpN m a = true
  | 0, m, a, h, _ => by
    obtain ⟨i, rfl⟩ := rk_zero h
    cases m <;> rfl
  | n + 1, 0, a, h, hm => by omega
  | n + 1, m + 1, a, h, hm => by
    obtain ⟨xs, rfl, hx⟩ := rk_succ h
    show allL (dpN m) xs = true
    rw [allL_eq, List.all_eq_true]
    exact fun x hx' => rk_dp (hx x hx') (by omega)
theorem ltN_ok : ∀ {n m : Nat} {a c : D}, rk n a = true → rk n c = true → n ≤ m → n ≤ 30 → ltN m a c = PySem.W.dataLt a c
  | 0, m, a, c, h1, h2, _, _ => by
    obtain ⟨i, rfl⟩ := rk_zero h1
    obtain ⟨j, rfl⟩ := rk_zero h2
    rw [PySem.W.dataLt_int]
    cases m <;> rfl
  | n + 1, 0, a, c, _, _, hm, _ => by omega
  | n + 1, m + 1, a, c, h1, h2, hm, hn => by
    obtain ⟨xs, rfl, hx⟩ := rk_succ h1
    obtain ⟨ys, rfl, hy⟩ := rk_succ h2
    rw [PySem.W.dataLt_tuple]
    show lexE (ltN m) eqvD xs ys = _
    clear h1 h2
    induction xs generalizing ys with
    | nil =>
      cases ys with
      | nil => exact (PyProof.Rows.lex_irrefl _).symm
      | cons y ys =>
        rw [PySem.W.toks_all_cons]
        simp only [PySem.W.keyToksAll]
        rw [PyProof.Rows.lex_diff (O := itemOrd) (by simp)]
        rfl
    | cons x xs ih =>
      cases ys with
      | nil =>
        rw [PySem.W.toks_all_cons]
        simp only [PySem.W.keyToksAll]
        rw [PyProof.Rows.lex_diff (O := itemOrd) (by simp)]
        rfl
      | cons y ys =>
        have hx0 := hx x (by simp)
        have hy0 := hy y (by simp)
        rw [PySem.W.dataLt_cons (rk_alike hx0 hy0)]
        show cond (eqvD x y) (lexE (ltN m) eqvD xs ys) (ltN m x y) = _
        rw [eqvD_ok (show depOk x = true from rk_dp hx0 (by omega)), ih (fun z hz => hx z (by simp [hz])) ys (fun z hz => hy z (by simp [hz])), ltN_ok hx0 hy0 (by omega) (by omega)]
        cases PyData.eqv x y <;> rfl
def nonE : D → Bool
  | .tuple [] => false
  | _ => true
def oneE : List D → Bool
  | [.tuple []] => true
  | _ => false
/-- what sorted is served at: numbers, rows of numbers, rows of rows; or the empty tuple alone -/
def sortOk (ds : List D) : Bool := small ds.length && (allL (rk 0) ds || allL (fun d => rk 1 d && nonE d) ds || allL (fun d => rk 2 d && nonE d) ds || oneE ds)
theorem sortOk_rank {ds : List D} (h : sortOk ds = true) : small ds.length = true ∧ ∃ n, n ≤ 2 ∧ (∀ d, d ∈ ds → rk n d = true) ∧ (PySem.W.Sortable ds ∨ ds = [.tuple []]) := by
  unfold sortOk at h
  rw [Bool.and_eq_true] at h
  refine ⟨h.1, ?_⟩
  have h2 := h.2
  simp only [allL_eq, Bool.or_eq_true, List.all_eq_true, Bool.and_eq_true] at h2
  have ne : ∀ n d, rk (n + 1) d = true → nonE d = true → ∃ x r, d = .tuple (x :: r) := fun n d a b => by
    obtain ⟨xs, rfl, _⟩ := rk_succ a
    cases xs with
    | nil => cases b
    | cons x r => exact ⟨x, r, rfl⟩
  rcases h2 with ((h2 | h2) | h2) | h2
  · refine ⟨0, by omega, h2, .inl (.inr fun d hd => ?_)⟩
    obtain ⟨i, rfl⟩ := rk_zero (h2 d hd)
    exact ⟨by simp, by simp⟩
  · exact ⟨1, by omega, fun d hd => (h2 d hd).1, .inl (.inl fun d hd => ne 0 d (h2 d hd).1 (h2 d hd).2)⟩
  · exact ⟨2, by omega, fun d hd => (h2 d hd).1, .inl (.inl fun d hd => ne 1 d (h2 d hd).1 (h2 d hd).2)⟩
  · unfold oneE at h2
    split at h2
    · exact ⟨1, by omega, fun d hd => by simp at hd; subst hd; rfl, .inr rfl⟩
    · cases h2
section
open PySem.W
variable {prog : Program} {w : World} {A : Around} {s : Shared}
/-- the empty tuple alone can be sorted -/
theorem sorts_one {vs : List Value} (hu : A.units < cLine) (e : EachIs (fun v d => ∃ as, Reads s.heap v d as) vs [PyData.tuple []]) : SortsAt prog w A s (dataKind s.heap [PyData.tuple []]) vs := by
  have hal : AllAlike [PyData.tuple []] := fun d hd d' hd' => by
    simp at hd hd'
    subst hd hd'
    simp [alike, alikeAll]
  refine ⟨fun v hv => ?_, ⟨tuples' true, ?_, fun h2 => ?_⟩⟩
  · obtain ⟨d, hd, as, r⟩ := e.left v hv
    exact ⟨_, dataKind_some hal hd r⟩
  · intro E x y a b Q ha hb hq
    obtain ⟨d, as, hd, ra, rfl⟩ := dataKind_inv ha
    obtain ⟨d', as', hd', rb, rfl⟩ := dataKind_inv hb
    have e1 : d = .tuple [] := by simpa using hd
    have e2 : d' = .tuple [] := by simpa using hd'
    subst e1 e2
    have hq' : Q (dataLt (.tuple []) (.tuple [])) s := hq
    rw [dataLt_tuple] at hq'
    cases ra with
    | @tuple l o xs n _ _ h1 h2 h3 h4 =>
      cases rb with
      | @tuple l' o' xs' n' _ _ k1 k2 k3 k4 =>
        have n1 : xs.size = 0 := by simpa using SeqAt.ReadsAll.length _ _ _ h4
        have n2 : xs'.size = 0 := by simpa using SeqAt.ReadsAll.length _ _ _ k4
        refine kat_lt h1 h3 k1 k3 (katLex_alike [] [] 0 _ _ _ _ h4 k4 (by simp [alikeAll]) ?_ (fun _ _ x r t ex => by cases ex) (by rw [n1, n2]; rfl) hq')
        show A.units + 0 < cLine
        omega
  · have := e.length
    simp at this
    omega
end

theorem each_pairs {X : Cx} {pins : List (Addr × Obj)} {σ : L2.St} {H : Hp} {s : Shared} (I : Inv X pins σ H s) : ∀ {xs : List V} {its : List Value} {ds : List D}, Vals xs its → RpAll X.K H xs ds → PySem.W.EachIs (fun v (b : V × D) => RelV b.1 v ∧ ∃ as, Reads s.heap v b.2 as) its (xs.zip ds)
  | _, _, _, .nil, .nil => .nil
  | _, _, _, .cons h r, .cons q t => .cons ⟨h, Dp.reads I _ _ _ (Rp.dp q) h⟩ (each_pairs I r t)
theorem each_vals {xs : List (V × D)} : ∀ {its : List Value}, PySem.W.EachIs (fun v (b : V × D) => RelV b.1 v) its xs → Vals (xs.map Prod.fst) its := by
  induction xs with
  | nil => intro its h; cases h; exact .nil
  | cons x xs ih =>
    intro its h
    cases h with
    | cons a r => exact .cons a (ih r)
def rSortP (K : PySem.W.Frag) : List V → Hp → VK → Prop := fun vs H Q => ∃ (a : Addr) (xs : List V) (ds : List D), vs = [V.ref a] ∧ SqL K H a xs ∧ RpAll K H xs ds ∧ sortOk ds = true ∧
  ∀ p, H p = none → Q (.ref p) (upd H p (.lst (((xs.zip ds).mergeSort (PySem.W.dataLe false Prod.snd)).map Prod.fst)))
theorem zip_snd {H : Hp} {K : PySem.W.Frag} : ∀ {xs : List V} {ds : List D}, RpAll K H xs ds → (xs.zip ds).map Prod.snd = ds
  | _, _, .nil => rfl
  | _, _, .cons _ r => by rw [List.zip_cons_cons, List.map_cons, zip_snd r]
theorem zip_rp {H : Hp} {K : PySem.W.Frag} : ∀ {xs : List V} {ds : List D}, RpAll K H xs ds → ∀ p, p ∈ xs.zip ds → Rp K H p.1 p.2
  | _, _, .nil, p, h => by cases h
  | _, _, .cons q r, p, h => by
    rw [List.zip_cons_cons, List.mem_cons] at h
    rcases h with rfl | h
    · exact q
    · exact zip_rp r p h
theorem pairs_rp {H : Hp} {K : PySem.W.Frag} : ∀ {l : List (V × D)}, (∀ p, p ∈ l → Rp K H p.1 p.2) → RpAll K H (l.map Prod.fst) (l.map Prod.snd)
  | [], _ => .nil
  | p :: l, h => .cons (h p (by simp)) (pairs_rp fun q hq => h q (by simp [hq]))
theorem cr_sortP {X : Cx} (hu : X.A.units + 64 < cLine) : CallR X (.builtin "sorted") (rSortP X.K) := by
  intro pins s σ H vs us Q I r h
  obtain ⟨a, xs, ds, rfl, hs, hr, hk, q⟩ := h
  obtain ⟨its, rv, hl, _⟩ := I.list hs
  rw [Vals.ref1 r]
  obtain ⟨hz, n, hn, hrk, hS⟩ := sortOk_rank hk
  have ep := each_pairs I rv hr
  have e : PySem.W.EachIs (fun v (b : V × D) => RelV b.1 v) its (xs.zip ds) := ep.mono fun _ _ h => h.1
  have er : PySem.W.EachIs (fun v (b : V × D) => ∃ as, Reads s.heap v b.2 as) its (xs.zip ds) := ep.mono fun _ _ h => h.2
  have hsn := zip_snd hr
  have hal : PySem.W.AllAlike ((xs.zip ds).map Prod.snd) := by
    rw [hsn]
    exact fun d hd d' hd' => rk_alike (hrk d hd) (hrk d' hd')
  have hdep : ∀ d, d ∈ ds → X.A.units + 2 + d.depth < cLine := fun d hd => by
    have := dpN_ok 2 d (rk_dp (hrk d hd) hn)
    omega
  have hlen : its.length = ds.length := by rw [← RpAll.len hr]; exact rv.length.symm
  have hL : its.length ≤ sizeLine := by rw [hlen]; exact small_line hz
  have er' : PySem.W.EachIs (fun v (b : V × D) => ∃ as, Reads (PySem.W.sortingHeap (PySem.W.copyHeap s.heap its) (s.heap.objs.size + 1) its) v b.2 as) its (xs.zip ds) := er.mono fun _ _ ⟨as, r⟩ => ⟨as, PyProof.Rows.Reads.keeps (fun _ _ => PySem.W.sorting_copy_old) r⟩
  have em := PySem.W.each_map (R := fun v d => ∃ as, Reads (PySem.W.sortingHeap (PySem.W.copyHeap s.heap its) (s.heap.objs.size + 1) its) v d as) Prod.snd er'
  have Z : PySem.W.SortsAt X.prog X.w X.A.in1.in1 { s with heap := PySem.W.sortingHeap (PySem.W.copyHeap s.heap its) (s.heap.objs.size + 1) its } (PySem.W.dataKind (PySem.W.sortingHeap (PySem.W.copyHeap s.heap its) (s.heap.objs.size + 1) its) ((xs.zip ds).map Prod.snd)) its := by
    rcases hS with hS | hS
    · exact PySem.W.SortsAt.data (s := { s with heap := PySem.W.sortingHeap (PySem.W.copyHeap s.heap its) (s.heap.objs.size + 1) its }) em hal (by rw [hsn]; exact hS) (by rw [hsn]; exact hdep)
    · rw [hsn, hS] at em ⊢
      refine sorts_one (s := { s with heap := PySem.W.sortingHeap (PySem.W.copyHeap s.heap its) (s.heap.objs.size + 1) its }) ?_ em
      show X.A.units + 2 < cLine
      omega
  refine PySem.W.sorted_vals hl.isList Z hL ?_
  have eo := PySem.W.sortVals_data (R := fun v (b : V × D) => RelV b.1 v) false e er' hal
  have rvo := each_vals eo
  obtain ⟨ep', he'⟩ := PyProof.Rows.sortedAll_at s.heap its (PySem.W.sortVals (PySem.W.dataKind (PySem.W.sortingHeap (PySem.W.copyHeap s.heap its) (s.heap.objs.size + 1) its) ((xs.zip ds).map Prod.snd)) false its its).toArray
  have hlo : (((xs.zip ds).mergeSort (PySem.W.dataLe false Prod.snd)).map Prod.fst).length ≤ sizeLine := by
    rw [List.length_map, List.length_mergeSort, List.length_zip, RpAll.len hr, Nat.min_self]
    exact small_line hz
  exact ⟨.ref _, upd H (s.heap.objs.size + 1) (.lst _), I.laid (t' := s.toks) (fun _ _ => PyProof.Rows.sortedAll_old) (Nat.le_succ _) ⟨hlo, _, ep', rvo, he'⟩, rfl, q _ (I.hok.fresh (Nat.le_succ _))⟩
theorem sort_data {ds : List D} (h : sortOk ds = true) : ds.mergeSort (PySem.W.dataLe false id) = sortE leE ds := by
  obtain ⟨hz, n, hn, hrk, _⟩ := sortOk_rank h
  have T := PySem.W.sortLe_total (listOrd itemOrd) false fun b : D => PySem.W.keyToks b
  rw [← sortE_merge (le := PySem.W.dataLe false id) (fun a b c h1 h2 => T.trans a b c h1 h2) (fun a b => (Bool.or_eq_true _ _).mpr (T.total a b)) ds]
  refine sortE_congr fun a ha b hb => ?_
  show (!PySem.W.dataLt b a) = !ltN 3 b a
  rw [ltN_ok (hrk b hb) (hrk a ha) (by omega) (by omega)]
def sortedD : D → Res D
  | .list ds => if sortOk ds = true then .ok (.list (sortE leE ds)) else .bad
  | _ => .bad
theorem cd_sorted {X : Cx} {k : Nat} (hr : Room k X.A) : CallD X (.builtin "sorted") (on1 sortedD) := by
  refine cd1 (cr_sortP (by have := hr.un; omega)) fun W σ Hs H v d Q e rv h => ?_
  cases d with
  | list ds =>
    refine post_mk h fun hk h => ?_
    obtain ⟨p, ws, rfl, h1, r1⟩ := rv.list e
    refine ⟨p, ws, ds, rfl, h1, RpAll.ex e r1, hk, fun l hl => ?_⟩
    have hm : ((ws.zip ds).mergeSort (PySem.W.dataLe false Prod.snd)).map Prod.snd = sortE leE ds := by
      rw [List.map_mergeSort (r := PySem.W.dataLe false Prod.snd) (s := PySem.W.dataLe false id) (f := Prod.snd) (fun a _ b _ => rfl), zip_snd r1, sort_data hk]
    have hp := pairs_rp (l := (ws.zip ds).mergeSort (PySem.W.dataLe false Prod.snd)) (H := Hs) (K := X.K) fun p hp => zip_rp r1 p ((List.mergeSort_perm _ _).mem_iff.mp hp)
    rw [hm] at hp
    exact mkL_post h e hp hl
  | _ => exact h.elim
theorem bt_sorted : bootBuiltins "sorted" = some (.builtin "sorted") := by decide +kernel
end SB
end
end

section
set_option Elab.async false
set_option linter.all false
set_option maxRecDepth 100000
set_option maxHeartbeats 4000000
noncomputable section
namespace SB
open PySem PySem.Spec L2 Evl PyProof.Rows
/-! ### isinstance -/
def isIntD : D → Bool
  | .int _ => true
  | .bool _ => true
  | _ => false
def isBoolD : D → Bool
  | .bool _ => true
  | _ => false
def isTupleD : D → Bool
  | .tuple _ => true
  | _ => false
def isListD : D → Bool
  | .list _ => true
  | _ => false
def isStrD : D → Bool
  | .str _ => true
  | _ => false
def tyD : D → String
  | .none => "NoneType"
  | .bool _ => "bool"
  | .int _ => "int"
  | .str _ => "str"
  | .list _ => "list"
  | .tuple _ => "tuple"
  | .dict _ => "dict"
def xIsi (g : D → Bool) (f : DEnv → Res D) : DEnv → Res D := fun ρ => (f ρ).bind fun d => .ok (.bool (g d))
structure IsiAt (T : String) (g : D → Bool) : Prop where
  at_ : ∀ d : D, (∀ es, d ≠ .dict es) → kitB (tyD d) T = some (g d)
theorem isi_of {T : String} {g : D → Bool} (h1 : kitB "NoneType" T = some (g .none)) (h2 : ∀ b, kitB "bool" T = some (g (.bool b))) (h3 : ∀ i, kitB "int" T = some (g (.int i))) (h4 : ∀ x, kitB "str" T = some (g (.str x))) (h5 : ∀ x, kitB "list" T = some (g (.list x))) (h6 : ∀ x, kitB "tuple" T = some (g (.tuple x))) : IsiAt T g := by
  refine ⟨fun d hd => ?_⟩
  cases d with
  | none => exact h1
  | bool b => exact h2 b
  | int i => exact h3 i
  | str x => exact h4 x
  | list x => exact h5 x
  | tuple x => exact h6 x
  | dict es => exact absurd rfl (hd es)
theorem kb1 : kitB "NoneType" "int" = some false := by decide +kernel
theorem kb2 : kitB "bool" "int" = some true := by decide +kernel
theorem kb3 : kitB "int" "int" = some true := by decide +kernel
theorem kb4 : kitB "str" "int" = some false := by decide +kernel
theorem kb5 : kitB "list" "int" = some false := by decide +kernel
theorem kb6 : kitB "tuple" "int" = some false := by decide +kernel
theorem isi_int : IsiAt "int" isIntD := isi_of kb1 (fun _ => kb2) (fun _ => kb3) (fun _ => kb4) (fun _ => kb5) (fun _ => kb6)
theorem kc1 : kitB "NoneType" "bool" = some false := by decide +kernel
theorem kc2 : kitB "bool" "bool" = some true := by decide +kernel
theorem kc3 : kitB "int" "bool" = some false := by decide +kernel
theorem kc4 : kitB "str" "bool" = some false := by decide +kernel
theorem kc5 : kitB "list" "bool" = some false := by decide +kernel
theorem kc6 : kitB "tuple" "bool" = some false := by decide +kernel
theorem isi_bool : IsiAt "bool" isBoolD := isi_of kc1 (fun _ => kc2) (fun _ => kc3) (fun _ => kc4) (fun _ => kc5) (fun _ => kc6)
theorem kd1 : kitB "NoneType" "tuple" = some false := by decide +kernel
theorem kd2 : kitB "bool" "tuple" = some false := by decide +kernel
theorem kd3 : kitB "int" "tuple" = some false := by decide +kernel
theorem kd4 : kitB "str" "tuple" = some false := by decide +kernel
theorem kd5 : kitB "list" "tuple" = some false := by decide +kernel
theorem kd6 : kitB "tuple" "tuple" = some true := by decide +kernel
theorem isi_tuple : IsiAt "tuple" isTupleD := isi_of kd1 (fun _ => kd2) (fun _ => kd3) (fun _ => kd4) (fun _ => kd5) (fun _ => kd6)
theorem ke1 : kitB "NoneType" "list" = some false := by decide +kernel
theorem ke2 : kitB "bool" "list" = some false := by decide +kernel
theorem ke3 : kitB "int" "list" = some false := by decide +kernel
theorem ke4 : kitB "str" "list" = some false := by decide +kernel
theorem ke5 : kitB "list" "list" = some true := by decide +kernel
theorem ke6 : kitB "tuple" "list" = some false := by decide +kernel
theorem isi_list : IsiAt "list" isListD := isi_of ke1 (fun _ => ke2) (fun _ => ke3) (fun _ => ke4) (fun _ => ke5) (fun _ => ke6)
theorem kf1 : kitB "NoneType" "str" = some false := by decide +kernel
theorem kf2 : kitB "bool" "str" = some false := by decide +kernel
theorem kf3 : kitB "int" "str" = some false := by decide +kernel
theorem kf4 : kitB "str" "str" = some true := by decide +kernel
theorem kf5 : kitB "list" "str" = some false := by decide +kernel
theorem kf6 : kitB "tuple" "str" = some false := by decide +kernel
theorem isi_str : IsiAt "str" isStrD := isi_of kf1 (fun _ => kf2) (fun _ => kf3) (fun _ => kf4) (fun _ => kf5) (fun _ => kf6)
theorem bt_isinstance : bootBuiltins "isinstance" = some (.builtin "isinstance") := by decide +kernel
theorem bt_int : bootBuiltins "int" = some (.type "int") := by decide +kernel
theorem bt_bool : bootBuiltins "bool" = some (.type "bool") := by decide +kernel
theorem bt_str : bootBuiltins "str" = some (.type "str") := by decide +kernel
theorem bt_all : bootBuiltins "all" = some (.builtin "all") := by decide +kernel
theorem bt_any : bootBuiltins "any" = some (.builtin "any") := by decide +kernel
theorem bt_max : bootBuiltins "max" = some (.builtin "max") := by decide +kernel
theorem bt_min : bootBuiltins "min" = some (.builtin "min") := by decide +kernel
theorem Rp.nodict {K : PySem.W.Frag} {H : Hp} {v : V} {d : D} (h : Rp K H v d) : ∀ es, d ≠ .dict es := by
  cases h <;> (intro es z; cases z)
section
variable {X : Cx} {W : WD} {b : Bool}
end
/-! ### all, any: lists of truths -/
def bools : List D → Option (List Bool)
  | [] => some []
  | .bool i :: r => (bools r).map (i :: ·)
  | _ => none
theorem bools_map (ns : List Bool) : bools (ns.map .bool) = some ns := by
  induction ns with
  | nil => rfl
  | cons n r ih => simp [bools, ih]
theorem bools_rp {K : PySem.W.Frag} {H : Hp} : ∀ {vs : List V} {ds : List D} {ns : List Bool}, RpAll K H vs ds → bools ds = some ns → vs = ns.map V.bl
  | _, _, ns, .nil, e => by cases e; rfl
  | _, _, ns, .cons (ds := ds) h r, e => by
    cases h with
    | bl i =>
      simp only [bools] at e
      cases q : bools ds with
      | none => rw [q] at e; cases e
      | some ms =>
        rw [q] at e
        cases e
        rw [bools_rp r q]
        rfl
    | _ => cases e
def allD : D → Res D
  | .list xs => match bools xs with | some bs => .ok (.bool (bs.all id)) | none => .bad
  | _ => .bad
def anyD : D → Res D
  | .list xs => match bools xs with | some bs => .ok (.bool (bs.any id)) | none => .bad
  | _ => .bad
section
variable {X : Cx} {W : WD}
theorem cd_all (hc : X.calm = true) : CallD X (.builtin "all") (on1 allD) := by
  refine cd1 (cr_all hc) fun W σ Hs H v d Q e rv h => ?_
  cases d with
  | list xs =>
    obtain ⟨p, ws, rfl, h1, r1⟩ := rv.list e
    change Post X.K false W σ Hs H Q (match bools xs with | some ns => .ok (.bool (ns.all id)) | none => .bad) at h
    cases q : bools xs with
    | none => rw [q] at h; exact h.elim
    | some ns =>
      rw [q] at h
      have := bools_rp r1 q
      subst this
      exact ⟨p, ns, rfl, h1, h.now e _ (.of (.bl _))⟩
  | _ => exact h.elim
theorem cd_any (hc : X.calm = true) : CallD X (.builtin "any") (on1 anyD) := by
  refine cd1 (cr_any hc) fun W σ Hs H v d Q e rv h => ?_
  cases d with
  | list xs =>
    obtain ⟨p, ws, rfl, h1, r1⟩ := rv.list e
    change Post X.K false W σ Hs H Q (match bools xs with | some ns => .ok (.bool (ns.any id)) | none => .bad) at h
    cases q : bools xs with
    | none => rw [q] at h; exact h.elim
    | some ns =>
      rw [q] at h
      have := bools_rp r1 q
      subst this
      exact ⟨p, ns, rfl, h1, h.now e _ (.of (.bl _))⟩
  | _ => exact h.elim
/-! ### max, min of two numbers -/
def max2D : D → D → Res D
  | .int i, .int j => .ok (.int (if i < j then j else i))
  | _, _ => .bad
def min2D : D → D → Res D
  | .int i, .int j => .ok (.int (if j < i then j else i))
  | _, _ => .bad
theorem cd_max2 (hc : X.calm = true) : CallD X (.builtin "max") (on2 max2D) := by
  refine cd2 (call_max2 hc) fun W σ Hs H v v' d d' Q e rv rv' h => ?_
  cases d with
  | int i =>
    cases d' with
    | int j =>
      have e1 := rv.int
      have e2 := rv'.int
      subst e1 e2
      exact ⟨i, j, rfl, h.now e _ (.of (.int _))⟩
    | _ => exact h.elim
  | _ => cases d' <;> exact h.elim
theorem cd_min2 (hc : X.calm = true) : CallD X (.builtin "min") (on2 min2D) := by
  refine cd2 (call_min2 hc) fun W σ Hs H v v' d d' Q e rv rv' h => ?_
  cases d with
  | int i =>
    cases d' with
    | int j =>
      have e1 := rv.int
      have e2 := rv'.int
      subst e1 e2
      exact ⟨i, j, rfl, h.now e _ (.of (.int _))⟩
    | _ => exact h.elim
  | _ => cases d' <;> exact h.elim
def intD : D → Res D
  | .int i => .ok (.int i)
  | .bool k => .ok (.int (if k then 1 else 0))
  | _ => .bad
theorem cd_int : CallD X (.type "int") (on1 intD) := by
  refine cd1 call_int1 fun W σ Hs H v d Q e rv h => ?_
  cases d with
  | int i =>
    have e1 := rv.int
    subst e1
    exact .inl ⟨i, rfl, h.now e _ (.of (.int _))⟩
  | bool i =>
    have e1 := rv.bool
    subst e1
    exact .inr ⟨i, rfl, h.now e _ (.of (.int _))⟩
  | _ => exact h.elim
end
end SB
end
end

section
set_option Elab.async false
set_option linter.all false
set_option maxRecDepth 100000
set_option maxHeartbeats 4000000
noncomputable section
namespace SB
open PySem PySem.Spec L2 Evl PyProof.Rows
/-! ### a statement that is not reached -/
theorem ds_bad {X : Cx} {W : WD} {st : Stmt} : DS X W st (fun _ => .bad) :=
  ⟨fun _ _ _ => False, ⟨fun pins s σ H D I h => h.elim⟩, fun Hs0 H0 ρ σ Hs H E e h => h.elim⟩
/-! ### t[::-1] -/
section
variable {prog : Program} {w : World} {A : Around} {E : Value → Shared → Prop} {s : Shared}
theorem sliceApplied_rev {sa : Addr} {wl wu vs : Value} {n : Nat} {Q : Int × Int × Nat → Shared → Prop} (hs : s.heap.IsSliceOf sa wl wu vs) (pl : IsPart wl none) (pu : IsPart wu none) (ps : IsPart vs (some (-1)))
    (h : Q ((n : Int) - 1, -1, n) s) : wpAny (model prog w) A (Builtin.Slice.sliceApplied (.ref sa) (pure (n : Int))) Q E s := by
  obtain ⟨ob0, hob, hcl, hdt⟩ := id hs
  unfold Builtin.Slice.sliceApplied Builtin.Slice.sliceFields
  refine wpAny_bind (wpAny_bind (wpAny_field hob hdt (x := wl) rfl (wpAny_bind (wpAny_field hob hdt (x := wu) rfl (wpAny_bind (wpAny_field hob hdt (x := vs) rfl (wpAny_pure ?_)))))))
  refine wpAny_bind (HT.slicePart_ ps ?_)
  show wpAny _ _ (if ((-1 : Int) == 0) = true then _ else _) _ _ s
  rw [if_neg (by decide)]
  refine wpAny_bind (HT.slicePart_ pl (wpAny_bind (HT.slicePart_ pu (wpAny_bind (wpAny_pure ?_)))))
  show wpAny _ _ (match Builtin.Slice.sliceAdjust none none (-1) (n : Int) with | (lo, hi) => pure (lo, (-1 : Int), Builtin.Slice.slicePlaces lo hi (-1))) _ _ s
  have e1 : Builtin.Slice.sliceAdjust none none (-1) (n : Int) = ((n : Int) - 1, -1) := rfl
  rw [e1]
  show wpAny _ _ (pure ((n : Int) - 1, (-1 : Int), Builtin.Slice.slicePlaces ((n : Int) - 1) (-1) (-1))) _ _ s
  have e2 : Builtin.Slice.slicePlaces ((n : Int) - 1) (-1) (-1) = n := by
    unfold Builtin.Slice.slicePlaces
    rw [if_neg (by decide)]
    show (if (n : Int) - 1 > -1 then ((n : Int) - 1 - -1 - 1) / 1 + 1 else 0).toNat = n
    rw [Int.ediv_one]
    split <;> omega
  rw [e2]
  exact wpAny_pure h
theorem pick_rev (xs : Array Value) : ((List.range xs.size).filterMap fun (m : Nat) => xs[((xs.size : Int) - 1 + (m : Int) * (-1)).toNat]?).toArray = xs.toList.reverse.toArray := by
  congr 1
  have e3 : (List.range xs.size).filterMap (fun (m : Nat) => xs[((xs.size : Int) - 1 + (m : Int) * (-1)).toNat]?) = (List.range xs.size).filterMap fun m => xs[xs.size - 1 - m]? := by
    have key : ∀ l : List Nat, (∀ m, m ∈ l → m < xs.size) → l.filterMap (fun (m : Nat) => xs[((xs.size : Int) - 1 + (m : Int) * (-1)).toNat]?) = l.filterMap fun m => xs[xs.size - 1 - m]? := by
      intro l
      induction l with
      | nil => intro _; rfl
      | cons m l ih =>
        intro h
        have h1 := h m (by simp)
        have e4 : ((xs.size : Int) - 1 + (m : Int) * (-1)).toNat = xs.size - 1 - m := by omega
        rw [List.filterMap_cons, List.filterMap_cons, ih fun k hk => h k (by simp [hk]), e4]
    exact key _ fun m hm => List.mem_range.mp hm
  rw [e3]
  have := PySem.W.krv_range xs.size
  rw [show ((List.range xs.size).filterMap fun m => xs[xs.size - 1 - m]?) = (((List.range xs.size).map fun k => xs.size - 1 - k).filterMap (xs[·]?)) by rw [List.filterMap_map]; rfl, this, List.filterMap_reverse, PySem.W.krv_all]
theorem getItem_tuple_rev {t sa : Addr} {its0 : Array Value} {wl wu vs : Value} {Q : Value → Shared → Prop} (hT : IsTup s.heap t its0) (hs : s.heap.IsSliceOf sa wl wu vs) (pl : IsPart wl none) (pu : IsPart wu none) (ps : IsPart vs (some (-1)))
    (h : Q (.ref s.heap.objs.size) { s with heap := s.heap.push { cls := .type "tuple", data := .seq its0.toList.reverse.toArray } })
    (hsz : its0.size ≤ sizeLine) : wpAny (model prog w) A (getItem (.ref t) (.ref sa)) Q E s := by
  have hfit : sizeOk (.seq its0.toList.reverse.toArray) := by
    show its0.toList.reverse.toArray.size ≤ sizeLine
    rw [List.size_toArray, List.length_reverse, Array.length_toList]
    exact hsz
  obtain ⟨ob0, hob, hcl, hdt⟩ := id hs
  have hTy : s.TypeIs (.ref sa) "slice" := ⟨ob0, hob, hcl⟩
  unfold getItem
  (try with_reducible refine wpAny_holding ?_); (first | refine wpAny_bind (wpAny_pure ?_) | skip)
  refine wpAny_bind (wpAny_sequenceKey hT.typeIs (by decide) ?_)
  refine wpAny_bind (wpAny_callSpecial?_slot (name := Str.ofString "__getitem__") hT.typeIs PyProof.Rows.slot_tuple_getitem
    (wpAny_call_entry PyProof.Rows.slot_tuple_getitem hT.typeIs entry_tuple_getitem ?_ (args_tuple_getitem _ _)))
  show wpAny _ _ (Builtin.Tuple.tupleItemsOf (.ref t) >>= _) _ _ s
  refine wpAny_bind (tupleItemsOf_ hT ?_)
  refine wpAny_bind (wpAny_typeOf hTy ?_)
  rw [if_pos (by decide)]
  refine wpAny_bind (sliceApplied_rev hs pl pu ps ?_)
  have hno : ¬ ((((its0.size : Int) - 1) == 0 && (-1 : Int) == 1 && its0.size == its0.size) = true) := by
    intro q
    rw [Bool.and_eq_true, Bool.and_eq_true] at q
    exact absurd q.1.2 (by decide)
  show wpAny _ _ (if (((its0.size : Int) - 1) == 0 && (-1 : Int) == 1 && its0.size == its0.size) = true then _ else _) _ _ s
  rw [if_neg hno, pick_rev]
  first
    | exact wpAny_bind (m := Builtin.Tuple.tupleExact _) (wpAny_newObj_type (wpAny_pure ⟨_, rfl, wpAny_pure h⟩) hfit)
    | exact wpAny_bind (m := Builtin.Tuple.tupleExact _) (wpAny_newObj_type (wpAny_bind (wpAny_pure (wpAny_pure ⟨_, rfl, wpAny_pure h⟩))) hfit)
end
section
variable {X : Cx} {W : WD} {b : Bool}
def tRevT (K : PySem.W.Frag) (te : TE) : TE := fun σ H Q => te σ H fun x G1 => ∃ a xs, x = .ref a ∧ SqT K G1 a xs ∧ ∀ (p : Addr) (ob : Obj), G1 p = none → ob.dict = none → Q (.ref p) (upd G1 p (.frz ob (.tup xs.reverse)))
theorem pe_revT {e : Expr} {te : TE} {k : Nat} {p1 p2 p3 pos : Pos} (he : PE X e te) : PE X (.Subscript e (.Slice none none (some (.UnaryOp .USub (.Constant (.int 1) k p1) p2)) p3) pos) (tRevT X.K te) := by
  refine ⟨fun pins s σ H Q I h => Subscript_ (thn (he.run pins s σ H _ I h) fun v z1 ⟨x, G1, J1, r1, k1⟩ => ?_)⟩
  obtain ⟨a, xs, exx, hx, q⟩ := k1
  subst exx
  cases r1
  have hmin : PO X (some (.UnaryOp .USub (.Constant (.int 1) k p1) p2)) (tPart (tUn (rU fun i => .int (-i)) (tC (.int 1)))) := po_some (pe_un un_neg pe_int)
  refine wpAny_Slice (thn (po_none.run pins z1 σ G1 (fun o G2 => o = none ∧ G2 = G1) J1 ⟨rfl, rfl⟩) fun wl z2 ⟨l, G2, J2, pl, el1, e2⟩ => ?_)
  subst el1 e2
  refine thn (po_none.run pins z2 σ G2 (fun o G3 => o = none ∧ G3 = G2) J2 ⟨rfl, rfl⟩) fun wu z3 ⟨u, G3, J3, pu, eu1, e3⟩ => ?_
  subst eu1 e3
  refine thn (hmin.run pins z3 σ G3 (fun o G4 => o = some (-1) ∧ G4 = G3) J3 ⟨1, rfl, -1, rfl, rfl, rfl⟩) fun vs z4 ⟨o, G4, J4, ps, eo1, e4⟩ => ?_
  subst eo1 e4
  have J5 : Inv X pins σ G4 { z4 with heap := z4.heap.push { cls := .type "slice", data := .fields #[wl, wu, vs] } } := J4.kept (t' := z4.toks) fun b ob q => Heap.get?_push_of_some _ q
  obtain ⟨its, r, hT, hz⟩ := J5.tuple hx
  have hlen := r.length
  show wpAny (model X.prog X.w) X.A (subscriptTail e (.Slice none none (some (.UnaryOp .USub (.Constant (.int 1) k p1) p2)) p3) (.ref a) (.ref z4.heap.objs.size)) (EP X pins σ Q) X.xe { z4 with heap := z4.heap.push { cls := .type "slice", data := .fields #[wl, wu, vs] } }
  refine tail_any (ops := [.ref a, .ref z4.heap.objs.size]) hT.typeIs (PyProof.Rows.slot_tuple_getitem.lookup) ?_ (by with_unfolding_all rfl)
  refine getItem_tuple_rev hT (Heap.IsSliceOf.new _ wl wu vs) pl pu ps ?_ (by rw [List.size_toArray]; omega)
  refine ⟨.ref _, _, J5.laid (t' := z4.toks) (o := .frz { cls := .type "tuple", data := .seq its.reverse.toArray } (.tup xs.reverse)) (fun b ob q => Heap.get?_push_of_some _ q) (Nat.le_refl _) ?_, rfl, q _ _ (J5.hok.fresh (Nat.le_refl _)) rfl⟩
  exact ⟨Heap.get?_push_size _ rfl, by rw [List.length_reverse]; exact hz, _, r.reverse, IsTup.new _ _⟩
def revD : D → Res D
  | .tuple xs => .ok (.tuple xs.reverse)
  | _ => .bad
def xRev (f : DEnv → Res D) : DEnv → Res D := fun ρ => (f ρ).bind revD
theorem de_rev {e : Expr} {f : DEnv → Res D} {k : Nat} {p1 p2 p3 pos : Pos} (h : DE X W true e f) : DE X W b (.Subscript e (.Slice none none (some (.UnaryOp .USub (.Constant (.int 1) k p1) p2)) p3) pos) (xRev f) := by
  obtain ⟨t, pt, q⟩ := h.ex
  refine ⟨_, pe_revT pt, fun Hs0 H0 ρ σ Hs H Q e h => ?_⟩
  refine q _ _ ρ σ Hs H _ e ((PostA.bind h).mono fun d Hs1 H1 s1 h1 v rv => ?_)
  cases d with
  | tuple xs =>
    obtain ⟨p, ws, rfl, g1, r1⟩ := rv.tuple
    exact ⟨p, ws, rfl, .inl (ex_td s1.sub g1), fun l ob hl ho => mkT_post h1 s1.sub (RpAll.reverse r1) hl ho⟩
  | _ => exact h1.elim
end
end SB
end
end

section
set_option Elab.async false
set_option linter.all false
set_option maxRecDepth 100000
set_option maxHeartbeats 2000000
noncomputable section
namespace SB
open PySem PySem.Spec L2 Evl PyProof.Rows
/-! ### t.count(x) of any datum; max of a tuple of numbers -/
section
variable {X : Cx} {W : WD} {pos : Pos}
def tTM (r : V → List V → Hp → VK → Prop) (to : TE) (t : TA) : TE := fun σ H Q => to σ H fun x H1 => (∃ a ob xs, x = .ref a ∧ H1 a = some (.frz ob (.tup xs)) ∧ ob.dict = none) ∧ t σ H1 fun vs H2 => r x vs H2 Q
theorem pe_tm {o e : Expr} {to : TE} {t : TA} {name : Str} {id : String} {r : V → List V → Hp → VK → Prop} {apos cpos : Pos} (slot : Slot "tuple" name id) (hty : typeOf (.builtin id) = pure (.type "method_descriptor")) (hm : MtR X id r) (ho : PE X o to) (ha : PA X [e] t)
    (hbase : attributeBase o name X.env (eval o X.env) = eval o X.env := by rfl)
    (hfew : ((backTo cpos (starEach [e] X.env)).all (fun x => !x.1) && (backToKw cpos (keywordEach [] X.env)).all (fun x => x.1.isSome) && decide ([e].length + ([] : List Keyword).length + (if ([] : List Keyword).isEmpty then 0 else 1) < 30)) = true := by rfl)
    (hline : (apos.endLine == cpos.line) = true := by rfl) (hs : starEach [e] X.env = (false, eval e X.env) :: starEach [] X.env := by rfl) (hplain : (backTo cpos (starEach [] X.env)).any (·.1) = false := by rfl) :
    PE X (.Call (.Attribute o name apos) [e] [] cpos) (tTM r to t) := by
  refine ⟨fun pins s σ H Q I h => ?_⟩
  refine wpAny_Call_method_late hbase hfew hline rfl (thn (ho.run pins s σ H _ I h) fun v s1 ⟨x, H1, I1, r1, ⟨a, ob, xs, ex, hH, hd⟩, q1⟩ => ?_)
  subst ex
  cases r1
  obtain ⟨g1, _, its, _, ⟨o', g2, g3, _⟩⟩ := I1.hok a _ hH
  refine ⟨"tuple", id, PySem.F.plainAttrs_tuple, slot, hty, ⟨o', g2, g3⟩, fun b eb => ?_, ?_⟩
  · cases eb
    exact ⟨ob, g1, hd⟩
  · have hA := ha.run cpos pins s1 σ H1 _ I1 q1
    rw [hs] at hA ⊢
    refine Calls.callWith_builtin (by show (false || (backTo cpos (starEach [] X.env)).any (·.1)) = false; rw [hplain] <;> rfl) (Calls.evalArgs_plain ?_)
    exact thn hA fun us s2 ⟨vs, H2, I2, r2, q2⟩ => hm pins s2 σ H2 (.ref a) vs (.ref a) us Q I2 rfl r2 q2
def countD (ds : List D) (d : D) : Nat := List.rec (motive := fun _ => Nat) 0 (fun x _ ih => cond (eqvD x d) (ih + 1) ih) ds
theorem count_ok {d : D} : ∀ {ds : List D}, (∀ x, x ∈ ds → depOk x = true) → countD ds d = ds.countP fun y => PyData.eqv y d
  | [], _ => rfl
  | x :: ds, h => by
    show cond (eqvD x d) (countD ds d + 1) (countD ds d) = _
    rw [count_ok fun y hy => h y (by simp [hy]), eqvD_ok (h x (by simp)), List.countP_cons]
    cases PyData.eqv x d <;> rfl
def rTCn (K : PySem.W.Frag) : V → List V → Hp → VK → Prop := fun x xs H Q => ∃ (a : Addr) (y : V) (d : D) (ds : List D) (vs : List V), x = .ref a ∧ xs = [y] ∧ SqT K H a vs ∧ RpAll K H vs ds ∧ Rp K H y d ∧ depOk d = true ∧ Q (.int ((ds.countP fun z => PyData.eqv z d : Nat) : Int)) H
theorem mt_tcn (hu : X.A.units + 65 < cLine) : MtR X "tuple.count" (rTCn X.K) := by
  intro pins s σ H x xs v us Q I rx rxs h
  obtain ⟨a, y, d, ds, vs, rfl, rfl, hT, rd, ry, hd, q⟩ := h
  cases rx
  obtain ⟨u, rfl, ru⟩ := vals1 rxs
  obtain ⟨its, rv, pl, _⟩ := I.tuple hT
  obtain ⟨as, ra⟩ := Dp.readsAll I ds vs its (RpAll.dp rd) rv
  obtain ⟨bs, rb⟩ := Dp.reads I d y u (Rp.dp ry) ru
  have ra' : ReadsAll s.heap its.toArray.toList ds as := by simpa using ra
  exact SeqAt.count_tuple_data (show s.heap.IsTuple a its.toArray from pl) ra' rb (RpAll.plain rd) (Rp.plain ry) (min_depA hu hd) ⟨.int _, H, I.tok _, ⟨_, rfl⟩, q⟩
def cnTD (ds : List D) (d : D) : Res D := if (depOk d && allL depOk ds) = true then .ok (.int (countD ds d : Int)) else .bad
def onT (g : List D → Res D) : D → Res D
  | .tuple ds => g ds
  | _ => .bad
def xTcn (fo : DEnv → Res D) (fe : DEnv → Res D) : DEnv → Res D := fun ρ => (fo ρ).bind (onT fun xs => (fe ρ).bind fun y => cnTD xs y)
theorem de_tcn {b : Bool} {o e : Expr} {fo fe : DEnv → Res D} {k : Nat} {p2 p3 : Pos} (hr : Room k X.A) (ho : DE X W true o fo) (he : DE X W true e fe) (hbase : attributeBase o "count" X.env (eval o X.env) = eval o X.env := by rfl)
    (hfew : ((backTo p3 (starEach [e] X.env)).all (fun x => !x.1) && (backToKw p3 (keywordEach [] X.env)).all (fun x => x.1.isSome) && decide ([e].length + ([] : List Keyword).length + (if ([] : List Keyword).isEmpty then 0 else 1) < 30)) = true := by rfl)
    (hline : (p2.endLine == p3.line) = true := by rfl) (hs : starEach [e] X.env = (false, eval e X.env) :: starEach [] X.env := by rfl) (hplain : (backTo p3 (starEach [] X.env)).any (·.1) = false := by rfl) :
    DE X W b (.Call (.Attribute o "count" p2) [e] [] p3) (xTcn fo fe) := by
  obtain ⟨t, pt, q⟩ := ho.ex
  obtain ⟨t', pt', q'⟩ := he.ex
  refine ⟨_, pe_tm PySem.F.slot_tuple_count PySem.F.type_tuple_count (mt_tcn (by have := hr.un; omega)) pt (pa_cons pt' pa_nil hs) hbase hfew hline hs hplain, fun Hs0 H0 ρ σ Hs H Q e h => ?_⟩
  refine q _ _ ρ σ Hs H _ e ((PostA.bind h).mono fun od Hs1 H1 s1 h1 ov na => ?_)
  cases od with
  | tuple ds =>
    obtain ⟨a, vs, rfl, ⟨ob, a1, a2⟩, a3⟩ := na.tuple
    refine ⟨⟨a, ob, vs, rfl, s1.sub _ _ a1, a2⟩, q' _ _ ρ σ Hs1 H1 _ (e.step s1) ((PostA.bind h1).mono fun d Hs2 H2 s2 h2 v rv => ?_)⟩
    refine post_mk h2 fun hok h2 => ?_
    rw [Bool.and_eq_true, allL_eq, List.all_eq_true] at hok
    rw [count_ok hok.2] at h2
    exact ⟨a, v, d, ds, vs, rfl, rfl, .inl (.inr ⟨ob, s2.wh _ _ (s1.sub _ _ a1)⟩), RpAll.ex (s2.sh.trans s2.sub) a3, rv.whole s2.sub, hok.1, PostA.now s2.sub h2 _ (.of (.int _))⟩
  | _ =>
    exact h1.elim
/-- the greatest of a tuple of numbers -/
def rMaxT (K : PySem.W.Frag) : List V → Hp → VK → Prop := fun vs H Q => ∃ (a : Addr) (n : Int) (ns : List Int), vs = [V.ref a] ∧ SqT K H a ((n :: ns).map V.int) ∧ Q (.int (ns.foldl max n)) H
theorem alike_ints (ns : List Int) : PySem.W.AlikeAll (ns.map .int) := by
  constructor
  · intro x hx y hy
    obtain ⟨a, _, rfl⟩ := List.mem_map.mp hx
    obtain ⟨b, _, rfl⟩ := List.mem_map.mp hy
    rfl
  · intro x hx z
    obtain ⟨a, _, rfl⟩ := List.mem_map.mp hx
    cases z
theorem depth_ints : ∀ ns : List Int, PyData.depthAll (ns.map .int) ≤ 1
  | [] => by decide
  | n :: ns => Nat.max_le.mpr ⟨Nat.zero_le _, depth_ints ns⟩
theorem reads_ints (h : Heap) : ∀ {ns : List Int} {us : List Value}, Vals (ns.map V.int) us → ∃ as, ReadsAll h us (ns.map .int) as
  | [], _, .nil => ⟨_, .nil⟩
  | n :: ns, _, .cons r rs => by
    obtain ⟨as, k⟩ := reads_ints h rs
    obtain ⟨t, rfl⟩ := r
    exact ⟨_, .cons (.int n t) k⟩
theorem cr_maxT (hc : X.calm = true) (hu : X.A.units + 65 < cLine) : CallR X (.builtin "max") (rMaxT X.K) := by
  intro pins s σ H vs us Q I r h
  obtain ⟨a, n, ns, rfl, hs, q⟩ := h
  obtain ⟨its, rv, pl, _⟩ := I.tuple hs
  rw [Vals.ref1 r]
  obtain ⟨as, ra⟩ := reads_ints s.heap rv
  have ra' : ReadsAll s.heap its.toArray.toList (.int n :: ns.map .int) as := by simpa using ra
  refine PySem.W.max_tuple_data (I.ok.hd hc) (show s.heap.IsTuple a its.toArray from pl) ra' (alike_ints (n :: ns)) (by have := depth_ints (n :: ns); have e : PyData.depthAll (.int n :: ns.map .int) ≤ 1 := this; omega) fun i v h' tk bs hv rd kp => ?_
  rw [PySem.W.maxD_ints] at rd
  cases rd
  exact ⟨.int _, H, I.kept (t' := tk) kp, ⟨_, rfl⟩, q⟩
def maxTD : List Int → Res D
  | n :: ns => .ok (.int (ns.foldl max n))
  | [] => .bad
def max1D : D → Res D
  | .tuple xs => match intsOf xs with | some ns => maxTD ns | none => .bad
  | _ => .bad
theorem cd_max1 (hc : X.calm = true) {k : Nat} (hr : Room k X.A) : CallD X (.builtin "max") (on1 max1D) := by
  refine cd1 (cr_maxT hc (by have := hr.un; omega)) fun W σ Hs H v d Q e rv h => ?_
  cases d with
  | tuple xs =>
    obtain ⟨p, ws, rfl, h1, r1⟩ := rv.tuple
    change Post X.K false W σ Hs H Q (match intsOf xs with | some ns => maxTD ns | none => .bad) at h
    cases q : intsOf xs with
    | none => rw [q] at h; exact h.elim
    | some ns =>
      rw [q] at h
      have := intsOf_rp r1 q
      subst this
      cases ns with
      | nil => exact h.elim
      | cons n ns => exact ⟨p, n, ns, rfl, .inl (ex_td e h1), h.now e _ (.of (.int _))⟩
  | _ => exact h.elim
end
end SB
end
end

section
set_option linter.all false
namespace RSK
/-! Row insertion and tableaux, in plain Lean. A tableau is the list of its rows. -/
abbrev Row := List Int
abbrev T := List (List Int)
def Sorted (r : Row) : Prop := r.Pairwise (· ≤ ·)
/-- x goes into a row: the first greater number is pushed out -/
def rowIns : Row → Int → Row × Option Int
  | [], x => ([x], none)
  | a :: r, x => if x < a then (x :: r, some a) else (a :: (rowIns r x).1, (rowIns r x).2)
/-- x goes into a tableau: the new one, and the row of the new box -/
def ins : T → Int → T × Nat
  | [], x => ([[x]], 0)
  | r :: rs, x => match (rowIns r x).2 with
    | none => ((rowIns r x).1 :: rs, 0)
    | some y => ((rowIns r x).1 :: (ins rs y).1, (ins rs y).2 + 1)
/-- a row that may stand below another one -/
def below : Row → Row → Prop
  | _, [] => True
  | [], _ :: _ => False
  | a :: hi, b :: lo => a < b ∧ below hi lo
def Tab : T → Prop
  | [] => True
  | r :: rs => r ≠ [] ∧ Sorted r ∧ below r (rs.headD []) ∧ Tab rs

theorem rowIns_gt {a x : Int} {r : Row} (h : x < a) : rowIns (a :: r) x = (x :: r, some a) := if_pos h
theorem rowIns_le {a x : Int} {r : Row} (h : a ≤ x) : rowIns (a :: r) x = (a :: (rowIns r x).1, (rowIns r x).2) := if_neg (by omega)
theorem rowIns_ne (r : Row) (x : Int) : (rowIns r x).1 ≠ [] := by
  cases r with
  | nil => simp [rowIns]
  | cons a r => unfold rowIns; split <;> simp
/-- nothing is pushed out: x stands at the end -/
theorem rowIns_none : ∀ {r : Row} {x : Int}, (rowIns r x).2 = none → (rowIns r x).1 = r ++ [x] ∧ ∀ a, a ∈ r → a ≤ x
  | [], x, _ => ⟨rfl, fun _ h => nomatch h⟩
  | a :: r, x, h => by
    by_cases hx : x < a
    · rw [rowIns_gt hx] at h; cases h
    · rw [rowIns_le (by omega)] at h ⊢
      obtain ⟨h1, h2⟩ := rowIns_none (r := r) (x := x) h
      refine ⟨by simp [h1], fun b hb => ?_⟩
      rcases List.mem_cons.mp hb with rfl | hb
      · omega
      · exact h2 b hb
theorem rowIns_end : ∀ {r : Row} {x : Int}, (∀ a, a ∈ r → a ≤ x) → rowIns r x = (r ++ [x], none)
  | [], x, _ => rfl
  | a :: r, x, h => by
    rw [rowIns_le (h a (by simp)), rowIns_end fun b hb => h b (by simp [hb])]
    rfl
/-- y is pushed out of its place -/
theorem rowIns_some : ∀ {r : Row} {x y : Int}, (rowIns r x).2 = some y → ∃ l m, r = l ++ y :: m ∧ (rowIns r x).1 = l ++ x :: m ∧ (∀ a, a ∈ l → a ≤ x) ∧ x < y
  | [], x, y, h => by cases h
  | a :: r, x, y, h => by
    by_cases hx : x < a
    · rw [rowIns_gt hx] at h ⊢
      cases h
      exact ⟨[], r, rfl, rfl, (by simp), hx⟩
    · rw [rowIns_le (by omega)] at h ⊢
      obtain ⟨l, m, h1, h2, h3, h4⟩ := rowIns_some (r := r) (x := x) h
      refine ⟨a :: l, m, by rw [h1]; rfl, by simp [h2], fun b hb => ?_, h4⟩
      rcases List.mem_cons.mp hb with rfl | hb
      · omega
      · exact h3 b hb
theorem rowIns_at : ∀ {l m : Row} {x y : Int}, (∀ a, a ∈ l → a ≤ x) → x < y → rowIns (l ++ y :: m) x = (l ++ x :: m, some y)
  | [], m, x, y, _, h => rowIns_gt h
  | a :: l, m, x, y, hl, h => by
    rw [List.cons_append, rowIns_le (hl a (by simp)), rowIns_at (fun b hb => hl b (by simp [hb])) h]
    rfl
theorem rowIns_len_some {r : Row} {x y : Int} (h : (rowIns r x).2 = some y) : (rowIns r x).1.length = r.length := by
  obtain ⟨l, m, h1, h2, _, _⟩ := rowIns_some h
  rw [h2, h1]; simp
theorem rowIns_len_none {r : Row} {x : Int} (h : (rowIns r x).2 = none) : (rowIns r x).1.length = r.length + 1 := by
  rw [(rowIns_none h).1]; simp
theorem sorted_cons {a : Int} {r : Row} : Sorted (a :: r) ↔ (∀ b, b ∈ r → a ≤ b) ∧ Sorted r := by
  unfold Sorted; rw [List.pairwise_cons]
theorem rowIns_mem {r : Row} {x b : Int} (h : b ∈ (rowIns r x).1) : b = x ∨ b ∈ r := by
  cases e : (rowIns r x).2 with
  | none =>
    rw [(rowIns_none e).1] at h
    simp at h
    exact h.symm
  | some y =>
    obtain ⟨l, m, h1, h2, _, _⟩ := rowIns_some e
    rw [h2] at h
    rw [h1]
    simp at h ⊢
    rcases h with h | h | h
    · exact .inr (.inl h)
    · exact .inl h
    · exact .inr (.inr (.inr h))
theorem rowIns_sorted : ∀ {r : Row} {x : Int}, Sorted r → Sorted (rowIns r x).1
  | [], x, _ => by simp [rowIns, Sorted]
  | a :: r, x, h => by
    rw [sorted_cons] at h
    by_cases hx : x < a
    · rw [rowIns_gt hx]
      show Sorted (x :: r)
      rw [sorted_cons]
      exact ⟨fun b hb => by have := h.1 b hb; omega, h.2⟩
    · rw [rowIns_le (by omega)]
      show Sorted (a :: (rowIns r x).1)
      rw [sorted_cons]
      refine ⟨fun b hb => ?_, rowIns_sorted h.2⟩
      rcases rowIns_mem hb with rfl | hb
      · omega
      · exact h.1 b hb
theorem below_nil (r : Row) : below r [] := by cases r <;> trivial
theorem below_len : ∀ {hi lo : Row}, below hi lo → lo.length ≤ hi.length
  | _, [], _ => Nat.zero_le _
  | [], _ :: _, h => h.elim
  | a :: hi, b :: lo, h => by simp; exact below_len h.2
/-- the upper row's numbers less, or more of them -/
theorem below_ins_hi : ∀ {hi lo : Row} {x : Int}, below hi lo → below (rowIns hi x).1 lo
  | hi, [], x, _ => below_nil _
  | [], _ :: _, _, h => h.elim
  | a :: hi, b :: lo, x, h => by
    by_cases hx : x < a
    · rw [rowIns_gt hx]
      exact ⟨by have := h.1; omega, h.2⟩
    · rw [rowIns_le (by omega)]
      exact ⟨h.1, below_ins_hi h.2⟩
/-- the number pushed out of the upper row goes into the lower one -/
theorem below_bump : ∀ {hi lo : Row} {x y : Int}, Sorted hi → below hi lo → (rowIns hi x).2 = some y → below (rowIns hi x).1 (rowIns lo y).1
  | [], _, x, y, _, _, h => by cases h
  | a :: hi, lo, x, y, hs, hb, h => by
    rw [sorted_cons] at hs
    by_cases hx : x < a
    · rw [rowIns_gt hx] at h ⊢
      cases h
      cases lo with
      | nil => exact ⟨hx, below_nil _⟩
      | cons b lo =>
        rw [rowIns_gt hb.1]
        exact ⟨hx, hb.2⟩
    · rw [rowIns_le (by omega)] at h ⊢
      replace h : (rowIns hi x).2 = some y := h
      have hxy : x < y := by obtain ⟨_, _, _, _, _, z⟩ := rowIns_some h; exact z
      cases lo with
      | nil => exact ⟨by omega, below_nil _⟩
      | cons b lo =>
        by_cases hy : y < b
        · rw [rowIns_gt hy]
          exact ⟨by omega, below_ins_hi hb.2⟩
        · rw [rowIns_le (by omega)]
          exact ⟨hb.1, below_bump hs.2 hb.2 h⟩
theorem ins_ne (t : T) (x : Int) : (ins t x).1 ≠ [] := by
  cases t with
  | nil => simp [ins]
  | cons r rs => unfold ins; split <;> simp
theorem ins_none {r : Row} {rs : T} {x : Int} (h : (rowIns r x).2 = none) : ins (r :: rs) x = ((rowIns r x).1 :: rs, 0) := by
  unfold ins; rw [h]
theorem ins_some {r : Row} {rs : T} {x y : Int} (h : (rowIns r x).2 = some y) : ins (r :: rs) x = ((rowIns r x).1 :: (ins rs y).1, (ins rs y).2 + 1) := by
  rw [ins]; rw [h]
theorem ins_head (t : T) (x : Int) : (ins t x).1.headD [] = (rowIns (t.headD []) x).1 := by
  cases t with
  | nil => rfl
  | cons r rs =>
    cases e : (rowIns r x).2 with
    | none => rw [ins_none e]; rfl
    | some y => rw [ins_some e]; rfl
theorem tab_ins : ∀ {t : T} {x : Int}, Tab t → Tab (ins t x).1
  | [], x, _ => ⟨by simp, by simp [Sorted], below_nil _, trivial⟩
  | r :: rs, x, ⟨h1, h2, h3, h4⟩ => by
    cases e : (rowIns r x).2 with
    | none =>
      rw [ins_none e]
      exact ⟨rowIns_ne r x, rowIns_sorted h2, below_ins_hi h3, h4⟩
    | some y =>
      rw [ins_some e]
      refine ⟨rowIns_ne r x, rowIns_sorted h2, ?_, tab_ins h4⟩
      rw [ins_head]
      exact below_bump h2 h3 e
/-! shapes -/
theorem mem_le_sum : ∀ {l : List Nat} {a : Nat}, a ∈ l → a ≤ l.sum
  | b :: l, a, h => by
    rw [List.sum_cons]
    rcases List.mem_cons.mp h with rfl | h
    · omega
    · have := mem_le_sum h; omega
def shape (t : T) : List Nat := t.map List.length
def size (t : T) : Nat := (shape t).sum
/-- rows no longer than those above, none empty -/
def Part : List Nat → Prop
  | [] => True
  | a :: r => 0 < a ∧ r.headD 0 ≤ a ∧ Part r
theorem part_shape : ∀ {t : T}, Tab t → Part (shape t)
  | [], _ => trivial
  | r :: rs, ⟨h1, _, h3, h4⟩ => by
    refine ⟨List.length_pos_iff.mpr h1, ?_, part_shape h4⟩
    have := below_len h3
    cases rs with
    | nil => exact Nat.zero_le _
    | cons a b => exact this
theorem size_ins : ∀ (t : T) (x : Int), size (ins t x).1 = size t + 1
  | [], x => rfl
  | r :: rs, x => by
    cases e : (rowIns r x).2 with
    | none =>
      rw [ins_none e]
      simp only [size, shape, List.map_cons, List.sum_cons]
      rw [rowIns_len_none e]
      omega
    | some y =>
      rw [ins_some e]
      have ih := size_ins rs y
      simp only [size, shape, List.map_cons, List.sum_cons] at ih ⊢
      rw [rowIns_len_some e]
      omega
/-- the word's tableau -/
def P (w : List Int) : T := w.foldl (fun t x => (ins t x).1) []
theorem foldl_tab (w : List Int) : ∀ (t : T), Tab t → Tab (w.foldl (fun t x => (ins t x).1) t) ∧ size (w.foldl (fun t x => (ins t x).1) t) = size t + w.length := by
  induction w with
  | nil => intro t h; exact ⟨h, rfl⟩
  | cons x w ih =>
    intro t h
    obtain ⟨h1, h2⟩ := ih (ins t x).1 (tab_ins h)
    refine ⟨h1, ?_⟩
    rw [List.foldl_cons, h2, size_ins]
    simp; omega
theorem tab_P (w : List Int) : Tab (P w) := (foldl_tab w [] trivial).1
theorem size_P (w : List Int) : size (P w) = w.length := by
  have := (foldl_tab w [] trivial).2
  rw [show size [] = 0 from rfl, Nat.zero_add] at this
  exact this
/-! the second tableau: which box was new -/
def addBox : T → Nat → Int → T
  | [], _, v => [[v]]
  | r :: rs, 0, v => (r ++ [v]) :: rs
  | r :: rs, k + 1, v => r :: addBox rs k v
def addS : List Nat → Nat → List Nat
  | [], _ => [1]
  | a :: s, 0 => (a + 1) :: s
  | a :: s, k + 1 => a :: addS s k
theorem shape_addBox : ∀ (t : T) (k : Nat) (v : Int), shape (addBox t k v) = addS (shape t) k
  | [], _, _ => rfl
  | r :: rs, 0, v => by simp [addBox, shape, addS]
  | r :: rs, k + 1, v => by
    have ih := shape_addBox rs k v
    simp only [shape] at ih
    simp [addBox, shape, addS, ih]
theorem shape_ins : ∀ (t : T) (x : Int), shape (ins t x).1 = addS (shape t) (ins t x).2
  | [], x => rfl
  | r :: rs, x => by
    cases e : (rowIns r x).2 with
    | none =>
      rw [ins_none e]
      simp [shape, addS, rowIns_len_none e]
    | some y =>
      rw [ins_some e]
      have ih := shape_ins rs y
      simp only [shape] at ih
      simp [shape, addS, rowIns_len_some e, ih]
theorem ins_le : ∀ (t : T) (x : Int), (ins t x).2 ≤ t.length
  | [], x => Nat.zero_le _
  | r :: rs, x => by
    cases e : (rowIns r x).2 with
    | none => rw [ins_none e]; exact Nat.zero_le _
    | some y =>
      rw [ins_some e]
      have := ins_le rs y
      simp; omega
theorem addBox_end : ∀ (t : T) (v : Int), addBox t t.length v = t ++ [[v]]
  | [], _ => rfl
  | r :: rs, v => by simp [addBox, addBox_end rs v]
theorem addBox_in : ∀ (t : T) (k : Nat) (v : Int) (r : Row), t[k]? = some r → addBox t k v = t.take k ++ [r ++ [v]] ++ t.drop (k + 1)
  | [], k, v, r, h => by simp at h
  | a :: rs, 0, v, r, h => by simp at h; subst h; simp [addBox]
  | a :: rs, k + 1, v, r, h => by
    simp at h
    simp [addBox, addBox_in rs k v r h]
def pqStep (s : T × T) (p : Int × Int) : T × T := ((ins s.1 p.2).1, addBox s.2 (ins s.1 p.2).2 (p.1 + 1))
def enum : Int → List Int → List (Int × Int)
  | _, [] => []
  | k, a :: r => (k, a) :: enum (k + 1) r
def PQ (w : List Int) : T × T := (enum 0 w).foldl pqStep ([], [])
theorem pq_fst : ∀ (w : List Int) (k : Int) (s : T × T), ((enum k w).foldl pqStep s).1 = w.foldl (fun t x => (ins t x).1) s.1
  | [], _, _ => rfl
  | x :: w, k, s => by rw [enum, List.foldl_cons, List.foldl_cons, pq_fst w (k + 1)]; rfl
theorem PQ_fst (w : List Int) : (PQ w).1 = P w := pq_fst w 0 ([], [])
theorem pq_shape : ∀ (w : List Int) (k : Int) (s : T × T), shape s.1 = shape s.2 → shape ((enum k w).foldl pqStep s).1 = shape ((enum k w).foldl pqStep s).2
  | [], _, _, h => h
  | x :: w, k, s, h => by
    rw [enum, List.foldl_cons]
    refine pq_shape w (k + 1) _ ?_
    show shape (ins s.1 x).1 = shape (addBox s.2 (ins s.1 x).2 (k + 1))
    rw [shape_ins, shape_addBox, h]
theorem PQ_shape (w : List Int) : shape (PQ w).1 = shape (PQ w).2 := pq_shape w 0 ([], []) rfl
/-! a part of at most N is one of a list -/
def parts : Nat → Nat → Nat → List (List Nat)
  | _, 0, _ => [[]]
  | 0, _ + 1, _ => []
  | f + 1, n + 1, m => (List.range (min (n + 1) m)).flatMap fun i => (parts f (n + 1 - (i + 1)) (i + 1)).map fun r => (i + 1) :: r
def partsUpTo (N : Nat) : List (List Nat) := (List.range (N + 1)).flatMap fun n => parts n n n
theorem parts_mem : ∀ (s : List Nat) (f m : Nat), Part s → s.headD 0 ≤ m → s.sum ≤ f → s ∈ parts f s.sum m
  | [], f, m, _, _, _ => by simp [parts]
  | a :: r, f, m, ⟨h1, h2, h3⟩, hm, hf => by
    have hs : (a :: r).sum = a + r.sum := by simp
    rw [hs] at hf ⊢
    obtain ⟨n, hn⟩ : ∃ n, a + r.sum = n + 1 := ⟨a + r.sum - 1, by omega⟩
    obtain ⟨g, hg⟩ : ∃ g, f = g + 1 := ⟨f - 1, by omega⟩
    subst hg
    rw [hn]
    unfold parts
    rw [List.mem_flatMap]
    refine ⟨a - 1, ?_, ?_⟩
    · rw [List.mem_range]
      have : a ≤ m := hm
      omega
    · rw [List.mem_map]
      have e1 : a - 1 + 1 = a := by omega
      have e2 : n + 1 - (a - 1 + 1) = r.sum := by omega
      refine ⟨r, ?_, by rw [e1]⟩
      rw [e2, e1]
      exact parts_mem r g a h3 h2 (by omega)
theorem partsUpTo_mem {s : List Nat} {N : Nat} (h : Part s) (hs : s.sum ≤ N) : s ∈ partsUpTo N := by
  unfold partsUpTo
  rw [List.mem_flatMap]
  refine ⟨s.sum, by rw [List.mem_range]; omega, parts_mem s s.sum s.sum h ?_ (Nat.le_refl _)⟩
  cases s with
  | nil => exact Nat.zero_le _
  | cons a r => simp
end RSK
end

section
set_option Elab.async false
set_option linter.all false
set_option maxRecDepth 100000
set_option maxHeartbeats 4000000
noncomputable section
namespace Law
open PySem PySem.Spec L2 Evl PyProof.Rows SB
def topS (i : Nat) : Stmt := PySem.Challenge.pw_stairbox_k70_whole_numbers_of_fillings.main.body.getD i (.Pass ⟨0, 0, 0, 0⟩)
abbrev FnP (K : PySem.W.Frag) (x : Str) (st : Stmt) (f : Addr) (fd : FuncData) : Prop := FunD K x x (defArgs st) (defBody st) (defScope st) [] [] f fd
section
variable {P : Program} {w : World} {K : PySem.W.Frag} {mg : Str → Option Value} {base : Heap} {xc : Nat → Value}
/-! ### turned -/
abbrev s_turned : Stmt := topS 1
abbrev N_turned : List Str := ["shape", "row", "column"]
theorem sc_turned : FnScope N_turned ["shape"] (defScope s_turned) := ⟨rfl, rfl, rfl, by decide +kernel, rfl, by decide +kernel, by decide +kernel⟩
def b_turned_1 : DEnv → Out :=
  sRet (xCall (on1 tupleD) (xCons (xLc (xIt range1D (xCons (xOp ixD (xVar 0) (xC (PyData.int 0))) (xNil))) (yName 2) (xYes) (xCall (on1 lenD) (xCons (xLc (xItems (xVar 0)) (yName 1) (xB (xOp gtD (xVar 1) (xVar 2))) (xVar 1) [1]) (xNil))) [2]) (xNil)))
def b_turned : DEnv → Out :=
  sSeq (sIf (xB (xOp eqD (xCall (on1 lenD) (xCons (xVar 0) (xNil))) (xC (PyData.int 0)))) (sRet (xTup (xNil))) (sNext))
    (b_turned_1)
def dn_turned : List D → Res D := fnD N_turned 1 b_turned
theorem rd_turned {f : Addr} {fd : FuncData} (F : FnP K "turned" s_turned f fd) (gm : mg "turned" = some (.ref f)) (m_len : mg "len" = none) (m_range : mg "range" = none) (m_tuple : mg "tuple" = none) : Rdy P w K mg base xc 1 "turned" ["shape"] dn_turned := by
  refine rdy_of F sc_turned gm (F.bindsN (fun _ _ _ _ _ _ us hl => match us, hl with | [_], _ => rfl)) rfl (fun cdv A outer s H E hr => ?_)
  have nd := sc_turned.nd
  exact dss_cons (ds_if (dt_cmp (opd_eq hr) (de_callB cd_len rfl m_len bt_len (da_cons (de_var 0) (da_nil))) (de_int) (nomark _)) (dss_one (ds_ret (de_tup (da_nil)))) (dss_nil))
    (dss_one (ds_ret (de_callTy cd_tuple rfl m_tuple bt_tuple (da_cons (de_lc [("column", 2)] rfl nd (di_range1 rfl m_range (da_cons (de_ix (de_var 0) (de_int)) (da_nil))) (blkOk_by (own := [("column", 2)]) (N := N_turned) (by kernel_rfl)) (fun _ _ _ _ _ => dg_name 2 nd) (fun _ _ _ _ _ => dts_nil) (fun _ _ _ _ _ => de_callB cd_len rfl m_len bt_len (da_cons (de_lc [("row", 1)] rfl nd (di_seq (de_var 0)) (blkOk_by (own := [("row", 1)]) (N := N_turned) (by kernel_rfl)) (fun _ _ _ _ _ => dg_name 1 nd) (fun _ _ _ _ _ => dts_one (dt_cmp opd_gt (de_var 1) (de_var 2) (nomark _))) (fun _ _ _ _ _ => de_var 1)) (da_nil)))) (da_nil)))))
/-! ### hooks -/
abbrev s_hooks : Stmt := topS 2
abbrev N_hooks : List Str := ["shape", "below", "found", "at", "row", "column"]
theorem sc_hooks : FnScope N_hooks ["shape"] (defScope s_hooks) := ⟨rfl, rfl, rfl, by decide +kernel, rfl, by decide +kernel, by decide +kernel⟩
def b_hooks_3 : DEnv → Out :=
  sRet (xCall (on1 tupleD) (xCons (xOwn 2) (xNil)))
def b_hooks_F1 : DEnv → Out :=
  sApp 2 (xCall (on1 tupleD) (xCons (xLc (xIt range1D (xCons (xVar 4) (xNil))) (yName 5) (xYes) (xOp subD (xOp subD (xOp addD (xOp subD (xVar 4) (xVar 5)) (xOp ixD (xVar 1) (xVar 5))) (xVar 3)) (xC (PyData.int 1))) [5]) (xNil)))
def b_hooks_2 : DEnv → Out :=
  sSeq (sFor (xIt enumD (xCons (xVar 0) (xNil))) (yTup 2 (yCons (yName 3) (yCons (yName 4) (yNil)))) (b_hooks_F1) [0, 3, 4, 5])
    (sKill [0, 1, 3, 4] (b_hooks_3))
def b_hooks_1 : DEnv → Out :=
  sSeq (sNewOwn 2 (fun ρ => ((xNil) ρ).bind okLen))
    (b_hooks_2)
def b_hooks : DEnv → Out :=
  sSeq (sAsg (xCall dn_turned (xCons (xVar 0) (xNil))) (yName 1))
    (b_hooks_1)
def dn_hooks : List D → Res D := fnD N_hooks 1 b_hooks
theorem rd_hooks {f : Addr} {fd : FuncData} (F : FnP K "hooks" s_hooks f fd) (gm : mg "hooks" = some (.ref f)) (m_enumerate : mg "enumerate" = none) (m_range : mg "range" = none) (m_tuple : mg "tuple" = none) (R_turned : Rdy P w K mg base xc 1 "turned" ["shape"] dn_turned) : Rdy P w K mg base xc 2 "hooks" ["shape"] dn_hooks := by
  refine rdy_of F sc_hooks gm (F.bindsN (fun _ _ _ _ _ _ us hl => match us, hl with | [_], _ => rfl)) rfl (fun cdv A outer s H E hr => ?_)
  have nd := sc_hooks.nd
  exact dss_cons (ds_set 1 nd (de_callR tkD R_turned hr (da_cons (de_var 0) (da_nil))))
    (dss_cons (ds_newOwn 2 nd (df_lst (da_nil)))
    (dss_cons (ds_for [0, 3, 4, 5] passD rfl (di_enum rfl m_enumerate (da_cons (de_var 0) (da_nil))) (dg_tup rfl (dgs_cons (dg_name 3 nd) (dgs_cons (dg_name 4 nd) (dgs_nil)))) (dss_one (ds_app 2 (de_callTy cd_tuple rfl m_tuple bt_tuple (da_cons (de_lc [("column", 5)] rfl nd (di_range1 rfl m_range (da_cons (de_var 4) (da_nil))) (blkOk_by (own := [("column", 5)]) (N := N_hooks) (by kernel_rfl)) (fun _ _ _ _ _ => dg_name 5 nd) (fun _ _ _ _ _ => dts_nil) (fun _ _ _ _ _ => de_op opd_sub (de_op opd_sub (de_op opd_add (de_op opd_sub (de_var 4) (de_var 5)) (de_ix (de_var 1) (de_var 5))) (de_var 3)) (de_int))) (da_nil))))))
    (dss_kill [0, 1, 3, 4] (dss_one (ds_ret (de_callTy cd_tuple rfl m_tuple bt_tuple (da_cons (de_own 2) (da_nil))))))))
/-! ### count_of -/
abbrev s_count_of : Stmt := topS 3
abbrev N_count_of : List Str := ["shape", "found", "number", "parts", "row", "hook"]
theorem sc_count_of : FnScope N_count_of ["shape"] (defScope s_count_of) := ⟨rfl, rfl, rfl, by decide +kernel, rfl, by decide +kernel, by decide +kernel⟩
def b_count_of_4 : DEnv → Out :=
  sRet (xOp fdivD (xVar 1) (xVar 3))
def b_count_of_F2 : DEnv → Out :=
  sAsg (xOp mulD (xVar 3) (xVar 5)) (yName 3)
def b_count_of_F1 : DEnv → Out :=
  sFor (xItems (xVar 4)) (yName 5) (b_count_of_F2) [0, 2, 4, 5]
def b_count_of_3 : DEnv → Out :=
  sSeq (sFor (xItems (xCall dn_hooks (xCons (xVar 0) (xNil)))) (yName 4) (b_count_of_F1) [0, 2, 4, 5])
    (sKill [0, 4, 5] (b_count_of_4))
def b_count_of_2 : DEnv → Out :=
  sSeq (sAsg (xC (PyData.int 1)) (yName 3))
    (b_count_of_3)
def b_count_of_F3 : DEnv → Out :=
  sAsg (xOp mulD (xVar 1) (xVar 2)) (yName 1)
def b_count_of_1 : DEnv → Out :=
  sSeq (sFor (xIt range2D (xCons (xC (PyData.int 2)) (xCons (xOp addD (xCall (on1 sumD) (xCons (xVar 0) (xNil))) (xC (PyData.int 1))) (xNil)))) (yName 2) (b_count_of_F3) [2, 3, 4, 5])
    (sKill [2] (b_count_of_2))
def b_count_of : DEnv → Out :=
  sSeq (sAsg (xC (PyData.int 1)) (yName 1))
    (b_count_of_1)
def dn_count_of : List D → Res D := fnD N_count_of 1 b_count_of
theorem rd_count_of {f : Addr} {fd : FuncData} (F : FnP K "count_of" s_count_of f fd) (gm : mg "count_of" = some (.ref f)) (m_range : mg "range" = none) (m_sum : mg "sum" = none) (R_hooks : Rdy P w K mg base xc 2 "hooks" ["shape"] dn_hooks) : Rdy P w K mg base xc 3 "count_of" ["shape"] dn_count_of := by
  refine rdy_of F sc_count_of gm (F.bindsN (fun _ _ _ _ _ _ us hl => match us, hl with | [_], _ => rfl)) rfl (fun cdv A outer s H E hr => ?_)
  have nd := sc_count_of.nd
  exact dss_cons (ds_set 1 nd (de_int))
    (dss_cons (ds_for [2, 3, 4, 5] passD rfl (di_range2 rfl m_range (da_cons (de_int) (da_cons (de_op opd_add (de_callB (cd_sum rfl) rfl m_sum bt_sum (da_cons (de_var 0) (da_nil))) (de_int)) (da_nil)))) (dg_name 2 nd) (dss_one (ds_set 1 nd (de_op opd_mul (de_var 1) (de_var 2)))))
    (dss_kill [2] (dss_cons (ds_set 3 nd (de_int))
    (dss_cons (ds_for [0, 2, 4, 5] passD rfl (di_seq (de_callR tkD R_hooks hr (da_cons (de_var 0) (da_nil)))) (dg_name 4 nd) (dss_one (ds_for [0, 2, 4, 5] passD rfl (di_seq (de_var 4)) (dg_name 5 nd) (dss_one (ds_set 3 nd (de_op opd_mul (de_var 3) (de_var 5)))))))
    (dss_kill [0, 4, 5] (dss_one (ds_ret (de_op opd_fdiv (de_var 1) (de_var 3)))))))))
/-! ### count_upto -/
abbrev s_count_upto : Stmt := topS 5
abbrev N_count_upto : List Str := ["shape", "most", "upper", "lower", "row", "line", "column", "hook"]
theorem sc_count_upto : FnScope N_count_upto ["shape", "most"] (defScope s_count_upto) := ⟨rfl, rfl, rfl, by decide +kernel, rfl, by decide +kernel, by decide +kernel⟩
def b_count_upto_2 : DEnv → Out :=
  sRet (xOp fdivD (xVar 2) (xVar 3))
def b_count_upto_F2 : DEnv → Out :=
  sSeq (sAsg (xOp mulD (xVar 2) (xOp subD (xOp addD (xVar 1) (xVar 6)) (xVar 4))) (yName 2))
    (sKill [6] (sAsg (xOp mulD (xVar 3) (xVar 7)) (yName 3)))
def b_count_upto_F1 : DEnv → Out :=
  sFor (xIt enumD (xCons (xVar 5) (xNil))) (yTup 2 (yCons (yName 6) (yCons (yName 7) (yNil)))) (b_count_upto_F2) [0, 5, 6, 7]
def b_count_upto_1 : DEnv → Out :=
  sSeq (sFor (xIt enumD (xCons (xCall dn_hooks (xCons (xVar 0) (xNil))) (xNil))) (yTup 2 (yCons (yName 4) (yCons (yName 5) (yNil)))) (b_count_upto_F1) [0, 4, 5, 6, 7])
    (sKill [0, 1, 4, 5, 6, 7] (b_count_upto_2))
def b_count_upto : DEnv → Out :=
  sSeq (sAsg (xTup (xCons (xC (PyData.int 1)) (xCons (xC (PyData.int 1)) (xNil)))) (yTup 2 (yCons (yName 2) (yCons (yName 3) (yNil)))))
    (b_count_upto_1)
def dn_count_upto : List D → Res D := fnD N_count_upto 2 b_count_upto
theorem rd_count_upto {f : Addr} {fd : FuncData} (F : FnP K "count_upto" s_count_upto f fd) (gm : mg "count_upto" = some (.ref f)) (m_enumerate : mg "enumerate" = none) (R_hooks : Rdy P w K mg base xc 2 "hooks" ["shape"] dn_hooks) : Rdy P w K mg base xc 3 "count_upto" ["shape", "most"] dn_count_upto := by
  refine rdy_of F sc_count_upto gm (F.bindsN (fun _ _ _ _ _ _ us hl => match us, hl with | [_, _], _ => rfl)) rfl (fun cdv A outer s H E hr => ?_)
  have nd := sc_count_upto.nd
  exact dss_cons (ds_asg (de_tup (da_cons (de_int) (da_cons (de_int) (da_nil)))) (dg_tup rfl (dgs_cons (dg_name 2 nd) (dgs_cons (dg_name 3 nd) (dgs_nil)))))
    (dss_cons (ds_for [0, 4, 5, 6, 7] passD rfl (di_enum rfl m_enumerate (da_cons (de_callR tkD R_hooks hr (da_cons (de_var 0) (da_nil))) (da_nil))) (dg_tup rfl (dgs_cons (dg_name 4 nd) (dgs_cons (dg_name 5 nd) (dgs_nil)))) (dss_one (ds_for [0, 5, 6, 7] passD rfl (di_enum rfl m_enumerate (da_cons (de_var 5) (da_nil))) (dg_tup rfl (dgs_cons (dg_name 6 nd) (dgs_cons (dg_name 7 nd) (dgs_nil)))) (dss_cons (ds_set 2 nd (de_op opd_mul (de_var 2) (de_op opd_sub (de_op opd_add (de_var 1) (de_var 6)) (de_var 4))))
    (dss_kill [6] (dss_one (ds_set 3 nd (de_op opd_mul (de_var 3) (de_var 7)))))))))
    (dss_kill [0, 1, 4, 5, 6, 7] (dss_one (ds_ret (de_op opd_fdiv (de_var 2) (de_var 3))))))
/-! ### strips -/
abbrev s_strips : Stmt := topS 6
abbrev N_strips : List Str := ["shape", "many", "found", "row", "size", "low", "longer", "some", "gone", "left", "good"]
theorem sc_strips : FnScope N_strips ["shape", "many"] (defScope s_strips) := ⟨rfl, rfl, rfl, by decide +kernel, rfl, by decide +kernel, by decide +kernel⟩
def b_strips_3 : DEnv → Out :=
  sRet (xLc (xItems (xVar 10)) (yName 7) (xYes) (xCall (on1 tupleD) (xCons (xLc (xItems (xVar 7)) (yName 4) (xB (xOp gtD (xVar 4) (xC (PyData.int 0)))) (xVar 4) [4]) (xNil))) [7])
def b_strips_2 : DEnv → Out :=
  sSeq (sAsg (xLc (xItems (xVar 2)) (yName 7) (xB (xOp eqD (xOp subD (xCall (on1 sumD) (xCons (xVar 0) (xNil))) (xCall (on1 sumD) (xCons (xVar 7) (xNil)))) (xVar 1))) (xVar 7) [7]) (yName 10))
    (sKill [0, 1, 2] (b_strips_3))
def b_strips_F2 : DEnv → Out :=
  sSeq (sAsg (xOp subD (xCall (on1 sumD) (xCons (xSl (xVar 0) (xNoPart) (xPart (xVar 3))) (xNil))) (xCall (on1 sumD) (xCons (xVar 7) (xNil)))) (yName 8))
    (sAsg (xOp addD (xVar 6) (xLc (xIt range2D (xCons (xVar 5) (xCons (xOp addD (xVar 4) (xC (PyData.int 1))) (xNil)))) (yName 9) (xB (xOp leD (xOp subD (xOp addD (xVar 8) (xVar 4)) (xVar 9)) (xVar 1))) (xOp addD (xVar 7) (xTup (xCons (xVar 9) (xNil)))) [9])) (yName 6))
def b_strips_F1 : DEnv → Out :=
  sSeq (sAsg (xOp ixD (xOp addD (xVar 0) (xTup (xCons (xC (PyData.int 0)) (xNil)))) (xOp addD (xVar 3) (xC (PyData.int 1)))) (yName 5))
    (sSeq (sAsg (xLst (xNil)) (yName 6))
    (sSeq (sFor (xItems (xVar 2)) (yName 7) (b_strips_F2) [2, 7, 8, 9, 10])
    (sKill [2, 3, 4, 5, 7, 8] (sAsg (xVar 6) (yName 2)))))
def b_strips_1 : DEnv → Out :=
  sSeq (sFor (xIt enumD (xCons (xVar 0) (xNil))) (yTup 2 (yCons (yName 3) (yCons (yName 4) (yNil)))) (b_strips_F1) [3, 4, 5, 6, 7, 8, 9, 10])
    (sKill [3, 4, 5, 6, 7, 8] (b_strips_2))
def b_strips : DEnv → Out :=
  sSeq (sAsg (xLst (xCons (xTup (xNil)) (xNil))) (yName 2))
    (b_strips_1)
def dn_strips : List D → Res D := fnD N_strips 2 b_strips
theorem rd_strips {f : Addr} {fd : FuncData} (F : FnP K "strips" s_strips f fd) (gm : mg "strips" = some (.ref f)) (m_enumerate : mg "enumerate" = none) (m_range : mg "range" = none) (m_sum : mg "sum" = none) (m_tuple : mg "tuple" = none) : Rdy P w K mg base xc 1 "strips" ["shape", "many"] dn_strips := by
  refine rdy_of F sc_strips gm (F.bindsN (fun _ _ _ _ _ _ us hl => match us, hl with | [_, _], _ => rfl)) rfl (fun cdv A outer s H E hr => ?_)
  have nd := sc_strips.nd
  exact dss_cons (ds_set 2 nd (de_lst (da_cons (de_tup (da_nil)) (da_nil))))
    (dss_cons (ds_for [3, 4, 5, 6, 7, 8, 9, 10] passD rfl (di_enum rfl m_enumerate (da_cons (de_var 0) (da_nil))) (dg_tup rfl (dgs_cons (dg_name 3 nd) (dgs_cons (dg_name 4 nd) (dgs_nil)))) (dss_cons (ds_set 5 nd (de_ix (de_op opd_add (de_var 0) (de_tup (da_cons (de_int) (da_nil)))) (de_op opd_add (de_var 3) (de_int))))
    (dss_cons (ds_set 6 nd (de_lst (da_nil)))
    (dss_cons (ds_for [2, 7, 8, 9, 10] passD rfl (di_seq (de_var 2)) (dg_name 7 nd) (dss_cons (ds_set 8 nd (de_op opd_sub (de_callB (cd_sum rfl) rfl m_sum bt_sum (da_cons (de_sl (de_var 0) (do_none) (do_some (de_var 3))) (da_nil))) (de_callB (cd_sum rfl) rfl m_sum bt_sum (da_cons (de_var 7) (da_nil)))))
    (dss_one (ds_set 6 nd (de_op opd_add (de_var 6) (de_lc [("left", 9)] rfl nd (di_range2 rfl m_range (da_cons (de_var 5) (da_cons (de_op opd_add (de_var 4) (de_int)) (da_nil)))) (blkOk_by (own := [("left", 9)]) (N := N_strips) (by kernel_rfl)) (fun _ _ _ _ _ => dg_name 9 nd) (fun _ _ _ _ _ => dts_one (dt_cmp opd_le (de_op opd_sub (de_op opd_add (de_var 8) (de_var 4)) (de_var 9)) (de_var 1) (nomark _))) (fun _ _ _ _ _ => de_op opd_add (de_var 7) (de_tup (da_cons (de_var 9) (da_nil))))))))))
    (dss_kill [2, 3, 4, 5, 7, 8] (dss_one (ds_set 2 nd (de_var 6))))))))
    (dss_kill [3, 4, 5, 6, 7, 8] (dss_cons (ds_setLc 10 [("some", 7)] rfl nd (di_seq (de_var 2)) (blkOk_by (own := [("some", 7)]) (N := N_strips) (by kernel_rfl)) (fun _ _ _ _ _ => dg_name 7 nd) (fun _ _ _ _ _ => dts_one (dt_cmp (opd_eq hr) (de_op opd_sub (de_callB (cd_sum rfl) rfl m_sum bt_sum (da_cons (de_var 0) (da_nil))) (de_callB (cd_sum rfl) rfl m_sum bt_sum (da_cons (de_var 7) (da_nil)))) (de_var 1) (nomark _))) (fun _ _ _ _ _ => de_var 7) (sw_true rfl rfl rfl (by decide +kernel)))
    (dss_kill [0, 1, 2] (dss_one (ds_ret (de_lc [("some", 7)] rfl nd (di_seq (de_var 10)) (blkOk_by (own := [("some", 7)]) (N := N_strips) (by kernel_rfl)) (fun _ _ _ _ _ => dg_name 7 nd) (fun _ _ _ _ _ => dts_nil) (fun _ _ _ _ _ => de_callTy cd_tuple rfl m_tuple bt_tuple (da_cons (de_lc [("size", 4)] rfl nd (di_seq (de_var 7)) (blkOk_by (own := [("size", 4)]) (N := N_strips) (by kernel_rfl)) (fun _ _ _ _ _ => dg_name 4 nd) (fun _ _ _ _ _ => dts_one (dt_cmp opd_gt (de_var 4) (de_int) (nomark _))) (fun _ _ _ _ _ => de_var 4)) (da_nil))))))))))
/-! ### count_with -/
abbrev s_count_with : Stmt := topS 7
abbrev N_count_with : List Str := ["shape", "counts", "some"]
theorem sc_count_with : FnScope N_count_with ["shape", "counts"] (defScope s_count_with) := ⟨rfl, rfl, rfl, by decide +kernel, rfl, by decide +kernel, by decide +kernel⟩
def b_count_with_1 (rec : List D → Res D) : DEnv → Out :=
  sRet (xCall (on1 sumD) (xCons (xLc (xItems (xCall dn_strips (xCons (xVar 0) (xCons (xOp ixD (xVar 1) (xNeg (xC (PyData.int 1)))) (xNil))))) (yName 2) (xYes) (xCall rec (xCons (xVar 2) (xCons (xSl (xVar 1) (xNoPart) (xPart (xNeg (xC (PyData.int 1))))) (xNil)))) [2]) (xNil)))
def b_count_with (rec : List D → Res D) : DEnv → Out :=
  sSeq (sIf (xB (xOp eqD (xVar 1) (xTup (xNil)))) (sRet (xCall (on1 intD) (xCons (xOp eqD (xVar 0) (xTup (xNil))) (xNil)))) (sNext))
    (b_count_with_1 rec)
def dr_count_with (n : Nat) : List D → Res D := Nat.rec (motive := fun _ => List D → Res D) (fun _ => .bad) (fun _ ih => fnD N_count_with 2 (b_count_with ih)) n
def dn_count_with : List D → Res D := dr_count_with 14
theorem rr_count_with {f : Addr} {fd : FuncData} (F : FnP K "count_with" s_count_with f fd) (gm : mg "count_with" = some (.ref f)) (m_int : mg "int" = none) (m_sum : mg "sum" = none) (R_strips : Rdy P w K mg base xc 1 "strips" ["shape", "many"] dn_strips) : ∀ n : Nat, Rdy P w K mg base xc (1 + n) "count_with" ["shape", "counts"] (dr_count_with n)
  | 0 => rdy_bad F gm (F.bindsN (fun _ _ _ _ _ _ us hl => match us, hl with | [_, _], _ => rfl))
  | n + 1 => by
    have R_rec := rr_count_with F gm m_int m_sum R_strips n
    have hk_strips : 1 ≤ 1 + n := by omega
    refine rdy_of F sc_count_with gm (F.bindsN (fun _ _ _ _ _ _ us hl => match us, hl with | [_, _], _ => rfl)) rfl (fun cdv A outer s H E hr => ?_)
    have nd := sc_count_with.nd
    exact dss_cons (ds_if (dt_cmp (opd_eq hr) (de_var 1) (de_tup (da_nil)) (nomark _)) (dss_one (ds_ret (de_callTy cd_int rfl m_int bt_int (da_cons (de_cmp (opd_eq hr) (de_var 0) (de_tup (da_nil)) (nomark _)) (da_nil))))) (dss_nil))
      (dss_one (ds_ret (de_callB (cd_sum rfl) rfl m_sum bt_sum (da_cons (de_lc [("some", 2)] rfl nd (di_seq (de_callR tkD R_strips hr (da_cons (de_var 0) (da_cons (de_ix (de_var 1) (de_neg (de_int))) (da_nil))) hk_strips)) (blkOk_by (own := [("some", 2)]) (N := N_count_with) (by kernel_rfl)) (fun _ _ _ _ _ => dg_name 2 nd) (fun _ _ _ _ _ => dts_nil) (fun _ _ _ _ _ => de_callR tk0 R_rec hr (da_cons (de_var 2) (da_cons (de_sl (de_var 1) (do_none) (do_some (de_neg (de_int)))) (da_nil))) (Nat.le_refl _))) (da_nil)))))
theorem rd_count_with {f : Addr} {fd : FuncData} (F : FnP K "count_with" s_count_with f fd) (gm : mg "count_with" = some (.ref f)) (m_int : mg "int" = none) (m_sum : mg "sum" = none) (R_strips : Rdy P w K mg base xc 1 "strips" ["shape", "many"] dn_strips) : Rdy P w K mg base xc 15 "count_with" ["shape", "counts"] dn_count_with := rr_count_with F gm m_int m_sum R_strips 14
/-! ### _law_cell_at -/
abbrev s__law_cell_at : Stmt := topS 9
abbrev N__law_cell_at : List Str := ["script", "k"]
theorem sc__law_cell_at : FnScope N__law_cell_at ["script", "k"] (defScope s__law_cell_at) := ⟨rfl, rfl, rfl, by decide +kernel, rfl, by decide +kernel, by decide +kernel⟩
def b__law_cell_at_1 : DEnv → Out :=
  sRet (xC (PyData.int 0))
def b__law_cell_at : DEnv → Out :=
  sSeq (sIf (xB (xOp ltD (xVar 1) (xCall (on1 lenD) (xCons (xVar 0) (xNil))))) (sRet (xOp ixD (xVar 0) (xVar 1))) (sNext))
    (sKill [0, 1] (b__law_cell_at_1))
def dn__law_cell_at : List D → Res D := fnD N__law_cell_at 2 b__law_cell_at
theorem rd__law_cell_at {f : Addr} {fd : FuncData} (F : FnP K "_law_cell_at" s__law_cell_at f fd) (gm : mg "_law_cell_at" = some (.ref f)) (m_len : mg "len" = none) : Rdy P w K mg base xc 1 "_law_cell_at" ["script", "k"] dn__law_cell_at := by
  refine rdy_of F sc__law_cell_at gm (F.bindsN (fun _ _ _ _ _ _ us hl => match us, hl with | [_, _], _ => rfl)) rfl (fun cdv A outer s H E hr => ?_)
  have nd := sc__law_cell_at.nd
  exact dss_cons (ds_if (dt_cmp opd_lt (de_var 1) (de_callB cd_len rfl m_len bt_len (da_cons (de_var 0) (da_nil))) (nomark _)) (dss_one (ds_ret (de_ix (de_var 0) (de_var 1)))) (dss_nil))
    (dss_kill [0, 1] (dss_one (ds_ret (de_int))))
/-! ### _law_mixed -/
abbrev s__law_mixed : Stmt := topS 10
abbrev N__law_mixed : List Str := ["script", "k", "drawn"]
theorem sc__law_mixed : FnScope N__law_mixed ["script", "k"] (defScope s__law_mixed) := ⟨rfl, rfl, rfl, by decide +kernel, rfl, by decide +kernel, by decide +kernel⟩
def b__law_mixed_1 : DEnv → Out :=
  sRet (xOp modD (xOp addD (xOp addD (xOp mulD (xVar 2) (xVar 2)) (xOp mulD (xC (PyData.int 7)) (xVar 2))) (xVar 1)) (xC (PyData.int 2147483629)))
def b__law_mixed : DEnv → Out :=
  sSeq (sAsg (xOp modD (xOp mulD (xOp addD (xOp addD (xCall dn__law_cell_at (xCons (xVar 0) (xCons (xVar 1) (xNil)))) (xOp mulD (xC (PyData.int 7919)) (xVar 1))) (xC (PyData.int 1))) (xC (PyData.int 48271))) (xC (PyData.int 2147483647))) (yName 2))
    (sKill [0] (b__law_mixed_1))
def dn__law_mixed : List D → Res D := fnD N__law_mixed 2 b__law_mixed
theorem rd__law_mixed {f : Addr} {fd : FuncData} (F : FnP K "_law_mixed" s__law_mixed f fd) (gm : mg "_law_mixed" = some (.ref f)) (R__law_cell_at : Rdy P w K mg base xc 1 "_law_cell_at" ["script", "k"] dn__law_cell_at) : Rdy P w K mg base xc 2 "_law_mixed" ["script", "k"] dn__law_mixed := by
  refine rdy_of F sc__law_mixed gm (F.bindsN (fun _ _ _ _ _ _ us hl => match us, hl with | [_, _], _ => rfl)) rfl (fun cdv A outer s H E hr => ?_)
  have nd := sc__law_mixed.nd
  exact dss_cons (ds_set 2 nd (de_op opd_mod (de_op opd_mul (de_op opd_add (de_op opd_add (de_callR tkD R__law_cell_at hr (da_cons (de_var 0) (da_cons (de_var 1) (da_nil)))) (de_op opd_mul (de_int) (de_var 1))) (de_int)) (de_int)) (de_int)))
    (dss_kill [0] (dss_one (ds_ret (de_op opd_mod (de_op opd_add (de_op opd_add (de_op opd_mul (de_var 2) (de_var 2)) (de_op opd_mul (de_int) (de_var 2))) (de_var 1)) (de_int)))))
/-! ### _law_shapes -/
abbrev s__law_shapes : Stmt := topS 11
abbrev N__law_shapes : List Str := ["many", "most", "found", "row", "rest"]
theorem sc__law_shapes : FnScope N__law_shapes ["many", "most"] (defScope s__law_shapes) := ⟨rfl, rfl, rfl, by decide +kernel, rfl, by decide +kernel, by decide +kernel⟩
def b__law_shapes_3 (rec : List D → Res D) : DEnv → Out :=
  sRet (xVar 2)
def b__law_shapes_F1 (rec : List D → Res D) : DEnv → Out :=
  sAsg (xOp addD (xVar 2) (xLc (xItems (xCall rec (xCons (xOp subD (xVar 0) (xVar 3)) (xCons (xVar 3) (xNil))))) (yName 4) (xYes) (xOp addD (xTup (xCons (xVar 3) (xNil))) (xVar 4)) [4])) (yName 2)
def b__law_shapes_2 (rec : List D → Res D) : DEnv → Out :=
  sSeq (sFor (xIt range2D (xCons (xC (PyData.int 1)) (xCons (xOp addD (xCall (on2 min2D) (xCons (xVar 0) (xCons (xVar 1) (xNil)))) (xC (PyData.int 1))) (xNil)))) (yName 3) (b__law_shapes_F1 rec) [1, 3, 4])
    (sKill [0, 1, 3] (b__law_shapes_3 rec))
def b__law_shapes_1 (rec : List D → Res D) : DEnv → Out :=
  sSeq (sAsg (xLst (xNil)) (yName 2))
    (b__law_shapes_2 rec)
def b__law_shapes (rec : List D → Res D) : DEnv → Out :=
  sSeq (sIf (xB (xOp eqD (xVar 0) (xC (PyData.int 0)))) (sRet (xLst (xCons (xTup (xNil)) (xNil)))) (sNext))
    (b__law_shapes_1 rec)
def dr__law_shapes (n : Nat) : List D → Res D := Nat.rec (motive := fun _ => List D → Res D) (fun _ => .bad) (fun _ ih => fnD N__law_shapes 2 (b__law_shapes ih)) n
def dn__law_shapes : List D → Res D := dr__law_shapes 14
theorem rr__law_shapes {f : Addr} {fd : FuncData} (F : FnP K "_law_shapes" s__law_shapes f fd) (gm : mg "_law_shapes" = some (.ref f)) (m_min : mg "min" = none) (m_range : mg "range" = none) : ∀ n : Nat, Rdy P w K mg base xc (0 + n) "_law_shapes" ["many", "most"] (dr__law_shapes n)
  | 0 => rdy_bad F gm (F.bindsN (fun _ _ _ _ _ _ us hl => match us, hl with | [_, _], _ => rfl))
  | n + 1 => by
    have R_rec := rr__law_shapes F gm m_min m_range n
    refine rdy_of F sc__law_shapes gm (F.bindsN (fun _ _ _ _ _ _ us hl => match us, hl with | [_, _], _ => rfl)) rfl (fun cdv A outer s H E hr => ?_)
    have nd := sc__law_shapes.nd
    exact dss_cons (ds_if (dt_cmp (opd_eq hr) (de_var 0) (de_int) (nomark _)) (dss_one (ds_ret (de_lst (da_cons (de_tup (da_nil)) (da_nil))))) (dss_nil))
      (dss_cons (ds_set 2 nd (de_lst (da_nil)))
      (dss_cons (ds_for [1, 3, 4] passD rfl (di_range2 rfl m_range (da_cons (de_int) (da_cons (de_op opd_add (de_callB (cd_min2 rfl) rfl m_min bt_min (da_cons (de_var 0) (da_cons (de_var 1) (da_nil)))) (de_int)) (da_nil)))) (dg_name 3 nd) (dss_one (ds_set 2 nd (de_op opd_add (de_var 2) (de_lc [("rest", 4)] rfl nd (di_seq (de_callR tkD R_rec hr (da_cons (de_op opd_sub (de_var 0) (de_var 3)) (da_cons (de_var 3) (da_nil))) (Nat.le_refl _))) (blkOk_by (own := [("rest", 4)]) (N := N__law_shapes) (by kernel_rfl)) (fun _ _ _ _ _ => dg_name 4 nd) (fun _ _ _ _ _ => dts_nil) (fun _ _ _ _ _ => de_op opd_add (de_tup (da_cons (de_var 3) (da_nil))) (de_var 4)))))))
      (dss_kill [0, 1, 3] (dss_one (ds_ret (de_var 2))))))
theorem rd__law_shapes {f : Addr} {fd : FuncData} (F : FnP K "_law_shapes" s__law_shapes f fd) (gm : mg "_law_shapes" = some (.ref f)) (m_min : mg "min" = none) (m_range : mg "range" = none) : Rdy P w K mg base xc 14 "_law_shapes" ["many", "most"] dn__law_shapes := rr__law_shapes F gm m_min m_range 14
/-! ### _law_some_shape -/
abbrev s__law_some_shape : Stmt := topS 12
abbrev N__law_some_shape : List Str := ["number", "most", "every"]
theorem sc__law_some_shape : FnScope N__law_some_shape ["number", "most"] (defScope s__law_some_shape) := ⟨rfl, rfl, rfl, by decide +kernel, rfl, by decide +kernel, by decide +kernel⟩
def b__law_some_shape_1 : DEnv → Out :=
  sRet (xOp ixD (xVar 2) (xOp modD (xOp fdivD (xVar 0) (xC (PyData.int 16))) (xCall (on1 lenD) (xCons (xVar 2) (xNil)))))
def b__law_some_shape : DEnv → Out :=
  sSeq (sAsg (xCall dn__law_shapes (xCons (xOp modD (xVar 0) (xOp addD (xVar 1) (xC (PyData.int 1)))) (xCons (xVar 1) (xNil)))) (yName 2))
    (sKill [1] (b__law_some_shape_1))
def dn__law_some_shape : List D → Res D := fnD N__law_some_shape 2 b__law_some_shape
theorem rd__law_some_shape {f : Addr} {fd : FuncData} (F : FnP K "_law_some_shape" s__law_some_shape f fd) (gm : mg "_law_some_shape" = some (.ref f)) (m_len : mg "len" = none) (R__law_shapes : Rdy P w K mg base xc 14 "_law_shapes" ["many", "most"] dn__law_shapes) : Rdy P w K mg base xc 15 "_law_some_shape" ["number", "most"] dn__law_some_shape := by
  refine rdy_of F sc__law_some_shape gm (F.bindsN (fun _ _ _ _ _ _ us hl => match us, hl with | [_, _], _ => rfl)) rfl (fun cdv A outer s H E hr => ?_)
  have nd := sc__law_some_shape.nd
  exact dss_cons (ds_set 2 nd (de_callR tkD R__law_shapes hr (da_cons (de_op opd_mod (de_var 0) (de_op opd_add (de_var 1) (de_int))) (da_cons (de_var 1) (da_nil)))))
    (dss_kill [1] (dss_one (ds_ret (de_ix (de_var 2) (de_op opd_mod (de_op opd_fdiv (de_var 0) (de_int)) (de_callB cd_len rfl m_len bt_len (da_cons (de_var 2) (da_nil))))))))
/-! ### _law_all_fillings -/
abbrev s__law_all_fillings : Stmt := topS 13
abbrev N__law_all_fillings : List Str := ["shape", "most", "found", "row", "size", "longer", "some", "lines", "k", "more", "line", "low", "number"]
theorem sc__law_all_fillings : FnScope N__law_all_fillings ["shape", "most"] (defScope s__law_all_fillings) := ⟨rfl, rfl, rfl, by decide +kernel, rfl, by decide +kernel, by decide +kernel⟩
def b__law_all_fillings_2 : DEnv → Out :=
  sRet (xVar 2)
def b__law_all_fillings_F4 : DEnv → Out :=
  sSeq (sAsg (xCall (on1 max1D) (xCons (xOp addD (xSl (xVar 10) (xPart (xNeg (xC (PyData.int 1)))) (xNoPart)) (xTup (xCons (xC (PyData.int 1)) (xNil)))) (xNil))) (yName 11))
    (sSeq (sIf (xB (xOp gtD (xVar 3) (xC (PyData.int 0)))) (sAsg (xCall (on2 max2D) (xCons (xVar 11) (xCons (xOp addD (xOp ixD (xOp ixD (xVar 6) (xOp subD (xVar 3) (xC (PyData.int 1)))) (xVar 8)) (xC (PyData.int 1))) (xNil)))) (yName 11)) (sNext))
    (sAsg (xOp addD (xVar 9) (xLc (xIt range2D (xCons (xVar 11) (xCons (xOp addD (xVar 1) (xC (PyData.int 1))) (xNil)))) (yName 12) (xYes) (xOp addD (xVar 10) (xTup (xCons (xVar 12) (xNil)))) [12])) (yName 9)))
def b__law_all_fillings_F3 : DEnv → Out :=
  sSeq (sAsg (xLst (xNil)) (yName 9))
    (sSeq (sFor (xItems (xVar 7)) (yName 10) (b__law_all_fillings_F4) [0, 2, 7, 10, 11, 12])
    (sKill [7, 8, 10, 11] (sAsg (xVar 9) (yName 7))))
def b__law_all_fillings_F2 : DEnv → Out :=
  sSeq (sAsg (xLst (xCons (xTup (xNil)) (xNil))) (yName 7))
    (sSeq (sFor (xIt range1D (xCons (xVar 4) (xNil))) (yName 8) (b__law_all_fillings_F3) [0, 2, 8, 9, 10, 11, 12])
    (sKill [8, 9, 10, 11] (sAsg (xOp addD (xVar 5) (xLc (xItems (xVar 7)) (yName 10) (xYes) (xOp addD (xVar 6) (xTup (xCons (xVar 10) (xNil)))) [10])) (yName 5))))
def b__law_all_fillings_F1 : DEnv → Out :=
  sSeq (sAsg (xLst (xNil)) (yName 5))
    (sSeq (sFor (xItems (xVar 2)) (yName 6) (b__law_all_fillings_F2) [0, 2, 6, 7, 8, 9, 10, 11, 12])
    (sKill [2, 3, 4, 6, 7, 8, 9, 10, 11] (sAsg (xVar 5) (yName 2))))
def b__law_all_fillings_1 : DEnv → Out :=
  sSeq (sFor (xIt enumD (xCons (xVar 0) (xNil))) (yTup 2 (yCons (yName 3) (yCons (yName 4) (yNil)))) (b__law_all_fillings_F1) [0, 3, 4, 5, 6, 7, 8, 9, 10, 11, 12])
    (sKill [0, 1, 3, 4, 5, 6, 7, 8, 9, 10, 11] (b__law_all_fillings_2))
def b__law_all_fillings : DEnv → Out :=
  sSeq (sAsg (xLst (xCons (xTup (xNil)) (xNil))) (yName 2))
    (b__law_all_fillings_1)
def dn__law_all_fillings : List D → Res D := fnD N__law_all_fillings 2 b__law_all_fillings
theorem rd__law_all_fillings {f : Addr} {fd : FuncData} (F : FnP K "_law_all_fillings" s__law_all_fillings f fd) (gm : mg "_law_all_fillings" = some (.ref f)) (m_enumerate : mg "enumerate" = none) (m_max : mg "max" = none) (m_range : mg "range" = none) : Rdy P w K mg base xc 1 "_law_all_fillings" ["shape", "most"] dn__law_all_fillings := by
  refine rdy_of F sc__law_all_fillings gm (F.bindsN (fun _ _ _ _ _ _ us hl => match us, hl with | [_, _], _ => rfl)) rfl (fun cdv A outer s H E hr => ?_)
  have nd := sc__law_all_fillings.nd
  exact dss_cons (ds_set 2 nd (de_lst (da_cons (de_tup (da_nil)) (da_nil))))
    (dss_cons (ds_for [0, 3, 4, 5, 6, 7, 8, 9, 10, 11, 12] passD rfl (di_enum rfl m_enumerate (da_cons (de_var 0) (da_nil))) (dg_tup rfl (dgs_cons (dg_name 3 nd) (dgs_cons (dg_name 4 nd) (dgs_nil)))) (dss_cons (ds_set 5 nd (de_lst (da_nil)))
    (dss_cons (ds_for [0, 2, 6, 7, 8, 9, 10, 11, 12] passD rfl (di_seq (de_var 2)) (dg_name 6 nd) (dss_cons (ds_set 7 nd (de_lst (da_cons (de_tup (da_nil)) (da_nil))))
    (dss_cons (ds_for [0, 2, 8, 9, 10, 11, 12] passD rfl (di_range1 rfl m_range (da_cons (de_var 4) (da_nil))) (dg_name 8 nd) (dss_cons (ds_set 9 nd (de_lst (da_nil)))
    (dss_cons (ds_for [0, 2, 7, 10, 11, 12] passD rfl (di_seq (de_var 7)) (dg_name 10 nd) (dss_cons (ds_set 11 nd (de_callB (cd_max1 rfl hr) rfl m_max bt_max (da_cons (de_op opd_add (de_sl (de_var 10) (do_some (de_neg (de_int))) (do_none)) (de_tup (da_cons (de_int) (da_nil)))) (da_nil))))
    (dss_cons (ds_if (dt_cmp opd_gt (de_var 3) (de_int) (nomark _)) (dss_one (ds_set 11 nd (de_callB (cd_max2 rfl) rfl m_max bt_max (da_cons (de_var 11) (da_cons (de_op opd_add (de_ix (de_ix (de_var 6) (de_op opd_sub (de_var 3) (de_int))) (de_var 8)) (de_int)) (da_nil)))))) (dss_nil))
    (dss_one (ds_set 9 nd (de_op opd_add (de_var 9) (de_lc [("number", 12)] rfl nd (di_range2 rfl m_range (da_cons (de_var 11) (da_cons (de_op opd_add (de_var 1) (de_int)) (da_nil)))) (blkOk_by (own := [("number", 12)]) (N := N__law_all_fillings) (by kernel_rfl)) (fun _ _ _ _ _ => dg_name 12 nd) (fun _ _ _ _ _ => dts_nil) (fun _ _ _ _ _ => de_op opd_add (de_var 10) (de_tup (da_cons (de_var 12) (da_nil)))))))))))
    (dss_kill [7, 8, 10, 11] (dss_one (ds_set 7 nd (de_var 9)))))))
    (dss_kill [8, 9, 10, 11] (dss_one (ds_set 5 nd (de_op opd_add (de_var 5) (de_lc [("line", 10)] rfl nd (di_seq (de_var 7)) (blkOk_by (own := [("line", 10)]) (N := N__law_all_fillings) (by kernel_rfl)) (fun _ _ _ _ _ => dg_name 10 nd) (fun _ _ _ _ _ => dts_nil) (fun _ _ _ _ _ => de_op opd_add (de_var 6) (de_tup (da_cons (de_var 10) (da_nil))))))))))))
    (dss_kill [2, 3, 4, 6, 7, 8, 9, 10, 11] (dss_one (ds_set 2 nd (de_var 5)))))))
    (dss_kill [0, 1, 3, 4, 5, 6, 7, 8, 9, 10, 11] (dss_one (ds_ret (de_var 2)))))
/-! ### _law_all_counts -/
abbrev s__law_all_counts : Stmt := topS 14
abbrev N__law_all_counts : List Str := ["many", "most", "found", "first", "rest"]
theorem sc__law_all_counts : FnScope N__law_all_counts ["many", "most"] (defScope s__law_all_counts) := ⟨rfl, rfl, rfl, by decide +kernel, rfl, by decide +kernel, by decide +kernel⟩
def b__law_all_counts_3 (rec : List D → Res D) : DEnv → Out :=
  sRet (xVar 2)
def b__law_all_counts_F1 (rec : List D → Res D) : DEnv → Out :=
  sAsg (xOp addD (xVar 2) (xLc (xItems (xCall rec (xCons (xOp subD (xVar 0) (xVar 3)) (xCons (xOp subD (xVar 1) (xC (PyData.int 1))) (xNil))))) (yName 4) (xYes) (xOp addD (xTup (xCons (xVar 3) (xNil))) (xVar 4)) [4])) (yName 2)
def b__law_all_counts_2 (rec : List D → Res D) : DEnv → Out :=
  sSeq (sFor (xIt range1D (xCons (xOp addD (xVar 0) (xC (PyData.int 1))) (xNil))) (yName 3) (b__law_all_counts_F1 rec) [3, 4])
    (sKill [0, 1, 3] (b__law_all_counts_3 rec))
def b__law_all_counts_1 (rec : List D → Res D) : DEnv → Out :=
  sSeq (sAsg (xLst (xNil)) (yName 2))
    (b__law_all_counts_2 rec)
def b__law_all_counts (rec : List D → Res D) : DEnv → Out :=
  sSeq (sIf (xB (xOp eqD (xVar 1) (xC (PyData.int 0)))) (sRet (xOp mulD (xLst (xCons (xTup (xNil)) (xNil))) (xCall (on1 intD) (xCons (xOp eqD (xVar 0) (xC (PyData.int 0))) (xNil))))) (sNext))
    (b__law_all_counts_1 rec)
def dr__law_all_counts (n : Nat) : List D → Res D := Nat.rec (motive := fun _ => List D → Res D) (fun _ => .bad) (fun _ ih => fnD N__law_all_counts 2 (b__law_all_counts ih)) n
def dn__law_all_counts : List D → Res D := dr__law_all_counts 14
theorem rr__law_all_counts {f : Addr} {fd : FuncData} (F : FnP K "_law_all_counts" s__law_all_counts f fd) (gm : mg "_law_all_counts" = some (.ref f)) (m_int : mg "int" = none) (m_range : mg "range" = none) : ∀ n : Nat, Rdy P w K mg base xc (0 + n) "_law_all_counts" ["many", "most"] (dr__law_all_counts n)
  | 0 => rdy_bad F gm (F.bindsN (fun _ _ _ _ _ _ us hl => match us, hl with | [_, _], _ => rfl))
  | n + 1 => by
    have R_rec := rr__law_all_counts F gm m_int m_range n
    refine rdy_of F sc__law_all_counts gm (F.bindsN (fun _ _ _ _ _ _ us hl => match us, hl with | [_, _], _ => rfl)) rfl (fun cdv A outer s H E hr => ?_)
    have nd := sc__law_all_counts.nd
    exact dss_cons (ds_if (dt_cmp (opd_eq hr) (de_var 1) (de_int) (nomark _)) (dss_one (ds_ret (de_op opd_mul (de_lst (da_cons (de_tup (da_nil)) (da_nil))) (de_callTy cd_int rfl m_int bt_int (da_cons (de_cmp (opd_eq hr) (de_var 0) (de_int) (nomark _)) (da_nil)))))) (dss_nil))
      (dss_cons (ds_set 2 nd (de_lst (da_nil)))
      (dss_cons (ds_for [3, 4] passD rfl (di_range1 rfl m_range (da_cons (de_op opd_add (de_var 0) (de_int)) (da_nil))) (dg_name 3 nd) (dss_one (ds_set 2 nd (de_op opd_add (de_var 2) (de_lc [("rest", 4)] rfl nd (di_seq (de_callR tkD R_rec hr (da_cons (de_op opd_sub (de_var 0) (de_var 3)) (da_cons (de_op opd_sub (de_var 1) (de_int)) (da_nil))) (Nat.le_refl _))) (blkOk_by (own := [("rest", 4)]) (N := N__law_all_counts) (by kernel_rfl)) (fun _ _ _ _ _ => dg_name 4 nd) (fun _ _ _ _ _ => dts_nil) (fun _ _ _ _ _ => de_op opd_add (de_tup (da_cons (de_var 3) (da_nil))) (de_var 4)))))))
      (dss_kill [0, 1, 3] (dss_one (ds_ret (de_var 2))))))
theorem rd__law_all_counts {f : Addr} {fd : FuncData} (F : FnP K "_law_all_counts" s__law_all_counts f fd) (gm : mg "_law_all_counts" = some (.ref f)) (m_int : mg "int" = none) (m_range : mg "range" = none) : Rdy P w K mg base xc 14 "_law_all_counts" ["many", "most"] dn__law_all_counts := rr__law_all_counts F gm m_int m_range 14
/-! ### law -/
abbrev s_law : Stmt := topS 15
abbrev N_law : List Str := ["script", "n", "shape", "number", "most", "every", "counts", "whole", "some", "due", "filling", "row", "line", "k", "far"]
theorem sc_law : FnScope N_law ["script"] (defScope s_law) := ⟨rfl, rfl, rfl, by decide +kernel, rfl, by decide +kernel, by decide +kernel⟩
def b_law_1 : DEnv → Out :=
  sRet (xAndV (xOp eqD (xCall dn_count_upto (xCons (xTup (xNil)) (xCons (xC (PyData.int 0)) (xNil)))) (xC (PyData.int 1))) (xAndV (xOp eqD (xCall dn_count_with (xCons (xTup (xNil)) (xCons (xTup (xNil)) (xNil)))) (xC (PyData.int 1))) (xOp eqD (xCall dn_count_upto (xCons (xTup (xCons (xC (PyData.int 2)) (xCons (xC (PyData.int 1)) (xNil)))) (xCons (xC (PyData.int 2)) (xNil)))) (xC (PyData.int 2)))))
def b_law_F3 : DEnv → Out :=
  sAsg (xOp addD (xVar 11) (xVar 12)) (yName 11)
def b_law_F2 : DEnv → Out :=
  sSeq (sAsg (xTup (xNil)) (yName 11))
    (sSeq (sFor (xItems (xVar 10)) (yName 12) (b_law_F3) [3, 5, 6, 7, 10, 12, 13, 14])
    (sKill [10, 12] (sAsg (xOp addD (xVar 9) (xCall (on1 intD) (xCons (xOp eqD (xCall (on1 tupleD) (xCons (xLc (xIt range1D (xCons (xVar 4) (xNil))) (yName 13) (xYes) (xTcn (xVar 11) (xOp addD (xVar 13) (xC (PyData.int 1)))) [13]) (xNil))) (xVar 8)) (xNil)))) (yName 9))))
def b_law_F4 : DEnv → Out :=
  sAsg (xOp addD (xVar 7) (xCall dn_count_with (xCons (xVar 2) (xCons (xVar 8) (xNil))))) (yName 7)
def b_law_F1 : DEnv → Out :=
  sSeq (sAsg (xCall dn__law_some_shape (xCons (xCall dn__law_mixed (xCons (xVar 0) (xCons (xOp mulD (xC (PyData.int 3)) (xVar 1)) (xNil)))) (xCons (xC (PyData.int 6)) (xNil)))) (yName 2))
    (sSeq (sAsg (xCall dn__law_mixed (xCons (xVar 0) (xCons (xOp addD (xOp mulD (xC (PyData.int 3)) (xVar 1)) (xC (PyData.int 1))) (xNil)))) (yName 3))
    (sSeq (sAsg (xOp modD (xVar 3) (xC (PyData.int 5))) (yName 4))
    (sSeq (sAsg (xCall dn__law_all_fillings (xCons (xVar 2) (xCons (xVar 4) (xNil)))) (yName 5))
    (sSeq (sIf (xB (xOp neD (xCall dn_count_upto (xCons (xVar 2) (xCons (xVar 4) (xNil)))) (xCall (on1 lenD) (xCons (xVar 5) (xNil))))) (sRet (xC (PyData.bool false))) (sNext))
    (sSeq (sAsg (xCall dn__law_all_counts (xCons (xCall (on1 sumD) (xCons (xVar 2) (xNil))) (xCons (xVar 4) (xNil)))) (yName 6))
    (sSeq (sAsg (xC (PyData.int 0)) (yName 7))
    (sSeq (sFor (xItems (xVar 6)) (yName 8) (b_law_F4) [8, 9, 10, 11, 12, 13, 14])
    (sKill [8] (sSeq (sIf (xB (xOp neD (xVar 7) (xCall (on1 lenD) (xCons (xVar 5) (xNil))))) (sRet (xC (PyData.bool false))) (sNext))
    (sKill [7] (sSeq (sIf (xB (xOp neD (xVar 6) (xLst (xNil)))) (sSeq (sAsg (xOp ixD (xVar 6) (xOp modD (xOp fdivD (xVar 3) (xC (PyData.int 8))) (xCall (on1 lenD) (xCons (xVar 6) (xNil))))) (yName 8))
    (sKill [3, 6] (sSeq (sAsg (xC (PyData.int 0)) (yName 9))
    (sSeq (sFor (xItems (xVar 5)) (yName 10) (b_law_F2) [3, 5, 6, 7, 10, 11, 12, 13, 14])
    (sKill [4, 5, 10, 11, 12] (sSeq (sIf (xOr (xB (xOp neD (xCall dn_count_with (xCons (xVar 2) (xCons (xVar 8) (xNil)))) (xVar 9))) (xB (xOp neD (xCall dn_count_with (xCons (xVar 2) (xCons (xRev (xVar 8)) (xNil)))) (xVar 9)))) (sRet (xC (PyData.bool false))) (sNext))
    (sIf (xOr (xB (xOp neD (xCall dn_count_with (xCons (xVar 2) (xCons (xOp addD (xVar 8) (xTup (xCons (xC (PyData.int 0)) (xNil)))) (xNil)))) (xVar 9))) (xB (xOp neD (xCall dn_count_with (xCons (xVar 2) (xCons (xOp addD (xTup (xCons (xC (PyData.int 0)) (xNil))) (xVar 8)) (xNil)))) (xVar 9)))) (sRet (xC (PyData.bool false))) (sNext)))))))) (sNext))
    (sKill [2, 3, 4, 5, 6, 8, 9, 10, 11, 12] (sSeq (sAsg (xCall dn__law_some_shape (xCons (xCall dn__law_mixed (xCons (xVar 0) (xCons (xOp addD (xOp mulD (xC (PyData.int 3)) (xVar 1)) (xC (PyData.int 2))) (xNil)))) (xCons (xC (PyData.int 12)) (xNil)))) (yName 14))
    (sKill [1] (sSeq (sIf (xOr (xB (xOp neD (xCall dn_count_with (xCons (xVar 14) (xCons (xOp mulD (xTup (xCons (xC (PyData.int 1)) (xNil))) (xCall (on1 sumD) (xCons (xVar 14) (xNil)))) (xNil)))) (xCall dn_count_of (xCons (xVar 14) (xNil))))) (xB (xOp ltD (xCall dn_count_upto (xCons (xVar 14) (xCons (xCall (on1 lenD) (xCons (xVar 14) (xNil))) (xNil)))) (xC (PyData.int 1))))) (sRet (xC (PyData.bool false))) (sNext))
    (sSeq (sIf (xOr (xB (xOp ltD (xCall dn_count_upto (xCons (xVar 14) (xCons (xC (PyData.int 12)) (xNil)))) (xCall dn_count_upto (xCons (xVar 14) (xCons (xC (PyData.int 11)) (xNil)))))) (xB (xOp neD (xCall dn_count_upto (xCons (xVar 14) (xCons (xCall (on2 max2D) (xCons (xC (PyData.int 0)) (xCons (xOp subD (xCall (on1 lenD) (xCons (xVar 14) (xNil))) (xC (PyData.int 1))) (xNil)))) (xNil)))) (xCall (on1 intD) (xCons (xOp eqD (xVar 14) (xTup (xNil))) (xNil)))))) (sRet (xC (PyData.bool false))) (sNext))
    (sSeq (sIf (xOr (xB (xOp neD (xCall dn_count_upto (xCons (xVar 14) (xCons (xC (PyData.int 1)) (xNil)))) (xCall (on1 intD) (xCons (xOp ltD (xCall (on1 lenD) (xCons (xVar 14) (xNil))) (xC (PyData.int 2))) (xNil))))) (xB (xOp neD (xCall dn_count_upto (xCons (xCall dn_turned (xCons (xVar 14) (xNil))) (xCons (xC (PyData.int 1)) (xNil)))) (xCall (on1 intD) (xCons (xOrV (xOp eqD (xVar 14) (xTup (xNil))) (xOp eqD (xCall (on1 max1D) (xCons (xVar 14) (xNil))) (xC (PyData.int 1)))) (xNil)))))) (sRet (xC (PyData.bool false))) (sNext))
    (sIf (xB (xOp neD (xCall dn_count_with (xCons (xOp mulD (xTup (xCons (xCall (on1 sumD) (xCons (xVar 14) (xNil))) (xNil))) (xCall (on1 intD) (xCons (xOp neD (xVar 14) (xTup (xNil))) (xNil)))) (xCons (xVar 14) (xNil)))) (xC (PyData.int 1)))) (sRet (xC (PyData.bool false))) (sNext)))))))))))))))))))
def b_law : DEnv → Out :=
  sSeq (sFor (xIt range1D (xCons (xC (PyData.int 2)) (xNil))) (yName 1) (b_law_F1) [1, 2, 3, 4, 5, 6, 7, 8, 9, 10, 11, 12, 13, 14])
    (sKill [0, 1, 2, 3, 4, 5, 6, 7, 8, 9, 10, 11, 12, 14] (b_law_1))
def dn_law : List D → Res D := fnD N_law 1 b_law
theorem ok_law {f : Addr} {fd : FuncData} (F : FnP K "law" s_law f fd) (m_int : mg "int" = none) (m_len : mg "len" = none) (m_max : mg "max" = none) (m_range : mg "range" = none) (m_sum : mg "sum" = none) (m_tuple : mg "tuple" = none) (R_count_upto : Rdy P w K mg base xc 3 "count_upto" ["shape", "most"] dn_count_upto) (R_count_with : Rdy P w K mg base xc 15 "count_with" ["shape", "counts"] dn_count_with) (R_turned : Rdy P w K mg base xc 1 "turned" ["shape"] dn_turned) (R_count_of : Rdy P w K mg base xc 3 "count_of" ["shape"] dn_count_of) (R__law_mixed : Rdy P w K mg base xc 2 "_law_mixed" ["script", "k"] dn__law_mixed) (R__law_some_shape : Rdy P w K mg base xc 15 "_law_some_shape" ["number", "most"] dn__law_some_shape) (R__law_all_counts : Rdy P w K mg base xc 14 "_law_all_counts" ["many", "most"] dn__law_all_counts) (R__law_all_fillings : Rdy P w K mg base xc 1 "_law_all_fillings" ["shape", "most"] dn__law_all_fillings) : FnOk P w K mg base (L2N.CX P w) 16 f fd ["script"] (spOf K xc dn_law) := by
  refine fnok_of F sc_law rfl (fun cdv A outer s H E hr => ?_)
  have nd := sc_law.nd
  exact dss_cons (ds_for [1, 2, 3, 4, 5, 6, 7, 8, 9, 10, 11, 12, 13, 14] passD rfl (di_range1 rfl m_range (da_cons (de_int) (da_nil))) (dg_name 1 nd) (dss_cons (ds_set 2 nd (de_callR tkD R__law_some_shape hr (da_cons (de_callR tkD R__law_mixed hr (da_cons (de_var 0) (da_cons (de_op opd_mul (de_int) (de_var 1)) (da_nil)))) (da_cons (de_int) (da_nil)))))
    (dss_cons (ds_set 3 nd (de_callR tkD R__law_mixed hr (da_cons (de_var 0) (da_cons (de_op opd_add (de_op opd_mul (de_int) (de_var 1)) (de_int)) (da_nil)))))
    (dss_cons (ds_set 4 nd (de_op opd_mod (de_var 3) (de_int)))
    (dss_cons (ds_set 5 nd (de_callR tkD R__law_all_fillings hr (da_cons (de_var 2) (da_cons (de_var 4) (da_nil)))))
    (dss_cons (ds_if (dt_cmp (opd_ne hr) (de_callR tkD R_count_upto hr (da_cons (de_var 2) (da_cons (de_var 4) (da_nil)))) (de_callB cd_len rfl m_len bt_len (da_cons (de_var 5) (da_nil))) (nomark _)) (dss_one (ds_ret (de_bl))) (dss_nil))
    (dss_cons (ds_set 6 nd (de_callR tkD R__law_all_counts hr (da_cons (de_callB (cd_sum rfl) rfl m_sum bt_sum (da_cons (de_var 2) (da_nil))) (da_cons (de_var 4) (da_nil)))))
    (dss_cons (ds_set 7 nd (de_int))
    (dss_cons (ds_for [8, 9, 10, 11, 12, 13, 14] passD rfl (di_seq (de_var 6)) (dg_name 8 nd) (dss_one (ds_set 7 nd (de_op opd_add (de_var 7) (de_callR tkD R_count_with hr (da_cons (de_var 2) (da_cons (de_var 8) (da_nil))))))))
    (dss_kill [8] (dss_cons (ds_if (dt_cmp (opd_ne hr) (de_var 7) (de_callB cd_len rfl m_len bt_len (da_cons (de_var 5) (da_nil))) (nomark _)) (dss_one (ds_ret (de_bl))) (dss_nil))
    (dss_kill [7] (dss_cons (ds_if (dt_cmp (opd_ne hr) (de_var 6) (de_lst (da_nil)) (nomark _)) (dss_cons (ds_set 8 nd (de_ix (de_var 6) (de_op opd_mod (de_op opd_fdiv (de_var 3) (de_int)) (de_callB cd_len rfl m_len bt_len (da_cons (de_var 6) (da_nil))))))
    (dss_kill [3, 6] (dss_cons (ds_set 9 nd (de_int))
    (dss_cons (ds_for [3, 5, 6, 7, 10, 11, 12, 13, 14] passD rfl (di_seq (de_var 5)) (dg_name 10 nd) (dss_cons (ds_set 11 nd (de_tup (da_nil)))
    (dss_cons (ds_for [3, 5, 6, 7, 10, 12, 13, 14] passD rfl (di_seq (de_var 10)) (dg_name 12 nd) (dss_one (ds_set 11 nd (de_op opd_add (de_var 11) (de_var 12)))))
    (dss_kill [10, 12] (dss_one (ds_set 9 nd (de_op opd_add (de_var 9) (de_callTy cd_int rfl m_int bt_int (da_cons (de_cmp (opd_eq hr) (de_callTy cd_tuple rfl m_tuple bt_tuple (da_cons (de_lc [("k", 13)] rfl nd (di_range1 rfl m_range (da_cons (de_var 4) (da_nil))) (blkOk_by (own := [("k", 13)]) (N := N_law) (by kernel_rfl)) (fun _ _ _ _ _ => dg_name 13 nd) (fun _ _ _ _ _ => dts_nil) (fun _ _ _ _ _ => de_tcn hr (de_var 11) (de_op opd_add (de_var 13) (de_int)))) (da_nil))) (de_var 8) (nomark _)) (da_nil))))))))))
    (dss_kill [4, 5, 10, 11, 12] (dss_cons (ds_if (DW.t (dw_or (dt_cmp (opd_ne hr) (de_callR tkD R_count_with hr (da_cons (de_var 2) (da_cons (de_var 8) (da_nil)))) (de_var 9) (nomark _)) (dw_or1 (dt_cmp (opd_ne hr) (de_callR tkD R_count_with hr (da_cons (de_var 2) (da_cons (de_rev (de_var 8)) (da_nil)))) (de_var 9) (nomark _))))) (dss_one (ds_ret (de_bl))) (dss_nil))
    (dss_one (ds_if (DW.t (dw_or (dt_cmp (opd_ne hr) (de_callR tkD R_count_with hr (da_cons (de_var 2) (da_cons (de_op opd_add (de_var 8) (de_tup (da_cons (de_int) (da_nil)))) (da_nil)))) (de_var 9) (nomark _)) (dw_or1 (dt_cmp (opd_ne hr) (de_callR tkD R_count_with hr (da_cons (de_var 2) (da_cons (de_op opd_add (de_tup (da_cons (de_int) (da_nil))) (de_var 8)) (da_nil)))) (de_var 9) (nomark _))))) (dss_one (ds_ret (de_bl))) (dss_nil))))))))) (dss_nil))
    (dss_kill [2, 3, 4, 5, 6, 8, 9, 10, 11, 12] (dss_cons (ds_set 14 nd (de_callR tkD R__law_some_shape hr (da_cons (de_callR tkD R__law_mixed hr (da_cons (de_var 0) (da_cons (de_op opd_add (de_op opd_mul (de_int) (de_var 1)) (de_int)) (da_nil)))) (da_cons (de_int) (da_nil)))))
    (dss_kill [1] (dss_cons (ds_if (DW.t (dw_or (dt_cmp (opd_ne hr) (de_callR tkD R_count_with hr (da_cons (de_var 14) (da_cons (de_op opd_mul (de_tup (da_cons (de_int) (da_nil))) (de_callB (cd_sum rfl) rfl m_sum bt_sum (da_cons (de_var 14) (da_nil)))) (da_nil)))) (de_callR tkD R_count_of hr (da_cons (de_var 14) (da_nil))) (nomark _)) (dw_or1 (dt_cmp opd_lt (de_callR tkD R_count_upto hr (da_cons (de_var 14) (da_cons (de_callB cd_len rfl m_len bt_len (da_cons (de_var 14) (da_nil))) (da_nil)))) (de_int) (nomark _))))) (dss_one (ds_ret (de_bl))) (dss_nil))
    (dss_cons (ds_if (DW.t (dw_or (dt_cmp opd_lt (de_callR tkD R_count_upto hr (da_cons (de_var 14) (da_cons (de_int) (da_nil)))) (de_callR tkD R_count_upto hr (da_cons (de_var 14) (da_cons (de_int) (da_nil)))) (nomark _)) (dw_or1 (dt_cmp (opd_ne hr) (de_callR tkD R_count_upto hr (da_cons (de_var 14) (da_cons (de_callB (cd_max2 rfl) rfl m_max bt_max (da_cons (de_int) (da_cons (de_op opd_sub (de_callB cd_len rfl m_len bt_len (da_cons (de_var 14) (da_nil))) (de_int)) (da_nil)))) (da_nil)))) (de_callTy cd_int rfl m_int bt_int (da_cons (de_cmp (opd_eq hr) (de_var 14) (de_tup (da_nil)) (nomark _)) (da_nil))) (nomark _))))) (dss_one (ds_ret (de_bl))) (dss_nil))
    (dss_cons (ds_if (DW.t (dw_or (dt_cmp (opd_ne hr) (de_callR tkD R_count_upto hr (da_cons (de_var 14) (da_cons (de_int) (da_nil)))) (de_callTy cd_int rfl m_int bt_int (da_cons (de_cmp opd_lt (de_callB cd_len rfl m_len bt_len (da_cons (de_var 14) (da_nil))) (de_int) (nomark _)) (da_nil))) (nomark _)) (dw_or1 (dt_cmp (opd_ne hr) (de_callR tkD R_count_upto hr (da_cons (de_callR tkD R_turned hr (da_cons (de_var 14) (da_nil))) (da_cons (de_int) (da_nil)))) (de_callTy cd_int rfl m_int bt_int (da_cons (de_or (de_cmp (opd_eq hr) (de_var 14) (de_tup (da_nil)) (nomark _)) (de_one (de_cmp (opd_eq hr) (de_callB (cd_max1 rfl hr) rfl m_max bt_max (da_cons (de_var 14) (da_nil))) (de_int) (nomark _)))) (da_nil))) (nomark _))))) (dss_one (ds_ret (de_bl))) (dss_nil))
    (dss_one (ds_if (dt_cmp (opd_ne hr) (de_callR tkD R_count_with hr (da_cons (de_op opd_mul (de_tup (da_cons (de_callB (cd_sum rfl) rfl m_sum bt_sum (da_cons (de_var 14) (da_nil))) (da_nil))) (de_callTy cd_int rfl m_int bt_int (da_cons (de_cmp (opd_ne hr) (de_var 14) (de_tup (da_nil)) (nomark _)) (da_nil)))) (da_cons (de_var 14) (da_nil)))) (de_int) (nomark _)) (dss_one (ds_ret (de_bl))) (dss_nil))))))))))))))))))))))
    (dss_kill [0, 1, 2, 3, 4, 5, 6, 7, 8, 9, 10, 11, 12, 14] (dss_one (ds_ret (de_and (de_cmp (opd_eq hr) (de_callR tkD R_count_upto hr (da_cons (de_tup (da_nil)) (da_cons (de_int) (da_nil)))) (de_int) (nomark _)) (de_and (de_cmp (opd_eq hr) (de_callR tkD R_count_with hr (da_cons (de_tup (da_nil)) (da_cons (de_tup (da_nil)) (da_nil)))) (de_int) (nomark _)) (de_one (de_cmp (opd_eq hr) (de_callR tkD R_count_upto hr (da_cons (de_tup (da_cons (de_int) (da_cons (de_int) (da_nil)))) (da_cons (de_int) (da_nil)))) (de_int) (nomark _))))))))
end
end Law
end
end

section
set_option Elab.async false
set_option linter.all false
set_option maxRecDepth 100000
set_option maxHeartbeats 4000000
namespace Law
open PySem PySem.Spec L2 Evl PyProof.Rows SB
def d_turned : He.DefD := ⟨("turned", none), "turned", "turned", defArgs s_turned, defBody s_turned, defScope s_turned, [], []⟩
def d_hooks : He.DefD := ⟨("hooks", none), "hooks", "hooks", defArgs s_hooks, defBody s_hooks, defScope s_hooks, [], []⟩
def d_count_of : He.DefD := ⟨("count_of", none), "count_of", "count_of", defArgs s_count_of, defBody s_count_of, defScope s_count_of, [], []⟩
def d_count_upto : He.DefD := ⟨("count_upto", none), "count_upto", "count_upto", defArgs s_count_upto, defBody s_count_upto, defScope s_count_upto, [], []⟩
def d_strips : He.DefD := ⟨("strips", none), "strips", "strips", defArgs s_strips, defBody s_strips, defScope s_strips, [], []⟩
def d_count_with : He.DefD := ⟨("count_with", none), "count_with", "count_with", defArgs s_count_with, defBody s_count_with, defScope s_count_with, [], []⟩
def d__law_cell_at : He.DefD := ⟨("_law_cell_at", none), "_law_cell_at", "_law_cell_at", defArgs s__law_cell_at, defBody s__law_cell_at, defScope s__law_cell_at, [], []⟩
def d__law_mixed : He.DefD := ⟨("_law_mixed", none), "_law_mixed", "_law_mixed", defArgs s__law_mixed, defBody s__law_mixed, defScope s__law_mixed, [], []⟩
def d__law_shapes : He.DefD := ⟨("_law_shapes", none), "_law_shapes", "_law_shapes", defArgs s__law_shapes, defBody s__law_shapes, defScope s__law_shapes, [], []⟩
def d__law_some_shape : He.DefD := ⟨("_law_some_shape", none), "_law_some_shape", "_law_some_shape", defArgs s__law_some_shape, defBody s__law_some_shape, defScope s__law_some_shape, [], []⟩
def d__law_all_fillings : He.DefD := ⟨("_law_all_fillings", none), "_law_all_fillings", "_law_all_fillings", defArgs s__law_all_fillings, defBody s__law_all_fillings, defScope s__law_all_fillings, [], []⟩
def d__law_all_counts : He.DefD := ⟨("_law_all_counts", none), "_law_all_counts", "_law_all_counts", defArgs s__law_all_counts, defBody s__law_all_counts, defScope s__law_all_counts, [], []⟩
def d_law : He.DefD := ⟨("law", none), "law", "law", defArgs s_law, defBody s_law, defScope s_law, [], []⟩
def fnL : List He.DefD := [d_turned, d_hooks, d_count_of, d_count_upto, d_strips, d_count_with, d__law_cell_at, d__law_mixed, d__law_shapes, d__law_some_shape, d__law_all_fillings, d__law_all_counts, d_law]
def faL : List He.Fa := [.glo "turned", .glo "hooks", .glo "count_of", .glo "count_upto", .glo "strips", .glo "count_with", .glo "_law_cell_at", .glo "_law_mixed", .glo "_law_shapes", .glo "_law_some_shape", .glo "_law_all_fillings", .glo "_law_all_counts", .glo "law", .free "enumerate", .free "int", .free "len", .free "max", .free "min", .free "range", .free "sum", .free "tuple"]
abbrev R : PySem.W.OpenRow := PySem.W.OpenLaw.row PySem.Challenge.rw_stairbox_k70_whole_numbers_of_fillings
abbrev hk : PySem.W.Hook := He.hookD 4 faL fnL
def ob (s : PySem.W.SharedT) : He.AlD := He.obsDG 4 faL fnL (HandSHeadRun.getT s)
theorem ob_eq (s : PySem.W.SharedT) : ob s = hk.obs s.abs := He.obsDG_eq (HandSHeadRun.getT_eq s)
def looseL : List Str := [("turned" : Str), ("hooks" : Str), ("count_of" : Str), ("count_upto" : Str), ("strips" : Str), ("count_with" : Str), ("_law_cell_at" : Str), ("_law_mixed" : Str), ("_law_shapes" : Str), ("_law_some_shape" : Str), ("_law_all_fillings" : Str), ("_law_all_counts" : Str)]
theorem run (w : World) : HandSHeadRun.RunEq R (PySem.W.view R.prog [15]) hk ob 3000 looseL w := by
  intro os
  kernel_rfl
theorem facts {P : Program} {w : World} {K : PySem.W.Frag} {h : Heap} {mg : Str → Option Value} {f : Addr} (X : K.In h) (G : h.Ns mainGlobals mg) (hfa : mg ("law" : Str) = some (.ref f)) (c : He.SaysD faL fnL K) :
    ∃ fd : FuncData, (∀ (s : Shared) (v : Value), BindsTo s fd ⟨[v], []⟩ [("script", v)]) ∧ ∀ base : Heap, K.In base → base.Ns mainGlobals mg → FnOk P w K mg base (L2N.CX P w) 16 f fd ["script"] (spOf K (fun _ => .none) dn_law) := by
  obtain ⟨fd_turned, F_turned⟩ := c.def_ 0 (d := d_turned) rfl
  have gm_turned := He.glo_ok X G (c.fact 0 (f := .glo "turned") rfl)
  obtain ⟨fd_hooks, F_hooks⟩ := c.def_ 1 (d := d_hooks) rfl
  have gm_hooks := He.glo_ok X G (c.fact 1 (f := .glo "hooks") rfl)
  obtain ⟨fd_count_of, F_count_of⟩ := c.def_ 2 (d := d_count_of) rfl
  have gm_count_of := He.glo_ok X G (c.fact 2 (f := .glo "count_of") rfl)
  obtain ⟨fd_count_upto, F_count_upto⟩ := c.def_ 3 (d := d_count_upto) rfl
  have gm_count_upto := He.glo_ok X G (c.fact 3 (f := .glo "count_upto") rfl)
  obtain ⟨fd_strips, F_strips⟩ := c.def_ 4 (d := d_strips) rfl
  have gm_strips := He.glo_ok X G (c.fact 4 (f := .glo "strips") rfl)
  obtain ⟨fd_count_with, F_count_with⟩ := c.def_ 5 (d := d_count_with) rfl
  have gm_count_with := He.glo_ok X G (c.fact 5 (f := .glo "count_with") rfl)
  obtain ⟨fd__law_cell_at, F__law_cell_at⟩ := c.def_ 6 (d := d__law_cell_at) rfl
  have gm__law_cell_at := He.glo_ok X G (c.fact 6 (f := .glo "_law_cell_at") rfl)
  obtain ⟨fd__law_mixed, F__law_mixed⟩ := c.def_ 7 (d := d__law_mixed) rfl
  have gm__law_mixed := He.glo_ok X G (c.fact 7 (f := .glo "_law_mixed") rfl)
  obtain ⟨fd__law_shapes, F__law_shapes⟩ := c.def_ 8 (d := d__law_shapes) rfl
  have gm__law_shapes := He.glo_ok X G (c.fact 8 (f := .glo "_law_shapes") rfl)
  obtain ⟨fd__law_some_shape, F__law_some_shape⟩ := c.def_ 9 (d := d__law_some_shape) rfl
  have gm__law_some_shape := He.glo_ok X G (c.fact 9 (f := .glo "_law_some_shape") rfl)
  obtain ⟨fd__law_all_fillings, F__law_all_fillings⟩ := c.def_ 10 (d := d__law_all_fillings) rfl
  have gm__law_all_fillings := He.glo_ok X G (c.fact 10 (f := .glo "_law_all_fillings") rfl)
  obtain ⟨fd__law_all_counts, F__law_all_counts⟩ := c.def_ 11 (d := d__law_all_counts) rfl
  have gm__law_all_counts := He.glo_ok X G (c.fact 11 (f := .glo "_law_all_counts") rfl)
  obtain ⟨fd_law, F_law⟩ := c.def_ 12 (d := d_law) rfl
  have gm_law := He.glo_ok X G (c.fact 12 (f := .glo "law") rfl)
  have m_enumerate := He.free_ok X G (c.fact 13 (f := .free "enumerate") rfl)
  have m_int := He.free_ok X G (c.fact 14 (f := .free "int") rfl)
  have m_len := He.free_ok X G (c.fact 15 (f := .free "len") rfl)
  have m_max := He.free_ok X G (c.fact 16 (f := .free "max") rfl)
  have m_min := He.free_ok X G (c.fact 17 (f := .free "min") rfl)
  have m_range := He.free_ok X G (c.fact 18 (f := .free "range") rfl)
  have m_sum := He.free_ok X G (c.fact 19 (f := .free "sum") rfl)
  have m_tuple := He.free_ok X G (c.fact 20 (f := .free "tuple") rfl)
  have e := hfa.symm.trans gm_law
  cases e
  have b := FunD.bindsA (ps := ["script"]) F_law fun _ _ _ _ _ _ us hl => match us, hl with | [_], _ => rfl
  refine ⟨fd_law, fun s v => b s [v] rfl, fun base _ _ => ?_⟩
  have R_turned : Rdy P w K mg base (fun _ => .none) 1 "turned" ["shape"] dn_turned := rd_turned F_turned gm_turned m_len m_range m_tuple
  have R_hooks : Rdy P w K mg base (fun _ => .none) 2 "hooks" ["shape"] dn_hooks := rd_hooks F_hooks gm_hooks m_enumerate m_range m_tuple R_turned
  have R_count_of : Rdy P w K mg base (fun _ => .none) 3 "count_of" ["shape"] dn_count_of := rd_count_of F_count_of gm_count_of m_range m_sum R_hooks
  have R_count_upto : Rdy P w K mg base (fun _ => .none) 3 "count_upto" ["shape", "most"] dn_count_upto := rd_count_upto F_count_upto gm_count_upto m_enumerate R_hooks
  have R_strips : Rdy P w K mg base (fun _ => .none) 1 "strips" ["shape", "many"] dn_strips := rd_strips F_strips gm_strips m_enumerate m_range m_sum m_tuple
  have R_count_with : Rdy P w K mg base (fun _ => .none) 15 "count_with" ["shape", "counts"] dn_count_with := rd_count_with F_count_with gm_count_with m_int m_sum R_strips
  have R__law_cell_at : Rdy P w K mg base (fun _ => .none) 1 "_law_cell_at" ["script", "k"] dn__law_cell_at := rd__law_cell_at F__law_cell_at gm__law_cell_at m_len
  have R__law_mixed : Rdy P w K mg base (fun _ => .none) 2 "_law_mixed" ["script", "k"] dn__law_mixed := rd__law_mixed F__law_mixed gm__law_mixed R__law_cell_at
  have R__law_shapes : Rdy P w K mg base (fun _ => .none) 14 "_law_shapes" ["many", "most"] dn__law_shapes := rd__law_shapes F__law_shapes gm__law_shapes m_min m_range
  have R__law_some_shape : Rdy P w K mg base (fun _ => .none) 15 "_law_some_shape" ["number", "most"] dn__law_some_shape := rd__law_some_shape F__law_some_shape gm__law_some_shape m_len R__law_shapes
  have R__law_all_fillings : Rdy P w K mg base (fun _ => .none) 1 "_law_all_fillings" ["shape", "most"] dn__law_all_fillings := rd__law_all_fillings F__law_all_fillings gm__law_all_fillings m_enumerate m_max m_range
  have R__law_all_counts : Rdy P w K mg base (fun _ => .none) 14 "_law_all_counts" ["many", "most"] dn__law_all_counts := rd__law_all_counts F__law_all_counts gm__law_all_counts m_int m_range
  exact ok_law F_law m_int m_len m_max m_range m_sum m_tuple R_count_upto R_count_with R_turned R_count_of R__law_mixed R__law_some_shape R__law_all_counts R__law_all_fillings
end Law
end

section
noncomputable section
namespace Law
open SB PySem
/-! ### finite facts -/
def encN (s : List Nat) : D := .tuple (s.map fun (n : Nat) => (PyData.int (n : Int) : D))
def nOf : D → Nat
  | .int i => i.toNat
  | _ => 0
def all2N : List D → List Nat → Bool
  | [], [] => true
  | .int i :: ds, n :: l => decide (i = (n : Int)) && all2N ds l
  | _, _ => false
theorem all2N_eq : ∀ {ds : List D} {l : List Nat}, all2N ds l = true → ds = l.map fun (n : Nat) => (PyData.int (n : Int) : D)
  | [], [], _ => rfl
  | .int i :: ds, n :: l, h => by
    rw [all2N, Bool.and_eq_true, decide_eq_true_eq] at h
    rw [List.map_cons, ← all2N_eq h.2, h.1]
  | [], _ :: _, h => by cases h
  | .none :: _, [], h => by cases h
  | .bool _ :: _, [], h => by cases h
  | .int _ :: _, [], h => by cases h
  | .str _ :: _, [], h => by cases h
  | .list _ :: _, [], h => by cases h
  | .tuple _ :: _, [], h => by cases h
  | .dict _ :: _, [], h => by cases h
  | .none :: _, _ :: _, h => by cases h
  | .bool _ :: _, _ :: _, h => by cases h
  | .str _ :: _, _ :: _, h => by cases h
  | .list _ :: _, _ :: _, h => by cases h
  | .tuple _ :: _, _ :: _, h => by cases h
  | .dict _ :: _, _ :: _, h => by cases h
def isN : D → List Nat → Bool
  | .tuple ds, l => all2N ds l
  | _, _ => false
theorem isN_eq {d : D} {l : List Nat} (h : isN d l = true) : d = encN l := by
  cases d with
  | tuple ds =>
    unfold encN
    rw [← all2N_eq (show all2N ds l = true from h)]
  | _ => cases h
def decN : D → List Nat
  | .tuple ds => ds.map nOf
  | _ => []
def allN : List D → List (List Nat) → Bool
  | [], [] => true
  | d :: ds, l :: ls => isN d l && allN ds ls
  | _, _ => false
theorem allN_eq : ∀ {ds : List D} {l : List (List Nat)}, allN ds l = true → ds = l.map encN
  | [], [], _ => rfl
  | d :: ds, l :: ls, h => by
    rw [allN, Bool.and_eq_true] at h
    rw [List.map_cons, ← allN_eq h.2, isN_eq h.1]
  | [], _ :: _, h => by cases h
  | _ :: _, [], h => by cases h
def okN : Res D → List Nat → Bool
  | .ok d, l => isN d l
  | _, _ => false
theorem okN_eq {r : Res D} {l : List Nat} (h : okN r l = true) : r = .ok (encN l) := by
  cases r with
  | ok d => rw [isN_eq (show isN d l = true from h)]
  | _ => cases h
def okL : Res D → List (List Nat) → Bool
  | .ok (.list ds), l => allN ds l
  | _, _ => false
theorem okL_eq {r : Res D} {l : List (List Nat)} (h : okL r l = true) : r = .ok (.list (l.map encN)) := by
  unfold okL at h
  split at h
  · rw [allN_eq h]
  · cases h
def okI : Res D → Int → Bool
  | .ok (.int i), j => decide (i = j)
  | _, _ => false
theorem okI_eq {r : Res D} {j : Int} (h : okI r j = true) : r = .ok (.int j) := by
  unfold okI at h
  split at h
  · rw [decide_eq_true_eq] at h; rw [h]
  · cases h
def okB : Res D → Bool → Bool
  | .ok (.bool i), j => i == j
  | _, _ => false
theorem okB_eq {r : Res D} {j : Bool} (h : okB r j = true) : r = .ok (.bool j) := by
  unfold okB at h
  split at h
  · rw [beq_iff_eq] at h; rw [h]
  · cases h
def resL : Res D → List (List Nat)
  | .ok (.list ds) => ds.map decN
  | _ => []
def resN : Res D → List Nat
  | .ok d => decN d
  | _ => []
def resI : Res D → Int
  | .ok (.int i) => i
  | _ => -1
def okT : Res D → List (List Nat) → Bool
  | .ok (.tuple ds), l => allN ds l
  | _, _ => false
theorem okT_eq {r : Res D} {l : List (List Nat)} (h : okT r l = true) : r = .ok (.tuple (l.map encN)) := by
  unfold okT at h
  split at h
  · rw [allN_eq h]
  · cases h

theorem all_chunks {α : Type} (f : α → Bool) (n : Nat) : ∀ (m : Nat) (l : List α), l.length ≤ n * m → (∀ k, k < m → ((l.drop (n * k)).take n).all f = true) → l.all f = true
  | 0, l, h, _ => by
    have : l = [] := List.eq_nil_of_length_eq_zero (by simpa using h)
    rw [this]; rfl
  | m + 1, l, h, H => by
    have h0 := H 0 (by omega)
    rw [Nat.mul_zero, List.drop_zero] at h0
    rw [← List.take_append_drop n l, List.all_append, h0, Bool.true_and]
    refine all_chunks f n m (l.drop n) (by rw [List.length_drop]; rw [Nat.mul_succ] at h; omega) fun k hk => ?_
    have := H (k + 1) (by omega)
    rw [Nat.mul_succ, Nat.add_comm, ← List.drop_drop] at this
    exact this

/-! ### the law's draws -/
def cellV (ns : List Int) (k : Nat) : Int := ns.getD k 0
theorem cell_at (ns : List Int) (k : Nat) : dn__law_cell_at [.list (ns.map .int), .int k] = .ok (.int (cellV ns k)) := by
  unfold dn__law_cell_at
  by_cases h : k < ns.length
  · have hx : (ns.map PyData.int)[k]? = some (.int ns[k]) := by simp [h]
    simp [env0, b__law_cell_at, b__law_cell_at_1, h, ixD_l hx, cellV]
  · simp [env0, b__law_cell_at, b__law_cell_at_1, h, cellV]
def mixedV (ns : List Int) (k : Nat) : Int :=
  let d := (cellV ns k + 7919 * k + 1) * 48271 % 2147483647
  (d * d + 7 * d + k) % 2147483629
theorem mod_small (x : Int) {m : Int} (h : 0 < m) (h2 : m ≤ 2147483647) : (x % m).natAbs < 18446744073709551616 := by
  have h3 := Int.emod_nonneg x (show m ≠ 0 by omega)
  have h4 := Int.emod_lt_of_pos x h
  omega
theorem mixed_at (ns : List Int) (k : Nat) (hk : k < 1000) : dn__law_mixed [.list (ns.map .int), .int k] = .ok (.int (mixedV ns k)) := by
  unfold dn__law_mixed
  have m1 := mod_small ((cellV ns k + 7919 * k + 1) * 48271) (m := 2147483647) (by decide) (by decide)
  simp [env0, b__law_mixed, b__law_mixed_1, cell_at, mulD_int, modD_int, m1, show ((k : Int)).natAbs < 18446744073709551616 by omega, mixedV]
theorem mixed_lo (ns : List Int) (k : Nat) : 0 ≤ mixedV ns k := Int.emod_nonneg _ (by decide)
theorem mixed_hi (ns : List Int) (k : Nat) : mixedV ns k < 2147483629 := Int.emod_lt_of_pos _ (by decide)

/-! ### plain functions -/
def nxt : List Nat → Nat
  | [] => 0
  | b :: _ => b
def eqN' (a : List Nat) : List Nat → Bool := List.rec (motive := fun _ => List Nat → Bool) (fun b => List.rec (motive := fun _ => Bool) true (fun _ _ _ => false) b) (fun x _ ih b => List.rec (motive := fun _ => Bool) false (fun y t _ => cond (Nat.beq x y) (ih t) false) b) a
def sumN (l : List Nat) : Nat := List.rec (motive := fun _ => Nat) 0 (fun a _ ih => a + ih) l
def consZ (a : Nat) (l : List Nat) : List Nat := cond (Nat.beq a 0) l (a :: l)
def strN (s : List Nat) : Nat → List (List Nat) := List.rec (motive := fun _ => Nat → List (List Nat)) (fun k => cond (Nat.beq k 0) [[]] [])
  (fun a r ih k => (List.range (a - nxt r + 1)).flatMap fun j => cond (Nat.ble (a - (nxt r + j)) k) ((ih (k - (a - (nxt r + j)))).map (consZ (nxt r + j))) []) s
def cwR (rc : List Nat) : List Nat → Nat := List.rec (motive := fun _ => List Nat → Nat) (fun s => cond (eqN' s []) 1 0) (fun k _ ih s => sumN ((strN s k).map ih)) rc
def linesN (n : Nat) : List Nat → Nat → Nat → List (List Nat) := Nat.rec (motive := fun _ => List Nat → Nat → Nat → List (List Nat)) (fun _ _ _ => [[]])
  (fun _ ih ab last m => (List.range (m + 1 - max last (nxt ab + 1))).flatMap fun j => (ih ab.tail (max last (nxt ab + 1) + j) m).map ((max last (nxt ab + 1) + j) :: ·)) n
def fillN (s : List Nat) : List Nat → Nat → List (List (List Nat)) := List.rec (motive := fun _ => List Nat → Nat → List (List (List Nat))) (fun _ _ => [[]])
  (fun a _ ih ab m => (linesN a ab 1 m).flatMap fun l => (ih l m).map (l :: ·)) s
def cntN (l : List Nat) (v : Nat) : Nat := List.rec (motive := fun _ => Nat) 0 (fun a _ ih => cond (Nat.beq a v) (ih + 1) ih) l
def contN (m : Nat) (f : List (List Nat)) : List Nat := (List.range m).map fun k => cntN f.flatten (k + 1)
def countsN (most : Nat) : Nat → List (List Nat) := Nat.rec (motive := fun _ => Nat → List (List Nat)) (fun n => cond (Nat.beq n 0) [[]] []) (fun _ ih n => (List.range (n + 1)).flatMap fun j => (ih (n - j)).map (j :: ·)) most
def cntL (F : List (List Nat)) (c : List Nat) : Nat := List.rec (motive := fun _ => Nat) 0 (fun a _ ih => cond (eqN' a c) (ih + 1) ih) F
def facN (n : Nat) : Nat := Nat.rec (motive := fun _ => Nat) 1 (fun k ih => (k + 1) * ih) n
def prodN (l : List Nat) : Nat := List.rec (motive := fun _ => Nat) 1 (fun a _ ih => a * ih) l
def belowN (s : List Nat) (c : Nat) : Nat := (s.filter fun r => Nat.blt c r).length
def hookN (s t : List Nat) : Nat := List.rec (motive := fun _ => Nat → Nat) (fun _ => 1) (fun a _ ih i => prodN ((List.range a).map fun c => a - c + belowN s c - i - 1) * ih (i + 1)) t 0
def hkN (s : List Nat) : Nat := facN (sumN s) / hookN s s
def rowN (n : Nat) : List Nat := cond (Nat.beq n 0) [] [n]
abbrev S6 : List (List Nat) := RSK.partsUpTo 6
abbrev S12 : List (List Nat) := RSK.partsUpTo 12
def memN (a : List Nat) (l : List (List Nat)) : Bool := l.any fun b => eqN' a b
def encFN (f : List (List Nat)) : D := .tuple (f.map encN)
def isFN : D → List (List Nat) → Bool
  | .tuple ds, l => allN ds l
  | _, _ => false
def allFN : List D → List (List (List Nat)) → Bool
  | [], [] => true
  | d :: ds, l :: ls => isFN d l && allFN ds ls
  | _, _ => false
def okLF : Res D → List (List (List Nat)) → Bool
  | .ok (.list ds), l => allFN ds l
  | _, _ => false
theorem isFN_eq {d : D} {l : List (List Nat)} (h : isFN d l = true) : d = encFN l := by
  cases d with
  | tuple ds =>
    unfold encFN
    rw [← allN_eq (show allN ds l = true from h)]
  | _ => cases h
theorem allFN_eq : ∀ {ds : List D} {l : List (List (List Nat))}, allFN ds l = true → ds = l.map encFN
  | [], [], _ => rfl
  | d :: ds, l :: ls, h => by
    rw [allFN, Bool.and_eq_true] at h
    rw [List.map_cons, ← allFN_eq h.2, isFN_eq h.1]
  | [], _ :: _, h => by cases h
  | _ :: _, [], h => by cases h
theorem okLF_eq {r : Res D} {l : List (List (List Nat))} (h : okLF r l = true) : r = .ok (.list (l.map encFN)) := by
  unfold okLF at h
  split at h
  · rw [allFN_eq h]
  · cases h

/-! ### lists of numbers -/
@[simp] theorem eqN_nn : eqN' [] [] = true := rfl
@[simp] theorem eqN_nc (y : Nat) (b : List Nat) : eqN' [] (y :: b) = false := rfl
@[simp] theorem eqN_cn (x : Nat) (a : List Nat) : eqN' (x :: a) [] = false := rfl
@[simp] theorem eqN_cc (x y : Nat) (a b : List Nat) : eqN' (x :: a) (y :: b) = cond (Nat.beq x y) (eqN' a b) false := rfl
theorem eqN_iff : ∀ a b : List Nat, eqN' a b = true ↔ a = b
  | [], [] => by simp
  | [], _ :: _ => by simp
  | _ :: _, [] => by simp
  | x :: a, y :: b => by
    rw [eqN_cc]
    by_cases h : x = y
    · subst h
      rw [Nat.beq_refl]
      simp [eqN_iff a b]
    · rw [show Nat.beq x y = false from by rw [← Bool.not_eq_true]; exact fun e => h (Nat.eq_of_beq_eq_true e)]
      simp [h]
@[simp] theorem sumN_nil : sumN [] = 0 := rfl
@[simp] theorem sumN_cons (a : Nat) (l : List Nat) : sumN (a :: l) = a + sumN l := rfl
theorem memN_iff {a : List Nat} {l : List (List Nat)} : memN a l = true ↔ a ∈ l := by
  unfold memN
  rw [List.any_eq_true]
  constructor
  · rintro ⟨b, hb, e⟩
    rw [(eqN_iff a b).mp e]; exact hb
  · intro h
    exact ⟨a, h, (eqN_iff a a).mpr rfl⟩
theorem rk_N (a : List Nat) : rk 1 (encN a) = true := by
  show allL (rk 0) (a.map fun (n : Nat) => (PyData.int (n : Int) : D)) = true
  rw [allL_eq, List.all_eq_true]
  intro d hd
  rw [List.mem_map] at hd
  obtain ⟨n, _, rfl⟩ := hd
  rfl
theorem all2_N (f : D → D → Bool) (hf : ∀ i j : Int, f (.int i) (.int j) = decide (i = j)) : ∀ a b : List Nat, all2 f (a.map fun (n : Nat) => (PyData.int (n : Int) : D)) (b.map fun (n : Nat) => (PyData.int (n : Int) : D)) = eqN' a b
  | [], [] => rfl
  | [], _ :: _ => rfl
  | _ :: _, [] => rfl
  | x :: a, y :: b => by
    show cond (f (.int x) (.int y)) (all2 f (a.map fun (n : Nat) => (PyData.int (n : Int) : D)) (b.map fun (n : Nat) => (PyData.int (n : Int) : D))) false = _
    rw [hf, all2_N f hf a b, eqN_cc]
    congr 1
    by_cases h : x = y
    · subst h; simp
    · have : ¬ ((x : Int) = (y : Int)) := by omega
      rw [decide_eq_false this]
      symm
      rw [← Bool.not_eq_true]; exact fun e => h (Nat.eq_of_beq_eq_true e)
theorem eqD_N (a b : List Nat) : eqD (encN a) (encN b) = .ok (.bool (eqN' a b)) := by
  unfold eqD
  rw [if_pos (show depOk (encN a) = true from rk_dp (rk_N a) (by decide))]
  congr 2
  exact all2_N (eqN 29) (fun i j => rfl) a b
theorem sum_cast : ∀ l : List Nat, (l.map fun (n : Nat) => (n : Int)).sum = (sumN l : Int)
  | [] => rfl
  | a :: l => by rw [List.map_cons, List.sum_cons, sum_cast l, sumN_cons]; simp
theorem sumD_N (a : List Nat) : sumD (encN a) = .ok (.int (sumN a : Int)) := by
  have e : (a.map fun (n : Nat) => (PyData.int (n : Int) : D)) = (a.map fun (n : Nat) => (n : Int)).map .int := by rw [List.map_map]; rfl
  show (match intsOf (a.map fun (n : Nat) => (PyData.int (n : Int) : D)) with | some ns => (Res.ok (.int ns.sum) : Res D) | none => .bad) = _
  rw [e, intsOf_map]
  show Res.ok (PyData.int _) = _
  rw [sum_cast]
theorem sumD_LN (a : List Nat) : sumD (.list (a.map fun (n : Nat) => (PyData.int (n : Int) : D))) = .ok (.int (sumN a : Int)) := sumD_N a
theorem lenD_N (a : List Nat) : lenD (encN a) = .ok (.int (a.length : Int)) := by unfold encN; rw [lenD_t, List.length_map]
theorem ixD_N {a : List Nat} {k : Nat} (h : k < a.length) : ixD (encN a) (.int (k : Int)) = .ok (.int (a.getD k 0 : Int)) := by
  refine ixD_t ?_
  rw [List.getElem?_map, List.getElem?_eq_getElem h, List.getD_eq_getElem?_getD, List.getElem?_eq_getElem h]
  rfl
theorem cut_last (xs : List D) : cutD xs none (some (-1)) = xs.dropLast := by
  unfold cutD
  have e1 : HT.sIx xs.length 0 none = 0 := rfl
  have e2 : HT.sIx xs.length xs.length (some (-1)) = xs.length - 1 := by
    unfold HT.sIx
    simp
    omega
  rw [e1, e2, List.drop_zero, Nat.sub_zero, List.dropLast_eq_take]
theorem neD_N (a b : List Nat) : neD (encN a) (encN b) = .ok (.bool (!eqN' a b)) := by
  unfold neD
  rw [if_pos (show depOk (encN a) = true from rk_dp (rk_N a) (by decide))]
  congr 3
  exact all2_N (eqN 29) (fun i j => rfl) a b
theorem slD_lastN (l : List Nat) (k : Nat) : slD none (some (-1)) (encN (l ++ [k])) = .ok (encN l) := by
  unfold encN
  rw [slD_t, cut_last, ← List.map_dropLast, List.dropLast_concat]
theorem ixD_lastN (l : List Nat) (k : Nat) : ixD (encN (l ++ [k])) (.int (-1)) = .ok (.int (k : Int)) := by
  unfold encN ixD L2.atI
  have e : L2.ixN (List.map (fun (n : Nat) => (PyData.int (n : Int) : D)) (l ++ [k])).length (-1) = some l.length := by
    rw [List.length_map, List.length_append]
    unfold L2.ixN
    simp
    omega
  simp only [e]
  simp
theorem encN_nil : encN [] = .tuple [] := rfl
/-! ### count_with -/
def OKc (rc : List Nat) : List Nat → Prop := List.rec (motive := fun _ => List Nat → Prop) (fun _ => True)
  (fun (k : Nat) _ ih s => dn_strips [encN s, .int (k : Int)] = .ok (.list ((strN s k).map encN)) ∧ (strN s k).length ≤ 1000000 ∧ ∀ t, t ∈ strN s k → ih t) rc
theorem cwR_nil (s : List Nat) : cwR [] s = cond (eqN' s []) 1 0 := rfl
theorem cwR_cons (k : Nat) (rc s : List Nat) : cwR (k :: rc) s = sumN ((strN s k).map (cwR rc)) := rfl
theorem OKc_cons {k : Nat} {rc s : List Nat} (h : OKc (k :: rc) s) : dn_strips [encN s, .int (k : Int)] = .ok (.list ((strN s k).map encN)) ∧ (strN s k).length ≤ 1000000 ∧ ∀ t, t ∈ strN s k → OKc rc t := h
theorem cw_go : ∀ (rc : List Nat) (n : Nat) (s : List Nat), OKc rc s → rc.length < n → dr_count_with n [encN s, encN rc.reverse] = .ok (.int (cwR rc s : Nat))
  | [], n + 1, s, _, _ => by
    show fnD N_count_with 2 (b_count_with (dr_count_with n)) [encN s, encN []] = _
    have e1 : eqD (encN []) (.tuple []) = .ok (.bool true) := eqD_N [] []
    have e2 : eqD (encN s) (.tuple []) = .ok (.bool (eqN' s [])) := eqD_N s []
    rw [cwR_nil]
    cases h : eqN' s []
    · rw [h] at e2
      simp only [env0, List.map_cons, List.map_nil, List.replicate_succ, List.replicate_zero, List.cons_append, List.nil_append, out_ok, out_bad, out_exc, xVar_def, xOwn_def, xC_def, xOp_def, xB_def, asB_bool, xChain_def, xAnd_def, xOr_def, xNot_def, xAndV_def, xOrV_def, xNotV_def, xNeg_def, negD_int, xNil_def, xCons_def, xTup_def, xLst_def, mkT_0, mkT_1, mkT_2, mkT_3, mkT_4, mkL_0, mkL_1, mkL_2, okLen_0, okLen_1, xCall_def, on1_def, on2_def, xSl_def, xPart_def, asI_int, xNoPart_def, xIt_def, xItems_def, itemsD_t, itemsD_l, enumD_t, xYes_def, sNext_def, sPass_def, sBreak_def, sCont_def, seqOut_next, seqOut_ret, seqOut_exc, seqOut_brk, seqOut_cont, seqOut_bad, sSeq_def, sKill_def, sRet_def, sIf_def, sAsg_name, yName_def, yTup_def, yCons_def, yNil_def, sNewOwn_def, sApp_def, sFor_def, forGo_nil, outRes_ret, outRes_next, outRes_exc, fnD_1, fnD_2, fnD_3, addD_int, subD_int, ltD_int, leD_int, gtD_int, geD_int, eqD_int, neD_int, lenD_t, lenD_l, tupleD_t, tupleD_l, listD_t, listD_l, isD_none, isNotD_none, isNoneD_none, isNoneD_int, slD_l1, slD_t1, lenD_F, lenD_W, slD_Fto, slD_Wto, slD_Ffrom, slD_Wfrom, slD_Ffrom1, slD_Wfrom1, itemsD_W, itemsD_F, enumD_W, enumD_F, tupleD_W, tupleD_F, ownAt_def, lk_nil, lk_zero, lk_succ, st_nil, st_zero, st_succ, kill_nil, kill_cons, Res.bind_ok, Res.bind_exc, Res.bind_bad, ↓reduceIte, Bool.false_eq_true, Bool.not_true, Bool.not_false, Option.bind_some, List.length_cons, List.length_nil, Nat.reduceAdd, Nat.reduceSub, Nat.reduceEqDiff, decide_eq_true_eq, b_count_with, e1, e2]
      rfl
    · rw [h] at e2
      simp only [env0, List.map_cons, List.map_nil, List.replicate_succ, List.replicate_zero, List.cons_append, List.nil_append, out_ok, out_bad, out_exc, xVar_def, xOwn_def, xC_def, xOp_def, xB_def, asB_bool, xChain_def, xAnd_def, xOr_def, xNot_def, xAndV_def, xOrV_def, xNotV_def, xNeg_def, negD_int, xNil_def, xCons_def, xTup_def, xLst_def, mkT_0, mkT_1, mkT_2, mkT_3, mkT_4, mkL_0, mkL_1, mkL_2, okLen_0, okLen_1, xCall_def, on1_def, on2_def, xSl_def, xPart_def, asI_int, xNoPart_def, xIt_def, xItems_def, itemsD_t, itemsD_l, enumD_t, xYes_def, sNext_def, sPass_def, sBreak_def, sCont_def, seqOut_next, seqOut_ret, seqOut_exc, seqOut_brk, seqOut_cont, seqOut_bad, sSeq_def, sKill_def, sRet_def, sIf_def, sAsg_name, yName_def, yTup_def, yCons_def, yNil_def, sNewOwn_def, sApp_def, sFor_def, forGo_nil, outRes_ret, outRes_next, outRes_exc, fnD_1, fnD_2, fnD_3, addD_int, subD_int, ltD_int, leD_int, gtD_int, geD_int, eqD_int, neD_int, lenD_t, lenD_l, tupleD_t, tupleD_l, listD_t, listD_l, isD_none, isNotD_none, isNoneD_none, isNoneD_int, slD_l1, slD_t1, lenD_F, lenD_W, slD_Fto, slD_Wto, slD_Ffrom, slD_Wfrom, slD_Ffrom1, slD_Wfrom1, itemsD_W, itemsD_F, enumD_W, enumD_F, tupleD_W, tupleD_F, ownAt_def, lk_nil, lk_zero, lk_succ, st_nil, st_zero, st_succ, kill_nil, kill_cons, Res.bind_ok, Res.bind_exc, Res.bind_bad, ↓reduceIte, Bool.false_eq_true, Bool.not_true, Bool.not_false, Option.bind_some, List.length_cons, List.length_nil, Nat.reduceAdd, Nat.reduceSub, Nat.reduceEqDiff, decide_eq_true_eq, b_count_with, e1, e2]
      rfl
  | k :: rc, n + 1, s, h, hn => by
    obtain ⟨h1, h2, h3⟩ := OKc_cons h
    show fnD N_count_with 2 (b_count_with (dr_count_with n)) [encN s, encN (k :: rc).reverse] = _
    rw [List.reverse_cons]
    have e1 : eqD (encN (rc.reverse ++ [k])) (.tuple []) = .ok (.bool false) := by
      have := eqD_N (rc.reverse ++ [k]) []
      rw [show eqN' (rc.reverse ++ [k]) [] = false from by cases rc.reverse <;> rfl] at this
      exact this
    have lc := xLc_map (fi := xItems (xCall dn_strips (xCons (xVar 0) (xCons (xOp ixD (xVar 1) (xNeg (xC (PyData.int 1)))) (xNil))))) (g := yName 2) (ft := xYes) (fe := xCall (dr_count_with n) (xCons (xVar 2) (xCons (xSl (xVar 1) (xNoPart) (xPart (xNeg (xC (PyData.int 1))))) (xNil)))) (vs := [2])
      (ρ := [some (.dat (encN s)), some (.dat (encN (rc.reverse ++ [k]))), none]) (xs := strN s k) encN (fun _ => true) (fun t => .int (cwR rc t : Nat)) (by
        have e2 : negD (.int 1) = .ok (.int (-1)) := rfl
        simp only [out_ok, out_bad, out_exc, xVar_def, xOwn_def, xC_def, xOp_def, xB_def, asB_bool, xChain_def, xAnd_def, xOr_def, xNot_def, xAndV_def, xOrV_def, xNotV_def, xNeg_def, negD_int, xNil_def, xCons_def, xTup_def, xLst_def, mkT_0, mkT_1, mkT_2, mkT_3, mkT_4, mkL_0, mkL_1, mkL_2, okLen_0, okLen_1, xCall_def, on1_def, on2_def, xSl_def, xPart_def, asI_int, xNoPart_def, xIt_def, xItems_def, itemsD_t, itemsD_l, enumD_t, xYes_def, sNext_def, sPass_def, sBreak_def, sCont_def, seqOut_next, seqOut_ret, seqOut_exc, seqOut_brk, seqOut_cont, seqOut_bad, sSeq_def, sKill_def, sRet_def, sIf_def, sAsg_name, yName_def, yTup_def, yCons_def, yNil_def, sNewOwn_def, sApp_def, sFor_def, forGo_nil, outRes_ret, outRes_next, outRes_exc, fnD_1, fnD_2, fnD_3, addD_int, subD_int, ltD_int, leD_int, gtD_int, geD_int, eqD_int, neD_int, lenD_t, lenD_l, tupleD_t, tupleD_l, listD_t, listD_l, isD_none, isNotD_none, isNoneD_none, isNoneD_int, slD_l1, slD_t1, lenD_F, lenD_W, slD_Fto, slD_Wto, slD_Ffrom, slD_Wfrom, slD_Ffrom1, slD_Wfrom1, itemsD_W, itemsD_F, enumD_W, enumD_F, tupleD_W, tupleD_F, ownAt_def, lk_nil, lk_zero, lk_succ, st_nil, st_zero, st_succ, kill_nil, kill_cons, Res.bind_ok, Res.bind_exc, Res.bind_bad, ↓reduceIte, Bool.false_eq_true, Bool.not_true, Bool.not_false, Option.bind_some, List.length_cons, List.length_nil, Nat.reduceAdd, Nat.reduceSub, Nat.reduceEqDiff, decide_eq_true_eq, e2, ixD_lastN, h1]) h2 (fun t ht => ⟨_, rfl, rfl, fun _ => by
        have e2 : negD (.int 1) = .ok (.int (-1)) := rfl
        have e3 : asI (.int (-1)) = .ok (some (-1)) := rfl
        have e4 : xNoPart [some (LV.dat (encN s)), some (LV.dat (encN (rc.reverse ++ [k]))), some (LV.dat (encN t))] = .ok none := rfl
        have e5 := cw_go rc n t (h3 t ht) (by simp at hn; omega)
        simp only [out_ok, out_bad, out_exc, xVar_def, xOwn_def, xC_def, xOp_def, xB_def, asB_bool, xChain_def, xAnd_def, xOr_def, xNot_def, xAndV_def, xOrV_def, xNotV_def, xNeg_def, negD_int, xNil_def, xCons_def, xTup_def, xLst_def, mkT_0, mkT_1, mkT_2, mkT_3, mkT_4, mkL_0, mkL_1, mkL_2, okLen_0, okLen_1, xCall_def, on1_def, on2_def, xSl_def, xPart_def, asI_int, xNoPart_def, xIt_def, xItems_def, itemsD_t, itemsD_l, enumD_t, xYes_def, sNext_def, sPass_def, sBreak_def, sCont_def, seqOut_next, seqOut_ret, seqOut_exc, seqOut_brk, seqOut_cont, seqOut_bad, sSeq_def, sKill_def, sRet_def, sIf_def, sAsg_name, yName_def, yTup_def, yCons_def, yNil_def, sNewOwn_def, sApp_def, sFor_def, forGo_nil, outRes_ret, outRes_next, outRes_exc, fnD_1, fnD_2, fnD_3, addD_int, subD_int, ltD_int, leD_int, gtD_int, geD_int, eqD_int, neD_int, lenD_t, lenD_l, tupleD_t, tupleD_l, listD_t, listD_l, isD_none, isNotD_none, isNoneD_none, isNoneD_int, slD_l1, slD_t1, lenD_F, lenD_W, slD_Fto, slD_Wto, slD_Ffrom, slD_Wfrom, slD_Ffrom1, slD_Wfrom1, itemsD_W, itemsD_F, enumD_W, enumD_F, tupleD_W, tupleD_F, ownAt_def, lk_nil, lk_zero, lk_succ, st_nil, st_zero, st_succ, kill_nil, kill_cons, Res.bind_ok, Res.bind_exc, Res.bind_bad, ↓reduceIte, Bool.false_eq_true, Bool.not_true, Bool.not_false, Option.bind_some, List.length_cons, List.length_nil, Nat.reduceAdd, Nat.reduceSub, Nat.reduceEqDiff, decide_eq_true_eq, xPart, e2, e3, e4, slD_lastN, e5]⟩)
    rw [List.filter_eq_self.mpr (fun _ _ => rfl), show ((strN s k).map fun t => (PyData.int (cwR rc t : Nat) : D)) = ((strN s k).map (cwR rc)).map fun (n : Nat) => (PyData.int (n : Int) : D) by rw [List.map_map]; rfl] at lc
    simp only [env0, List.map_cons, List.map_nil, List.replicate_succ, List.replicate_zero, List.cons_append, List.nil_append, out_ok, out_bad, out_exc, xVar_def, xOwn_def, xC_def, xOp_def, xB_def, asB_bool, xChain_def, xAnd_def, xOr_def, xNot_def, xAndV_def, xOrV_def, xNotV_def, xNeg_def, negD_int, xNil_def, xCons_def, xTup_def, xLst_def, mkT_0, mkT_1, mkT_2, mkT_3, mkT_4, mkL_0, mkL_1, mkL_2, okLen_0, okLen_1, xCall_def, on1_def, on2_def, xSl_def, xPart_def, asI_int, xNoPart_def, xIt_def, xItems_def, itemsD_t, itemsD_l, enumD_t, xYes_def, sNext_def, sPass_def, sBreak_def, sCont_def, seqOut_next, seqOut_ret, seqOut_exc, seqOut_brk, seqOut_cont, seqOut_bad, sSeq_def, sKill_def, sRet_def, sIf_def, sAsg_name, yName_def, yTup_def, yCons_def, yNil_def, sNewOwn_def, sApp_def, sFor_def, forGo_nil, outRes_ret, outRes_next, outRes_exc, fnD_1, fnD_2, fnD_3, addD_int, subD_int, ltD_int, leD_int, gtD_int, geD_int, eqD_int, neD_int, lenD_t, lenD_l, tupleD_t, tupleD_l, listD_t, listD_l, isD_none, isNotD_none, isNoneD_none, isNoneD_int, slD_l1, slD_t1, lenD_F, lenD_W, slD_Fto, slD_Wto, slD_Ffrom, slD_Wfrom, slD_Ffrom1, slD_Wfrom1, itemsD_W, itemsD_F, enumD_W, enumD_F, tupleD_W, tupleD_F, ownAt_def, lk_nil, lk_zero, lk_succ, st_nil, st_zero, st_succ, kill_nil, kill_cons, Res.bind_ok, Res.bind_exc, Res.bind_bad, ↓reduceIte, Bool.false_eq_true, Bool.not_true, Bool.not_false, Option.bind_some, List.length_cons, List.length_nil, Nat.reduceAdd, Nat.reduceSub, Nat.reduceEqDiff, decide_eq_true_eq, b_count_with, b_count_with_1, e1, lc, sumD_LN, cwR_cons]
theorem cw_at {rc s : List Nat} (h : OKc rc s) (hl : rc.length ≤ 13) : dn_count_with [encN s, encN rc.reverse] = .ok (.int (cwR rc s : Nat)) := cw_go rc 14 s h (by omega)

/-! ### what is checked case by case -/
def okF : Res Bool → Bool
  | .ok false => true
  | _ => false
theorem okF_eq {r : Res Bool} (h : okF r = true) : r = .ok false := by
  unfold okF at h
  split at h
  · rfl
  · cases h
def envF (x : Option LV) (s : List Nat) : DEnv := [x, none, none, none, none, none, none, none, none, none, none, none, none, none, some (.dat (encN s))]
abbrev tA : DEnv → Res Bool := xB (xOp neD (xCall dn_count_with (xCons (xVar 14) (xCons (xOp mulD (xTup (xCons (xC (PyData.int 1)) (xNil))) (xCall (on1 sumD) (xCons (xVar 14) (xNil)))) (xNil)))) (xCall dn_count_of (xCons (xVar 14) (xNil))))
abbrev tB : DEnv → Res Bool := xB (xOp ltD (xCall dn_count_upto (xCons (xVar 14) (xCons (xCall (on1 lenD) (xCons (xVar 14) (xNil))) (xNil)))) (xC (PyData.int 1)))
abbrev t2 : DEnv → Res Bool := xOr (xB (xOp ltD (xCall dn_count_upto (xCons (xVar 14) (xCons (xC (PyData.int 12)) (xNil)))) (xCall dn_count_upto (xCons (xVar 14) (xCons (xC (PyData.int 11)) (xNil)))))) (xB (xOp neD (xCall dn_count_upto (xCons (xVar 14) (xCons (xCall (on2 max2D) (xCons (xC (PyData.int 0)) (xCons (xOp subD (xCall (on1 lenD) (xCons (xVar 14) (xNil))) (xC (PyData.int 1))) (xNil)))) (xNil)))) (xCall (on1 intD) (xCons (xOp eqD (xVar 14) (xTup (xNil))) (xNil)))))
abbrev t3 : DEnv → Res Bool := xOr (xB (xOp neD (xCall dn_count_upto (xCons (xVar 14) (xCons (xC (PyData.int 1)) (xNil)))) (xCall (on1 intD) (xCons (xOp ltD (xCall (on1 lenD) (xCons (xVar 14) (xNil))) (xC (PyData.int 2))) (xNil))))) (xB (xOp neD (xCall dn_count_upto (xCons (xCall dn_turned (xCons (xVar 14) (xNil))) (xCons (xC (PyData.int 1)) (xNil)))) (xCall (on1 intD) (xCons (xOrV (xOp eqD (xVar 14) (xTup (xNil))) (xOp eqD (xCall (on1 max1D) (xCons (xVar 14) (xNil))) (xC (PyData.int 1)))) (xNil)))))
abbrev t4 : DEnv → Res Bool := xB (xOp neD (xCall dn_count_with (xCons (xOp mulD (xTup (xCons (xCall (on1 sumD) (xCons (xVar 14) (xNil))) (xNil))) (xCall (on1 intD) (xCons (xOp neD (xVar 14) (xTup (xNil))) (xNil)))) (xCons (xVar 14) (xNil)))) (xC (PyData.int 1)))
def farT (x : Option LV) (s : List Nat) : Bool := okF (tB (envF x s)) && okF (t2 (envF x s)) && okF (t3 (envF x s))
def one (l : List (List Nat)) (s : List Nat) : Bool := match l with
  | [t] => eqN' t s
  | _ => false
def chkS (s : List Nat) : Bool := ((List.range 7).all fun k => okL (dn_strips [encN s, .int (k : Nat)]) (strN s k) && Nat.ble (strN s k).length 1000 && (strN s k).all fun t => memN t S6) && one (strN s 0) s && Nat.ble (sumN s) 6
def chkC (n m : Nat) : Bool := okL (dn__law_all_counts [.int (n : Nat), .int (m : Nat)]) (countsN m n) && (countsN m n).all fun c => Nat.ble c.length 4 && c.all fun k => Nat.ble k 6
def chkF (s : List Nat) (m : Nat) : Bool := okLF (dn__law_all_fillings [encN s, .int (m : Nat)]) (fillN s [] m) && okI (dn_count_upto [encN s, .int (m : Nat)]) ((fillN s [] m).length : Nat) && Nat.beq (sumN ((countsN m (sumN s)).map fun c => cwR c.reverse s)) (fillN s [] m).length
  && ((fillN s [] m).all fun f => Nat.ble f.flatten.length 6) && (countsN m (sumN s)).all fun c => Nat.beq (cwR c.reverse s) (cntL ((fillN s [] m).map (contN m)) c) && Nat.beq (cwR c s) (cntL ((fillN s [] m).map (contN m)) c)
def chkG (s : List Nat) : Bool := okI (dn_count_of [encN s]) (hkN s : Nat) && okL (dn_strips [encN s, .int 1]) (strN s 1) && Nat.ble (strN s 1).length 1000 && ((strN s 1).all fun t => memN t S12 && Nat.beq (sumN t + 1) (sumN s)) && (eqN' s [] || (Nat.beq (sumN ((strN s 1).map hkN)) (hkN s) && Nat.ble 1 (sumN s)))
  && Nat.ble s.length 12 && Nat.ble (sumN s) 12
def chkR (n : Nat) : Bool := (List.range (n + 1)).all fun k => okL (dn_strips [encN (rowN n), .int (k : Nat)]) [rowN (n - k)] && one (strN (rowN n) k) (rowN (n - k))
def shp (n : Nat) : List (List Nat) := S12.filter fun s => Nat.beq (sumN s) n
def chkP (n : Nat) : Bool := okL (dn__law_shapes [.int (n : Nat), .int 12]) (shp n) && Nat.ble 1 (shp n).length
def chkQ (n : Nat) : Bool := okL (dn__law_shapes [.int (n : Nat), .int 6]) (shp n) && (shp n).all fun s => memN s S6
theorem cS_0 : ((S6.drop 0).take 5).all chkS = true := by decide +kernel
theorem cS_1 : ((S6.drop 5).take 5).all chkS = true := by decide +kernel
theorem cS_2 : ((S6.drop 10).take 5).all chkS = true := by decide +kernel
theorem cS_3 : ((S6.drop 15).take 5).all chkS = true := by decide +kernel
theorem cS_4 : ((S6.drop 20).take 5).all chkS = true := by decide +kernel
theorem cS_5 : ((S6.drop 25).take 5).all chkS = true := by decide +kernel
theorem cS_all : S6.all chkS = true := by
  refine all_chunks chkS 5 6 _ (by decide +kernel) fun k hk => ?_
  match k, hk with
  | 0, _ => exact cS_0
  | 1, _ => exact cS_1
  | 2, _ => exact cS_2
  | 3, _ => exact cS_3
  | 4, _ => exact cS_4
  | 5, _ => exact cS_5
  | k + 6, h => exact absurd h (by omega)
theorem cC_all : (List.range 7).all (fun n => (List.range 5).all fun m => chkC n m) = true := by decide +kernel
theorem cF0_0 : ((S6.drop 0).take 30).all (fun s => chkF s 0) = true := by decide +kernel
theorem cF0_all : S6.all (fun s => chkF s 0) = true := by
  refine all_chunks (fun s => chkF s 0) 30 1 _ (by decide +kernel) fun k hk => ?_
  match k, hk with
  | 0, _ => exact cF0_0
  | k + 1, h => exact absurd h (by omega)
theorem cF1_0 : ((S6.drop 0).take 30).all (fun s => chkF s 1) = true := by decide +kernel
theorem cF1_all : S6.all (fun s => chkF s 1) = true := by
  refine all_chunks (fun s => chkF s 1) 30 1 _ (by decide +kernel) fun k hk => ?_
  match k, hk with
  | 0, _ => exact cF1_0
  | k + 1, h => exact absurd h (by omega)
theorem cF2_0 : ((S6.drop 0).take 30).all (fun s => chkF s 2) = true := by decide +kernel
theorem cF2_all : S6.all (fun s => chkF s 2) = true := by
  refine all_chunks (fun s => chkF s 2) 30 1 _ (by decide +kernel) fun k hk => ?_
  match k, hk with
  | 0, _ => exact cF2_0
  | k + 1, h => exact absurd h (by omega)
theorem cF3_0 : ((S6.drop 0).take 5).all (fun s => chkF s 3) = true := by decide +kernel
theorem cF3_1 : ((S6.drop 5).take 5).all (fun s => chkF s 3) = true := by decide +kernel
theorem cF3_2 : ((S6.drop 10).take 5).all (fun s => chkF s 3) = true := by decide +kernel
theorem cF3_3 : ((S6.drop 15).take 5).all (fun s => chkF s 3) = true := by decide +kernel
theorem cF3_4 : ((S6.drop 20).take 5).all (fun s => chkF s 3) = true := by decide +kernel
theorem cF3_5 : ((S6.drop 25).take 5).all (fun s => chkF s 3) = true := by decide +kernel
theorem cF3_all : S6.all (fun s => chkF s 3) = true := by
  refine all_chunks (fun s => chkF s 3) 5 6 _ (by decide +kernel) fun k hk => ?_
  match k, hk with
  | 0, _ => exact cF3_0
  | 1, _ => exact cF3_1
  | 2, _ => exact cF3_2
  | 3, _ => exact cF3_3
  | 4, _ => exact cF3_4
  | 5, _ => exact cF3_5
  | k + 6, h => exact absurd h (by omega)
theorem cF4_0 : ((S6.drop 0).take 5).all (fun s => chkF s 4) = true := by decide +kernel
theorem cF4_1 : ((S6.drop 5).take 5).all (fun s => chkF s 4) = true := by decide +kernel
theorem cF4_2 : ((S6.drop 10).take 5).all (fun s => chkF s 4) = true := by decide +kernel
theorem cF4_3 : ((S6.drop 15).take 5).all (fun s => chkF s 4) = true := by decide +kernel
theorem cF4_4 : ((S6.drop 20).take 5).all (fun s => chkF s 4) = true := by decide +kernel
theorem cF4_5 : ((S6.drop 25).take 5).all (fun s => chkF s 4) = true := by decide +kernel
theorem cF4_all : S6.all (fun s => chkF s 4) = true := by
  refine all_chunks (fun s => chkF s 4) 5 6 _ (by decide +kernel) fun k hk => ?_
  match k, hk with
  | 0, _ => exact cF4_0
  | 1, _ => exact cF4_1
  | 2, _ => exact cF4_2
  | 3, _ => exact cF4_3
  | 4, _ => exact cF4_4
  | 5, _ => exact cF4_5
  | k + 6, h => exact absurd h (by omega)
theorem cG_0 : ((S12.drop 0).take 16).all chkG = true := by decide +kernel
theorem cG_1 : ((S12.drop 16).take 16).all chkG = true := by decide +kernel
theorem cG_2 : ((S12.drop 32).take 16).all chkG = true := by decide +kernel
theorem cG_3 : ((S12.drop 48).take 16).all chkG = true := by decide +kernel
theorem cG_4 : ((S12.drop 64).take 16).all chkG = true := by decide +kernel
theorem cG_5 : ((S12.drop 80).take 16).all chkG = true := by decide +kernel
theorem cG_6 : ((S12.drop 96).take 16).all chkG = true := by decide +kernel
theorem cG_7 : ((S12.drop 112).take 16).all chkG = true := by decide +kernel
theorem cG_8 : ((S12.drop 128).take 16).all chkG = true := by decide +kernel
theorem cG_9 : ((S12.drop 144).take 16).all chkG = true := by decide +kernel
theorem cG_10 : ((S12.drop 160).take 16).all chkG = true := by decide +kernel
theorem cG_11 : ((S12.drop 176).take 16).all chkG = true := by decide +kernel
theorem cG_12 : ((S12.drop 192).take 16).all chkG = true := by decide +kernel
theorem cG_13 : ((S12.drop 208).take 16).all chkG = true := by decide +kernel
theorem cG_14 : ((S12.drop 224).take 16).all chkG = true := by decide +kernel
theorem cG_15 : ((S12.drop 240).take 16).all chkG = true := by decide +kernel
theorem cG_16 : ((S12.drop 256).take 16).all chkG = true := by decide +kernel
theorem cG_all : S12.all chkG = true := by
  refine all_chunks chkG 16 17 _ (by decide +kernel) fun k hk => ?_
  match k, hk with
  | 0, _ => exact cG_0
  | 1, _ => exact cG_1
  | 2, _ => exact cG_2
  | 3, _ => exact cG_3
  | 4, _ => exact cG_4
  | 5, _ => exact cG_5
  | 6, _ => exact cG_6
  | 7, _ => exact cG_7
  | 8, _ => exact cG_8
  | 9, _ => exact cG_9
  | 10, _ => exact cG_10
  | 11, _ => exact cG_11
  | 12, _ => exact cG_12
  | 13, _ => exact cG_13
  | 14, _ => exact cG_14
  | 15, _ => exact cG_15
  | 16, _ => exact cG_16
  | k + 17, h => exact absurd h (by omega)
theorem cR_all : (List.range 13).all chkR = true := by decide +kernel
theorem cP_all : (List.range 13).all chkP = true := by decide +kernel
theorem cQ_all : (List.range 7).all chkQ = true := by decide +kernel
theorem cT_0 (x : Option LV) : ((S12.drop 0).take 16).all (farT x) = true := by kernel_rfl
theorem cT_1 (x : Option LV) : ((S12.drop 16).take 16).all (farT x) = true := by kernel_rfl
theorem cT_2 (x : Option LV) : ((S12.drop 32).take 16).all (farT x) = true := by kernel_rfl
theorem cT_3 (x : Option LV) : ((S12.drop 48).take 16).all (farT x) = true := by kernel_rfl
theorem cT_4 (x : Option LV) : ((S12.drop 64).take 16).all (farT x) = true := by kernel_rfl
theorem cT_5 (x : Option LV) : ((S12.drop 80).take 16).all (farT x) = true := by kernel_rfl
theorem cT_6 (x : Option LV) : ((S12.drop 96).take 16).all (farT x) = true := by kernel_rfl
theorem cT_7 (x : Option LV) : ((S12.drop 112).take 16).all (farT x) = true := by kernel_rfl
theorem cT_8 (x : Option LV) : ((S12.drop 128).take 16).all (farT x) = true := by kernel_rfl
theorem cT_9 (x : Option LV) : ((S12.drop 144).take 16).all (farT x) = true := by kernel_rfl
theorem cT_10 (x : Option LV) : ((S12.drop 160).take 16).all (farT x) = true := by kernel_rfl
theorem cT_11 (x : Option LV) : ((S12.drop 176).take 16).all (farT x) = true := by kernel_rfl
theorem cT_12 (x : Option LV) : ((S12.drop 192).take 16).all (farT x) = true := by kernel_rfl
theorem cT_13 (x : Option LV) : ((S12.drop 208).take 16).all (farT x) = true := by kernel_rfl
theorem cT_14 (x : Option LV) : ((S12.drop 224).take 16).all (farT x) = true := by kernel_rfl
theorem cT_15 (x : Option LV) : ((S12.drop 240).take 16).all (farT x) = true := by kernel_rfl
theorem cT_16 (x : Option LV) : ((S12.drop 256).take 16).all (farT x) = true := by kernel_rfl
theorem cT_all (x : Option LV) : S12.all (farT x) = true := by
  refine all_chunks (farT x) 16 17 _ (by decide +kernel) fun k hk => ?_
  match k, hk with
  | 0, _ => exact cT_0 x
  | 1, _ => exact cT_1 x
  | 2, _ => exact cT_2 x
  | 3, _ => exact cT_3 x
  | 4, _ => exact cT_4 x
  | 5, _ => exact cT_5 x
  | 6, _ => exact cT_6 x
  | 7, _ => exact cT_7 x
  | 8, _ => exact cT_8 x
  | 9, _ => exact cT_9 x
  | 10, _ => exact cT_10 x
  | 11, _ => exact cT_11 x
  | 12, _ => exact cT_12 x
  | 13, _ => exact cT_13 x
  | 14, _ => exact cT_14 x
  | 15, _ => exact cT_15 x
  | 16, _ => exact cT_16 x
  | k + 17, h => exact absurd h (by omega)

/-! ### what the checks tell -/
theorem one_eq {l : List (List Nat)} {s : List Nat} (h : one l s = true) : l = [s] := by
  unfold one at h
  split at h
  · rw [(eqN_iff _ _).mp h]
  · cases h
structure FS (s : List Nat) : Prop where
  str : ∀ k : Nat, k ≤ 6 → dn_strips [encN s, .int (k : Int)] = .ok (.list ((strN s k).map encN)) ∧ (strN s k).length ≤ 1000000 ∧ ∀ t, t ∈ strN s k → t ∈ S6
  zero : strN s 0 = [s]
  sum : sumN s ≤ 6
theorem fS {s : List Nat} (hs : s ∈ S6) : FS s := by
  have h := List.all_eq_true.mp cS_all s hs
  unfold chkS at h
  simp only [Bool.and_eq_true, List.all_eq_true] at h
  obtain ⟨⟨h1, h2⟩, h3⟩ := h
  refine ⟨fun k hk => ?_, one_eq h2, Nat.le_of_ble_eq_true h3⟩
  obtain ⟨⟨a, b⟩, c⟩ := h1 k (by simp; omega)
  exact ⟨okL_eq a, Nat.le_trans (Nat.le_of_ble_eq_true b) (by decide), fun t ht => memN_iff.mp (c t ht)⟩
theorem okc6 : ∀ (rc s : List Nat), s ∈ S6 → (∀ k, k ∈ rc → k ≤ 6) → OKc rc s
  | [], _, _, _ => trivial
  | k :: rc, s, hs, h => by
    obtain ⟨a, b, c⟩ := (fS hs).str k (h k (by simp))
    exact ⟨a, b, fun t ht => okc6 rc t (c t ht) fun j hj => h j (by simp [hj])⟩
theorem cw6 {c s : List Nat} (hs : s ∈ S6) (hc : ∀ k, k ∈ c → k ≤ 6) (hl : c.length ≤ 13) : dn_count_with [encN s, encN c] = .ok (.int (cwR c.reverse s : Nat)) := by
  have := cw_at (okc6 c.reverse s hs fun k hk => hc k (by simpa using hk)) (by simpa using hl)
  rwa [List.reverse_reverse] at this
theorem cw_z1 {rc s : List Nat} (hs : s ∈ S6) : cwR (0 :: rc) s = cwR rc s := by
  rw [cwR_cons, (fS hs).zero]
  simp
theorem cw_z2 : ∀ (rc s : List Nat), s ∈ S6 → (∀ k, k ∈ rc → k ≤ 6) → cwR (rc ++ [0]) s = cwR rc s
  | [], s, hs, _ => cw_z1 hs
  | k :: rc, s, hs, h => by
    rw [List.cons_append, cwR_cons, cwR_cons]
    congr 1
    apply List.map_congr_left
    intro t ht
    exact cw_z2 rc t (((fS hs).str k (h k (by simp))).2.2 t ht) fun j hj => h j (by simp [hj])
structure FC (n m : Nat) : Prop where
  eq : dn__law_all_counts [.int (n : Int), .int (m : Int)] = .ok (.list ((countsN m n).map encN))
  le : ∀ c, c ∈ countsN m n → c.length ≤ 4 ∧ ∀ k, k ∈ c → k ≤ 6
theorem fC {n m : Nat} (hn : n ≤ 6) (hm : m ≤ 4) : FC n m := by
  have h := List.all_eq_true.mp (List.all_eq_true.mp cC_all n (by simp; omega)) m (by simp; omega)
  unfold chkC at h
  simp only [Bool.and_eq_true, List.all_eq_true] at h
  exact ⟨okL_eq h.1, fun c hc => ⟨Nat.le_of_ble_eq_true (h.2 c hc).1, fun k hk => Nat.le_of_ble_eq_true ((h.2 c hc).2 k hk)⟩⟩
structure FF (s : List Nat) (m : Nat) : Prop where
  eq : dn__law_all_fillings [encN s, .int (m : Int)] = .ok (.list ((fillN s [] m).map encFN))
  up : dn_count_upto [encN s, .int (m : Int)] = .ok (.int ((fillN s [] m).length : Nat))
  sum : sumN ((countsN m (sumN s)).map fun c => cwR c.reverse s) = (fillN s [] m).length
  le : ∀ f, f ∈ fillN s [] m → f.flatten.length ≤ 6
  cnt : ∀ c, c ∈ countsN m (sumN s) → cwR c.reverse s = cntL ((fillN s [] m).map (contN m)) c ∧ cwR c s = cntL ((fillN s [] m).map (contN m)) c
theorem ff_of {s : List Nat} {m : Nat} (h : chkF s m = true) : FF s m := by
  unfold chkF at h
  simp only [Bool.and_eq_true, List.all_eq_true] at h
  obtain ⟨⟨⟨⟨h1, h2⟩, h3⟩, h4⟩, h5⟩ := h
  exact ⟨okLF_eq h1, okI_eq h2, Nat.eq_of_beq_eq_true h3, fun f hf => Nat.le_of_ble_eq_true (h4 f hf), fun c hc => ⟨Nat.eq_of_beq_eq_true (h5 c hc).1, Nat.eq_of_beq_eq_true (h5 c hc).2⟩⟩
theorem fF {s : List Nat} {m : Nat} (hs : s ∈ S6) (hm : m ≤ 4) : FF s m := by
  refine ff_of ?_
  match m, hm with
  | 0, _ => exact List.all_eq_true.mp cF0_all s hs
  | 1, _ => exact List.all_eq_true.mp cF1_all s hs
  | 2, _ => exact List.all_eq_true.mp cF2_all s hs
  | 3, _ => exact List.all_eq_true.mp cF3_all s hs
  | 4, _ => exact List.all_eq_true.mp cF4_all s hs
structure FG (s : List Nat) : Prop where
  of : dn_count_of [encN s] = .ok (.int (hkN s : Nat))
  str : dn_strips [encN s, .int 1] = .ok (.list ((strN s 1).map encN))
  few : (strN s 1).length ≤ 1000000
  mem : ∀ t, t ∈ strN s 1 → t ∈ S12 ∧ sumN t + 1 = sumN s
  sum : s ≠ [] → sumN ((strN s 1).map hkN) = hkN s ∧ 1 ≤ sumN s
  len : s.length ≤ 12
  le : sumN s ≤ 12
theorem fG {s : List Nat} (hs : s ∈ S12) : FG s := by
  have h := List.all_eq_true.mp cG_all s hs
  unfold chkG at h
  simp only [Bool.and_eq_true, Bool.or_eq_true, List.all_eq_true] at h
  obtain ⟨⟨⟨⟨⟨⟨h1, h2⟩, h3⟩, h4⟩, h5⟩, h6⟩, h7⟩ := h
  refine ⟨okI_eq h1, okL_eq h2, Nat.le_trans (Nat.le_of_ble_eq_true h3) (by decide), fun t ht => ⟨memN_iff.mp (h4 t ht).1, Nat.eq_of_beq_eq_true (h4 t ht).2⟩, fun hn => ?_, Nat.le_of_ble_eq_true h6, Nat.le_of_ble_eq_true h7⟩
  rcases h5 with h5 | h5
  · exact absurd ((eqN_iff _ _).mp h5) hn
  · exact ⟨Nat.eq_of_beq_eq_true h5.1, Nat.le_of_ble_eq_true h5.2⟩
theorem okc1 : ∀ (n : Nat) (s : List Nat), s ∈ S12 → OKc (List.replicate n 1) s
  | 0, _, _ => trivial
  | n + 1, s, hs => ⟨(fG hs).str, (fG hs).few, fun t ht => okc1 n t ((fG hs).mem t ht).1⟩
theorem cw1 : ∀ (n : Nat) (s : List Nat), s ∈ S12 → sumN s = n → cwR (List.replicate n 1) s = hkN s
  | 0, s, hs, h => by
    by_cases hn : s = []
    · subst hn; decide +kernel
    · have := ((fG hs).sum hn).2
      omega
  | n + 1, s, hs, h => by
    have hn : s ≠ [] := by rintro rfl; cases h
    rw [List.replicate_succ, cwR_cons, ← ((fG hs).sum hn).1]
    congr 1
    apply List.map_congr_left
    intro t ht
    obtain ⟨a, b⟩ := (fG hs).mem t ht
    exact cw1 n t a (by omega)
theorem fR {n k : Nat} (hn : n ≤ 12) (hk : k ≤ n) : dn_strips [encN (rowN n), .int (k : Int)] = .ok (.list [encN (rowN (n - k))]) ∧ strN (rowN n) k = [rowN (n - k)] := by
  have h := List.all_eq_true.mp cR_all n (by simp; omega)
  unfold chkR at h
  have h := List.all_eq_true.mp h k (by simp; omega)
  rw [Bool.and_eq_true] at h
  exact ⟨okL_eq h.1, one_eq h.2⟩
theorem okcR : ∀ (rc : List Nat) (n : Nat), n ≤ 12 → sumN rc = n → OKc rc (rowN n) ∧ cwR rc (rowN n) = 1
  | [], n, _, h => by
    subst h
    exact ⟨trivial, rfl⟩
  | k :: rc, n, hn, h => by
    rw [sumN_cons] at h
    obtain ⟨a, b⟩ := fR hn (show k ≤ n by omega)
    obtain ⟨c, d⟩ := okcR rc (n - k) (by omega) (by omega)
    refine ⟨⟨by rw [b]; exact a, by rw [b]; exact Nat.le_add_left 1 999999, fun t ht => ?_⟩, ?_⟩
    · rw [b] at ht
      rw [List.mem_singleton.mp ht]
      exact c
    · rw [cwR_cons, b, List.map_cons, List.map_nil, sumN_cons, d]
      rfl
theorem sumN_append : ∀ a b : List Nat, sumN (a ++ b) = sumN a + sumN b
  | [], b => by simp
  | x :: a, b => by rw [List.cons_append, sumN_cons, sumN_cons, sumN_append a b]; omega
theorem sumN_rev : ∀ a : List Nat, sumN a.reverse = sumN a
  | [] => rfl
  | x :: a => by rw [List.reverse_cons, sumN_append, sumN_rev a, sumN_cons, sumN_cons, sumN_nil]; omega
/-! ### the drawn shapes -/
structure FP (r : Nat) : Prop where
  eq : dn__law_shapes [.int (r : Int), .int 12] = .ok (.list ((shp r).map encN))
  ne : 1 ≤ (shp r).length
theorem fP {r : Nat} (h : r ≤ 12) : FP r := by
  have h := List.all_eq_true.mp cP_all r (by simp; omega)
  unfold chkP at h
  rw [Bool.and_eq_true] at h
  exact ⟨okL_eq h.1, Nat.le_of_ble_eq_true h.2⟩
theorem fQ {r : Nat} (h : r ≤ 6) : dn__law_shapes [.int (r : Int), .int 6] = .ok (.list ((shp r).map encN)) ∧ ∀ s, s ∈ shp r → s ∈ S6 := by
  have h := List.all_eq_true.mp cQ_all r (by simp; omega)
  unfold chkQ at h
  rw [Bool.and_eq_true, List.all_eq_true] at h
  exact ⟨okL_eq h.1, fun s hs => memN_iff.mp (h.2 s hs)⟩
theorem shp_mem {r : Nat} {s : List Nat} (h : s ∈ shp r) : s ∈ S12 := (List.mem_filter.mp h).1
theorem pick {α : Type} (l : List α) (x : Int) (hl : 0 < l.length) : ∃ k : Nat, x % (l.length : Int) = (k : Int) ∧ k < l.length := by
  have k0 := Int.emod_nonneg x (show (l.length : Int) ≠ 0 by omega)
  have k1 := Int.emod_lt_of_pos x (show (0 : Int) < (l.length : Int) by omega)
  obtain ⟨k, hk⟩ := Int.eq_ofNat_of_zero_le k0
  exact ⟨k, hk, by omega⟩
theorem some12 (m : Int) : ∃ s, s ∈ S12 ∧ dn__law_some_shape [.int m, .int 12] = .ok (encN s) := by
  have hr0 := Int.emod_nonneg m (show (12 : Int) + 1 ≠ 0 by omega)
  have hr1 := Int.emod_lt_of_pos m (show (0 : Int) < 12 + 1 by omega)
  obtain ⟨r, hr⟩ := Int.eq_ofNat_of_zero_le hr0
  have F := fP (show r ≤ 12 by omega)
  obtain ⟨k, hk, hkl⟩ := pick (shp r) (m / 16) F.ne
  refine ⟨(shp r)[k], shp_mem (List.getElem_mem hkl), ?_⟩
  have q1 : fdivD (.int m) (.int 16) = .ok (.int (m / 16)) := fdivD_int (by decide) (by decide)
  have q2 : modD (.int m) (.int (12 + 1)) = .ok (.int (r : Int)) := by rw [modD_int (by omega), hr]
  have q3 : modD (.int (m / 16)) (.int ((shp r).length : Int)) = .ok (.int (k : Int)) := by rw [modD_int (by have := F.ne; omega), hk]
  have q4 : ixD (.list ((shp r).map encN)) (.int (k : Int)) = .ok (encN (shp r)[k]) := ixD_l (by rw [List.getElem?_map, List.getElem?_eq_getElem hkl]; rfl)
  unfold dn__law_some_shape
  simp only [env0, List.map_cons, List.map_nil, List.replicate_succ, List.replicate_zero, List.cons_append, List.nil_append, out_ok, out_bad, out_exc, xVar_def, xOwn_def, xC_def, xOp_def, xB_def, asB_bool, xChain_def, xAnd_def, xOr_def, xNot_def, xAndV_def, xOrV_def, xNotV_def, xNeg_def, negD_int, xNil_def, xCons_def, xTup_def, xLst_def, mkT_0, mkT_1, mkT_2, mkT_3, mkT_4, mkL_0, mkL_1, mkL_2, okLen_0, okLen_1, xCall_def, on1_def, on2_def, xSl_def, xPart_def, asI_int, xNoPart_def, xIt_def, xItems_def, itemsD_t, itemsD_l, enumD_t, xYes_def, sNext_def, sPass_def, sBreak_def, sCont_def, seqOut_next, seqOut_ret, seqOut_exc, seqOut_brk, seqOut_cont, seqOut_bad, sSeq_def, sKill_def, sRet_def, sIf_def, sAsg_name, yName_def, yTup_def, yCons_def, yNil_def, sNewOwn_def, sApp_def, sFor_def, forGo_nil, outRes_ret, outRes_next, outRes_exc, fnD_1, fnD_2, fnD_3, addD_int, subD_int, ltD_int, leD_int, gtD_int, geD_int, eqD_int, neD_int, lenD_t, lenD_l, tupleD_t, tupleD_l, listD_t, listD_l, isD_none, isNotD_none, isNoneD_none, isNoneD_int, slD_l1, slD_t1, lenD_F, lenD_W, slD_Fto, slD_Wto, slD_Ffrom, slD_Wfrom, slD_Ffrom1, slD_Wfrom1, itemsD_W, itemsD_F, enumD_W, enumD_F, tupleD_W, tupleD_F, ownAt_def, lk_nil, lk_zero, lk_succ, st_nil, st_zero, st_succ, kill_nil, kill_cons, Res.bind_ok, Res.bind_exc, Res.bind_bad, ↓reduceIte, Bool.false_eq_true, Bool.not_true, Bool.not_false, Option.bind_some, List.length_cons, List.length_nil, Nat.reduceAdd, Nat.reduceSub, Nat.reduceEqDiff, decide_eq_true_eq, b__law_some_shape, b__law_some_shape_1, q1, q2, F.eq, List.length_map, q3, q4]
theorem some6 (m : Int) : ∃ s, s ∈ S6 ∧ dn__law_some_shape [.int m, .int 6] = .ok (encN s) := by
  have hr0 := Int.emod_nonneg m (show (6 : Int) + 1 ≠ 0 by omega)
  have hr1 := Int.emod_lt_of_pos m (show (0 : Int) < 6 + 1 by omega)
  obtain ⟨r, hr⟩ := Int.eq_ofNat_of_zero_le hr0
  have F := fP (show r ≤ 12 by omega)
  obtain ⟨g1, g2⟩ := fQ (show r ≤ 6 by omega)
  obtain ⟨k, hk, hkl⟩ := pick (shp r) (m / 16) F.ne
  refine ⟨(shp r)[k], g2 _ (List.getElem_mem hkl), ?_⟩
  have q1 : fdivD (.int m) (.int 16) = .ok (.int (m / 16)) := fdivD_int (by decide) (by decide)
  have q2 : modD (.int m) (.int (6 + 1)) = .ok (.int (r : Int)) := by rw [modD_int (by omega), hr]
  have q3 : modD (.int (m / 16)) (.int ((shp r).length : Int)) = .ok (.int (k : Int)) := by rw [modD_int (by have := F.ne; omega), hk]
  have q4 : ixD (.list ((shp r).map encN)) (.int (k : Int)) = .ok (encN (shp r)[k]) := ixD_l (by rw [List.getElem?_map, List.getElem?_eq_getElem hkl]; rfl)
  unfold dn__law_some_shape
  simp only [env0, List.map_cons, List.map_nil, List.replicate_succ, List.replicate_zero, List.cons_append, List.nil_append, out_ok, out_bad, out_exc, xVar_def, xOwn_def, xC_def, xOp_def, xB_def, asB_bool, xChain_def, xAnd_def, xOr_def, xNot_def, xAndV_def, xOrV_def, xNotV_def, xNeg_def, negD_int, xNil_def, xCons_def, xTup_def, xLst_def, mkT_0, mkT_1, mkT_2, mkT_3, mkT_4, mkL_0, mkL_1, mkL_2, okLen_0, okLen_1, xCall_def, on1_def, on2_def, xSl_def, xPart_def, asI_int, xNoPart_def, xIt_def, xItems_def, itemsD_t, itemsD_l, enumD_t, xYes_def, sNext_def, sPass_def, sBreak_def, sCont_def, seqOut_next, seqOut_ret, seqOut_exc, seqOut_brk, seqOut_cont, seqOut_bad, sSeq_def, sKill_def, sRet_def, sIf_def, sAsg_name, yName_def, yTup_def, yCons_def, yNil_def, sNewOwn_def, sApp_def, sFor_def, forGo_nil, outRes_ret, outRes_next, outRes_exc, fnD_1, fnD_2, fnD_3, addD_int, subD_int, ltD_int, leD_int, gtD_int, geD_int, eqD_int, neD_int, lenD_t, lenD_l, tupleD_t, tupleD_l, listD_t, listD_l, isD_none, isNotD_none, isNoneD_none, isNoneD_int, slD_l1, slD_t1, lenD_F, lenD_W, slD_Fto, slD_Wto, slD_Ffrom, slD_Wfrom, slD_Ffrom1, slD_Wfrom1, itemsD_W, itemsD_F, enumD_W, enumD_F, tupleD_W, tupleD_F, ownAt_def, lk_nil, lk_zero, lk_succ, st_nil, st_zero, st_succ, kill_nil, kill_cons, Res.bind_ok, Res.bind_exc, Res.bind_bad, ↓reduceIte, Bool.false_eq_true, Bool.not_true, Bool.not_false, Option.bind_some, List.length_cons, List.length_nil, Nat.reduceAdd, Nat.reduceSub, Nat.reduceEqDiff, decide_eq_true_eq, b__law_some_shape, b__law_some_shape_1, q1, q2, g1, List.length_map, q3, q4]
/-! ### the far shape's tests -/
theorem ones_all : (List.range 13).all (fun n => okN (mulD (.tuple [.int 1]) (.int (n : Nat))) (List.replicate n 1)) = true := by decide +kernel
theorem ones {n : Nat} (h : n ≤ 12) : mulD (.tuple [.int 1]) (.int (n : Int)) = .ok (encN (List.replicate n 1)) := okN_eq (List.all_eq_true.mp ones_all n (by simp; omega))
theorem tA_at (x : Option LV) {s : List Nat} (hs : s ∈ S12) : tA (envF x s) = .ok false := by
  have F := fG hs
  have e1 := cw_at (okc1 (sumN s) s hs) (by rw [List.length_replicate]; have := F.le; omega)
  rw [List.reverse_replicate, cw1 _ s hs rfl] at e1
  simp only [tA, envF, out_ok, out_bad, out_exc, xVar_def, xOwn_def, xC_def, xOp_def, xB_def, asB_bool, xChain_def, xAnd_def, xOr_def, xNot_def, xAndV_def, xOrV_def, xNotV_def, xNeg_def, negD_int, xNil_def, xCons_def, xTup_def, xLst_def, mkT_0, mkT_1, mkT_2, mkT_3, mkT_4, mkL_0, mkL_1, mkL_2, okLen_0, okLen_1, xCall_def, on1_def, on2_def, xSl_def, xPart_def, asI_int, xNoPart_def, xIt_def, xItems_def, itemsD_t, itemsD_l, enumD_t, xYes_def, sNext_def, sPass_def, sBreak_def, sCont_def, seqOut_next, seqOut_ret, seqOut_exc, seqOut_brk, seqOut_cont, seqOut_bad, sSeq_def, sKill_def, sRet_def, sIf_def, sAsg_name, yName_def, yTup_def, yCons_def, yNil_def, sNewOwn_def, sApp_def, sFor_def, forGo_nil, outRes_ret, outRes_next, outRes_exc, fnD_1, fnD_2, fnD_3, addD_int, subD_int, ltD_int, leD_int, gtD_int, geD_int, eqD_int, neD_int, lenD_t, lenD_l, tupleD_t, tupleD_l, listD_t, listD_l, isD_none, isNotD_none, isNoneD_none, isNoneD_int, slD_l1, slD_t1, lenD_F, lenD_W, slD_Fto, slD_Wto, slD_Ffrom, slD_Wfrom, slD_Ffrom1, slD_Wfrom1, itemsD_W, itemsD_F, enumD_W, enumD_F, tupleD_W, tupleD_F, ownAt_def, lk_nil, lk_zero, lk_succ, st_nil, st_zero, st_succ, kill_nil, kill_cons, Res.bind_ok, Res.bind_exc, Res.bind_bad, ↓reduceIte, Bool.false_eq_true, Bool.not_true, Bool.not_false, Option.bind_some, List.length_cons, List.length_nil, Nat.reduceAdd, Nat.reduceSub, Nat.reduceEqDiff, decide_eq_true_eq, sumD_N, ones F.le, e1, F.of, decide_true]
theorem t4_at (x : Option LV) {s : List Nat} (hs : s ∈ S12) : t4 (envF x s) = .ok false := by
  have F := fG hs
  obtain ⟨c, d⟩ := okcR s.reverse (sumN s) F.le (sumN_rev s)
  have e1 := cw_at c (by rw [List.length_reverse]; have := F.len; omega)
  rw [List.reverse_reverse, d] at e1
  have e2 : neD (encN s) (.tuple []) = .ok (.bool (!eqN' s [])) := neD_N s []
  by_cases hn : s = []
  · subst hn
    rw [show eqN' [] [] = true from rfl] at e2
    have q1 : intD (.bool (!true)) = .ok (.int 0) := rfl
    have q2 : mulD (.tuple [.int ((sumN [] : Nat) : Int)]) (.int 0) = .ok (encN (rowN (sumN []))) := rfl
    simp only [t4, envF, out_ok, out_bad, out_exc, xVar_def, xOwn_def, xC_def, xOp_def, xB_def, asB_bool, xChain_def, xAnd_def, xOr_def, xNot_def, xAndV_def, xOrV_def, xNotV_def, xNeg_def, negD_int, xNil_def, xCons_def, xTup_def, xLst_def, mkT_0, mkT_1, mkT_2, mkT_3, mkT_4, mkL_0, mkL_1, mkL_2, okLen_0, okLen_1, xCall_def, on1_def, on2_def, xSl_def, xPart_def, asI_int, xNoPart_def, xIt_def, xItems_def, itemsD_t, itemsD_l, enumD_t, xYes_def, sNext_def, sPass_def, sBreak_def, sCont_def, seqOut_next, seqOut_ret, seqOut_exc, seqOut_brk, seqOut_cont, seqOut_bad, sSeq_def, sKill_def, sRet_def, sIf_def, sAsg_name, yName_def, yTup_def, yCons_def, yNil_def, sNewOwn_def, sApp_def, sFor_def, forGo_nil, outRes_ret, outRes_next, outRes_exc, fnD_1, fnD_2, fnD_3, addD_int, subD_int, ltD_int, leD_int, gtD_int, geD_int, eqD_int, neD_int, lenD_t, lenD_l, tupleD_t, tupleD_l, listD_t, listD_l, isD_none, isNotD_none, isNoneD_none, isNoneD_int, slD_l1, slD_t1, lenD_F, lenD_W, slD_Fto, slD_Wto, slD_Ffrom, slD_Wfrom, slD_Ffrom1, slD_Wfrom1, itemsD_W, itemsD_F, enumD_W, enumD_F, tupleD_W, tupleD_F, ownAt_def, lk_nil, lk_zero, lk_succ, st_nil, st_zero, st_succ, kill_nil, kill_cons, Res.bind_ok, Res.bind_exc, Res.bind_bad, ↓reduceIte, Bool.false_eq_true, Bool.not_true, Bool.not_false, Option.bind_some, List.length_cons, List.length_nil, Nat.reduceAdd, Nat.reduceSub, Nat.reduceEqDiff, decide_eq_true_eq, sumD_N, e2, q1, q2, e1]
    rfl
  · have q0 : eqN' s [] = false := by
      rw [← Bool.not_eq_true]
      exact fun e => hn ((eqN_iff _ _).mp e)
    rw [q0] at e2
    have q1 : intD (.bool true) = .ok (.int 1) := rfl
    have q2 : mulD (.tuple [.int ((sumN s : Nat) : Int)]) (.int 1) = .ok (encN (rowN (sumN s))) := by
      have h1 := (F.sum hn).2
      cases hz : sumN s with
      | zero => omega
      | succ n => rfl
    simp only [t4, envF, out_ok, out_bad, out_exc, xVar_def, xOwn_def, xC_def, xOp_def, xB_def, asB_bool, xChain_def, xAnd_def, xOr_def, xNot_def, xAndV_def, xOrV_def, xNotV_def, xNeg_def, negD_int, xNil_def, xCons_def, xTup_def, xLst_def, mkT_0, mkT_1, mkT_2, mkT_3, mkT_4, mkL_0, mkL_1, mkL_2, okLen_0, okLen_1, xCall_def, on1_def, on2_def, xSl_def, xPart_def, asI_int, xNoPart_def, xIt_def, xItems_def, itemsD_t, itemsD_l, enumD_t, xYes_def, sNext_def, sPass_def, sBreak_def, sCont_def, seqOut_next, seqOut_ret, seqOut_exc, seqOut_brk, seqOut_cont, seqOut_bad, sSeq_def, sKill_def, sRet_def, sIf_def, sAsg_name, yName_def, yTup_def, yCons_def, yNil_def, sNewOwn_def, sApp_def, sFor_def, forGo_nil, outRes_ret, outRes_next, outRes_exc, fnD_1, fnD_2, fnD_3, addD_int, subD_int, ltD_int, leD_int, gtD_int, geD_int, eqD_int, neD_int, lenD_t, lenD_l, tupleD_t, tupleD_l, listD_t, listD_l, isD_none, isNotD_none, isNoneD_none, isNoneD_int, slD_l1, slD_t1, lenD_F, lenD_W, slD_Fto, slD_Wto, slD_Ffrom, slD_Wfrom, slD_Ffrom1, slD_Wfrom1, itemsD_W, itemsD_F, enumD_W, enumD_F, tupleD_W, tupleD_F, ownAt_def, lk_nil, lk_zero, lk_succ, st_nil, st_zero, st_succ, kill_nil, kill_cons, Res.bind_ok, Res.bind_exc, Res.bind_bad, ↓reduceIte, Bool.false_eq_true, Bool.not_true, Bool.not_false, Option.bind_some, List.length_cons, List.length_nil, Nat.reduceAdd, Nat.reduceSub, Nat.reduceEqDiff, decide_eq_true_eq, sumD_N, e2, q1, q2, e1]
    rfl
theorem tT {x : Option LV} {s : List Nat} (hs : s ∈ S12) : tB (envF x s) = .ok false ∧ t2 (envF x s) = .ok false ∧ t3 (envF x s) = .ok false := by
  have h := List.all_eq_true.mp (cT_all x) s hs
  unfold farT at h
  rw [Bool.and_eq_true, Bool.and_eq_true] at h
  exact ⟨okF_eq h.1.1, okF_eq h.1.2, okF_eq h.2⟩

/-! ### counting what a filling holds -/
theorem xTcn_def (fo fe : DEnv → Res D) (ρ : DEnv) : xTcn fo fe ρ = (fo ρ).bind (onT fun xs => (fe ρ).bind fun y => cnTD xs y) := rfl
theorem addD_N {a b : List Nat} (h : a.length + b.length ≤ 1000000) : addD (encN a) (encN b) = .ok (encN (a ++ b)) := by
  unfold encN
  show (if small ((a.map fun (n : Nat) => (PyData.int (n : Int) : D)).length + (b.map fun (n : Nat) => (PyData.int (n : Int) : D)).length) = true then Res.ok (PyData.tuple _) else .bad) = _
  rw [if_pos (small_of (by rw [List.length_map, List.length_map]; exact h)), List.map_append]
theorem countD_N (v : Nat) : ∀ l : List Nat, countD (l.map fun (n : Nat) => (PyData.int (n : Int) : D)) (.int (v : Int)) = cntN l v
  | [] => rfl
  | a :: l => by
    have ih := countD_N v l
    show cond (eqvD (.int (a : Int)) (.int (v : Int))) (countD (l.map fun (n : Nat) => (PyData.int (n : Int) : D)) (.int (v : Int)) + 1) (countD (l.map fun (n : Nat) => (PyData.int (n : Int) : D)) (.int (v : Int))) = cond (Nat.beq a v) (cntN l v + 1) (cntN l v)
    rw [ih]
    congr 1
    show decide ((a : Int) = (v : Int)) = _
    by_cases h : a = v
    · subst h; simp
    · rw [decide_eq_false (by omega)]
      symm
      rw [← Bool.not_eq_true]; exact fun e => h (Nat.eq_of_beq_eq_true e)
theorem cn_at (l : List Nat) (v : Nat) : (onT fun xs => cnTD xs (.int (v : Int))) (encN l) = .ok (.int (cntN l v : Nat)) := by
  show cnTD (l.map fun (n : Nat) => (PyData.int (n : Int) : D)) (.int (v : Int)) = _
  unfold cnTD
  rw [countD_N, if_pos]
  rw [Bool.and_eq_true]
  refine ⟨rfl, ?_⟩
  rw [allL_eq, List.all_eq_true]
  intro d hd
  rw [List.mem_map] at hd
  obtain ⟨n, _, rfl⟩ := hd
  rfl
theorem lc_at (m : Nat) (hm : m ≤ 4) (row : List Nat) (ρ : DEnv) (h4 : lk ρ 4 = some (.dat (.int (m : Int)))) (h11 : ∀ d, lk (st (st ρ 13 none) 13 (some (.dat d))) 11 = some (.dat (encN row))) (h13 : ∀ d, lk (st (st ρ 13 none) 13 (some (.dat d))) 13 = some (.dat d)) :
    xLc (xIt range1D (xCons (xVar 4) (xNil))) (yName 13) (xYes) (xTcn (xVar 11) (xOp addD (xVar 13) (xC (PyData.int 1)))) [13] ρ = .ok (.list (((List.range m).map fun k => cntN row (k + 1)).map fun (n : Nat) => (PyData.int (n : Int) : D))) := by
  rw [List.map_map]
  have h := xLc_map (fi := xIt range1D (xCons (xVar 4) (xNil))) (g := yName 13) (ft := xYes) (fe := xTcn (xVar 11) (xOp addD (xVar 13) (xC (PyData.int 1)))) (vs := [13]) (ρ := ρ) (xs := List.range m) (fun (k : Nat) => (PyData.int (k : Int) : D)) (fun _ => true) (fun k => .int (cntN row (k + 1) : Nat)) (by
      simp only [out_ok, out_bad, out_exc, xVar_def, xOwn_def, xC_def, xOp_def, xB_def, asB_bool, xChain_def, xAnd_def, xOr_def, xNot_def, xAndV_def, xOrV_def, xNotV_def, xNeg_def, negD_int, xNil_def, xCons_def, xTup_def, xLst_def, mkT_0, mkT_1, mkT_2, mkT_3, mkT_4, mkL_0, mkL_1, mkL_2, okLen_0, okLen_1, xCall_def, on1_def, on2_def, xSl_def, xPart_def, asI_int, xNoPart_def, xIt_def, xItems_def, itemsD_t, itemsD_l, enumD_t, xYes_def, sNext_def, sPass_def, sBreak_def, sCont_def, seqOut_next, seqOut_ret, seqOut_exc, seqOut_brk, seqOut_cont, seqOut_bad, sSeq_def, sKill_def, sRet_def, sIf_def, sAsg_name, yName_def, yTup_def, yCons_def, yNil_def, sNewOwn_def, sApp_def, sFor_def, forGo_nil, outRes_ret, outRes_next, outRes_exc, fnD_1, fnD_2, fnD_3, addD_int, subD_int, ltD_int, leD_int, gtD_int, geD_int, eqD_int, neD_int, lenD_t, lenD_l, tupleD_t, tupleD_l, listD_t, listD_l, isD_none, isNotD_none, isNoneD_none, isNoneD_int, slD_l1, slD_t1, lenD_F, lenD_W, slD_Fto, slD_Wto, slD_Ffrom, slD_Wfrom, slD_Ffrom1, slD_Wfrom1, itemsD_W, itemsD_F, enumD_W, enumD_F, tupleD_W, tupleD_F, ownAt_def, lk_nil, lk_zero, lk_succ, st_nil, st_zero, st_succ, kill_nil, kill_cons, Res.bind_ok, Res.bind_exc, Res.bind_bad, ↓reduceIte, Bool.false_eq_true, Bool.not_true, Bool.not_false, Option.bind_some, List.length_cons, List.length_nil, Nat.reduceAdd, Nat.reduceSub, Nat.reduceEqDiff, decide_eq_true_eq, h4, range1_nat (show m ≤ 1000000 by omega), upFrom]
      congr 1
      apply List.map_congr_left
      intro k _
      simp) (by simp; omega) (fun k _ => ⟨_, rfl, rfl, fun _ => by
      have e := cn_at row (k + 1)
      rw [show (((k + 1 : Nat) : Int)) = (k : Int) + 1 by omega] at e
      simp only [out_ok, out_bad, out_exc, xVar_def, xOwn_def, xC_def, xOp_def, xB_def, asB_bool, xChain_def, xAnd_def, xOr_def, xNot_def, xAndV_def, xOrV_def, xNotV_def, xNeg_def, negD_int, xNil_def, xCons_def, xTup_def, xLst_def, mkT_0, mkT_1, mkT_2, mkT_3, mkT_4, mkL_0, mkL_1, mkL_2, okLen_0, okLen_1, xCall_def, on1_def, on2_def, xSl_def, xPart_def, asI_int, xNoPart_def, xIt_def, xItems_def, itemsD_t, itemsD_l, enumD_t, xYes_def, sNext_def, sPass_def, sBreak_def, sCont_def, seqOut_next, seqOut_ret, seqOut_exc, seqOut_brk, seqOut_cont, seqOut_bad, sSeq_def, sKill_def, sRet_def, sIf_def, sAsg_name, yName_def, yTup_def, yCons_def, yNil_def, sNewOwn_def, sApp_def, sFor_def, forGo_nil, outRes_ret, outRes_next, outRes_exc, fnD_1, fnD_2, fnD_3, addD_int, subD_int, ltD_int, leD_int, gtD_int, geD_int, eqD_int, neD_int, lenD_t, lenD_l, tupleD_t, tupleD_l, listD_t, listD_l, isD_none, isNotD_none, isNoneD_none, isNoneD_int, slD_l1, slD_t1, lenD_F, lenD_W, slD_Fto, slD_Wto, slD_Ffrom, slD_Wfrom, slD_Ffrom1, slD_Wfrom1, itemsD_W, itemsD_F, enumD_W, enumD_F, tupleD_W, tupleD_F, ownAt_def, lk_nil, lk_zero, lk_succ, st_nil, st_zero, st_succ, kill_nil, kill_cons, Res.bind_ok, Res.bind_exc, Res.bind_bad, ↓reduceIte, Bool.false_eq_true, Bool.not_true, Bool.not_false, Option.bind_some, List.length_cons, List.length_nil, Nat.reduceAdd, Nat.reduceSub, Nat.reduceEqDiff, decide_eq_true_eq, xTcn_def, h11, h13]
      exact e⟩)
  rw [h, List.filter_eq_self.mpr (fun _ _ => rfl)]
  rfl
/-! ### the loops -/
section
variable (d0 d1 : Option LV) (s c : List Nat) (m : Nat)
def envI (due : Int) (b : Option LV × Option LV × List Nat) : DEnv := [d0, d1, some (.dat (encN s)), none, some (.dat (.int (m : Int))), b.1, none, none, some (.dat (encN c)), some (.dat (.int due)), b.2.1, some (.dat (encN b.2.2)), none, none, none]
def envE (b : Option LV × Int) : DEnv := [d0, d1, some (.dat (encN s)), none, some (.dat (.int (m : Int))), b.1, none, none, some (.dat (encN c)), some (.dat (.int b.2)), none, none, none, none, none]
theorem row_go (due : Int) (f : List (List Nat)) (b : Option LV × Option LV × List Nat) (h : b.2.2.length + f.flatten.length ≤ 1000) :
    forGo (yName 12) b_law_F3 [3, 5, 6, 7, 10, 12, 13, 14] (f.map encN) (envI d0 d1 s c m due b) = .next (envI d0 d1 s c m due (f.foldl (fun b l => (none, none, b.2.2 ++ l)) b)) := by
  refine forGo_fold (g := yName 12) (body := b_law_F3) (ks := [3, 5, 6, 7, 10, 12, 13, 14]) encN (envI d0 d1 s c m due) (fun b l => (none, none, b.2.2 ++ l)) (fun l b => b.2.2.length + l.flatten.length ≤ 1000) (fun l r b hi => ?_) f b h
  rw [List.flatten_cons, List.length_append] at hi
  have q : addD (encN b.2.2) (encN l) = .ok (encN (b.2.2 ++ l)) := addD_N (by omega)
  refine ⟨?_, by rw [List.length_append]; omega⟩
  rw [turn_eq (ρ1 := [d0, d1, some (.dat (encN s)), none, some (.dat (.int (m : Int))), b.1, none, none, some (.dat (encN c)), some (.dat (.int due)), b.2.1, some (.dat (encN b.2.2)), some (.dat (encN l)), none, none]) rfl]
  have hb : b_law_F3 [d0, d1, some (.dat (encN s)), none, some (.dat (.int (m : Int))), b.1, none, none, some (.dat (encN c)), some (.dat (.int due)), b.2.1, some (.dat (encN b.2.2)), some (.dat (encN l)), none, none] = .next [d0, d1, some (.dat (encN s)), none, some (.dat (.int (m : Int))), b.1, none, none, some (.dat (encN c)), some (.dat (.int due)), b.2.1, some (.dat (encN (b.2.2 ++ l))), some (.dat (encN l)), none, none] := by
    simp only [out_ok, out_bad, out_exc, xVar_def, xOwn_def, xC_def, xOp_def, xB_def, asB_bool, xChain_def, xAnd_def, xOr_def, xNot_def, xAndV_def, xOrV_def, xNotV_def, xNeg_def, negD_int, xNil_def, xCons_def, xTup_def, xLst_def, mkT_0, mkT_1, mkT_2, mkT_3, mkT_4, mkL_0, mkL_1, mkL_2, okLen_0, okLen_1, xCall_def, on1_def, on2_def, xSl_def, xPart_def, asI_int, xNoPart_def, xIt_def, xItems_def, itemsD_t, itemsD_l, enumD_t, xYes_def, sNext_def, sPass_def, sBreak_def, sCont_def, seqOut_next, seqOut_ret, seqOut_exc, seqOut_brk, seqOut_cont, seqOut_bad, sSeq_def, sKill_def, sRet_def, sIf_def, sAsg_name, yName_def, yTup_def, yCons_def, yNil_def, sNewOwn_def, sApp_def, sFor_def, forGo_nil, outRes_ret, outRes_next, outRes_exc, fnD_1, fnD_2, fnD_3, addD_int, subD_int, ltD_int, leD_int, gtD_int, geD_int, eqD_int, neD_int, lenD_t, lenD_l, tupleD_t, tupleD_l, listD_t, listD_l, isD_none, isNotD_none, isNoneD_none, isNoneD_int, slD_l1, slD_t1, lenD_F, lenD_W, slD_Fto, slD_Wto, slD_Ffrom, slD_Wfrom, slD_Ffrom1, slD_Wfrom1, itemsD_W, itemsD_F, enumD_W, enumD_F, tupleD_W, tupleD_F, ownAt_def, lk_nil, lk_zero, lk_succ, st_nil, st_zero, st_succ, kill_nil, kill_cons, Res.bind_ok, Res.bind_exc, Res.bind_bad, ↓reduceIte, Bool.false_eq_true, Bool.not_true, Bool.not_false, Option.bind_some, List.length_cons, List.length_nil, Nat.reduceAdd, Nat.reduceSub, Nat.reduceEqDiff, decide_eq_true_eq, b_law_F3, q]
  rw [hb]
  rfl
theorem fold_row : ∀ (f : List (List Nat)) (b : Option LV × Option LV × List Nat), (f.foldl (fun b l => ((none : Option LV), (none : Option LV), b.2.2 ++ l)) b).2.2 = b.2.2 ++ f.flatten
  | [], b => by simp
  | l :: f, b => by rw [List.foldl_cons, fold_row f]; simp
def stepE (b : Option LV × Int) (f : List (List Nat)) : Option LV × Int := (none, b.2 + cond (eqN' (contN m f) c) 1 0)
theorem due_go (hm : m ≤ 4) (F : List (List (List Nat))) (b : Option LV × Int) (h : ∀ f, f ∈ F → f.flatten.length ≤ 6) :
    forGo (yName 10) b_law_F2 [3, 5, 6, 7, 10, 11, 12, 13, 14] (F.map encFN) (envE d0 d1 s c m b) = .next (envE d0 d1 s c m (F.foldl (stepE c m) b)) := by
  refine forGo_fold (g := yName 10) (body := b_law_F2) (ks := [3, 5, 6, 7, 10, 11, 12, 13, 14]) encFN (envE d0 d1 s c m) (stepE c m) (fun l _ => ∀ f, f ∈ l → f.flatten.length ≤ 6) (fun f r b hi => ?_) F b h
  refine ⟨?_, fun g hg => hi g (by simp [hg])⟩
  have hf := hi f (by simp)
  rw [turn_eq (ρ1 := [d0, d1, some (.dat (encN s)), none, some (.dat (.int (m : Int))), b.1, none, none, some (.dat (encN c)), some (.dat (.int b.2)), some (.dat (encFN f)), none, none, none, none]) rfl]
  have go := row_go d0 d1 s c m b.2 f (none, none, []) (by simp only [List.length_nil]; omega)
  have hz := fold_row f (none, none, [])
  generalize f.foldl (fun b l => ((none : Option LV), (none : Option LV), b.2.2 ++ l)) (none, none, []) = z at go hz
  obtain ⟨z1, z2, z3⟩ := z
  simp only [List.nil_append] at hz
  subst hz
  simp only [envI, encN_nil] at go
  have i1 : itemsD (encFN f) = .ok (f.map encN) := rfl
  have lc := lc_at m hm f.flatten [d0, d1, some (.dat (encN s)), none, some (.dat (.int (m : Int))), z1, none, none, some (.dat (encN c)), some (.dat (.int b.2)), none, some (.dat (encN f.flatten)), none, none, none] rfl (fun _ => rfl) (fun _ => rfl)
  have e1 : eqD (.tuple (((List.range m).map fun k => cntN f.flatten (k + 1)).map fun (n : Nat) => (PyData.int (n : Int) : D))) (encN c) = .ok (.bool (eqN' (contN m f) c)) := eqD_N _ c
  have e2 : intD (.bool (eqN' (contN m f) c)) = .ok (.int (cond (eqN' (contN m f) c) 1 0)) := by cases eqN' (contN m f) c <;> rfl
  have hb : b_law_F2 [d0, d1, some (.dat (encN s)), none, some (.dat (.int (m : Int))), b.1, none, none, some (.dat (encN c)), some (.dat (.int b.2)), some (.dat (encFN f)), none, none, none, none] =
      .next [d0, d1, some (.dat (encN s)), none, some (.dat (.int (m : Int))), z1, none, none, some (.dat (encN c)), some (.dat (.int (b.2 + cond (eqN' (contN m f) c) 1 0))), none, some (.dat (encN f.flatten)), none, none, none] := by
    simp only [out_ok, out_bad, out_exc, xVar_def, xOwn_def, xC_def, xOp_def, xB_def, asB_bool, xChain_def, xAnd_def, xOr_def, xNot_def, xAndV_def, xOrV_def, xNotV_def, xNeg_def, negD_int, xNil_def, xCons_def, xTup_def, xLst_def, mkT_0, mkT_1, mkT_2, mkT_3, mkT_4, mkL_0, mkL_1, mkL_2, okLen_0, okLen_1, xCall_def, on1_def, on2_def, xSl_def, xPart_def, asI_int, xNoPart_def, xIt_def, xItems_def, itemsD_t, itemsD_l, enumD_t, xYes_def, sNext_def, sPass_def, sBreak_def, sCont_def, seqOut_next, seqOut_ret, seqOut_exc, seqOut_brk, seqOut_cont, seqOut_bad, sSeq_def, sKill_def, sRet_def, sIf_def, sAsg_name, yName_def, yTup_def, yCons_def, yNil_def, sNewOwn_def, sApp_def, sFor_def, forGo_nil, outRes_ret, outRes_next, outRes_exc, fnD_1, fnD_2, fnD_3, addD_int, subD_int, ltD_int, leD_int, gtD_int, geD_int, eqD_int, neD_int, lenD_t, lenD_l, tupleD_t, tupleD_l, listD_t, listD_l, isD_none, isNotD_none, isNoneD_none, isNoneD_int, slD_l1, slD_t1, lenD_F, lenD_W, slD_Fto, slD_Wto, slD_Ffrom, slD_Wfrom, slD_Ffrom1, slD_Wfrom1, itemsD_W, itemsD_F, enumD_W, enumD_F, tupleD_W, tupleD_F, ownAt_def, lk_nil, lk_zero, lk_succ, st_nil, st_zero, st_succ, kill_nil, kill_cons, Res.bind_ok, Res.bind_exc, Res.bind_bad, ↓reduceIte, Bool.false_eq_true, Bool.not_true, Bool.not_false, Option.bind_some, List.length_cons, List.length_nil, Nat.reduceAdd, Nat.reduceSub, Nat.reduceEqDiff, decide_eq_true_eq, b_law_F2, i1, go, lc, e1, e2]
  rw [hb]
  rfl
theorem fold_due : ∀ (F : List (List (List Nat))) (b : Option LV × Int), (F.foldl (stepE c m) b).2 = b.2 + (cntL (F.map (contN m)) c : Nat)
  | [], b => by simp [cntL]
  | f :: F, b => by
    rw [List.foldl_cons, fold_due F, List.map_cons]
    show b.2 + cond (eqN' (contN m f) c) 1 0 + ((cntL (F.map (contN m)) c : Nat) : Int) = b.2 + ((cond (eqN' (contN m f) c) (cntL (F.map (contN m)) c + 1) (cntL (F.map (contN m)) c) : Nat) : Int)
    cases eqN' (contN m f) c
    · simp only [cond_false]; omega
    · simp only [cond_true]; omega
def envW (nu ev co : LV) (w : Int) : DEnv := [d0, d1, some (.dat (encN s)), some nu, some (.dat (.int (m : Int))), some ev, some co, some (.dat (.int w)), none, none, none, none, none, none, none]
theorem whole_go (nu ev co : LV) (hs : s ∈ S6) (C : List (List Nat)) (w : Int) (h : ∀ c, c ∈ C → c.length ≤ 4 ∧ ∀ k, k ∈ c → k ≤ 6) :
    forGo (yName 8) b_law_F4 [8, 9, 10, 11, 12, 13, 14] (C.map encN) (envW d0 d1 s m nu ev co w) = .next (envW d0 d1 s m nu ev co (C.foldl (fun w c => w + (cwR c.reverse s : Nat)) w)) := by
  refine forGo_fold (g := yName 8) (body := b_law_F4) (ks := [8, 9, 10, 11, 12, 13, 14]) encN (envW d0 d1 s m nu ev co) (fun w c => w + (cwR c.reverse s : Nat)) (fun l _ => ∀ c, c ∈ l → c.length ≤ 4 ∧ ∀ k, k ∈ c → k ≤ 6) (fun c r w hi => ?_) C w h
  refine ⟨?_, fun g hg => hi g (by simp [hg])⟩
  have hc := hi c (by simp)
  have e := cw6 hs hc.2 (by omega)
  rw [turn_eq (ρ1 := [d0, d1, some (.dat (encN s)), some nu, some (.dat (.int (m : Int))), some ev, some co, some (.dat (.int w)), some (.dat (encN c)), none, none, none, none, none, none]) rfl]
  have hb : b_law_F4 [d0, d1, some (.dat (encN s)), some nu, some (.dat (.int (m : Int))), some ev, some co, some (.dat (.int w)), some (.dat (encN c)), none, none, none, none, none, none] = .next [d0, d1, some (.dat (encN s)), some nu, some (.dat (.int (m : Int))), some ev, some co, some (.dat (.int (w + (cwR c.reverse s : Nat)))), some (.dat (encN c)), none, none, none, none, none, none] := by
    simp only [out_ok, out_bad, out_exc, xVar_def, xOwn_def, xC_def, xOp_def, xB_def, asB_bool, xChain_def, xAnd_def, xOr_def, xNot_def, xAndV_def, xOrV_def, xNotV_def, xNeg_def, negD_int, xNil_def, xCons_def, xTup_def, xLst_def, mkT_0, mkT_1, mkT_2, mkT_3, mkT_4, mkL_0, mkL_1, mkL_2, okLen_0, okLen_1, xCall_def, on1_def, on2_def, xSl_def, xPart_def, asI_int, xNoPart_def, xIt_def, xItems_def, itemsD_t, itemsD_l, enumD_t, xYes_def, sNext_def, sPass_def, sBreak_def, sCont_def, seqOut_next, seqOut_ret, seqOut_exc, seqOut_brk, seqOut_cont, seqOut_bad, sSeq_def, sKill_def, sRet_def, sIf_def, sAsg_name, yName_def, yTup_def, yCons_def, yNil_def, sNewOwn_def, sApp_def, sFor_def, forGo_nil, outRes_ret, outRes_next, outRes_exc, fnD_1, fnD_2, fnD_3, addD_int, subD_int, ltD_int, leD_int, gtD_int, geD_int, eqD_int, neD_int, lenD_t, lenD_l, tupleD_t, tupleD_l, listD_t, listD_l, isD_none, isNotD_none, isNoneD_none, isNoneD_int, slD_l1, slD_t1, lenD_F, lenD_W, slD_Fto, slD_Wto, slD_Ffrom, slD_Wfrom, slD_Ffrom1, slD_Wfrom1, itemsD_W, itemsD_F, enumD_W, enumD_F, tupleD_W, tupleD_F, ownAt_def, lk_nil, lk_zero, lk_succ, st_nil, st_zero, st_succ, kill_nil, kill_cons, Res.bind_ok, Res.bind_exc, Res.bind_bad, ↓reduceIte, Bool.false_eq_true, Bool.not_true, Bool.not_false, Option.bind_some, List.length_cons, List.length_nil, Nat.reduceAdd, Nat.reduceSub, Nat.reduceEqDiff, decide_eq_true_eq, b_law_F4, e]
  rw [hb]
  rfl
theorem fold_whole : ∀ (C : List (List Nat)) (w : Int), C.foldl (fun w c => w + ((cwR c.reverse s : Nat) : Int)) w = w + (sumN (C.map fun c => cwR c.reverse s) : Nat)
  | [], w => by simp
  | c :: C, w => by rw [List.foldl_cons, fold_whole C, List.map_cons, sumN_cons]; omega
end

/-! ### the law -/
theorem neD_LN (C : List (List Nat)) : neD (.list (C.map encN)) (.list []) = .ok (.bool (!C.isEmpty)) := by
  unfold neD
  have hd : depOk (.list (C.map encN)) = true := by
    show allL (dpN 29) _ = true
    rw [allL_eq, List.all_eq_true]
    intro d hd
    rw [List.mem_map] at hd
    obtain ⟨n, _, rfl⟩ := hd
    exact rk_dp (rk_N n) (by decide)
  rw [if_pos hd]
  congr 3
  cases C <;> rfl
theorem revD_N (c : List Nat) : revD (encN c) = .ok (encN c.reverse) := by
  unfold encN
  rw [List.map_reverse]
  rfl
theorem xRev_def (f : DEnv → Res D) (ρ : DEnv) : xRev f ρ = (f ρ).bind revD := rfl
theorem far_at (x : Option LV) {s : List Nat} (hs : s ∈ S12) : tA (envF x s) = .ok false ∧ tB (envF x s) = .ok false ∧ t2 (envF x s) = .ok false ∧ t3 (envF x s) = .ok false ∧ t4 (envF x s) = .ok false :=
  ⟨tA_at x hs, (tT hs).1, (tT hs).2.1, (tT hs).2.2, t4_at x hs⟩
def tailS : DEnv → Out := sSeq (sIf (xOr tA tB) (sRet (xC (PyData.bool false))) (sNext)) (sSeq (sIf t2 (sRet (xC (PyData.bool false))) (sNext)) (sSeq (sIf t3 (sRet (xC (PyData.bool false))) (sNext)) (sIf t4 (sRet (xC (PyData.bool false))) (sNext))))
theorem tail_at (x : Option LV) {s : List Nat} (hs : s ∈ S12) : tailS (envF x s) = .next (envF x s) := by
  obtain ⟨a, b, c, d, e⟩ := far_at x hs
  unfold tailS
  have ab : xOr tA tB (envF x s) = .ok false := by rw [xOr_def, a]; exact b
  simp only [sSeq_def, sIf_def, ab, c, d, e, out_ok, Bool.false_eq_true, ↓reduceIte, sNext_def, seqOut_next]

def midT : DEnv → Out := sSeq (sIf (xOr (xB (xOp neD (xCall dn_count_with (xCons (xVar 2) (xCons (xVar 8) (xNil)))) (xVar 9))) (xB (xOp neD (xCall dn_count_with (xCons (xVar 2) (xCons (xRev (xVar 8)) (xNil)))) (xVar 9)))) (sRet (xC (PyData.bool false))) (sNext))
    (sIf (xOr (xB (xOp neD (xCall dn_count_with (xCons (xVar 2) (xCons (xOp addD (xVar 8) (xTup (xCons (xC (PyData.int 0)) (xNil)))) (xNil)))) (xVar 9))) (xB (xOp neD (xCall dn_count_with (xCons (xVar 2) (xCons (xOp addD (xTup (xCons (xC (PyData.int 0)) (xNil))) (xVar 8)) (xNil)))) (xVar 9)))) (sRet (xC (PyData.bool false))) (sNext))
def midS : DEnv → Out := sSeq (sAsg (xOp ixD (xVar 6) (xOp modD (xOp fdivD (xVar 3) (xC (PyData.int 8))) (xCall (on1 lenD) (xCons (xVar 6) (xNil))))) (yName 8))
    (sKill [3, 6] (sSeq (sAsg (xC (PyData.int 0)) (yName 9))
    (sSeq (sFor (xItems (xVar 5)) (yName 10) (b_law_F2) [3, 5, 6, 7, 10, 11, 12, 13, 14])
    (sKill [4, 5, 10, 11, 12] midT))))
def b_F1 : DEnv → Out :=
  sSeq (sAsg (xCall dn__law_some_shape (xCons (xCall dn__law_mixed (xCons (xVar 0) (xCons (xOp mulD (xC (PyData.int 3)) (xVar 1)) (xNil)))) (xCons (xC (PyData.int 6)) (xNil)))) (yName 2))
    (sSeq (sAsg (xCall dn__law_mixed (xCons (xVar 0) (xCons (xOp addD (xOp mulD (xC (PyData.int 3)) (xVar 1)) (xC (PyData.int 1))) (xNil)))) (yName 3))
    (sSeq (sAsg (xOp modD (xVar 3) (xC (PyData.int 5))) (yName 4))
    (sSeq (sAsg (xCall dn__law_all_fillings (xCons (xVar 2) (xCons (xVar 4) (xNil)))) (yName 5))
    (sSeq (sIf (xB (xOp neD (xCall dn_count_upto (xCons (xVar 2) (xCons (xVar 4) (xNil)))) (xCall (on1 lenD) (xCons (xVar 5) (xNil))))) (sRet (xC (PyData.bool false))) (sNext))
    (sSeq (sAsg (xCall dn__law_all_counts (xCons (xCall (on1 sumD) (xCons (xVar 2) (xNil))) (xCons (xVar 4) (xNil)))) (yName 6))
    (sSeq (sAsg (xC (PyData.int 0)) (yName 7))
    (sSeq (sFor (xItems (xVar 6)) (yName 8) (b_law_F4) [8, 9, 10, 11, 12, 13, 14])
    (sKill [8] (sSeq (sIf (xB (xOp neD (xVar 7) (xCall (on1 lenD) (xCons (xVar 5) (xNil))))) (sRet (xC (PyData.bool false))) (sNext))
    (sKill [7] (sSeq (sIf (xB (xOp neD (xVar 6) (xLst (xNil)))) midS (sNext))
    (sKill [2, 3, 4, 5, 6, 8, 9, 10, 11, 12] (sSeq (sAsg (xCall dn__law_some_shape (xCons (xCall dn__law_mixed (xCons (xVar 0) (xCons (xOp addD (xOp mulD (xC (PyData.int 3)) (xVar 1)) (xC (PyData.int 2))) (xNil)))) (xCons (xC (PyData.int 12)) (xNil)))) (yName 14))
    (sKill [1] tailS))))))))))))))
theorem F1_eq : b_law_F1 = b_F1 := rfl

theorem midT_at (d0 d1 : Option LV) {s c : List Nat} {m : Nat} (hs : s ∈ S6) (hm : m ≤ 4) (hc : c ∈ countsN m (sumN s)) (e : DEnv) (he : e = [d0, d1, some (.dat (encN s)), none, none, none, none, none, some (.dat (encN c)), some (.dat (.int (cntL ((fillN s [] m).map (contN m)) c : Nat))), none, none, none, none, none]) :
    midT e = .next e := by
  subst he
  obtain ⟨hl, hk⟩ := (fC (fS hs).sum hm).le c hc
  obtain ⟨g1, g2⟩ := (fF hs hm).cnt c hc
  have e1 := cw6 hs hk (by omega)
  have e2 := cw6 (c := c.reverse) hs (fun k h => hk k (by simpa using h)) (by rw [List.length_reverse]; omega)
  have e3 := cw6 (c := c ++ [0]) hs (fun k h => by
    rcases List.mem_append.mp h with h | h
    · exact hk k h
    · rw [List.mem_singleton.mp h]; decide) (by simp; omega)
  have e4 := cw6 (c := 0 :: c) hs (fun k h => by
    rcases List.mem_cons.mp h with h | h
    · rw [h]; decide
    · exact hk k h) (by simp; omega)
  rw [List.reverse_reverse, g2] at e2
  rw [List.reverse_append, List.reverse_singleton, List.singleton_append, cw_z1 hs, g1] at e3
  rw [List.reverse_cons, cw_z2 c.reverse s hs (fun k h => hk k (by simpa using h)), g1] at e4
  rw [g1] at e1
  have a1 : addD (encN c) (.tuple [.int 0]) = .ok (encN (c ++ [0])) := addD_N (b := [0]) (by simp; omega)
  have a2 : addD (.tuple [.int 0]) (encN c) = .ok (encN (0 :: c)) := addD_N (a := [0]) (by simp; omega)
  simp only [midT, out_ok, out_bad, out_exc, xVar_def, xOwn_def, xC_def, xOp_def, xB_def, asB_bool, xChain_def, xAnd_def, xOr_def, xNot_def, xAndV_def, xOrV_def, xNotV_def, xNeg_def, negD_int, xNil_def, xCons_def, xTup_def, xLst_def, mkT_0, mkT_1, mkT_2, mkT_3, mkT_4, mkL_0, mkL_1, mkL_2, okLen_0, okLen_1, xCall_def, on1_def, on2_def, xSl_def, xPart_def, asI_int, xNoPart_def, xIt_def, xItems_def, itemsD_t, itemsD_l, enumD_t, xYes_def, sNext_def, sPass_def, sBreak_def, sCont_def, seqOut_next, seqOut_ret, seqOut_exc, seqOut_brk, seqOut_cont, seqOut_bad, sSeq_def, sKill_def, sRet_def, sIf_def, sAsg_name, yName_def, yTup_def, yCons_def, yNil_def, sNewOwn_def, sApp_def, sFor_def, forGo_nil, outRes_ret, outRes_next, outRes_exc, fnD_1, fnD_2, fnD_3, addD_int, subD_int, ltD_int, leD_int, gtD_int, geD_int, eqD_int, neD_int, lenD_t, lenD_l, tupleD_t, tupleD_l, listD_t, listD_l, isD_none, isNotD_none, isNoneD_none, isNoneD_int, slD_l1, slD_t1, lenD_F, lenD_W, slD_Fto, slD_Wto, slD_Ffrom, slD_Wfrom, slD_Ffrom1, slD_Wfrom1, itemsD_W, itemsD_F, enumD_W, enumD_F, tupleD_W, tupleD_F, ownAt_def, lk_nil, lk_zero, lk_succ, st_nil, st_zero, st_succ, kill_nil, kill_cons, Res.bind_ok, Res.bind_exc, Res.bind_bad, ↓reduceIte, Bool.false_eq_true, Bool.not_true, Bool.not_false, Option.bind_some, List.length_cons, List.length_nil, Nat.reduceAdd, Nat.reduceSub, Nat.reduceEqDiff, decide_eq_true_eq, xRev_def, revD_N, a1, a2, e1, e2, e3, e4, decide_true]
theorem mid_at (d0 d1 : Option LV) {s : List Nat} {m : Nat} (hs : s ∈ S6) (hm : m ≤ 4) (num : Int) (hne : 0 < (countsN m (sumN s)).length) :
    ∃ e, midS [d0, d1, some (.dat (encN s)), some (.dat (.int num)), some (.dat (.int (m : Int))), some (.dat (.list ((fillN s [] m).map encFN))), some (.dat (.list ((countsN m (sumN s)).map encN))), none, none, none, none, none, none, none, none] = .next e ∧
      kill e [2, 3, 4, 5, 6, 8, 9, 10, 11, 12] = [d0, d1, none, none, none, none, none, none, none, none, none, none, none, none, none] := by
  obtain ⟨k, hk, hkl⟩ := pick (countsN m (sumN s)) (num / 8) hne
  have hc := List.getElem_mem hkl
  generalize hcc : (countsN m (sumN s))[k] = c at hc
  have q1 : fdivD (.int num) (.int 8) = .ok (.int (num / 8)) := fdivD_int (by decide) (by decide)
  have q3 : modD (.int (num / 8)) (.int ((countsN m (sumN s)).length : Int)) = .ok (.int (k : Int)) := by rw [modD_int (by omega), hk]
  have q4 : ixD (.list ((countsN m (sumN s)).map encN)) (.int (k : Int)) = .ok (encN c) := ixD_l (by rw [List.getElem?_map, List.getElem?_eq_getElem hkl, hcc]; rfl)
  have go := due_go d0 d1 s c m hm (fillN s [] m) (none, 0) (fF hs hm).le
  have hz := fold_due c m (fillN s [] m) (none, 0)
  generalize (fillN s [] m).foldl (stepE c m) (none, 0) = z at go hz
  obtain ⟨z1, z2⟩ := z
  simp only [Int.zero_add] at hz
  subst hz
  simp only [envE] at go
  refine ⟨[d0, d1, some (.dat (encN s)), none, none, none, none, none, some (.dat (encN c)), some (.dat (.int (cntL ((fillN s [] m).map (contN m)) c : Nat))), none, none, none, none, none], ?_, rfl⟩
  · simp only [midS, out_ok, out_bad, out_exc, xVar_def, xOwn_def, xC_def, xOp_def, xB_def, asB_bool, xChain_def, xAnd_def, xOr_def, xNot_def, xAndV_def, xOrV_def, xNotV_def, xNeg_def, negD_int, xNil_def, xCons_def, xTup_def, xLst_def, mkT_0, mkT_1, mkT_2, mkT_3, mkT_4, mkL_0, mkL_1, mkL_2, okLen_0, okLen_1, xCall_def, on1_def, on2_def, xSl_def, xPart_def, asI_int, xNoPart_def, xIt_def, xItems_def, itemsD_t, itemsD_l, enumD_t, xYes_def, sNext_def, sPass_def, sBreak_def, sCont_def, seqOut_next, seqOut_ret, seqOut_exc, seqOut_brk, seqOut_cont, seqOut_bad, sSeq_def, sKill_def, sRet_def, sIf_def, sAsg_name, yName_def, yTup_def, yCons_def, yNil_def, sNewOwn_def, sApp_def, sFor_def, forGo_nil, outRes_ret, outRes_next, outRes_exc, fnD_1, fnD_2, fnD_3, addD_int, subD_int, ltD_int, leD_int, gtD_int, geD_int, eqD_int, neD_int, lenD_t, lenD_l, tupleD_t, tupleD_l, listD_t, listD_l, isD_none, isNotD_none, isNoneD_none, isNoneD_int, slD_l1, slD_t1, lenD_F, lenD_W, slD_Fto, slD_Wto, slD_Ffrom, slD_Wfrom, slD_Ffrom1, slD_Wfrom1, itemsD_W, itemsD_F, enumD_W, enumD_F, tupleD_W, tupleD_F, ownAt_def, lk_nil, lk_zero, lk_succ, st_nil, st_zero, st_succ, kill_nil, kill_cons, Res.bind_ok, Res.bind_exc, Res.bind_bad, ↓reduceIte, Bool.false_eq_true, Bool.not_true, Bool.not_false, Option.bind_some, List.length_cons, List.length_nil, Nat.reduceAdd, Nat.reduceSub, Nat.reduceEqDiff, decide_eq_true_eq, q1, List.length_map, q3, q4, go]
    exact midT_at d0 d1 hs hm hc _ rfl
theorem turn_at (ns : List Int) (n : Nat) (hn : n ≤ 1) : turn (yName 1) b_law_F1 [1, 2, 3, 4, 5, 6, 7, 8, 9, 10, 11, 12, 13, 14] (.int (n : Int)) [some (.dat (.list (ns.map .int))), none, none, none, none, none, none, none, none, none, none, none, none, none, none] =
    .next [some (.dat (.list (ns.map .int))), none, none, none, none, none, none, none, none, none, none, none, none, none, none] := by
  have m0 := mixed_at ns (3 * n) (by omega)
  have m1 := mixed_at ns (3 * n + 1) (by omega)
  have m2 := mixed_at ns (3 * n + 2) (by omega)
  rw [show ((3 * n : Nat) : Int) = 3 * (n : Int) by omega] at m0
  rw [show ((3 * n + 1 : Nat) : Int) = 3 * (n : Int) + 1 by omega] at m1
  rw [show ((3 * n + 2 : Nat) : Int) = 3 * (n : Int) + 2 by omega] at m2
  generalize mixedV ns (3 * n) = x0 at m0
  generalize mixedV ns (3 * n + 1) = num at m1
  generalize mixedV ns (3 * n + 2) = x2 at m2
  obtain ⟨s, hs, es⟩ := some6 x0
  obtain ⟨f, hf, ef⟩ := some12 x2
  have r0 := Int.emod_nonneg num (show (5 : Int) ≠ 0 by decide)
  have r1 := Int.emod_lt_of_pos num (show (0 : Int) < 5 by decide)
  obtain ⟨m, hm⟩ := Int.eq_ofNat_of_zero_le r0
  have hm4 : m ≤ 4 := by omega
  have F := fF hs hm4
  have C := fC (fS hs).sum hm4
  have p1 : mulD (.int 3) (.int (n : Int)) = .ok (.int (3 * (n : Int))) := mulD_int (.inl (by decide))
  have p2 : modD (.int num) (.int 5) = .ok (.int (m : Int)) := by rw [modD_int (by decide), hm]
  have wg := whole_go (some (.dat (.list (ns.map .int)))) (some (.dat (.int (n : Int)))) s m (.dat (.int num)) (.dat (.list ((fillN s [] m).map encFN))) (.dat (.list ((countsN m (sumN s)).map encN))) hs (countsN m (sumN s)) 0 C.le
  rw [fold_whole, F.sum, Int.zero_add] at wg
  simp only [envW] at wg
  have hne := neD_LN (countsN m (sumN s))
  have mid := mid_at (some (.dat (.list (ns.map .int)))) (some (.dat (.int (n : Int)))) hs hm4 num
  have tl := tail_at (some (.dat (.list (ns.map .int)))) hf
  simp only [envF] at tl
  rw [F1_eq, turn_eq (ρ1 := [some (.dat (.list (ns.map .int))), some (.dat (.int (n : Int))), none, none, none, none, none, none, none, none, none, none, none, none, none]) rfl]
  have hb : b_F1 [some (.dat (.list (ns.map .int))), some (.dat (.int (n : Int))), none, none, none, none, none, none, none, none, none, none, none, none, none] = .next [some (.dat (.list (ns.map .int))), none, none, none, none, none, none, none, none, none, none, none, none, none, some (.dat (encN f))] := by
    cases hce : (countsN m (sumN s)).isEmpty with
    | true =>
      rw [hce] at hne
      simp only [b_F1, out_ok, out_bad, out_exc, xVar_def, xOwn_def, xC_def, xOp_def, xB_def, asB_bool, xChain_def, xAnd_def, xOr_def, xNot_def, xAndV_def, xOrV_def, xNotV_def, xNeg_def, negD_int, xNil_def, xCons_def, xTup_def, xLst_def, mkT_0, mkT_1, mkT_2, mkT_3, mkT_4, mkL_0, mkL_1, mkL_2, okLen_0, okLen_1, xCall_def, on1_def, on2_def, xSl_def, xPart_def, asI_int, xNoPart_def, xIt_def, xItems_def, itemsD_t, itemsD_l, enumD_t, xYes_def, sNext_def, sPass_def, sBreak_def, sCont_def, seqOut_next, seqOut_ret, seqOut_exc, seqOut_brk, seqOut_cont, seqOut_bad, sSeq_def, sKill_def, sRet_def, sIf_def, sAsg_name, yName_def, yTup_def, yCons_def, yNil_def, sNewOwn_def, sApp_def, sFor_def, forGo_nil, outRes_ret, outRes_next, outRes_exc, fnD_1, fnD_2, fnD_3, addD_int, subD_int, ltD_int, leD_int, gtD_int, geD_int, eqD_int, neD_int, lenD_t, lenD_l, tupleD_t, tupleD_l, listD_t, listD_l, isD_none, isNotD_none, isNoneD_none, isNoneD_int, slD_l1, slD_t1, lenD_F, lenD_W, slD_Fto, slD_Wto, slD_Ffrom, slD_Wfrom, slD_Ffrom1, slD_Wfrom1, itemsD_W, itemsD_F, enumD_W, enumD_F, tupleD_W, tupleD_F, ownAt_def, lk_nil, lk_zero, lk_succ, st_nil, st_zero, st_succ, kill_nil, kill_cons, Res.bind_ok, Res.bind_exc, Res.bind_bad, ↓reduceIte, Bool.false_eq_true, Bool.not_true, Bool.not_false, Option.bind_some, List.length_cons, List.length_nil, Nat.reduceAdd, Nat.reduceSub, Nat.reduceEqDiff, decide_eq_true_eq, p1, m0, es, m1, p2, F.eq, F.up, List.length_map, decide_true, sumD_N, C.eq, wg, hne, m2, ef, tl]
    | false =>
      rw [hce] at hne
      obtain ⟨e, h1, h2⟩ := mid (by
        cases h : countsN m (sumN s) with
        | nil => rw [h] at hce; cases hce
        | cons _ _ => simp)
      simp only [b_F1, out_ok, out_bad, out_exc, xVar_def, xOwn_def, xC_def, xOp_def, xB_def, asB_bool, xChain_def, xAnd_def, xOr_def, xNot_def, xAndV_def, xOrV_def, xNotV_def, xNeg_def, negD_int, xNil_def, xCons_def, xTup_def, xLst_def, mkT_0, mkT_1, mkT_2, mkT_3, mkT_4, mkL_0, mkL_1, mkL_2, okLen_0, okLen_1, xCall_def, on1_def, on2_def, xSl_def, xPart_def, asI_int, xNoPart_def, xIt_def, xItems_def, itemsD_t, itemsD_l, enumD_t, xYes_def, sNext_def, sPass_def, sBreak_def, sCont_def, seqOut_next, seqOut_ret, seqOut_exc, seqOut_brk, seqOut_cont, seqOut_bad, sSeq_def, sKill_def, sRet_def, sIf_def, sAsg_name, yName_def, yTup_def, yCons_def, yNil_def, sNewOwn_def, sApp_def, sFor_def, forGo_nil, outRes_ret, outRes_next, outRes_exc, fnD_1, fnD_2, fnD_3, addD_int, subD_int, ltD_int, leD_int, gtD_int, geD_int, eqD_int, neD_int, lenD_t, lenD_l, tupleD_t, tupleD_l, listD_t, listD_l, isD_none, isNotD_none, isNoneD_none, isNoneD_int, slD_l1, slD_t1, lenD_F, lenD_W, slD_Fto, slD_Wto, slD_Ffrom, slD_Wfrom, slD_Ffrom1, slD_Wfrom1, itemsD_W, itemsD_F, enumD_W, enumD_F, tupleD_W, tupleD_F, ownAt_def, lk_nil, lk_zero, lk_succ, st_nil, st_zero, st_succ, kill_nil, kill_cons, Res.bind_ok, Res.bind_exc, Res.bind_bad, ↓reduceIte, Bool.false_eq_true, Bool.not_true, Bool.not_false, Option.bind_some, List.length_cons, List.length_nil, Nat.reduceAdd, Nat.reduceSub, Nat.reduceEqDiff, decide_eq_true_eq, p1, m0, es, m1, p2, F.eq, F.up, List.length_map, decide_true, sumD_N, C.eq, wg, hne, h1, h2, m2, ef, tl]
  rw [hb]
  rfl
theorem pure_law : ∀ ns : List Int, ns.length ≤ 63 → dn_law [.list (ns.map .int)] = .ok (.bool true) := by
  intro ns _
  have h1 : b_law_1 [none, none, none, none, none, none, none, none, none, none, none, none, none, none, none] = .ret (.bool true) := by kernel_rfl
  have t0 := turn_at ns 0 (by decide)
  have t1 := turn_at ns 1 (by decide)
  have r : range1D [.int 2] = .ok [.int ((0 : Nat) : Int), .int ((1 : Nat) : Int)] := rfl
  unfold dn_law
  simp only [env0, List.map_cons, List.map_nil, List.replicate_succ, List.replicate_zero, List.cons_append, List.nil_append, out_ok, out_bad, out_exc, xVar_def, xOwn_def, xC_def, xOp_def, xB_def, asB_bool, xChain_def, xAnd_def, xOr_def, xNot_def, xAndV_def, xOrV_def, xNotV_def, xNeg_def, negD_int, xNil_def, xCons_def, xTup_def, xLst_def, mkT_0, mkT_1, mkT_2, mkT_3, mkT_4, mkL_0, mkL_1, mkL_2, okLen_0, okLen_1, xCall_def, on1_def, on2_def, xSl_def, xPart_def, asI_int, xNoPart_def, xIt_def, xItems_def, itemsD_t, itemsD_l, enumD_t, xYes_def, sNext_def, sPass_def, sBreak_def, sCont_def, seqOut_next, seqOut_ret, seqOut_exc, seqOut_brk, seqOut_cont, seqOut_bad, sSeq_def, sKill_def, sRet_def, sIf_def, sAsg_name, yName_def, yTup_def, yCons_def, yNil_def, sNewOwn_def, sApp_def, sFor_def, forGo_nil, outRes_ret, outRes_next, outRes_exc, fnD_1, fnD_2, fnD_3, addD_int, subD_int, ltD_int, leD_int, gtD_int, geD_int, eqD_int, neD_int, lenD_t, lenD_l, tupleD_t, tupleD_l, listD_t, listD_l, isD_none, isNotD_none, isNoneD_none, isNoneD_int, slD_l1, slD_t1, lenD_F, lenD_W, slD_Fto, slD_Wto, slD_Ffrom, slD_Wfrom, slD_Ffrom1, slD_Wfrom1, itemsD_W, itemsD_F, enumD_W, enumD_F, tupleD_W, tupleD_F, ownAt_def, lk_nil, lk_zero, lk_succ, st_nil, st_zero, st_succ, kill_nil, kill_cons, Res.bind_ok, Res.bind_exc, Res.bind_bad, ↓reduceIte, Bool.false_eq_true, Bool.not_true, Bool.not_false, Option.bind_some, List.length_cons, List.length_nil, Nat.reduceAdd, Nat.reduceSub, Nat.reduceEqDiff, decide_eq_true_eq, b_law, r]
  rw [forGo_next t0, forGo_next t1, forGo_nil, seqOut_next, sKill_def]
  show outRes (b_law_1 [none, none, none, none, none, none, none, none, none, none, none, none, none, none, none]) = _
  rw [h1]
  rfl

end Law
end
end
open PySem PySem.W PySem.Calls PyProof.Rows
theorem PySem.Challenge.cw_stairbox_k70_whole_numbers_of_fillings_holds : PySem.Challenge.rw_stairbox_k70_whole_numbers_of_fillings.Holds := by
  w_on; o_law
  refine HandSHeadRun.head_any (r := OpenLaw.row PySem.Challenge.rw_stairbox_k70_whole_numbers_of_fillings) (q := view (OpenLaw.row PySem.Challenge.rw_stairbox_k70_whole_numbers_of_fillings).prog [15]) (H := Law.hk) (ob := Law.ob) (M := 3000) (loose := Law.looseL)
    (d := HandSHeadRun.topDef (OpenLaw.row PySem.Challenge.rw_stairbox_k70_whole_numbers_of_fillings).prog 15) (kwd := []) Law.ob_eq
    (by kernel_rfl) (fun s => by kernel_rfl) Law.run (by kernel_rfl) (by kernel_rfl) (by kernel_rfl) (by rfl) (by first | assumption | decide +kernel) (by decide +kernel) ⟨rfl, rfl, rfl, rfl, rfl, by decide +kernel⟩ ?hw ?hc
  case hw => w_witness2
  case hc =>
    refine L2.walk_ofE (l := PySem.Challenge.rw_stairbox_k70_whole_numbers_of_fillings) (n := 63) (k := 16) (x := "script") (CX := L2.CX0) rfl (by decide) (by kernel_rfl) ⟨rfl, by decide, by decide⟩ ?F (fun _ _ _ _ z => z)
    intro w mg fa h Y G hmg0
    obtain ⟨K, KX, c⟩ := Y
    have hmg : mg ("law" : PySem.Str) = some (.ref fa) := by
      have e : (HandSHeadRun.topDef (OpenLaw.row PySem.Challenge.rw_stairbox_k70_whole_numbers_of_fillings).prog 15).name = ("law" : PySem.Str) := by kernel_rfl
      rw [← e]
      exact hmg0
    obtain ⟨fd, hb, hF⟩ := Law.facts (P := (PySem.Challenge.rw_stairbox_k70_whole_numbers_of_fillings).prog) (w := w) KX G hmg c
    exact ⟨K, fd, fun vs H Q _ => SB.spOf K (fun _ => .none) Law.dn_law vs H Q fun _ _ _ => False, KX, hb, fun H a ns hl _ hS => SB.law_sp Law.pure_law H a ns hl hS, fun base h1 h2 => SB.calm_fn (hF base h1 h2)⟩
