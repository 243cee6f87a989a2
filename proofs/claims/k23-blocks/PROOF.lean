import PyProof.Rows.All
import Wide.All
import OpenK.AllK
import Wide.FinOn
import HandS.ForMost
import HandS.Exc
import HandS.WordsExc
import HandS.Lambda
import HandS.Flow
import HandS.Style
import HandS.IsInst
import HandS.Deep
import HandS.TupAny
import HandS.TupMul
import HandS.Wide
import HandS.Replace
import HandS.Walk
import HandS.ExcInit
import HandS.ExcField
import HandS.TryOnly
import KE.GoesMore
import KE.GoesEnum
import HandS.EndOwn
import HandS.CallSlots
import HandS.Dict
import KE.KDictKeyed
import KE.DataMinMax
import KE.LtData
import HandS.Zip
import HandS.Conv
import HandS.SetFor
import HandS.Strs
import HandS.SortInts
import HandS.More
import PySem.Challenge.RW_beamboards_k23_whole_blocked_cells
set_option Elab.async false
set_option linter.all false
set_option maxRecDepth 100000
set_option Elab.async false
set_option linter.all false
set_option maxRecDepth 100000
set_option maxHeartbeats 2000000
/-! PdA: deep data over the hand layer: what a value is (Rp), slots (SV), the state of a body (R). -/
namespace PD
open PySem L2

abbrev D := PyData
/-- what a slot (or a value held on the way) has: nothing known, data that nobody changes, an object of the body's own -/
inductive SV where
  | no
  | val (d : D)
  | own (d : D)
abbrev Sl := List SV

def kD : Key → D
  | .inl i => .int i
  | .inr x => .str x
def kT (k : List Key) : D := .tuple (k.map kD)

mutual
inductive Rp (K : PySem.W.Frag) (F : Hp) : V → D → Prop
  | non : Rp K F .non .none
  | bl (b : Bool) : Rp K F (.bl b) (.bool b)
  | int (i : Int) : Rp K F (.int i) (.int i)
  | str (x : Str) : Rp K F (.str x) (.str x)
  | lst {a : Addr} {xs : List V} {ds : List D} : Rd F a (.lst xs) → RpA K F xs ds → Rp K F (.ref a) (.list ds)
  | tup {a : Addr} {xs : List V} {ds : List D} : F a = some (.tup xs) → RpA K F xs ds → Rp K F (.ref a) (.tuple ds)
  | dK {a : Addr} {kvs : List (Key × V)} {es : List (D × D)} : Rd F a (.dK kvs) → es.map (·.1) = kvs.map (fun p => kD p.1) → RpA K F (kvs.map (·.2)) (es.map (·.2)) → Rp K F (.ref a) (.dict es)
  | dT {a : Addr} {kvs : List (List Key × V)} {es : List (D × D)} : Rd F a (.dT kvs) → es.map (·.1) = kvs.map (fun p => kT p.1) → RpA K F (kvs.map (·.2)) (es.map (·.2)) → Rp K F (.ref a) (.dict ((.none, .none) :: es))
inductive RpA (K : PySem.W.Frag) (F : Hp) : List V → List D → Prop
  | nil : RpA K F [] []
  | cons {v : V} {vs : List V} {d : D} {ds : List D} : Rp K F v d → RpA K F vs ds → RpA K F (v :: vs) (d :: ds)
end

theorem rd_mono {F F' : Hp} {a : Addr} {u : HO} (e : Same F F') (h : Rd F a u) : Rd F' a u := by
  rcases h with h | ⟨o, h⟩
  · exact .inl (e _ _ h)
  · exact .inr ⟨o, e _ _ h⟩
theorem sqt_mono {K : PySem.W.Frag} {F F' : Hp} {a : Addr} {xs : List V} (e : Same F F') (h : SqT K F a xs) : SqT K F' a xs := by
  rcases h with h | h
  · exact .inl (rd_mono e h)
  · exact .inr h
mutual
theorem Rp.mono {K : PySem.W.Frag} {F F' : Hp} (e : Same F F') : ∀ (d : D) (v : V), Rp K F v d → Rp K F' v d
  | .none, _, h => by cases h; exact .non
  | .bool b, _, h => by cases h; exact .bl b
  | .int i, _, h => by cases h; exact .int i
  | .str x, _, h => by cases h; exact .str x
  | .list ds, _, h => by
    cases h with
    | lst h1 h2 => exact .lst (rd_mono e h1) (RpA.mono e ds _ h2)
  | .tuple ds, _, h => by
    cases h with
    | tup h1 h2 => exact .tup (e _ _ h1) (RpA.mono e ds _ h2)
  | .dict es, _, h => by
    have q : ∀ vs, RpA K F vs (es.map (·.2)) → RpA K F' vs (es.map (·.2)) := fun vs h => RpE.mono e es vs h
    cases h with
    | dK h1 h2 h3 => exact .dK (rd_mono e h1) h2 (q _ h3)
    | dT h1 h2 h3 =>
      have k := q (V.non :: _) (.cons .non h3)
      cases k with
      | cons _ k2 => exact .dT (rd_mono e h1) h2 k2
theorem RpA.mono {K : PySem.W.Frag} {F F' : Hp} (e : Same F F') : ∀ (ds : List D) (vs : List V), RpA K F vs ds → RpA K F' vs ds
  | [], _, h => by cases h; exact .nil
  | d :: ds, _, h => by
    cases h with
    | cons h1 h2 => exact .cons (Rp.mono e d _ h1) (RpA.mono e ds _ h2)
theorem RpE.mono {K : PySem.W.Frag} {F F' : Hp} (e : Same F F') : ∀ (es : List (D × D)) (vs : List V), RpA K F vs (es.map (·.2)) → RpA K F' vs (es.map (·.2))
  | [], _, h => by
    cases h; exact .nil
  | (a, b) :: es, _, h => by
    cases h with
    | cons h1 h2 => exact .cons (Rp.mono e b _ h1) (RpE.mono e es _ h2)
end
theorem RpA.len {K : PySem.W.Frag} {F : Hp} : ∀ {vs : List V} {ds : List D}, RpA K F vs ds → vs.length = ds.length
  | [], _, h => by cases h; rfl
  | v :: vs, _, h => by
    cases h with
    | cons _ h2 => simp [RpA.len h2]
theorem RpA.get {K : PySem.W.Frag} {F : Hp} : ∀ {vs : List V} {ds : List D} {i : Nat} {d : D}, RpA K F vs ds → ds[i]? = some d → ∃ v, vs[i]? = some v ∧ Rp K F v d
  | [], _, i, d, h, e => by cases h; simp at e
  | v :: vs, _, 0, d, h, e => by
    cases h with
    | cons h1 _ => simp at e; subst e; exact ⟨v, rfl, h1⟩
  | v :: vs, _, i + 1, d, h, e => by
    cases h with
    | cons _ h2 =>
      obtain ⟨u, e1, e2⟩ := RpA.get (i := i) h2 (by simpa using e)
      exact ⟨u, by simpa using e1, e2⟩
theorem RpA.getV {K : PySem.W.Frag} {F : Hp} : ∀ {vs : List V} {ds : List D} {i : Nat} {v : V}, RpA K F vs ds → vs[i]? = some v → ∃ d, ds[i]? = some d ∧ Rp K F v d
  | [], _, i, d, h, e => by simp at e
  | v :: vs, _, 0, d, h, e => by
    cases h with
    | cons h1 _ => simp at e; subst e; exact ⟨_, rfl, h1⟩
  | v :: vs, _, i + 1, d, h, e => by
    cases h with
    | cons _ h2 =>
      obtain ⟨u, e1, e2⟩ := RpA.getV (i := i) h2 (by simpa using e)
      exact ⟨u, by simpa using e1, e2⟩
theorem RpA.app {K : PySem.W.Frag} {F : Hp} : ∀ {vs ws : List V} {ds es : List D}, RpA K F vs ds → RpA K F ws es → RpA K F (vs ++ ws) (ds ++ es)
  | [], _, _, _, h, k => by cases h; exact k
  | v :: vs, _, _, _, h, k => by
    cases h with
    | cons h1 h2 => exact .cons h1 (h2.app k)
theorem RpA.take {K : PySem.W.Frag} {F : Hp} : ∀ {vs : List V} {ds : List D} (n : Nat), RpA K F vs ds → RpA K F (vs.take n) (ds.take n)
  | _, _, 0, _ => .nil
  | [], _, _ + 1, h => by cases h; exact .nil
  | v :: vs, _, n + 1, h => by
    cases h with
    | cons h1 h2 => exact .cons h1 (h2.take n)
theorem RpA.drop {K : PySem.W.Frag} {F : Hp} : ∀ {vs : List V} {ds : List D} (n : Nat), RpA K F vs ds → RpA K F (vs.drop n) (ds.drop n)
  | _, _, 0, h => h
  | [], _, _ + 1, h => by cases h; exact .nil
  | v :: vs, _, n + 1, h => by
    cases h with
    | cons h1 h2 => exact h2.drop n
theorem RpA.set {K : PySem.W.Frag} {F : Hp} : ∀ {vs : List V} {ds : List D} (i : Nat) {v : V} {d : D}, RpA K F vs ds → Rp K F v d → RpA K F (vs.set i v) (ds.set i d)
  | [], _, _, _, _, h, _ => by cases h; exact .nil
  | x :: vs, _, 0, _, _, h, k => by
    cases h with
    | cons h1 h2 => exact .cons k h2
  | x :: vs, _, i + 1, _, _, h, k => by
    cases h with
    | cons h1 h2 => exact .cons h1 (h2.set i k)
theorem RpA.mk {K : PySem.W.Frag} {F : Hp} : ∀ {vs : List V} {ds : List D}, vs.length = ds.length → (∀ (i : Nat) v d, vs[i]? = some v → ds[i]? = some d → Rp K F v d) → RpA K F vs ds
  | [], [], _, _ => .nil
  | v :: vs, d :: ds, h, k => .cons (k 0 v d rfl rfl) (RpA.mk (by simpa using h) fun i v d e1 e2 => k (i + 1) v d (by simpa using e1) (by simpa using e2))
  | [], _ :: _, h, _ => by simp at h
  | _ :: _, [], h, _ => by simp at h
theorem RpA.rev {K : PySem.W.Frag} {F : Hp} : ∀ {vs : List V} {ds : List D}, RpA K F vs ds → RpA K F vs.reverse ds.reverse
  | [], _, h => by cases h; exact .nil
  | v :: vs, _, h => by
    cases h with
    | cons h1 h2 => simp only [List.reverse_cons]; exact (h2.rev).app (.cons h1 .nil)
theorem RpA.ints {K : PySem.W.Frag} {F : Hp} : ∀ ns : List Int, RpA K F (ns.map V.int) (ns.map PyData.int)
  | [] => .nil
  | n :: ns => .cons (.int n) (RpA.ints ns)

/- no dict in it: it can be compared -/
mutual
theorem Rp.dp {K : PySem.W.Frag} {F : Hp} : ∀ (d : D) (v : V), d.canLay0 = true → Rp K F v d → Dp K F v d
  | .none, _, _, h => by cases h; exact .non
  | .bool b, _, _, h => by cases h; exact .bl b
  | .int i, _, _, h => by cases h; exact .int i
  | .str x, _, _, h => by cases h; exact .str x
  | .list ds, _, c, h => by
    cases h with
    | lst h1 h2 => exact .lst (.inl h1) (RpA.dp ds _ (by simpa [PyData.canLay0] using c) h2)
  | .tuple ds, _, c, h => by
    cases h with
    | tup h1 h2 => exact .tup (.inl (.inl h1)) (RpA.dp ds _ (by simpa [PyData.canLay0] using c) h2)
  | .dict es, _, c, h => by simp [PyData.canLay0] at c
theorem RpA.dp {K : PySem.W.Frag} {F : Hp} : ∀ (ds : List D) (vs : List V), PyData.canLayAll0 ds = true → RpA K F vs ds → DpAll K F vs ds
  | [], _, _, h => by cases h; exact .nil
  | d :: ds, _, c, h => by
    have c' : d.canLay0 = true ∧ PyData.canLayAll0 ds = true := by simpa [PyData.canLayAll0] using c
    cases h with
    | cons h1 h2 => exact .cons (Rp.dp d _ c'.1 h1) (RpA.dp ds _ c'.2 h2)
end

/-- the object o, its parts frozen in F, is d -/
inductive Own (K : PySem.W.Frag) (F : Hp) : HO → D → Prop
  | lst {xs : List V} {ds : List D} : RpA K F xs ds → Own K F (.lst xs) (.list ds)
  | dK {kvs : List (Key × V)} {es : List (D × D)} : es.map (·.1) = kvs.map (fun p => kD p.1) → RpA K F (kvs.map (·.2)) (es.map (·.2)) → Own K F (.dK kvs) (.dict es)
  | dT {kvs : List (List Key × V)} {es : List (D × D)} : es.map (·.1) = kvs.map (fun p => kT p.1) → RpA K F (kvs.map (·.2)) (es.map (·.2)) → Own K F (.dT kvs) (.dict ((.none, .none) :: es))
theorem Own.mono {K : PySem.W.Frag} {F F' : Hp} {o : HO} {d : D} (e : Same F F') (h : Own K F o d) : Own K F' o d := by
  cases h with
  | lst h => exact .lst (RpA.mono e _ _ h)
  | dK h1 h2 => exact .dK h1 (RpA.mono e _ _ h2)
  | dT h1 h2 => exact .dT h1 (RpA.mono e _ _ h2)
theorem Own.rp {K : PySem.W.Frag} {F : Hp} {a : Addr} {o : HO} {d : D} (h : Own K F o d) (ha : F a = some o) : Rp K F (.ref a) d := by
  cases h with
  | lst h => exact .lst (.of ha) h
  | dK h1 h2 => exact .dK (.of ha) h1 h2
  | dT h1 h2 => exact .dT (.of ha) h1 h2
theorem Own.ntbl {K : PySem.W.Frag} {F : Hp} {o : HO} {d : D} (h : Own K F o d) : ∀ ps, o ≠ .tbl ps := by
  cases h <;> intro ps e <;> cases e

/-- what may be read now: frozen data, or an own object -/
def Rr (K : PySem.W.Frag) (F H : Hp) (v : V) (d : D) : Prop := Rp K F v d ∨ ∃ a o, v = .ref a ∧ H a = some o ∧ Own K F o d
theorem Rr.rp {K : PySem.W.Frag} {F H : Hp} {v : V} {d : D} (e : Same F H) (h : Rr K F H v d) : Rp K H v d := by
  rcases h with h | ⟨a, o, rfl, ha, h⟩
  · exact Rp.mono e _ _ h
  · exact (h.mono e).rp ha
theorem Rr.lst {K : PySem.W.Frag} {F H : Hp} {v : V} {ds : List D} (e : Same F H) (h : Rr K F H v (.list ds)) : ∃ a xs, v = .ref a ∧ Rd H a (.lst xs) ∧ RpA K F xs ds := by
  rcases h with h | ⟨a, o, rfl, ha, h⟩
  · cases h with
    | lst h1 h2 => exact ⟨_, _, rfl, rd_mono e h1, h2⟩
  · cases h with
    | lst h => exact ⟨a, _, rfl, .of ha, h⟩
theorem Rr.tup {K : PySem.W.Frag} {F H : Hp} {v : V} {ds : List D} (e : Same F H) (h : Rr K F H v (.tuple ds)) : ∃ a xs, v = .ref a ∧ SqT K H a xs ∧ RpA K F xs ds := by
  rcases h with h | ⟨a, o, rfl, ha, h⟩
  · cases h with
    | tup h1 h2 => exact ⟨_, _, rfl, .inl (.inl (e _ _ h1)), h2⟩
  · cases h
theorem Rr.int {K : PySem.W.Frag} {F H : Hp} {v : V} {i : Int} (h : Rr K F H v (.int i)) : v = .int i := by
  rcases h with h | ⟨a, o, rfl, ha, h⟩ <;> cases h <;> rfl
theorem Rr.str {K : PySem.W.Frag} {F H : Hp} {v : V} {x : Str} (h : Rr K F H v (.str x)) : v = .str x := by
  rcases h with h | ⟨a, o, rfl, ha, h⟩ <;> cases h <;> rfl
theorem Rr.bl {K : PySem.W.Frag} {F H : Hp} {v : V} {b : Bool} (h : Rr K F H v (.bool b)) : v = .bl b := by
  rcases h with h | ⟨a, o, rfl, ha, h⟩ <;> cases h <;> rfl
theorem Rr.non {K : PySem.W.Frag} {F H : Hp} {v : V} (h : Rr K F H v .none) : v = .non := by
  rcases h with h | ⟨a, o, rfl, ha, h⟩ <;> cases h <;> rfl
inductive RrA (K : PySem.W.Frag) (F H : Hp) : List V → List D → Prop
  | nil : RrA K F H [] []
  | cons {v : V} {vs : List V} {d : D} {ds : List D} : Rr K F H v d → RrA K F H vs ds → RrA K F H (v :: vs) (d :: ds)

/-- an exception: its class's name, its fields -/
structure Exn where
  cls : Str
  fs : List (Str × D)

/-- what a body starts from: the frozen heap, the heap, the object that it may change, the tables of code objects -/
structure Cfg where
  K : PySem.W.Frag
  mg : Str → Option Value
  F0 : Hp
  H0 : Hp
  io : List Addr
  T : List (Addr × Str)
  /-- the object that was handed in to be changed stands in slot 0 -/
  pin : Option V

abbrev Cells := List (Option V × SV)
def CellOk (K : PySem.W.Frag) (F H : Hp) : Option V × SV → Prop
  | (_, .no) => True
  | (some v, .val d) => Rp K F v d
  | (some (.ref a), .own d) => F a = none ∧ ∃ o, H a = some o ∧ Own K F o d
  | _ => False
def ownA : Option V × SV → Option Addr
  | (some (.ref a), .own _) => some a
  | _ => none

structure R (c : Cfg) (F : Hp) (cs : Cells) (H : Hp) : Prop where
  sub : Same F H
  grow0 : Same c.F0 F
  growN : ∀ b, c.F0 b = none → F b ≠ none → c.H0 b = none ∨ b ∈ c.io
  kept : ∀ b o, c.H0 b = some o → b ∉ c.io → H b = some o
  tabs : LamX.Tabs c.T H
  ntb : ∀ b ps, F b = some (.tbl ps) → c.F0 b = some (.tbl ps)
  ok : ∀ x ∈ cs, CellOk c.K F H x
  dis : (cs.filterMap ownA).Nodup
  own : ∀ a ∈ cs.filterMap ownA, c.H0 a = none ∨ a ∈ c.io

/-- both heaps grow by new objects -/
structure Grow (F H F' H' : Hp) : Prop where
  f : Same F F'
  h : Same H H'
  sub : Same F' H'
  new : ∀ b, F' b ≠ none → F b = none → H b = none
  ntb : ∀ b ps, F' b = some (.tbl ps) → F b = some (.tbl ps)
theorem Grow.refl {F H : Hp} (s : Same F H) : Grow F H F H := ⟨Same.refl _, Same.refl _, s, fun b h n => absurd n h, fun _ _ h => h⟩
theorem Grow.trans {F H F1 H1 F2 H2 : Hp} (a : Grow F H F1 H1) (b : Grow F1 H1 F2 H2) : Grow F H F2 H2 :=
  ⟨a.f.trans b.f, a.h.trans b.h, b.sub, fun x h n => by
    cases e : F1 x with
    | none => exact a.h.free (b.new x h e)
    | some o => exact a.new x (by rw [e]; simp) n, fun x ps h => a.ntb x ps (b.ntb x ps h)⟩
/-- a new frozen object -/
theorem Grow.lay {F H : Hp} {p : Addr} {o : HO} (s : Same F H) (hp : H p = none) (ho : ∀ ps, o ≠ .tbl ps := by intro ps z; cases z) : Grow F H (upd F p o) (upd H p o) := by
  have fp : F p = none := s.free hp
  refine ⟨fun b u e => ?_, fun b u e => ?_, fun b u e => ?_, fun b h n => ?_, fun b ps h => ?_⟩
  · rw [upd_ne (ne_of_none e fp)]; exact e
  · rw [upd_ne (ne_of_none e hp)]; exact e
  · by_cases hb : b = p
    · subst hb; rw [upd_same] at e ⊢; exact e
    · rw [upd_ne hb] at e ⊢; exact s _ _ e
  · by_cases hb : b = p
    · rw [hb]; exact hp
    · rw [upd_ne hb] at h; exact absurd n h
  · by_cases hb : b = p
    · subst hb; rw [upd_same] at h; exact absurd (Option.some.inj h) (ho ps)
    · rw [upd_ne hb] at h; exact h
/-- a new object that is not frozen -/
theorem Grow.new1 {F H : Hp} {p : Addr} {o : HO} (s : Same F H) (hp : H p = none) : Grow F H F (upd H p o) := by
  refine ⟨Same.refl _, fun b u e => ?_, fun b u e => ?_, fun b h n => absurd n h, fun _ _ h => h⟩
  · rw [upd_ne (ne_of_none e hp)]; exact e
  · rw [upd_ne (ne_of_none (s _ _ e) hp)]; exact s _ _ e

theorem CellOk.grow {K : PySem.W.Frag} {F H F' H' : Hp} {x : Option V × SV} (g : Grow F H F' H') (h : CellOk K F H x) : CellOk K F' H' x := by
  obtain ⟨v, s⟩ := x
  cases s with
  | no => trivial
  | val d =>
    cases v with
    | none => exact h.elim
    | some v => exact Rp.mono g.f _ _ h
  | own d =>
    cases v with
    | none => exact h.elim
    | some v =>
      cases v with
      | ref a =>
        obtain ⟨h1, o, h2, h3⟩ := h
        refine ⟨?_, o, g.h _ _ h2, h3.mono g.f⟩
        cases e : F' a with
        | none => rfl
        | some u =>
          have := g.new a (by rw [e]; simp) h1
          rw [h2] at this; cases this
      | _ => exact h.elim
theorem R.grow {c : Cfg} {F H F' H' : Hp} {cs : Cells} (r : R c F cs H) (g : Grow F H F' H') : R c F' cs H' where
  sub := g.sub
  grow0 := r.grow0.trans g.f
  growN := fun b h n => by
    cases e : F b with
    | some o => exact r.growN b h (by rw [e]; simp)
    | none =>
      have hb := g.new b n e
      by_cases hi : b ∈ c.io
      · exact .inr hi
      · refine .inl ?_
        cases q : c.H0 b with
        | none => rfl
        | some u => rw [r.kept b u q hi] at hb; cases hb
  kept := fun b o h hi => g.h _ _ (r.kept b o h hi)
  tabs := r.tabs.ext g.h
  ntb := fun b ps h => r.ntb b ps (g.ntb b ps h)
  ok := fun x hx => (r.ok x hx).grow g
  dis := r.dis
  own := r.own
theorem R.fresh {c : Cfg} {F H : Hp} {cs : Cells} (r : R c F cs H) {p : Addr} (hp : H p = none) : c.H0 p = none ∨ p ∈ c.io := by
  by_cases hi : p ∈ c.io
  · exact .inr hi
  · refine .inl ?_
    cases q : c.H0 p with
    | none => rfl
    | some u => rw [r.kept p u q hi] at hp; cases hp
theorem ownA_mem {cs : Cells} {a : Addr} (h : a ∈ cs.filterMap ownA) : ∃ d, (some (V.ref a), SV.own d) ∈ cs := by
  obtain ⟨x, hx, e⟩ := List.mem_filterMap.mp h
  obtain ⟨v, s⟩ := x
  cases s with
  | own d =>
    cases v with
    | none => cases e
    | some v =>
      cases v with
      | ref b => cases e; exact ⟨d, hx⟩
      | _ => cases e
  | _ => cases v <;> (try (rename_i v; cases v)) <;> cases e
/-- own objects stand in the heap -/
theorem R.ownThere {c : Cfg} {F H : Hp} {cs : Cells} (r : R c F cs H) {a : Addr} (h : a ∈ cs.filterMap ownA) : F a = none ∧ ∃ o d, H a = some o ∧ Own c.K F o d := by
  obtain ⟨d, hd⟩ := ownA_mem h
  obtain ⟨h1, o, h2, h3⟩ := r.ok _ hd
  exact ⟨h1, o, d, h2, h3⟩
theorem R.nil {c : Cfg} {F H : Hp} {cs : Cells} (r : R c F cs H) : R c F [] H :=
  ⟨r.sub, r.grow0, r.growN, r.kept, r.tabs, r.ntb, (by simp), (by simp), (by simp)⟩
/-- fewer cells, or in another order -/
theorem R.perm {c : Cfg} {F H : Hp} {cs cs' : Cells} (r : R c F cs H) (h : ∀ x ∈ cs', x ∈ cs) (hd : (cs'.filterMap ownA).Nodup) : R c F cs' H :=
  ⟨r.sub, r.grow0, r.growN, r.kept, r.tabs, r.ntb, fun x hx => r.ok x (h x hx), hd, fun a ha => by
    obtain ⟨x, hx, e⟩ := List.mem_filterMap.mp ha
    exact r.own a (List.mem_filterMap.mpr ⟨x, h x hx, e⟩)⟩
theorem R.subl {c : Cfg} {F H : Hp} {cs cs' : Cells} (r : R c F cs H) (h : cs'.Sublist cs) : R c F cs' H :=
  r.perm (fun x hx => h.subset hx) (List.Nodup.sublist (h.filterMap ownA) r.dis)
theorem R.drop {c : Cfg} {F H : Hp} {x : Option V × SV} {cs : Cells} (r : R c F (x :: cs) H) : R c F cs H := r.subl (List.sublist_cons_self x cs)
/-- frozen data as a further cell -/
theorem R.addV {c : Cfg} {F H : Hp} {cs : Cells} {v : V} {d : D} (r : R c F cs H) (h : Rp c.K F v d) : R c F ((some v, .val d) :: cs) H := by
  have e : ownA (some v, SV.val d) = none := by cases v <;> rfl
  refine ⟨r.sub, r.grow0, r.growN, r.kept, r.tabs, r.ntb, fun x hx => ?_, ?_, ?_⟩
  · rcases List.mem_cons.mp hx with rfl | hx
    · exact h
    · exact r.ok x hx
  · rw [List.filterMap_cons, e]; exact r.dis
  · rw [List.filterMap_cons, e]; exact r.own
theorem R.addN {c : Cfg} {F H : Hp} {cs : Cells} {v : Option V} (r : R c F cs H) : R c F ((v, .no) :: cs) H := by
  have e : ownA (v, SV.no) = none := by rcases v with _ | v <;> (try cases v) <;> rfl
  refine ⟨r.sub, r.grow0, r.growN, r.kept, r.tabs, r.ntb, fun x hx => ?_, ?_, ?_⟩
  · rcases List.mem_cons.mp hx with rfl | hx
    · trivial
    · exact r.ok x hx
  · rw [List.filterMap_cons, e]; exact r.dis
  · rw [List.filterMap_cons, e]; exact r.own
/-- a new own object as a further cell -/
theorem R.addO {c : Cfg} {F H F' H' : Hp} {cs : Cells} {p : Addr} {o : HO} {d : D} (r : R c F cs H) (g : Grow F H F' H') (hp : H p = none) (fp : F' p = none) (ho : H' p = some o) (h : Own c.K F' o d) : R c F' ((some (.ref p), .own d) :: cs) H' := by
  have r' := r.grow g
  have np : p ∉ cs.filterMap ownA := fun z => by
    obtain ⟨_, u, _, e, _⟩ := r.ownThere z
    rw [hp] at e; cases e
  refine ⟨r'.sub, r'.grow0, r'.growN, r'.kept, r'.tabs, r'.ntb, fun x hx => ?_, ?_, ?_⟩
  · rcases List.mem_cons.mp hx with rfl | hx
    · exact ⟨fp, o, ho, h⟩
    · exact r'.ok x hx
  · show (p :: cs.filterMap ownA).Nodup
    exact List.nodup_cons.mpr ⟨np, r.dis⟩
  · intro a ha
    rcases List.mem_cons.mp (show a ∈ p :: cs.filterMap ownA from ha) with rfl | ha
    · exact r.fresh hp
    · exact r.own a ha
/-- an own object is frozen: from the front -/
theorem R.freeze {c : Cfg} {F H : Hp} {cs : Cells} {v : Option V} {d : D} (r : R c F ((v, .own d) :: cs) H) : ∃ F', Same F F' ∧ R c F' ((v, .val d) :: cs) H := by
  have h0 := r.ok _ List.mem_cons_self
  rcases v with _ | v
  · exact h0.elim
  cases v with
  | ref a =>
    obtain ⟨h1, o, h2, h3⟩ := h0
    have ss : Same F (upd F a o) := fun b u e => by rw [upd_ne (ne_of_none e h1)]; exact e
    have nd : (a :: cs.filterMap ownA).Nodup := r.dis
    have na := (List.nodup_cons.mp nd).1
    have ss' : Same (upd F a o) H := fun b u e => by
      by_cases hb : b = a
      · subst hb; rw [upd_same] at e; rw [h2]; exact e
      · rw [upd_ne hb] at e; exact r.sub _ _ e
    have ownc : ∀ b ∈ cs.filterMap ownA, c.H0 b = none ∨ b ∈ c.io := fun b hb => r.own b (List.mem_cons_of_mem _ hb)
    have hv : Rp c.K (upd F a o) (.ref a) d := (h3.mono ss).rp upd_same
    refine ⟨upd F a o, ss, R.addV ⟨ss', r.grow0.trans ss, fun b hb n => ?_, r.kept, r.tabs, fun b ps hb => ?_, fun x hx => ?_, (List.nodup_cons.mp nd).2, ownc⟩ hv⟩
    · by_cases e : b = a
      · subst e; exact r.own b List.mem_cons_self
      · rw [upd_ne e] at n; exact r.growN b hb n
    · by_cases e : b = a
      · subst e; rw [upd_same] at hb; exact absurd (Option.some.inj hb) (h3.ntbl ps)
      · rw [upd_ne e] at hb; exact r.ntb b ps hb
    · have q := r.ok x (List.mem_cons_of_mem _ hx)
      obtain ⟨v, s⟩ := x
      cases s with
      | no => trivial
      | val d' =>
        cases v with
        | none => exact q.elim
        | some v => exact Rp.mono ss _ _ q
      | own d' =>
        cases v with
        | none => exact q.elim
        | some v =>
          cases v with
          | ref b =>
            obtain ⟨q1, u, q2, q3⟩ := q
            have hb : b ≠ a := fun z => na (by rw [← z]; exact List.mem_filterMap.mpr ⟨_, hx, rfl⟩)
            exact ⟨by rw [upd_ne hb]; exact q1, u, q2, q3.mono ss⟩
          | _ => exact q.elim
  | _ => exact h0.elim
/-- an own object is changed: from the front -/
theorem R.change {c : Cfg} {F H : Hp} {cs : Cells} {a : Addr} {d d' : D} {o' : HO} (r : R c F ((some (.ref a), .own d) :: cs) H) (h : Own c.K F o' d') : R c F ((some (.ref a), .own d') :: cs) (upd H a o') := by
  obtain ⟨h1, o, h2, h3⟩ := r.ok _ List.mem_cons_self
  have nd : (a :: cs.filterMap ownA).Nodup := r.dis
  have na := (List.nodup_cons.mp nd).1
  refine ⟨fun b u e => ?_, r.grow0, r.growN, fun b u e hi => ?_, ?_, r.ntb, fun x hx => ?_, r.dis, r.own⟩
  · rw [upd_ne (ne_of_none e h1)]; exact r.sub _ _ e
  · have hb : b ≠ a := fun z => by
      rcases r.own a List.mem_cons_self with q | q
      · rw [z, q] at e; cases e
      · exact hi (z ▸ q)
    rw [upd_ne hb]; exact r.kept b u e hi
  · intro p hp
    obtain ⟨ps, e1, e2, e3⟩ := r.tabs p hp
    have hb : p.1 ≠ a := fun z => by rw [z, h2] at e1; exact h3.ntbl ps (Option.some.inj e1)
    refine ⟨ps, by rw [upd_ne hb]; exact e1, e2, fun pos cv hc => ?_⟩
    obtain ⟨c', e4, e5⟩ := e3 pos cv hc
    refine ⟨c', e4, ?_⟩
    have hb' : c' ≠ a := fun z => by
      rw [z, h2] at e5
      have e6 := Option.some.inj e5
      rw [e6] at h3
      unfold LamX.CodeO at h3
      cases h3
    rw [upd_ne hb']; exact e5
  · rcases List.mem_cons.mp hx with rfl | hx
    · exact ⟨h1, o', upd_same, h⟩
    · have q := r.ok x (List.mem_cons_of_mem _ hx)
      obtain ⟨v, s⟩ := x
      cases s with
      | no => trivial
      | val d' =>
        cases v with
        | none => exact q.elim
        | some v => exact q
      | own d' =>
        cases v with
        | none => exact q.elim
        | some v =>
          cases v with
          | ref b =>
            obtain ⟨q1, u, q2, q3⟩ := q
            have hb : b ≠ a := fun z => na (by rw [← z]; exact List.mem_filterMap.mpr ⟨_, hx, rfl⟩)
            exact ⟨q1, u, by rw [upd_ne hb]; exact q2, q3⟩
          | _ => exact q.elim
theorem R.rr {c : Cfg} {F H : Hp} {cs : Cells} {v : V} {s : SV} {d : D} (r : R c F cs H) (h : (some v, s) ∈ cs) (hs : s = .val d ∨ s = .own d) : Rr c.K F H v d := by
  have q := r.ok _ h
  rcases hs with rfl | rfl
  · exact .inl q
  · cases v with
    | ref a =>
      obtain ⟨_, o, h2, h3⟩ := q
      exact .inr ⟨a, o, rfl, h2, h3⟩
    | _ => exact q.elim
end PD

set_option Elab.async false
set_option linter.all false
set_option maxRecDepth 100000
set_option maxHeartbeats 2000000
/-! PdB: what an expression denotes (DX), a test (DT), arguments (DA'): names, constants, operators, displays. -/
namespace PD
open PySem L2

/-- an operand: a value held, or the own object of a slot -/
inductive Od where
  | t (s : SV)
  | p (i : Nat)
inductive EO where
  | ok (o : Od) (ρ : Sl)
  | ex (x : Exn) (ρ : Sl)
  | no
inductive AO where
  | ok (os : List Od) (ρ : Sl)
  | ex (x : Exn) (ρ : Sl)
  | no
inductive BO where
  | ok (b : Bool) (ρ : Sl)
  | ex (x : Exn) (ρ : Sl)
  | no
/-- what an operation gives: data, or a new object -/
inductive VO where
  | v (d : D)
  | n (d : D)
  | no
abbrev DE := Sl → EO
abbrev DAs := Sl → AO
abbrev DB := Sl → BO

def XRel (c : Cfg) (F H : Hp) (x : Exn) (cls : Value) (dd : Option Addr) : Prop :=
  c.mg x.cls = some cls ∧ ∃ (a : Addr) (fs : List (Str × V)), dd = some a ∧ H a = some (.xd fs) ∧ fs.map (·.1) = x.fs.map (·.1) ∧ RpA c.K F (fs.map (·.2)) (x.fs.map (·.2))
def PostX (c : Cfg) (W : XK) (τ : Cells) (σ : St) (x : Exn) (ρ : Sl) : Prop :=
  ∀ cls dd F H, σ.length = ρ.length → XRel c F H x cls dd → R c F (τ ++ σ.zip ρ) H → W cls dd H
def PostE (c : Cfg) (W : XK) (τ : Cells) (σ : St) (Q : VK) : EO → Prop
  | .ok (.t s) ρ => ∀ v F H, σ.length = ρ.length → R c F ((some v, s) :: (τ ++ σ.zip ρ)) H → Q v H
  | .ok (.p i) ρ => ∀ v F H, σ.length = ρ.length → σ[i]? = some (some v) → R c F (τ ++ σ.zip ρ) H → Q v H
  | .ex x ρ => PostX c W τ σ x ρ
  | .no => False
def PostB (c : Cfg) (W : XK) (τ : Cells) (σ : St) (Q : Bool → Hp → Prop) : BO → Prop
  | .ok b ρ => ∀ F H, σ.length = ρ.length → R c F (τ ++ σ.zip ρ) H → Q b H
  | .ex x ρ => PostX c W τ σ x ρ
  | .no => False
/-- the operands that are held -/
def temps : List Od → List V → Cells
  | .t s :: os, v :: vs => (some v, s) :: temps os vs
  | .p _ :: os, _ :: vs => temps os vs
  | _, _ => []
def Held (σ : St) : List Od → List V → Prop
  | .t _ :: os, _ :: vs => Held σ os vs
  | .p i :: os, v :: vs => σ[i]? = some (some v) ∧ Held σ os vs
  | [], [] => True
  | _, _ => False
def PostA (c : Cfg) (W : XK) (τ : Cells) (σ : St) (Q : List V → Hp → Prop) : AO → Prop
  | .ok os ρ => ∀ vs F H, σ.length = ρ.length → Held σ os vs → R c F (temps os vs ++ (τ ++ σ.zip ρ)) H → Q vs H
  | .ex x ρ => PostX c W τ σ x ρ
  | .no => False

def RE (c : Cfg) (W : XK) (t : TE) (d : DE) : Prop := ∀ τ σ ρ F H Q, σ.length = ρ.length → R c F (τ ++ σ.zip ρ) H → PostE c W τ σ Q (d ρ) → t σ H Q
def RB (c : Cfg) (W : XK) (t : TT) (d : DB) : Prop := ∀ τ σ ρ F H Q, σ.length = ρ.length → R c F (τ ++ σ.zip ρ) H → PostB c W τ σ Q (d ρ) → t σ H Q
def RA (c : Cfg) (W : XK) (t : TA) (d : DAs) : Prop := ∀ τ σ ρ F H Q, σ.length = ρ.length → R c F (τ ++ σ.zip ρ) H → PostA c W τ σ Q (d ρ) → t σ H Q

def DX (X : Cx) (c : Cfg) (W : XK) (e : Expr) (d : DE) : Prop := ∃ t, PE X e t ∧ RE c W t d
def DT (X : Cx) (c : Cfg) (W : XK) (e : Expr) (d : DB) : Prop := ∃ t, PT X e t ∧ RB c W t d
def DTW (X : Cx) (c : Cfg) (W : XK) (e : Expr) (d : DB) : Prop := ∃ t, PW X e t ∧ RB c W t d
def DXA (X : Cx) (c : Cfg) (W : XK) (es : List Expr) (d : DAs) : Prop := ∃ t, PA X es t ∧ RA c W t d

/-! ### names, constants -/
def dV (i : Nat) : DE := fun ρ => match ρ[i]? with
  | some (.val d) => .ok (.t (.val d)) ρ
  | some (.own _) => .ok (.p i) ρ
  | _ => .no
def dC (d : D) : DE := fun ρ => .ok (.t (.val d)) ρ

theorem zip_get {σ : St} {ρ : Sl} {i : Nat} {s : SV} (hl : σ.length = ρ.length) (h : ρ[i]? = some s) : ∃ o, σ[i]? = some o ∧ (o, s) ∈ σ.zip ρ := by
  have hi : i < ρ.length := (List.getElem?_eq_some_iff.mp h).1
  have hi2 : i < σ.length := by omega
  refine ⟨σ[i], by simp [hi2], ?_⟩
  have e : (σ.zip ρ)[i]? = some (σ[i], s) := by
    rw [List.getElem?_zip_eq_some]
    exact ⟨by simp [hi2], h⟩
  exact List.mem_of_getElem? e
theorem R.slot {c : Cfg} {F H : Hp} {τ : Cells} {σ : St} {ρ : Sl} {i : Nat} {s : SV} (r : R c F (τ ++ σ.zip ρ) H) (hl : σ.length = ρ.length) (h : ρ[i]? = some s) (hs : s ≠ .no) : ∃ v, σ[i]? = some (some v) ∧ (some v, s) ∈ τ ++ σ.zip ρ := by
  obtain ⟨o, e, m⟩ := zip_get hl h
  have q := r.ok _ (List.mem_append_right τ m)
  cases o with
  | some v => exact ⟨v, e, List.mem_append_right τ m⟩
  | none => cases s <;> first | exact absurd rfl hs | exact q.elim
theorem R.rpSlot {c : Cfg} {F H : Hp} {τ : Cells} {σ : St} {ρ : Sl} {i : Nat} {d : D} (r : R c F (τ ++ σ.zip ρ) H) (hl : σ.length = ρ.length) (h : ρ[i]? = some (.val d)) : ∃ v, σ[i]? = some (some v) ∧ Rp c.K F v d := by
  obtain ⟨v, e, m⟩ := r.slot hl h (by intro z; cases z)
  exact ⟨v, e, r.ok _ m⟩

section
variable {X : Cx} {c : Cfg} {W : XK}
theorem re_var {i : Nat} : RE c W (tVar i) (dV i) := by
  intro τ σ ρ F H Q hl r h
  unfold dV at h
  cases e : ρ[i]? with
  | none => rw [e] at h; exact h.elim
  | some s =>
    rw [e] at h
    cases s with
    | no => exact h.elim
    | val d =>
      obtain ⟨v, e1, hv⟩ := r.rpSlot hl e
      exact ⟨v, e1, h v F H hl (r.addV hv)⟩
    | own d =>
      obtain ⟨v, e1, _⟩ := r.slot hl e (by intro z; cases z)
      exact ⟨v, e1, h v F H hl e1 r⟩
theorem dx_var (i : Nat) {x : Str} {pos : Pos} (hN : X.N[i]? = some x := by rfl) (hv : Vis X.env.scope x := by first | exact Or.inl rfl | exact Or.inr (Or.inl rfl) | exact Or.inr (Or.inr rfl)) (hd : (x == ("__debug__" : Str)) = false := by decide)
    (hcd : (x == ("__classdict__" : Str)) = false := by decide) : DX X c W (.Name x pos) (dV i) := ⟨_, pe_var hN hv hd hcd, re_var⟩
theorem re_c {v : V} {d : D} (h : ∀ F, Rp c.K F v d) : RE c W (tC v) (dC d) := by
  intro τ σ ρ F H Q hl r q
  exact q v F H hl (r.addV (h F))
theorem dx_int {i j pos} : DX X c W (.Constant (.int i) j pos) (dC (.int i)) := ⟨_, pe_int, re_c fun _ => .int i⟩
theorem dx_bl {b j pos} : DX X c W (.Constant (.bool b) j pos) (dC (.bool b)) := ⟨_, pe_bl, re_c fun _ => .bl b⟩
theorem dx_non {j pos} : DX X c W (.Constant .none j pos) (dC .none) := ⟨_, pe_non, re_c fun _ => .non⟩
theorem dx_str {x j pos} : DX X c W (.Constant (.str x) j pos) (dC (.str x)) := ⟨_, pe_str, re_c fun _ => .str x⟩
/-- a module's constant -/
structure Glb (K : PySem.W.Frag) (mg : Str → Option Value) (x : Str) (d : D) : Prop where
  ex : ∃ (v : V) (u : Value), mg x = some u ∧ RelV v u ∧ ∀ F, Rp K F v d
theorem dx_glob {x : Str} {d : D} {pos : Pos} (g : Glb X.K X.mg x d) (hK : c.K = X.K) (hg : Gl X x := by rfl) (hd : (x == ("__debug__" : Str)) = false := by decide) : DX X c W (.Name x pos) (dC d) := by
  obtain ⟨v, u, hm, r, h⟩ := g.ex
  exact ⟨_, pe_glob hg hm r hd, re_c fun F => by rw [hK]; exact h F⟩

/-! ### arguments -/
def daN : DAs := fun ρ => .ok [] ρ
def daC (d : DE) (da : DAs) : DAs := fun ρ => match d ρ with
  | .ok o ρ1 => (match da ρ1 with
    | .ok os ρ2 => .ok (o :: os) ρ2
    | .ex x ρ2 => .ex x ρ2
    | .no => .no)
  | .ex x ρ1 => .ex x ρ1
  | .no => .no
theorem ra_nil : RA c W tNil daN := fun τ σ ρ F H Q hl r h => h [] F H hl trivial r
theorem filterMap_perm {cs cs' : Cells} (h : cs.Perm cs') : (cs.filterMap ownA).Perm (cs'.filterMap ownA) := h.filterMap ownA
theorem R.permL {F H : Hp} {cs cs' : Cells} (r : R c F cs H) (h : cs.Perm cs') : R c F cs' H :=
  r.perm (fun x hx => h.mem_iff.mpr hx) ((filterMap_perm h).nodup_iff.mp r.dis)
theorem PostX.drop {τ : Cells} {σ : St} {x : Exn} {ρ : Sl} {y : Option V × SV} (h : PostX c W τ σ x ρ) : PostX c W (y :: τ) σ x ρ := fun cls dd F H hl xr r => h cls dd F H hl xr r.drop
theorem ra_cons {te : TE} {ta : TA} {d : DE} {da : DAs} (he : RE c W te d) (ha : RA c W ta da) : RA c W (tCons te ta) (daC d da) := by
  intro τ σ ρ F H Q hl r h
  unfold daC at h
  cases e : d ρ with
  | no => rw [e] at h; exact h.elim
  | ex x ρ1 =>
    rw [e] at h
    exact he τ σ ρ F H _ hl r (by rw [e]; exact h)
  | ok o ρ1 =>
    rw [e] at h
    simp only at h
    cases o with
    | t s =>
      refine he τ σ ρ F H _ hl r ?_
      rw [e]
      intro v F1 H1 hl1 r1
      refine ha ((some v, s) :: τ) σ ρ1 F1 H1 _ hl1 r1 ?_
      cases e2 : da ρ1 with
      | no => rw [e2] at h; exact h.elim
      | ex x ρ2 => rw [e2] at h; exact PostX.drop h
      | ok os ρ2 =>
        rw [e2] at h
        intro vs F2 H2 hl2 hh r2
        refine h (v :: vs) F2 H2 hl2 hh (r2.permL ?_)
        show (temps os vs ++ ((some v, s) :: (τ ++ σ.zip ρ2))).Perm ((some v, s) :: (temps os vs ++ (τ ++ σ.zip ρ2)))
        exact List.perm_middle
    | p i =>
      refine he τ σ ρ F H _ hl r ?_
      rw [e]
      intro v F1 H1 hl1 hv r1
      refine ha τ σ ρ1 F1 H1 _ hl1 r1 ?_
      cases e2 : da ρ1 with
      | no => rw [e2] at h; exact h.elim
      | ex x ρ2 => rw [e2] at h; exact h
      | ok os ρ2 =>
        rw [e2] at h
        intro vs F2 H2 hl2 hh r2
        exact h (v :: vs) F2 H2 hl2 ⟨hv, hh⟩ r2
theorem da_nil : DXA X c W [] daN := ⟨_, pa_nil, ra_nil⟩
theorem da_cons {e : Expr} {es : List Expr} {d : DE} {da : DAs} (he : DX X c W e d) (ha : DXA X c W es da) (hs : starEach (e :: es) X.env = (false, eval e X.env) :: starEach es X.env := by rfl) : DXA X c W (e :: es) (daC d da) := by
  obtain ⟨t, p, r⟩ := he
  obtain ⟨t2, p2, r2⟩ := ha
  exact ⟨_, pa_cons p p2 hs, ra_cons r r2⟩

/-! ### operations by values -/
/-- an operand's data as it is now -/
def res (ρ : Sl) : Od → Option D
  | .t (.val d) => some d
  | .t (.own d) => some d
  | .t .no => none
  | .p i => match ρ[i]? with
    | some (.val d) => some d
    | some (.own d) => some d
    | _ => none
def resA (ρ : Sl) : List Od → Option (List D)
  | [] => some []
  | o :: os => match res ρ o with
    | some d => (match resA ρ os with
      | some ds => some (d :: ds)
      | none => none)
    | none => none
theorem R.resA {F H : Hp} {τ : Cells} {σ : St} {ρ : Sl} (hl : σ.length = ρ.length) {cs : Cells} (r : R c F (cs ++ (τ ++ σ.zip ρ)) H) : ∀ (os : List Od) (vs : List V) (ds : List D), (∀ x ∈ temps os vs, x ∈ cs) → Held σ os vs → PD.resA ρ os = some ds → RrA c.K F H vs ds
  | [], [], ds, _, _, e => by
    cases e; exact .nil
  | [], _ :: _, _, _, h, _ => h.elim
  | .t s :: os, [], _, _, h, _ => h.elim
  | .p i :: os, [], _, _, h, _ => h.elim
  | .t s :: os, v :: vs, ds, hm, h, e => by
    unfold PD.resA at e
    cases e1 : res ρ (.t s) with
    | none => rw [e1] at e; cases e
    | some d =>
      rw [e1] at e
      cases e2 : PD.resA ρ os with
      | none => rw [e2] at e; cases e
      | some ds' =>
        rw [e2] at e
        cases e
        refine .cons ?_ (R.resA hl r os vs ds' (fun x hx => hm x (List.mem_cons_of_mem _ hx)) h e2)
        refine r.rr (List.mem_append_left _ (hm _ List.mem_cons_self)) ?_
        cases s with
        | no => cases e1
        | val d' => cases e1; exact .inl rfl
        | own d' => cases e1; exact .inr rfl
  | .p i :: os, v :: vs, ds, hm, h, e => by
    unfold PD.resA at e
    cases e1 : res ρ (.p i) with
    | none => rw [e1] at e; cases e
    | some d =>
      rw [e1] at e
      cases e2 : PD.resA ρ os with
      | none => rw [e2] at e; cases e
      | some ds' =>
        rw [e2] at e
        cases e
        refine .cons ?_ (R.resA hl r os vs ds' hm h.2 e2)
        simp only [res] at e1
        cases e3 : ρ[i]? with
        | none => rw [e3] at e1; cases e1
        | some s =>
          rw [e3] at e1
          have ns : s ≠ .no := by intro z; subst z; cases e1
          obtain ⟨v', e4, m⟩ := R.slot (r.subl (List.sublist_append_right _ _)) hl e3 ns
          have ev : v' = v := by have := h.1; rw [e4] at this; exact Option.some.inj (Option.some.inj this)
          subst ev
          refine r.rr (List.mem_append_right _ m) ?_
          cases s with
          | no => exact absurd rfl ns
          | val d' => cases e1; exact .inl rfl
          | own d' => cases e1; exact .inr rfl
theorem R.dropTemps {F H : Hp} {cs cs' : Cells} (r : R c F (cs ++ cs') H) : R c F cs' H := r.subl (List.sublist_append_right _ _)

def PostV (K : PySem.W.Frag) (F H : Hp) (Q : VK) : VO → Prop
  | .v d => ∀ z F' H', Grow F H F' H' → Rp K F' z d → Q z H'
  | .n d => ∀ p o F' H', Grow F H F' H' → H p = none → F' p = none → H' p = some o → Own K F' o d → Q (.ref p) H'
  | .no => False
def VOk (K : PySem.W.Frag) (r : List V → Hp → VK → Prop) (f : List D → VO) : Prop := ∀ F H vs ds Q, Same F H → RrA K F H vs ds → PostV K F H Q (f ds) → r vs H Q
def dOp (f : List D → VO) (da : DAs) : DE := fun ρ => match da ρ with
  | .ok os ρ1 => (match resA ρ1 os with
    | some ds => (match f ds with
      | .v d => .ok (.t (.val d)) ρ1
      | .n d => .ok (.t (.own d)) ρ1
      | .no => .no)
    | none => .no)
  | .ex x ρ1 => .ex x ρ1
  | .no => .no
theorem re_op {r : List V → Hp → VK → Prop} {f : List D → VO} {ta : TA} {da : DAs} (hv : VOk c.K r f) (ha : RA c W ta da) : RE c W (tCB r ta) (dOp f da) := by
  intro τ σ ρ F H Q hl rr h
  unfold dOp at h
  refine ha τ σ ρ F H _ hl rr ?_
  cases e : da ρ with
  | no => rw [e] at h; exact h.elim
  | ex x ρ1 => rw [e] at h; exact h
  | ok os ρ1 =>
    rw [e] at h
    intro vs F1 H1 hl1 hh r1
    simp only at h
    cases e1 : resA ρ1 os with
    | none => rw [e1] at h; exact h.elim
    | some ds =>
      rw [e1] at h
      simp only at h
      refine hv F1 H1 vs ds Q r1.sub (R.resA hl1 r1 os vs ds (fun _ x => x) hh e1) ?_
      cases e2 : f ds with
      | no => rw [e2] at h; exact h.elim
      | v d =>
        rw [e2] at h
        intro z F' H' g hz
        exact h z F' H' hl1 ((r1.dropTemps.grow g).addV hz)
      | n d =>
        rw [e2] at h
        intro p o F' H' g hp fp ho hown
        exact h (.ref p) F' H' hl1 (r1.dropTemps.addO g hp fp ho hown)
/-- two operands, one -/
def r2 (r : R2) : List V → Hp → VK → Prop := fun vs H Q => match vs with
  | [x, y] => r x y H Q
  | _ => False
def r1 (r : V → Hp → VK → Prop) : List V → Hp → VK → Prop := fun vs H Q => match vs with
  | [x] => r x H Q
  | _ => False
theorem re_op2 {r : R2} {f : List D → VO} {ta tb : TE} {a b : DE} (hv : VOk c.K (r2 r) f) (ha : RE c W ta a) (hb : RE c W tb b) : RE c W (tOp r ta tb) (dOp f (daC a (daC b daN))) := re_op (r := r2 r) hv (ra_cons ha (ra_cons hb ra_nil))
theorem re_op1 {r : V → Hp → VK → Prop} {f : List D → VO} {ta : TE} {a : DE} (hv : VOk c.K (r1 r) f) (ha : RE c W ta a) : RE c W (tUn r ta) (dOp f (daC a daN)) := re_op (r := r1 r) hv (ra_cons ha ra_nil)

theorem dx_bin {op : Operator} {r : R2} {f : List D → VO} {a b : Expr} {da db : DE} {pos : Pos} (ho : OpR X (binaryOp op) r) (hv : VOk c.K (r2 r) f) (ha : DX X c W a da) (hb : DX X c W b db) : DX X c W (.BinOp a op b pos) (dOp f (daC da (daC db daN))) := by
  obtain ⟨ta, pa, ra⟩ := ha
  obtain ⟨tb, pb, rb⟩ := hb
  exact ⟨_, pe_op ho pa pb, re_op2 hv ra rb⟩
theorem dx_un {op : UnaryOp} {r : V → Hp → VK → Prop} {f : List D → VO} {a : Expr} {da : DE} {pos : Pos} (ho : UnR X (unaryOp op) r) (hv : VOk c.K (r1 r) f) (ha : DX X c W a da) : DX X c W (.UnaryOp op a pos) (dOp f (daC da daN)) := by
  obtain ⟨ta, pa, ra⟩ := ha
  exact ⟨_, pe_un ho pa, re_op1 hv ra⟩
theorem dx_cmp {op : CmpOp} {r : R2} {f : List D → VO} {a b : Expr} {da db : DE} {pos : Pos} (ho : OpR X (compareOp op) r) (hv : VOk c.K (r2 r) f) (ha : DX X c W a da) (hb : DX X c W b db) (hm : behindInMarks op b = false := by first | exact nomark _ | rfl) : DX X c W (.Compare a [op] [b] pos) (dOp f (daC da (daC db daN))) := by
  obtain ⟨ta, pa, ra⟩ := ha
  obtain ⟨tb, pb, rb⟩ := hb
  exact ⟨_, pe_cmpR ho pa pb hm, re_op2 hv ra rb⟩
theorem dx_ix {r : R2} {f : List D → VO} {a b : Expr} {da db : DE} {pos : Pos} (ho : IxR X r) (hv : VOk c.K (r2 r) f) (ha : DX X c W a da) (hb : DX X c W b db) (hs : PlainIx b := by exact fun _ _ => rfl) : DX X c W (.Subscript a b pos) (dOp f (daC da (daC db daN))) := by
  obtain ⟨ta, pa, ra⟩ := ha
  obtain ⟨tb, pb, rb⟩ := hb
  exact ⟨_, pe_ix ho pa pb hs, re_op2 hv ra rb⟩
/-- a built-in function, a built-in class -/
theorem dx_callB {id : String} {x : Str} {r : List V → Hp → VK → Prop} {f : List D → VO} {e : Expr} {es : List Expr} {da : DAs} {p pos : Pos} (hc : CallR X (.builtin id) r) (hv : VOk c.K r f) (hm : X.mg x = none) (ha : DXA X c W (e :: es) da) (hg : Gl X x := by rfl) (hb : bootBuiltins x = some (.builtin id) := by decide +kernel) (hn : x ≠ "__name__" := by decide) (hdb : (x == ("__debug__" : Str)) = false := by decide)
    (he : starEach (e :: es) X.env = (false, eval e X.env) :: starEach es X.env := by rfl) (hpl : (backTo pos (starEach es X.env)).any (·.1) = false := by rfl) : DX X c W (.Call (.Name x p) (e :: es) [] pos) (dOp f da) := by
  obtain ⟨t, pa, ra⟩ := ha
  exact ⟨_, pe_callB hc hg hm hb pa hn hdb he hpl, re_op hv ra⟩
theorem dx_callTy {T : String} {x : Str} {r : List V → Hp → VK → Prop} {f : List D → VO} {e : Expr} {es : List Expr} {da : DAs} {p pos : Pos} (hc : CallR X (.type T) r) (hv : VOk c.K r f) (hm : X.mg x = none) (ha : DXA X c W (e :: es) da) (hg : Gl X x := by rfl) (hb : bootBuiltins x = some (.type T) := by decide +kernel) (hn : x ≠ "__name__" := by decide) (hdb : (x == ("__debug__" : Str)) = false := by decide)
    (he : starEach (e :: es) X.env = (false, eval e X.env) :: starEach es X.env := by rfl) (hpl : (backTo pos (starEach es X.env)).any (·.1) = false := by rfl) : DX X c W (.Call (.Name x p) (e :: es) [] pos) (dOp f da) := by
  obtain ⟨t, pa, ra⟩ := ha
  exact ⟨_, pe_callTy hc hg hm hb pa hn hdb he hpl, re_op hv ra⟩

/-! ### displays -/
/-- an operand is frozen: a new object is the body's no more; a slot's neither -/
def frz1 (ρ : Sl) : Od → Option (D × Sl)
  | .t (.val d) => some (d, ρ)
  | .t (.own d) => some (d, ρ)
  | .t .no => none
  | .p i => match ρ[i]? with
    | some (.val d) => some (d, ρ)
    | some (.own d) => some (d, ρ.set i (.val d))
    | _ => none
def frzA (ρ : Sl) : List Od → Option (List D × Sl)
  | [] => some ([], ρ)
  | o :: os => match frz1 ρ o with
    | some (d, ρ1) => (match frzA ρ1 os with
      | some (ds, ρ2) => some (d :: ds, ρ2)
      | none => none)
    | none => none
theorem zip_set {σ : St} {ρ : Sl} {i : Nat} {s s' : SV} {v : Option V} (hs : σ[i]? = some v) (hr : ρ[i]? = some s) :
    ∃ rest, (σ.zip ρ).Perm ((v, s) :: rest) ∧ (σ.zip (ρ.set i s')).Perm ((v, s') :: rest) := by
  induction σ generalizing ρ i with
  | nil => simp at hs
  | cons x σ ih =>
    cases ρ with
    | nil => simp at hr
    | cons y ρ =>
      cases i with
      | zero =>
        simp at hs hr
        subst hs; subst hr
        exact ⟨σ.zip ρ, .refl _, .refl _⟩
      | succ i =>
        obtain ⟨rest, p1, p2⟩ := ih (by simpa using hs) (by simpa using hr)
        refine ⟨(x, y) :: rest, ?_, ?_⟩
        · exact (p1.cons (x, y)).trans (.swap _ _ _)
        · exact (p2.cons (x, y)).trans (.swap _ _ _)
/-- the own object of a slot to the front, and back -/
theorem R.front {F H : Hp} {τ : Cells} {σ : St} {ρ : Sl} {i : Nat} {s s' : SV} {v : Option V} (hs : σ[i]? = some v) (hr : ρ[i]? = some s) (r : R c F (τ ++ σ.zip ρ) H) :
    ∃ rest, R c F ((v, s) :: rest) H ∧ ∀ F' H', R c F' ((v, s') :: rest) H' → R c F' (τ ++ σ.zip (ρ.set i s')) H' := by
  obtain ⟨rest, p1, p2⟩ := zip_set (s' := s') hs hr
  refine ⟨τ ++ rest, r.permL ((p1.append_left τ).trans List.perm_middle), fun F' H' q => q.permL ?_⟩
  exact ((p2.append_left τ).trans List.perm_middle).symm
theorem R.frz1 {F H : Hp} {τ : Cells} {σ : St} {ρ ρ' : Sl} {o : Od} {v : V} {d : D} (hl : σ.length = ρ.length) (hh : Held σ [o] [v]) (r : R c F (temps [o] [v] ++ (τ ++ σ.zip ρ)) H) (e : PD.frz1 ρ o = some (d, ρ')) :
    ∃ F', Same F F' ∧ σ.length = ρ'.length ∧ R c F' ((some v, .val d) :: (τ ++ σ.zip ρ')) H := by
  cases o with
  | t s =>
    cases s with
    | no => cases e
    | val d' => cases e; exact ⟨F, Same.refl _, hl, r⟩
    | own d' =>
      cases e
      obtain ⟨F', s', r'⟩ := R.freeze (show R c F ((some v, .own d) :: (τ ++ σ.zip ρ)) H from r)
      exact ⟨F', s', hl, r'⟩
  | p i =>
    have r : R c F (τ ++ σ.zip ρ) H := r
    have hv : σ[i]? = some (some v) := hh.1
    simp only [PD.frz1] at e
    cases e3 : ρ[i]? with
    | none => rw [e3] at e; cases e
    | some s =>
      rw [e3] at e
      cases s with
      | no => cases e
      | val d' =>
        cases e
        obtain ⟨v', e4, q⟩ := r.rpSlot hl e3
        have ev : v' = v := by rw [hv] at e4; exact (Option.some.inj (Option.some.inj e4)).symm
        subst ev
        exact ⟨F, Same.refl _, hl, r.addV q⟩
      | own d' =>
        cases e
        obtain ⟨rest, q1, q2⟩ := R.front (s' := .val d) hv e3 r
        obtain ⟨F', s', r'⟩ := q1.freeze
        have r2 := q2 F' H r'
        have hl2 : σ.length = (ρ.set i (.val d)).length := by simpa using hl
        obtain ⟨v', e4, q⟩ := r2.rpSlot hl2 (i := i) (d := d) (by rw [List.getElem?_set_self (List.getElem?_eq_some_iff.mp e3).1])
        have ev : v' = v := by rw [hv] at e4; exact (Option.some.inj (Option.some.inj e4)).symm
        subst ev
        exact ⟨F', s', hl2, r2.addV q⟩
def vals : List V → List D → Cells
  | v :: vs, d :: ds => (some v, .val d) :: vals vs ds
  | _, _ => []
theorem R.frzA {H : Hp} {σ : St} : ∀ {os : List Od} {vs : List V} {ds : List D} {τ : Cells} {ρ ρ' : Sl} {F : Hp}, σ.length = ρ.length → Held σ os vs → R c F (temps os vs ++ (τ ++ σ.zip ρ)) H → PD.frzA ρ os = some (ds, ρ') →
    ∃ F', Same F F' ∧ σ.length = ρ'.length ∧ RpA c.K F' vs ds ∧ R c F' (τ ++ σ.zip ρ') H
  | [], [], ds, τ, ρ, ρ', F, hl, hh, r, e => by
    cases e
    exact ⟨F, Same.refl _, hl, .nil, r⟩
  | [], _ :: _, _, _, _, _, _, _, h, _, _ => h.elim
  | .t s :: os, [], _, _, _, _, _, _, h, _, _ => h.elim
  | .p i :: os, [], _, _, _, _, _, _, h, _, _ => h.elim
  | o :: os, v :: vs, ds, τ, ρ, ρ', F, hl, hh, r, e => by
    unfold PD.frzA at e
    cases e1 : PD.frz1 ρ o with
    | none => rw [e1] at e; cases e
    | some p =>
      obtain ⟨d, ρ1⟩ := p
      rw [e1] at e
      simp only at e
      cases e2 : PD.frzA ρ1 os with
      | none => rw [e2] at e; cases e
      | some p2 =>
        obtain ⟨ds2, ρ2⟩ := p2
        rw [e2] at e
        cases e
        have hh1 : Held σ [o] [v] := by cases o with
          | t s => trivial
          | p i => exact ⟨hh.1, trivial⟩
        have hh2 : Held σ os vs := by cases o with
          | t s => exact hh
          | p i => exact hh.2
        have r' : R c F (temps [o] [v] ++ ((temps os vs ++ τ) ++ σ.zip ρ)) H := by
          cases o with
          | t s =>
            have r : R c F ((some v, s) :: (temps os vs ++ (τ ++ σ.zip ρ))) H := r
            show R c F ((some v, s) :: ((temps os vs ++ τ) ++ σ.zip ρ)) H
            rw [List.append_assoc]; exact r
          | p i =>
            have r : R c F (temps os vs ++ (τ ++ σ.zip ρ)) H := r
            show R c F ((temps os vs ++ τ) ++ σ.zip ρ) H
            rw [List.append_assoc]; exact r
        obtain ⟨F1, s1, hl1, r1⟩ := R.frz1 hl hh1 r' e1
        have r1' : R c F1 (temps os vs ++ (((some v, .val d) :: τ) ++ σ.zip ρ1)) H := by
          rw [List.append_assoc] at r1
          exact r1.permL List.perm_middle.symm
        obtain ⟨F2, s2, hl2, q2, r2⟩ := R.frzA (ds := ds2) hl1 hh2 r1' e2
        have r2' : R c F2 ((some v, .val d) :: (τ ++ σ.zip ρ')) H := r2
        exact ⟨F2, s1.trans s2, hl2, .cons (r2'.ok _ List.mem_cons_self) q2, r2'.drop⟩
end
section
variable {X : Cx} {c : Cfg} {W : XK}
/-- operands frozen, then a new frozen object (a tuple) or a new own one (a list) -/
def dTup (da : DAs) : DE := fun ρ => match da ρ with
  | .ok os ρ1 => (match frzA ρ1 os with
    | some (ds, ρ2) => if ds.length ≤ 100000 then .ok (.t (.val (.tuple ds))) ρ2 else .no
    | none => .no)
  | .ex x ρ1 => .ex x ρ1
  | .no => .no
def dLst (da : DAs) : DE := fun ρ => match da ρ with
  | .ok os ρ1 => (match frzA ρ1 os with
    | some (ds, ρ2) => if ds.length ≤ 100000 then .ok (.t (.own (.list ds))) ρ2 else .no
    | none => .no)
  | .ex x ρ1 => .ex x ρ1
  | .no => .no
theorem szl {n : Nat} (h : n ≤ 100000) : n ≤ sizeLine := Nat.le_trans h (by rw [sizeLine_eq]; decide)
theorem Same.sub_grow {F F' H : Hp} (s : Same F F') (s' : Same F' H) : Same F' H := s'
theorem re_tup {ta : TA} {da : DAs} (ha : RA c W ta da) : RE c W (tTup ta) (dTup da) := by
  intro τ σ ρ F H Q hl rr h
  unfold dTup at h
  refine ha τ σ ρ F H _ hl rr ?_
  cases e : da ρ with
  | no => rw [e] at h; exact h.elim
  | ex x ρ1 => rw [e] at h; exact h
  | ok os ρ1 =>
    rw [e] at h
    intro vs F1 H1 hl1 hh r1
    simp only at h
    cases e1 : frzA ρ1 os with
    | none => rw [e1] at h; exact h.elim
    | some p =>
      obtain ⟨ds, ρ2⟩ := p
      rw [e1] at h
      simp only at h
      obtain ⟨F2, s2, hl2, q, r2⟩ := R.frzA hl1 hh r1 e1
      by_cases hz : ds.length ≤ 100000
      · rw [if_pos hz] at h
        refine ⟨szl (by rw [q.len]; exact hz), fun p hp => ?_⟩
        have g := Grow.lay (o := .tup vs) r2.sub hp
        exact h (.ref p) _ _ hl2 ((r2.grow g).addV (.tup upd_same (RpA.mono g.f _ _ q)))
      · rw [if_neg hz] at h; exact h.elim
theorem re_lst {ta : TA} {da : DAs} (ha : RA c W ta da) : RE c W (tLst ta) (dLst da) := by
  intro τ σ ρ F H Q hl rr h
  unfold dLst at h
  refine ha τ σ ρ F H _ hl rr ?_
  cases e : da ρ with
  | no => rw [e] at h; exact h.elim
  | ex x ρ1 => rw [e] at h; exact h
  | ok os ρ1 =>
    rw [e] at h
    intro vs F1 H1 hl1 hh r1
    simp only at h
    cases e1 : frzA ρ1 os with
    | none => rw [e1] at h; exact h.elim
    | some p =>
      obtain ⟨ds, ρ2⟩ := p
      rw [e1] at h
      simp only at h
      obtain ⟨F2, s2, hl2, q, r2⟩ := R.frzA hl1 hh r1 e1
      by_cases hz : ds.length ≤ 100000
      · rw [if_pos hz] at h
        refine ⟨szl (by rw [q.len]; exact hz), fun p hp => ?_⟩
        have g := Grow.new1 (o := .lst vs) r2.sub hp
        exact h (.ref p) _ _ hl2 (r2.addO g hp (r2.sub.free hp) upd_same (.lst q))
      · rw [if_neg hz] at h; exact h.elim
theorem dx_tup {es : List Expr} {da : DAs} {k : Nat} {pos : Pos} (ha : DXA X c W es da) : DX X c W (.Tuple es k pos) (dTup da) := by
  obtain ⟨t, p, r⟩ := ha
  exact ⟨_, pe_tup p, re_tup r⟩
theorem dx_lst {es : List Expr} {da : DAs} {pos : Pos} (ha : DXA X c W es da) : DX X c W (.List es pos) (dLst da) := by
  obtain ⟨t, p, r⟩ := ha
  exact ⟨_, pe_lst p, re_lst r⟩

/-! ### tests -/
/-- an expression's truth -/
def truth : D → Option Bool
  | .none => some false
  | .bool b => some b
  | .int i => some (i != 0)
  | .str x => if x.length ≤ 100000 then some ((x.length : Int) != 0) else none
  | .list ds => some (!ds.isEmpty)
  | .tuple ds => some (!ds.isEmpty)
  | .dict _ => none
def dTru (d : DE) : DB := fun ρ => match d ρ with
  | .ok o ρ1 => (match res ρ1 o with
    | some x => (match truth x with
      | some b => .ok b ρ1
      | none => .no)
    | none => .no)
  | .ex x ρ1 => .ex x ρ1
  | .no => .no
theorem RpA.emp {K : PySem.W.Frag} {F : Hp} {vs : List V} {ds : List D} (h : RpA K F vs ds) : vs.isEmpty = ds.isEmpty := by cases h <;> rfl
theorem truth_ok {F H : Hp} {v : V} {d : D} {b : Bool} {K : PySem.W.Frag} (s : Same F H) (h : Rr K F H v d) (e : truth d = some b) : TruV K v H b := by
  cases d with
  | none => cases h.non; cases e; exact rfl
  | bool k => cases h.bl; cases e; exact rfl
  | int i => cases h.int; cases e; exact rfl
  | str x =>
    cases h.str
    simp only [truth] at e
    split at e
    · rename_i hz
      cases e
      exact ⟨szl hz, rfl⟩
    · cases e
  | list ds =>
    obtain ⟨a, xs, rfl, h1, h2⟩ := h.lst s
    cases e
    exact .inl ⟨xs, .inl h1, by rw [h2.emp]⟩
  | tuple ds =>
    obtain ⟨a, xs, rfl, h1, h2⟩ := h.tup s
    cases e
    exact .inr (.inl ⟨xs, h1, by rw [h2.emp]⟩)
  | dict _ => cases e
/-- an operand's value, as it is -/
theorem R.res1 {F H : Hp} {τ : Cells} {σ : St} {ρ : Sl} {o : Od} {v : V} {d : D} (hl : σ.length = ρ.length) (hh : Held σ [o] [v]) (r : R c F (temps [o] [v] ++ (τ ++ σ.zip ρ)) H) (e : res ρ o = some d) : Rr c.K F H v d := by
  have := R.resA hl r [o] [v] [d] (fun _ x => x) hh (by unfold PD.resA; rw [e]; rfl)
  cases this with
  | cons h _ => exact h
theorem re_run {te : TE} {d : DE} (he : RE c W te d) {τ : Cells} {σ : St} {ρ : Sl} {F H : Hp} {Q : VK} (hl : σ.length = ρ.length) (r : R c F (τ ++ σ.zip ρ) H)
    (ok : ∀ o ρ1, d ρ = .ok o ρ1 → ∀ v F1 H1, σ.length = ρ1.length → Held σ [o] [v] → R c F1 (temps [o] [v] ++ (τ ++ σ.zip ρ1)) H1 → Q v H1) (ex : ∀ x ρ1, d ρ = .ex x ρ1 → PostX c W τ σ x ρ1) (no : d ρ ≠ .no) : te σ H Q := by
  refine he τ σ ρ F H Q hl r ?_
  cases e : d ρ with
  | no => exact absurd e no
  | ex x ρ1 => exact ex x ρ1 e
  | ok o ρ1 =>
    cases o with
    | t s => exact fun v F1 H1 hl1 r1 => ok _ ρ1 e v F1 H1 hl1 trivial r1
    | p i => exact fun v F1 H1 hl1 hv r1 => ok _ ρ1 e v F1 H1 hl1 ⟨hv, trivial⟩ r1
theorem rb_tru {te : TE} {d : DE} (he : RE c W te d) : RB c W (fun σ H Q => te σ H fun x H' => ∃ k, TruV c.K x H' k ∧ Q k H') (dTru d) := by
  intro τ σ ρ F H Q hl r h
  unfold dTru at h
  refine re_run he hl r (fun o ρ1 e v F1 H1 hl1 hh r1 => ?_) (fun x ρ1 e => ?_) fun e => ?_
  · rw [e] at h
    simp only at h
    cases e1 : res ρ1 o with
    | none => rw [e1] at h; exact h.elim
    | some x =>
      rw [e1] at h
      simp only at h
      cases e2 : truth x with
      | none => rw [e2] at h; exact h.elim
      | some b =>
        rw [e2] at h
        exact ⟨b, truth_ok r1.sub (R.res1 hl1 hh r1 e1) e2, h F1 H1 hl1 r1.dropTemps⟩
  · rw [e] at h; exact h
  · rw [e] at h; exact h.elim
theorem dt_tru {e : Expr} {d : DE} (he : DX X c W e d) (hK : c.K = X.K) (hw : ∀ whole, isTrue e X.env whole = (do let v ← whole; standAt e.pos; holding [v] (truthy v)) := by exact fun _ => rfl) : DT X c W e (dTru d) := by
  obtain ⟨t, p, r⟩ := he
  have q := rb_tru (c := c) r
  rw [hK] at q
  exact ⟨_, pt_truth p hw, q⟩
/-- a comparison as a test -/
def dTst (d : DE) : DB := fun ρ => match d ρ with
  | .ok (.t (.val (.bool b))) ρ1 => .ok b ρ1
  | .ex x ρ1 => .ex x ρ1
  | _ => .no
theorem rb_tst {te : TE} {d : DE} (he : RE c W te d) : RB c W (tTest te) (dTst d) := by
  intro τ σ ρ F H Q hl r h
  unfold dTst at h
  refine he τ σ ρ F H _ hl r ?_
  cases e : d ρ with
  | no => rw [e] at h; exact h.elim
  | ex x ρ1 => rw [e] at h; exact h
  | ok o ρ1 =>
    rw [e] at h
    cases o with
    | p i => exact h.elim
    | t s =>
      cases s with
      | no => exact h.elim
      | own d' => exact h.elim
      | val d' =>
        cases d' with
        | bool b =>
          intro v F1 H1 hl1 r1
          have q := r1.ok _ List.mem_cons_self
          have q : Rp c.K F1 v (.bool b) := q
          cases q
          exact ⟨b, rfl, h F1 H1 hl1 r1.drop⟩
        | _ => exact h.elim
theorem dt_cmp {op : CmpOp} {r : R2} {f : List D → VO} {a b : Expr} {da db : DE} {pos : Pos} (ho : OpR X (compareOp op) r) (hv : VOk c.K (r2 r) f) (ha : DX X c W a da) (hb : DX X c W b db) (hm : behindInMarks op b = false := by first | exact nomark _ | rfl) : DT X c W (.Compare a [op] [b] pos) (dTst (dOp f (daC da (daC db daN)))) := by
  obtain ⟨ta, pa, ra⟩ := ha
  obtain ⟨tb, pb, rb⟩ := hb
  exact ⟨_, pt_cmpR ho pa pb hm, rb_tst (re_op2 hv ra rb)⟩
def dAnd (a b : DB) : DB := fun ρ => match a ρ with
  | .ok true ρ1 => b ρ1
  | .ok false ρ1 => .ok false ρ1
  | .ex x ρ1 => .ex x ρ1
  | .no => .no
def dOr (a b : DB) : DB := fun ρ => match a ρ with
  | .ok true ρ1 => .ok true ρ1
  | .ok false ρ1 => b ρ1
  | .ex x ρ1 => .ex x ρ1
  | .no => .no
def dNot (a : DB) : DB := fun ρ => match a ρ with
  | .ok b ρ1 => .ok (!b) ρ1
  | .ex x ρ1 => .ex x ρ1
  | .no => .no
theorem rb_and {t u : TT} {a b : DB} (ha : RB c W t a) (hb : RB c W u b) : RB c W (tAnd t u) (dAnd a b) := by
  intro τ σ ρ F H Q hl r h
  unfold dAnd at h
  refine ha τ σ ρ F H _ hl r ?_
  cases e : a ρ with
  | no => rw [e] at h; exact h.elim
  | ex x ρ1 => rw [e] at h; exact h
  | ok k ρ1 =>
    rw [e] at h
    intro F1 H1 hl1 r1
    cases k with
    | true => exact iteT (hb τ σ ρ1 F1 H1 Q hl1 r1 h)
    | false => exact iteF (h F1 H1 hl1 r1)
theorem rb_or {t u : TT} {a b : DB} (ha : RB c W t a) (hb : RB c W u b) : RB c W (tOr t u) (dOr a b) := by
  intro τ σ ρ F H Q hl r h
  unfold dOr at h
  refine ha τ σ ρ F H _ hl r ?_
  cases e : a ρ with
  | no => rw [e] at h; exact h.elim
  | ex x ρ1 => rw [e] at h; exact h
  | ok k ρ1 =>
    rw [e] at h
    intro F1 H1 hl1 r1
    cases k with
    | true => exact iteT (h F1 H1 hl1 r1)
    | false => exact iteF (hb τ σ ρ1 F1 H1 Q hl1 r1 h)
theorem rb_not {t : TT} {a : DB} (ha : RB c W t a) : RB c W (tNot t) (dNot a) := by
  intro τ σ ρ F H Q hl r h
  unfold dNot at h
  refine ha τ σ ρ F H _ hl r ?_
  cases e : a ρ with
  | no => rw [e] at h; exact h.elim
  | ex x ρ1 => rw [e] at h; exact h
  | ok k ρ1 =>
    rw [e] at h
    exact h
variable {a b : Expr} {rest : List Expr} {pos : Pos} {da db : DB}
theorem DTW.t (h : DTW X c W a da) : DT X c W a da := by
  obtain ⟨t, p, r⟩ := h
  exact ⟨t, p.pt, r⟩
theorem dw_and1 (ha : DT X c W a da) : DTW X c W (.BoolOp .And [a] pos) da := by
  obtain ⟨t, p, r⟩ := ha
  exact ⟨t, pw_and1 p, r⟩
theorem dw_or1 (ha : DT X c W a da) : DTW X c W (.BoolOp .Or [a] pos) da := by
  obtain ⟨t, p, r⟩ := ha
  exact ⟨t, pw_or1 p, r⟩
theorem dw_and (ha : DT X c W a da) (hb : DTW X c W (.BoolOp .And (b :: rest) pos) db) : DTW X c W (.BoolOp .And (a :: b :: rest) pos) (dAnd da db) := by
  obtain ⟨t, p, r⟩ := ha
  obtain ⟨t2, p2, r2⟩ := hb
  exact ⟨_, pw_and p p2, rb_and r r2⟩
theorem dw_or (ha : DT X c W a da) (hb : DTW X c W (.BoolOp .Or (b :: rest) pos) db) : DTW X c W (.BoolOp .Or (a :: b :: rest) pos) (dOr da db) := by
  obtain ⟨t, p, r⟩ := ha
  obtain ⟨t2, p2, r2⟩ := hb
  exact ⟨_, pw_or p p2, rb_or r r2⟩
theorem dt_not (ha : DT X c W a da) : DT X c W (.UnaryOp .Not a pos) (dNot da) := by
  obtain ⟨t, p, r⟩ := ha
  exact ⟨_, pt_not p, rb_not r⟩
/-! .. as values -/
def dAndV (a b : DE) : DE := fun ρ => match a ρ with
  | .ok (.t (.val (.bool true))) ρ1 => b ρ1
  | .ok (.t (.val (.bool false))) ρ1 => .ok (.t (.val (.bool false))) ρ1
  | .ex x ρ1 => .ex x ρ1
  | _ => .no
def dOrV (a b : DE) : DE := fun ρ => match a ρ with
  | .ok (.t (.val (.bool true))) ρ1 => .ok (.t (.val (.bool true))) ρ1
  | .ok (.t (.val (.bool false))) ρ1 => b ρ1
  | .ex x ρ1 => .ex x ρ1
  | _ => .no
def dNotV (a : DE) : DE := fun ρ => match a ρ with
  | .ok (.t (.val (.bool b))) ρ1 => .ok (.t (.val (.bool (!b)))) ρ1
  | .ex x ρ1 => .ex x ρ1
  | _ => .no
theorem re_andV {t u : TE} {a b : DE} (ha : RE c W t a) (hb : RE c W u b) : RE c W (tAndV t u) (dAndV a b) := by
  intro τ σ ρ F H Q hl r h
  unfold dAndV at h
  refine ha τ σ ρ F H _ hl r ?_
  cases e : a ρ with
  | no => rw [e] at h; exact h.elim
  | ex x ρ1 => rw [e] at h; exact h
  | ok o ρ1 =>
    rw [e] at h
    cases o with
    | p i => exact h.elim
    | t s =>
      cases s with
      | no => exact h.elim
      | own d' => exact h.elim
      | val d' =>
        cases d' with
        | bool k =>
          intro v F1 H1 hl1 r1
          have q : Rp c.K F1 v (.bool k) := r1.ok _ List.mem_cons_self
          cases q
          refine ⟨k, rfl, ?_⟩
          cases k with
          | true => exact iteT (hb τ σ ρ1 F1 H1 Q hl1 r1.drop h)
          | false => exact iteF (h (.bl false) F1 H1 hl1 r1)
        | _ => exact h.elim
theorem re_orV {t u : TE} {a b : DE} (ha : RE c W t a) (hb : RE c W u b) : RE c W (tOrV t u) (dOrV a b) := by
  intro τ σ ρ F H Q hl r h
  unfold dOrV at h
  refine ha τ σ ρ F H _ hl r ?_
  cases e : a ρ with
  | no => rw [e] at h; exact h.elim
  | ex x ρ1 => rw [e] at h; exact h
  | ok o ρ1 =>
    rw [e] at h
    cases o with
    | p i => exact h.elim
    | t s =>
      cases s with
      | no => exact h.elim
      | own d' => exact h.elim
      | val d' =>
        cases d' with
        | bool k =>
          intro v F1 H1 hl1 r1
          have q : Rp c.K F1 v (.bool k) := r1.ok _ List.mem_cons_self
          cases q
          refine ⟨k, rfl, ?_⟩
          cases k with
          | true => exact iteT (h (.bl true) F1 H1 hl1 r1)
          | false => exact iteF (hb τ σ ρ1 F1 H1 Q hl1 r1.drop h)
        | _ => exact h.elim
theorem re_notV {t : TE} {a : DE} (ha : RE c W t a) : RE c W (tNotV t) (dNotV a) := by
  intro τ σ ρ F H Q hl r h
  unfold dNotV at h
  refine ha τ σ ρ F H _ hl r ?_
  cases e : a ρ with
  | no => rw [e] at h; exact h.elim
  | ex x ρ1 => rw [e] at h; exact h
  | ok o ρ1 =>
    rw [e] at h
    cases o with
    | p i => exact h.elim
    | t s =>
      cases s with
      | no => exact h.elim
      | own d' => exact h.elim
      | val d' =>
        cases d' with
        | bool k =>
          intro v F1 H1 hl1 r1
          have q : Rp c.K F1 v (.bool k) := r1.ok _ List.mem_cons_self
          cases q
          exact ⟨k, rfl, h (.bl (!k)) F1 H1 hl1 (r1.drop.addV (.bl _))⟩
        | _ => exact h.elim
variable {ea eb : DE}
theorem dx_one {op} (h : DX X c W a ea) : DX X c W (.BoolOp op [a] pos) ea := by
  obtain ⟨t, p, r⟩ := h
  exact ⟨t, pe_one p, r⟩
theorem dx_and (ha : DX X c W a ea) (hb : DX X c W (.BoolOp .And (b :: rest) pos) eb) : DX X c W (.BoolOp .And (a :: b :: rest) pos) (dAndV ea eb) := by
  obtain ⟨t, p, r⟩ := ha
  obtain ⟨t2, p2, r2⟩ := hb
  exact ⟨_, pe_and p p2, re_andV r r2⟩
theorem dx_or (ha : DX X c W a ea) (hb : DX X c W (.BoolOp .Or (b :: rest) pos) eb) : DX X c W (.BoolOp .Or (a :: b :: rest) pos) (dOrV ea eb) := by
  obtain ⟨t, p, r⟩ := ha
  obtain ⟨t2, p2, r2⟩ := hb
  exact ⟨_, pe_or p p2, re_orV r r2⟩
theorem dx_not (ha : DX X c W a ea) : DX X c W (.UnaryOp .Not a pos) (dNotV ea) := by
  obtain ⟨t, p, r⟩ := ha
  exact ⟨_, pe_not p, re_notV r⟩
/-- a if t else b -/
def dIf (t : DB) (a b : DE) : DE := fun ρ => match t ρ with
  | .ok true ρ1 => a ρ1
  | .ok false ρ1 => b ρ1
  | .ex x ρ1 => .ex x ρ1
  | .no => .no
theorem re_if {tc : TT} {t u : TE} {dc : DB} {a b : DE} (hc : RB c W tc dc) (ha : RE c W t a) (hb : RE c W u b) : RE c W (tIf tc t u) (dIf dc a b) := by
  intro τ σ ρ F H Q hl r h
  unfold dIf at h
  refine hc τ σ ρ F H _ hl r ?_
  cases e : dc ρ with
  | no => rw [e] at h; exact h.elim
  | ex x ρ1 => rw [e] at h; exact h
  | ok k ρ1 =>
    rw [e] at h
    intro F1 H1 hl1 r1
    cases k with
    | true => exact iteT (ha τ σ ρ1 F1 H1 Q hl1 r1 h)
    | false => exact iteF (hb τ σ ρ1 F1 H1 Q hl1 r1 h)
theorem dx_if {t : Expr} (hc : DT X c W t da) (ha : DX X c W a ea) (hb : DX X c W b eb) : DX X c W (.IfExp t a b pos) (dIf da ea eb) := by
  obtain ⟨t, p, r⟩ := ha
  obtain ⟨t2, p2, r2⟩ := hb
  obtain ⟨t3, p3, r3⟩ := hc
  exact ⟨_, pe_ifExp p3 p p2, re_if r3 r r2⟩
end
end PD

set_option Elab.async false
set_option linter.all false
set_option maxRecDepth 100000
set_option maxHeartbeats 2000000
/-! PdC: the operations over data, each with the rule that it keeps. -/
namespace PD
open PySem L2
section
variable {K : PySem.W.Frag} {F H : Hp} {X : Cx}
theorem PostV.here {Q : VK} {d : D} {z : V} (s : Same F H) (h : PostV K F H Q (.v d)) (q : Rp K F z d) : Q z H := h z F H (Grow.refl s) q
/-- a new frozen tuple, a new own list -/
theorem PostV.tup {Q : VK} {ds : List D} {vs : List V} {p : Addr} (s : Same F H) (h : PostV K F H Q (.v (.tuple ds))) (q : RpA K F vs ds) (hp : H p = none) : Q (.ref p) (upd H p (.tup vs)) := by
  have g := Grow.lay (o := .tup vs) s hp
  exact h (.ref p) _ _ g (.tup upd_same (RpA.mono g.f _ _ q))
theorem PostV.lst {Q : VK} {ds : List D} {vs : List V} {p : Addr} (s : Same F H) (h : PostV K F H Q (.n (.list ds))) (q : RpA K F vs ds) (hp : H p = none) : Q (.ref p) (upd H p (.lst vs)) := by
  have g := Grow.new1 (o := .lst vs) s hp
  exact h p _ _ _ g hp (s.free hp) upd_same (.lst q)
def vOr (f g : List D → VO) : List D → VO := fun ds => match f ds with
  | .no => g ds
  | x => x
theorem VOk.or {r r' : List V → Hp → VK → Prop} {f f' : List D → VO} (h : VOk K r f) (h' : VOk K r' f') : VOk K (fun vs H Q => r vs H Q ∨ r' vs H Q) (vOr f f') := by
  intro F H vs ds Q s rr hp
  unfold vOr at hp
  cases e : f ds with
  | no => rw [e] at hp; exact .inr (h' F H vs ds Q s rr hp)
  | v d => rw [e] at hp; exact .inl (h F H vs ds Q s rr (by rw [e]; exact hp))
  | n d => rw [e] at hp; exact .inl (h F H vs ds Q s rr (by rw [e]; exact hp))
theorem VOk.or2 {r r' : R2} {f f' : List D → VO} (h : VOk K (r2 r) f) (h' : VOk K (r2 r') f') : VOk K (r2 fun x y H Q => r x y H Q ∨ r' x y H Q) (vOr f f') := by
  intro F H vs ds Q s rr hp
  have q := VOk.or h h' F H vs ds Q s rr hp
  match vs, q with
  | [x, y], q => exact q
  | [], q => exact q.elim id id
  | [_], q => exact q.elim id id
  | _ :: _ :: _ :: _, q => exact q.elim id id

/-! ### ints -/
def oI (b : Int → Int → Bool) (g : Int → Int → Int) : List D → VO
  | [.int i, .int j] => if b i j = true then .v (.int (g i j)) else .no
  | _ => .no
theorem vok_I {C : Int → Int → Prop} {b : Int → Int → Bool} {g : Int → Int → Int} (hC : ∀ i j, b i j = true → C i j) : VOk K (r2 (rI C fun i j => .int (g i j))) (oI b g) := by
  intro F H vs ds Q s rr hp
  unfold oI at hp
  split at hp
  · rename_i i j
    cases rr with
    | cons h1 h2 =>
      cases h2 with
      | cons h2 h3 =>
        cases h3
        cases h1.int
        cases h2.int
        split at hp
        · rename_i hb
          exact ⟨i, j, rfl, rfl, hC i j hb, PostV.here s hp (.int _)⟩
        · exact hp.elim
  · exact hp.elim
def oI0 (g : Int → Int → Int) : List D → VO
  | [.int i, .int j] => .v (.int (g i j))
  | _ => .no
theorem vok_I0 {g : Int → Int → Int} : VOk K (r2 (rI0 fun i j => .int (g i j))) (oI0 g) := by
  intro F H vs ds Q s rr hp
  unfold oI0 at hp
  split at hp
  · rename_i i j
    cases rr with
    | cons h1 h2 =>
      cases h2 with
      | cons h2 h3 =>
        cases h3
        cases h1.int
        cases h2.int
        exact ⟨i, j, rfl, rfl, PostV.here s hp (.int _)⟩
  · exact hp.elim
def oB0 (g : Int → Int → Bool) : List D → VO
  | [.int i, .int j] => .v (.bool (g i j))
  | _ => .no
theorem vok_B0 {g : Int → Int → Bool} : VOk K (r2 (rI0 fun i j => .bl (g i j))) (oB0 g) := by
  intro F H vs ds Q s rr hp
  unfold oB0 at hp
  split at hp
  · rename_i i j
    cases rr with
    | cons h1 h2 =>
      cases h2 with
      | cons h2 h3 =>
        cases h3
        cases h1.int
        cases h2.int
        exact ⟨i, j, rfl, rfl, PostV.here s hp (.bl _)⟩
  · exact hp.elim
def oU (g : Int → Int) : List D → VO
  | [.int i] => .v (.int (g i))
  | _ => .no
theorem vok_U {g : Int → Int} : VOk K (r1 (rU fun i => .int (g i))) (oU g) := by
  intro F H vs ds Q s rr hp
  unfold oU at hp
  split at hp
  · rename_i i
    cases rr with
    | cons h1 h2 =>
      cases h2
      cases h1.int
      exact ⟨i, rfl, PostV.here s hp (.int _)⟩
  · exact hp.elim

/-! ### + -/
def oAddS : List D → VO
  | [.str a, .str b] => if a.length + b.length ≤ 100000 then .v (.str (a ++ b)) else .no
  | _ => .no
theorem vok_addS : VOk K (r2 fun x y H Q => ∃ i j, x = .str i ∧ y = .str j ∧ i.length + j.length ≤ sizeLine ∧ Q (.str (i ++ j)) H) oAddS := by
  intro F H vs ds Q s rr hp
  unfold oAddS at hp
  split at hp
  · rename_i a b
    cases rr with
    | cons h1 h2 =>
      cases h2 with
      | cons h2 h3 =>
        cases h3
        cases h1.str
        cases h2.str
        split at hp
        · rename_i hz
          exact ⟨a, b, rfl, rfl, szl hz, PostV.here s hp (.str _)⟩
        · exact hp.elim
  · exact hp.elim
def oAddT : List D → VO
  | [.tuple a, .tuple b] => if a.length + b.length ≤ 100000 then .v (.tuple (a ++ b)) else .no
  | _ => .no
theorem vok_addT : VOk K (r2 (rCatA K)) oAddT := by
  intro F H vs ds Q s rr hp
  unfold oAddT at hp
  split at hp
  · rename_i a b
    cases rr with
    | cons h1 h2 =>
      cases h2 with
      | cons h2 h3 =>
        cases h3
        split at hp
        · rename_i hz
          have k1 := h1
          have k2 := h2
          obtain ⟨p, xs, rfl, h1, q1⟩ := h1.tup s
          obtain ⟨p2, ys, rfl, h2, q2⟩ := h2.tup s
          have l1 := q1.len
          have l2 := q2.len
          refine ⟨p, p2, xs, ys, rfl, rfl, h1, h2, szl (by omega), fun e => ?_, fun e1 e => ?_, fun _ _ p hp' => PostV.tup s hp (q1.app q2) hp'⟩
          · subst e
            cases q1
            rcases k2 with k2 | ⟨_, _, _, _, k2⟩
            · exact PostV.here s hp k2
            · cases k2
          · subst e
            cases q2
            rw [List.append_nil] at hp
            rcases k1 with k1 | ⟨_, _, _, _, k1⟩
            · exact PostV.here s hp k1
            · cases k1
        · exact hp.elim
  · exact hp.elim
/-- list + list, lists that may be read -/
def rCatR : R2 := fun x y H Q => ∃ l b xs zs, x = .ref l ∧ y = .ref b ∧ Rd H l (.lst xs) ∧ Rd H b (.lst zs) ∧ xs.length + zs.length ≤ sizeLine ∧ ∀ p, H p = none → Q (.ref p) (upd H p (.lst (xs ++ zs)))
theorem Inv.lstR {pins : List (Addr × Obj)} {σ : St} {s : Shared} {l : Addr} {xs : List V} (I : Inv X pins σ H s) (hH : Rd H l (.lst xs)) : xs.length ≤ sizeLine ∧ ∃ (its : List Value) (n : Nat), Vals xs its ∧ xs.length = its.length ∧ s.heap.get? l = some { cls := .type "list", data := .seq its.toArray n } := by
  obtain ⟨z, its, n, r, e⟩ : ObjOk X.prog X.w H s.heap l (.lst xs) := hH.ok I.hok
  exact ⟨z, its, n, r, r.length, e⟩
theorem op_catR : OpR X (binaryOp .Add) rCatR := by
  intro pins s σ H x y v u Q I rx ry h
  obtain ⟨l, b, xs, zs, rfl, rfl, hH, hB, hz, q⟩ := h
  cases rx
  cases ry
  obtain ⟨z, its, n, r, hl, e⟩ := Inv.lstR I hH
  obtain ⟨z2, its2, n2, r2, hl2, e2⟩ := Inv.lstR I hB
  refine PySem.P.add_list e e2 ?_ (by rw [List.size_toArray, List.size_toArray]; omega)
  have ea : its.toArray ++ its2.toArray = (its ++ its2).toArray := by simp
  rw [ea]
  exact ⟨.ref _, _, I.lnew (t' := s.toks) (r.append r2) (by rw [List.length_append]; omega), rfl, q _ I.fresh⟩
def oAddL : List D → VO
  | [.list a, .list b] => if a.length + b.length ≤ 100000 then .n (.list (a ++ b)) else .no
  | _ => .no
theorem vok_addL : VOk K (r2 rCatR) oAddL := by
  intro F H vs ds Q s rr hp
  unfold oAddL at hp
  split at hp
  · rename_i a b
    cases rr with
    | cons h1 h2 =>
      cases h2 with
      | cons h2 h3 =>
        cases h3
        split at hp
        · rename_i hz
          obtain ⟨p, xs, rfl, h1, q1⟩ := h1.lst s
          obtain ⟨p2, ys, rfl, h2, q2⟩ := h2.lst s
          have l1 := q1.len
          have l2 := q2.len
          exact ⟨p, p2, xs, ys, rfl, rfl, h1, h2, szl (by omega), fun p hp' => PostV.lst s hp (q1.app q2) hp'⟩
        · exact hp.elim
  · exact hp.elim
def oAdd : List D → VO := vOr (oI0 fun i j => i + j) (vOr oAddS (vOr oAddT oAddL))
theorem op_addA : OpR X (binaryOp .Add) (fun x y H Q => (rI0 fun i j => .int (i + j)) x y H Q ∨ (fun x y H Q => (fun x y H Q => ∃ i j, x = .str i ∧ y = .str j ∧ i.length + j.length ≤ sizeLine ∧ Q (.str (i ++ j)) H) x y H Q ∨ (fun x y H Q => rCatA X.K x y H Q ∨ rCatR x y H Q) x y H Q) x y H Q) :=
  op_add.or (op_add_str.or (op_catA.or op_catR))
theorem vok_add : VOk K (r2 (fun x y H Q => (rI0 fun i j => .int (i + j)) x y H Q ∨ (fun x y H Q => (fun x y H Q => ∃ i j, x = .str i ∧ y = .str j ∧ i.length + j.length ≤ sizeLine ∧ Q (.str (i ++ j)) H) x y H Q ∨ (fun x y H Q => rCatA K x y H Q ∨ rCatR x y H Q) x y H Q) x y H Q)) oAdd :=
  vok_I0.or2 (vok_addS.or2 (vok_addT.or2 vok_addL))
/-! ### - * // % ** -/
def oSub : List D → VO := oI0 fun i j => i - j
def bMul (i j : Int) : Bool := (decide (-(2 ^ 64) < i) && decide (i < 2 ^ 64)) || (decide (-(2 ^ 64) < j) && decide (j < 2 ^ 64))
theorem bMul_ok (i j : Int) (h : bMul i j = true) : CMul i j := by
  simpa [bMul, CMul, Bool.or_eq_true, Bool.and_eq_true] using h
instance (i j : Int) : Decidable (CMulW i j) := by unfold CMulW; exact inferInstance
def oMulW : List D → VO := oI (fun i j => decide (CMulW i j)) fun i j => i * j
/-- text * int -/
def rMulS : R2 := fun x y H Q => ∃ z n, x = .str z ∧ y = .int n ∧ 0 ≤ n ∧ n ≤ 100000 ∧ z.length = 1 ∧ Q (.str ⟨(List.replicate n.toNat (z.cps.getD 0 0)).toArray⟩) H
theorem fold_one (c : Nat) : ∀ (n : Nat) (acc : Array Nat), (List.replicate n (#[c] : Array Nat)).foldl (· ++ ·) acc = acc ++ (List.replicate n c).toArray
  | 0, acc => by simp
  | n + 1, acc => by
    rw [List.replicate_succ, List.foldl_cons, fold_one c n]
    apply Array.toList_inj.mp
    simp [List.replicate_succ]
theorem op_mulS : OpR X (binaryOp .Mult) rMulS := by
  intro pins s σ H x y v u Q I rx ry h
  obtain ⟨z, n, rfl, rfl, h0, h1, hz, q⟩ := h
  obtain ⟨t, rfl⟩ := rx
  obtain ⟨t', rfl⟩ := ry
  have ez : z.cps = #[z.cps.getD 0 0] := by
    obtain ⟨a⟩ := z
    have hz : a.size = 1 := hz
    apply Array.ext
    · simpa using hz
    · intro i h1 h2
      have h1' : i < a.size := h1
      have : i = 0 := by omega
      subst this
      simp [Array.getD, hz]
  have hc : (List.replicate n.toNat (z.cps.getD 0 0)).toArray.size ≤ sizeLine := by
    rw [List.size_toArray, List.length_replicate]; exact szl (by omega)
  refine PySem.P.mul_str ?_ ?_ ?_ ?_
  · rw [decide_eq_false (by omega), decide_eq_false (by omega)]; rfl
  · intro a b c
    have hb : (n == 1 || z.length == 0) = false := b
    have : z.length = 1 := hz
    rw [this] at c
    have hn : n ≤ (2 ^ 63 - 1) / n ∨ True := .inr trivial
    have k : (1 : Int) ≤ (2 ^ 63 - 1) / n := by
      rw [Int.le_ediv_iff_mul_le (by omega)]
      omega
    have c' : ((1 : Nat) : Int) > (2 ^ 63 - 1) / n := c
    omega
  · intro a b
    unfold Builtin.Str.tooLong
    rw [hz]
    have := sizeLine_eq
    simp only [Nat.one_mul]
    exact decide_eq_false (by omega)
  · by_cases hn : n < 1
    · rw [if_pos hn]
      have : n = 0 := by omega
      subst this
      exact ⟨by decide, .str _, H, I.tok _, ⟨_, rfl⟩, q⟩
    · rw [if_neg hn]
      by_cases h11 : (n == 1 || z.length == 0) = true
      · rw [if_pos h11]
        have hn1 : n = 1 := by
          rw [hz] at h11
          simpa using h11
        subst hn1
        refine ⟨.str z, H, I, ⟨t, rfl⟩, ?_⟩
        have : (⟨(List.replicate (1 : Int).toNat (z.cps.getD 0 0)).toArray⟩ : Str) = z := by
          obtain ⟨a⟩ := z
          exact congrArg Str.mk ez.symm
        rw [this] at q
        exact q
      · rw [if_neg h11]
        have e : (List.replicate n.toNat z.cps).foldl (· ++ ·) #[] = (List.replicate n.toNat (z.cps.getD 0 0)).toArray := by
          rw [ez, fold_one]
          simp
        rw [e]
        exact ⟨hc, .str _, H, I.tok _, ⟨_, rfl⟩, q⟩
def oMulS : List D → VO
  | [.str z, .int n] => if 0 ≤ n ∧ n ≤ 100000 ∧ z.length = 1 then .v (.str ⟨(List.replicate n.toNat (z.cps.getD 0 0)).toArray⟩) else .no
  | _ => .no
theorem vok_mulS : VOk K (r2 rMulS) oMulS := by
  intro F H vs ds Q s rr hp
  unfold oMulS at hp
  split at hp
  · rename_i z n
    cases rr with
    | cons h1 h2 =>
      cases h2 with
      | cons h2 h3 =>
        cases h3
        cases h1.str
        cases h2.int
        split at hp
        · rename_i hz
          exact ⟨z, n, rfl, rfl, hz.1, hz.2.1, hz.2.2, PostV.here s hp (.str _)⟩
        · exact hp.elim
  · exact hp.elim
def oMulT : List D → VO
  | [.tuple ds, .int k] => if ds ≠ [] ∧ 2 ≤ k ∧ k ≤ 1000 ∧ ds.length ≤ 1000 then .v (.tuple (List.replicate k.toNat ds).flatten) else .no
  | _ => .no
theorem RpA.rep {vs : List V} {ds : List D} (h : RpA K F vs ds) : ∀ n : Nat, RpA K F (List.replicate n vs).flatten (List.replicate n ds).flatten
  | 0 => .nil
  | n + 1 => by
    rw [List.replicate_succ, List.replicate_succ, List.flatten_cons, List.flatten_cons]
    exact h.app (h.rep n)
theorem vok_mulT : VOk K (r2 (rRepT K)) oMulT := by
  intro F H vs ds Q s rr hp
  unfold oMulT at hp
  split at hp
  · rename_i ds k
    cases rr with
    | cons h1 h2 =>
      cases h2 with
      | cons h2 h3 =>
        cases h3
        cases h2.int
        split at hp
        · rename_i hz
          obtain ⟨p, xs, rfl, h1, q1⟩ := h1.tup s
          have l1 := q1.len
          refine ⟨p, k, xs, rfl, rfl, h1, fun e => hz.1 ?_, hz.2.1, hz.2.2.1, by rw [l1]; exact hz.2.2.2, fun p hp' => PostV.tup s hp (q1.rep _) hp'⟩
          subst e; cases q1; rfl
        · exact hp.elim
  · exact hp.elim
def oMul : List D → VO := vOr (oI bMul fun i j => i * j) (vOr oMulW (vOr oMulS oMulT))
theorem op_mulA : OpR X (binaryOp .Mult) (fun x y H Q => rI CMul (fun i j => .int (i * j)) x y H Q ∨ (fun x y H Q => rI CMulW (fun i j => .int (i * j)) x y H Q ∨ (fun x y H Q => rMulS x y H Q ∨ rRepT X.K x y H Q) x y H Q) x y H Q) := op_mul.or (op_mulW.or (op_mulS.or op_repT))
theorem vok_mul : VOk K (r2 (fun x y H Q => rI CMul (fun i j => .int (i * j)) x y H Q ∨ (fun x y H Q => rI CMulW (fun i j => .int (i * j)) x y H Q ∨ (fun x y H Q => rMulS x y H Q ∨ rRepT K x y H Q) x y H Q) x y H Q)) oMul :=
  (vok_I bMul_ok).or2 ((show VOk K (r2 (rI CMulW fun i j => .int (i * j))) oMulW from vok_I fun _ _ h => of_decide_eq_true h).or2 (vok_mulS.or2 vok_mulT))
def bDiv (_ j : Int) : Bool := decide (j ≠ 0) && decide (j.natAbs < 1073741824)
theorem bDiv_ok (i j : Int) (h : bDiv i j = true) : CDivN i j := by
  simpa [bDiv, CDivN, Bool.and_eq_true] using h
instance (i j : Int) : Decidable (CDivW i j) := by unfold CDivW; exact inferInstance
def oDiv : List D → VO := vOr (oI bDiv fun i j => i.fdiv j) (oI (fun i j => decide (CDivW i j)) fun i j => i / j)
theorem op_divA : OpR X (binaryOp .FloorDiv) (fun x y H Q => rI CDivN (fun i j => .int (i.fdiv j)) x y H Q ∨ rI CDivW (fun i j => .int (i / j)) x y H Q) := op_fdivN.or op_fdivW
theorem vok_div : VOk K (r2 (fun x y H Q => rI CDivN (fun i j => .int (i.fdiv j)) x y H Q ∨ rI CDivW (fun i j => .int (i / j)) x y H Q)) oDiv := (vok_I bDiv_ok).or2 (vok_I fun _ _ h => of_decide_eq_true h)
def oMod : List D → VO := oI (fun _ j => decide (j ≠ 0)) fun i j => i.fmod j
theorem vok_mod : VOk K (r2 (rI (fun _ j => j ≠ 0) fun i j => .int (i.fmod j))) oMod := vok_I fun _ _ h => of_decide_eq_true h
def bPow (i j : Int) : Bool := decide (0 ≤ j) && decide (j ≤ 1000000) && decide (i.natAbs < 2 ^ 64)
theorem bPow_ok (i j : Int) (h : bPow i j = true) : CPow i j := by
  have h : (0 ≤ j ∧ j ≤ 1000000) ∧ i.natAbs < 2 ^ 64 := by simpa [bPow, Bool.and_eq_true] using h
  exact ⟨h.1.1, h.1.2, h.2⟩
def oPow : List D → VO := oI bPow fun i j => i ^ j.toNat
theorem vok_pow : VOk K (r2 (rI CPow fun i j => .int (i ^ j.toNat))) oPow := vok_I bPow_ok
def oShl : List D → VO := oI bPow fun i j => i * 2 ^ j.toNat
def oShr : List D → VO := oI (fun _ j => decide (0 ≤ j)) fun i j => i / 2 ^ j.toNat
theorem vok_shr : VOk K (r2 (rI (fun _ j => 0 ≤ j) fun i j => .int (i / 2 ^ j.toNat))) oShr := vok_I fun _ _ h => of_decide_eq_true h
def oAndB : List D → VO := oI0 Builtin.bitAnd
def oXorB : List D → VO := oI0 Builtin.bitXor
def oNeg : List D → VO := oU fun i => -i
def oLt : List D → VO := oB0 fun i j => decide (i < j)
def oLe : List D → VO := oB0 fun i j => decide (i ≤ j)
def oGt : List D → VO := oB0 fun i j => decide (j < i)
def oGe : List D → VO := oB0 fun i j => decide (j ≤ i)

/-! ### ==, is None, in -/
def oEqD : List D → VO
  | [a, b] => if (SeqAt.shaped a && SeqAt.shaped b) = true then .v (.bool (PyData.eqv a b)) else .no
  | _ => .no
def oNeD : List D → VO
  | [a, b] => if (SeqAt.shaped a && SeqAt.shaped b) = true then .v (.bool (!PyData.eqv a b)) else .no
  | _ => .no
theorem Rr.dp {v : V} {d : D} (s : Same F H) (h : Rr K F H v d) (hs : SeqAt.shaped d = true) : Dp K H v d := Rp.dp _ _ (SeqAt.canLay_of_shaped hs) (h.rp s)
theorem vok_eqD : VOk K (r2 (rEqD K)) oEqD := by
  intro F H vs ds Q s rr hp
  unfold oEqD at hp
  split at hp
  · rename_i a b
    cases rr with
    | cons h1 h2 =>
      cases h2 with
      | cons h2 h3 =>
        cases h3
        split at hp
        · rename_i hz
          obtain ⟨z1, z2⟩ := Bool.and_eq_true_iff.mp hz
          exact ⟨a, b, h1.dp s z1, h2.dp s z2, z1, z2, PostV.here s hp (.bl _)⟩
        · exact hp.elim
  · exact hp.elim
theorem vok_neD : VOk K (r2 (rNeD K)) oNeD := by
  intro F H vs ds Q s rr hp
  unfold oNeD at hp
  split at hp
  · rename_i a b
    cases rr with
    | cons h1 h2 =>
      cases h2 with
      | cons h2 h3 =>
        cases h3
        split at hp
        · rename_i hz
          obtain ⟨z1, z2⟩ := Bool.and_eq_true_iff.mp hz
          exact ⟨a, b, h1.dp s z1, h2.dp s z2, z1, z2, PostV.here s hp (.bl _)⟩
        · exact hp.elim
  · exact hp.elim
/-- texts are compared as they are -/
def oEqS : List D → VO
  | [.str a, .str b] => .v (.bool (decide (a = b)))
  | _ => .no
def oNeS : List D → VO
  | [.str a, .str b] => .v (.bool (!decide (a = b)))
  | _ => .no
theorem vok_eqS : VOk K (r2 rEq) oEqS := by
  intro F H vs ds Q s rr hp
  unfold oEqS at hp
  split at hp
  · rename_i a b
    cases rr with
    | cons h1 h2 =>
      cases h2 with
      | cons h2 h3 =>
        cases h3
        cases h1.str
        cases h2.str
        have e : decide (V.str a = V.str b) = decide (a = b) := by simp
        exact ⟨rfl, by rw [e]; exact PostV.here s hp (.bl _)⟩
  · exact hp.elim
theorem vok_neS : VOk K (r2 rNe) oNeS := by
  intro F H vs ds Q s rr hp
  unfold oNeS at hp
  split at hp
  · rename_i a b
    cases rr with
    | cons h1 h2 =>
      cases h2 with
      | cons h2 h3 =>
        cases h3
        cases h1.str
        cases h2.str
        have e : decide (V.str a = V.str b) = decide (a = b) := by simp
        exact ⟨rfl, by rw [e]; exact PostV.here s hp (.bl _)⟩
  · exact hp.elim
def oEq : List D → VO := vOr oEqS oEqD
def oNe : List D → VO := vOr oNeS oNeD
theorem op_eqA (hu : X.A.units + 64 < cLine) : OpR X (compareOp .Eq) (fun x y H Q => rEq x y H Q ∨ rEqD X.K x y H Q) := op_eq.or (op_eqD hu)
theorem op_neA (hu : X.A.units + 64 < cLine) : OpR X (compareOp .NotEq) (fun x y H Q => rNe x y H Q ∨ rNeD X.K x y H Q) := op_ne.or (op_neD hu)
theorem vok_eq : VOk K (r2 (fun x y H Q => rEq x y H Q ∨ rEqD K x y H Q)) oEq := vok_eqS.or2 vok_eqD
theorem vok_ne : VOk K (r2 (fun x y H Q => rNe x y H Q ∨ rNeD K x y H Q)) oNe := vok_neS.or2 vok_neD

def isNone : D → Bool
  | .none => true
  | _ => false
theorem isNone_ok {v : V} {d : D} (h : Rr K F H v d) : decide (v = .non) = isNone d := by
  rcases h with h | ⟨a, o, rfl, _, h⟩
  · cases h <;> rfl
  · cases h <;> rfl
def oIsN : List D → VO
  | [a, .none] => .v (.bool (isNone a))
  | _ => .no
def oNotN : List D → VO
  | [a, .none] => .v (.bool (!isNone a))
  | _ => .no
theorem vok_isN : VOk K (r2 fun x y H Q => y = .non ∧ Q (.bl (decide (x = .non))) H) oIsN := by
  intro F H vs ds Q s rr hp
  unfold oIsN at hp
  split at hp
  · rename_i a
    cases rr with
    | cons h1 h2 =>
      cases h2 with
      | cons h2 h3 =>
        cases h3
        cases h2.non
        refine ⟨rfl, ?_⟩
        rw [isNone_ok h1]
        exact PostV.here s hp (.bl _)
  · exact hp.elim
theorem vok_notN : VOk K (r2 fun x y H Q => y = .non ∧ Q (.bl (!decide (x = .non))) H) oNotN := by
  intro F H vs ds Q s rr hp
  unfold oNotN at hp
  split at hp
  · rename_i a
    cases rr with
    | cons h1 h2 =>
      cases h2 with
      | cons h2 h3 =>
        cases h3
        cases h2.non
        refine ⟨rfl, ?_⟩
        rw [isNone_ok h1]
        exact PostV.here s hp (.bl _)
  · exact hp.elim
def rInT (K : PySem.W.Frag) : R2 := fun x y H Q => ∃ d ds, Dp K H x d ∧ Dp K H y (.tuple ds) ∧ SeqAt.shaped d = true ∧ SeqAt.shaped (.tuple ds) = true ∧ Q (.bl (ds.any fun z => PyData.eqv z d)) H
def rNotInT (K : PySem.W.Frag) : R2 := fun x y H Q => ∃ d ds, Dp K H x d ∧ Dp K H y (.tuple ds) ∧ SeqAt.shaped d = true ∧ SeqAt.shaped (.tuple ds) = true ∧ Q (.bl (!ds.any fun z => PyData.eqv z d)) H
theorem op_inT (hu : X.A.units + 65 < cLine) : OpR X (compareOp .In) (rInT X.K) := by
  intro pins s σ H x y v u Q I rx ry h
  obtain ⟨d, ds, hd, he, sd, se, q⟩ := h
  obtain ⟨as, r1⟩ := Dp.reads I d x v hd rx
  obtain ⟨bs, r2⟩ := Dp.reads I (.tuple ds) y u he ry
  exact SeqAt.in_tuple_reads r2 r1 (SeqAt.canLay_of_shaped se) (SeqAt.canLay_of_shaped sd) (PyProof.Rows.room_in_shaped sd hu) ⟨.bl _, H, I, rfl, q⟩
theorem op_notInT (hu : X.A.units + 65 < cLine) : OpR X (compareOp .NotIn) (rNotInT X.K) := by
  intro pins s σ H x y v u Q I rx ry h
  obtain ⟨d, ds, hd, he, sd, se, q⟩ := h
  obtain ⟨as, r1⟩ := Dp.reads I d x v hd rx
  obtain ⟨bs, r2⟩ := Dp.reads I (.tuple ds) y u he ry
  exact SeqAt.notIn_tuple_reads r2 r1 (SeqAt.canLay_of_shaped se) (SeqAt.canLay_of_shaped sd) (PyProof.Rows.room_in_shaped sd hu) ⟨.bl _, H, I, rfl, q⟩
def inD (d : D) (ds : List D) : Bool := ds.any fun z => PyData.eqv z d
def oInL : List D → VO
  | [d, .list ds] => if (SeqAt.shaped d && SeqAt.shaped (.list ds)) = true then .v (.bool (inD d ds)) else .no
  | _ => .no
def oInT : List D → VO
  | [d, .tuple ds] => if (SeqAt.shaped d && SeqAt.shaped (.tuple ds)) = true then .v (.bool (inD d ds)) else .no
  | _ => .no
def oInS : List D → VO
  | [.str x, .str z] => if x.length = 1 then .v (.bool (decide (x.cps.getD 0 0 ∈ z.cps.toList))) else .no
  | _ => .no
def oNotInL : List D → VO
  | [d, .list ds] => if (SeqAt.shaped d && SeqAt.shaped (.list ds)) = true then .v (.bool (!inD d ds)) else .no
  | _ => .no
def oNotInT : List D → VO
  | [d, .tuple ds] => if (SeqAt.shaped d && SeqAt.shaped (.tuple ds)) = true then .v (.bool (!inD d ds)) else .no
  | _ => .no
def oNotInS : List D → VO
  | [.str x, .str z] => if x.length = 1 then .v (.bool (!decide (x.cps.getD 0 0 ∈ z.cps.toList))) else .no
  | _ => .no
theorem vok_inL : VOk K (r2 (rInD K)) oInL := by
  intro F H vs ds Q s rr hp
  unfold oInL at hp
  split at hp
  · rename_i d ds
    cases rr with
    | cons h1 h2 =>
      cases h2 with
      | cons h2 h3 =>
        cases h3
        split at hp
        · rename_i hz
          obtain ⟨z1, z2⟩ := Bool.and_eq_true_iff.mp hz
          exact ⟨d, ds, h1.dp s z1, h2.dp s z2, z1, z2, PostV.here s hp (.bl _)⟩
        · exact hp.elim
  · exact hp.elim
theorem vok_notInL : VOk K (r2 (rNotInD K)) oNotInL := by
  intro F H vs ds Q s rr hp
  unfold oNotInL at hp
  split at hp
  · rename_i d ds
    cases rr with
    | cons h1 h2 =>
      cases h2 with
      | cons h2 h3 =>
        cases h3
        split at hp
        · rename_i hz
          obtain ⟨z1, z2⟩ := Bool.and_eq_true_iff.mp hz
          exact ⟨d, ds, h1.dp s z1, h2.dp s z2, z1, z2, PostV.here s hp (.bl _)⟩
        · exact hp.elim
  · exact hp.elim
theorem vok_inT : VOk K (r2 (rInT K)) oInT := by
  intro F H vs ds Q s rr hp
  unfold oInT at hp
  split at hp
  · rename_i d ds
    cases rr with
    | cons h1 h2 =>
      cases h2 with
      | cons h2 h3 =>
        cases h3
        split at hp
        · rename_i hz
          obtain ⟨z1, z2⟩ := Bool.and_eq_true_iff.mp hz
          exact ⟨d, ds, h1.dp s z1, h2.dp s z2, z1, z2, PostV.here s hp (.bl _)⟩
        · exact hp.elim
  · exact hp.elim
theorem vok_notInT : VOk K (r2 (rNotInT K)) oNotInT := by
  intro F H vs ds Q s rr hp
  unfold oNotInT at hp
  split at hp
  · rename_i d ds
    cases rr with
    | cons h1 h2 =>
      cases h2 with
      | cons h2 h3 =>
        cases h3
        split at hp
        · rename_i hz
          obtain ⟨z1, z2⟩ := Bool.and_eq_true_iff.mp hz
          exact ⟨d, ds, h1.dp s z1, h2.dp s z2, z1, z2, PostV.here s hp (.bl _)⟩
        · exact hp.elim
  · exact hp.elim
theorem one_sign {x : Str} (h : x.length = 1) : x = ⟨#[x.cps.getD 0 0]⟩ := by
  obtain ⟨a⟩ := x
  have hz : a.size = 1 := h
  refine congrArg Str.mk (Array.ext (by simpa using hz) fun i h1 h2 => ?_)
  have h1' : i < a.size := h1
  have : i = 0 := by omega
  subst this
  simp [Array.getD, hz]
theorem vok_inS : VOk K (r2 fun x y H Q => ∃ (c : Nat) (z : Str), x = .str ⟨#[c]⟩ ∧ y = .str z ∧ Q (.bl (decide (c ∈ z.cps.toList))) H) oInS := by
  intro F H vs ds Q s rr hp
  unfold oInS at hp
  split at hp
  · rename_i x z
    cases rr with
    | cons h1 h2 =>
      cases h2 with
      | cons h2 h3 =>
        cases h3
        cases h1.str
        cases h2.str
        split at hp
        · rename_i hz
          exact ⟨_, z, congrArg V.str (one_sign hz), rfl, PostV.here s hp (.bl _)⟩
        · exact hp.elim
  · exact hp.elim
theorem vok_notInS : VOk K (r2 fun x y H Q => ∃ (c : Nat) (z : Str), x = .str ⟨#[c]⟩ ∧ y = .str z ∧ Q (.bl (!decide (c ∈ z.cps.toList))) H) oNotInS := by
  intro F H vs ds Q s rr hp
  unfold oNotInS at hp
  split at hp
  · rename_i x z
    cases rr with
    | cons h1 h2 =>
      cases h2 with
      | cons h2 h3 =>
        cases h3
        cases h1.str
        cases h2.str
        split at hp
        · rename_i hz
          exact ⟨_, z, congrArg V.str (one_sign hz), rfl, PostV.here s hp (.bl _)⟩
        · exact hp.elim
  · exact hp.elim
def rInA (K : PySem.W.Frag) : R2 := fun x y H Q => rInD K x y H Q ∨ (fun x y H Q => rInT K x y H Q ∨ (fun x y H Q => ∃ (c : Nat) (z : Str), x = .str ⟨#[c]⟩ ∧ y = .str z ∧ Q (.bl (decide (c ∈ z.cps.toList))) H) x y H Q) x y H Q
def rNotInA (K : PySem.W.Frag) : R2 := fun x y H Q => rNotInD K x y H Q ∨ (fun x y H Q => rNotInT K x y H Q ∨ (fun x y H Q => ∃ (c : Nat) (z : Str), x = .str ⟨#[c]⟩ ∧ y = .str z ∧ Q (.bl (!decide (c ∈ z.cps.toList))) H) x y H Q) x y H Q
def oIn : List D → VO := vOr oInL (vOr oInT oInS)
def oNotIn : List D → VO := vOr oNotInL (vOr oNotInT oNotInS)
theorem op_inA (hu : X.A.units + 65 < cLine) : OpR X (compareOp .In) (rInA X.K) := (op_inD hu).or ((op_inT hu).or op_in_sign)
theorem op_notInA (hu : X.A.units + 65 < cLine) : OpR X (compareOp .NotIn) (rNotInA X.K) := (op_notInD hu).or ((op_notInT hu).or op_notIn_sign)
theorem vok_in : VOk K (r2 (rInA K)) oIn := vok_inL.or2 (vok_inT.or2 vok_inS)
theorem vok_notIn : VOk K (r2 (rNotInA K)) oNotIn := vok_notInL.or2 (vok_notInT.or2 vok_notInS)
/-! ### a[i] -/
def oIxL : List D → VO
  | [.list ds, .int i] => (match atI ds i with
    | some d => .v d
    | none => .no)
  | _ => .no
def oIxT : List D → VO
  | [.tuple ds, .int i] => (match atI ds i with
    | some d => .v d
    | none => .no)
  | _ => .no
def oIxS : List D → VO
  | [.str z, .int i] => if z.length ≤ 100000 then (match atI z.cps.toList i with
    | some c => .v (.str ⟨#[c]⟩)
    | none => .no) else .no
  | _ => .no
theorem RpA.atI {vs : List V} {ds : List D} {i : Int} {d : D} (h : RpA K F vs ds) (e : atI ds i = some d) : ∃ v, L2.atI vs i = some v ∧ Rp K F v d := by
  unfold L2.atI at e ⊢
  rw [h.len]
  cases e1 : ixN ds.length i with
  | none => rw [e1] at e; cases e
  | some j =>
    rw [e1] at e
    exact h.get (i := j) e
theorem vok_ixL : VOk K (r2 (rIxL K)) oIxL := by
  intro F H vs ds Q s rr hp
  unfold oIxL at hp
  split at hp
  · rename_i ds i
    cases rr with
    | cons h1 h2 =>
      cases h2 with
      | cons h2 h3 =>
        cases h3
        cases h2.int
        obtain ⟨p, xs, rfl, h1, q1⟩ := h1.lst s
        cases e : atI ds i with
        | none => rw [e] at hp; exact hp.elim
        | some d =>
          rw [e] at hp
          obtain ⟨v, e1, q⟩ := q1.atI e
          exact ⟨p, xs, i, v, rfl, rfl, .inl h1, e1, PostV.here s hp q⟩
  · exact hp.elim
theorem vok_ixT : VOk K (r2 (rIxT K)) oIxT := by
  intro F H vs ds Q s rr hp
  unfold oIxT at hp
  split at hp
  · rename_i ds i
    cases rr with
    | cons h1 h2 =>
      cases h2 with
      | cons h2 h3 =>
        cases h3
        cases h2.int
        obtain ⟨p, xs, rfl, h1, q1⟩ := h1.tup s
        cases e : atI ds i with
        | none => rw [e] at hp; exact hp.elim
        | some d =>
          rw [e] at hp
          obtain ⟨v, e1, q⟩ := q1.atI e
          exact ⟨p, xs, i, v, rfl, rfl, h1, e1, PostV.here s hp q⟩
  · exact hp.elim
theorem vok_ixS : VOk K (r2 rIxS) oIxS := by
  intro F H vs ds Q s rr hp
  unfold oIxS at hp
  split at hp
  · rename_i z i
    cases rr with
    | cons h1 h2 =>
      cases h2 with
      | cons h2 h3 =>
        cases h3
        cases h1.str
        cases h2.int
        split at hp
        · rename_i hz
          cases e : atI z.cps.toList i with
          | none => rw [e] at hp; exact hp.elim
          | some c =>
            rw [e] at hp
            exact ⟨z, i, c, rfl, rfl, szl hz, e, PostV.here s hp (.str _)⟩
        · exact hp.elim
  · exact hp.elim
def oIx : List D → VO := vOr oIxL (vOr oIxT oIxS)
theorem vok_ix : VOk K (r2 (rIx K)) oIx := vok_ixL.or2 (vok_ixT.or2 vok_ixS)
/-! ### a[lo:hi] -/
def cutL {α : Type} (xs : List α) (lo hi : Option Int) : List α := (xs.drop (HT.sIx xs.length 0 lo)).take (HT.sIx xs.length xs.length hi - HT.sIx xs.length 0 lo)
def cutD (d : D) (lo hi : Option Int) : VO := match d with
  | .list ds => .n (.list (cutL ds lo hi))
  | .tuple ds => .v (.tuple (cutL ds lo hi))
  | .str z => if z.length ≤ 100000 then .v (.str (cutS z lo hi)) else .no
  | _ => .no
def rSlR : V → Option Int → Option Int → Hp → VK → Prop := fun x lo hi H Q => ∃ a xs, x = .ref a ∧ Rd H a (.lst xs) ∧ ∀ p, H p = none → Q (.ref p) (upd H p (.lst (cutV xs lo hi)))
def rSl (K : PySem.W.Frag) : V → Option Int → Option Int → Hp → VK → Prop := fun x lo hi H Q => rSlL K x lo hi H Q ∨ (fun x lo hi H Q => rSlA K x lo hi H Q ∨ rSlS x lo hi H Q) x lo hi H Q
theorem sl_any : SlR X (rSl X.K) := sl_list.or (sl_tupA.or sl_str)
theorem RpA.cut {vs : List V} {ds : List D} (h : RpA K F vs ds) (lo hi : Option Int) : RpA K F (cutV vs lo hi) (cutL ds lo hi) := by
  unfold cutV cutL
  rw [h.len]
  exact (h.drop _).take _
theorem cut_ok {v : V} {d : D} {lo hi : Option Int} {Q : VK} (s : Same F H) (h : Rr K F H v d) (hp : PostV K F H Q (cutD d lo hi)) : rSl K v lo hi H Q := by
  cases d with
  | list ds =>
    obtain ⟨p, xs, rfl, h1, q1⟩ := h.lst s
    exact .inl ⟨p, xs, rfl, .inl h1, fun p hp' => PostV.lst s hp (q1.cut lo hi) hp'⟩
  | tuple ds =>
    have h0 := h
    obtain ⟨p, xs, rfl, h1, q1⟩ := h.tup s
    refine .inr (.inl ⟨p, xs, rfl, h1, fun e => ?_, fun _ p hp' => PostV.tup s hp (q1.cut lo hi) hp'⟩)
    have l := q1.len
    have e2 : cutL ds lo hi = ds := by
      unfold cutL
      rw [← l, e.1, e.2]
      simp [l]
    have hp : PostV K F H Q (.v (.tuple (cutL ds lo hi))) := hp
    rw [e2] at hp
    rcases h0 with h0 | ⟨_, _, _, _, h0⟩
    · exact PostV.here s hp h0
    · cases h0
  | str z =>
    cases h.str
    unfold cutD at hp
    simp only at hp
    split at hp
    · rename_i hz
      exact .inr (.inr ⟨z, rfl, szl hz, PostV.here s hp (.str _)⟩)
    · exact hp.elim
  | _ => exact hp.elim
def oSl00 : List D → VO
  | [d] => cutD d none none
  | _ => .no
def oSl01 : List D → VO
  | [d, .int j] => cutD d none (some j)
  | _ => .no
def oSl10 : List D → VO
  | [d, .int i] => cutD d (some i) none
  | _ => .no
def oSl11 : List D → VO
  | [d, .int i, .int j] => cutD d (some i) (some j)
  | _ => .no
def rSl01 (K : PySem.W.Frag) : List V → Hp → VK → Prop := fun vs H Q => match vs with
  | [x, y] => ∃ j, y = .int j ∧ rSl K x none (some j) H Q
  | _ => False
def rSl10 (K : PySem.W.Frag) : List V → Hp → VK → Prop := fun vs H Q => match vs with
  | [x, y] => ∃ j, y = .int j ∧ rSl K x (some j) none H Q
  | _ => False
def rSl11 (K : PySem.W.Frag) : List V → Hp → VK → Prop := fun vs H Q => match vs with
  | [x, y, z] => ∃ i, y = .int i ∧ ∃ j, z = .int j ∧ rSl K x (some i) (some j) H Q
  | _ => False
/-- the part's int is asked where it is reckoned -/
def rInt1 (r : List V → Hp → VK → Prop) : List V → Hp → VK → Prop := r
theorem vok_sl01 : VOk K (rSl01 K) oSl01 := by
  intro F H vs ds Q s rr hp
  unfold oSl01 at hp
  split at hp
  · rename_i d j
    cases rr with
    | cons h1 h2 =>
      cases h2 with
      | cons h2 h3 =>
        cases h3
        cases h2.int
        exact ⟨j, rfl, cut_ok s h1 hp⟩
  · exact hp.elim
theorem vok_sl10 : VOk K (rSl10 K) oSl10 := by
  intro F H vs ds Q s rr hp
  unfold oSl10 at hp
  split at hp
  · rename_i d j
    cases rr with
    | cons h1 h2 =>
      cases h2 with
      | cons h2 h3 =>
        cases h3
        cases h2.int
        exact ⟨j, rfl, cut_ok s h1 hp⟩
  · exact hp.elim
end
section
variable {X : Cx} {c : Cfg} {W : XK}
theorem dx_sl01 {e hi : Expr} {de dh : DE} {p2 pos : Pos} (hK : c.K = X.K) (he : DX X c W e de) (hh : DX X c W hi dh) : DX X c W (.Subscript e (.Slice none (some hi) none p2) pos) (dOp oSl01 (daC de (daC dh daN))) := by
  obtain ⟨t, p, r⟩ := he
  obtain ⟨t2, p2, r2⟩ := hh
  have q := re_op (c := c) (W := W) (vok_sl01 (K := c.K)) (ra_cons r (ra_cons r2 ra_nil))
  rw [hK] at q
  exact ⟨_, pe_slice sl_any p po_none (po_some p2), q⟩
theorem dx_sl10 {e lo : Expr} {de dl : DE} {p2 pos : Pos} (hK : c.K = X.K) (he : DX X c W e de) (hh : DX X c W lo dl) : DX X c W (.Subscript e (.Slice (some lo) none none p2) pos) (dOp oSl10 (daC de (daC dl daN))) := by
  obtain ⟨t, p, r⟩ := he
  obtain ⟨t2, p2, r2⟩ := hh
  have q := re_op (c := c) (W := W) (vok_sl10 (K := c.K)) (ra_cons r (ra_cons r2 ra_nil))
  rw [hK] at q
  exact ⟨_, pe_slice sl_any p (po_some p2) po_none, q⟩
/-- both parts: each is an int as soon as it is reckoned -/
def dInt (d : DE) : DE := fun ρ => match d ρ with
  | .ok (.t (.val (.int i))) ρ1 => .ok (.t (.val (.int i))) ρ1
  | .ex x ρ1 => .ex x ρ1
  | _ => .no
theorem re_int {te : TE} {d : DE} (he : RE c W te d) : RE c W (fun σ H Q => te σ H fun x H1 => ∃ i, x = .int i ∧ Q (.int i) H1) (dInt d) := by
  intro τ σ ρ F H Q hl r h
  unfold dInt at h
  refine he τ σ ρ F H _ hl r ?_
  cases e : d ρ with
  | no => rw [e] at h; exact h.elim
  | ex x ρ1 => rw [e] at h; exact h
  | ok o ρ1 =>
    rw [e] at h
    cases o with
    | p i => exact h.elim
    | t s =>
      cases s with
      | no => exact h.elim
      | own d' => exact h.elim
      | val d' =>
        cases d' with
        | int i =>
          intro v F1 H1 hl1 r1
          have q : Rp c.K F1 v (.int i) := r1.ok _ List.mem_cons_self
          cases q
          exact ⟨i, rfl, h (.int i) F1 H1 hl1 r1⟩
        | _ => exact h.elim
def rSl3 (K : PySem.W.Frag) : List V → Hp → VK → Prop := fun vs H Q => match vs with
  | [x, .int i, .int j] => rSl K x (some i) (some j) H Q
  | _ => False
theorem vok_sl3 {K : PySem.W.Frag} : VOk K (rSl3 K) oSl11 := by
  intro F H vs ds Q s rr hp
  unfold oSl11 at hp
  split at hp
  · rename_i d i j
    cases rr with
    | cons h1 h2 =>
      cases h2 with
      | cons h2 h3 =>
        cases h3 with
        | cons h3 h4 =>
          cases h4
          cases h2.int
          cases h3.int
          exact cut_ok s h1 hp
  · exact hp.elim
theorem dx_sl11 {e lo hi : Expr} {de dl dh : DE} {p2 pos : Pos} (hK : c.K = X.K) (he : DX X c W e de) (hl : DX X c W lo dl) (hh : DX X c W hi dh) : DX X c W (.Subscript e (.Slice (some lo) (some hi) none p2) pos) (dOp oSl11 (daC de (daC (dInt dl) (daC (dInt dh) daN)))) := by
  obtain ⟨t, p, r⟩ := he
  obtain ⟨t2, p2, r2⟩ := hl
  obtain ⟨t3, p3, r3⟩ := hh
  have q := re_op (c := c) (W := W) (vok_sl3 (K := c.K)) (ra_cons r (ra_cons (re_int r2) (ra_cons (re_int r3) ra_nil)))
  rw [hK] at q
  refine ⟨_, pe_slice sl_any p (po_some p2) (po_some p3), fun τ σ ρ F H Q hl r h => ?_⟩
  have q' := q τ σ ρ F H Q hl r h
  exact q'
end
end PD

set_option Elab.async false
set_option linter.all false
set_option maxRecDepth 100000
set_option maxHeartbeats 2000000
/-! PdD: statements (DSt, DSs), targets, what is walked, for, while. -/
namespace PD
open PySem L2

inductive SO where
  | nx (ρ : Sl)
  | rt (d : D) (ρ : Sl)
  | bk (ρ : Sl)
  | ct (ρ : Sl)
  | ex (x : Exn) (ρ : Sl)
  | no
abbrev DS := Sl → SO
def Pin (c : Cfg) (σ : St) : Prop := ∀ v, c.pin = some v → σ[0]? = some (some v)
/-- slot 0 is not stored to, or nothing is pinned there -/
def Np (c : Cfg) (is : List Nat) : Prop := 0 ∉ is ∨ c.pin = none

def PostX' (c : Cfg) (W : XK) (τ : Cells) (x : Exn) (ρ : Sl) : Prop :=
  ∀ cls dd (σ : St) F H, σ.length = ρ.length → Pin c σ → XRel c F H x cls dd → R c F (τ ++ σ.zip ρ) H → W cls dd H
def PostS (c : Cfg) (W : XK) (τ : Cells) (Dn : Ends) : SO → Prop
  | .nx ρ => ∀ (σ : St) F H, σ.length = ρ.length → Pin c σ → R c F (τ ++ σ.zip ρ) H → Dn.nx σ H
  | .rt d ρ => ∀ v (σ : St) F H, σ.length = ρ.length → Pin c σ → R c F ((some v, .val d) :: (τ ++ σ.zip ρ)) H → Dn.rt v H
  | .bk ρ => ∀ (σ : St) F H, σ.length = ρ.length → Pin c σ → R c F (τ ++ σ.zip ρ) H → Dn.bk σ H
  | .ct ρ => ∀ (σ : St) F H, σ.length = ρ.length → Pin c σ → R c F (τ ++ σ.zip ρ) H → Dn.ct σ H
  | .ex x ρ => PostX' c W τ x ρ
  | .no => False
def RS (c : Cfg) (W : XK) (t : TS) (d : DS) : Prop := ∀ τ σ ρ F H Dn, σ.length = ρ.length → Pin c σ → R c F (τ ++ σ.zip ρ) H → PostS c W τ Dn (d ρ) → t Dn σ H
def DSt (X : Cx) (c : Cfg) (W : XK) (s : Stmt) (d : DS) : Prop := ∃ t, PS X s t ∧ RS c W t d
def DSs (X : Cx) (c : Cfg) (W : XK) (s : List Stmt) (d : DS) : Prop := ∃ t, PSs X s t ∧ RS c W t d

section
variable {X : Cx} {c : Cfg} {W : XK}
theorem PostX'.of {τ : Cells} {σ : St} {x : Exn} {ρ : Sl} (hp : Pin c σ) (h : PostX' c W τ x ρ) : PostX c W τ σ x ρ := fun cls dd F H hl xr r => h cls dd σ F H hl hp xr r
def sNil : DS := fun ρ => .nx ρ
def sSeq (a b : DS) : DS := fun ρ => match a ρ with
  | .nx ρ1 => b ρ1
  | x => x
theorem rs_nil : RS c W tNext sNil := fun τ σ ρ F H Dn hl hp r h => h σ F H hl hp r
theorem rs_seq {t u : TS} {a b : DS} (ha : RS c W t a) (hb : RS c W u b) : RS c W (tSeq t u) (sSeq a b) := by
  intro τ σ ρ F H Dn hl hp r h
  unfold sSeq at h
  refine ha τ σ ρ F H { Dn with nx := u Dn } hl hp r ?_
  cases e : a ρ with
  | nx ρ1 =>
    rw [e] at h
    exact fun σ1 F1 H1 hl1 hp1 r1 => hb τ σ1 ρ1 F1 H1 Dn hl1 hp1 r1 h
  | rt d ρ1 => rw [e] at h; exact h
  | bk ρ1 => rw [e] at h; exact h
  | ct ρ1 => rw [e] at h; exact h
  | ex x ρ1 => rw [e] at h; exact h
  | no => rw [e] at h; exact h
theorem ds_nil : DSs X c W [] sNil := ⟨_, pss_nil, rs_nil⟩
theorem ds_cons {s : Stmt} {ss : List Stmt} {a b : DS} (h1 : DSt X c W s a) (h2 : DSs X c W ss b) : DSs X c W (s :: ss) (sSeq a b) := by
  obtain ⟨t, p, r⟩ := h1
  obtain ⟨t2, p2, r2⟩ := h2
  exact ⟨_, pss_cons p p2, rs_seq r r2⟩
theorem ds_one {s : Stmt} {a : DS} (h1 : DSt X c W s a) : DSs X c W [s] a := by
  obtain ⟨t, p, r⟩ := h1
  exact ⟨_, pss_one p, r⟩
theorem ds_pass {pos : Pos} : DSt X c W (.Pass pos) sNil := ⟨_, ps_pass, rs_nil⟩
def sBrk : DS := fun ρ => .bk ρ
def sCnt : DS := fun ρ => .ct ρ
theorem ds_break {pos : Pos} : DSt X c W (.Break pos) sBrk := ⟨_, ps_break, fun τ σ ρ F H Dn hl hp r h => h σ F H hl hp r⟩
theorem ds_continue {pos : Pos} : DSt X c W (.Continue pos) sCnt := ⟨_, ps_continue, fun τ σ ρ F H Dn hl hp r h => h σ F H hl hp r⟩

/-! ### storing to a slot -/
theorem zip_set2 {σ : St} {ρ : Sl} {i : Nat} {s s' : SV} {v v' : Option V} (hs : σ[i]? = some v) (hr : ρ[i]? = some s) :
    ∃ rest, (σ.zip ρ).Perm ((v, s) :: rest) ∧ ((σ.set i v').zip (ρ.set i s')).Perm ((v', s') :: rest) := by
  induction σ generalizing ρ i with
  | nil => simp at hs
  | cons x σ ih =>
    cases ρ with
    | nil => simp at hr
    | cons y ρ =>
      cases i with
      | zero =>
        simp at hs hr
        subst hs; subst hr
        exact ⟨σ.zip ρ, .refl _, .refl _⟩
      | succ i =>
        obtain ⟨rest, p1, p2⟩ := ih (by simpa using hs) (by simpa using hr)
        refine ⟨(x, y) :: rest, ?_, ?_⟩
        · exact (p1.cons (x, y)).trans (.swap _ _ _)
        · exact (p2.cons (x, y)).trans (.swap _ _ _)
theorem R.store {F H : Hp} {τ : Cells} {σ : St} {ρ : Sl} {i : Nat} {s : SV} {v : V} (hl : σ.length = ρ.length) (r : R c F ((some v, s) :: (τ ++ σ.zip ρ)) H) : R c F (τ ++ (σ.set i (some v)).zip (ρ.set i s)) H := by
  by_cases hi : i < σ.length
  · have hi2 : i < ρ.length := by omega
    obtain ⟨rest, p1, p2⟩ := zip_set2 (σ := σ) (ρ := ρ) (i := i) (s := ρ[i]) (s' := s) (v := σ[i]) (v' := some v) (by simp [hi]) (by simp [hi2])
    have r1 : R c F ((some v, s) :: (τ ++ ((σ[i], ρ[i]) :: rest))) H := r.permL ((p1.append_left τ).cons _)
    have r2 : R c F ((some v, s) :: (τ ++ rest)) H := r1.subl (((List.sublist_cons_self _ rest).append_left τ).cons_cons _)
    exact r2.permL (List.perm_middle.symm.trans ((p2.symm).append_left τ))
  · rw [List.set_eq_of_length_le (by omega), List.set_eq_of_length_le (by omega)]
    exact r.drop
theorem Pin.set {σ : St} {i : Nat} {v : V} (hp : Pin c σ) (hn : Np c [i]) : Pin c (σ.set i (some v)) := by
  intro w hw
  rcases hn with hn | hn
  · have : i ≠ 0 := fun z => hn (by simp [z])
    rw [List.getElem?_set_ne this]
    exact hp w hw
  · rw [hn] at hw; cases hw
/-- name = e, a new object stays the body's own -/
def sSet (i : Nat) (d : DE) : DS := fun ρ => match d ρ with
  | .ok (.t s) ρ1 => .nx (ρ1.set i s)
  | .ok (.p j) ρ1 => (match ρ1[j]? with
    | some (.val x) => .nx (ρ1.set i (.val x))
    | some (.own x) => .nx ((ρ1.set j (.val x)).set i (.val x))
    | _ => .no)
  | .ex x ρ1 => .ex x ρ1
  | .no => .no
theorem rs_set {i : Nat} {te : TE} {d : DE} (hn : Np c [i]) (he : RE c W te d) : RS c W (tAsg te (gName i)) (sSet i d) := by
  intro τ σ ρ F H Dn hl hp r h
  unfold sSet at h
  refine he τ σ ρ F H _ hl r ?_
  cases e : d ρ with
  | no => rw [e] at h; exact h.elim
  | ex x ρ1 => rw [e] at h; exact PostX'.of hp h
  | ok o ρ1 =>
    rw [e] at h
    cases o with
    | t s =>
      intro v F1 H1 hl1 r1
      exact h _ F1 H1 (by simpa using hl1) (hp.set hn) (r1.store hl1)
    | p j =>
      intro v F1 H1 hl1 hv r1
      simp only at h
      cases e1 : ρ1[j]? with
      | none => rw [e1] at h; exact h.elim
      | some s =>
        rw [e1] at h
        cases s with
        | no => exact h.elim
        | val x =>
          obtain ⟨F2, s2, hl2, r2⟩ := R.frz1 (o := .p j) (d := x) (ρ' := ρ1) hl1 (show Held σ [.p j] [v] from ⟨hv, trivial⟩) r1 (by simp only [PD.frz1]; rw [e1])
          exact h _ F2 H1 (by simpa using hl2) (hp.set hn) (r2.store hl2)
        | own x =>
          obtain ⟨F2, s2, hl2, r2⟩ := R.frz1 (o := .p j) (d := x) (ρ' := ρ1.set j (.val x)) hl1 (show Held σ [.p j] [v] from ⟨hv, trivial⟩) r1 (by simp only [PD.frz1]; rw [e1])
          exact h _ F2 H1 (by simpa using hl2) (hp.set hn) (r2.store hl2)
/-- an operand is frozen -/
def dFz (d : DE) : DE := fun ρ => match d ρ with
  | .ok o ρ1 => (match frz1 ρ1 o with
    | some (x, ρ2) => .ok (.t (.val x)) ρ2
    | none => .no)
  | .ex x ρ1 => .ex x ρ1
  | .no => .no
theorem re_fz {te : TE} {d : DE} (he : RE c W te d) : RE c W te (dFz d) := by
  intro τ σ ρ F H Q hl r h
  unfold dFz at h
  refine re_run he hl r (fun o ρ1 e v F1 H1 hl1 hh r1 => ?_) (fun x ρ1 e => by rw [e] at h; exact h) fun e => by rw [e] at h; exact h.elim
  rw [e] at h
  simp only at h
  cases e1 : frz1 ρ1 o with
  | none => rw [e1] at h; exact h.elim
  | some p =>
    obtain ⟨x, ρ2⟩ := p
    rw [e1] at h
    obtain ⟨F2, s2, hl2, r2⟩ := R.frz1 hl1 hh r1 e1
    exact h v F2 H1 hl2 r2
theorem dx_fz {e : Expr} {d : DE} (he : DX X c W e d) : DX X c W e (dFz d) := by
  obtain ⟨t, p, r⟩ := he
  exact ⟨t, p, re_fz r⟩
theorem ds_set {i : Nat} {x : Str} {e : Expr} {d : DE} {pos pos' : Pos} (hn : Np c [i]) (hN : X.N.Nodup) (he : DX X c W e d) (hi : X.N[i]? = some x := by rfl) (hx : Loc X.env.scope x := by first | exact Or.inl rfl | exact Or.inr rfl) (hs : swapsWith e (some (.Name x pos')) pos.line X.env = pure false := by rfl)
    (hf : X.fn x = true ∨ X.env.scope.names.lookup x = some .local := by first | exact .inl rfl | exact .inr rfl) : DSt X c W (.Assign [.Name x pos'] e pos) (sSet i d) := by
  obtain ⟨t, p, r⟩ := he
  exact ⟨_, ps_set hN hi hx p hs hf, rs_set hn r⟩
/-! ### targets -/
abbrev DG := D → Sl → Option Sl
def Out (σ σ' : St) (is : List Nat) : Prop := σ'.length = σ.length ∧ ∀ j, j ∉ is → σ'[j]? = σ[j]?
def PostG (c : Cfg) (τ : Cells) (σ : St) (is : List Nat) (Q : St → Hp → Prop) : Option Sl → Prop
  | some ρ => ∀ σ' F H, σ'.length = ρ.length → Out σ σ' is → R c F (τ ++ σ'.zip ρ) H → Q σ' H
  | none => False
def RG (c : Cfg) (g : TG) (dg : DG) (is : List Nat) : Prop := ∀ τ σ ρ F H v d Q, σ.length = ρ.length → R c F ((some v, .val d) :: (τ ++ σ.zip ρ)) H → PostG c τ σ is Q (dg d ρ) → g v σ H Q
def RGs (c : Cfg) (g : TGs) (dg : List D → Sl → Option Sl) (is : List Nat) : Prop := ∀ τ σ ρ F H vs ds Q, σ.length = ρ.length → R c F (τ ++ σ.zip ρ) H → RpA c.K F vs ds → PostG c τ σ is Q (dg ds ρ) → g vs σ H Q
def DXG (X : Cx) (c : Cfg) (tg : Expr) (dg : DG) (is : List Nat) : Prop := ∃ g, PG X tg g ∧ RG c g dg is
def DXGs (X : Cx) (c : Cfg) (tgs : List Expr) (dg : List D → Sl → Option Sl) (is : List Nat) : Prop := ∃ g, PGs X tgs g ∧ RGs c g dg is
def gN (i : Nat) : DG := fun d ρ => some (ρ.set i (.val d))
def gsN : List D → Sl → Option Sl := fun ds ρ => match ds with
  | [] => some ρ
  | _ => none
def gsC (g : DG) (gs : List D → Sl → Option Sl) : List D → Sl → Option Sl := fun ds ρ => match ds with
  | d :: ds => (match g d ρ with
    | some ρ1 => gs ds ρ1
    | none => none)
  | [] => none
def gT (gs : List D → Sl → Option Sl) (n : Nat) : DG := fun d ρ => match d with
  | .tuple ds => if ds.length = n then gs ds ρ else none
  | _ => none
theorem Out.refl {σ : St} {is : List Nat} : Out σ σ is := ⟨rfl, fun _ _ => rfl⟩
theorem Out.trans {σ σ1 σ2 : St} {is js : List Nat} (a : Out σ σ1 is) (b : Out σ1 σ2 js) : Out σ σ2 (is ++ js) :=
  ⟨b.1.trans a.1, fun j hj => (b.2 j fun z => hj (List.mem_append_right _ z)).trans (a.2 j fun z => hj (List.mem_append_left _ z))⟩
theorem rg_name {i : Nat} : RG c (gName i) (gN i) [i] := by
  intro τ σ ρ F H v d Q hl r h
  exact h _ F H (by simpa using hl) ⟨by simp, fun j hj => List.getElem?_set_ne (fun z => hj (by simp [z]))⟩ (r.store hl)
theorem rgs_nil : RGs c gNil gsN [] := by
  intro τ σ ρ F H vs ds Q hl r q h
  cases q with
  | nil => exact ⟨rfl, h σ F H hl Out.refl r⟩
  | cons _ _ => exact h.elim
theorem rgs_cons {g : TG} {gs : TGs} {dg : DG} {dgs : List D → Sl → Option Sl} {is js : List Nat} (h1 : RG c g dg is) (h2 : RGs c gs dgs js) : RGs c (gCons g gs) (gsC dg dgs) (is ++ js) := by
  intro τ σ ρ F H vs ds Q hl r q h
  cases q with
  | nil => exact h.elim
  | @cons v vs d ds q1 q2 =>
    unfold gsC at h
    simp only at h
    refine ⟨v, vs, rfl, ?_⟩
    have r1 : R c F ((some v, .val d) :: (τ ++ σ.zip ρ)) H := r.addV q1
    -- the further items are held meanwhile
    have hold : ∀ (vs : List V) (ds : List D) (τ : Cells), RpA c.K F vs ds → R c F (τ ++ σ.zip ρ) H → R c F ((vals vs ds ++ τ) ++ σ.zip ρ) H := by
      intro vs
      induction vs with
      | nil => intro ds τ q r; cases q; exact r
      | cons v vs ih =>
        intro ds τ q r
        cases q with
        | cons q1 q2 => exact (ih _ τ q2 r).addV q1
    have back : ∀ (vs : List V) (ds : List D) (F' : Hp) (H' : Hp) (cs : Cells), vs.length = ds.length → R c F' (vals vs ds ++ cs) H' → RpA c.K F' vs ds ∧ R c F' cs H' := by
      intro vs
      induction vs with
      | nil => intro ds F' H' cs hl r; cases ds with
        | nil => exact ⟨.nil, r⟩
        | cons _ _ => simp at hl
      | cons v vs ih =>
        intro ds F' H' cs hl r
        cases ds with
        | nil => simp at hl
        | cons d ds =>
          have r : R c F' ((some v, .val d) :: (vals vs ds ++ cs)) H' := r
          obtain ⟨a, b⟩ := ih ds F' H' cs (by simpa using hl) r.drop
          exact ⟨.cons (r.ok _ List.mem_cons_self) a, b⟩
    have r2 : R c F ((some v, .val d) :: ((vals vs ds ++ τ) ++ σ.zip ρ)) H := (hold vs ds τ q2 r).addV q1
    refine h1 (vals vs ds ++ τ) σ ρ F H v d _ hl r2 ?_
    cases e : dg d ρ with
    | none => rw [e] at h; exact h.elim
    | some ρ1 =>
      rw [e] at h
      intro σ1 F1 H1 hl1 o1 r3
      rw [List.append_assoc] at r3
      obtain ⟨k1, k2⟩ := back vs ds F1 H1 _ q2.len r3
      refine h2 τ σ1 ρ1 F1 H1 vs ds Q hl1 k2 k1 ?_
      cases e2 : dgs ds ρ1 with
      | none => simp only at h; rw [e2] at h; exact h.elim
      | some ρ2 =>
        simp only at h
        rw [e2] at h
        exact fun σ2 F2 H2 hl2 o2 r4 => h σ2 F2 H2 hl2 (o1.trans o2) r4
theorem rg_tup {gs : TGs} {dgs : List D → Sl → Option Sl} {n : Nat} {is : List Nat} (h1 : RGs c gs dgs is) : RG c (gTup c.K n gs) (gT dgs n) is := by
  intro τ σ ρ F H v d Q hl r h
  cases d with
  | tuple ds =>
    unfold gT at h
    simp only at h
    have q : Rp c.K F v (.tuple ds) := r.ok _ List.mem_cons_self
    cases q with
    | @tup a xs _ q1 q2 =>
      split at h
      · rename_i hn
        exact ⟨a, xs, rfl, .inl (.inl (r.sub _ _ q1)), by rw [q2.len]; exact hn, h1 τ σ ρ F H xs ds Q hl r.drop q2 h⟩
      · exact h.elim
  | _ => exact h.elim
theorem dg_name {i : Nat} {x : Str} {pos : Pos} (hN : X.N.Nodup) (hi : X.N[i]? = some x := by rfl) (hx : Loc X.env.scope x := by first | exact Or.inl rfl | exact Or.inr rfl) (hf : X.fn x = true ∨ X.env.scope.names.lookup x = some .local := by first | exact .inl rfl | exact .inr rfl) : DXG X c (.Name x pos) (gN i) [i] :=
  ⟨_, pg_name hN hi hx hf, rg_name⟩
theorem dgs_nil : DXGs X c [] gsN [] := ⟨_, pgs_nil, rgs_nil⟩
theorem dgs_cons {e : Expr} {es : List Expr} {dg : DG} {dgs : List D → Sl → Option Sl} {is js : List Nat} (h1 : DXG X c e dg is) (h2 : DXGs X c es dgs js) (hs : (assignEach (e :: es) X.env).map (·.2) = assign e X.env :: (assignEach es X.env).map (·.2) := by rfl) :
    DXGs X c (e :: es) (gsC dg dgs) (is ++ js) := by
  obtain ⟨g, p, r⟩ := h1
  obtain ⟨g2, p2, r2⟩ := h2
  exact ⟨_, pgs_cons p p2 hs, rgs_cons r r2⟩
theorem dg_tup {es : List Expr} {k n : Nat} {dgs : List D → Sl → Option Sl} {is : List Nat} {pos : Pos} (hK : c.K = X.K) (hc : X.calm = true) (h : DXGs X c es dgs is) (hn : (assignEach es X.env).length = n := by rfl) (hst : (assignEach es X.env).findIdx? (·.1) = none := by rfl) :
    DXG X c (.Tuple es k pos) (gT dgs n) is := by
  obtain ⟨g, p, r⟩ := h
  have q := rg_tup (n := n) r
  rw [hK] at q
  exact ⟨_, pg_tup hc p hn hst, q⟩
theorem Pin.out {σ σ' : St} {is : List Nat} (hp : Pin c σ) (hn : Np c is) (o : Out σ σ' is) : Pin c σ' := by
  intro v hv
  rcases hn with hn | hn
  · rw [o.2 0 hn]; exact hp v hv
  · rw [hn] at hv; cases hv
/-- target = e, frozen -/
def sAsg (dg : DG) (d : DE) : DS := fun ρ => match d ρ with
  | .ok o ρ1 => (match frz1 ρ1 o with
    | some (x, ρ2) => (match dg x ρ2 with
      | some ρ3 => .nx ρ3
      | none => .no)
    | none => .no)
  | .ex x ρ1 => .ex x ρ1
  | .no => .no
theorem rs_asg {te : TE} {g : TG} {d : DE} {dg : DG} {is : List Nat} (hn : Np c is) (he : RE c W te d) (hg : RG c g dg is) : RS c W (tAsg te g) (sAsg dg d) := by
  intro τ σ ρ F H Dn hl hp r h
  unfold sAsg at h
  refine re_run he hl r (fun o ρ1 e v F1 H1 hl1 hh r1 => ?_) (fun x ρ1 e => by rw [e] at h; exact PostX'.of hp h) fun e => by rw [e] at h; exact h.elim
  rw [e] at h
  simp only at h
  cases e1 : frz1 ρ1 o with
  | none => rw [e1] at h; exact h.elim
  | some p =>
    obtain ⟨x, ρ2⟩ := p
    rw [e1] at h
    simp only at h
    obtain ⟨F2, s2, hl2, r2⟩ := R.frz1 hl1 hh r1 e1
    refine hg τ σ ρ2 F2 H1 v x _ hl2 r2 ?_
    cases e2 : dg x ρ2 with
    | none => rw [e2] at h; exact h.elim
    | some ρ3 =>
      rw [e2] at h
      exact fun σ' F' H' hl' o' r' => h σ' F' H' hl' (hp.out hn o') r'
theorem ds_asg {tg e : Expr} {d : DE} {dg : DG} {is : List Nat} {pos : Pos} (hn : Np c is) (he : DX X c W e d) (hg : DXG X c tg dg is) (hs : swapsWithSole [tg] e pos.line X.env = pure false := by rfl) (hw : swappedStores [tg] e X.env = pure none := by rfl)
    (h1 : (assignEach [tg] X.env).map (·.2) = [assign tg X.env] := by rfl) : DSt X c W (.Assign [tg] e pos) (sAsg dg d) := by
  obtain ⟨t, p, r⟩ := he
  obtain ⟨g, p2, r2⟩ := hg
  exact ⟨_, ps_asg p p2 hs hw h1, rs_asg hn r r2⟩

/-! ### a, b = x, y -/
/-- an operand to a slot's content -/
def sv1 (ρ : Sl) : Od → Option (SV × Sl)
  | .t s => some (s, ρ)
  | .p i => match ρ[i]? with
    | some (.val d) => some (.val d, ρ)
    | some (.own d) => some (.val d, ρ.set i (.val d))
    | _ => none
def svA (ρ : Sl) : List Od → Option (List SV × Sl)
  | [] => some ([], ρ)
  | o :: os => match sv1 ρ o with
    | some (s, ρ1) => (match svA ρ1 os with
      | some (ss, ρ2) => some (s :: ss, ρ2)
      | none => none)
    | none => none
def cells : List V → List SV → Cells
  | v :: vs, s :: ss => (some v, s) :: cells vs ss
  | _, _ => []
theorem R.sv1 {F H : Hp} {τ : Cells} {σ : St} {ρ ρ' : Sl} {o : Od} {v : V} {s : SV} (hl : σ.length = ρ.length) (hh : Held σ [o] [v]) (r : R c F (temps [o] [v] ++ (τ ++ σ.zip ρ)) H) (e : PD.sv1 ρ o = some (s, ρ')) :
    ∃ F', σ.length = ρ'.length ∧ R c F' ((some v, s) :: (τ ++ σ.zip ρ')) H := by
  cases o with
  | t s' => cases e; exact ⟨F, hl, r⟩
  | p i =>
    simp only [PD.sv1] at e
    cases e3 : ρ[i]? with
    | none => rw [e3] at e; cases e
    | some s' =>
      rw [e3] at e
      cases s' with
      | no => cases e
      | val d =>
        cases e
        obtain ⟨F2, _, hl2, r2⟩ := R.frz1 (d := d) (ρ' := ρ) hl hh r (by simp only [PD.frz1]; rw [e3])
        exact ⟨F2, hl2, r2⟩
      | own d =>
        cases e
        obtain ⟨F2, _, hl2, r2⟩ := R.frz1 (d := d) (ρ' := ρ.set i (.val d)) hl hh r (by simp only [PD.frz1]; rw [e3])
        exact ⟨F2, hl2, r2⟩
theorem R.svA {H : Hp} {σ : St} : ∀ {os : List Od} {vs : List V} {ss : List SV} {τ : Cells} {ρ ρ' : Sl} {F : Hp}, σ.length = ρ.length → Held σ os vs → R c F (temps os vs ++ (τ ++ σ.zip ρ)) H → PD.svA ρ os = some (ss, ρ') →
    ∃ F', σ.length = ρ'.length ∧ ss.length = vs.length ∧ os.length = vs.length ∧ R c F' (cells vs ss ++ (τ ++ σ.zip ρ')) H
  | [], [], ss, τ, ρ, ρ', F, hl, hh, r, e => by
    cases e
    exact ⟨F, hl, rfl, rfl, r⟩
  | [], _ :: _, _, _, _, _, _, _, h, _, _ => h.elim
  | .t s :: os, [], _, _, _, _, _, _, h, _, _ => h.elim
  | .p i :: os, [], _, _, _, _, _, _, h, _, _ => h.elim
  | o :: os, v :: vs, ss, τ, ρ, ρ', F, hl, hh, r, e => by
    unfold PD.svA at e
    cases e1 : PD.sv1 ρ o with
    | none => rw [e1] at e; cases e
    | some p =>
      obtain ⟨s, ρ1⟩ := p
      rw [e1] at e
      simp only at e
      cases e2 : PD.svA ρ1 os with
      | none => rw [e2] at e; cases e
      | some p2 =>
        obtain ⟨ss2, ρ2⟩ := p2
        rw [e2] at e
        cases e
        have hh1 : Held σ [o] [v] := by cases o with
          | t s => trivial
          | p i => exact ⟨hh.1, trivial⟩
        have hh2 : Held σ os vs := by cases o with
          | t s => exact hh
          | p i => exact hh.2
        have r' : R c F (temps [o] [v] ++ ((temps os vs ++ τ) ++ σ.zip ρ)) H := by
          cases o with
          | t s =>
            have r : R c F ((some v, s) :: (temps os vs ++ (τ ++ σ.zip ρ))) H := r
            show R c F ((some v, s) :: ((temps os vs ++ τ) ++ σ.zip ρ)) H
            rw [List.append_assoc]; exact r
          | p i =>
            have r : R c F (temps os vs ++ (τ ++ σ.zip ρ)) H := r
            show R c F ((temps os vs ++ τ) ++ σ.zip ρ) H
            rw [List.append_assoc]; exact r
        obtain ⟨F1, hl1, r1⟩ := R.sv1 hl hh1 r' e1
        have r1' : R c F1 (temps os vs ++ (((some v, s) :: τ) ++ σ.zip ρ1)) H := by
          rw [List.append_assoc] at r1
          exact r1.permL List.perm_middle.symm
        obtain ⟨F2, hl2, z1, z2, r2⟩ := R.svA (ss := ss2) hl1 hh2 r1' e2
        refine ⟨F2, hl2, by simp [z1], by simp [z2], ?_⟩
        have r2 : R c F2 (cells vs ss2 ++ ((some v, s) :: (τ ++ σ.zip ρ'))) H := r2
        exact r2.permL List.perm_middle
/-- several slots at once -/
def setAll (ρ : Sl) : List Nat → List SV → Sl
  | i :: is, s :: ss => setAll (ρ.set i s) is ss
  | _, _ => ρ
def setAllV (σ : St) : List Nat → List V → St
  | i :: is, v :: vs => setAllV (σ.set i (some v)) is vs
  | _, _ => σ
theorem R.storeAll {H F : Hp} {τ : Cells} : ∀ (is : List Nat) (vs : List V) (ss : List SV) (σ : St) (ρ : Sl), σ.length = ρ.length → ss.length = vs.length → is.length = vs.length → R c F (cells vs ss ++ (τ ++ σ.zip ρ)) H →
    (setAllV σ is vs).length = (setAll ρ is ss).length ∧ R c F (τ ++ (setAllV σ is vs).zip (setAll ρ is ss)) H ∧ Out σ (setAllV σ is vs) is
  | [], [], [], σ, ρ, hl, _, _, r => ⟨hl, r, Out.refl⟩
  | i :: is, v :: vs, s :: ss, σ, ρ, hl, h1, h2, r => by
    have r1 : R c F ((some v, s) :: ((cells vs ss ++ τ) ++ σ.zip ρ)) H := by
      rw [List.append_assoc]; exact r
    have r2 := r1.store (i := i) hl
    rw [List.append_assoc] at r2
    obtain ⟨a, b, o⟩ := R.storeAll is vs ss (σ.set i (some v)) (ρ.set i s) (by simpa using hl) (by simpa using h1) (by simpa using h2) r2
    refine ⟨a, b, ?_⟩
    have o1 : Out σ (σ.set i (some v)) [i] := ⟨by simp, fun j hj => List.getElem?_set_ne (fun z => hj (by simp [z]))⟩
    exact o1.trans o
  | [], _ :: _, _, _, _, _, _, h, _ => by simp at h
  | _ :: _, [], _, _, _, _, _, h, _ => by simp at h
  | [], [], _ :: _, _, _, _, h, _, _ => by simp at h
  | _ :: _, _ :: _, [], _, _, _, h, _, _ => by simp at h
def sPar (is : List Nat) (da : DAs) : DS := fun ρ => match da ρ with
  | .ok os ρ1 => (match svA ρ1 os with
    | some (ss, ρ2) => .nx (setAll ρ2 is ss)
    | none => .no)
  | .ex x ρ1 => .ex x ρ1
  | .no => .no
theorem rs_parK {t : TS} {ta : TA} {da : DAs} {is : List Nat} {k : Ends → St → List V → Hp → Prop} (hn : Np c is) (hlen : ∀ ρ os ρ1, da ρ = .ok os ρ1 → os.length = is.length) (ht : ∀ Dn σ H, ta σ H (k Dn σ) → t Dn σ H)
    (hk : ∀ Dn σ vs H1, vs.length = is.length → (∀ H2, (H2 = H1 ∨ ∃ p, H1 p = none ∧ H2 = upd H1 p (.tup vs)) → Dn.nx (setAllV σ is vs) H2) → k Dn σ vs H1) (ha : RA c W ta da) : RS c W t (sPar is da) := by
  intro τ σ ρ F H Dn hl hpn r h
  unfold sPar at h
  refine ht Dn σ H (ha τ σ ρ F H _ hl r ?_)
  cases e : da ρ with
  | no => rw [e] at h; exact h.elim
  | ex x ρ1 => rw [e] at h; exact PostX'.of hpn h
  | ok os ρ1 =>
    rw [e] at h
    intro vs F1 H1 hl1 hh r1
    simp only at h
    cases e1 : svA ρ1 os with
    | none => rw [e1] at h; exact h.elim
    | some p =>
      obtain ⟨ss, ρ2⟩ := p
      rw [e1] at h
      obtain ⟨F2, hl2, z1, z2, r2⟩ := R.svA hl1 hh r1 e1
      have hv : is.length = vs.length := by rw [← hlen ρ os ρ1 e, z2]
      refine hk Dn σ vs H1 hv.symm fun H2 hH2 => ?_
      have r3 : R c F2 (cells vs ss ++ (τ ++ σ.zip ρ2)) H2 := by
        rcases hH2 with rfl | ⟨p, hp, rfl⟩
        · exact r2
        · exact r2.grow (Grow.new1 r2.sub hp)
      obtain ⟨a, b, o⟩ := R.storeAll is vs ss σ ρ2 hl2 z1 hv r3
      exact h _ F2 H2 a (hpn.out hn o) b
def daLen : DAs → Nat → Prop := fun da n => ∀ ρ os ρ1, da ρ = .ok os ρ1 → os.length = n
theorem daLen_nil : daLen daN 0 := fun ρ os ρ1 e => by cases e; rfl
theorem daLen_cons {d : DE} {da : DAs} {n : Nat} (h : daLen da n) : daLen (daC d da) (n + 1) := fun ρ os ρ1 e => by
  unfold daC at e
  cases e1 : d ρ with
  | no => rw [e1] at e; cases e
  | ex x ρ2 => rw [e1] at e; cases e
  | ok o ρ2 =>
    rw [e1] at e
    simp only at e
    cases e2 : da ρ2 with
    | no => rw [e2] at e; cases e
    | ex x ρ3 => rw [e2] at e; cases e
    | ok os' ρ3 =>
      rw [e2] at e
      cases e
      simp [h ρ2 os' _ e2]
theorem rs_par2 {i j : Nat} {ta : TA} {da : DAs} (hn : Np c [i, j]) (hlen : daLen da 2) (ha : RA c W ta da) : RS c W (tPar i j ta) (sPar [i, j] da) :=
  rs_parK (k := fun Dn σ vs H1 => ∃ v w, vs = [v, w] ∧ Dn.nx ((σ.set i (some v)).set j (some w)) H1) hn hlen (fun _ _ _ h => h) (fun Dn σ vs H1 hv h => by
    match vs, hv with
    | [v, w], _ => exact ⟨v, w, rfl, h H1 (.inl rfl)⟩) ha
theorem rs_par3 {i j l : Nat} {ta : TA} {da : DAs} (hn : Np c [i, j, l]) (hlen : daLen da 3) (ha : RA c W ta da) : RS c W (tPar3 i j l ta) (sPar [i, j, l] da) :=
  rs_parK (k := fun Dn σ vs H1 => ∃ v w u, vs = [v, w, u] ∧ Dn.nx (((σ.set i (some v)).set j (some w)).set l (some u)) H1) hn hlen (fun _ _ _ h => h) (fun Dn σ vs H1 hv h => by
    match vs, hv with
    | [v, w, u], _ => exact ⟨v, w, u, rfl, h H1 (.inl rfl)⟩) ha
/-- names, one behind another -/
def gAll : List Nat → TGs
  | [] => gNil
  | i :: is => gCons (gName i) (gAll is)
theorem gAll_ok {Q : St → Hp → Prop} {H : Hp} : ∀ (is : List Nat) (vs : List V) (σ : St), vs.length = is.length → Q (setAllV σ is vs) H → gAll is vs σ H Q
  | [], [], σ, _, h => ⟨rfl, h⟩
  | i :: is, v :: vs, σ, hl, h => ⟨v, vs, rfl, gAll_ok is vs (σ.set i (some v)) (by simpa using hl) h⟩
  | [], _ :: _, _, h, _ => by simp at h
  | _ :: _, [], _, h, _ => by simp at h
theorem rs_parT {n : Nat} {is : List Nat} {ta : TA} {da : DAs} (hn : Np c is) (hi : is.length = n) (hz : n ≤ 100000) (hlen : daLen da n) (ha : RA c W ta da) : RS c W (tAsg (tTup ta) (gTup c.K n (gAll is))) (sPar is da) :=
  rs_parK (k := fun Dn σ vs H1 => vs.length ≤ sizeLine ∧ ∀ p, H1 p = none → gTup c.K n (gAll is) (.ref p) σ (upd H1 p (.tup vs)) Dn.nx) hn (by rw [hi]; exact hlen) (fun _ _ _ h => h) (fun Dn σ vs H1 hv h => by
    refine ⟨szl (by omega), fun p hp => ⟨p, vs, rfl, .of upd_same, by omega, gAll_ok is vs σ hv (h _ (.inr ⟨p, hp, rfl⟩))⟩⟩) ha
def PGsAll (X : Cx) (tgs : List Expr) (is : List Nat) : Prop := PGs X tgs (gAll is)
theorem pga_nil : PGsAll X [] [] := pgs_nil
theorem pga_cons {x : Str} {pos : Pos} {es : List Expr} {i : Nat} {is : List Nat} (hN : X.N.Nodup) (h2 : PGsAll X es is) (hi : X.N[i]? = some x := by rfl) (hx : Loc X.env.scope x := by first | exact Or.inl rfl | exact Or.inr rfl) (hf : X.fn x = true ∨ X.env.scope.names.lookup x = some .local := by first | exact .inl rfl | exact .inr rfl)
    (hs : (assignEach (.Name x pos :: es) X.env).map (·.2) = assign (.Name x pos) X.env :: (assignEach es X.env).map (·.2) := by rfl) : PGsAll X (.Name x pos :: es) (i :: is) := pgs_cons (pg_name hN hi hx hf) h2 hs
theorem ds_parT {es ts : List Expr} {k kt n : Nat} {is : List Nat} {da : DAs} {pos pt pv' : Pos} (hn : Np c is) (hK : c.K = X.K) (hc : X.calm = true) (hg : PGsAll X ts is) (ha : DXA X c W es da) (hlen : daLen da n) (hi : is.length = n := by rfl) (hz : n ≤ 100000 := by decide)
    (hs : swapsWithSole [.Tuple ts kt pt] (.Tuple es k pv') pos.line X.env = pure false := by rfl) (hw : swappedStores [.Tuple ts kt pt] (.Tuple es k pv') X.env = pure none := by rfl) (h1 : (assignEach [.Tuple ts kt pt] X.env).map (·.2) = [assign (.Tuple ts kt pt) X.env] := by rfl)
    (hn' : (assignEach ts X.env).length = n := by rfl) (hst : (assignEach ts X.env).findIdx? (·.1) = none := by rfl) : DSt X c W (.Assign [.Tuple ts kt pt] (.Tuple es k pv') pos) (sPar is da) := by
  obtain ⟨t, p, r⟩ := ha
  have q := rs_parT hn hi hz hlen r
  rw [hK] at q
  exact ⟨_, ps_asg (pe_tup p) (pg_tup hc hg hn' hst) hs hw h1, q⟩
theorem ds_par2 {i j : Nat} {x y : Str} {a b : Expr} {da : DAs} {px py pt pos : Pos} {kt k2 pt2} (hn : Np c [i, j]) (hc : X.calm = true) (hN : X.N.Nodup) (ha : DXA X c W [a, b] da) (hlen : daLen da 2) (hi : X.N[i]? = some x := by rfl) (hj : X.N[j]? = some y := by rfl) (hij : i ≠ j := by decide)
    (hx : X.env.scope.names.lookup x = some .local := by rfl) (hy : X.env.scope.names.lookup y = some .local := by rfl)
    (hw : swappedStores [.Tuple [.Name x px, .Name y py] kt pt] (.Tuple [a, b] k2 pt2) X.env = pure (some [x, y]) := by rfl)
    (hs : swapsWithSole [.Tuple [.Name x px, .Name y py] kt pt] (.Tuple [a, b] k2 pt2) pos.line X.env = pure false := by rfl) :
    DSt X c W (.Assign [.Tuple [.Name x px, .Name y py] kt pt] (.Tuple [a, b] k2 pt2) pos) (sPar [i, j] da) := by
  obtain ⟨t, p, r⟩ := ha
  exact ⟨_, ps_par hc hN hi hj hij hx hy p hw hs, rs_par2 hn hlen r⟩
theorem ds_par3 {i j l : Nat} {x y z : Str} {a b c' : Expr} {da : DAs} {px py pz pt pos : Pos} {kt k2 pt2} (hn : Np c [i, j, l]) (hc : X.calm = true) (hN : X.N.Nodup) (ha : DXA X c W [a, b, c'] da) (hlen : daLen da 3) (hi : X.N[i]? = some x := by rfl) (hj : X.N[j]? = some y := by rfl) (hl : X.N[l]? = some z := by rfl)
    (hij : i ≠ j := by decide) (hil : i ≠ l := by decide) (hjl : j ≠ l := by decide)
    (hx : X.env.scope.names.lookup x = some .local := by rfl) (hy : X.env.scope.names.lookup y = some .local := by rfl) (hz : X.env.scope.names.lookup z = some .local := by rfl)
    (hw : swappedStores [.Tuple [.Name x px, .Name y py, .Name z pz] kt pt] (.Tuple [a, b, c'] k2 pt2) X.env = pure (some [x, y, z]) := by rfl)
    (hs : swapsWithSole [.Tuple [.Name x px, .Name y py, .Name z pz] kt pt] (.Tuple [a, b, c'] k2 pt2) pos.line X.env = pure false := by rfl) :
    DSt X c W (.Assign [.Tuple [.Name x px, .Name y py, .Name z pz] kt pt] (.Tuple [a, b, c'] k2 pt2) pos) (sPar [i, j, l] da) := by
  obtain ⟨t, p, r⟩ := ha
  exact ⟨_, ps_par3 hc hN hi hj hl hij hil hjl hx hy hz p hw hs, rs_par3 hn hlen r⟩
end
end PD

set_option Elab.async false
set_option linter.all false
set_option maxRecDepth 100000
set_option maxHeartbeats 2000000
/-! PdE: further statements: an expression alone, methods that change an own object, xs[i] = e, x += e, if, return, while, for. -/
namespace PD
open PySem L2
section
variable {X : Cx} {c : Cfg} {W : XK}
def sDrop (d : DE) : DS := fun ρ => match d ρ with
  | .ok _ ρ1 => .nx ρ1
  | .ex x ρ1 => .ex x ρ1
  | .no => .no
theorem rs_drop {te : TE} {d : DE} (he : RE c W te d) : RS c W (tDrop te) (sDrop d) := by
  intro τ σ ρ F H Dn hl hp r h
  unfold sDrop at h
  refine re_run he hl r (fun o ρ1 e v F1 H1 hl1 hh r1 => ?_) (fun x ρ1 e => by rw [e] at h; exact PostX'.of hp h) fun e => by rw [e] at h; exact h.elim
  rw [e] at h
  exact h σ F1 H1 hl1 hp r1.dropTemps
theorem ds_expr {e : Expr} {d : DE} {pos : Pos} (he : DX X c W e d) (hs : swapsWith e none pos.line X.env = pure false := by rfl) : DSt X c W (.Expr e pos) (sDrop d) := by
  obtain ⟨t, p, r⟩ := he
  exact ⟨_, ps_expr p hs, rs_drop r⟩
theorem ds_doc {x j pos pos'} : DSt X c W (.Expr (.Constant (.str x) j pos) pos') sNil := ⟨_, ps_doc, rs_nil⟩

/-! ### methods that change an own object -/
def tyOk (T : String) : D → Bool
  | .list _ => T == "list"
  | .dict _ => T == "dict"
  | _ => false
theorem tyOk_ok {K : PySem.W.Frag} {F H : Hp} {T : String} {d : D} {o : HO} {a : Addr} (h : tyOk T d = true) (q : Own K F o d) (ha : H a = some o) : tyV K T (.ref a) H := by
  cases q with
  | lst q => exact .inl ⟨by simpa [tyOk] using h, _, .of ha⟩
  | dK _ _ => exact .inr (.inr (.inl ⟨by simpa [tyOk] using h, .inl ⟨_, ha⟩⟩))
  | dT _ _ => exact .inr (.inr (.inl ⟨by simpa [tyOk] using h, .inr ⟨_, ha⟩⟩))
def MOk (K : PySem.W.Frag) (r : V → List V → Hp → VK → Prop) (f : D → List D → Option (D × D)) : Prop :=
  ∀ F H a o d0 vs ds (Q : VK) z d1, Same F H → H a = some o → F a = none → Own K F o d0 → RpA K F vs ds → f d0 ds = some (z, d1) → (∀ zv o', Rp K F zv z → Own K F o' d1 → Q zv (upd H a o')) → r (.ref a) vs H Q
def dMut (T : String) (k : Nat) (f : D → List D → Option (D × D)) (da : DAs) : DE := fun ρ => match ρ[k]? with
  | some (.own d00) => if tyOk T d00 = true then (match da ρ with
    | .ok os ρ1 => (match frzA ρ1 os with
      | some (ds, ρ2) => (match ρ2[k]? with
        | some (.own d0) => (match f d0 ds with
          | some (z, d1) => .ok (.t (.val z)) (ρ2.set k (.own d1))
          | none => .no)
        | _ => .no)
      | none => .no)
    | .ex x ρ1 => .ex x ρ1
    | .no => .no) else .no
  | _ => .no
theorem R.ownSlot {F H : Hp} {τ : Cells} {σ : St} {ρ : Sl} {i : Nat} {d : D} (r : R c F (τ ++ σ.zip ρ) H) (hl : σ.length = ρ.length) (h : ρ[i]? = some (.own d)) : ∃ a o, σ[i]? = some (some (.ref a)) ∧ F a = none ∧ H a = some o ∧ Own c.K F o d := by
  obtain ⟨v, e, m⟩ := r.slot hl h (by intro z; cases z)
  have q := r.ok _ m
  cases v with
  | ref a =>
    obtain ⟨h1, o, h2, h3⟩ := q
    exact ⟨a, o, e, h1, h2, h3⟩
  | _ => exact q.elim
/-- an own object of a slot is changed -/
theorem R.changeSlot {F H : Hp} {τ : Cells} {σ : St} {ρ : Sl} {i : Nat} {a : Addr} {d d' : D} {o' : HO} (r : R c F (τ ++ σ.zip ρ) H) (hv : σ[i]? = some (some (.ref a))) (h : ρ[i]? = some (.own d)) (ho : Own c.K F o' d') : R c F (τ ++ σ.zip (ρ.set i (.own d'))) (upd H a o') := by
  obtain ⟨rest, q1, q2⟩ := R.front (s' := .own d') hv h r
  exact q2 F _ (q1.change ho)
theorem re_mut {T : String} {k : Nat} {r : V → List V → Hp → VK → Prop} {f : D → List D → Option (D × D)} {ta : TA} {da : DAs} (hm : MOk c.K r f) (ha : RA c W ta da) : RE c W (tBM c.K T r (tVar k) ta) (dMut T k f da) := by
  intro τ σ ρ F H Q hl rr h
  unfold dMut at h
  cases e : ρ[k]? with
  | none => rw [e] at h; exact h.elim
  | some s =>
    rw [e] at h
    cases s with
    | no => exact h.elim
    | val _ => exact h.elim
    | own d00 =>
      simp only at h
      split at h
      · rename_i ht
        obtain ⟨a, o, e1, _, e3, e4⟩ := rr.ownSlot hl e
        refine ⟨.ref a, e1, tyOk_ok ht e4 e3, ha τ σ ρ F H _ hl rr ?_⟩
        cases e5 : da ρ with
        | no => rw [e5] at h; exact h.elim
        | ex x ρ1 => rw [e5] at h; exact h
        | ok os ρ1 =>
          rw [e5] at h
          intro vs F1 H1 hl1 hh r1
          simp only at h
          cases e6 : frzA ρ1 os with
          | none => rw [e6] at h; exact h.elim
          | some p =>
            obtain ⟨ds, ρ2⟩ := p
            rw [e6] at h
            simp only at h
            obtain ⟨F2, s2, hl2, q2, r2⟩ := R.frzA hl1 hh r1 e6
            cases e7 : ρ2[k]? with
            | none => rw [e7] at h; exact h.elim
            | some s =>
              rw [e7] at h
              cases s with
              | no => exact h.elim
              | val _ => exact h.elim
              | own d0 =>
                simp only at h
                cases e8 : f d0 ds with
                | none => rw [e8] at h; exact h.elim
                | some zd =>
                  obtain ⟨z, d1⟩ := zd
                  rw [e8] at h
                  obtain ⟨a', o', f1, f2, f3, f4⟩ := r2.ownSlot hl2 e7
                  have ea : a' = a := by rw [e1] at f1; cases f1; rfl
                  subst ea
                  refine hm F2 H1 a' o' d0 vs ds Q z d1 r2.sub f3 f2 f4 q2 e8 fun zv o2 hz ho => ?_
                  exact h zv F2 _ (by simpa using hl2) ((r2.changeSlot e1 e7 ho).addV hz)
      · exact h.elim
theorem re_mut0 {T : String} {k : Nat} {r : V → List V → Hp → VK → Prop} {f : D → List D → Option (D × D)} (hm : MOk c.K r f) : RE c W (tBM0 c.K T r (tVar k)) (dMut T k f daN) := by
  intro τ σ ρ F H Q hl rr h
  have q := re_mut (T := T) (k := k) (W := W) hm ra_nil τ σ ρ F H Q hl rr h
  exact q
theorem dx_mut {T id : String} {k : Nat} {r : V → List V → Hp → VK → Prop} {f : D → List D → Option (D × D)} {x name : Str} {e : Expr} {es : List Expr} {da : DAs} {px apos cpos : Pos} (hm : MOk c.K r f) (hK : c.K = X.K) (mt : MtR X id r) (pa : PlainAttrs T) (slot : Slot T name id) (hty : typeOf (.builtin id) = pure (.type "method_descriptor"))
    (ha : DXA X c W (e :: es) da) (hN : X.N[k]? = some x := by rfl) (hv : Vis X.env.scope x := by first | exact Or.inl rfl | exact Or.inr (Or.inl rfl) | exact Or.inr (Or.inr rfl)) (hd : (x == ("__debug__" : Str)) = false := by decide) (hcd : (x == ("__classdict__" : Str)) = false := by decide)
    (hbase : attributeBase (.Name x px) name X.env (eval (.Name x px) X.env) = eval (.Name x px) X.env := by rfl)
    (hfew : ((backTo cpos (starEach (e :: es) X.env)).all (fun x => !x.1) && (backToKw cpos (keywordEach [] X.env)).all (fun x => x.1.isSome)
      && decide ((e :: es).length + ([] : List Keyword).length + (if ([] : List Keyword).isEmpty then 0 else 1) < 30)) = true := by rfl)
    (hline : (apos.endLine == cpos.line) = true := by rfl) (hs : starEach (e :: es) X.env = (false, eval e X.env) :: starEach es X.env := by rfl) (hplain : (backTo cpos (starEach es X.env)).any (·.1) = false := by rfl) :
    DX X c W (.Call (.Attribute (.Name x px) name apos) (e :: es) [] cpos) (dMut T k f da) := by
  obtain ⟨t, p, r⟩ := ha
  have q := re_mut (T := T) (k := k) hm r
  rw [hK] at q
  exact ⟨_, pe_bm pa slot hty mt (pe_var hN hv hd hcd) p hbase hfew hline hs hplain, q⟩
theorem dx_mut0 {T id : String} {k : Nat} {r : V → List V → Hp → VK → Prop} {f : D → List D → Option (D × D)} {x name : Str} {px apos cpos : Pos} (hm : MOk c.K r f) (hK : c.K = X.K) (mt : MtR X id r) (pa : PlainAttrs T) (slot : Slot T name id) (hty : typeOf (.builtin id) = pure (.type "method_descriptor"))
    (hN : X.N[k]? = some x := by rfl) (hv : Vis X.env.scope x := by first | exact Or.inl rfl | exact Or.inr (Or.inl rfl) | exact Or.inr (Or.inr rfl)) (hd : (x == ("__debug__" : Str)) = false := by decide) (hcd : (x == ("__classdict__" : Str)) = false := by decide)
    (hbase : attributeBase (.Name x px) name X.env (eval (.Name x px) X.env) = eval (.Name x px) X.env := by rfl) (hline : (apos.endLine == cpos.line) = true := by rfl) :
    DX X c W (.Call (.Attribute (.Name x px) name apos) [] [] cpos) (dMut T k f daN) := by
  have q := re_mut0 (c := c) (W := W) (T := T) (k := k) hm
  rw [hK] at q
  exact ⟨_, pe_bm0 pa slot hty mt (pe_var hN hv hd hcd) hbase hline, q⟩
def mAppend : D → List D → Option (D × D)
  | .list ds, [x] => if ds.length < 100000 then some (.none, .list (ds ++ [x])) else none
  | _, _ => none
theorem mok_append {K : PySem.W.Frag} : MOk K rAppend mAppend := by
  intro F H a o d0 vs ds Q z d1 s ha fa ho q e h
  unfold mAppend at e
  split at e
  · rename_i ds x
    cases ho with
    | lst ho =>
      cases q with
      | cons q1 q2 =>
        cases q2
        split at e
        · rename_i hz
          cases e
          exact ⟨a, _, _, rfl, rfl, ha, by rw [ho.len]; exact Nat.lt_of_lt_of_le hz (szl (Nat.le_refl _)), h _ _ .non (.lst (ho.app (.cons q1 .nil)))⟩
        · cases e
  · cases e
def mPop : D → List D → Option (D × D)
  | .list ds, [] => (match ds[ds.length - 1]? with
    | some x => some (x, .list ds.dropLast)
    | none => none)
  | _, _ => none
theorem RpA.dropLast {K : PySem.W.Frag} {F : Hp} {vs : List V} {ds : List D} (h : RpA K F vs ds) : RpA K F vs.dropLast ds.dropLast := by
  rw [List.dropLast_eq_take, List.dropLast_eq_take, h.len]
  exact h.take _
theorem RpA.erase {K : PySem.W.Frag} {F : Hp} : ∀ {vs : List V} {ds : List D} (k : Nat), RpA K F vs ds → RpA K F (vs.eraseIdx k) (ds.eraseIdx k)
  | [], _, k, h => by cases h; exact .nil
  | v :: vs, _, 0, h => by
    cases h with
    | cons h1 h2 => exact h2
  | v :: vs, _, k + 1, h => by
    cases h with
    | cons h1 h2 => exact .cons h1 (h2.erase k)
theorem mok_pop {K : PySem.W.Frag} : MOk K rPop mPop := by
  intro F H a o d0 vs ds Q z d1 s ha fa ho q e h
  unfold mPop at e
  split at e
  · rename_i ds
    cases ho with
    | @lst xs _ ho =>
      cases q
      cases e1 : ds[ds.length - 1]? with
      | none => rw [e1] at e; cases e
      | some x =>
        rw [e1] at e
        cases e
        obtain ⟨v, e2, q2⟩ := ho.get e1
        exact ⟨a, xs, v, rfl, rfl, ha, by rw [ho.len]; exact e2, h _ _ q2 (.lst ho.dropLast)⟩
  · cases e
def mPopAt : D → List D → Option (D × D)
  | .list ds, [.int i] => if 0 ≤ i ∧ i < 100000 then (match ds[i.toNat]? with
    | some x => some (x, .list (ds.eraseIdx i.toNat))
    | none => none) else none
  | _, _ => none
theorem mok_popAt {K : PySem.W.Frag} : MOk K rPopAt mPopAt := by
  intro F H a o d0 vs ds Q z d1 s ha fa ho q e h
  unfold mPopAt at e
  split at e
  · rename_i ds i
    cases ho with
    | @lst xs _ ho =>
      cases q with
      | cons q1 q2 =>
        cases q2
        cases q1
        split at e
        · rename_i hi
          cases e1 : ds[i.toNat]? with
          | none => rw [e1] at e; cases e
          | some x =>
            rw [e1] at e
            cases e
            obtain ⟨v, e2, q2⟩ := ho.get e1
            have hlt := (List.getElem?_eq_some_iff.mp e2).1
            have hix : ixN xs.length i = some i.toNat := by
              unfold ixN
              rw [if_pos hi.1, if_pos (by omega)]
            exact ⟨a, xs, i, i.toNat, v, rfl, rfl, ha, by omega, by omega, (ixN_seq hix).1, e2, h _ _ q2 (.lst (ho.erase _))⟩
        · cases e
  · cases e

/-! ### xs[i] = e -/
def sIxL (k : Nat) (d di : DE) : DS := fun ρ => match d ρ with
  | .ok o ρ0 => (match frz1 ρ0 o with
    | some (x, ρ1) => (match ρ1[k]? with
      | some (.own _) => (match di ρ1 with
        | .ok (.t (.val (.int i))) ρ2 => (match ρ2[k]? with
          | some (.own (.list ds)) => (match ixN ds.length i with
            | some j => .nx (ρ2.set k (.own (.list (ds.set j x))))
            | none => .no)
          | _ => .no)
        | .ex x ρ2 => .ex x ρ2
        | _ => .no)
      | _ => .no)
    | none => .no)
  | .ex x ρ1 => .ex x ρ1
  | .no => .no
theorem PostX.drop1 {τ : Cells} {σ : St} {x : Exn} {ρ : Sl} {y : Option V × SV} (h : PostX c W τ σ x ρ) : PostX c W (y :: τ) σ x ρ := fun cls dd F H hl xr r => h cls dd F H hl xr r.drop
theorem rs_ixL {k : Nat} {te ti : TE} {d di : DE} (he : RE c W te d) (hi : RE c W ti di) : RS c W (tAsg te (gSub (tVar k) ti rSetL)) (sIxL k d di) := by
  intro τ σ ρ F H Dn hl hp r h
  unfold sIxL at h
  refine re_run he hl r (fun o ρ0 e v F1 H1 hl1 hh r1 => ?_) (fun x ρ1 e => by rw [e] at h; exact PostX'.of hp h) fun e => by rw [e] at h; exact h.elim
  rw [e] at h
  simp only at h
  cases e1 : frz1 ρ0 o with
  | none => rw [e1] at h; exact h.elim
  | some p =>
    obtain ⟨x, ρ1⟩ := p
    rw [e1] at h
    simp only at h
    obtain ⟨F2, s2, hl2, r2⟩ := R.frz1 hl1 hh r1 e1
    cases e2 : ρ1[k]? with
    | none => rw [e2] at h; exact h.elim
    | some s =>
      rw [e2] at h
      cases s with
      | no => exact h.elim
      | val _ => exact h.elim
      | own d00 =>
        simp only at h
        obtain ⟨a, o', f1, _, _, _⟩ := R.ownSlot (r2.drop) hl2 e2
        refine ⟨.ref a, f1, hi ((some v, .val x) :: τ) σ ρ1 F2 H1 _ hl2 r2 ?_⟩
        cases e3 : di ρ1 with
        | no => rw [e3] at h; exact h.elim
        | ex y ρ2 => rw [e3] at h; exact (PostX'.of hp h).drop1
        | ok oi ρ2 =>
          rw [e3] at h
          cases oi with
          | p _ => exact h.elim
          | t si =>
            cases si with
            | no => exact h.elim
            | own _ => exact h.elim
            | val di' =>
              cases di' with
              | int i =>
                simp only at h
                intro iv F3 H3 hl3 r3
                have qi : Rp c.K F3 iv (.int i) := r3.ok _ List.mem_cons_self
                cases qi
                have r4 := r3.drop
                have qx : Rp c.K F3 v x := r4.ok _ List.mem_cons_self
                have r5 : R c F3 (τ ++ σ.zip ρ2) H3 := r4.drop
                cases e4 : ρ2[k]? with
                | none => rw [e4] at h; exact h.elim
                | some s =>
                  rw [e4] at h
                  cases s with
                  | no => exact h.elim
                  | val _ => exact h.elim
                  | own d0 =>
                    cases d0 with
                    | list ds =>
                      simp only at h
                      cases e5 : ixN ds.length i with
                      | none => rw [e5] at h; exact h.elim
                      | some j =>
                        rw [e5] at h
                        obtain ⟨a', o2, g1, g2, g3, g4⟩ := r5.ownSlot hl3 e4
                        have ea : a' = a := by rw [f1] at g1; cases g1; rfl
                        subst ea
                        cases g4 with
                        | @lst xs _ g4 =>
                          exact ⟨a', xs, i, j, rfl, rfl, g3, by rw [g4.len]; exact e5, h σ F3 _ (by simpa using hl3) hp (r5.changeSlot f1 e4 (.lst (g4.set j qx)))⟩
                    | _ => exact h.elim
              | _ => exact h.elim
theorem ds_ixL {k : Nat} {x : Str} {e i : Expr} {d di : DE} {px tpos pos : Pos} (he : DX X c W e d) (hi : DX X c W i di) (hN : X.N[k]? = some x := by rfl) (hv : Vis X.env.scope x := by first | exact Or.inl rfl | exact Or.inr (Or.inl rfl) | exact Or.inr (Or.inr rfl)) (hd : (x == ("__debug__" : Str)) = false := by decide) (hcd : (x == ("__classdict__" : Str)) = false := by decide)
    (ha : ∀ v, assign (.Subscript (.Name x px) i tpos) X.env v = (do
      let ov ← holding [v] (eval (.Name x px) X.env)
      let iv ← holding [v, ov] (eval i X.env)
      standAt tpos
      holding [v, ov, iv] (setItem ov iv v)
      release [v, ov, iv] []) := by exact fun _ => rfl)
    (hs : swapsWithSole [.Subscript (.Name x px) i tpos] e pos.line X.env = pure false := by rfl) (hw : swappedStores [.Subscript (.Name x px) i tpos] e X.env = pure none := by rfl)
    (h1 : (assignEach [.Subscript (.Name x px) i tpos] X.env).map (·.2) = [assign (.Subscript (.Name x px) i tpos) X.env] := by rfl) :
    DSt X c W (.Assign [.Subscript (.Name x px) i tpos] e pos) (sIxL k d di) := by
  obtain ⟨t, p, r⟩ := he
  obtain ⟨t2, p2, r2⟩ := hi
  exact ⟨_, ps_asg p (pg_sub (pe_var hN hv hd hcd) p2 set_list ha) hs hw h1, rs_ixL r r2⟩

/-! ### x op= e -/
def sAug (i : Nat) (f : List D → VO) (d : DE) : DS := fun ρ => match ρ[i]? with
  | some (.val a) => (match d ρ with
    | .ok o ρ1 => (match res ρ1 o with
      | some b => (match f [a, b] with
        | .v z => .nx (ρ1.set i (.val z))
        | _ => .no)
      | none => .no)
    | .ex x ρ1 => .ex x ρ1
    | .no => .no)
  | _ => .no
theorem rs_aug {i : Nat} {te : TE} {d : DE} {r : R2} {f : List D → VO} (hn : Np c [i]) (hv : VOk c.K (r2 r) f) (he : RE c W te d) : RS c W (tAug i te r) (sAug i f d) := by
  intro τ σ ρ F H Dn hl hp rr h
  unfold sAug at h
  cases e : ρ[i]? with
  | none => rw [e] at h; exact h.elim
  | some s =>
    rw [e] at h
    cases s with
    | no => exact h.elim
    | own _ => exact h.elim
    | val a =>
      simp only at h
      obtain ⟨v, e1, q1⟩ := rr.rpSlot hl e
      refine ⟨v, e1, ?_⟩
      have rr1 : R c F (((some v, .val a) :: τ) ++ σ.zip ρ) H := rr.addV q1
      refine re_run he hl rr1 (fun o ρ1 e2 y F1 H1 hl1 hh r1 => ?_) (fun x ρ1 e => by rw [e] at h; exact (PostX'.of hp h).drop1) fun e => by rw [e] at h; exact h.elim
      rw [e2] at h
      simp only at h
      cases e3 : res ρ1 o with
      | none => rw [e3] at h; exact h.elim
      | some b =>
        rw [e3] at h
        simp only at h
        have qb := R.res1 hl1 hh r1 e3
        have r1' := r1.dropTemps
        have qa : Rp c.K F1 v a := r1'.ok _ List.mem_cons_self
        refine hv F1 H1 [v, y] [a, b] _ r1.sub (.cons (.inl qa) (.cons qb .nil)) ?_
        cases e4 : f [a, b] with
        | no => rw [e4] at h; exact h.elim
        | n _ => rw [e4] at h; exact h.elim
        | v z =>
          rw [e4] at h
          intro zv F2 H2 g qz
          have r2 : R c F2 (τ ++ σ.zip ρ1) H2 := R.grow (show R c F1 (τ ++ σ.zip ρ1) H1 from r1'.drop) g
          exact h _ F2 H2 (by simpa using hl1) (hp.set hn) (R.store hl1 (r2.addV qz))
theorem ds_aug {i : Nat} {x : Str} {e : Expr} {op : Operator} {r : R2} {f : List D → VO} {d : DE} {pos pos' : Pos} (hn : Np c [i]) (hN : X.N.Nodup) (ho : OpR X (inplaceOp op) r) (hv : VOk c.K (r2 r) f) (he : DX X c W e d) (hi : X.N[i]? = some x := by rfl) (hx : Loc X.env.scope x := by first | exact Or.inl rfl | exact Or.inr rfl)
    (hf : X.fn x = true ∨ X.env.scope.names.lookup x = some .local := by first | exact .inl rfl | exact .inr rfl) : DSt X c W (.AugAssign (.Name x pos') op e pos) (sAug i f d) := by
  obtain ⟨t, p, q⟩ := he
  exact ⟨_, ps_aug hN hi hx p ho hf, rs_aug hn hv q⟩

/-! ### if, return, while -/
def sIf (t : DB) (a b : DS) : DS := fun ρ => match t ρ with
  | .ok true ρ1 => a ρ1
  | .ok false ρ1 => b ρ1
  | .ex x ρ1 => .ex x ρ1
  | .no => .no
theorem rs_if {tc : TT} {t u : TS} {dc : DB} {a b : DS} (hc : RB c W tc dc) (ha : RS c W t a) (hb : RS c W u b) : RS c W (tIfS tc t u) (sIf dc a b) := by
  intro τ σ ρ F H Dn hl hp r h
  unfold sIf at h
  refine hc τ σ ρ F H _ hl r ?_
  cases e : dc ρ with
  | no => rw [e] at h; exact h.elim
  | ex x ρ1 => rw [e] at h; exact PostX'.of hp h
  | ok k ρ1 =>
    rw [e] at h
    intro F1 H1 hl1 r1
    cases k with
    | true => exact iteT (ha τ σ ρ1 F1 H1 Dn hl1 hp r1 h)
    | false => exact iteF (hb τ σ ρ1 F1 H1 Dn hl1 hp r1 h)
theorem ds_if {t : Expr} {a b : List Stmt} {dc : DB} {da db : DS} {pos : Pos} (hc : DT X c W t dc) (ha : DSs X c W a da) (hb : DSs X c W b db) : DSt X c W (.If t a b pos) (sIf dc da db) := by
  obtain ⟨t1, p1, r1⟩ := hc
  obtain ⟨t2, p2, r2⟩ := ha
  obtain ⟨t3, p3, r3⟩ := hb
  exact ⟨_, ps_if p1 p2 p3, rs_if r1 r2 r3⟩
def sRet (d : DE) : DS := fun ρ => match d ρ with
  | .ok o ρ1 => (match frz1 ρ1 o with
    | some (x, ρ2) => .rt x ρ2
    | none => .no)
  | .ex x ρ1 => .ex x ρ1
  | .no => .no
theorem rs_ret {te : TE} {d : DE} (he : RE c W te d) : RS c W (tRet te) (sRet d) := by
  intro τ σ ρ F H Dn hl hp r h
  unfold sRet at h
  refine re_run he hl r (fun o ρ1 e v F1 H1 hl1 hh r1 => ?_) (fun x ρ1 e => by rw [e] at h; exact PostX'.of hp h) fun e => by rw [e] at h; exact h.elim
  rw [e] at h
  simp only at h
  cases e1 : frz1 ρ1 o with
  | none => rw [e1] at h; exact h.elim
  | some p =>
    obtain ⟨x, ρ2⟩ := p
    rw [e1] at h
    obtain ⟨F2, s2, hl2, r2⟩ := R.frz1 hl1 hh r1 e1
    exact h v σ F2 H1 hl2 hp r2
theorem ds_ret {e : Expr} {d : DE} {pos : Pos} (he : DX X c W e d) : DSt X c W (.Return (some e) pos) (sRet d) := by
  obtain ⟨t, p, r⟩ := he
  exact ⟨_, ps_ret p, rs_ret r⟩
def sRetN : DS := fun ρ => .rt .none ρ
theorem ds_retN {pos : Pos} : DSt X c W (.Return none pos) sRetN := ⟨_, ps_retN, fun τ σ ρ F H Dn hl hp r h => h .non σ F H hl hp (r.addV .non)⟩

/-- while, by fuel -/
def whF (t : DB) (b : DS) : Nat → DS
  | 0, _ => .no
  | n + 1, ρ => match t ρ with
    | .ok true ρ1 => (match b ρ1 with
      | .nx ρ2 => whF t b n ρ2
      | .ct ρ2 => whF t b n ρ2
      | .bk ρ2 => .nx ρ2
      | .rt d ρ2 => .rt d ρ2
      | .ex x ρ2 => .ex x ρ2
      | .no => .no)
    | .ok false ρ1 => .nx ρ1
    | .ex x ρ1 => .ex x ρ1
    | .no => .no
open Classical in
noncomputable def sWh (t : DB) (b : DS) : DS := fun ρ => if h : ∃ n, whF t b n ρ ≠ .no then whF t b (Classical.choose h) ρ else .no
theorem whF_mono {t : DB} {b : DS} : ∀ (n : Nat) (ρ : Sl) (m : Nat), whF t b n ρ ≠ .no → n ≤ m → whF t b m ρ = whF t b n ρ
  | 0, ρ, m, h, _ => absurd rfl h
  | n + 1, ρ, 0, h, hm => absurd hm (by omega)
  | n + 1, ρ, m + 1, h, hm => by
    unfold whF at h ⊢
    cases e : t ρ with
    | no => rfl
    | ex x ρ1 => rfl
    | ok k ρ1 =>
      rw [e] at h
      cases k with
      | false => rfl
      | true =>
        simp only at h ⊢
        cases e2 : b ρ1 with
        | nx ρ2 => rw [e2] at h; exact whF_mono n ρ2 m h (by omega)
        | ct ρ2 => rw [e2] at h; exact whF_mono n ρ2 m h (by omega)
        | _ => rfl
theorem sWh_of {t : DB} {b : DS} {n : Nat} {ρ : Sl} (h : whF t b n ρ ≠ .no) : sWh t b ρ = whF t b n ρ := by
  have hx : ∃ n, whF t b n ρ ≠ .no := ⟨n, h⟩
  unfold sWh
  rw [dif_pos hx]
  have hc := Classical.choose_spec hx
  rcases Nat.le_total n (Classical.choose hx) with z | z
  · exact whF_mono n ρ _ h z
  · exact (whF_mono _ ρ n hc z).symm
theorem sWh_ex {t : DB} {b : DS} {ρ : Sl} (h : sWh t b ρ ≠ .no) : ∃ n, sWh t b ρ = whF t b n ρ := by
  by_cases hx : ∃ n, whF t b n ρ ≠ .no
  · obtain ⟨n, hn⟩ := hx
    exact ⟨n, sWh_of hn⟩
  · unfold sWh at h
    rw [dif_neg hx] at h
    exact absurd rfl h
/-- one turn -/
theorem sWh_eq (t : DB) (b : DS) (ρ : Sl) : sWh t b ρ = (match t ρ with
    | .ok true ρ1 => (match b ρ1 with
      | .nx ρ2 => sWh t b ρ2
      | .ct ρ2 => sWh t b ρ2
      | .bk ρ2 => .nx ρ2
      | .rt d ρ2 => .rt d ρ2
      | .ex x ρ2 => .ex x ρ2
      | .no => .no)
    | .ok false ρ1 => .nx ρ1
    | .ex x ρ1 => .ex x ρ1
    | .no => .no) := by
  have go : ∀ ρ2, (∀ n, whF t b (n + 1) ρ = whF t b n ρ2) → sWh t b ρ = sWh t b ρ2 := fun ρ2 hn => by
    by_cases hx : ∃ n, whF t b n ρ2 ≠ .no
    · obtain ⟨n, h⟩ := hx
      rw [sWh_of h, sWh_of (n := n + 1) (by rw [hn]; exact h), hn]
    · have hy : ¬ ∃ n, whF t b n ρ ≠ .no := fun ⟨n, h⟩ => by
        cases n with
        | zero => exact h rfl
        | succ n => exact hx ⟨n, by rw [← hn]; exact h⟩
      unfold sWh
      rw [dif_neg hx, dif_neg hy]
  have fin : ∀ o, (∀ n, whF t b (n + 1) ρ = o) → sWh t b ρ = o := fun o hn => by
    by_cases ho : o = .no
    · subst ho
      have hy : ¬ ∃ n, whF t b n ρ ≠ .no := fun ⟨n, h⟩ => by
        cases n with
        | zero => exact h rfl
        | succ n => exact h (hn n)
      unfold sWh
      rw [dif_neg hy]
    · rw [sWh_of (n := 1) (by rw [hn]; exact ho), hn]
  cases e : t ρ with
  | no => exact fin _ fun n => by unfold whF; rw [e]
  | ex x ρ1 => exact fin _ fun n => by unfold whF; rw [e]
  | ok k ρ1 =>
    cases k with
    | false => exact fin _ fun n => by unfold whF; rw [e]
    | true =>
      cases e2 : b ρ1 with
      | nx ρ2 => simp only; rw [e2]; exact go ρ2 fun n => by rw [whF, e]; simp only; rw [e2]
      | ct ρ2 => simp only; rw [e2]; exact go ρ2 fun n => by rw [whF, e]; simp only; rw [e2]
      | _ => simp only; rw [e2]; exact fin _ fun n => by rw [whF, e]; simp only; rw [e2]
theorem rs_while {tc : TT} {tb : TS} {t : DB} {b : DS} (hc : RB c W tc t) (hb : RS c W tb b) : RS c W (tWhile tc tb) (sWh t b) := by
  intro τ σ ρ F H Dn hl hp r h
  have hne : sWh t b ρ ≠ .no := fun e => by rw [e] at h; exact h.elim
  obtain ⟨n, hn⟩ := sWh_ex hne
  rw [hn] at h
  refine ⟨fun m σ H => ∃ ρ F, σ.length = ρ.length ∧ Pin c σ ∧ R c F (τ ++ σ.zip ρ) H ∧ PostS c W τ Dn (whF t b m ρ), ⟨n, ρ, F, hl, hp, r, h⟩, ?_⟩
  rintro m σ H ⟨ρ, F, hl, hp, r, h⟩
  cases m with
  | zero => exact h.elim
  | succ m =>
    rw [whF] at h
    refine hc τ σ ρ F H _ hl r ?_
    cases e : t ρ with
    | no => rw [e] at h; exact h.elim
    | ex x ρ1 => rw [e] at h; exact PostX'.of hp h
    | ok k ρ1 =>
      rw [e] at h
      intro F1 H1 hl1 r1
      cases k with
      | false => exact iteF (h σ F1 H1 hl1 hp r1)
      | true =>
        refine iteT ⟨fun σ H => ∃ ρ F, σ.length = ρ.length ∧ Pin c σ ∧ R c F (τ ++ σ.zip ρ) H ∧ PostS c W τ Dn (whF t b m ρ), fun σ' H' q => ⟨m, Nat.lt_succ_self m, q⟩, hb τ σ ρ1 F1 H1 _ hl1 hp r1 ?_⟩
        simp only at h
        cases e2 : b ρ1 with
        | nx ρ2 => rw [e2] at h; exact fun σ2 F2 H2 hl2 hp2 r2 => ⟨ρ2, F2, hl2, hp2, r2, h⟩
        | ct ρ2 => rw [e2] at h; exact fun σ2 F2 H2 hl2 hp2 r2 => ⟨ρ2, F2, hl2, hp2, r2, h⟩
        | bk ρ2 => rw [e2] at h; exact h
        | rt d ρ2 => rw [e2] at h; exact h
        | ex x ρ2 => rw [e2] at h; exact h
        | no => rw [e2] at h; exact h.elim
theorem ds_while {t : Expr} {body : List Stmt} {dt : DB} {db : DS} {pos : Pos} (hp : PassesOwn (model X.prog X.w) X.A X.env X.xe) (hc : DT X c W t dt) (hb : DSs X c W body db) : DSt X c W (.While t body [] pos) (sWh dt db) := by
  obtain ⟨t1, p1, r1⟩ := hc
  obtain ⟨t2, p2, r2⟩ := hb
  exact ⟨_, ps_while hp p1 p2, rs_while r1 r2⟩

/-! ### what is walked -/
/-- what is held while it is walked: one value; two (zip) are told as a table of two -/
def heldD : D → List D
  | .dict [(.bool true, a), (.bool true, b)] => [a, b]
  | d => [d]
theorem vals_rp {K : PySem.W.Frag} {F H : Hp} : ∀ (vs : List V) (ds : List D) {cs : Cells}, vs.length = ds.length → (∀ x ∈ vals vs ds ++ cs, CellOk K F H x) → RpA K F vs ds
  | [], [], _, _, _ => .nil
  | v :: vs, d :: ds, cs, hl, h => .cons (h (some v, .val d) List.mem_cons_self) (vals_rp vs ds (by simpa using hl) fun x hx => h x (List.mem_cons_of_mem _ hx))
  | [], _ :: _, _, hl, _ => by simp at hl
  | _ :: _, [], _, hl, _ => by simp at hl
theorem R.rpA {c : Cfg} {F H : Hp} {vs : List V} {ds : List D} {cs : Cells} (hl : vs.length = ds.length) (r : R c F (vals vs ds ++ cs) H) : RpA c.K F vs ds := vals_rp vs ds hl r.ok
def JOk (K : PySem.W.Frag) (J : It) (v : List V) (d0 : List D) (ds : List D) : Prop :=
  ∀ F H, Same F H → RpA K F v d0 → (∀ (i : Nat) (d : D), ds[i]? = some d → J.go i H ∧ ∀ x H', J.yld i H x H' → ∃ F', Grow F H F' H' ∧ Rp K F' x d) ∧ J.stop ds.length H
inductive IO where
  | ok (d0 : D) (ds : List D) (ρ : Sl)
  | ex (x : Exn) (ρ : Sl)
  | no
abbrev DI := Sl → IO
def PostI (c : Cfg) (W : XK) (τ : Cells) (σ : St) (Q : It → Hp → Prop) : IO → Prop
  | .ok d0 ds ρ => ∀ J vs F H, σ.length = ρ.length → vs.length = (heldD d0).length → R c F (vals vs (heldD d0) ++ (τ ++ σ.zip ρ)) H → JOk c.K J vs (heldD d0) ds → Q J H
  | .ex x ρ => PostX c W τ σ x ρ
  | .no => False
def RI (c : Cfg) (W : XK) (wi : TI) (d : DI) : Prop := ∀ τ σ ρ F H Q, σ.length = ρ.length → R c F (τ ++ σ.zip ρ) H → PostI c W τ σ Q (d ρ) → wi σ H Q
def DXI (X : Cx) (c : Cfg) (W : XK) (tg iter : Expr) (d : DI) : Prop := ∃ wi, PI X tg iter wi ∧ RI c W wi d
/-- a list, a tuple, a text -/
def itemsD : D → Option (List D)
  | .list ds => some ds
  | .tuple ds => some ds
  | .str z => some (z.cps.toList.map fun c => .str ⟨#[c]⟩)
  | _ => none
def iAny (K : PySem.W.Frag) (te : TE) : TI := fun σ H R => te σ H fun x H1 => (∃ a, x = .ref a ∧ (∃ xs, SqL K H1 a xs) ∧ R (Itl K a) H1) ∨ (∃ a, x = .ref a ∧ (∃ xs, SqT K H1 a xs) ∧ R (Itt K a) H1) ∨ ∃ z, x = .str z ∧ R (Its z) H1
theorem pi_any {tg e : Expr} {te : TE} (he : PE X e te) : PI X tg e (iAny X.K te) := by
  refine ⟨fun pins s σ H R I h => ?_⟩
  refine thn (he.run pins s σ H _ I h) fun v s1 ⟨x, H1, I1, r1, q1⟩ => ?_
  rcases q1 with ⟨a, e, ⟨xs, hq⟩, q⟩ | ⟨a, e, ⟨xs, hq⟩, q⟩ | ⟨z, e, q⟩
  · subst e
    cases r1
    obtain ⟨its, rv, p, hz⟩ := I1.list hq
    refine wpAny_pyIter_list p.isList ?_
    refine ⟨s1.heap.objs.size, [s1.heap.objs.size], _, _, H1, rfl, I1.kept (t' := s1.toks) fun b o e => Heap.get?_push_of_some _ e, turn_list a _, ⟨_, Heap.get?_push_size _ rfl, rfl, rfl⟩, fun b hb => ?_, q⟩
    have e : b = s1.heap.objs.size := by simpa using hb
    subst e
    exact I1.fpOk (Nat.le_refl _) (I1.hok.fresh (Nat.le_refl _))
  · subst e
    cases r1
    obtain ⟨its, rv, p, hz⟩ := I1.tuple hq
    refine wpAny_pyIter_tuple (show s1.heap.IsTuple a its.toArray from p) ?_
    refine ⟨s1.heap.objs.size, [s1.heap.objs.size], _, _, H1, rfl, I1.kept (t' := s1.toks) fun b o e => Heap.get?_push_of_some _ e, turn_tuple a _, ⟨_, Heap.get?_push_size _ rfl, rfl, rfl⟩, fun b hb => ?_, q⟩
    have e : b = s1.heap.objs.size := by simpa using hb
    subst e
    exact I1.fpOk (Nat.le_refl _) (I1.hok.fresh (Nat.le_refl _))
  · subst e
    obtain ⟨t, rfl⟩ := r1
    cases ha : z.cps.all (· < 128)
    · exact wpAny_pyIter_wide ha (pi_one (tk := s1.toks) I1 _ (turn_str _ z t "str_iterator" (.inr rfl)) ⟨_, Heap.get?_push_size _ rfl, rfl, rfl⟩ q)
    · exact wpAny_pyIter_ascii ha (pi_one (tk := s1.toks) I1 _ (turn_str _ z t "str_ascii_iterator" (.inl rfl)) ⟨_, Heap.get?_push_size _ rfl, rfl, rfl⟩ q)
def dIt (d : DE) : DI := fun ρ => match d ρ with
  | .ok o ρ1 => (match frz1 ρ1 o with
    | some (x, ρ2) => (match itemsD x with
      | some ds => .ok x ds ρ2
      | none => .no)
    | none => .no)
  | .ex x ρ1 => .ex x ρ1
  | .no => .no
theorem jok_list {K : PySem.W.Frag} {a : Addr} {ds : List D} : JOk K (Itl K a) [.ref a] [.list ds] ds := by
  intro F H s rr
  have rr : Rp K F (.ref a) (.list ds) := by cases rr with | cons h _ => exact h
  obtain ⟨a', xs, e, h1, q⟩ := Rr.lst s (.inl rr)
  cases e
  refine ⟨fun i d hd => ?_, xs, .inl h1, by rw [q.len]; exact Nat.le_refl _⟩
  obtain ⟨v, e1, q1⟩ := q.get hd
  refine ⟨⟨xs, v, .inl h1, e1⟩, fun x H' y => ?_⟩
  obtain ⟨rfl, y⟩ := y
  have e2 := y xs (.inl h1)
  rw [e1] at e2
  cases e2
  exact ⟨F, Grow.refl s, q1⟩
theorem jok_tup {K : PySem.W.Frag} {a : Addr} {ds : List D} : JOk K (Itt K a) [.ref a] [.tuple ds] ds := by
  intro F H s rr
  have rr : Rp K F (.ref a) (.tuple ds) := by cases rr with | cons h _ => exact h
  obtain ⟨a', xs, e, h1, q⟩ := Rr.tup s (.inl rr)
  cases e
  refine ⟨fun i d hd => ?_, xs, h1, by rw [q.len]; exact Nat.le_refl _⟩
  obtain ⟨v, e1, q1⟩ := q.get hd
  refine ⟨⟨xs, v, h1, e1⟩, fun x H' y => ?_⟩
  obtain ⟨rfl, y⟩ := y
  have e2 := y xs h1
  rw [e1] at e2
  cases e2
  exact ⟨F, Grow.refl s, q1⟩
theorem jok_str {K : PySem.W.Frag} {z : Str} {v : List V} {d0 : List D} : JOk K (Its z) v d0 (z.cps.toList.map fun c => .str ⟨#[c]⟩) := by
  intro F H s rr
  refine ⟨fun i d hd => ?_, ?_⟩
  · rw [List.getElem?_map] at hd
    cases e : z.cps.toList[i]? with
    | none => rw [e] at hd; cases hd
    | some ch =>
      rw [e] at hd
      cases hd
      have e' : z.cps[i]? = some ch := by simpa using e
      refine ⟨(Array.getElem?_eq_some_iff.mp e').1, fun x H' y => ?_⟩
      obtain ⟨rfl, ch', y1, rfl⟩ := y
      rw [e'] at y1
      cases y1
      exact ⟨F, Grow.refl s, .str _⟩
  · show z.cps.size ≤ _
    simp
theorem ri_any {te : TE} {d : DE} (he : RE c W te d) : RI c W (iAny c.K te) (dIt d) := by
  intro τ σ ρ F H Q hl r h
  unfold dIt at h
  refine re_run he hl r (fun o ρ1 e v F1 H1 hl1 hh r1 => ?_) (fun x ρ1 e => by rw [e] at h; exact h) fun e => by rw [e] at h; exact h.elim
  rw [e] at h
  simp only at h
  cases e1 : frz1 ρ1 o with
  | none => rw [e1] at h; exact h.elim
  | some p =>
    obtain ⟨x, ρ2⟩ := p
    rw [e1] at h
    simp only at h
    obtain ⟨F2, s2, hl2, r2⟩ := R.frz1 hl1 hh r1 e1
    have q : Rp c.K F2 v x := r2.ok _ List.mem_cons_self
    have q : Rr c.K F2 H1 v x := .inl q
    cases x with
    | list ds =>
      obtain ⟨a, xs, rfl, h1, q1⟩ := q.lst r2.sub
      exact .inl ⟨a, rfl, ⟨xs, .inl h1⟩, h _ [_] F2 H1 hl2 rfl r2 jok_list⟩
    | tuple ds =>
      obtain ⟨a, xs, rfl, h1, q1⟩ := q.tup r2.sub
      exact .inr (.inl ⟨a, rfl, ⟨xs, h1⟩, h _ [_] F2 H1 hl2 rfl r2 jok_tup⟩)
    | str z =>
      cases q.str
      exact .inr (.inr ⟨z, rfl, h _ [_] F2 H1 hl2 rfl r2 jok_str⟩)
    | _ => exact h.elim
theorem di_any {tg e : Expr} {d : DE} (hK : c.K = X.K) (he : DX X c W e d) : DXI X c W tg e (dIt d) := by
  obtain ⟨t, p, r⟩ := he
  have q := ri_any r
  rw [hK] at q
  exact ⟨_, pi_any p, q⟩
/-- range(n), range(a, b) -/
def rangeD (a b : Int) : List D := (List.range (b - a).toNat).map fun k => .int (a + (k : Nat))
def small (i : Int) : Bool := decide (-100000 ≤ i) && decide (i ≤ 100000)
theorem small_le {i : Int} (h : small i = true) : -100000 ≤ i ∧ i ≤ 100000 := by simpa [small, Bool.and_eq_true] using h
theorem jok_range {K : PySem.W.Frag} {a b : Int} {v : List V} {d0 : List D} : JOk K (Itr a (b - a).toNat) v d0 (rangeD a b) := by
  intro F H s rr
  refine ⟨fun i d hd => ?_, ?_⟩
  · unfold rangeD at hd
    rw [List.getElem?_map] at hd
    cases e : (List.range (b - a).toNat)[i]? with
    | none => rw [e] at hd; cases hd
    | some k =>
      rw [e] at hd
      cases hd
      have hk := List.getElem?_eq_some_iff.mp e
      obtain ⟨h1, h2⟩ := hk
      rw [List.getElem_range] at h2
      subst h2
      refine ⟨(by rw [List.length_range] at h1; exact h1), fun x H' y => ?_⟩
      obtain ⟨rfl, rfl⟩ := y
      exact ⟨F, Grow.refl s, .int _⟩
  · show (b - a).toNat ≤ _
    simp [rangeD]
def dRg1 (da : DAs) : DI := fun ρ => match da ρ with
  | .ok os ρ1 => (match resA ρ1 os with
    | some [.int n] => if small n = true then .ok .none (rangeD 0 n) ρ1 else .no
    | _ => .no)
  | .ex x ρ1 => .ex x ρ1
  | .no => .no
def dRg2 (da : DAs) : DI := fun ρ => match da ρ with
  | .ok os ρ1 => (match resA ρ1 os with
    | some [.int a, .int b] => if (small a && small b) = true then .ok .none (rangeD a b) ρ1 else .no
    | _ => .no)
  | .ex x ρ1 => .ex x ρ1
  | .no => .no
theorem ri_rg1 {ta : TA} {da : DAs} (ha : RA c W ta da) : RI c W (iRng1 ta) (dRg1 da) := by
  intro τ σ ρ F H Q hl r h
  unfold dRg1 at h
  refine ha τ σ ρ F H _ hl r ?_
  cases e : da ρ with
  | no => rw [e] at h; exact h.elim
  | ex x ρ1 => rw [e] at h; exact h
  | ok os ρ1 =>
    rw [e] at h
    intro vs F1 H1 hl1 hh r1
    simp only at h
    cases e1 : resA ρ1 os with
    | none => rw [e1] at h; exact h.elim
    | some ds =>
      have q := R.resA hl1 r1 os vs ds (fun _ x => x) hh e1
      rw [e1] at h
      match ds, h, q with
      | [.int n], h, .cons q1 .nil =>
        cases q1.int
        simp only at h
        split at h
        · rename_i hz
          have hz := small_le hz
          refine ⟨n, rfl, by omega, by omega, ?_⟩
          have j : JOk c.K (Itr 0 n.toNat) [.non] [.none] (rangeD 0 n) := by
            have := jok_range (K := c.K) (a := 0) (b := n) (v := [.non]) (d0 := [.none])
            rwa [Int.sub_zero] at this
          exact h _ [.non] F1 H1 hl1 rfl (r1.dropTemps.addV .non) j
        · exact h.elim
theorem ri_rg2 {ta : TA} {da : DAs} (ha : RA c W ta da) : RI c W (iRng2 ta) (dRg2 da) := by
  intro τ σ ρ F H Q hl r h
  unfold dRg2 at h
  refine ha τ σ ρ F H _ hl r ?_
  cases e : da ρ with
  | no => rw [e] at h; exact h.elim
  | ex x ρ1 => rw [e] at h; exact h
  | ok os ρ1 =>
    rw [e] at h
    intro vs F1 H1 hl1 hh r1
    simp only at h
    cases e1 : resA ρ1 os with
    | none => rw [e1] at h; exact h.elim
    | some ds =>
      have q := R.resA hl1 r1 os vs ds (fun _ x => x) hh e1
      rw [e1] at h
      match ds, h, q with
      | [.int a, .int b], h, .cons q1 (.cons q2 .nil) =>
        cases q1.int
        cases q2.int
        simp only at h
        split at h
        · rename_i hz
          obtain ⟨z1, z2⟩ := Bool.and_eq_true_iff.mp hz
          have z1 := small_le z1
          have z2 := small_le z2
          exact ⟨a, b, rfl, ⟨by omega, by omega, by omega, by omega⟩, h _ [.non] F1 H1 hl1 rfl (r1.dropTemps.addV .non) jok_range⟩
        · exact h.elim
theorem di_rg1 {tg a : Expr} {da : DAs} {p pos : Pos} (hm : X.mg "range" = none) (ha : DXA X c W [a] da) (hg : Gl X "range" := by rfl) (hs : starEach [a] X.env = [(false, eval a X.env)] := by rfl) : DXI X c W tg (.Call (.Name "range" p) [a] [] pos) (dRg1 da) := by
  obtain ⟨t, q, r⟩ := ha
  exact ⟨_, pi_range1 hg hm q hs, ri_rg1 r⟩
theorem di_rg2 {tg a b : Expr} {da : DAs} {p pos : Pos} (hm : X.mg "range" = none) (ha : DXA X c W [a, b] da) (hg : Gl X "range" := by rfl) (hs : starEach [a, b] X.env = [(false, eval a X.env), (false, eval b X.env)] := by rfl) (hs2 : starEach [b] X.env = [(false, eval b X.env)] := by rfl) : DXI X c W tg (.Call (.Name "range" p) [a, b] [] pos) (dRg2 da) := by
  obtain ⟨t, q, r⟩ := ha
  exact ⟨_, pi_range2 hg hm q hs hs2, ri_rg2 r⟩

/-! ### for -/
def forL (dg : DG) (b : DS) : List D → DS
  | [], ρ => .nx ρ
  | d :: ds, ρ => match dg d ρ with
    | some ρ1 => (match b ρ1 with
      | .nx ρ2 => forL dg b ds ρ2
      | .ct ρ2 => forL dg b ds ρ2
      | .bk ρ2 => .nx ρ2
      | .rt d ρ2 => .rt d ρ2
      | .ex x ρ2 => .ex x ρ2
      | .no => .no)
    | none => .no
def sFor (di : DI) (dg : DG) (b : DS) : DS := fun ρ => match di ρ with
  | .ok _ ds ρ1 => forL dg b ds ρ1
  | .ex x ρ1 => .ex x ρ1
  | .no => .no
theorem PostS.held {τ : Cells} {Dn Dn' : Ends} {y : Option V × SV} {o : SO} (h : PostS c W τ Dn o)
    (h1 : ∀ ρ (σ : St) F H, o = .nx ρ ∨ o = .ct ρ → σ.length = ρ.length → Pin c σ → R c F ((y :: τ) ++ σ.zip ρ) H → (o = .nx ρ → Dn'.nx σ H) ∧ (o = .ct ρ → Dn'.ct σ H)) (h2 : ∀ σ H, Dn.bk σ H → Dn'.bk σ H) (h3 : ∀ v H, Dn.rt v H → Dn'.rt v H) : PostS c W (y :: τ) Dn' o := by
  cases o with
  | nx ρ => exact fun σ F H hl hp r => (h1 ρ σ F H (.inl rfl) hl hp r).1 rfl
  | ct ρ => exact fun σ F H hl hp r => (h1 ρ σ F H (.inr rfl) hl hp r).2 rfl
  | bk ρ => exact fun σ F H hl hp r => h2 _ _ (h σ F H hl hp (show R c F (y :: (τ ++ σ.zip ρ)) H from r).drop)
  | rt d ρ => exact fun v σ F H hl hp r => h3 _ _ (h v σ F H hl hp (R.drop (R.permL (show R c F ((some v, .val d) :: (y :: (τ ++ σ.zip ρ))) H from r) (.swap _ _ _))))
  | ex x ρ => exact fun cls dd σ F H hl hp xr r => h cls dd σ F H hl hp xr (show R c F (y :: (τ ++ σ.zip ρ)) H from r).drop
  | no => exact h
theorem rs_for {wi : TI} {g : TG} {tb : TS} {di : DI} {dg : DG} {b : DS} {is : List Nat} (hn : Np c is) (hi : RI c W wi di) (hg : RG c g dg is) (hb : RS c W tb b) : RS c W (tFor wi g tb) (sFor di dg b) := by
  intro τ σ ρ F H Dn hl hp r h
  unfold sFor at h
  refine hi τ σ ρ F H _ hl r ?_
  cases e : di ρ with
  | no => rw [e] at h; exact h.elim
  | ex x ρ1 => rw [e] at h; exact PostX'.of hp h
  | ok d0 ds ρ1 =>
    rw [e] at h
    intro J vs F1 H1 hl1 hvs r1 hj
    simp only at h
    refine ⟨fun i m σ' H' => ∃ ρ' F' rest, σ'.length = ρ'.length ∧ Pin c σ' ∧ R c F' ((vals vs (heldD d0) ++ τ) ++ σ'.zip ρ') H' ∧ rest = ds.drop i ∧ i ≤ ds.length ∧ m = ds.length - i ∧ PostS c W τ Dn (forL dg b rest ρ'),
      ⟨ds.length, ρ1, F1, ds, hl1, hp, (by rw [List.append_assoc]; exact r1), by simp, Nat.zero_le _, by simp, h⟩, ?_⟩
    rintro i m σ' H' ⟨ρ', F', rest, hl', hp', r', hr, hile, hm, h'⟩
    have qv : RpA c.K F' vs (heldD d0) := R.rpA hvs (by rw [List.append_assoc] at r'; exact r')
    cases rest with
    | nil =>
      have hi : i = ds.length := by
        have : (ds.drop i).length = 0 := by rw [← hr]; rfl
        simp at this
        omega
      subst hi
      exact .inl ⟨(hj F' H' r'.sub qv).2, h' σ' F' H' hl' hp' (by rw [List.append_assoc] at r'; exact r'.dropTemps)⟩
    | cons d rest =>
      have hdi : ds[i]? = some d := by
        have : (ds.drop i)[0]? = some d := by rw [← hr]; rfl
        simpa using this
      have hilt : i < ds.length := (List.getElem?_eq_some_iff.mp hdi).1
      have hr2 : rest = ds.drop (i + 1) := by
        have : (ds.drop i).tail = rest := by rw [← hr]; rfl
        rw [← this, List.tail_drop]
      unfold forL at h'
      obtain ⟨go, yl⟩ := (hj F' H' r'.sub qv).1 i d hdi
      refine .inr ⟨go, fun σ2 H2 => ∃ ρ2 F2, σ2.length = ρ2.length ∧ Pin c σ2 ∧ R c F2 ((vals vs (heldD d0) ++ τ) ++ σ2.zip ρ2) H2 ∧ PostS c W τ Dn (forL dg b rest ρ2),
        fun σ2 H2 ⟨ρ2, F2, a1, a2, a3, a5⟩ => ⟨ds.length - (i + 1), by omega, ρ2, F2, rest, a1, a2, a3, hr2, by omega, rfl, a5⟩, fun x H2 y => ?_⟩
      obtain ⟨F2, g2, qx⟩ := yl x H2 y
      have r2 := (r'.grow g2).addV qx
      refine hg (vals vs (heldD d0) ++ τ) σ' ρ' F2 H2 x d _ hl' r2 ?_
      cases e2 : dg d ρ' with
      | none => rw [e2] at h'; exact h'.elim
      | some ρ2 =>
        rw [e2] at h'
        intro σ3 F3 H3 hl3 o3 r3
        simp only at h'
        refine hb (vals vs (heldD d0) ++ τ) σ3 ρ2 F3 H3 _ hl3 (hp'.out hn o3) r3 ?_
        cases e3 : b ρ2 with
        | nx ρ3 =>
          rw [e3] at h'
          exact fun σ4 F4 H4 hl4 hp4 r4 => ⟨ρ3, F4, hl4, hp4, r4, h'⟩
        | ct ρ3 =>
          rw [e3] at h'
          exact fun σ4 F4 H4 hl4 hp4 r4 => ⟨ρ3, F4, hl4, hp4, r4, h'⟩
        | bk ρ3 =>
          rw [e3] at h'
          exact fun σ4 F4 H4 hl4 hp4 r4 => h' σ4 F4 H4 hl4 hp4 (by rw [List.append_assoc] at r4; exact r4.dropTemps)
        | rt d' ρ3 =>
          rw [e3] at h'
          exact fun u σ4 F4 H4 hl4 hp4 r4 => h' u σ4 F4 H4 hl4 hp4 (by rw [List.append_assoc] at r4; exact r4.subl ((List.sublist_append_right _ _).cons_cons _))
        | ex x' ρ3 =>
          rw [e3] at h'
          exact fun cls dd σ4 F4 H4 hl4 hp4 xr r4 => h' cls dd σ4 F4 H4 hl4 hp4 xr (by rw [List.append_assoc] at r4; exact r4.dropTemps)
        | no => rw [e3] at h'; exact h'.elim
theorem ds_for {tg iter : Expr} {body : List Stmt} {di : DI} {dg : DG} {db : DS} {is : List Nat} {pos : Pos} (hn : Np c is) (hp : PassesOwn (model X.prog X.w) X.A X.env X.xe) (hc : X.calm = true) (hi : DXI X c W tg iter di) (hg : DXG X c tg dg is) (hb : DSs X c W body db)
    (hs : ∀ x, foldedSetIterable iter X.env x = pure x := by exact fun _ => rfl) : DSt X c W (.For tg iter body [] pos) (sFor di dg db) := by
  obtain ⟨wi, p1, r1⟩ := hi
  obtain ⟨g, p2, r2⟩ := hg
  obtain ⟨t, p3, r3⟩ := hb
  exact ⟨_, ps_for hp hc p1 p2 p3 hs, rs_for hn r1 r2 r3⟩
end
end PD

set_option Elab.async false
set_option linter.all false
set_option maxRecDepth 100000
set_option maxHeartbeats 2000000
/-! PdF: list comprehensions. -/
namespace PD
open PySem L2
/-- in a comprehension no exception leaves -/
abbrev WF : XK := fun _ _ _ => False
def wipeR (ρ : Sl) : List Nat → Sl
  | [] => ρ
  | v :: vs => (wipeR ρ vs).set v .no
def holdC (σ : St) (ρ : Sl) : List Nat → Cells
  | [] => []
  | v :: vs => ((wipe σ vs).getD v none, (wipeR ρ vs).getD v .no) :: holdC σ ρ vs
def restR (ρ : Sl) (ρ' : Sl) : List Nat → Sl
  | [] => ρ'
  | v :: vs => restR ρ (ρ'.set v ((wipeR ρ vs).getD v .no)) vs
theorem wipeR_length (ρ : Sl) : ∀ vs : List Nat, (wipeR ρ vs).length = ρ.length
  | [] => rfl
  | v :: vs => by unfold wipeR; rw [List.length_set, wipeR_length ρ vs]
theorem restR_length (ρ : Sl) : ∀ (vs : List Nat) (ρ' : Sl), (restR ρ ρ' vs).length = ρ'.length
  | [], _ => rfl
  | v :: vs, ρ' => by unfold restR; rw [restR_length ρ vs]; simp
section
variable {X : Cx} {c : Cfg} {W : XK} {F H : Hp}
theorem R.wipe1 {τ : Cells} {σ : St} {ρ : Sl} {v : Nat} (hl : σ.length = ρ.length) (r : R c F (τ ++ σ.zip ρ) H) : R c F (((σ.getD v none, ρ.getD v .no) :: τ) ++ (σ.set v none).zip (ρ.set v .no)) H := by
  by_cases hv : v < σ.length
  · have hv2 : v < ρ.length := by omega
    obtain ⟨rest, p1, p2⟩ := zip_set2 (σ := σ) (ρ := ρ) (i := v) (s := ρ[v]) (s' := .no) (v := σ[v]) (v' := none) (by simp [hv]) (by simp [hv2])
    have e1 : σ.getD v none = σ[v] := by simp [List.getD, hv]
    have e2 : ρ.getD v .no = ρ[v] := by simp [List.getD, hv2]
    rw [e1, e2]
    have r1 : R c F (τ ++ ((σ[v], ρ[v]) :: rest)) H := r.permL (p1.append_left τ)
    have r2 : R c F ((none, .no) :: (τ ++ ((σ[v], ρ[v]) :: rest))) H := r1.addN
    refine r2.permL ?_
    have q1 : (τ ++ ((σ[v], ρ[v]) :: rest)).Perm ((σ[v], ρ[v]) :: (τ ++ rest)) := List.perm_middle
    have q2 : ((none, SV.no) :: (τ ++ ((σ[v], ρ[v]) :: rest))).Perm ((σ[v], ρ[v]) :: ((none, SV.no) :: (τ ++ rest))) := (q1.cons _).trans (.swap _ _ _)
    have q3 : (τ ++ (σ.set v none).zip (ρ.set v .no)).Perm ((none, SV.no) :: (τ ++ rest)) := (p2.append_left τ).trans List.perm_middle
    exact q2.trans (q3.symm.cons _)
  · have e1 : σ.getD v none = none := by simp [List.getD, List.getElem?_eq_none (show σ.length ≤ v by omega)]
    have e2 : ρ.getD v .no = .no := by simp [List.getD, List.getElem?_eq_none (show ρ.length ≤ v by omega)]
    rw [e1, e2, List.set_eq_of_length_le (by omega), List.set_eq_of_length_le (by omega)]
    exact r.addN
theorem R.unwipe1 {τ : Cells} {σ : St} {ρ : Sl} {v : Nat} {s : SV} (hl : σ.length = ρ.length) (r : R c F (((σ.getD v none, s) :: τ) ++ (σ.set v none).zip ρ) H) : R c F (τ ++ σ.zip (ρ.set v s)) H := by
  by_cases hv : v < σ.length
  · have hv2 : v < ρ.length := by omega
    have e1 : σ.getD v none = σ[v] := by simp [List.getD, hv]
    rw [e1] at r
    obtain ⟨rest, p1, p2⟩ := zip_set2 (σ := σ.set v none) (ρ := ρ) (i := v) (s := ρ[v]) (s' := s) (v := none) (v' := σ[v]) (by simp [hv]) (by simp [hv2])
    have e3 : (σ.set v none).set v σ[v] = σ := by
      rw [List.set_set]; exact List.set_getElem_self hv
    rw [e3] at p2
    have r1 : R c F ((σ[v], s) :: (τ ++ ((none, ρ[v]) :: rest))) H := r.permL ((p1.append_left τ).cons _)
    have r2 : R c F ((σ[v], s) :: (τ ++ rest)) H := r1.subl (((List.sublist_cons_self _ rest).append_left τ).cons_cons _)
    exact r2.permL (List.perm_middle.symm.trans ((p2.symm).append_left τ))
  · rw [List.set_eq_of_length_le (by omega)] at r
    rw [List.set_eq_of_length_le (by omega)]
    exact R.drop r
theorem R.wipeAll {σ : St} {ρ : Sl} (hl : σ.length = ρ.length) : ∀ (vs : List Nat) (τ : Cells), R c F (τ ++ σ.zip ρ) H → R c F ((holdC σ ρ vs ++ τ) ++ (wipe σ vs).zip (wipeR ρ vs)) H
  | [], τ, r => r
  | v :: vs, τ, r => by
    have r1 := R.wipeAll hl vs τ r
    exact R.wipe1 (v := v) (by rw [wipe_length, wipeR_length]; exact hl) r1
theorem R.unwipeAll {σ : St} {ρ : Sl} (hl : σ.length = ρ.length) : ∀ (vs : List Nat) (τ : Cells) (ρ' : Sl), σ.length = ρ'.length → R c F ((holdC σ ρ vs ++ τ) ++ (wipe σ vs).zip ρ') H → R c F (τ ++ σ.zip (restR ρ ρ' vs)) H
  | [], τ, ρ', _, r => r
  | v :: vs, τ, ρ', hl', r => by
    have r1 : R c F ((((wipe σ vs).getD v none, (wipeR ρ vs).getD v .no) :: (holdC σ ρ vs ++ τ)) ++ ((wipe σ vs).set v none).zip ρ') H := r
    exact R.unwipeAll hl vs τ _ (by simpa using hl') (R.unwipe1 (by rw [wipe_length]; exact hl') r1)
theorem R.forget {σ : St} {ρ : Sl} (hl : σ.length = ρ.length) (vs : List Nat) (τ : Cells) (r : R c F (τ ++ σ.zip ρ) H) : R c F (τ ++ (wipe σ vs).zip (wipeR ρ vs)) H := by
  have q := R.wipeAll hl vs τ r
  rw [List.append_assoc] at q
  exact q.dropTemps
theorem wipe_in {σ : St} {j : Nat} : ∀ {vs : List Nat}, j ∈ vs → (wipe σ vs)[j]? = if j < σ.length then some none else none
  | v :: vs, h => by
    show ((wipe σ vs).set v none)[j]? = _
    by_cases e : v = j
    · subst e
      by_cases hv : v < σ.length
      · rw [List.getElem?_set_self (by rw [wipe_length]; exact hv), if_pos hv]
      · rw [List.getElem?_eq_none (by rw [List.length_set, wipe_length]; omega), if_neg hv]
    · rw [List.getElem?_set_ne e]
      exact wipe_in ((List.mem_cons.mp h).resolve_left (Ne.symm e))
theorem wipe_of_out {σ σ' : St} {vs is : List Nat} (o : Out (wipe σ vs) σ' is) (hs : ∀ i ∈ is, i ∈ vs) : wipe σ' vs = wipe σ vs := by
  have hl : σ'.length = σ.length := by rw [o.1, wipe_length]
  refine List.ext_getElem? fun j => ?_
  by_cases hj : j ∈ vs
  · rw [wipe_in hj, wipe_in hj, hl]
  · rw [L2.wipe_out hj, o.2 j fun z => hj (hs j z)]

/-! ### [e for target in iter if t] -/
def lcL (dg : DG) (dt : DB) (de : DE) (vs : List Nat) : List D → List D → Sl → Option (List D × Sl)
  | [], acc, ρ => some (acc, ρ)
  | d :: ds, acc, ρ => match dg d ρ with
    | some ρ1 => (match dt ρ1 with
      | .ok true ρ2 => (match de ρ2 with
        | .ok o ρ3 => (match frz1 ρ3 o with
          | some (x, ρ4) => if acc.length < 100000 then lcL dg dt de vs ds (acc ++ [x]) (wipeR ρ4 vs) else none
          | none => none)
        | _ => none)
      | .ok false ρ2 => lcL dg dt de vs ds acc (wipeR ρ2 vs)
      | _ => none)
    | none => none
def dLc (di : DI) (vs : List Nat) (dg : DG) (dt : DB) (de : DE) : DE := fun ρ => match di ρ with
  | .ok _ ds ρ1 => (match lcL dg dt de vs ds [] (wipeR ρ1 vs) with
    | some (acc, ρ2) => .ok (.t (.own (.list acc))) (restR ρ1 ρ2 vs)
    | none => .no)
  | .ex x ρ1 => .ex x ρ1
  | .no => .no
theorem re_lc {wi : TI} {g : TG} {tt : TT} {te : TE} {vs is : List Nat} {di : DI} {dg : DG} {dt : DB} {de : DE} (hs : ∀ i ∈ is, i ∈ vs) (hi : RI c W wi di) (hg : RG c g dg is) (ht : RB c WF tt dt) (he : RE c WF te de) : RE c W (tLc wi g tt te vs) (dLc di vs dg dt de) := by
  intro τ σ ρ F H Q hl r h
  unfold dLc at h
  refine hi τ σ ρ F H _ hl r ?_
  cases e : di ρ with
  | no => rw [e] at h; exact h.elim
  | ex x ρ1 => rw [e] at h; exact h
  | ok d0 ds ρ1 =>
    rw [e] at h
    intro J w0 F1 H1 hl1 hvs r1 hj Dl hD
    simp only at h
    cases e1 : lcL dg dt de vs ds [] (wipeR ρ1 vs) with
    | none => rw [e1] at h; exact h.elim
    | some p =>
      obtain ⟨accF, ρF⟩ := p
      rw [e1] at h
      simp only at h
      have r2 : R c F1 ((some (.ref Dl), .own (.list [])) :: ((vals w0 (heldD d0) ++ τ) ++ σ.zip ρ1)) (upd H1 Dl (.lst [])) :=
        R.addO (by rw [List.append_assoc]; exact r1) (Grow.new1 r1.sub hD) hD (r1.sub.free hD) upd_same (.lst .nil)
      have r3 := R.wipeAll hl1 vs ((some (.ref Dl), .own (.list [])) :: (vals w0 (heldD d0) ++ τ)) r2
      refine ⟨fun i m H' => ∃ ρ' F' acc rest, σ.length = ρ'.length ∧ R c F' ((holdC σ ρ1 vs ++ ((some (.ref Dl), .own (.list acc)) :: (vals w0 (heldD d0) ++ τ))) ++ (wipe σ vs).zip ρ') H' ∧ rest = ds.drop i ∧ i ≤ ds.length ∧ m = ds.length - i ∧ lcL dg dt de vs rest acc ρ' = some (accF, ρF),
        ⟨ds.length, wipeR ρ1 vs, F1, [], ds, by rw [wipeR_length]; exact hl1, r3, by simp, Nat.zero_le _, by simp, e1⟩, ?_⟩
      rintro i m H' ⟨ρ', F', acc, rest, hl', r', hr, hile, hm, h'⟩
      have qv : RpA c.K F' w0 (heldD d0) := vals_rp w0 (heldD d0) (cs := []) hvs fun x hx => r'.ok x (by rw [List.append_nil] at hx; simp [hx])
      cases rest with
      | nil =>
        have hi : i = ds.length := by
          have : (ds.drop i).length = 0 := by rw [← hr]; rfl
          simp at this
          omega
        subst hi
        cases h'
        refine .inl ⟨(hj F' H' r'.sub qv).2, ?_⟩
        have r4 := R.unwipeAll hl1 vs _ _ hl' r'
        have r5 : R c F' ((some (.ref Dl), .own (.list accF)) :: (vals w0 (heldD d0) ++ (τ ++ σ.zip (restR ρ1 ρF vs)))) H' := by rw [← List.append_assoc (vals w0 (heldD d0))]; exact r4
        exact h (.ref Dl) F' H' (by rw [restR_length]; exact hl') (r5.subl ((List.sublist_append_right _ _).cons_cons _))
      | cons d rest =>
        have hdi : ds[i]? = some d := by
          have : (ds.drop i)[0]? = some d := by rw [← hr]; rfl
          simpa using this
        have hilt : i < ds.length := (List.getElem?_eq_some_iff.mp hdi).1
        have hr2 : rest = ds.drop (i + 1) := by
          have : (ds.drop i).tail = rest := by rw [← hr]; rfl
          rw [← this, List.tail_drop]
        unfold lcL at h'
        obtain ⟨go, yl⟩ := (hj F' H' r'.sub qv).1 i d hdi
        refine .inr ⟨go, fun H2 => ∃ ρ2 F2 acc2, σ.length = ρ2.length ∧ R c F2 ((holdC σ ρ1 vs ++ ((some (.ref Dl), .own (.list acc2)) :: (vals w0 (heldD d0) ++ τ))) ++ (wipe σ vs).zip ρ2) H2 ∧ lcL dg dt de vs rest acc2 ρ2 = some (accF, ρF),
          fun H2 ⟨ρ2, F2, acc2, a1, a2, a3⟩ => ⟨ds.length - (i + 1), by omega, ρ2, F2, acc2, rest, a1, a2, hr2, by omega, rfl, a3⟩, fun x H2 y => ?_⟩
        obtain ⟨F2, g2, qx⟩ := yl x H2 y
        have r2 := (r'.grow g2).addV qx
        refine hg _ (wipe σ vs) ρ' F2 H2 x d _ (by rw [wipe_length]; exact hl') r2 ?_
        cases e2 : dg d ρ' with
        | none => rw [e2] at h'; cases h'
        | some ρ2 =>
          rw [e2] at h'
          simp only at h'
          intro σ3 F3 H3 hl3 o3 r3
          have hw := wipe_of_out o3 hs
          refine ⟨hw, ht _ σ3 ρ2 F3 H3 _ hl3 r3 ?_⟩
          cases e3 : dt ρ2 with
          | no => rw [e3] at h'; cases h'
          | ex x' ρ3 => rw [e3] at h'; cases h'
          | ok k ρ3 =>
            rw [e3] at h'
            intro F4 H4 hl4 r4
            cases k with
            | false =>
              refine iteF ⟨wipeR ρ3 vs, F4, acc, by rw [wipeR_length, ← hl4, o3.1, wipe_length], ?_, h'⟩
              have r5 := R.forget hl4 vs _ r4
              rw [hw] at r5
              exact r5
            | true =>
              simp only at h'
              refine iteT (re_run he hl4 r4 (fun o ρ4 e4 y F5 H5 hl5 hh r5 => ?_) (fun x' ρ4 e4 => by rw [e4] at h'; cases h') fun e4 => by rw [e4] at h'; cases h')
              rw [e4] at h'
              simp only at h'
              cases e5 : frz1 ρ4 o with
              | none => rw [e5] at h'; cases h'
              | some p =>
                obtain ⟨xd, ρ5⟩ := p
                rw [e5] at h'
                simp only at h'
                split at h'
                · rename_i hz
                  obtain ⟨F6, s6, hl6, r6⟩ := R.frz1 hl5 hh r5 e5
                  have qy : Rp c.K F6 y xd := r6.ok _ List.mem_cons_self
                  -- the new list to the front
                  have r7 : R c F6 ((some (.ref Dl), .own (.list acc)) :: ((holdC σ ρ1 vs ++ (vals w0 (heldD d0) ++ τ)) ++ σ3.zip ρ5)) H5 := by
                    refine r6.drop.permL ?_
                    have : (holdC σ ρ1 vs ++ ((some (.ref Dl), SV.own (.list acc)) :: (vals w0 (heldD d0) ++ τ))).Perm ((some (.ref Dl), SV.own (.list acc)) :: (holdC σ ρ1 vs ++ (vals w0 (heldD d0) ++ τ))) := List.perm_middle
                    exact this.append_right _
                  obtain ⟨f1, ob, f2, f3⟩ := r7.ok _ List.mem_cons_self
                  cases f3 with
                  | @lst xs _ f3 =>
                    have r8 := r7.change (o' := .lst (xs ++ [y])) (d' := .list (acc ++ [xd])) (.lst (f3.app (.cons qy .nil)))
                    refine ⟨xs, f2, by rw [f3.len]; exact Nat.lt_of_lt_of_le hz (szl (Nat.le_refl _)), wipeR ρ5 vs, F6, acc ++ [xd], by rw [wipeR_length, ← hl6, o3.1, wipe_length], ?_, h'⟩
                    have r9 : R c F6 ((holdC σ ρ1 vs ++ ((some (.ref Dl), .own (.list (acc ++ [xd]))) :: (vals w0 (heldD d0) ++ τ))) ++ σ3.zip ρ5) (upd H5 Dl (.lst (xs ++ [y]))) := by
                      refine r8.permL ?_
                      have : (holdC σ ρ1 vs ++ ((some (.ref Dl), SV.own (.list (acc ++ [xd]))) :: (vals w0 (heldD d0) ++ τ))).Perm ((some (.ref Dl), SV.own (.list (acc ++ [xd]))) :: (holdC σ ρ1 vs ++ (vals w0 (heldD d0) ++ τ))) := List.perm_middle
                      exact (this.append_right _).symm
                    have r10 := R.forget hl6 vs _ r9
                    rw [hw] at r10
                    exact r10
                · cases h'
/-! the parts of a comprehension stand in the block's context, whichever it is -/
abbrev Blk (X : Cx) (scope : Scope) (s : Shared) (H : Hp) (C : Addr) (cl : List (Str × Addr)) (fp : List Addr) : Cx := X.blk s H scope (compEnvC scope cl C X.env) fp
def BX (X : Cx) (scope : Scope) (c : Cfg) (e : Expr) (d : DE) : Prop := ∀ s H C cl fp, DX (Blk X scope s H C cl fp) c WF e d
def BTs (X : Cx) (scope : Scope) (c : Cfg) (es : List Expr) (d : DB) : Prop := ∀ s H C cl fp, ∃ t, PTs (Blk X scope s H C cl fp) es t ∧ RB c WF t d
def BG (X : Cx) (scope : Scope) (c : Cfg) (tg : Expr) (d : DG) (is : List Nat) : Prop := ∀ s H C cl fp, DXG (Blk X scope s H C cl fp) c tg d is
theorem PE.anti {X : Cx} {e : Expr} {t t' : TE} (h : PE X e t) (a : ∀ σ H Q, t' σ H Q → t σ H Q) : PE X e t' := ⟨fun pins s σ H Q I q => h.run pins s σ H Q I (a σ H Q q)⟩
theorem BX.one {scope : Scope} {e : Expr} {d : DE} (h : BX X scope c e d) : ∃ te, (∀ s H C cl fp, PE (Blk X scope s H C cl fp) e te) ∧ RE c WF te d := by
  refine ⟨fun σ H' Q => ∀ s H C cl fp, Classical.choose (h s H C cl fp) σ H' Q, fun s H C cl fp => ?_, fun τ σ ρ F H' Q hl r q s H C cl fp => ?_⟩
  · exact PE.anti (Classical.choose_spec (h s H C cl fp)).1 fun σ H' Q q => q s H C cl fp
  · exact (Classical.choose_spec (h s H C cl fp)).2 τ σ ρ F H' Q hl r q
theorem BTs.one {scope : Scope} {es : List Expr} {d : DB} (h : BTs X scope c es d) : ∃ te, (∀ s H C cl fp, PTs (Blk X scope s H C cl fp) es te) ∧ RB c WF te d := by
  refine ⟨fun σ H' Q => ∀ s H C cl fp, Classical.choose (h s H C cl fp) σ H' Q, fun s H C cl fp => ?_, fun τ σ ρ F H' Q hl r q s H C cl fp => ?_⟩
  · exact ⟨fun pins s' σ H' Q I q => (Classical.choose_spec (h s H C cl fp)).1.run pins s' σ H' Q I (q s H C cl fp)⟩
  · exact (Classical.choose_spec (h s H C cl fp)).2 τ σ ρ F H' Q hl r q
theorem BG.one {scope : Scope} {tg : Expr} {d : DG} {is : List Nat} (h : BG X scope c tg d is) : ∃ g, (∀ s H C cl fp, PG (Blk X scope s H C cl fp) tg g) ∧ RG c g d is := by
  refine ⟨fun v σ H' Q => ∀ s H C cl fp, Classical.choose (h s H C cl fp) v σ H' Q, fun s H C cl fp => ?_, fun τ σ ρ F H' v d Q hl r q s H C cl fp => ?_⟩
  · exact ⟨fun pins s' σ H' v u Q I rv q => (Classical.choose_spec (h s H C cl fp)).1.run pins s' σ H' v u Q I rv (q s H C cl fp)⟩
  · exact (Classical.choose_spec (h s H C cl fp)).2 τ σ ρ F H' v d Q hl r q
def dYes : DB := fun ρ => .ok true ρ
theorem bt_nil {scope : Scope} : BTs X scope c [] dYes := fun _ _ _ _ _ => ⟨_, pts_nil, fun τ σ ρ F H Q hl r h => h F H hl r⟩
theorem bt_one {scope : Scope} {t : Expr} {d : DB} (h : ∀ s H C cl fp, DT (Blk X scope s H C cl fp) c WF t d) : BTs X scope c [t] d := fun s H C cl fp => by
  obtain ⟨t, p, r⟩ := h s H C cl fp
  exact ⟨_, pts_one p, r⟩
theorem dx_lc {elt tg iter : Expr} {ifs : List Expr} {scope : Scope} {own : List (Str × Nat)} {is : List Nat} {pos : Pos} {di : DI} {dg : DG} {dt : DB} {de : DE} (hc : X.calm = true) (hN : X.N.Nodup) (hi : DXI X c W tg iter di) (hg : BG X scope c tg dg is) (ht : BTs X scope c ifs dt) (he : BX X scope c elt de)
    (ok : BlkOk X.N X.env.scope scope own) (hs : ∀ i ∈ is, i ∈ own.map (·.2) := by decide) (hf : ∀ x, foldedSetIterable iter X.env x = pure x := by exact fun _ => rfl) : DX X c W (.ListComp elt [⟨tg, iter, ifs, 0⟩] scope pos) (dLc di (own.map (·.2)) dg dt de) := by
  obtain ⟨wi, p1, r1⟩ := hi
  obtain ⟨g, p2, r2⟩ := hg.one
  obtain ⟨tt, p3, r3⟩ := ht.one
  obtain ⟨te, p4, r4⟩ := he.one
  exact ⟨_, pe_lc hc hN p1 ok p2 p3 p4 hf, re_lc hs r1 r2 r3 r4⟩
theorem ds_setLc {i : Nat} {y : Str} {py : Pos} {elt tg iter : Expr} {ifs : List Expr} {scope : Scope} {own : List (Str × Nat)} {is : List Nat} {pos spos : Pos} {di : DI} {dg : DG} {dt : DB} {de : DE} (fz : Bool) (hn : Np c [i]) (hc : X.calm = true) (hN : X.N.Nodup) (hi : DXI X c W tg iter di) (hg : BG X scope c tg dg is) (ht : BTs X scope c ifs dt) (he : BX X scope c elt de)
    (ok : BlkOk X.N X.env.scope scope own) (hy : X.N[i]? = some y := by rfl) (hyl : X.env.scope.names.lookup y = some .local := by rfl) (hsw : swapsWith (.ListComp elt [⟨tg, iter, ifs, 0⟩] scope pos) (some (.Name y py)) spos.line X.env = pure true := by exact (sw_true rfl rfl rfl (by decide +kernel)))
    (hs : ∀ i ∈ is, i ∈ own.map (·.2) := by decide) (hf : ∀ x, foldedSetIterable iter X.env x = pure x := by exact fun _ => rfl) : DSt X c W (.Assign [.Name y py] (.ListComp elt [⟨tg, iter, ifs, 0⟩] scope pos) spos) (sSet i (if fz = true then dFz (dLc di (own.map (·.2)) dg dt de) else dLc di (own.map (·.2)) dg dt de)) := by
  obtain ⟨wi, p1, r1⟩ := hi
  obtain ⟨g, p2, r2⟩ := hg.one
  obtain ⟨tt, p3, r3⟩ := ht.one
  obtain ⟨te, p4, r4⟩ := he.one
  refine ⟨_, ps_setLc hc hN hy hyl hsw p1 ok p2 p3 p4 hf, rs_set hn ?_⟩
  cases fz with
  | true => exact re_fz (re_lc hs r1 r2 r3 r4)
  | false => exact re_lc hs r1 r2 r3 r4
end
end PD

set_option Elab.async false
set_option linter.all false
set_option maxRecDepth 100000
set_option maxHeartbeats 2000000
/-! PdG: what a def promises, its call, its body; raise. -/
namespace PD
open PySem PySem.Spec PyProof.Rows L2
/-- a def's end: what it returns and what became of the object handed in | the exception -/
inductive FO where
  | rt (d : D) (s : SV)
  | ex (x : Exn) (s : SV)
  | no
def XR (K : PySem.W.Frag) (mg : Str → Option Value) (F H : Hp) (x : Exn) (cls : Value) (dd : Option Addr) : Prop :=
  mg x.cls = some cls ∧ ∃ (a : Addr) (fs : List (Str × V)), dd = some a ∧ H a = some (.xd fs) ∧ fs.map (·.1) = x.fs.map (·.1) ∧ RpA K F (fs.map (·.2)) (x.fs.map (·.2))
theorem xr_eq {c : Cfg} {F H : Hp} {x : Exn} {cls : Value} {dd : Option Addr} : XR c.K c.mg F H x cls dd = XRel c F H x cls dd := rfl
structure Fin (ia : List Addr) (F H F' H' : Hp) : Prop where
  f : Same F F'
  sub : Same F' H'
  kept : ∀ b o, H b = some o → b ∉ ia → H' b = some o
  new : ∀ b, F' b ≠ none → F b = none → H b = none ∨ b ∈ ia
  ntb : ∀ b ps, F' b = some (.tbl ps) → F b = some (.tbl ps)
def IoOk (K : PySem.W.Frag) (F H : Hp) (ia : List Addr) (s : SV) : Prop := match ia with
  | [] => True
  | a :: _ => CellOk K F H (some (.ref a), s)
def ArgsOk (K : PySem.W.Frag) (F H : Hp) (ia : List Addr) (vs : List V) (ds : List D) : Prop := match ia with
  | [] => RpA K F vs ds
  | a :: _ => ∃ vs' d0 ds' o, vs = .ref a :: vs' ∧ ds = d0 :: ds' ∧ F a = none ∧ H a = some o ∧ Own K F o d0 ∧ RpA K F vs' ds'
def FPost (K : PySem.W.Frag) (mg : Str → Option Value) (F H : Hp) (ia : List Addr) (Q : VK) (E : XK) : FO → Prop
  | .rt d s => ∀ v F' H', Fin ia F H F' H' → IoOk K F' H' ia s → Rp K F' v d → Q v H'
  | .ex x s => ∀ cls dd F' H', Fin ia F H F' H' → IoOk K F' H' ia s → XR K mg F' H' x cls dd → E cls dd H'
  | .no => False
/-- the promise of a def of np parameters; io: its first one is an object that it changes -/
def spP (K : PySem.W.Frag) (mg : Str → Option Value) (io : Bool) (np : Nat) (f : List D → FO) : Sp := fun vs H Q E =>
  ∃ F ia ds, vs.length = np ∧ (if io = true then ∃ a, ia = [a] else ia = []) ∧ Same F H ∧ ArgsOk K F H ia vs ds ∧ FPost K mg F H ia Q E (f ds)
section
variable {X : Cx} {c : Cfg} {W : XK} {F H F' H' : Hp}
theorem Fin.grow (g : Fin [] F H F' H') : Grow F H F' H' :=
  ⟨g.f, fun b o e => g.kept b o e (by simp), g.sub, fun b h n => (g.new b h n).resolve_right (by simp), g.ntb⟩
/-- behind a call that may have changed the object at a -/
theorem R.fin {cs : Cells} {a : Addr} {d0 : D} {s : SV} (r : R c F ((some (.ref a), .own d0) :: cs) H) (g : Fin [a] F H F' H') (ok : CellOk c.K F' H' (some (.ref a), s)) : R c F' ((some (.ref a), s) :: cs) H' := by
  obtain ⟨fa, o, ha, how⟩ := r.ok _ List.mem_cons_self
  have nd : (a :: cs.filterMap ownA).Nodup := r.dis
  have na := (List.nodup_cons.mp nd).1
  have oa := r.own a List.mem_cons_self
  have hd : ∀ l : List Addr, ((ownA (some (.ref a), s)).toList ++ l) = ((some (V.ref a), s) :: cs).filterMap ownA → True := fun _ _ => trivial
  refine ⟨g.sub, r.grow0.trans g.f, fun b h n => ?_, fun b u e hi => ?_, fun p hp => ?_, fun b ps h => r.ntb b ps (g.ntb b ps h), fun x hx => ?_, ?_, ?_⟩
  · cases e : F b with
    | some u => exact r.growN b h (by rw [e]; simp)
    | none =>
      rcases g.new b n e with hb | hb
      · exact r.fresh hb
      · have : b = a := by simpa using hb
        rw [this]; exact oa
  · have hb : b ≠ a := fun z => by
      rcases oa with q | q
      · rw [z, q] at e; cases e
      · exact hi (z ▸ q)
    exact g.kept b u (r.kept b u e hi) (by simpa using hb)
  · obtain ⟨ps, e1, e2, e3⟩ := r.tabs p hp
    have hb : p.1 ≠ a := fun z => by rw [z, ha] at e1; exact how.ntbl ps (Option.some.inj e1)
    refine ⟨ps, g.kept _ _ e1 (by simpa using hb), e2, fun pos cv hc => ?_⟩
    obtain ⟨c', e4, e5⟩ := e3 pos cv hc
    refine ⟨c', e4, g.kept _ _ e5 ?_⟩
    have hb' : c' ≠ a := fun z => by
      rw [z, ha] at e5
      have e6 := Option.some.inj e5
      rw [e6] at how
      unfold LamX.CodeO at how
      cases how
    simpa using hb'
  · rcases List.mem_cons.mp hx with rfl | hx
    · exact ok
    · have q := r.ok x (List.mem_cons_of_mem _ hx)
      obtain ⟨v, s'⟩ := x
      cases s' with
      | no => trivial
      | val d' =>
        cases v with
        | none => exact q.elim
        | some v => exact Rp.mono g.f _ _ q
      | own d' =>
        cases v with
        | none => exact q.elim
        | some v =>
          cases v with
          | ref b =>
            obtain ⟨q1, u, q2, q3⟩ := q
            have hb : b ≠ a := fun z => na (by rw [← z]; exact List.mem_filterMap.mpr ⟨_, hx, rfl⟩)
            refine ⟨?_, u, g.kept b u q2 (by simpa using hb), q3.mono g.f⟩
            cases e : F' b with
            | none => rfl
            | some w =>
              rcases g.new b (by rw [e]; simp) q1 with z | z
              · rw [q2] at z; cases z
              · exact absurd (by simpa using z) hb
          | _ => exact q.elim
  · cases s with
    | own d => exact r.dis
    | no => exact (List.nodup_cons.mp nd).2
    | val d => exact (List.nodup_cons.mp nd).2
  · cases s with
    | own d => exact r.own
    | no => exact fun b hb => r.own b (List.mem_cons_of_mem _ hb)
    | val d => exact fun b hb => r.own b (List.mem_cons_of_mem _ hb)

/-! ### the call -/
def dCall (f : List D → FO) (da : DAs) : DE := fun ρ => match da ρ with
  | .ok os ρ1 => (match frzA ρ1 os with
    | some (ds, ρ2) => (match f ds with
      | .rt d _ => .ok (.t (.val d)) ρ2
      | .ex x _ => .ex x ρ2
      | .no => .no)
    | none => .no)
  | .ex x ρ1 => .ex x ρ1
  | .no => .no
theorem re_call {np : Nat} {f : List D → FO} {ta : TA} {da : DAs} (hl' : daLen da np) (ha : RA c W ta da) : RE c W (tCall (spP c.K c.mg false np f) [] W ta) (dCall f da) := by
  intro τ σ ρ F H Q hl r h
  unfold dCall at h
  refine ha τ σ ρ F H _ hl r ?_
  cases e : da ρ with
  | no => rw [e] at h; exact h.elim
  | ex x ρ1 => rw [e] at h; exact h
  | ok os ρ1 =>
    rw [e] at h
    intro vs F1 H1 hl1 hh r1
    simp only at h
    cases e1 : frzA ρ1 os with
    | none => rw [e1] at h; exact h.elim
    | some p =>
      obtain ⟨ds, ρ2⟩ := p
      rw [e1] at h
      simp only at h
      obtain ⟨F2, s2, hl2, q, r2⟩ := R.frzA hl1 hh r1 e1
      have hlen : ∀ (os : List Od) (vs : List V), Held σ os vs → os.length = vs.length := by
        intro os
        induction os with
        | nil => intro vs h; cases vs with
          | nil => rfl
          | cons _ _ => exact h.elim
        | cons o os ih => intro vs h; cases vs with
          | nil => cases o <;> exact h.elim
          | cons v vs => cases o with
            | t s => simp [ih vs h]
            | p i => simp [ih vs h.2]
      refine ⟨F2, [], ds, ?_, by simp, r2.sub, by rw [List.append_nil]; exact q, ?_⟩
      · rw [List.append_nil, ← hlen os vs hh]; exact hl' _ _ _ e
      · cases e2 : f ds with
        | no => rw [e2] at h; exact h.elim
        | ex x s =>
          rw [e2] at h
          exact fun cls dd F' H' g _ xr => h cls dd F' H' hl2 xr (r2.grow g.grow)
        | rt d s =>
          rw [e2] at h
          exact fun v F' H' g _ qv => h v F' H' hl2 ((r2.grow g.grow).addV qv)
/-- the first argument: the own object of a slot, which the def may change -/
def dCallIo (f : List D → FO) (k : Nat) (da : DAs) : DE := fun ρ => match ρ[k]? with
  | some (.own _) => (match da ρ with
    | .ok os ρ1 => (match frzA ρ1 os with
      | some (ds, ρ2) => (match ρ2[k]? with
        | some (.own d0) => (match f (d0 :: ds) with
          | .rt d s => .ok (.t (.val d)) (ρ2.set k s)
          | .ex x s => .ex x (ρ2.set k s)
          | .no => .no)
        | _ => .no)
      | none => .no)
    | .ex x ρ1 => .ex x ρ1
    | .no => .no)
  | _ => .no
theorem Held.len {σ : L2.St} : ∀ (os : List Od) (vs : List V), Held σ os vs → os.length = vs.length
  | [], [], _ => rfl
  | .t s :: os, v :: vs, h => by simp [Held.len os vs h]
  | .p i :: os, v :: vs, h => by simp [Held.len os vs h.2]
  | [], _ :: _, h => h.elim
  | .t s :: os, [], h => h.elim
  | .p i :: os, [], h => h.elim
theorem re_callIo {np k : Nat} {f : List D → FO} {ta : TA} {da : DAs} (hl' : daLen da np) (ha : RA c W ta da) : RE c W (tCall (spP c.K c.mg true (np + 1) f) [] W (tCons (tVar k) ta)) (dCallIo f k da) := by
  intro τ σ ρ F H Q hl r h
  unfold dCallIo at h
  cases e0 : ρ[k]? with
  | none => rw [e0] at h; exact h.elim
  | some s0 =>
    rw [e0] at h
    cases s0 with
    | no => exact h.elim
    | val _ => exact h.elim
    | own d00 =>
      simp only at h
      obtain ⟨a, o, e1, _, _, _⟩ := r.ownSlot hl e0
      refine ⟨.ref a, e1, ha τ σ ρ F H _ hl r ?_⟩
      cases e : da ρ with
      | no => rw [e] at h; exact h.elim
      | ex x ρ1 => rw [e] at h; exact h
      | ok os ρ1 =>
        rw [e] at h
        intro vs F1 H1 hl1 hh r1
        simp only at h
        cases e2 : frzA ρ1 os with
        | none => rw [e2] at h; exact h.elim
        | some p =>
          obtain ⟨ds, ρ2⟩ := p
          rw [e2] at h
          simp only at h
          obtain ⟨F2, s2, hl2, q, r2⟩ := R.frzA hl1 hh r1 e2
          cases e3 : ρ2[k]? with
          | none => rw [e3] at h; exact h.elim
          | some s3 =>
            rw [e3] at h
            cases s3 with
            | no => exact h.elim
            | val _ => exact h.elim
            | own d0 =>
              simp only at h
              obtain ⟨a', o', f1, f2, f3, f4⟩ := r2.ownSlot hl2 e3
              have ea : a' = a := by rw [e1] at f1; cases f1; rfl
              subst ea
              refine ⟨F2, [a'], d0 :: ds, ?_, ⟨a', rfl⟩, r2.sub, ?_, ?_⟩
              · rw [List.append_nil, List.length_cons, ← Held.len os vs hh, hl' _ _ _ e]
              · rw [List.append_nil]
                exact ⟨vs, d0, ds, o', rfl, rfl, f2, f3, f4, q⟩
              · cases e4 : f (d0 :: ds) with
                | no => rw [e4] at h; exact h.elim
                | ex x s =>
                  rw [e4] at h
                  intro cls dd F' H' g io xr
                  obtain ⟨rest, q1, q2⟩ := R.front (s' := s) e1 e3 r2
                  exact h cls dd F' H' (by simpa using hl2) xr (q2 F' H' (q1.fin g io))
                | rt d s =>
                  rw [e4] at h
                  intro v F' H' g io qv
                  obtain ⟨rest, q1, q2⟩ := R.front (s' := s) e1 e3 r2
                  exact h v F' H' (by simpa using hl2) ((q2 F' H' (q1.fin g io)).addV qv)
/-- a def of the text, as it is called -/
structure Cal (X : Cx) (x : Str) (k : Nat) (ps : List Str) (sp : Sp) : Prop where
  ex : ∃ (f : Addr) (fd : FuncData), FnOk X.prog X.w X.K X.mg X.base (L2.CX X.prog X.w) k f fd ps sp ∧ X.mg x = some (.ref f) ∧ PySem.W.keepIn X.K (.ref f) = true ∧ Binds X.K fd ps []
theorem dx_call {x : Str} {k np : Nat} {ps : List Str} {f : List D → FO} {e : Expr} {es : List Expr} {da : DAs} {p pos : Pos} (G : Cal X x k ps (spP X.K X.mg false np f)) (hK : c.K = X.K) (hmg : c.mg = X.mg) (hr : Room k X.A) (hx : Passes (L2.CX X.prog X.w) X W) (ha : DXA X c W (e :: es) da) (hl : daLen da np) (hg : Gl X x := by rfl)
    (hdb : (x == ("__debug__" : Str)) = false := by decide) (he : starEach (e :: es) X.env = (false, eval e X.env) :: starEach es X.env := by rfl) (hpl : (backTo pos (starEach es X.env)).any (·.1) = false := by rfl) : DX X c W (.Call (.Name x p) (e :: es) [] pos) (dCall f da) := by
  obtain ⟨t, pa, ra⟩ := ha
  obtain ⟨fa, fd, h1, h2, h3, h4⟩ := G.ex
  have q := re_call (f := f) hl ra
  rw [hK, hmg] at q
  exact ⟨_, pe_call h1 hr hg h2 h3 h4 .nil hx pa hdb he hpl, q⟩
theorem dx_callIo {x : Str} {k np j : Nat} {ps : List Str} {f : List D → FO} {y : Str} {es : List Expr} {da : DAs} {p pos py : Pos} (G : Cal X x k ps (spP X.K X.mg true (np + 1) f)) (hK : c.K = X.K) (hmg : c.mg = X.mg) (hr : Room k X.A) (hx : Passes (L2.CX X.prog X.w) X W) (ha : DXA X c W es da) (hl : daLen da np)
    (hN : X.N[j]? = some y := by rfl) (hv : Vis X.env.scope y := by first | exact Or.inl rfl | exact Or.inr (Or.inl rfl) | exact Or.inr (Or.inr rfl)) (hd : (y == ("__debug__" : Str)) = false := by decide) (hcd : (y == ("__classdict__" : Str)) = false := by decide) (hg : Gl X x := by rfl)
    (hdb : (x == ("__debug__" : Str)) = false := by decide) (he : starEach (.Name y py :: es) X.env = (false, eval (.Name y py) X.env) :: starEach es X.env := by rfl) (hpl : (backTo pos (starEach es X.env)).any (·.1) = false := by rfl) : DX X c W (.Call (.Name x p) (.Name y py :: es) [] pos) (dCallIo f j da) := by
  obtain ⟨t, pa, ra⟩ := ha
  obtain ⟨fa, fd, h1, h2, h3, h4⟩ := G.ex
  have q := re_callIo (f := f) (k := j) hl ra
  rw [hK, hmg] at q
  exact ⟨_, pe_call h1 hr hg h2 h3 h4 .nil hx (pa_cons (pe_var hN hv hd hcd) pa he) hdb he hpl, q⟩
/-! keywords: the positional ones, then those by name in the parameters' order -/
def DXK (X : Cx) (c : Cfg) (W : XK) (kws : List Keyword) (d : DAs) : Prop := ∃ t, PK X kws t ∧ RA c W t d
theorem dk_nil : DXK X c W [] daN := ⟨_, pk_nil, ra_nil⟩
theorem dk_cons {nm : Option Str} {e : Expr} {kpos : Pos} {kws : List Keyword} {d : DE} {da : DAs} (he : DX X c W e d) (ha : DXK X c W kws da) : DXK X c W (⟨nm, e, kpos⟩ :: kws) (daC d da) := by
  obtain ⟨t, p, r⟩ := he
  obtain ⟨t2, p2, r2⟩ := ha
  exact ⟨_, pk_cons p p2, ra_cons r r2⟩

/-! ### the body -/
def startR (io : Bool) (n : Nat) (ds : List D) : Sl := (if io = true then (match ds with
    | d :: ds => .own d :: ds.map .val
    | [] => []) else ds.map .val) ++ List.replicate (n - ds.length) .no
def runD (io : Bool) (n : Nat) (body : DS) : List D → FO := fun ds => match body (startR io n ds) with
  | .rt d ρ => .rt d (ρ.getD 0 .no)
  | .nx ρ => .rt .none (ρ.getD 0 .no)
  | .ex x ρ => .ex x (ρ.getD 0 .no)
  | _ => .no
theorem startR_len {io : Bool} {n : Nat} {ds : List D} (h : ds.length ≤ n) : (startR io n ds).length = n := by
  unfold startR
  cases io with
  | false => simp; omega
  | true => cases ds with
    | nil => simp
    | cons d ds => simp at h ⊢; omega
theorem vals_cells {K : PySem.W.Frag} {F H : Hp} : ∀ (vs : List V) (ds : List D) (n m : Nat), RpA K F vs ds → (∀ x ∈ (vs.map some ++ List.replicate n none).zip (ds.map SV.val ++ List.replicate m SV.no), CellOk K F H x) ∧ ((vs.map some ++ List.replicate n none).zip (ds.map SV.val ++ List.replicate m SV.no)).filterMap ownA = []
  | [], [], n, m, _ => by
    have key : ∀ (n m : Nat), (∀ x ∈ (List.replicate n (none : Option V)).zip (List.replicate m SV.no), CellOk K F H x) ∧ ((List.replicate n (none : Option V)).zip (List.replicate m SV.no)).filterMap ownA = [] := by
      intro n
      induction n with
      | zero => intro m; simp
      | succ n ih =>
        intro m
        cases m with
        | zero => simp
        | succ m =>
          rw [List.replicate_succ, List.replicate_succ, List.zip_cons_cons]
          obtain ⟨a, b⟩ := ih m
          refine ⟨fun x hx => ?_, ?_⟩
          · rcases List.mem_cons.mp hx with rfl | hx
            · trivial
            · exact a x hx
          · rw [List.filterMap_cons]; exact b
    simpa using key n m
  | v :: vs, d :: ds, n, m, h => by
    cases h with
    | cons h1 h2 =>
      obtain ⟨a, b⟩ := vals_cells vs ds n m h2
      refine ⟨fun x hx => ?_, ?_⟩
      · have hx' : x ∈ (some v, SV.val d) :: (vs.map some ++ List.replicate n (none : Option V)).zip (ds.map SV.val ++ List.replicate m SV.no) := hx
        rcases List.mem_cons.mp hx' with rfl | hx
        · exact h1
        · exact a x hx
      · have e : ownA (some v, SV.val d) = none := by cases v <;> rfl
        show ((some v, SV.val d) :: (vs.map some ++ List.replicate n none).zip (ds.map SV.val ++ List.replicate m SV.no)).filterMap ownA = []
        rw [List.filterMap_cons, e]; exact b
  | [], _ :: _, _, _, h => by cases h
  | _ :: _, [], _, _, h => by cases h
/-- THE RULE for a def -/
theorem fn_den {P : Program} {w : World} {K : PySem.W.Frag} {mg : Str → Option Value} {base : Heap} {x qual : Str} {st : Stmt} {f : Addr} {fd : FuncData} {N ps : List Str} {k : Nat} (io : Bool) (body : DS) (Fu : Fun K x qual st f fd) (S : FnScope N ps (defScope st)) (hio : io = true → ps ≠ [])
    (hbody : ∀ (cdv : Value) (A : Around) (outer : List Env) (s : Shared) (H : Hp) (E : XK) (c : Cfg), Room k (A.deeper (envOfC qual (defScope st) s.heap.objs.size f cdv)) → c.K = K → c.mg = mg → c.T = [] → (io = false → c.pin = none) →
      DSs (cxOf (L2.CX P w) P w K mg base N qual (defScope st) f cdv A outer s H E) c E (defBody st) body) :
    FnOk P w K mg base (L2.CX P w) (k + 1) f fd ps (spP K mg io ps.length (runD io N.length body)) := by
  have hNp : ps.length ≤ N.length := by
    have := congrArg List.length S.pre
    rw [List.length_take] at this
    omega
  refine Fu.okX S (fun vs H Q E h => ?_) (fun cdv A outer s H vs Q E hr h => ?_)
  · obtain ⟨_, _, _, h1, _⟩ := h
    exact h1
  · obtain ⟨F, ia, ds, h1, h2, sub, args, post⟩ := h
    have fin : ∀ (c : Cfg), c.K = K → c.mg = mg → c.T = [] → c.F0 = F → c.H0 = H → c.io = ia → (c.pin = match ia with | [] => none | a :: _ => some (.ref a)) → (io = false → c.pin = none) → ds.length = vs.length →
        R c F ([] ++ (L2.start N vs).zip (startR io N.length ds)) H → Pin c (L2.start N vs) →
        ∃ t, PSs (cxOf (L2.CX P w) P w K mg base N qual (defScope st) f cdv A outer s H E) (defBody st) t ∧ t { nx := fun _ H' => Q .non H', rt := Q } (L2.start N vs) H := by
      intro c hK hmg hT hF0 hH0 hio' hpin hpn hlen r hp
      obtain ⟨t, p, q⟩ := hbody cdv A outer s H E c hr hK hmg hT hpn
      refine ⟨t, p, q [] (L2.start N vs) (startR io N.length ds) F H _ ?_ hp r ?_⟩
      · rw [startR_len (by omega)]
        unfold L2.start
        rw [List.length_append, List.length_map, List.length_replicate]
        omega
      · have fin1 : ∀ {F' H'} {cs : Cells}, R c F' cs H' → Fin ia F H F' H' := fun {F' H' cs} r' =>
          ⟨hF0 ▸ r'.grow0, r'.sub, fun b o e hi => r'.kept b o (by rw [hH0]; exact e) (by rw [hio']; exact hi), fun b n e => by
            have := r'.growN b (by rw [hF0]; exact e) n
            rw [hH0, hio'] at this
            exact this, fun b ps h => hF0 ▸ r'.ntb b ps h⟩
        have io1 : ∀ {F' H'} {σ' : L2.St} {ρ' : Sl} {cs : Cells}, R c F' (cs ++ σ'.zip ρ') H' → σ'.length = ρ'.length → Pin c σ' → IoOk K F' H' ia (ρ'.getD 0 .no) := fun {F' H' σ' ρ' cs} r' hl' hp' => by
          cases ia with
          | nil => trivial
          | cons a l =>
            have e0 : σ'[0]? = some (some (.ref a)) := hp' (.ref a) hpin
            show CellOk K F' H' (some (.ref a), ρ'.getD 0 .no)
            cases e : ρ'[0]? with
            | none =>
              have z1 := List.getElem?_eq_none_iff.mp e
              have z2 := (List.getElem?_eq_some_iff.mp e0).1
              omega
            | some s' =>
              have e2 : ρ'.getD 0 .no = s' := by simp [List.getD, e]
              rw [e2]
              cases s' with
              | no => trivial
              | val d =>
                obtain ⟨v, f1, m⟩ := R.slot r' hl' e (by intro z; cases z)
                rw [e0] at f1; cases f1
                have q := r'.ok _ m
                rw [hK] at q
                exact q
              | own d =>
                obtain ⟨v, f1, m⟩ := R.slot r' hl' e (by intro z; cases z)
                rw [e0] at f1; cases f1
                have q := r'.ok _ m
                rw [hK] at q
                exact q
        unfold runD at post
        cases e : body (startR io N.length ds) with
        | no => rw [e] at post; exact post.elim
        | bk ρ => rw [e] at post; exact post.elim
        | ct ρ => rw [e] at post; exact post.elim
        | nx ρ =>
          rw [e] at post
          exact fun σ' F' H' hl' hp' r' => post .non F' H' (fin1 r') (io1 r' hl' hp') .non
        | rt d ρ =>
          rw [e] at post
          intro v σ' F' H' hl' hp' r'
          have q := r'.ok _ List.mem_cons_self
          rw [hK] at q
          exact post v F' H' (fin1 r') (io1 (cs := [(some v, .val d)]) r' hl' hp') q
        | ex x ρ =>
          rw [e] at post
          intro cls dd σ' F' H' hl' hp' xr r'
          have xr' : XR c.K c.mg F' H' x cls dd := xr
          rw [hK, hmg] at xr'
          exact post cls dd F' H' (fin1 r') (io1 (cs := []) r' hl' hp') xr'
    cases io with
    | false =>
      have hia : ia = [] := by simpa using h2
      subst hia
      have args : RpA K F vs ds := args
      have hlen := args.len
      refine fin ⟨K, mg, F, H, [], [], none⟩ rfl rfl rfl rfl rfl rfl rfl (fun _ => rfl) hlen.symm ?_ (fun v hv => by cases hv)
      obtain ⟨a, b⟩ := vals_cells (H := H) vs ds (N.length - vs.length) (N.length - ds.length) args
      refine ⟨sub, Same.refl _, fun b h n => absurd h n, fun b o e _ => e, fun p hp => (by cases hp), fun b ps h => h, a, ?_, ?_⟩
      · show ((L2.start N vs).zip (startR false N.length ds)).filterMap ownA |>.Nodup
        rw [show ((L2.start N vs).zip (startR false N.length ds)).filterMap ownA = [] from b]
        exact List.nodup_nil
      · intro z hz
        rw [show (([] : Cells) ++ (L2.start N vs).zip (startR false N.length ds)).filterMap ownA = [] from b] at hz
        cases hz
    | true =>
      have hia : ∃ a, ia = [a] := by simpa using h2
      obtain ⟨a, rfl⟩ := hia
      obtain ⟨vs', d0, ds', o, rfl, rfl, fa, ha, how, args'⟩ := args
      have hlen := args'.len
      have hl1 : (d0 :: ds').length = (V.ref a :: vs').length := by simp [hlen]
      refine fin ⟨K, mg, F, H, [a], [], some (.ref a)⟩ rfl rfl rfl rfl rfl rfl rfl (fun z => by cases z) hl1 ?_ (fun v hv => by cases hv; rfl)
      obtain ⟨p, q⟩ := vals_cells (H := H) vs' ds' (N.length - (V.ref a :: vs').length) (N.length - (d0 :: ds').length) args'
      have ez : ([] ++ (L2.start N (V.ref a :: vs')).zip (startR true N.length (d0 :: ds'))) = (some (.ref a), .own d0) :: (vs'.map some ++ List.replicate (N.length - (V.ref a :: vs').length) none).zip (ds'.map SV.val ++ List.replicate (N.length - (d0 :: ds').length) SV.no) := rfl
      rw [ez]
      refine ⟨sub, Same.refl _, fun b h n => absurd h n, fun b o e _ => e, fun p hp => (by cases hp), fun b ps h => h, fun y hy => ?_, ?_, ?_⟩
      · rcases List.mem_cons.mp hy with rfl | hy
        · exact ⟨fa, o, ha, how⟩
        · exact p y hy
      · show (a :: _).Nodup
        rw [q]
        exact List.nodup_cons.mpr ⟨by simp, List.nodup_nil⟩
      · intro z hz
        rcases List.mem_cons.mp (show z ∈ a :: _ from hz) with rfl | hz
        · exact .inr List.mem_cons_self
        · rw [q] at hz; cases hz
end
end PD

set_option Elab.async false
set_option linter.all false
set_option maxRecDepth 100000
set_option maxHeartbeats 2000000
/-! PdH: enumerate over a list, a tuple, a text. -/
namespace PySem
set_option maxHeartbeats 1000000 in
theorem PdE.meets_enumerate_new1 {v : Value} {o : Obj} {H : Heap → Prop} (B : Begins v o H) :
    Meets (Builtin.«enumerate.__new__» ⟨[.type "enumerate", v], []⟩) (fun _ R s => H s.heap ∧
      R (.ok (.ret (.ref (s.heap.push o).objs.size))) { s with heap := (s.heap.push o).push { cls := .type "enumerate", data := .fields #[.none, .bool false, .ref s.heap.objs.size, rawInt 0, .none, .none] } }) :=
  .of_wp fun prog w A R s h => by
    obtain ⟨hp, g, d, tk, os⟩ := s; obtain ⟨h1, h⟩ := h
    have hsub := sub_enumerate
    have q1 : ∀ {A' : Around} {E : Value → Shared → Prop} {Q : Value → Shared → Prop}, Q (.ref hp.objs.size) ⟨hp.push o, g, d, tk, os⟩ → wpAny (model prog w) A' (pyIter v) Q E ⟨hp, g, d, tk, os⟩ :=
      fun q => B.iter prog w _ _ ⟨hp, g, d, tk, os⟩ _ h1 q
    wp_walk using q1
    refine wpAny_stack_any fun st => wpAny_pure ?_
    split
    · rename_i c _ _ _ _ _
      cases (c == Value.type "enumerate")
      · wp_walk using q1
        exact ⟨_, rfl, h⟩
      · wp_walk using q1
        exact ⟨_, rfl, h⟩
    · wp_walk using q1
      exact ⟨_, rfl, h⟩
section
variable {prog : Program} {w : World} {A : Around} {E : Value → Shared → Prop} {s : Shared}
theorem PdE.call_enumerate_any {v : Value} {o : Obj} {H : Heap → Prop} {Q : Value → Shared → Prop} (B : Begins v o H) (h1 : H s.heap)
    (h : ∀ h', IsEnum h' (s.heap.objs.size + 1) s.heap.objs.size 0 .none → h'.get? s.heap.objs.size = some o → h'.objs.size = s.heap.objs.size + 2 →
      (∀ b o, s.heap.get? b = some o → h'.get? b = some o) → Q (.ref (s.heap.objs.size + 1)) { s with heap := h' }) :
    wpAny (model prog w) A (call (.type "enumerate") [v]) Q E s := by
  refine callType_new F.called_enumerate (by decide) (F.typeCall_enumerate_1 _) (F.newCall_enumerate_1 _) (fun obj => F.args_object_init_2 obj _) F.entry_enumerate_new
    (PdE.meets_enumerate_new1 B) ⟨h1, ?_⟩
  have hz : (s.heap.push o).objs.size = s.heap.objs.size + 1 := Heap.size_push ..
  show _ ∧ _
  rw [hz]
  have he : IsEnum ((s.heap.push o).push { cls := .type "enumerate", data := .fields #[.none, .bool false, .ref s.heap.objs.size, rawInt 0, .none, .none] }) (s.heap.objs.size + 1) s.heap.objs.size 0 .none := by
    have := Heap.get?_push_size (s.heap.push o) (o := { cls := .type "enumerate", data := .fields #[.none, .bool false, .ref s.heap.objs.size, rawInt 0, .none, .none] }) rfl
    rw [hz] at this; exact this
  refine ⟨⟨_, he, rfl⟩, h _ he (Heap.get?_push_of_some _ (Heap.get?_push_size _ B.free)) (by rw [Heap.size_push, hz]) fun b o x => Heap.get?_push_of_some _ (Heap.get?_push_of_some _ x)⟩
end
end PySem
namespace PD
open PySem PySem.Spec PyProof.Rows L2
/-- enumerate over anything that is drawn: x i is the i-th item, as the state tells it; n of them -/
def IteX (rd : Hp → List V → Prop) : It :=
  ⟨fun i H => ∃ (xs : List V) (x : V), rd H xs ∧ xs[i]? = some x, fun i H v H' => ∃ T x, v = .ref T ∧ H T = none ∧ H' = upd H T (.tup [.int (i : Nat), x]) ∧ ∀ xs, rd H xs → xs[i]? = some x, fun i H => ∃ xs : List V, rd H xs ∧ xs.length = i⟩
theorem turn_enumT {P : Program} {w : World} {K : PySem.W.Frag} {elts : List Expr} {kk : Nat} {tpos : Pos} (a e it : Addr) :
    Turn P w K (.Tuple elts kk tpos) (IteX fun H xs => SqT K H a xs) [e, it] e (fun i h => (∃ old, IsEnum h e it ((i : Nat) : Int) old) ∧ h.IsTupleIter it a i ∧ e ≠ it) where
  mem := by simp
  obj := fun i h st b hb => by
    obtain ⟨⟨old, he⟩, ⟨o, ho, hc, hd⟩, _⟩ := st
    have e' : b = e ∨ b = it := by simpa using hb
    rcases e' with z | z
    · rw [z]; exact ⟨_, he, fun v q => nomatch q⟩
    · rw [z]; exact ⟨o, ho, fun v q => by rw [hd] at q; cases q⟩
  keep := fun i h h' st k => let ⟨⟨old, he⟩, hi, hne⟩ := st; ⟨⟨old, k e (by simp) _ he⟩, hi.at fun o q => k it (by simp) o q, hne⟩
  item := by
    intro X hP hw hK hc i pins s σ H E I hf st hg
    subst hP hw hK
    obtain ⟨⟨old, he⟩, hit, hne⟩ := st
    obtain ⟨xs, x, hq, hx⟩ := hg
    obtain ⟨its, rv, p, hz⟩ := I.tuple hq
    obtain ⟨u, hu, ru⟩ := rv.get hx
    have hel : e < s.heap.objs.size := Heap.lt_size he
    have hil : it < s.heap.objs.size := by obtain ⟨_, q, _⟩ := hit; exact Heap.lt_size q
    have pt : s.heap.IsTuple a its.toArray := p
    have hae : a ≠ e := fun z => by
      obtain ⟨o, h1, h2, _⟩ := pt
      have he2 := he
      unfold IsEnum at he2
      rw [← z, h1] at he2
      cases he2
      exact absurd (show Value.type "enumerate" = Value.type "tuple" from h2) (by decide)
    have hai : a ≠ it := fun z => by
      obtain ⟨o, h1, h2, _⟩ := pt
      obtain ⟨o', h3, h4, _⟩ := hit
      rw [← z, h1] at h3
      cases h3
      rw [h2] at h4
      exact absurd h4 (by decide)
    have D := Draws.tuple (prog := X.prog) (w := X.w) (A := X.A.in1) (I.ok.hd hc) it a hai its.toArray
    have hi : i < its.toArray.size := by
      have := (List.getElem?_eq_some_iff.mp hu).1
      simpa using this
    refine wpAny_pyNext_enum_itemD D he ⟨hit, pt⟩ hi hne (by simp [hne, Ne.symm hae]) fun y h' tk hy ho hst' hT hsz hk => ?_
    have hyu : y = u := by
      have : its[i]? = some y := by simpa using hy
      rw [hu] at this
      exact (Option.some.inj this).symm
    subst hyu
    refine ⟨_, rfl, wpAny_letOwnedTupleGo_enum (s := { s with heap := h', toks := tk + 1 }) ho fun h'' he' sb => ?_⟩
    have hT2 : h''.get? s.heap.objs.size = some { cls := .type "tuple", data := .seq #[.int i tk, y] } := (sb.2 _ (Nat.ne_of_gt hel)).trans hT
    have new : ObjOk X.prog X.w (upd H s.heap.objs.size (.tup [.int (i : Nat), x])) h'' s.heap.objs.size (.tup [.int (i : Nat), x]) :=
      ⟨by show 2 ≤ sizeLine; decide, [.int i tk, y], .cons ⟨_, rfl⟩ (.cons ru .nil), ⟨_, hT2, rfl, _, rfl⟩⟩
    have I1 : Inv X pins σ (upd H s.heap.objs.size (.tup [.int (i : Nat), x])) { s with heap := h'', toks := tk + 1 } :=
      I.turnedNew (ch := [e, it]) (fun b ob hb q => (sb.2 b (fun z => hb (by simp [z]))).trans (hk b ob (fun z => hb (by simp [z])) (fun z => hb (by simp [z])) q)) hf (Nat.le_refl _) new
    refine ⟨.ref s.heap.objs.size, _, I1, rfl, ⟨_, x, rfl, I.hok.fresh (Nat.le_refl _), rfl, fun ys hy => by rw [I.tuple_inj hy hq]; exact hx⟩, ⟨⟨y, ?_⟩, hst'.1.at fun o q => (sb.2 it (Ne.symm hne)).trans q, hne⟩, fun b hb => ?_⟩
    · have e1 : ((i + 1 : Nat) : Int) = (i : Int) + 1 := by omega
      rw [e1]; exact he'
    · have hb' : b < s.heap.objs.size := by
        have e' : b = e ∨ b = it := by simpa using hb
        rcases e' with z | z
        · rw [z]; exact hel
        · rw [z]; exact hil
      rw [upd_ne (Nat.ne_of_lt hb')]
      exact (hf b hb).1
  done := by
    intro X hP hw hK hc i pins s σ H E I hf st hg
    subst hP hw hK
    obtain ⟨⟨old, he⟩, hit, hne⟩ := st
    obtain ⟨xs, hq, hx⟩ := hg
    obtain ⟨its, rv, p, hz⟩ := I.tuple hq
    obtain ⟨f0, f1, f2, f3, f4, f5⟩ := hf it (by simp)
    have hl := rv.length
    have pt : s.heap.IsTuple a its.toArray := p
    have hai : a ≠ it := fun z => by
      obtain ⟨o, h1, h2, _⟩ := pt
      obtain ⟨o', h3, h4, _⟩ := hit
      rw [← z, h1] at h3
      cases h3
      rw [h2] at h4
      exact absurd h4 (by decide)
    have D := Draws.tuple (prog := X.prog) (w := X.w) (A := X.A.in1) (I.ok.hd hc) it a hai its.toArray
    have hi : i = its.toArray.size := by simp; omega
    subst hi
    exact wpAny_pyNext_enum_endD D he ⟨hit, pt⟩ fun h' eb => ⟨rfl, I.turned (t' := s.toks) (fun b o hb q => eb b o hb q) f0 f1 f3 f4 f5⟩
  self := fun A i s Q E st h => let ⟨⟨_, he⟩, _⟩ := st; wpAny_pyIter_enum he h
def chrs (z : Str) : List V := z.cps.toList.map fun c => .str ⟨#[c]⟩
theorem turn_enumS {P : Program} {w : World} {K : PySem.W.Frag} {elts : List Expr} {kk : Nat} {tpos : Pos} (z : Str) (t : Tok) (e it : Addr) :
    Turn P w K (.Tuple elts kk tpos) (IteX fun _ xs => xs = chrs z) [e, it] e (fun i h => (∃ old, IsEnum h e it ((i : Nat) : Int) old) ∧ h.IsStrIter it (strIterType z) z t i ∧ e ≠ it) where
  mem := by simp
  obj := fun i h st b hb => by
    obtain ⟨⟨old, he⟩, ⟨o, ho, hc, hd⟩, _⟩ := st
    have e' : b = e ∨ b = it := by simpa using hb
    rcases e' with z | z
    · rw [z]; exact ⟨_, he, fun v q => nomatch q⟩
    · rw [z]; exact ⟨o, ho, fun v q => by rw [hd] at q; cases q⟩
  keep := fun i h h' st k => let ⟨⟨old, he⟩, ⟨o, ho, r⟩, hne⟩ := st; ⟨⟨old, k e (by simp) _ he⟩, ⟨o, k it (by simp) o ho, r⟩, hne⟩
  item := by
    intro X hP hw hK hc i pins s σ H E I hf st hg
    subst hP hw hK
    obtain ⟨⟨old, he⟩, hit, hne⟩ := st
    obtain ⟨xs, x, rfl, hx⟩ := hg
    have hel : e < s.heap.objs.size := Heap.lt_size he
    have hil : it < s.heap.objs.size := by obtain ⟨_, q, _⟩ := hit; exact Heap.lt_size q
    have D := Draws.text (prog := X.prog) (w := X.w) (A := X.A.in1) (I.ok.hd hc) it z t
    have hi : i < z.cps.size := by
      have := (List.getElem?_eq_some_iff.mp hx).1
      simpa [chrs] using this
    refine wpAny_pyNext_enum_itemD D he hit hi hne (by simp [hne]) fun y h' tk hy ho hst' hT hsz hk => ?_
    obtain ⟨ch, u, hch, rfl⟩ := hy
    have hxe : x = .str ⟨#[ch]⟩ := by
      have h3 : z.cps.toList[i]? = some ch := by simpa using hch
      unfold chrs at hx
      rw [List.getElem?_map, h3] at hx
      exact (Option.some.inj hx).symm
    subst hxe
    refine ⟨_, rfl, wpAny_letOwnedTupleGo_enum (s := { s with heap := h', toks := tk + 1 }) ho fun h'' he' sb => ?_⟩
    have hT2 : h''.get? s.heap.objs.size = some { cls := .type "tuple", data := .seq #[.int i tk, .str ⟨#[ch]⟩ u] } := (sb.2 _ (Nat.ne_of_gt hel)).trans hT
    have new : ObjOk X.prog X.w (upd H s.heap.objs.size (.tup [.int (i : Nat), .str ⟨#[ch]⟩])) h'' s.heap.objs.size (.tup [.int (i : Nat), .str ⟨#[ch]⟩]) :=
      ⟨by show 2 ≤ sizeLine; decide, [.int i tk, .str ⟨#[ch]⟩ u], .cons ⟨_, rfl⟩ (.cons ⟨_, rfl⟩ .nil), ⟨_, hT2, rfl, _, rfl⟩⟩
    have I1 : Inv X pins σ (upd H s.heap.objs.size (.tup [.int (i : Nat), .str ⟨#[ch]⟩])) { s with heap := h'', toks := tk + 1 } :=
      I.turnedNew (ch := [e, it]) (fun b ob hb q => (sb.2 b (fun z => hb (by simp [z]))).trans (hk b ob (fun z => hb (by simp [z])) (fun z => hb (by simp [z])) q)) hf (Nat.le_refl _) new
    refine ⟨.ref s.heap.objs.size, _, I1, rfl, ⟨_, .str ⟨#[ch]⟩, rfl, I.hok.fresh (Nat.le_refl _), rfl, fun ys hy => by rw [hy]; exact hx⟩, ⟨⟨.str ⟨#[ch]⟩ u, ?_⟩, ?_, hne⟩, fun b hb => ?_⟩
    · have e1 : ((i + 1 : Nat) : Int) = (i : Int) + 1 := by omega
      rw [e1]; exact he'
    · obtain ⟨o, h1, r⟩ := hst'
      exact ⟨o, (sb.2 it (Ne.symm hne)).trans h1, r⟩
    · have hb' : b < s.heap.objs.size := by
        have e' : b = e ∨ b = it := by simpa using hb
        rcases e' with z | z
        · rw [z]; exact hel
        · rw [z]; exact hil
      rw [upd_ne (Nat.ne_of_lt hb')]
      exact (hf b hb).1
  done := by
    intro X hP hw hK hc i pins s σ H E I hf st hg
    subst hP hw hK
    obtain ⟨⟨old, he⟩, hit, hne⟩ := st
    obtain ⟨xs, rfl, hx⟩ := hg
    obtain ⟨f0, f1, f2, f3, f4, f5⟩ := hf it (by simp)
    have D := Draws.text (prog := X.prog) (w := X.w) (A := X.A.in1) (I.ok.hd hc) it z t
    have hi : i = z.cps.size := by rw [← hx]; simp [chrs]
    subst hi
    exact wpAny_pyNext_enum_endD D he hit fun h' eb => ⟨rfl, I.turned (t' := s.toks) (fun b o hb q => eb b o hb q) f0 f1 f3 f4 f5⟩
  self := fun A i s Q E st h => let ⟨⟨_, he⟩, _⟩ := st; wpAny_pyIter_enum he h
def iEnumA (K : PySem.W.Frag) (ta : TA) : TI := fun σ H R => ta σ H fun vs H1 => (∃ a xs, vs = [.ref a] ∧ SqL K H1 a xs ∧ R (Ite K a) H1) ∨ (∃ a xs, vs = [.ref a] ∧ SqT K H1 a xs ∧ R (IteX fun H xs => SqT K H a xs) H1) ∨ ∃ z, vs = [.str z] ∧ R (IteX fun _ xs => xs = chrs z) H1
theorem pi_enumA {X : Cx} {e : Expr} {ta : TA} {p pos tpos : Pos} {elts : List Expr} {kk : Nat} (hg : Gl X "enumerate") (hm : X.mg "enumerate" = none) (ha : PA X [e] ta) (hs : starEach [e] X.env = [(false, eval e X.env)] := by rfl) :
    PI X (.Tuple elts kk tpos) (.Call (.Name "enumerate" p) [e] [] pos) (iEnumA X.K ta) := by
  refine ⟨fun pins s σ H R I h => ?_⟩
  refine Call_ (ld_blt I hg hm boot_enumerate (PyProof.Rows.callWith_type1 (thn (ha.run pos pins s σ H _ I h) fun us s1 ⟨vs, H1, I1, r1, q1⟩ => ?_) hs rfl))
  have fpok : ∀ b ∈ [s1.heap.objs.size + 1, s1.heap.objs.size], FpOk X pins H1 b := fun b hb => by
    have e' : b = s1.heap.objs.size + 1 ∨ b = s1.heap.objs.size := by simpa using hb
    have hle : s1.heap.objs.size ≤ b := by
      rcases e' with z | z
      · rw [z]; exact Nat.le_add_right _ _
      · rw [z]; exact Nat.le_refl _
    exact I1.fpOk hle (I1.hok.fresh hle)
  rcases q1 with ⟨a, xs, ex, hq, q⟩ | ⟨a, xs, ex, hq, q⟩ | ⟨z, ex, q⟩
  · subst ex
    cases r1 with
    | cons r rr =>
      cases rr
      cases r
      obtain ⟨its, rv, p', hz⟩ := I1.list hq
      refine call_enumerate_list p'.isList fun h' he hit hsz hk => wpAny_pyIter_enum he ?_
      have I2 : Inv X pins σ H1 { s1 with heap := h' } := I1.kept (t' := s1.toks) hk
      exact ⟨s1.heap.objs.size + 1, [s1.heap.objs.size + 1, s1.heap.objs.size], _, _, H1, rfl, I2, turn_enum a (s1.heap.objs.size + 1) s1.heap.objs.size, ⟨⟨.none, he⟩, hit, Nat.succ_ne_self _⟩, fpok, q⟩
  · subst ex
    cases r1 with
    | cons r rr =>
      cases rr
      cases r
      obtain ⟨its, rv, p', hz⟩ := I1.tuple hq
      refine PdE.call_enumerate_any (begins_tuple a its.toArray) p' fun h' he hit hsz hk => wpAny_pyIter_enum he ?_
      have I2 : Inv X pins σ H1 { s1 with heap := h' } := I1.kept (t' := s1.toks) hk
      exact ⟨s1.heap.objs.size + 1, [s1.heap.objs.size + 1, s1.heap.objs.size], _, _, H1, rfl, I2, turn_enumT a (s1.heap.objs.size + 1) s1.heap.objs.size, ⟨⟨.none, he⟩, ⟨_, hit, rfl, rfl⟩, Nat.succ_ne_self _⟩, fpok, q⟩
  · subst ex
    cases r1 with
    | cons r rr =>
      cases rr
      obtain ⟨t, rfl⟩ := r
      refine call_enumerate_str fun h' he hit hsz hk => wpAny_pyIter_enum he ?_
      have I2 : Inv X pins σ H1 { s1 with heap := h' } := I1.kept (t' := s1.toks) hk
      exact ⟨s1.heap.objs.size + 1, [s1.heap.objs.size + 1, s1.heap.objs.size], _, _, H1, rfl, I2, turn_enumS z t (s1.heap.objs.size + 1) s1.heap.objs.size, ⟨⟨.none, he⟩, hit, Nat.succ_ne_self _⟩, fpok, q⟩
def enumD (ds : List D) : List D := ds.mapIdx fun i d => .tuple [.int (i : Nat), d]
section
variable {X : Cx} {c : Cfg} {W : XK}
theorem jok_pair {K : PySem.W.Frag} {J : It} {v : V} {d0 : D} {ds : List D} (h : ∀ F H, Same F H → Rp K F v d0 → ∃ xs : List V, RpA K F xs ds ∧ (∀ (i : Nat) x, xs[i]? = some x → J.go i H ∧ ∀ y H', J.yld i H y H' → ∃ T, y = .ref T ∧ H T = none ∧ H' = upd H T (.tup [.int (i : Nat), x])) ∧ J.stop xs.length H) : JOk K J [v] [d0] (enumD ds) := by
  intro F H s q
  have q : Rp K F v d0 := by cases q with | cons h _ => exact h
  obtain ⟨xs, q1, q2, q3⟩ := h F H s q
  refine ⟨fun i d hd => ?_, ?_⟩
  · unfold enumD at hd
    rw [List.getElem?_mapIdx] at hd
    cases e : ds[i]? with
    | none => rw [e] at hd; cases hd
    | some d' =>
      rw [e] at hd
      cases hd
      obtain ⟨x, e1, qx⟩ := q1.get e
      obtain ⟨go, yl⟩ := q2 i x e1
      refine ⟨go, fun y H' hy => ?_⟩
      obtain ⟨T, rfl, hT, rfl⟩ := yl y H' hy
      have g := Grow.lay (o := .tup [.int (i : Nat), x]) s hT
      exact ⟨_, g, .tup upd_same (.cons (.int _) (.cons (Rp.mono g.f _ _ qx) .nil))⟩
  · have : (enumD ds).length = xs.length := by unfold enumD; rw [List.length_mapIdx, q1.len]
    rw [this]; exact q3
def dEn (da : DAs) : DI := fun ρ => match da ρ with
  | .ok os ρ1 => (match frzA ρ1 os with
    | some ([x], ρ2) => (match itemsD x with
      | some ds => .ok x (enumD ds) ρ2
      | none => .no)
    | _ => .no)
  | .ex x ρ1 => .ex x ρ1
  | .no => .no
theorem ri_enum {ta : TA} {da : DAs} (ha : RA c W ta da) : RI c W (iEnumA c.K ta) (dEn da) := by
  intro τ σ ρ F H Q hl r h
  unfold dEn at h
  refine ha τ σ ρ F H _ hl r ?_
  cases e : da ρ with
  | no => rw [e] at h; exact h.elim
  | ex x ρ1 => rw [e] at h; exact h
  | ok os ρ1 =>
    rw [e] at h
    intro vs F1 H1 hl1 hh r1
    simp only at h
    cases e1 : frzA ρ1 os with
    | none => rw [e1] at h; exact h.elim
    | some p =>
      obtain ⟨ds, ρ2⟩ := p
      obtain ⟨F2, s2, hl2, q, r2⟩ := R.frzA hl1 hh r1 e1
      rw [e1] at h
      match ds, h, q with
      | [x], h, q =>
        cases q with
        | @cons v _ _ _ q qn =>
          cases qn
          simp only at h
          cases x with
          | list ds =>
            obtain ⟨a, xs, rfl, h1, q1⟩ := Rr.lst r2.sub (.inl q)
            refine .inl ⟨a, xs, rfl, .inl h1, h _ [_] F2 H1 hl2 rfl (r2.addV q) (jok_pair fun F H s q => ?_)⟩
            obtain ⟨a', xs, e, h1, q1⟩ := Rr.lst s (.inl q)
            cases e
            refine ⟨xs, q1, fun i x hx => ⟨⟨xs, x, .inl h1, hx⟩, fun y H' hy => ?_⟩, xs, .inl h1, Nat.le_refl _⟩
            obtain ⟨T, x', rfl, hT, rfl, hx'⟩ := hy
            have := hx' xs (.inl h1)
            rw [hx] at this
            cases this
            exact ⟨T, rfl, hT, rfl⟩
          | tuple ds =>
            obtain ⟨a, xs, rfl, h1, q1⟩ := Rr.tup r2.sub (.inl q)
            refine .inr (.inl ⟨a, xs, rfl, h1, h _ [_] F2 H1 hl2 rfl (r2.addV q) (jok_pair fun F H s q => ?_)⟩)
            obtain ⟨a', xs, e, h1, q1⟩ := Rr.tup s (.inl q)
            cases e
            refine ⟨xs, q1, fun i x hx => ⟨⟨xs, x, h1, hx⟩, fun y H' hy => ?_⟩, xs, h1, rfl⟩
            obtain ⟨T, x', rfl, hT, rfl, hx'⟩ := hy
            have := hx' xs h1
            rw [hx] at this
            cases this
            exact ⟨T, rfl, hT, rfl⟩
          | str z =>
            have qq : Rr c.K F2 H1 v (.str z) := .inl q
            cases qq.str
            refine .inr (.inr ⟨z, rfl, h _ [_] F2 H1 hl2 rfl (r2.addV q) (jok_pair fun F H s q => ?_)⟩)
            refine ⟨chrs z, ?_, fun i x hx => ⟨⟨_, x, rfl, hx⟩, fun y H' hy => ?_⟩, _, rfl, rfl⟩
            · refine RpA.mk (by simp [chrs]) fun i v d h1 h2 => ?_
              unfold chrs at h1
              rw [List.getElem?_map] at h1 h2
              cases e : z.cps.toList[i]? with
              | none => rw [e] at h1; cases h1
              | some ch => rw [e] at h1 h2; cases h1; cases h2; exact .str _
            · obtain ⟨T, x', rfl, hT, rfl, hx'⟩ := hy
              have := hx' _ rfl
              rw [hx] at this
              cases this
              exact ⟨T, rfl, hT, rfl⟩
          | _ => exact h.elim
theorem di_enum {e : Expr} {da : DAs} {p pos tpos : Pos} {elts : List Expr} {kk : Nat} (hK : c.K = X.K) (hm : X.mg "enumerate" = none) (ha : DXA X c W [e] da) (hg : Gl X "enumerate" := by rfl) (hs : starEach [e] X.env = [(false, eval e X.env)] := by rfl) : DXI X c W (.Tuple elts kk tpos) (.Call (.Name "enumerate" p) [e] [] pos) (dEn da) := by
  obtain ⟨t, q, r⟩ := ha
  have k := ri_enum r
  rw [hK] at k
  exact ⟨_, pi_enumA hg hm q hs, k⟩
end
end PD

set_option Elab.async false
set_option linter.all false
set_option maxRecDepth 100000
set_option maxHeartbeats 2000000
/-! PdI: built-in functions and classes, methods of texts, isinstance; raise. -/
namespace PD
open PySem PySem.Spec PyProof.Rows L2
section
variable {K : PySem.W.Frag} {F H : Hp} {X : Cx}
/-! ### len, list, tuple, int, abs, all, any, sum -/
def oLen : List D → VO
  | [.list ds] => .v (.int (ds.length : Nat))
  | [.tuple ds] => .v (.int (ds.length : Nat))
  | [.str z] => if z.length ≤ 100000 then .v (.int (z.length : Nat)) else .no
  | _ => .no
theorem vok_len : VOk K (fun xs H Q => ∃ x n, xs = [x] ∧ LenV K x H n ∧ Q (.int (n : Nat)) H) oLen := by
  intro F H vs ds Q s rr hp
  unfold oLen at hp
  split at hp
  · rename_i ds
    cases rr with
    | cons h1 h2 =>
      cases h2
      obtain ⟨a, xs, rfl, h1, q⟩ := h1.lst s
      exact ⟨_, ds.length, rfl, .inl ⟨xs, .inl h1, q.len.symm⟩, PostV.here s hp (.int _)⟩
  · rename_i ds
    cases rr with
    | cons h1 h2 =>
      cases h2
      obtain ⟨a, xs, rfl, h1, q⟩ := h1.tup s
      exact ⟨_, ds.length, rfl, .inr ⟨xs, h1, q.len.symm⟩, PostV.here s hp (.int _)⟩
  · rename_i z
    cases rr with
    | cons h1 h2 =>
      cases h2
      cases h1.str
      split at hp
      · rename_i hz
        exact ⟨_, z.length, rfl, ⟨szl hz, rfl⟩, PostV.here s hp (.int _)⟩
      · exact hp.elim
  · exact hp.elim
def oList : List D → VO
  | [.list ds] => .n (.list ds)
  | [.tuple ds] => .n (.list ds)
  | _ => .no
theorem vok_list : VOk K (fun xs H Q => ∃ p ys, xs = [.ref p] ∧ (SqL K H p ys ∨ SqT K H p ys) ∧ ∀ l, H l = none → Q (.ref l) (upd H l (.lst ys))) oList := by
  intro F H vs ds Q s rr hp
  unfold oList at hp
  split at hp
  · rename_i ds
    cases rr with
    | cons h1 h2 =>
      cases h2
      obtain ⟨a, xs, rfl, h1, q⟩ := h1.lst s
      exact ⟨a, xs, rfl, .inl (.inl h1), fun l hl => PostV.lst s hp q hl⟩
  · rename_i ds
    cases rr with
    | cons h1 h2 =>
      cases h2
      obtain ⟨a, xs, rfl, h1, q⟩ := h1.tup s
      exact ⟨a, xs, rfl, .inr h1, fun l hl => PostV.lst s hp q hl⟩
  · exact hp.elim
def oTuple : List D → VO
  | [.list ds] => .v (.tuple ds)
  | [.tuple ds] => .v (.tuple ds)
  | _ => .no
theorem vok_tuple : VOk K (fun xs H Q => ∃ p ys, xs = [.ref p] ∧ ((SqL K H p ys ∧ ∀ l, H l = none → Q (.ref l) (upd H l (.tup ys))) ∨ (SqT K H p ys ∧ Q (.ref p) H))) oTuple := by
  intro F H vs ds Q s rr hp
  unfold oTuple at hp
  split at hp
  · rename_i ds
    cases rr with
    | cons h1 h2 =>
      cases h2
      obtain ⟨a, xs, rfl, h1, q⟩ := h1.lst s
      exact ⟨a, xs, rfl, .inl ⟨.inl h1, fun l hl => PostV.tup s hp q hl⟩⟩
  · rename_i ds
    cases rr with
    | cons h1 h2 =>
      cases h2
      have h0 := h1
      obtain ⟨a, xs, rfl, h1, q⟩ := h1.tup s
      refine ⟨a, xs, rfl, .inr ⟨h1, ?_⟩⟩
      rcases h0 with h0 | ⟨_, _, _, _, h0⟩
      · exact PostV.here s hp h0
      · cases h0
  · exact hp.elim
def oInt : List D → VO
  | [.int i] => .v (.int i)
  | [.bool b] => .v (.int (if b then 1 else 0))
  | _ => .no
theorem vok_int : VOk K (fun xs H Q => (∃ i, xs = [.int i] ∧ Q (.int i) H) ∨ ∃ k : Bool, xs = [.bl k] ∧ Q (.int (if k then 1 else 0)) H) oInt := by
  intro F H vs ds Q s rr hp
  unfold oInt at hp
  split at hp
  · rename_i i
    cases rr with
    | cons h1 h2 =>
      cases h2
      cases h1.int
      exact .inl ⟨i, rfl, PostV.here s hp (.int _)⟩
  · rename_i b
    cases rr with
    | cons h1 h2 =>
      cases h2
      cases h1.bl
      exact .inr ⟨b, rfl, PostV.here s hp (.int _)⟩
  · exact hp.elim
def oAbs : List D → VO
  | [.int i] => .v (.int (if i < 0 then -i else i))
  | _ => .no
theorem vok_abs : VOk K (fun xs H Q => ∃ i, xs = [.int i] ∧ Q (.int (if i < 0 then -i else i)) H) oAbs := by
  intro F H vs ds Q s rr hp
  unfold oAbs at hp
  split at hp
  · rename_i i
    cases rr with
    | cons h1 h2 =>
      cases h2
      cases h1.int
      exact ⟨i, rfl, PostV.here s hp (.int _)⟩
  · exact hp.elim
/-- all bools, all ints, all texts -/
def blsOf : List D → Option (List Bool)
  | [] => some []
  | .bool b :: ds => (match blsOf ds with
    | some bs => some (b :: bs)
    | none => none)
  | _ => none
theorem blsOf_ok : ∀ {vs : List V} {ds : List D} {bs : List Bool}, RpA K F vs ds → blsOf ds = some bs → vs = bs.map V.bl
  | [], _, bs, h, e => by cases h; cases e; rfl
  | v :: vs, d :: ds, bs, h, e => by
    cases h with
    | cons h1 h2 =>
      cases d with
      | bool b =>
        simp only [blsOf] at e
        cases e2 : blsOf ds with
        | none => rw [e2] at e; cases e
        | some bs' =>
          rw [e2] at e
          cases e
          cases h1
          rw [blsOf_ok h2 e2]; rfl
      | _ => simp [blsOf] at e
def intsOf : List D → Option (List Int)
  | [] => some []
  | .int i :: ds => (match intsOf ds with
    | some bs => some (i :: bs)
    | none => none)
  | _ => none
theorem intsOf_ok : ∀ {vs : List V} {ds : List D} {bs : List Int}, RpA K F vs ds → intsOf ds = some bs → vs = bs.map V.int
  | [], _, bs, h, e => by cases h; cases e; rfl
  | v :: vs, d :: ds, bs, h, e => by
    cases h with
    | cons h1 h2 =>
      cases d with
      | int b =>
        simp only [intsOf] at e
        cases e2 : intsOf ds with
        | none => rw [e2] at e; cases e
        | some bs' =>
          rw [e2] at e
          cases e
          cases h1
          rw [intsOf_ok h2 e2]; rfl
      | _ => simp [intsOf] at e
def strsOf : List D → Option (List Str)
  | [] => some []
  | .str x :: ds => (match strsOf ds with
    | some bs => some (x :: bs)
    | none => none)
  | _ => none
theorem strsOf_ok : ∀ {vs : List V} {ds : List D} {bs : List Str}, RpA K F vs ds → strsOf ds = some bs → vs = bs.map V.str
  | [], _, bs, h, e => by cases h; cases e; rfl
  | v :: vs, d :: ds, bs, h, e => by
    cases h with
    | cons h1 h2 =>
      cases d with
      | str b =>
        simp only [strsOf] at e
        cases e2 : strsOf ds with
        | none => rw [e2] at e; cases e
        | some bs' =>
          rw [e2] at e
          cases e
          cases h1
          rw [strsOf_ok h2 e2]; rfl
      | _ => simp [strsOf] at e
theorem blsOf_map (bs : List Bool) : blsOf (bs.map .bool) = some bs := by
  induction bs with
  | nil => rfl
  | cons b bs ih => simp [blsOf, ih]
theorem intsOf_map (bs : List Int) : intsOf (bs.map .int) = some bs := by
  induction bs with
  | nil => rfl
  | cons b bs ih => simp [intsOf, ih]
theorem strsOf_map (bs : List Str) : strsOf (bs.map .str) = some bs := by
  induction bs with
  | nil => rfl
  | cons b bs ih => simp [strsOf, ih]
def oAll : List D → VO
  | [.list ds] => (match blsOf ds with
    | some bs => .v (.bool (bs.all id))
    | none => .no)
  | _ => .no
theorem vok_all : VOk K (rAll K) oAll := by
  intro F H vs ds Q s rr hp
  unfold oAll at hp
  split at hp
  · rename_i ds
    cases rr with
    | cons h1 h2 =>
      cases h2
      obtain ⟨a, xs, rfl, h1, q⟩ := h1.lst s
      cases e : blsOf ds with
      | none => rw [e] at hp; exact hp.elim
      | some bs =>
        rw [e] at hp
        have := blsOf_ok q e
        subst this
        exact ⟨a, bs, rfl, .inl h1, PostV.here s hp (.bl _)⟩
  · exact hp.elim
def oAny : List D → VO
  | [.list ds] => (match blsOf ds with
    | some bs => .v (.bool (bs.any id))
    | none => .no)
  | _ => .no
theorem vok_any : VOk K (rAny K) oAny := by
  intro F H vs ds Q s rr hp
  unfold oAny at hp
  split at hp
  · rename_i ds
    cases rr with
    | cons h1 h2 =>
      cases h2
      obtain ⟨a, xs, rfl, h1, q⟩ := h1.lst s
      cases e : blsOf ds with
      | none => rw [e] at hp; exact hp.elim
      | some bs =>
        rw [e] at hp
        have := blsOf_ok q e
        subst this
        exact ⟨a, bs, rfl, .inl h1, PostV.here s hp (.bl _)⟩
  · exact hp.elim
def oSum : List D → VO
  | [.list ds] => (match intsOf ds with
    | some bs => .v (.int bs.sum)
    | none => .no)
  | _ => .no
theorem vok_sum : VOk K (rSum K) oSum := by
  intro F H vs ds Q s rr hp
  unfold oSum at hp
  split at hp
  · rename_i ds
    cases rr with
    | cons h1 h2 =>
      cases h2
      obtain ⟨a, xs, rfl, h1, q⟩ := h1.lst s
      cases e : intsOf ds with
      | none => rw [e] at hp; exact hp.elim
      | some bs =>
        rw [e] at hp
        have := intsOf_ok q e
        subst this
        exact ⟨a, bs, rfl, .inl h1, PostV.here s hp (.int _)⟩
  · exact hp.elim

/-! ### isinstance -/
def tyN : D → String
  | .none => "NoneType"
  | .bool _ => "bool"
  | .int _ => "int"
  | .str _ => "str"
  | .list _ => "list"
  | .tuple _ => "tuple"
  | .dict _ => "dict"
def isD : D → Bool
  | .dict _ => true
  | _ => false
theorem tyN_ok {v : V} {d : D} (s : Same F H) (h : Rr K F H v d) (hd : isD d = false) : TyX K H v (.type (tyN d)) := by
  cases d with
  | none => cases h.non; exact .base .non
  | bool b => cases h.bl; exact .base (.bl _)
  | int i => cases h.int; exact .base (.int _)
  | str x => cases h.str; exact .base (.str _)
  | list ds =>
    obtain ⟨a, xs, rfl, h1, q⟩ := h.lst s
    rcases h1 with h1 | ⟨o, h1⟩
    · exact .base (.lst h1)
    · exact .base (.frz h1)
  | tuple ds =>
    obtain ⟨a, xs, rfl, h1, q⟩ := h.tup s
    rcases h1 with (h1 | ⟨o, h1⟩) | ⟨o, _, _, h1, h2, _⟩
    · exact .base (.tup h1)
    · exact .fTuple h1
    · exact .kTuple h1 h2
  | dict es => cases hd
def rIsi1 (K : PySem.W.Frag) (T : String) : List V → Hp → VK → Prop := fun vs H Q => match vs with
  | [x] => rIsi K [x, .ty T] H Q
  | _ => False
def oIsi (T : String) : List D → VO
  | [d] => if isD d = true then .no else (match kitB (tyN d) T with
    | some b => .v (.bool b)
    | none => .no)
  | _ => .no
theorem vok_isi {T : String} : VOk K (rIsi1 K T) (oIsi T) := by
  intro F H vs ds Q s rr hp
  unfold oIsi at hp
  split at hp
  · rename_i d
    cases rr with
    | cons h1 h2 =>
      cases h2
      split at hp
      · exact hp.elim
      · rename_i hd
        cases e : kitB (tyN d) T with
        | none => rw [e] at hp; exact hp.elim
        | some b =>
          rw [e] at hp
          exact ⟨_, .ty T, .type (tyN d), .type T, b, rfl, .ty T, tyN_ok s h1 (by simpa using hd), kit_ty e, PostV.here s hp (.bl _)⟩
  · exact hp.elim
end
section
variable {X : Cx} {c : Cfg} {W : XK}
theorem dx_isi {T : String} {x : Str} {e : Expr} {d : DE} {p pt pos : Pos} (hK : c.K = X.K) (hm : X.mg "isinstance" = none) (hm2 : X.mg x = none) (he : DX X c W e d) (hg : Gl X "isinstance" := by rfl) (hg2 : Gl X x := by rfl) (hb : bootBuiltins x = some (.type T) := by decide +kernel)
    (hn : x ≠ "__name__" := by decide) (hdb : (x == ("__debug__" : Str)) = false := by decide)
    (hs1 : starEach [e, .Name x pt] X.env = (false, eval e X.env) :: starEach [.Name x pt] X.env := by rfl) (hs2 : starEach [.Name x pt] X.env = (false, eval (.Name x pt) X.env) :: starEach [] X.env := by rfl) (hpl : (backTo pos (starEach [.Name x pt] X.env)).any (·.1) = false := by rfl) :
    DX X c W (.Call (.Name "isinstance" p) [e, .Name x pt] [] pos) (dOp (oIsi T) (daC d daN)) := by
  obtain ⟨t, pe, re⟩ := he
  have q := re_op (c := c) (W := W) (vok_isi (K := c.K) (T := T)) (ra_cons re ra_nil)
  rw [hK] at q
  refine ⟨_, pe_callB call_isi hg hm (by decide +kernel) (pa_cons pe (pa_cons (pe_bltn (v := .ty T) hg2 hm2 hb rfl hn hdb) pa_nil hs2) hs1) (by decide) (by decide) hs1 hpl, fun τ σ ρ F H Q hl r h => ?_⟩
  exact q τ σ ρ F H Q hl r h

/-! ### methods of texts -/
def rM (r : V → List V → Hp → VK → Prop) : List V → Hp → VK → Prop := fun vs H Q => match vs with
  | x :: xs => r x xs H Q
  | [] => False
def isStr : D → Bool
  | .str _ => true
  | _ => false
/-- the receiver is a text as soon as it is reckoned -/
def dStr (d : DE) : DE := fun ρ => match d ρ with
  | .ok (.t (.val (.str x))) ρ1 => .ok (.t (.val (.str x))) ρ1
  | .ex x ρ1 => .ex x ρ1
  | _ => .no
theorem re_str {te : TE} {d : DE} (he : RE c W te d) : RE c W (fun σ H Q => te σ H fun x H1 => (∃ a, x = .str a) ∧ Q x H1) (dStr d) := by
  intro τ σ ρ F H Q hl r h
  unfold dStr at h
  refine he τ σ ρ F H _ hl r ?_
  cases e : d ρ with
  | no => rw [e] at h; exact h.elim
  | ex x ρ1 => rw [e] at h; exact h
  | ok o ρ1 =>
    rw [e] at h
    cases o with
    | p i => exact h.elim
    | t s =>
      cases s with
      | no => exact h.elim
      | own d' => exact h.elim
      | val d' =>
        cases d' with
        | str i =>
          intro v F1 H1 hl1 r1
          have q : Rp c.K F1 v (.str i) := r1.ok _ List.mem_cons_self
          cases q
          exact ⟨⟨i, rfl⟩, h (.str i) F1 H1 hl1 r1⟩
        | _ => exact h.elim
theorem dx_m1 {id : String} {name : Str} {o e : Expr} {d de : DE} {r : V → List V → Hp → VK → Prop} {f : List D → VO} {apos pos : Pos} (slot : Slot "str" name id) (ty : typeOf (.builtin id) = pure (.type "method_descriptor")) (rule : MtR X id r) (hv : VOk c.K (rM r) f) (ho : DX X c W o d) (he : DX X c W e de)
    (hs : starEach [e] X.env = [(false, eval e X.env)] := by rfl) (hbase : attributeBase o name X.env (eval o X.env) = eval o X.env := by rfl) (hline : (apos.endLine == pos.line) = true := by rfl) :
    DX X c W (.Call (.Attribute o name apos) [e] [] pos) (dOp f (daC (dStr d) (daC de daN))) := by
  obtain ⟨t, p, q⟩ := ho
  obtain ⟨t2, p2, q2⟩ := he
  have k := re_op (c := c) (W := W) hv (ra_cons (re_str q) (ra_cons q2 ra_nil))
  refine ⟨_, pe_m1 slot ty rule p p2 hs hbase hline, fun τ σ ρ F H Q hl r h => ?_⟩
  have k' := k τ σ ρ F H Q hl r h
  exact k'
def oJoin : List D → VO
  | [.str a, .list ds] => (match strsOf ds with
    | some ys => if (ys.map (·.length)).sum + ys.length * a.length ≤ 100000 then .v (.str (Txt.join a ys)) else .no
    | none => .no)
  | _ => .no
theorem vok_join {K : PySem.W.Frag} : VOk K (rM fun x xs H Q => ∃ a p, ∃ ys : List Str, x = .str a ∧ xs = [.ref p] ∧ (SqL K H p (ys.map V.str) ∨ SqT K H p (ys.map V.str)) ∧
    (ys.map (·.length)).sum + ys.length * a.length ≤ 16777216 ∧ Q (.str (Txt.join a ys)) H) oJoin := by
  intro F H vs ds Q s rr hp
  unfold oJoin at hp
  split at hp
  · rename_i a ds
    cases rr with
    | cons h1 h2 =>
      cases h2 with
      | cons h2 h3 =>
        cases h3
        cases h1.str
        obtain ⟨p, xs, rfl, h1, q⟩ := h2.lst s
        cases e : strsOf ds with
        | none => rw [e] at hp; exact hp.elim
        | some ys =>
          rw [e] at hp
          simp only at hp
          split at hp
          · rename_i hz
            have := strsOf_ok q e
            subst this
            exact ⟨a, p, ys, rfl, rfl, .inl (.inl h1), by omega, PostV.here s hp (.str _)⟩
          · exact hp.elim
  · exact hp.elim
def oSplit : List D → VO
  | [.str a, .str b] => if b.length ≠ 0 ∧ a.length ≤ 100000 then .n (.list ((Txt.split a b).map .str)) else .no
  | _ => .no
theorem RpA.strs {K : PySem.W.Frag} {F : Hp} : ∀ xs : List Str, RpA K F (xs.map V.str) (xs.map PyData.str)
  | [] => .nil
  | x :: xs => .cons (.str x) (RpA.strs xs)
theorem vok_split {K : PySem.W.Frag} : VOk K (rM fun x xs H Q => ∃ a b, x = .str a ∧ xs = [.str b] ∧ (b.length == 0) = false ∧ a.length + 2 ≤ sizeLine ∧ rNewStrs (Txt.split a b) H Q) oSplit := by
  intro F H vs ds Q s rr hp
  unfold oSplit at hp
  split at hp
  · rename_i a b
    cases rr with
    | cons h1 h2 =>
      cases h2 with
      | cons h2 h3 =>
        cases h3
        cases h1.str
        cases h2.str
        split at hp
        · rename_i hz
          refine ⟨a, b, rfl, rfl, by simpa using hz.1, by rw [sizeLine_eq]; omega, fun p hp' => PostV.lst s hp (RpA.strs _) hp'⟩
        · exact hp.elim
  · exact hp.elim
def oSIndex : List D → VO
  | [.str a, .str b] => (match Builtin.Str.occurrences a b 0 a.length 1 with
    | i :: _ => .v (.int (i : Nat))
    | [] => .no)
  | _ => .no
theorem vok_sindex {K : PySem.W.Frag} : VOk K (rM fun x xs H Q => ∃ a b i rest, x = .str a ∧ xs = [.str b] ∧ Builtin.Str.occurrences a b 0 a.length 1 = i :: rest ∧ Q (.int (i : Nat)) H) oSIndex := by
  intro F H vs ds Q s rr hp
  unfold oSIndex at hp
  split at hp
  · rename_i a b
    cases rr with
    | cons h1 h2 =>
      cases h2 with
      | cons h2 h3 =>
        cases h3
        cases h1.str
        cases h2.str
        cases e : Builtin.Str.occurrences a b 0 a.length 1 with
        | nil => rw [e] at hp; exact hp.elim
        | cons i rest =>
          rw [e] at hp
          exact ⟨a, b, i, rest, rfl, rfl, e, PostV.here s hp (.int _)⟩
  · exact hp.elim

/-! ### an own exception class whose __init__ keeps its arguments; raise -/
def spI (K : PySem.W.Frag) (C : Addr) (fns : List Str) : Sp := fun vs H Q _ => ∃ (a : Addr) (ys : List V), vs = .ref a :: ys ∧ ys.length = fns.length ∧ H a = some (exo a C none) ∧
  ∀ (dx : Addr) (H2 : Hp), H dx = none → dx ≠ a → H2 a = some (exo a C (some dx)) → H2 dx = some (exd dx (fns.zip ys).reverse) → (∀ b, b ≠ a → b ≠ dx → H2 b = H b) → Q .non H2
structure ExcK (X : Cx) (x : Str) (C : Addr) (k : Nat) (fns : List Str) : Prop where
  ex : ∃ (fI : Addr) (fd : FuncData) (ps : List Str), OexC X.K C ∧ PySem.W.findIn X.K (.ref C) "__init__" = some (some (.ref fI)) ∧ PySem.W.typeIn X.K (.ref fI) = some (.type "function") ∧ FnOk X.prog X.w X.K X.mg X.base (L2.CX X.prog X.w) k fI fd ps (spI X.K C fns) ∧ Binds X.K fd ps [] ∧ X.mg x = some (.ref C)
def sRaise (x : Str) (fns : List Str) (da : DAs) : DS := fun ρ => match da ρ with
  | .ok os ρ1 => (match frzA ρ1 os with
    | some (ds, ρ2) => .ex ⟨x, (fns.zip ds).reverse⟩ ρ2
    | none => .no)
  | .ex x ρ1 => .ex x ρ1
  | .no => .no
theorem zip_fst {α β : Type} : ∀ (xs : List α) (ys : List β), xs.length = ys.length → (xs.zip ys).map (·.1) = xs
  | [], [], _ => rfl
  | x :: xs, y :: ys, h => by simp [zip_fst xs ys (by simpa using h)]
  | [], _ :: _, h => by simp at h
  | _ :: _, [], h => by simp at h
theorem zip_snd {α β : Type} : ∀ (xs : List α) (ys : List β), xs.length = ys.length → (xs.zip ys).map (·.2) = ys
  | [], [], _ => rfl
  | x :: xs, y :: ys, h => by simp [zip_snd xs ys (by simpa using h)]
  | [], _ :: _, h => by simp at h
  | _ :: _, [], h => by simp at h
theorem rs_raise {x : Str} {C : Addr} {fns : List Str} {ta : TA} {da : DAs} (hm : c.mg x = some (.ref C)) (hl' : daLen da fns.length) (hz : fns.length ≤ 1000) (ha : RA c W ta da) : RS c W (fun _ σ H => tMkO C (spI c.K C fns) [] ta σ H fun cls d H' => W cls d H') (sRaise x fns da) := by
  intro τ σ ρ F H Dn hl hp r h
  unfold sRaise at h
  refine ha τ σ ρ F H _ hl r ?_
  cases e : da ρ with
  | no => rw [e] at h; exact h.elim
  | ex x ρ1 => rw [e] at h; exact PostX'.of hp h
  | ok os ρ1 =>
    rw [e] at h
    intro vs F1 H1 hl1 hh r1
    simp only at h
    cases e1 : frzA ρ1 os with
    | none => rw [e1] at h; exact h.elim
    | some p =>
      obtain ⟨ds, ρ2⟩ := p
      rw [e1] at h
      obtain ⟨F2, s2, hl2, q, r2⟩ := R.frzA hl1 hh r1 e1
      have hv : vs.length = fns.length := by rw [← Held.len os vs hh]; exact hl' _ _ _ e
      refine ⟨by omega, fun a hna => ⟨a, vs, by rw [List.append_nil], hv, upd_same, fun dx H2 hdx ne ea ed ho => ⟨rfl, dx, _, ea, ed, ?_, ?_⟩⟩⟩
      · rw [upd_ne ne] at hdx; exact hdx
      · have hd1 : H1 dx = none := by rw [upd_ne ne] at hdx; exact hdx
        have eH : upd (del H2 a) dx (.xd (fns.zip vs).reverse) = upd H1 dx (.xd (fns.zip vs).reverse) := by
          funext b
          by_cases hb : b = dx
          · subst hb; rw [upd_same, upd_same]
          · rw [upd_ne hb, upd_ne hb]
            by_cases hba : b = a
            · subst hba; rw [del_same]; exact hna.symm
            · rw [del_ne hba, ho b hba hb, upd_ne hba]
        rw [eH]
        have g := Grow.new1 (o := .xd (fns.zip vs).reverse) r2.sub hd1
        have hl2' := q.len
        refine h (.ref C) (some dx) σ F2 _ hl2 hp ⟨hm, dx, _, rfl, upd_same, ?_, ?_⟩ (r2.grow g)
        · rw [List.map_reverse, List.map_reverse, zip_fst _ _ hv.symm, zip_fst _ _ (by omega)]
        · rw [List.map_reverse, List.map_reverse, zip_snd _ _ hv.symm, zip_snd _ _ (by omega)]
          exact q.rev
theorem ds_raise {x : Str} {C : Addr} {k : Nat} {fns : List Str} {e : Expr} {es : List Expr} {da : DAs} {p pos pos2 : Pos} (T : ExcK X x C k fns) (hK : c.K = X.K) (hmg : c.mg = X.mg) (hr : Room (k + 1) X.A) (hx : Passes (L2.CX X.prog X.w) X WF) (tk : Takes X (fun cls d _ H => W cls d H)) (hc : X.calm = true) (ha : DXA X c W (e :: es) da) (hl : daLen da fns.length) (hz : fns.length ≤ 1000 := by decide) (hg : Gl X x := by rfl)
    (hdb : (x == ("__debug__" : Str)) = false := by decide) (he : starEach (e :: es) X.env = (false, eval e X.env) :: starEach es X.env := by rfl) (hpl : (backTo pos (starEach es X.env)).any (·.1) = false := by rfl) :
    DSt X c W (.Raise (some (.Call (.Name x p) (e :: es) [] pos)) none pos2) (sRaise x fns da) := by
  obtain ⟨t, pa, ra⟩ := ha
  obtain ⟨fI, fd, ps, h1, h2, h3, h4, h5, h6⟩ := T.ex
  have q := rs_raise (x := x) (C := C) (fns := fns) (by rw [hmg]; exact h6) hl hz ra
  rw [hK] at q
  exact ⟨_, ps_raise hc tk (pmk_oex h1 h2 h3 h4 hr h5 .nil hx hg h6 pa hdb he hpl), q⟩
end
end PD

set_option Elab.async false
set_option linter.all false
set_option maxRecDepth 100000
set_option maxHeartbeats 2000000
/-! PdJ: calls with keywords; an exception's class; try; the lambda that is refused; the law itself. -/
namespace PD
open PySem PySem.Spec PyProof.Rows L2
section
variable {X : Cx} {c : Cfg} {W : XK} {F H : Hp}
/-! ### keywords -/
def kb {α : Type} (n m : Nat) (us ws : List α) : List α := if us.length = n ∧ ws.length = m then us ++ ws else []
theorem kb_eq {α : Type} {n m : Nat} {us ws : List α} (h1 : us.length = n) (h2 : ws.length = m) : kb n m us ws = us ++ ws := if_pos ⟨h1, h2⟩
theorem kbinds_mk {K : PySem.W.Frag} {fd : FuncData} {ps ks : List Str} {n m : Nat} (hp : ps ≠ []) (h : ∀ (s : Shared) (us ws : List Value), us.length = n → ws.length = m → BindsTo s fd ⟨us, ks.zip ws⟩ (ps.zip (us ++ ws))) : KBinds K fd ps ks (kb n m) (kb n m) where
  to := fun s us ws _ hl => by
    by_cases hz : us.length = n ∧ ws.length = m
    · rw [kb_eq hz.1 hz.2]; exact h s us ws hz.1 hz.2
    · unfold kb at hl
      rw [if_neg hz] at hl
      cases ps with
      | nil => exact absurd rfl hp
      | cons p ps => cases hl
  rel := fun {vs us zs ws} r1 r2 => by
    unfold kb
    rw [r1.length, r2.length]
    by_cases hz : us.length = n ∧ ws.length = m
    · rw [if_pos hz, if_pos hz]; exact r1.append r2
    · rw [if_neg hz, if_neg hz]; exact .nil
structure CalK (X : Cx) (x : Str) (k : Nat) (ps : List Str) (sp : Sp) (n m : Nat) (ks : List Str) : Prop where
  ex : ∃ (f : Addr) (fd : FuncData), FnOk X.prog X.w X.K X.mg X.base (L2.CX X.prog X.w) k f fd ps sp ∧ X.mg x = some (.ref f) ∧ PySem.W.keepIn X.K (.ref f) = true ∧ KBinds X.K fd ps ks (kb n m) (kb n m)
def daApp (da dk : DAs) : DAs := fun ρ => match da ρ with
  | .ok os ρ1 => (match dk ρ1 with
    | .ok os' ρ2 => .ok (os ++ os') ρ2
    | .ex x ρ2 => .ex x ρ2
    | .no => .no)
  | .ex x ρ1 => .ex x ρ1
  | .no => .no
theorem daLen_app {da dk : DAs} {n m : Nat} (h1 : daLen da n) (h2 : daLen dk m) : daLen (daApp da dk) (n + m) := fun ρ os ρ1 e => by
  unfold daApp at e
  cases e1 : da ρ with
  | no => rw [e1] at e; cases e
  | ex x ρ2 => rw [e1] at e; cases e
  | ok os1 ρ2 =>
    rw [e1] at e
    simp only at e
    cases e2 : dk ρ2 with
    | no => rw [e2] at e; cases e
    | ex x ρ3 => rw [e2] at e; cases e
    | ok os2 ρ3 =>
      rw [e2] at e
      cases e
      rw [List.length_append, h1 _ _ _ e1, h2 _ _ _ e2]
theorem Held.app {σ : L2.St} : ∀ {os os' : List Od} {vs vs' : List V}, Held σ os vs → Held σ os' vs' → Held σ (os ++ os') (vs ++ vs')
  | [], _, [], _, _, k => k
  | .t s :: os, _, v :: vs, _, h, k => by
    have h' : Held σ os vs := h
    exact Held.app (os := os) (vs := vs) h' k
  | .p i :: os, _, v :: vs, _, h, k => ⟨h.1, Held.app (os := os) (vs := vs) h.2 k⟩
  | [], _, _ :: _, _, h, _ => h.elim
  | .t s :: os, _, [], _, h, _ => h.elim
  | .p i :: os, _, [], _, h, _ => h.elim
theorem temps_app {σ : L2.St} : ∀ {os os' : List Od} {vs vs' : List V}, Held σ os vs → temps (os ++ os') (vs ++ vs') = temps os vs ++ temps os' vs'
  | [], _, [], _, _ => rfl
  | .t s :: os, _, v :: vs, _, h => by
    have h' : Held σ os vs := h
    show _ :: temps (os ++ _) (vs ++ _) = _ :: (temps os vs ++ _)
    rw [temps_app h']
  | .p i :: os, _, v :: vs, _, h => by
    show temps (os ++ _) (vs ++ _) = temps os vs ++ _
    exact temps_app h.2
  | [], _, _ :: _, _, h => h.elim
  | .t s :: os, _, [], _, h => h.elim
  | .p i :: os, _, [], _, h => h.elim
theorem ra_app {n m : Nat} {ta tk : TA} {da dk : DAs} (h1 : daLen da n) (h2 : daLen dk m) (ha : RA c W ta da) (hk : RA c W tk dk) : RA c W (fun σ H Q => ta σ H fun vs H1 => tk σ H1 fun zs H2 => Q (kb n m vs zs) H2) (daApp da dk) := by
  intro τ σ ρ F H Q hl r h
  unfold daApp at h
  refine ha τ σ ρ F H _ hl r ?_
  cases e : da ρ with
  | no => rw [e] at h; exact h.elim
  | ex x ρ1 => rw [e] at h; exact h
  | ok os ρ1 =>
    rw [e] at h
    simp only at h
    intro vs F1 H1 hl1 hh r1
    refine hk (temps os vs ++ τ) σ ρ1 F1 H1 _ hl1 (by rw [List.append_assoc]; exact r1) ?_
    cases e2 : dk ρ1 with
    | no => rw [e2] at h; exact h.elim
    | ex x ρ2 =>
      rw [e2] at h
      exact fun cls dd F' H' hl' xr r' => h cls dd F' H' hl' xr (by rw [List.append_assoc] at r'; exact r'.dropTemps)
    | ok os2 ρ2 =>
      rw [e2] at h
      intro zs F2 H2 hl2 hh2 r2
      have k := h (vs ++ zs) F2 H2 hl2 (hh.app hh2) (by
        rw [temps_app hh]
        refine r2.permL ?_
        rw [List.append_assoc, List.append_assoc, ← List.append_assoc, ← List.append_assoc (temps os vs)]
        exact List.perm_append_comm.append_right _)
      show Q (kb n m vs zs) H2
      rw [kb_eq (by rw [← Held.len os vs hh]; exact h1 _ _ _ e) (by rw [← Held.len os2 zs hh2]; exact h2 _ _ _ e2)]
      exact k
theorem re_callK {n m : Nat} {f : List D → FO} {ta tk : TA} {da dk : DAs} (h1 : daLen da n) (h2 : daLen dk m) (ha : RA c W ta da) (hk : RA c W tk dk) : RE c W (tCallK (spP c.K c.mg false (n + m) f) (kb n m) W ta tk) (dCall f (daApp da dk)) := by
  intro τ σ ρ F H Q hl r h
  have q := re_call (f := f) (daLen_app h1 h2) (ra_app h1 h2 ha hk) τ σ ρ F H Q hl r h
  unfold tCallK
  unfold tCall at q
  simpa only [List.append_nil] using q
theorem dx_callK {x : Str} {k n m : Nat} {ps ks : List Str} {f : List D → FO} {e : Expr} {es : List Expr} {kws : List Keyword} {da dk : DAs} {p pos : Pos} (G : CalK X x k ps (spP X.K X.mg false (n + m) f) n m ks) (hK : c.K = X.K) (hmg : c.mg = X.mg) (hr : Room k X.A) (hx : Passes (L2.CX X.prog X.w) X W) (ha : DXA X c W (e :: es) da) (hl : daLen da n)
    (hk : DXK X c W kws dk) (hl2 : daLen dk m) (hg : Gl X x := by rfl) (hall : (backToKw pos (keywordEach kws X.env)).all (·.1.isSome) = true := by rfl) (hks : (backToKw pos (keywordEach kws X.env)).filterMap (·.1) = ks := by rfl)
    (hdb : (x == ("__debug__" : Str)) = false := by decide) (he : starEach (e :: es) X.env = (false, eval e X.env) :: starEach es X.env := by rfl)
    (hpl : ((backTo pos (starEach (e :: es) X.env)).any (·.1) || (backToKw pos (keywordEach kws X.env)).any (·.1.isNone)) = false := by rfl) : DX X c W (.Call (.Name x p) (e :: es) kws pos) (dCall f (daApp da dk)) := by
  obtain ⟨t, pa, ra⟩ := ha
  obtain ⟨t2, pk, rk⟩ := hk
  obtain ⟨fa, fd, h1, h2, h3, h4⟩ := G.ex
  have q := re_callK (f := f) hl hl2 ra rk
  rw [hK, hmg] at q
  exact ⟨_, pe_callK h1 hr hg h2 h3 h4 hx pa pk hall hks hdb he hpl, q⟩
theorem pe_callK0 {CX : CXT} {k : Nat} {f : Addr} {fd : FuncData} {ps ks : List Str} {sp : Sp} {E : XK} {x : Str} {p pos : Pos} {kws : List Keyword} {tk : TA} {g : List Value → List Value → List Value} {gV : List V → List V → List V} (F : FnOk X.prog X.w X.K X.mg X.base CX k f fd ps sp) (hr : Room k X.A) (hg : Gl X x) (hm : X.mg x = some (.ref f)) (hk : PySem.W.keepIn X.K (.ref f) = true) (hb : KBinds X.K fd ps ks g gV) (hx : Passes CX X E)
    (hkw : PK X kws tk) (hall : (backToKw pos (keywordEach kws X.env)).all (·.1.isSome) = true := by rfl) (hks : (backToKw pos (keywordEach kws X.env)).filterMap (·.1) = ks := by rfl)
    (hdb : (x == ("__debug__" : Str)) = false := by decide)
    (hpl : ((backTo pos (starEach [] X.env)).any (·.1) || (backToKw pos (keywordEach kws X.env)).any (·.1.isNone)) = false := by rfl) :
    PE X (.Call (.Name x p) [] kws pos) (tCallK sp gV E tNil tk) := by
  refine ⟨fun pins s σ H Q I h => ?_⟩
  refine wpAny_Call_Name_kw (ld_glob I hg hm ?_ hdb)
  refine PySem.W.callWith_KW0 (h₀ := X.base) I.ok.mod.kin hk hall ?_ hpl
  refine thn (hkw.run pos pins s σ H _ I h) fun ws s2 ⟨zs, H2, I2, rz, q2⟩ => ⟨I2.kIn, ?_⟩
  rw [hks]
  exact run_fnk (us := []) (vs := []) F hr hb hx I2 .nil rz q2
theorem dx_callK0 {x : Str} {k m : Nat} {ps ks : List Str} {f : List D → FO} {kws : List Keyword} {dk : DAs} {p pos : Pos} (G : CalK X x k ps (spP X.K X.mg false (0 + m) f) 0 m ks) (hK : c.K = X.K) (hmg : c.mg = X.mg) (hr : Room k X.A) (hx : Passes (L2.CX X.prog X.w) X W)
    (hk : DXK X c W kws dk) (hl2 : daLen dk m) (hg : Gl X x := by rfl) (hall : (backToKw pos (keywordEach kws X.env)).all (·.1.isSome) = true := by rfl) (hks : (backToKw pos (keywordEach kws X.env)).filterMap (·.1) = ks := by rfl)
    (hdb : (x == ("__debug__" : Str)) = false := by decide)
    (hpl : ((backTo pos (starEach [] X.env)).any (·.1) || (backToKw pos (keywordEach kws X.env)).any (·.1.isNone)) = false := by rfl) : DX X c W (.Call (.Name x p) [] kws pos) (dCall f (daApp daN dk)) := by
  obtain ⟨t2, pk, rk⟩ := hk
  obtain ⟨fa, fd, h1, h2, h3, h4⟩ := G.ex
  have q := re_callK (f := f) (c := c) (W := W) daLen_nil hl2 ra_nil rk
  rw [hK, hmg] at q
  exact ⟨_, pe_callK0 h1 hr hg h2 h3 h4 hx pk hall hks hdb hpl, q⟩

/-! ### one reading for all contexts -/
def tCan (c : Cfg) (W : XK) (d : DE) : TE := fun σ H Q => ∃ τ ρ F, σ.length = ρ.length ∧ R c F (τ ++ σ.zip ρ) H ∧ PostE c W τ σ Q (d ρ)
theorem DX.can {e : Expr} {d : DE} (h : DX X c W e d) : PE X e (tCan c W d) := by
  obtain ⟨t, p, q⟩ := h
  exact PD.PE.anti p fun σ H Q ⟨τ, ρ, F, hl, r, k⟩ => q τ σ ρ F H Q hl r k
def tCanA (c : Cfg) (W : XK) (d : DAs) : TA := fun σ H Q => ∃ τ ρ F, σ.length = ρ.length ∧ R c F (τ ++ σ.zip ρ) H ∧ PostA c W τ σ Q (d ρ)
theorem ra_can {d : DAs} : RA c W (tCanA c W d) d := fun τ σ ρ F H Q hl r h => ⟨τ, ρ, F, hl, r, h⟩
theorem DXA.can {es : List Expr} {d : DAs} (h : DXA X c W es d) : PA X es (tCanA c W d) := by
  obtain ⟨t, p, q⟩ := h
  exact ⟨fun pos pins s σ H Q I ⟨τ, ρ, F, hl, r, k⟩ => p.run pos pins s σ H Q I (q τ σ ρ F H Q hl r k)⟩

/-! ### an exception's fields -/
theorem lookup_rel {K : PySem.W.Frag} {f : Str} {dv : D} : ∀ {fs : List (Str × V)} {ds : List (Str × D)}, fs.map (·.1) = ds.map (·.1) → RpA K F (fs.map (·.2)) (ds.map (·.2)) → ds.lookup f = some dv → ∃ v, fs.lookup f = some v ∧ Rp K F v dv
  | [], [], _, _, h => by cases h
  | (a, v) :: fs, (b, d) :: ds, e, r, h => by
    simp only [List.map_cons, List.cons.injEq] at e
    obtain ⟨e1, e2⟩ := e
    subst e1
    cases r with
    | cons r1 r2 =>
      by_cases hf : (f == a) = true
      · have h' : some d = some dv := by simpa only [List.lookup, hf] using h
        cases h'
        exact ⟨v, by simp only [List.lookup, hf], r1⟩
      · have hf' : (f == a) = false := by simpa using hf
        have h' : ds.lookup f = some dv := by simpa only [List.lookup, hf'] using h
        obtain ⟨u, e3, e4⟩ := lookup_rel e2 r2 h'
        exact ⟨u, by simp only [List.lookup, hf']; exact e3, e4⟩
  | [], _ :: _, e, _, _ => by cases e
  | _ :: _, [], e, _, _ => by cases e
/-- what the written part says of an own class of exceptions, the names of its fields fns -/
structure ExcF (K : PySem.W.Frag) (mg : Str → Option Value) (cn : Str) (C : Addr) (fns : List Str) : Prop where
  gC : mg cn = some (.ref C)
  te : PySem.W.exmOne K (.ref C) (.ref C) = some true
  xf : XfC K C
  no : ∀ f ∈ fns, PySem.W.findIn K (.ref C) f = some none
end

/-! ### _law_refused -/
def TTr (CS : Addr) (f ret : Str) : (XK → Hp → VK → Prop) → Hp → VK → Prop := fun tl H Q =>
  tl (fun cls d H' => cls = .ref CS ∧ ∃ (dd : Addr) (fs : List (Str × V)) (v : V), d = some dd ∧ H' dd = some (.xd fs) ∧ fs.lookup f = some v ∧ Q v H') H (fun _ H' => Q (.str ret) H')
def refBody (a e n f ret : Str) (j : Nat) (p1 p2 p3 p4 p5 p6 p7 p8 p9 p10 p11 : Pos) : List Stmt :=
  [.Try [.Expr (.Call (.Name a p1) [] [] p2) p3] [.ExceptHandler (some (.Name e p4)) (some n) [.Return (some (.Attribute (.Name n p5) f p6)) p7] p8] [] [] p9, .Return (some (.Constant (.str ret) j p10)) p11]
section
variable {X : Cx}
theorem ref_gives {Ng : List Str} {x a e n f q ret : Str} {fns : List Str} {sg : Scope} {g CS : Addr} {cdg : Value} {j : Nat} {p1 p2 p3 p4 p5 p6 p7 p8 p9 p10 p11 : Pos} (T : ExcF X.K X.mg e CS fns) (hf : f ∈ fns) (nd : Ng.Nodup) (hN1 : Ng[1]? = some n) (hln : sg.names.lookup n = some .local) (hge : sg.names.lookup e = some .globalImplicit)
    (hde : (e == ("__debug__" : Str)) = false) (hdn : (n == ("__debug__" : Str)) = false) (hcn : (n == ("__classdict__" : Str)) = false) (h0 : ∀ f : Addr, (L2.start Ng [V.ref f])[0]? = some (some (V.ref f)))
    (hb : ∀ (X' : Cx) (p5 : Pos), X'.N = Ng → attributeBase (.Name n p5) f X'.env (eval (.Name n p5) X'.env) = eval (.Name n p5) X'.env) :
    LamX.GivesTo X Ng x sg g cdg (refBody a e n f ret j p1 p2 p3 p4 p5 p6 p7 p8 p9 p10 p11) a q (TTr CS f ret) := by
  intro f' c' s H Q tl act hc h
  have hgl : Gl (cxOf C8.CX0 X.prog X.w X.K X.mg X.base Ng x sg g cdg X.A X.stack s H C8.E0).nox e := hge
  refine ⟨_, pss_cons (ps_try_as (X := (cxOf C8.CX0 X.prog X.w X.K X.mg X.base Ng x sg g cdg X.A X.stack s H C8.E0).nox) (c := .ref CS) (i := 1)
      (tb := fun W D σ H => ∃ Ech : XK, (∀ cls d σ' H', σ'.length = Ng.length → Ech cls d H' → W cls d σ' H') ∧ σ[0]? = some (some (.ref f')) ∧ H c' = some (LamX.CodeO c' q) ∧ tl Ech H fun _ H' => D.nx σ H')
      (ts := fun a cls d => tRet (tXf a cls d CS f (tVar 1)))
      rfl rfl nd hN1 hln ⟨hgl, hde, .inl T.gC⟩ LamX.takes0 (fun W pn xe tk _ => ?_) (fun a oe cls d pn hz hfl => pss_one (ps_ret (pe_xf T.xf (T.no f hf) hz hfl (pe_var hN1 (.inl hln) hdn hcn) (hb _ _ rfl))))) (pss_one (ps_ret pe_str)), ?_⟩
  · refine ⟨fun pins s' σ H' D I h' => ?_⟩
    obtain ⟨Ech, hW, h1, h2, h3⟩ := h'
    have tk' : Takes ((cxOf C8.CX0 X.prog X.w X.K X.mg X.base Ng x sg g cdg X.A X.stack s H C8.E0).tr pn xe) (fun cls d _ H => Ech cls d H) := fun u s1 ⟨a, B, sI, pins, σ, H, cls, d, eu, I, nb, up, sky, na, os, ag, w⟩ =>
      tk u s1 ⟨a, B, sI, pins, σ, H, cls, d, eu, I, nb, up, sky, na, os, ag, hW _ _ _ _ I.len w⟩
    have hp := act (fun cls d _ H => Ech cls d H) pn xe Ech p1 p2 tk' (fun _ _ _ _ h => h)
    have hq := pss_one (ps_expr (pos := p3) hp)
    exact hq.run pins s' σ H' D I ⟨h1, h2, h3⟩
  · refine ⟨_, fun cls d σ' H' hl ⟨e1, dd, fs, v, e2, e3, e4, e5⟩ => ⟨true, by rw [e1]; exact T.te, fun _ a na => ?_, fun hz => by cases hz⟩, h0 f', hc, h⟩
    refine ⟨.ref a, ?_, rfl, e1, dd, fs, v, e2, e3, e4, e5⟩
    have : 1 < Ng.length := (List.getElem?_eq_some_iff.mp hN1).1
    simp [hl, this]
end
def dRef (cn f ret : Str) (d : DE) : DE := fun ρ => match d ρ with
  | .ok (.t _) ρ1 => .ok (.t (.val (.str ret))) ρ1
  | .ex x ρ1 => if x.cls = cn then (match x.fs.lookup f with
    | some v => .ok (.t (.val v)) ρ1
    | none => .no) else .no
  | _ => .no
section
variable {X : Cx} {c : Cfg} {W : XK} {F H : Hp}
theorem R.extN {cs : Cells} {H1 : Hp} (n0 : ∀ b ps, c.F0 b ≠ some (.tbl ps)) (nH : ∀ b ps, c.H0 b ≠ some (.tbl ps)) (r : R c F cs H) (e : LamX.ExtN H H1) (ht : LamX.Tabs c.T H1) : R c F cs H1 where
  sub := fun b o h => e b o (r.sub b o h) fun ps z => n0 b ps (r.ntb b ps (by rw [h, z]))
  grow0 := r.grow0
  growN := r.growN
  kept := fun b o h hi => e b o (r.kept b o h hi) fun ps z => nH b ps (by rw [h, z])
  tabs := ht
  ntb := r.ntb
  ok := fun x hx => by
    have q := r.ok x hx
    obtain ⟨v, s⟩ := x
    cases s with
    | no => trivial
    | val d =>
      cases v with
      | none => exact q.elim
      | some v => exact q
    | own d =>
      cases v with
      | none => exact q.elim
      | some v =>
        cases v with
        | ref a =>
          obtain ⟨h1, o, h2, h3⟩ := q
          exact ⟨h1, o, e a o h2 h3.ntbl, h3⟩
        | _ => exact q.elim
  dis := r.dis
  own := r.own
theorem re_ref {CS : Addr} {cn f ret : Str} {fns : List Str} {d : DE} (T : ExcF c.K c.mg cn CS fns) (n0 : ∀ b ps, c.F0 b ≠ some (.tbl ps)) (nH : ∀ b ps, c.H0 b ≠ some (.tbl ps)) : RE c W (LamX.tLam c.T (TTr CS f ret) fun E => tCan c E d) (dRef cn f ret d) := by
  intro τ σ ρ F H Q hl r h
  unfold dRef at h
  refine ⟨r.tabs, fun H1 eN ht => ?_⟩
  refine ⟨τ, ρ, F, hl, r.extN n0 nH eN ht, ?_⟩
  cases e : d ρ with
  | no => rw [e] at h; exact h.elim
  | ex x ρ1 =>
    rw [e] at h
    simp only at h
    by_cases hx : x.cls = cn
    · rw [if_pos hx] at h
      cases e1 : x.fs.lookup f with
      | none => rw [e1] at h; exact h.elim
      | some v =>
        rw [e1] at h
        intro cls dd F' H' hl' xr r'
        obtain ⟨x1, a, fs, x2, x3, x4, x5⟩ := xr
        rw [hx, T.gC] at x1
        cases x1
        obtain ⟨v', e2, e3⟩ := lookup_rel x4 x5 e1
        exact ⟨rfl, a, fs, v', x2, x3, e2, h v' F' H' hl' (r'.addV e3)⟩
    · rw [if_neg hx] at h; exact h.elim
  | ok o ρ1 =>
    rw [e] at h
    cases o with
    | p i => exact h.elim
    | t s => exact fun v F' H' hl' r' => h (.str ret) F' H' hl' (r'.drop.addV (.str ret))
/-- _law_refused(lambda: body) -/
theorem dx_ref {P cc : Addr} {x a e n f ret : Str} {fns : List Str} {Ng : List Str} {st : Stmt} {g CS : Addr} {fd : FuncData} {k j : Nat} {params : Arguments} {body : Expr} {scope : Scope} {d : DE} {p lpos pos p1 p2 p3 p4 p5 p6 p7 p8 p9 p10 p11 : Pos}
    (Fu : Fun X.K x x st g fd) (hb : Binds X.K fd [a] []) (hm : X.mg x = some (.ref g)) (Sg : FnScope Ng [a] (defScope st)) (hst : defBody st = refBody a e n f ret j p1 p2 p3 p4 p5 p6 p7 p8 p9 p10 p11) (T : ExcF X.K X.mg e CS fns) (hK : c.K = X.K) (hmg : c.mg = X.mg) (n0 : ∀ b ps, c.F0 b ≠ some (.tbl ps)) (nH : ∀ b ps, c.H0 b ≠ some (.tbl ps))
    (hT : c.T = [(P, X.env.qual ++ "<lambda>")]) (TB : LamX.TabB X.base X.mg cc P) (hcode : X.env.code = .ref cc) (hr : Room (k + 2) X.A)
    (hbody : ∀ (A : Around) (outer : List Env) (s : Shared) (H : Hp) (E : XK) (f c' : Addr), Room k (A.deeper (LamX.lamEnv X scope s.heap.objs.size f c')) → DX (LamX.lamCx X A outer s H E scope f c') c E body d)
    (hf : f ∈ fns := by decide) (hN0 : Ng[0]? = some a := by rfl) (hN1 : Ng[1]? = some n := by rfl) (hva : Vis (defScope st) a := by exact Or.inl rfl) (hln : (defScope st).names.lookup n = some .local := by rfl) (hge : (defScope st).names.lookup e = some .globalImplicit := by rfl)
    (L : LamX.LamS X.env.scope scope := by exact LamX.lamS_by rfl) (hdef : defaultsOf params X.env = ([], []) := by rfl)
    (hbind : ∀ (q : Str) (cl : List (Str × Addr)) (pm cv ctv : Value), bindArgs (PySem.W.kla_fn "<lambda>" q params body scope cl pm cv ctv) ⟨[], []⟩ = pure [] := by intros; rfl)
    (hba : ∀ (X' : Cx) (p5 : Pos), X'.N = Ng → attributeBase (.Name n p5) f X'.env (eval (.Name n p5) X'.env) = eval (.Name n p5) X'.env := by intros; rfl)
    (hg : Gl X x := by rfl) (h0 : ∀ f : Addr, (L2.start Ng [V.ref f])[0]? = some (some (V.ref f)) := by intro f; rfl)
    (hde : (e == ("__debug__" : Str)) = false := by decide) (hdn : (n == ("__debug__" : Str)) = false := by decide) (hcn : (n == ("__classdict__" : Str)) = false := by decide)
    (hdb : (x == ("__debug__" : Str)) = false := by decide) (hd : (a == ("__debug__" : Str)) = false := by decide) (hcd : (a == ("__classdict__" : Str)) = false := by decide) :
    DX X c W (.Call (.Name x p) [.Lambda params body scope lpos] [] pos) (dRef e f ret d) := by
  obtain ⟨⟨oc, od, kV, doc, pm, an, cdv, ct, osl, rfl, lk, hcg⟩, kp⟩ := Fu
  have q := re_ref (c := c) (W := W) (f := f) (ret := ret) (d := d) (fns := fns) (by rw [hK, hmg]; exact T) n0 nH
  refine ⟨_, LamX.pe_lamcall (T := c.T) (TT := TTr CS f ret) (t := fun E => tCan c E d) (k := k) hg hm kp lk hcg hb Sg hN0 hva (by rw [hst]; exact ref_gives T hf Sg.nd hN1 hln hge hde hdn hcn h0 hba) TB hcode (by rw [hT]; exact List.mem_singleton.mpr rfl)
    (fun p hp _ => by rw [hT] at hp; rw [List.mem_singleton.mp hp]) hr L hdef hbind (fun A outer s H E f c' hr' => (hbody A outer s H E f c' hr').can) hdb hd hcd, q⟩

/-! ### try: g(..) except C as n: return (n.f, ..) -/
def dTry (cn : Str) (hf : Exn → Option D) (i : Nat) (d : DE) : DS := fun ρ => match d ρ with
  | .ok (.t _) ρ1 => .nx ρ1
  | .ex x ρ1 => if x.cls = cn ∧ i < ρ1.length then (match hf x with
    | some v => .rt v (ρ1.set i .no)
    | none => .no) else .no
  | _ => .no
/-- return (n.f1, n.f2) -/
def hx2 (f1 f2 : Str) : Exn → Option D := fun x => match x.fs.lookup f1, x.fs.lookup f2 with
  | some a, some b => some (.tuple [a, b])
  | _, _ => none
theorem DXA.canS {X : Cx} {es : List Expr} {d : DAs} (V : L2.St → XK) (h : ∀ W', DXA X c W' es d) : PA X es (fun σ H Q => tCanA c (V σ) d σ H Q) :=
  ⟨fun pos pins s σ H Q I k => (h (V σ)).can.run pos pins s σ H Q I k⟩
theorem ds_try2 {i k np : Nat} {x cn n f1 f2 : Str} {C : Addr} {fns ps : List Str} {f : List D → FO} {e : Expr} {es : List Expr} {da : DAs} {p pos p1 p2 p3 p4 p5 p6 p7 p8 p9 p10 : Pos} {k2 : Nat} (T : ExcF X.K X.mg cn C fns) (G : Cal X x k ps (spP X.K X.mg false np f)) (hK : c.K = X.K) (hmg : c.mg = X.mg) (hr : Room k X.A) (hni : Np c [i])
    (hN : X.N.Nodup) (hs : X.stack = X.env :: X.outer) (hfr : X.env.frame = some X.env.locals) (ha : ∀ pn xe W', DXA (X.tr pn xe) c W' (e :: es) da) (hl : daLen da np) (hi : X.N[i]? = some n := by rfl) (hln : X.env.kindOf n = some .local := by rfl) (hgc : Gl X cn := by rfl) (hg : Gl X x := by rfl)
    (hf1 : f1 ∈ fns := by decide) (hf2 : f2 ∈ fns := by decide) (hdb : (x == ("__debug__" : Str)) = false := by decide) (hdc : (cn == ("__debug__" : Str)) = false := by decide) (hdn : (n == ("__debug__" : Str)) = false := by decide) (hcn : (n == ("__classdict__" : Str)) = false := by decide)
    (hb1 : ∀ (a : Addr) (pn : List (Addr × Obj)), attributeBase (.Name n p2) f1 (X.suite a pn).env (eval (.Name n p2) (X.suite a pn).env) = eval (.Name n p2) (X.suite a pn).env := by intros; rfl)
    (hb2 : ∀ (a : Addr) (pn : List (Addr × Obj)), attributeBase (.Name n p4) f2 (X.suite a pn).env (eval (.Name n p4) (X.suite a pn).env) = eval (.Name n p4) (X.suite a pn).env := by intros; rfl)
    (hst : ∀ (a : Addr) (pn : List (Addr × Obj)), starEach [.Attribute (.Name n p2) f1 p3, .Attribute (.Name n p4) f2 p5] (X.suite a pn).env = (false, eval (.Attribute (.Name n p2) f1 p3) (X.suite a pn).env) :: starEach [.Attribute (.Name n p4) f2 p5] (X.suite a pn).env := by intros; rfl)
    (hst2 : ∀ (a : Addr) (pn : List (Addr × Obj)), starEach [.Attribute (.Name n p4) f2 p5] (X.suite a pn).env = (false, eval (.Attribute (.Name n p4) f2 p5) (X.suite a pn).env) :: starEach [] (X.suite a pn).env := by intros; rfl)
    (he : ∀ pn xe, starEach (e :: es) (X.tr pn xe).env = (false, eval e (X.tr pn xe).env) :: starEach es (X.tr pn xe).env := by intros; rfl) (hpl : ∀ pn xe, (backTo pos (starEach es (X.tr pn xe).env)).any (·.1) = false := by intros; rfl) (hsw : ∀ pn xe, swapsWith (.Call (.Name x p) (e :: es) [] pos) none p10.line (X.tr pn xe).env = pure false := by intros; rfl) :
    DSt X c W (.Try [.Expr (.Call (.Name x p) (e :: es) [] pos) p10] [.ExceptHandler (some (.Name cn p1)) (some n) [.Return (some (.Tuple [.Attribute (.Name n p2) f1 p3, .Attribute (.Name n p4) f2 p5] k2 p6)) p7] p8] [] [] p9) (dTry cn (hx2 f1 f2) i (dCall f da)) := by
  obtain ⟨fa, fd, g1, g2, g3, g4⟩ := G.ex
  refine ⟨_, ps_try_as (i := i) (c := .ref C) (tb := fun W => tDrop (tCallSD (spP X.K X.mg false np f) [] (WE W) (fun σ H Q => tCanA c (WE W σ) da σ H Q))) (ts := fun a cls d => tRet (tTup (tCons (tXf a cls d C f1 (tVar i)) (tCons (tXf a cls d C f2 (tVar i)) tNil)))) (Wout := fun _ _ _ _ => False)
    hs hfr hN hi hln ⟨hgc, hdc, .inl T.gC⟩ LamX.takes0 (fun W pn xe tk _ => pss_one (ps_expr (pe_callSD (X := X.tr pn xe) g1 hr hg g2 g3 g4 .nil (fun σ => passAt tk σ) (DXA.canS (WE W) (ha pn xe)) hdb (he pn xe) (hpl pn xe)) (hsw pn xe)))
    (fun a oe cls d pn hz hfl => pss_one (ps_ret (pe_tup (pa_cons (pe_xf T.xf (T.no f1 hf1) hz hfl (pe_var hi (.inl hln) hdn hcn) (hb1 a ((a, oe) :: pn))) (pa_cons (pe_xf T.xf (T.no f2 hf2) hz hfl (pe_var hi (.inl hln) hdn hcn) (hb2 a ((a, oe) :: pn))) pa_nil (hst2 a ((a, oe) :: pn))) (hst a ((a, oe) :: pn)))))), ?_⟩
  intro τ σ ρ F H Dn hl1 hp r h
  unfold dTry at h
  have q := re_call (c := c) (W := WE (wAs X.K (.ref C) i (fun a cls d => tRet (tTup (tCons (tXf a cls d C f1 (tVar i)) (tCons (tXf a cls d C f2 (tVar i)) tNil)))) (fun _ _ _ _ => False) Dn) σ) (f := f) hl ra_can τ σ ρ F H (fun _ H2 => Dn.nx σ H2) hl1 r
  rw [hK, hmg] at q
  refine q ?_
  cases e : dCall f da ρ with
  | no => rw [e] at h; exact h.elim
  | ok o ρ1 =>
    rw [e] at h
    cases o with
    | p i => exact h.elim
    | t s => exact fun v F' H' hl' r' => h σ F' H' hl' hp r'.drop
  | ex x ρ1 =>
    rw [e] at h
    simp only at h
    by_cases hx : x.cls = cn ∧ i < ρ1.length
    · rw [if_pos hx] at h
      unfold hx2 at h
      cases e1 : x.fs.lookup f1 with
      | none => rw [e1] at h; exact h.elim
      | some v1 =>
        cases e2 : x.fs.lookup f2 with
        | none => rw [e1, e2] at h; exact h.elim
        | some v2 =>
          rw [e1, e2] at h
          simp only at h
          intro cls dd F' H' hl' xr r'
          obtain ⟨x1, a, fs, x2, x3, x4, x5⟩ := xr
          rw [hx.1, hmg, T.gC] at x1
          cases x1
          obtain ⟨w1, y1, z1⟩ := lookup_rel x4 x5 e1
          obtain ⟨w2, y2, z2⟩ := lookup_rel x4 x5 e2
          refine ⟨true, T.te, fun _ b nb => ?_, fun hz => by cases hz⟩
          have hi2 : i < σ.length := by
            rw [hl']
            exact hx.2
          have get : (σ.set i (some (V.ref b)))[i]? = some (some (V.ref b)) := by simp [hi2]
          refine ⟨.ref b, get, rfl, rfl, a, fs, w1, x2, x3, y1, .ref b, get, rfl, rfl, a, fs, w2, x2, x3, y2, by show 2 ≤ sizeLine; decide, fun p' hp' => ?_⟩
          have r1 : R c F' (τ ++ (σ.set i (some (V.ref b))).zip (ρ1.set i .no)) H' := R.store hl' r'.addN
          have g := Grow.lay (o := .tup [w1, w2]) r1.sub hp'
          refine h (.ref p') (σ.set i (some (.ref b))) _ _ (by simpa using hl') (hp.set hni) ((r1.grow g).addV (.tup upd_same (.cons (Rp.mono g.f _ _ z1) (.cons (Rp.mono g.f _ _ z2) .nil))))
    · rw [if_neg hx] at h; exact h.elim
end
end PD

set_option Elab.async false
set_option linter.all false
set_option maxRecDepth 100000
set_option maxHeartbeats 2000000
/-! PdK: __init__ of an own class of exceptions; the law itself. -/
namespace PD
open PySem PySem.Spec PyProof.Rows L2
section
variable {P : Program} {w : World} {K : PySem.W.Frag} {mg : Str → Option Value} {base : Heap}
theorem init1 {qual a : Str} {st : Stmt} {f C : Addr} {fd : FuncData} {q1 q2 q3 q4 : Pos} (Fu : Fun K "__init__" qual st f fd) (S : FnScope ["self", a] ["self", a] (defScope st)) (hst : defBody st = [.Assign [.Attribute (.Name "self" q1) a q2] (.Name a q3) q4]) (T : OexC K C) (no : PySem.W.findIn K (.ref C) a = some none)
    (v0 : Vis (defScope st) "self" := by exact Or.inl rfl) (v1 : Vis (defScope st) a := by exact Or.inl rfl) (hd : (a == ("__debug__" : Str)) = false := by decide) (hcd : (a == ("__classdict__" : Str)) = false := by decide)
    (hs : ∀ env : Env, swapsWith (.Name a q3) (some (.Attribute (.Name "self" q1) a q2)) q4.line env = pure false := by intros; rfl) :
    FnOk P w K mg base (L2.CX P w) 1 f fd ["self", a] (spI K C [a]) := by
  refine Fu.okX S (fun vs H Q E h => ?_) (fun cdv A outer s H vs Q E hr h => ?_)
  · obtain ⟨x, ys, rfl, h1, _⟩ := h
    simp only [List.length_cons, List.length_nil] at h1 ⊢; omega
  · obtain ⟨x, ys, rfl, h1, h2, h3⟩ := h
    rw [hst]
    refine ⟨_, pss_one (ps_ost (pe_var (i := 0) rfl v0 (by decide) (by decide)) (pe_var (i := 1) rfl v1 hd hcd) (hs _)), ?_⟩
    match ys, h1 with
    | [y], _ =>
      refine ⟨y, rfl, .ref x, rfl, x, C, rfl, T, no, .inl ⟨h2, fun dx hdx ne => ?_⟩⟩
      refine h3 dx _ hdx ne upd_same (by rw [upd_ne ne, upd_same]; rfl) (fun b hb hb2 => by rw [upd_ne hb, upd_ne hb2])
theorem init2 {qual a b : Str} {st : Stmt} {f C : Addr} {fd : FuncData} {q1 q2 q3 q4 p1 p2 p3 p4 : Pos} (Fu : Fun K "__init__" qual st f fd) (S : FnScope ["self", a, b] ["self", a, b] (defScope st)) (hst : defBody st = [.Assign [.Attribute (.Name "self" q1) a q2] (.Name a q3) q4, .Assign [.Attribute (.Name "self" p1) b p2] (.Name b p3) p4]) (T : OexC K C) (no : PySem.W.findIn K (.ref C) a = some none) (no2 : PySem.W.findIn K (.ref C) b = some none)
    (v0 : Vis (defScope st) "self" := by exact Or.inl rfl) (v1 : Vis (defScope st) a := by exact Or.inl rfl) (v2 : Vis (defScope st) b := by exact Or.inl rfl) (hd : (a == ("__debug__" : Str)) = false := by decide) (hcd : (a == ("__classdict__" : Str)) = false := by decide) (hd2 : (b == ("__debug__" : Str)) = false := by decide) (hcd2 : (b == ("__classdict__" : Str)) = false := by decide)
    (hs : ∀ env : Env, swapsWith (.Name a q3) (some (.Attribute (.Name "self" q1) a q2)) q4.line env = pure false := by intros; rfl)
    (hs2 : ∀ env : Env, swapsWith (.Name b p3) (some (.Attribute (.Name "self" p1) b p2)) p4.line env = pure false := by intros; rfl) :
    FnOk P w K mg base (L2.CX P w) 1 f fd ["self", a, b] (spI K C [a, b]) := by
  refine Fu.okX S (fun vs H Q E h => ?_) (fun cdv A outer s H vs Q E hr h => ?_)
  · obtain ⟨x, ys, rfl, h1, _⟩ := h
    simp only [List.length_cons, List.length_nil] at h1 ⊢; omega
  · obtain ⟨x, ys, rfl, h1, h2, h3⟩ := h
    rw [hst]
    refine ⟨_, pss_cons (ps_ost (pe_var (i := 0) rfl v0 (by decide) (by decide)) (pe_var (i := 1) rfl v1 hd hcd) (hs _)) (pss_one (ps_ost (pe_var (i := 0) rfl v0 (by decide) (by decide)) (pe_var (i := 2) rfl v2 hd2 hcd2) (hs2 _))), ?_⟩
    match ys, h1 with
    | [y, z], _ =>
      refine ⟨y, rfl, .ref x, rfl, x, C, rfl, T, no, .inl ⟨h2, fun dx hdx ne => ?_⟩⟩
      refine ⟨z, rfl, .ref x, rfl, x, C, rfl, T, no2, .inr ⟨dx, [(a, y)], upd_same, by rw [upd_ne ne, upd_same], by simp, ?_⟩⟩
      refine h3 dx _ hdx ne (by rw [upd_ne (Ne.symm ne), upd_same]) (by rw [upd_same]; rfl) (fun c hb hb2 => by rw [upd_ne hb2, upd_ne hb, upd_ne hb2])

/-! ### the law -/
def noListB (K : PySem.W.Frag) : Bool := K.all fun p => match p.2.cls with
  | .type n => !(n == ("list" : Str))
  | _ => true
theorem mem_lookN : ∀ {K : PySem.W.Frag} {a : Addr} {o : Obj}, K.lookup a = some o → (a, o) ∈ K
  | [], _, _, e => by cases e
  | (b, u) :: K, a, o, e => by
    simp only [List.lookup] at e
    split at e
    · rename_i h
      cases e
      rw [beq_iff_eq.mp h]
      exact List.mem_cons_self
    · exact List.mem_cons_of_mem _ (mem_lookN e)
theorem noList_ok {K : PySem.W.Frag} (h : noListB K = true) {a : Addr} {o : Obj} (e : K.lookup a = some o) : o.cls ≠ .type "list" := by
  intro z
  have hm : (a, o) ∈ K := mem_lookN e
  have q := List.all_eq_true.mp h _ hm
  rw [z] at q
  exact absurd q (by decide)
def spLaw (K : PySem.W.Frag) (Pt : Addr) : Sp := fun vs H Q E => ∃ (a : Addr) (ns : List Int), vs = [.ref a] ∧ ns.length ≤ 63 ∧ (∀ z ∈ ns, Builtin.Int.intBits z ≤ 1048576) ∧ H Pt = some (.tbl #[]) ∧ SqL K H a (ns.map V.int) ∧ ∀ H', Q (.bl true) H'
def hide (H : Hp) : Hp := fun b => match H b with
  | some (.tbl _) => none
  | x => x
theorem hide_same (H : Hp) : Same (hide H) H := fun b o e => by
  unfold hide at e
  split at e
  · cases e
  · exact e
theorem hide_ntb (H : Hp) (b : Addr) (ps : Array Value) : hide H b ≠ some (.tbl ps) := fun e => by
  unfold hide at e
  split at e
  · cases e
  · rename_i h; exact h _ e
theorem hide_get {H : Hp} {b : Addr} {o : HO} (e : H b = some o) (n : ∀ ps, o ≠ .tbl ps) : hide H b = some o := by
  unfold hide
  split
  · rename_i ps h
    rw [h] at e; cases e
    exact absurd rfl (n ps)
  · exact e
theorem law_den {x qual : Str} {st : Stmt} {f cc Pt : Addr} {N : List Str} {p : Str} {k : Nat} {oc kV doc pm ct : Value} {od an : Option Addr} {osl : Array (Option Value)} (body : DS)
    (lk : K.lookup f = some ⟨oc, od, .func (PySem.W.fnOf x qual (defArgs st) (defBody st) (defScope st) .none kV doc pm an (.ref cc) ct), osl⟩) (hcd : PySem.W.codeIn K (.ref cc) qual = true) (S : FnScope N [p] (defScope st)) (hnl : noListB K = true)
    (hden : ∀ ns : List Int, ns.length ≤ 63 → (∀ z ∈ ns, Builtin.Int.intBits z ≤ 1048576) → ∃ ρ, body (startR false N.length [.list (ns.map .int)]) = .rt (.bool true) ρ)
    (hbody : ∀ (A : Around) (outer : List Env) (s : Shared) (H : Hp) (E : XK) (c : Cfg), Room k (A.deeper (envOfC qual (defScope st) s.heap.objs.size f (.ref cc))) → c.K = K → c.mg = mg → c.T = [(Pt, (envOfC qual (defScope st) s.heap.objs.size f (.ref cc)).qual ++ "<lambda>")] → c.pin = none →
      (∀ b ps, c.F0 b ≠ some (.tbl ps)) → (∀ b ps, c.H0 b ≠ some (.tbl ps)) → DSs (cxOf (L2.CX P w) P w K mg base N qual (defScope st) f (.ref cc) A outer s H E) c E (defBody st) body) :
    FnOk P w K mg base (L2.CX P w) (k + 1) f (PySem.W.fnOf x qual (defArgs st) (defBody st) (defScope st) .none kV doc pm an (.ref cc) ct) [p] (spLaw K Pt) := by
  refine fn_of lk hcd S (fun vs H Q E h => ?_) (fun A outer s H vs Q E hr h => ?_)
  · obtain ⟨a, ns, rfl, _⟩ := h
    rfl
  · obtain ⟨a, ns, rfl, h1, h2, h3, h4, h5⟩ := h
    have hNp : 1 ≤ N.length := by
      have := congrArg List.length S.pre
      rw [List.length_take] at this
      simp at this
      omega
    obtain ⟨ρ, e⟩ := hden ns h1 h2
    have rd : Rd (hide H) a (.lst (ns.map V.int)) := by
      rcases h4 with h4 | ⟨o, _, _, h4, h5, _⟩
      · rcases h4 with h4 | ⟨o, h4⟩
        · exact .inl (hide_get h4 fun ps z => by cases z)
        · exact .inr ⟨o, hide_get h4 fun ps z => by cases z⟩
      · exact absurd h5 (noList_ok hnl h4)
    obtain ⟨t, pt, q⟩ := hbody A outer s H E ⟨K, mg, hide H, hide H, [], [(Pt, (envOfC qual (defScope st) s.heap.objs.size f (.ref cc)).qual ++ "<lambda>")], none⟩ hr rfl rfl rfl rfl (hide_ntb H) (hide_ntb H)
    refine ⟨t, pt, q [] (L2.start N [.ref a]) (startR false N.length [.list (ns.map .int)]) (hide H) H _ ?_ (fun v hv => by cases hv) ?_ ?_⟩
    · rw [startR_len (by simpa using hNp)]
      unfold L2.start
      rw [List.length_append, List.length_map, List.length_replicate]
      simp; omega
    · obtain ⟨u, v⟩ := vals_cells (F := hide H) (H := H) [.ref a] [.list (ns.map .int)] (N.length - 1) (N.length - 1) (.cons (.lst rd (RpA.ints ns)) .nil)
      refine ⟨hide_same H, Same.refl _, fun b h n => absurd h n, fun b o e _ => hide_same H b o e, fun p hp => ?_, fun b ps h => h, u, ?_, ?_⟩
      · rw [List.mem_singleton.mp hp]
        exact LamX.TabS.nil h3
      · show (((L2.start N [.ref a]).zip (startR false N.length [.list (ns.map .int)])).filterMap ownA).Nodup
        rw [show ((L2.start N [.ref a]).zip (startR false N.length [.list (ns.map .int)])).filterMap ownA = [] from v]
        exact List.nodup_nil
      · intro z hz
        rw [show (([] : Cells) ++ (L2.start N [.ref a]).zip (startR false N.length [.list (ns.map .int)])).filterMap ownA = [] from v] at hz
        cases hz
    · rw [e]
      intro v σ' F' H' hl' hp' r'
      have q : Rp K F' v (.bool true) := r'.ok _ List.mem_cons_self
      cases q
      exact h5 H'
end
end PD

set_option Elab.async false
set_option linter.all false
set_option maxRecDepth 100000
set_option maxHeartbeats 2000000
/-! PdL: chains of two comparisons; not as a value, by truth. -/
namespace PD
open PySem PySem.Spec PyProof.Rows L2
section
variable {X : Cx} {c : Cfg} {W : XK} {F H : Hp}
def dChain (f f' : List D → VO) (a b e : DE) : DE := fun ρ => match daC a (daC b daN) ρ with
  | .ok [o1, .t (.val y)] ρ1 => (match resA ρ1 [o1, .t (.val y)] with
    | some ds => (match f ds with
      | .v (.bool false) => .ok (.t (.val (.bool false))) ρ1
      | .v (.bool true) => (match daC e daN ρ1 with
        | .ok [o3] ρ2 => (match resA ρ2 [o3] with
          | some [z] => (match f' [y, z] with
            | .v d => .ok (.t (.val d)) ρ2
            | _ => .no)
          | _ => .no)
        | .ex x ρ2 => .ex x ρ2
        | _ => .no)
      | _ => .no)
    | none => .no)
  | .ex x ρ1 => .ex x ρ1
  | _ => .no
theorem re_chain {r r' : R2} {f f' : List D → VO} {ta tb tc : TE} {a b e : DE} (hv : VOk c.K (r2 r) f) (hv' : VOk c.K (r2 r') f') (ha : RE c W ta a) (hb : RE c W tb b) (hc : RE c W tc e) : RE c W (tChain r r' ta tb tc) (dChain f f' a b e) := by
  intro τ σ ρ F H Q hl rr h
  unfold dChain at h
  refine (ra_cons ha (ra_cons hb ra_nil)) τ σ ρ F H (fun vs H2 => r2 (fun x y H2 (Q : VK) => r x y H2 fun z H3 => ∃ k, z = .bl k ∧ (if k = true then tc σ H3 fun w' H4 => r' y w' H4 Q else Q (.bl false) H3)) vs H2 Q) hl rr ?_
  cases e1 : daC a (daC b daN) ρ with
  | no => rw [e1] at h; exact h.elim
  | ex x ρ1 => rw [e1] at h; exact h
  | ok os ρ1 =>
    rw [e1] at h
    match os, h with
    | [], h => exact h.elim
    | [_], h => exact h.elim
    | _ :: _ :: _ :: _, h => simp only at h; exact h.elim
    | [_, .p _], h => exact h.elim
    | [_, .t .no], h => exact h.elim
    | [_, .t (.own _)], h => exact h.elim
    | [o1, .t (.val y)], h =>
      simp only at h
      intro vs F1 H1 hl1 hh r1
      cases e2 : resA ρ1 [o1, .t (.val y)] with
      | none => rw [e2] at h; exact h.elim
      | some ds =>
        rw [e2] at h
        simp only at h
        have rra := R.resA hl1 r1 [o1, .t (.val y)] vs ds (fun _ x => x) hh e2
        obtain ⟨v1, v2, rfl, r2'⟩ : ∃ v1 v2, vs = [v1, v2] ∧ R c F1 ((some v2, .val y) :: (τ ++ σ.zip ρ1)) H1 := by
          have hlen := Held.len _ _ hh
          match vs, hlen with
          | [v1, v2], _ =>
            refine ⟨v1, v2, rfl, ?_⟩
            cases o1 with
            | t s => exact R.drop (x := (some v1, s)) r1
            | p i => exact r1
        have post : PostV c.K F1 H1 (fun z H3 => ∃ k, z = .bl k ∧ (if k = true then tc σ H3 fun w' H4 => r' v2 w' H4 Q else Q (.bl false) H3)) (f ds) := by
          cases e3 : f ds with
          | no => rw [e3] at h; exact h.elim
          | n d => rw [e3] at h; exact h.elim
          | v d =>
            rw [e3] at h
            cases d with
            | bool k =>
              intro z F2 H2 g hz
              cases hz
              refine ⟨k, rfl, ?_⟩
              cases k with
              | false => exact iteF (h (.bl false) F2 H2 hl1 ((r2'.drop.grow g).addV (.bl false)))
              | true =>
                simp only at h
                refine iteT ?_
                refine (ra_cons hc ra_nil) ((some v2, .val y) :: τ) σ ρ1 F2 H2 (fun vs H4 => r2 (fun x w' H4 (Q : VK) => r' x w' H4 Q) (v2 :: vs) H4 Q) hl1 (r2'.grow g) ?_
                cases e4 : daC e daN ρ1 with
                | no => rw [e4] at h; exact h.elim
                | ex x ρ2 =>
                  rw [e4] at h
                  exact PostX.drop h
                | ok os2 ρ2 =>
                  rw [e4] at h
                  match os2, h with
                  | [], h => exact h.elim
                  | _ :: _ :: _, h => exact h.elim
                  | [o3], h =>
                    simp only at h
                    intro ws F3 H3 hl3 hh3 r3
                    cases e5 : resA ρ2 [o3] with
                    | none => rw [e5] at h; exact h.elim
                    | some zs =>
                      rw [e5] at h
                      match zs, h with
                      | [], h => exact h.elim
                      | _ :: _ :: _, h => exact h.elim
                      | [z], h =>
                        simp only at h
                        have rr3 := R.resA hl3 r3 [o3] ws [z] (fun _ x => x) hh3 e5
                        have rd := r3.dropTemps
                        have hy : Rp c.K F3 v2 y := rd.ok _ List.mem_cons_self
                        refine hv' F3 H3 (v2 :: ws) [y, z] Q r3.sub (.cons (.inl hy) rr3) ?_
                        cases e6 : f' [y, z] with
                        | no => rw [e6] at h; exact h.elim
                        | n d => rw [e6] at h; exact h.elim
                        | v d =>
                          rw [e6] at h
                          exact fun z' F' H' g' hz' => h z' F' H' hl3 ((R.grow (R.drop (x := (some v2, .val y)) rd) g').addV hz')
            | _ => exact h.elim
        exact hv F1 H1 [v1, v2] ds _ r1.sub rra post
theorem dx_chain {op op' : CmpOp} {r r' : R2} {f f' : List D → VO} {a b e : Expr} {da db de : DE} {pos : Pos} (ho : OpR X (compareOp op) r) (hv : VOk c.K (r2 r) f) (ho' : OpR X (compareOp op') r') (hv' : VOk c.K (r2 r') f') (ha : DX X c W a da) (hb : DX X c W b db) (hc : DX X c W e de)
    (hm : lastMarks [op, op'] [b, e] = false := by with_unfolding_all rfl) : DX X c W (.Compare a [op, op'] [b, e] pos) (dChain f f' da db de) := by
  obtain ⟨ta, pa, ra⟩ := ha
  obtain ⟨tb, pb, rb⟩ := hb
  obtain ⟨tc, pc, rc⟩ := hc
  exact ⟨_, pe_chain ho ho' pa pb pc hm, re_chain hv hv' ra rb rc⟩
theorem dt_chain {op op' : CmpOp} {r r' : R2} {f f' : List D → VO} {a b e : Expr} {da db de : DE} {pos : Pos} (ho : OpR X (compareOp op) r) (hv : VOk c.K (r2 r) f) (ho' : OpR X (compareOp op') r') (hv' : VOk c.K (r2 r') f') (ha : DX X c W a da) (hb : DX X c W b db) (hc : DX X c W e de)
    (hm : lastMarks [op, op'] [b, e] = false := by with_unfolding_all rfl) : DT X c W (.Compare a [op, op'] [b, e] pos) (dTst (dChain f f' da db de)) := by
  obtain ⟨ta, pa, ra⟩ := ha
  obtain ⟨tb, pb, rb⟩ := hb
  obtain ⟨tc, pc, rc⟩ := hc
  exact ⟨_, pt_chain ho ho' pa pb pc hm, rb_tst (re_chain hv hv' ra rb rc)⟩
def dNotT (d : DE) : DE := fun ρ => match dTru d ρ with
  | .ok b ρ1 => .ok (.t (.val (.bool (!b)))) ρ1
  | .ex x ρ1 => .ex x ρ1
  | .no => .no
theorem dx_notT {a : Expr} {da : DE} {pos : Pos} (ha : DX X c W a da) (hK : c.K = X.K) : DX X c W (.UnaryOp .Not a pos) (dNotT da) := by
  obtain ⟨ta, pa, ra⟩ := ha
  have q := rb_tru (c := c) ra
  rw [hK] at q
  refine ⟨_, pe_notT pa, ?_⟩
  intro τ σ ρ F H Q hl r h
  unfold dNotT at h
  refine q τ σ ρ F H (fun k H1 => Q (.bl (!k)) H1) hl r ?_
  cases e : dTru da ρ with
  | no => rw [e] at h; exact h.elim
  | ex x ρ1 => rw [e] at h; exact h
  | ok b ρ1 =>
    rw [e] at h
    exact fun F1 H1 hl1 r1 => h (.bl (!b)) F1 H1 hl1 (r1.addV (.bl _))
end
end PD
namespace PD
open PySem PySem.Spec PyProof.Rows L2
def Cq (P : Program) (w : World) (K : PySem.W.Frag) (mg : Str → Option Value) (base : Heap) (x : Str) (k : Nat) (ps : List Str) (sp : Sp) : Prop :=
  ∃ (f : Addr) (fd : FuncData), FnOk P w K mg base (L2.CX P w) k f fd ps sp ∧ mg x = some (.ref f) ∧ PySem.W.keepIn K (.ref f) = true ∧ Binds K fd ps []
def CKq (P : Program) (w : World) (K : PySem.W.Frag) (mg : Str → Option Value) (base : Heap) (x : Str) (k : Nat) (ps : List Str) (sp : Sp) (n m : Nat) (ks : List Str) : Prop :=
  ∃ (f : Addr) (fd : FuncData), FnOk P w K mg base (L2.CX P w) k f fd ps sp ∧ mg x = some (.ref f) ∧ PySem.W.keepIn K (.ref f) = true ∧ KBinds K fd ps ks (kb n m) (kb n m)
def Xq (P : Program) (w : World) (K : PySem.W.Frag) (mg : Str → Option Value) (base : Heap) (x : Str) (C : Addr) (k : Nat) (fns : List Str) : Prop :=
  ∃ (fI : Addr) (fd : FuncData) (ps : List Str), OexC K C ∧ PySem.W.findIn K (.ref C) "__init__" = some (some (.ref fI)) ∧ PySem.W.typeIn K (.ref fI) = some (.type "function") ∧ FnOk P w K mg base (L2.CX P w) k fI fd ps (spI K C fns) ∧ Binds K fd ps [] ∧ mg x = some (.ref C)
end PD
namespace PD
open PySem PySem.Spec PyProof.Rows L2
theorem fn_den2 {P : Program} {w : World} {K : PySem.W.Frag} {mg : Str → Option Value} {base : Heap} {x qual : Str} {st : Stmt} {f : Addr} {fd : FuncData} {N ps : List Str} {k : Nat} (io : Bool) (body : DS) (Fu : Fun K x qual st f fd) (S : FnScope N ps (defScope st)) (hio : io = true → ps ≠ [])
    (hbody : ∀ (cdv : Value) (A : Around) (outer : List Env) (s : Shared) (H : Hp) (E : XK) (F0 H0 : Hp) (ia : List Addr) (T : List (Addr × Str)) (pin : Option V), Room k (A.deeper (envOfC qual (defScope st) s.heap.objs.size f cdv)) → (io = false → pin = none) →
      DSs (cxOf (L2.CX P w) P w K mg base N qual (defScope st) f cdv A outer s H E) ⟨K, mg, F0, H0, ia, T, pin⟩ E (defBody st) body) :
    FnOk P w K mg base (L2.CX P w) (k + 1) f fd ps (spP K mg io ps.length (runD io N.length body)) :=
  fn_den io body Fu S hio fun cdv A outer s H E c hr hK hmg _ hpn => by
    obtain ⟨K', mg', F0, H0, ia, T, pin⟩ := c
    have hK' : K' = K := hK
    have hmg' : mg' = mg := hmg
    subst hK'
    subst hmg'
    exact hbody cdv A outer s H E F0 H0 ia T pin hr hpn
theorem law_den2 {P : Program} {w : World} {K : PySem.W.Frag} {mg : Str → Option Value} {base : Heap} {x qual : Str} {st : Stmt} {f cc Pt : Addr} {N : List Str} {p : Str} {k : Nat} {oc kV doc pm ct : Value} {od an : Option Addr} {osl : Array (Option Value)} (body : DS)
    (lk : K.lookup f = some ⟨oc, od, .func (PySem.W.fnOf x qual (defArgs st) (defBody st) (defScope st) .none kV doc pm an (.ref cc) ct), osl⟩) (hcd : PySem.W.codeIn K (.ref cc) qual = true) (S : FnScope N [p] (defScope st)) (hnl : noListB K = true)
    (hden : ∀ ns : List Int, ns.length ≤ 63 → (∀ z ∈ ns, Builtin.Int.intBits z ≤ 1048576) → ∃ ρ, body (startR false N.length [.list (ns.map .int)]) = .rt (.bool true) ρ)
    (hbody : ∀ (A : Around) (outer : List Env) (s : Shared) (H : Hp) (E : XK) (F0 H0 : Hp) (ia : List Addr), Room k (A.deeper (envOfC qual (defScope st) s.heap.objs.size f (.ref cc))) →
      (∀ b ps, F0 b ≠ some (.tbl ps)) → (∀ b ps, H0 b ≠ some (.tbl ps)) → DSs (cxOf (L2.CX P w) P w K mg base N qual (defScope st) f (.ref cc) A outer s H E) ⟨K, mg, F0, H0, ia, [(Pt, (envOfC qual (defScope st) s.heap.objs.size f (.ref cc)).qual ++ "<lambda>")], none⟩ E (defBody st) body) :
    FnOk P w K mg base (L2.CX P w) (k + 1) f (PySem.W.fnOf x qual (defArgs st) (defBody st) (defScope st) .none kV doc pm an (.ref cc) ct) [p] (spLaw K Pt) :=
  law_den body lk hcd S hnl hden fun A outer s H E c hr hK hmg hT hpn n0 nH => by
    obtain ⟨K', mg', F0, H0, ia, T, pin⟩ := c
    have hK' : K' = K := hK
    have hmg' : mg' = mg := hmg
    have hT' : T = _ := hT
    have hp' : pin = none := hpn
    subst hK'
    subst hmg'
    subst hT'
    subst hp'
    exact hbody A outer s H E F0 H0 ia hr n0 nH
end PD
namespace PD
open PySem PySem.Spec PyProof.Rows L2
theorem fnOk_no {P : Program} {w : World} {K : PySem.W.Frag} {mg : Str → Option Value} {base : Heap} {CX : CXT} {k np : Nat} {f : Addr} {fd : FuncData} {ps : List Str} {io : Bool} : FnOk P w K mg base CX k f fd ps (spP K mg io np fun _ => .no) :=
  ⟨fun _ _ _ _ h => by obtain ⟨_, _, _, _, _, _, _, h⟩ := h; exact h.elim, fun _ _ _ _ _ _ _ _ _ _ _ _ _ h => by obtain ⟨_, _, _, _, _, _, _, h⟩ := h; exact h.elim⟩
end PD
namespace PD
open PySem PySem.Spec PyProof.Rows L2
/-- an error of the class at S is what «except S» names (as in the worked proof of an own error) -/
theorem exm_self {K : PySem.W.Frag} {S : Addr} (h1 : PySem.W.subIn K (.ref S) (.type "BaseException") = some true) (h2 : PySem.W.isClsIn K S = true) (h3 : PySem.W.typeIn K (.ref S) = some (.type "type")) (h4 : PySem.W.subIn K (.ref S) (.ref S) = some true) :
    PySem.W.exmOne K (.ref S) (.ref S) = some true := by
  have e1 : (PySem.W.subIn K (.ref S) (.type "BaseException") == some true) = true := by rw [h1] <;> rfl
  have e2 : ((PySem.W.clsIn K S).isSome && PySem.W.typeIn K (.ref S) == some (.type "type")) = true := by
    have h2' : (PySem.W.clsIn K S).isSome = true := h2
    rw [h2', h3] <;> rfl
  show (if (PySem.W.subIn K (.ref S) (.type "BaseException") == some true) = true then (if ((PySem.W.clsIn K S).isSome && PySem.W.typeIn K (.ref S) == some (.type "type")) = true then PySem.W.subIn K (.ref S) (.ref S) else none) else none) = some true
  rw [if_pos e1, if_pos e2]
  exact h4
end PD

set_option Elab.async false
set_option linter.all false
set_option maxRecDepth 100000
set_option maxHeartbeats 2000000
/-! PdP: evaluation of denotations: what a def gives (fo), calls, loops and comprehensions as plain lists. -/
namespace PD
open PySem PySem.Spec PyProof.Rows L2
/-- what a def gives, its first slot forgotten -/
inductive RO where
  | ret (d : D)
  | exc (x : Exn)
  | no
def fo : FO → RO
  | .rt d _ => .ret d
  | .ex x _ => .exc x
  | .no => .no
abbrev MF := D → List D → Option (D × D)
/-! ### evaluation by steps: each combinator by what its first part gives -/
def AO.push (o : Od) : AO → AO
  | .ok os ρ => .ok (o :: os) ρ
  | .ex x ρ => .ex x ρ
  | .no => .no
@[simp] theorem AO.push_e1 (o : Od) : AO.push o (.ok oz ρ) = .ok (o :: oz) ρ := rfl
@[simp] theorem AO.push_e2 (o : Od) : AO.push o (.ex x ρ) = .ex x ρ := rfl
@[simp] theorem AO.push_e3 (o : Od) : AO.push o (.no) = .no := rfl
def EO.cons : EO → DAs → AO
  | .ok o ρ1, da => AO.push o (da ρ1)
  | .ex x ρ1, _ => .ex x ρ1
  | .no, _ => .no
@[simp] theorem EO.cons_e1 : EO.cons  (.ok o ρ1) da = AO.push o (da ρ1) := rfl
@[simp] theorem EO.cons_e2 : EO.cons  (.ex x ρ1) w1 = .ex x ρ1 := rfl
@[simp] theorem EO.cons_e3 : EO.cons  (.no) w1 = .no := rfl
@[simp] theorem e_daC (d : DE) (da : DAs) (ρ : Sl) : daC d da ρ = (d ρ).cons da := by
  unfold daC
  cases d ρ with
  | ok o ρ1 =>
    simp only [EO.cons]
    cases da ρ1 <;> rfl
  | ex x ρ1 => rfl
  | no => rfl
@[simp] theorem e_daN (ρ : Sl) : daN ρ = .ok [] ρ := rfl
def AO.appA : AO → DAs → AO
  | .ok os ρ1, da => (match da ρ1 with
    | .ok os' ρ2 => .ok (os ++ os') ρ2
    | .ex x ρ2 => .ex x ρ2
    | .no => .no)
  | .ex x ρ1, _ => .ex x ρ1
  | .no, _ => .no
@[simp] theorem AO.appA_e1 : AO.appA  (.ok oz ρ1) da = (match da ρ1 with
    | .ok oz' ρ2 => .ok (oz ++ oz') ρ2
    | .ex x ρ2 => .ex x ρ2
    | .no => .no) := rfl
@[simp] theorem AO.appA_e2 : AO.appA  (.ex x ρ1) w1 = .ex x ρ1 := rfl
@[simp] theorem AO.appA_e3 : AO.appA  (.no) w1 = .no := rfl
@[simp] theorem e_daApp (da dk : DAs) (ρ : Sl) : daApp da dk ρ = (da ρ).appA dk := by
  unfold daApp
  cases da ρ <;> rfl
def rdV : Nat → Option SV → Sl → EO
  | _, some (.val d), ρ => .ok (.t (.val d)) ρ
  | i, some (.own _), ρ => .ok (.p i) ρ
  | _, some .no, _ => .no
  | _, none, _ => .no
@[simp] theorem rdV_e1 : rdV  w1 (some (.val d)) ρ = .ok (.t (.val d)) ρ := rfl
@[simp] theorem rdV_e2 : rdV  i (some (.own w1)) ρ = .ok (.p i) ρ := rfl
@[simp] theorem rdV_e3 : rdV  w1 (some .no) w2 = .no := rfl
@[simp] theorem rdV_e4 : rdV  w1 none w2 = .no := rfl
@[simp] theorem e_dV (i : Nat) (ρ : Sl) : dV i ρ = rdV i ρ[i]? ρ := by
  unfold dV
  cases ρ[i]? with
  | none => rfl
  | some s => cases s <;> rfl
@[simp] theorem e_dC (d : D) (ρ : Sl) : dC d ρ = .ok (.t (.val d)) ρ := rfl
def resP : Option SV → Option D
  | some (.val d) => some d
  | some (.own d) => some d
  | some .no => none
  | none => none
@[simp] theorem resP_e1 : resP  (some (.val d)) = some d := rfl
@[simp] theorem resP_e2 : resP  (some (.own d)) = some d := rfl
@[simp] theorem resP_e3 : resP  (some .no) = none := rfl
@[simp] theorem resP_e4 : resP  none = none := rfl
@[simp] theorem e_res1 (ρ : Sl) (d : D) : res ρ (.t (.val d)) = some d := rfl
@[simp] theorem e_res2 (ρ : Sl) (d : D) : res ρ (.t (.own d)) = some d := rfl
@[simp] theorem e_res3 (ρ : Sl) (i : Nat) : res ρ (.p i) = resP ρ[i]? := by
  show (match ρ[i]? with | some (.val d) => some d | some (.own d) => some d | _ => none) = _
  cases ρ[i]? with
  | none => rfl
  | some s => cases s <;> rfl
def optC : Option D → Option (List D) → Option (List D)
  | some d, some ds => some (d :: ds)
  | some _, none => none
  | none, _ => none
@[simp] theorem optC_e1 : optC  (some d) (some ds) = some (d :: ds) := rfl
@[simp] theorem optC_e2 : optC  (some w1) none = none := rfl
@[simp] theorem optC_e3 : optC  none w1 = none := rfl
@[simp] theorem e_resN (ρ : Sl) : resA ρ [] = some [] := rfl
@[simp] theorem e_resC (ρ : Sl) (o : Od) (os : List Od) : resA ρ (o :: os) = optC (res ρ o) (resA ρ os) := by
  rw [resA]
  cases res ρ o with
  | none => rfl
  | some d => cases resA ρ os <;> rfl
def VO.eo : VO → Sl → EO
  | .v d, ρ => .ok (.t (.val d)) ρ
  | .n d, ρ => .ok (.t (.own d)) ρ
  | .no, _ => .no
@[simp] theorem VO.eo_e1 : VO.eo  (.v d) ρ = .ok (.t (.val d)) ρ := rfl
@[simp] theorem VO.eo_e2 : VO.eo  (.n d) ρ = .ok (.t (.own d)) ρ := rfl
@[simp] theorem VO.eo_e3 : VO.eo  (.no) w1 = .no := rfl
def appO : Option (List D) → (List D → VO) → Sl → EO
  | some ds, f, ρ => (f ds).eo ρ
  | none, _, _ => .no
@[simp] theorem appO_e1 : appO  (some ds) f ρ = (f ds).eo ρ := rfl
@[simp] theorem appO_e2 : appO  none w1 w2 = .no := rfl
def AO.app : AO → (List D → VO) → EO
  | .ok os ρ, f => appO (resA ρ os) f ρ
  | .ex x ρ, _ => .ex x ρ
  | .no, _ => .no
@[simp] theorem AO.app_e1 : AO.app  (.ok oz ρ) f = appO (resA ρ oz) f ρ := rfl
@[simp] theorem AO.app_e2 : AO.app  (.ex x ρ) w1 = .ex x ρ := rfl
@[simp] theorem AO.app_e3 : AO.app  (.no) w1 = .no := rfl
@[simp] theorem e_dOp (f : List D → VO) (da : DAs) (ρ : Sl) : dOp f da ρ = (da ρ).app f := by
  unfold dOp
  cases da ρ with
  | ok os ρ1 =>
    simp only [AO.app]
    cases resA ρ1 os with
    | none => rfl
    | some ds =>
      simp only [appO]
      cases f ds <;> rfl
  | ex x ρ1 => rfl
  | no => rfl
def frP (i : Nat) (ρ : Sl) : Option SV → Option (D × Sl)
  | some (.val d) => some (d, ρ)
  | some (.own d) => some (d, ρ.set i (.val d))
  | some .no => none
  | none => none
@[simp] theorem frP_e1 (i : Nat) (ρ : Sl) : frP i ρ (some (.val d)) = some (d, ρ) := rfl
@[simp] theorem frP_e2 (i : Nat) (ρ : Sl) : frP i ρ (some (.own d)) = some (d, ρ.set i (.val d)) := rfl
@[simp] theorem frP_e3 (i : Nat) (ρ : Sl) : frP i ρ (some .no) = none := rfl
@[simp] theorem frP_e4 (i : Nat) (ρ : Sl) : frP i ρ none = none := rfl
@[simp] theorem e_frz1 (ρ : Sl) (d : D) : frz1 ρ (.t (.val d)) = some (d, ρ) := rfl
@[simp] theorem e_frz2 (ρ : Sl) (d : D) : frz1 ρ (.t (.own d)) = some (d, ρ) := rfl
@[simp] theorem e_frz3 (ρ : Sl) (i : Nat) : frz1 ρ (.p i) = frP i ρ ρ[i]? := by
  show (match ρ[i]? with | some (.val d) => some (d, ρ) | some (.own d) => some (d, ρ.set i (.val d)) | _ => none) = _
  cases ρ[i]? with
  | none => rfl
  | some s => cases s <;> rfl
@[simp] theorem e_frzN (ρ : Sl) : frzA ρ [] = some ([], ρ) := rfl
def frC1 (d : D) : Option (List D × Sl) → Option (List D × Sl)
  | some (ds, ρ) => some (d :: ds, ρ)
  | none => none
@[simp] theorem frC1_e1 (d : D) : frC1 d (some (ds, ρ)) = some (d :: ds, ρ) := rfl
@[simp] theorem frC1_e2 (d : D) : frC1 d none = none := rfl
def frC : Option (D × Sl) → List Od → Option (List D × Sl)
  | some (d, ρ1), os => frC1 d (frzA ρ1 os)
  | none, _ => none
@[simp] theorem frC_e1 : frC  (some (d, ρ1)) oz = frC1 d (frzA ρ1 oz) := rfl
@[simp] theorem frC_e2 : frC  none w1 = none := rfl
@[simp] theorem e_frzC (ρ : Sl) (o : Od) (os : List Od) : frzA ρ (o :: os) = frC (frz1 ρ o) os := by
  rw [frzA]
  cases frz1 ρ o with
  | none => rfl
  | some p =>
    obtain ⟨d, ρ1⟩ := p
    simp only [frC]
    cases frzA ρ1 os with
    | none => rfl
    | some q => rfl
def RO.eo : RO → Sl → EO
  | .ret d, ρ => .ok (.t (.val d)) ρ
  | .exc x, ρ => .ex x ρ
  | .no, _ => .no
@[simp] theorem RO.eo_e1 : RO.eo  (.ret d) ρ = .ok (.t (.val d)) ρ := rfl
@[simp] theorem RO.eo_e2 : RO.eo  (.exc x) ρ = .ex x ρ := rfl
@[simp] theorem RO.eo_e3 : RO.eo  (.no) w1 = .no := rfl
def callO (f : List D → FO) : Option (List D × Sl) → EO
  | some (ds, ρ) => (fo (f ds)).eo ρ
  | none => .no
@[simp] theorem callO_e1 (f : List D → FO) : callO f (some (ds, ρ)) = (fo (f ds)).eo ρ := rfl
@[simp] theorem callO_e2 (f : List D → FO) : callO f none = .no := rfl
def AO.call (f : List D → FO) : AO → EO
  | .ok os ρ => callO f (frzA ρ os)
  | .ex x ρ => .ex x ρ
  | .no => .no
@[simp] theorem AO.call_e1 (f : List D → FO) : AO.call f (.ok oz ρ) = callO f (frzA ρ oz) := rfl
@[simp] theorem AO.call_e2 (f : List D → FO) : AO.call f (.ex x ρ) = .ex x ρ := rfl
@[simp] theorem AO.call_e3 (f : List D → FO) : AO.call f (.no) = .no := rfl
@[simp] theorem e_dCall (f : List D → FO) (da : DAs) (ρ : Sl) : dCall f da ρ = (da ρ).call f := by
  unfold dCall
  cases da ρ with
  | ok os ρ1 =>
    simp only [AO.call]
    cases frzA ρ1 os with
    | none => rfl
    | some p =>
      obtain ⟨ds, ρ2⟩ := p
      simp only [callO]
      cases f ds <;> rfl
  | ex x ρ1 => rfl
  | no => rfl
def FO.io (k : Nat) (ρ : Sl) : FO → EO
  | .rt d s => .ok (.t (.val d)) (ρ.set k s)
  | .ex x s => .ex x (ρ.set k s)
  | .no => .no
@[simp] theorem FO.io_e1 (k : Nat) (ρ : Sl) : FO.io k ρ (.rt d s) = .ok (.t (.val d)) (ρ.set k s) := rfl
@[simp] theorem FO.io_e2 (k : Nat) (ρ : Sl) : FO.io k ρ (.ex x s) = .ex x (ρ.set k s) := rfl
@[simp] theorem FO.io_e3 (k : Nat) (ρ : Sl) : FO.io k ρ (.no) = .no := rfl
def ioF (f : List D → FO) (k : Nat) (ds : List D) (ρ : Sl) : Option SV → EO
  | some (.own d0) => (f (d0 :: ds)).io k ρ
  | some (.val _) => .no
  | some .no => .no
  | none => .no
@[simp] theorem ioF_e1 (f : List D → FO) (k : Nat) (ds : List D) (ρ : Sl) : ioF f k ds ρ (some (.own d0)) = (f (d0 :: ds)).io k ρ := rfl
@[simp] theorem ioF_e2 (f : List D → FO) (k : Nat) (ds : List D) (ρ : Sl) : ioF f k ds ρ (some (.val w1)) = .no := rfl
@[simp] theorem ioF_e3 (f : List D → FO) (k : Nat) (ds : List D) (ρ : Sl) : ioF f k ds ρ (some .no) = .no := rfl
@[simp] theorem ioF_e4 (f : List D → FO) (k : Nat) (ds : List D) (ρ : Sl) : ioF f k ds ρ none = .no := rfl
def ioO (f : List D → FO) (k : Nat) : Option (List D × Sl) → EO
  | some (ds, ρ) => ioF f k ds ρ ρ[k]?
  | none => .no
@[simp] theorem ioO_e1 (f : List D → FO) (k : Nat) : ioO f k (some (ds, ρ)) = ioF f k ds ρ ρ[k]? := rfl
@[simp] theorem ioO_e2 (f : List D → FO) (k : Nat) : ioO f k none = .no := rfl
def AO.io (f : List D → FO) (k : Nat) : AO → EO
  | .ok os ρ => ioO f k (frzA ρ os)
  | .ex x ρ => .ex x ρ
  | .no => .no
@[simp] theorem AO.io_e1 (f : List D → FO) (k : Nat) : AO.io f k (.ok oz ρ) = ioO f k (frzA ρ oz) := rfl
@[simp] theorem AO.io_e2 (f : List D → FO) (k : Nat) : AO.io f k (.ex x ρ) = .ex x ρ := rfl
@[simp] theorem AO.io_e3 (f : List D → FO) (k : Nat) : AO.io f k (.no) = .no := rfl
def ioS (f : List D → FO) (k : Nat) (da : DAs) (ρ : Sl) : Option SV → EO
  | some (.own _) => (da ρ).io f k
  | some (.val _) => .no
  | some .no => .no
  | none => .no
@[simp] theorem ioS_e1 (f : List D → FO) (k : Nat) (da : DAs) (ρ : Sl) : ioS f k da ρ (some (.own w1)) = (da ρ).io f k := rfl
@[simp] theorem ioS_e2 (f : List D → FO) (k : Nat) (da : DAs) (ρ : Sl) : ioS f k da ρ (some (.val w1)) = .no := rfl
@[simp] theorem ioS_e3 (f : List D → FO) (k : Nat) (da : DAs) (ρ : Sl) : ioS f k da ρ (some .no) = .no := rfl
@[simp] theorem ioS_e4 (f : List D → FO) (k : Nat) (da : DAs) (ρ : Sl) : ioS f k da ρ none = .no := rfl
@[simp] theorem e_dCallIo (f : List D → FO) (k : Nat) (da : DAs) (ρ : Sl) : dCallIo f k da ρ = ioS f k da ρ ρ[k]? := by
  unfold dCallIo
  cases ρ[k]? with
  | none => rfl
  | some s =>
    cases s with
    | no => rfl
    | val _ => rfl
    | own d =>
      simp only [ioS]
      cases da ρ with
      | ok os ρ1 =>
        simp only [AO.io]
        cases frzA ρ1 os with
        | none => rfl
        | some p =>
          obtain ⟨ds, ρ2⟩ := p
          simp only [ioO]
          cases ρ2[k]? with
          | none => rfl
          | some s2 =>
            cases s2 with
            | no => rfl
            | val _ => rfl
            | own d0 =>
              simp only [ioF]
              cases f (d0 :: ds) <;> rfl
      | ex x ρ1 => rfl
      | no => rfl
def tupO : Option (List D × Sl) → EO
  | some (ds, ρ) => if ds.length ≤ 100000 then .ok (.t (.val (.tuple ds))) ρ else .no
  | none => .no
@[simp] theorem tupO_e1 : tupO  (some (ds, ρ)) = if ds.length ≤ 100000 then .ok (.t (.val (.tuple ds))) ρ else .no := rfl
@[simp] theorem tupO_e2 : tupO  none = .no := rfl
def AO.tup : AO → EO
  | .ok os ρ => tupO (frzA ρ os)
  | .ex x ρ => .ex x ρ
  | .no => .no
@[simp] theorem AO.tup_e1 : AO.tup  (.ok oz ρ) = tupO (frzA ρ oz) := rfl
@[simp] theorem AO.tup_e2 : AO.tup  (.ex x ρ) = .ex x ρ := rfl
@[simp] theorem AO.tup_e3 : AO.tup  (.no) = .no := rfl
@[simp] theorem e_dTup (da : DAs) (ρ : Sl) : dTup da ρ = (da ρ).tup := by
  unfold dTup
  cases da ρ with
  | ok os ρ1 =>
    simp only [AO.tup]
    cases frzA ρ1 os <;> rfl
  | ex x ρ1 => rfl
  | no => rfl
def lstO : Option (List D × Sl) → EO
  | some (ds, ρ) => if ds.length ≤ 100000 then .ok (.t (.own (.list ds))) ρ else .no
  | none => .no
@[simp] theorem lstO_e1 : lstO  (some (ds, ρ)) = if ds.length ≤ 100000 then .ok (.t (.own (.list ds))) ρ else .no := rfl
@[simp] theorem lstO_e2 : lstO  none = .no := rfl
def AO.lst : AO → EO
  | .ok os ρ => lstO (frzA ρ os)
  | .ex x ρ => .ex x ρ
  | .no => .no
@[simp] theorem AO.lst_e1 : AO.lst  (.ok oz ρ) = lstO (frzA ρ oz) := rfl
@[simp] theorem AO.lst_e2 : AO.lst  (.ex x ρ) = .ex x ρ := rfl
@[simp] theorem AO.lst_e3 : AO.lst  (.no) = .no := rfl
@[simp] theorem e_dLst (da : DAs) (ρ : Sl) : dLst da ρ = (da ρ).lst := by
  unfold dLst
  cases da ρ with
  | ok os ρ1 =>
    simp only [AO.lst]
    cases frzA ρ1 os <;> rfl
  | ex x ρ1 => rfl
  | no => rfl
def truO (ρ : Sl) : Option Bool → BO
  | some b => .ok b ρ
  | none => .no
@[simp] theorem truO_e1 (ρ : Sl) : truO ρ (some b) = .ok b ρ := rfl
@[simp] theorem truO_e2 (ρ : Sl) : truO ρ none = .no := rfl
def truD (ρ : Sl) : Option D → BO
  | some x => truO ρ (truth x)
  | none => .no
@[simp] theorem truD_e1 (ρ : Sl) : truD ρ (some x) = truO ρ (truth x) := rfl
@[simp] theorem truD_e2 (ρ : Sl) : truD ρ none = .no := rfl
def EO.tru : EO → BO
  | .ok o ρ => truD ρ (res ρ o)
  | .ex x ρ => .ex x ρ
  | .no => .no
@[simp] theorem EO.tru_e1 : EO.tru  (.ok o ρ) = truD ρ (res ρ o) := rfl
@[simp] theorem EO.tru_e2 : EO.tru  (.ex x ρ) = .ex x ρ := rfl
@[simp] theorem EO.tru_e3 : EO.tru  (.no) = .no := rfl
@[simp] theorem e_dTru (d : DE) (ρ : Sl) : dTru d ρ = (d ρ).tru := by
  unfold dTru
  cases d ρ with
  | ok o ρ1 =>
    simp only [EO.tru]
    cases res ρ1 o with
    | none => rfl
    | some x =>
      simp only [truD]
      cases truth x <;> rfl
  | ex x ρ1 => rfl
  | no => rfl
@[simp] theorem truth_none : truth .none = some false := rfl
@[simp] theorem truth_bool (b : Bool) : truth (.bool b) = some b := rfl
@[simp] theorem truth_int (i : Int) : truth (.int i) = some (i != 0) := rfl
@[simp] theorem truth_list (ds : List D) : truth (.list ds) = some (!ds.isEmpty) := rfl
@[simp] theorem truth_tuple (ds : List D) : truth (.tuple ds) = some (!ds.isEmpty) := rfl
def tstO (ρ : Sl) : Od → BO
  | .t (.val (.bool b)) => .ok b ρ
  | _ => .no
@[simp] theorem tstO_e1 (ρ : Sl) : tstO ρ (.t (.val (.bool b))) = .ok b ρ := rfl
def EO.tst : EO → BO
  | .ok o ρ => tstO ρ o
  | .ex x ρ => .ex x ρ
  | .no => .no
@[simp] theorem EO.tst_e1 : EO.tst  (.ok o ρ) = tstO ρ o := rfl
@[simp] theorem EO.tst_e2 : EO.tst  (.ex x ρ) = .ex x ρ := rfl
@[simp] theorem EO.tst_e3 : EO.tst  (.no) = .no := rfl
@[simp] theorem e_dTst (d : DE) (ρ : Sl) : dTst d ρ = (d ρ).tst := by
  unfold dTst
  cases d ρ with
  | ok o ρ1 =>
    simp only [EO.tst]
    cases o with
    | p i => rfl
    | t s => cases s with
      | no => rfl
      | own d => rfl
      | val d => cases d <;> rfl
  | ex x ρ1 => rfl
  | no => rfl
def BO.notB : BO → BO
  | .ok b ρ => .ok (!b) ρ
  | .ex x ρ => .ex x ρ
  | .no => .no
@[simp] theorem BO.notB_e1 : BO.notB  (.ok b ρ) = .ok (!b) ρ := rfl
@[simp] theorem BO.notB_e2 : BO.notB  (.ex x ρ) = .ex x ρ := rfl
@[simp] theorem BO.notB_e3 : BO.notB  (.no) = .no := rfl
@[simp] theorem e_dNot (d : DB) (ρ : Sl) : dNot d ρ = (d ρ).notB := by
  unfold dNot
  cases d ρ <;> rfl
def BO.andB (b : DB) : BO → BO
  | .ok c ρ => if c = true then b ρ else .ok false ρ
  | .ex x ρ => .ex x ρ
  | .no => .no
@[simp] theorem BO.andB_e1 (b : DB) : BO.andB b (.ok c ρ) = if c = true then b ρ else .ok false ρ := rfl
@[simp] theorem BO.andB_e2 (b : DB) : BO.andB b (.ex x ρ) = .ex x ρ := rfl
@[simp] theorem BO.andB_e3 (b : DB) : BO.andB b (.no) = .no := rfl
@[simp] theorem e_dAnd (a b : DB) (ρ : Sl) : dAnd a b ρ = (a ρ).andB b := by
  unfold dAnd
  cases a ρ with
  | ok c ρ1 => cases c <;> rfl
  | ex x ρ1 => rfl
  | no => rfl
def BO.orB (b : DB) : BO → BO
  | .ok c ρ => if c = true then .ok true ρ else b ρ
  | .ex x ρ => .ex x ρ
  | .no => .no
@[simp] theorem BO.orB_e1 (b : DB) : BO.orB b (.ok c ρ) = if c = true then .ok true ρ else b ρ := rfl
@[simp] theorem BO.orB_e2 (b : DB) : BO.orB b (.ex x ρ) = .ex x ρ := rfl
@[simp] theorem BO.orB_e3 (b : DB) : BO.orB b (.no) = .no := rfl
@[simp] theorem e_dOr (a b : DB) (ρ : Sl) : dOr a b ρ = (a ρ).orB b := by
  unfold dOr
  cases a ρ with
  | ok c ρ1 => cases c <;> rfl
  | ex x ρ1 => rfl
  | no => rfl
def BO.ifE (a b : DE) : BO → EO
  | .ok c ρ => if c = true then a ρ else b ρ
  | .ex x ρ => .ex x ρ
  | .no => .no
@[simp] theorem BO.ifE_e1 (a b : DE) : BO.ifE a b (.ok c ρ) = if c = true then a ρ else b ρ := rfl
@[simp] theorem BO.ifE_e2 (a b : DE) : BO.ifE a b (.ex x ρ) = .ex x ρ := rfl
@[simp] theorem BO.ifE_e3 (a b : DE) : BO.ifE a b (.no) = .no := rfl
@[simp] theorem e_dIf (t : DB) (a b : DE) (ρ : Sl) : dIf t a b ρ = (t ρ).ifE a b := by
  unfold dIf
  cases t ρ with
  | ok c ρ1 => cases c <;> rfl
  | ex x ρ1 => rfl
  | no => rfl
def BO.ifS (a b : DS) : BO → SO
  | .ok c ρ => if c = true then a ρ else b ρ
  | .ex x ρ => .ex x ρ
  | .no => .no
@[simp] theorem BO.ifS_e1 (a b : DS) : BO.ifS a b (.ok c ρ) = if c = true then a ρ else b ρ := rfl
@[simp] theorem BO.ifS_e2 (a b : DS) : BO.ifS a b (.ex x ρ) = .ex x ρ := rfl
@[simp] theorem BO.ifS_e3 (a b : DS) : BO.ifS a b (.no) = .no := rfl
@[simp] theorem e_sIf (t : DB) (a b : DS) (ρ : Sl) : sIf t a b ρ = (t ρ).ifS a b := by
  unfold sIf
  cases t ρ with
  | ok c ρ1 => cases c <;> rfl
  | ex x ρ1 => rfl
  | no => rfl
def andO (b : DE) (ρ : Sl) : Od → EO
  | .t (.val (.bool c)) => if c = true then b ρ else .ok (.t (.val (.bool false))) ρ
  | _ => .no
@[simp] theorem andO_e1 (b : DE) (ρ : Sl) : andO b ρ (.t (.val (.bool c))) = if c = true then b ρ else .ok (.t (.val (.bool false))) ρ := rfl
def EO.andE (b : DE) : EO → EO
  | .ok o ρ => andO b ρ o
  | .ex x ρ => .ex x ρ
  | .no => .no
@[simp] theorem EO.andE_e1 (b : DE) : EO.andE b (.ok o ρ) = andO b ρ o := rfl
@[simp] theorem EO.andE_e2 (b : DE) : EO.andE b (.ex x ρ) = .ex x ρ := rfl
@[simp] theorem EO.andE_e3 (b : DE) : EO.andE b (.no) = .no := rfl
@[simp] theorem e_dAndV (a b : DE) (ρ : Sl) : dAndV a b ρ = (a ρ).andE b := by
  unfold dAndV
  cases a ρ with
  | ok o ρ1 =>
    simp only [EO.andE]
    cases o with
    | p i => rfl
    | t s => cases s with
      | no => rfl
      | own d => rfl
      | val d => cases d with
        | bool c => cases c <;> rfl
        | _ => rfl
  | ex x ρ1 => rfl
  | no => rfl
def orO (b : DE) (ρ : Sl) : Od → EO
  | .t (.val (.bool c)) => if c = true then .ok (.t (.val (.bool true))) ρ else b ρ
  | _ => .no
@[simp] theorem orO_e1 (b : DE) (ρ : Sl) : orO b ρ (.t (.val (.bool c))) = if c = true then .ok (.t (.val (.bool true))) ρ else b ρ := rfl
def EO.orE (b : DE) : EO → EO
  | .ok o ρ => orO b ρ o
  | .ex x ρ => .ex x ρ
  | .no => .no
@[simp] theorem EO.orE_e1 (b : DE) : EO.orE b (.ok o ρ) = orO b ρ o := rfl
@[simp] theorem EO.orE_e2 (b : DE) : EO.orE b (.ex x ρ) = .ex x ρ := rfl
@[simp] theorem EO.orE_e3 (b : DE) : EO.orE b (.no) = .no := rfl
@[simp] theorem e_dOrV (a b : DE) (ρ : Sl) : dOrV a b ρ = (a ρ).orE b := by
  unfold dOrV
  cases a ρ with
  | ok o ρ1 =>
    simp only [EO.orE]
    cases o with
    | p i => rfl
    | t s => cases s with
      | no => rfl
      | own d => rfl
      | val d => cases d with
        | bool c => cases c <;> rfl
        | _ => rfl
  | ex x ρ1 => rfl
  | no => rfl
def BO.val : BO → EO
  | .ok b ρ => .ok (.t (.val (.bool (!b)))) ρ
  | .ex x ρ => .ex x ρ
  | .no => .no
@[simp] theorem BO.val_e1 : BO.val  (.ok b ρ) = .ok (.t (.val (.bool (!b)))) ρ := rfl
@[simp] theorem BO.val_e2 : BO.val  (.ex x ρ) = .ex x ρ := rfl
@[simp] theorem BO.val_e3 : BO.val  (.no) = .no := rfl
@[simp] theorem e_dNotT (d : DE) (ρ : Sl) : dNotT d ρ = ((d ρ).tru).val := by
  unfold dNotT
  rw [e_dTru]
  cases (d ρ).tru <;> rfl
def chnZ (f' : List D → VO) (y : D) (ρ : Sl) : Option (List D) → EO
  | some [z] => (match f' [y, z] with
    | .v d => .ok (.t (.val d)) ρ
    | _ => .no)
  | _ => .no
@[simp] theorem chnZ_e1 (f' : List D → VO) (y : D) (ρ : Sl) : chnZ f' y ρ (some [z]) = (match f' [y, z] with
    | .v d => .ok (.t (.val d)) ρ
    | _ => .no) := rfl
def chnE (f' : List D → VO) (y : D) : AO → EO
  | .ok [o] ρ => chnZ f' y ρ (resA ρ [o])
  | .ex x ρ => .ex x ρ
  | _ => .no
@[simp] theorem chnE_e1 (f' : List D → VO) (y : D) : chnE f' y (.ok [o] ρ) = chnZ f' y ρ (resA ρ [o]) := rfl
@[simp] theorem chnE_e2 (f' : List D → VO) (y : D) : chnE f' y (.ex x ρ) = .ex x ρ := rfl
def chnB (f' : List D → VO) (y : D) (e : DE) (ρ : Sl) : VO → EO
  | .v (.bool c) => if c = true then chnE f' y (daC e daN ρ) else .ok (.t (.val (.bool false))) ρ
  | _ => .no
@[simp] theorem chnB_e1 (f' : List D → VO) (y : D) (e : DE) (ρ : Sl) : chnB f' y e ρ (.v (.bool c)) = if c = true then chnE f' y (daC e daN ρ) else .ok (.t (.val (.bool false))) ρ := rfl
def chnO (f f' : List D → VO) (y : D) (e : DE) (ρ : Sl) : Option (List D) → EO
  | some ds => chnB f' y e ρ (f ds)
  | none => .no
@[simp] theorem chnO_e1 (f f' : List D → VO) (y : D) (e : DE) (ρ : Sl) : chnO f f' y e ρ (some ds) = chnB f' y e ρ (f ds) := rfl
@[simp] theorem chnO_e2 (f f' : List D → VO) (y : D) (e : DE) (ρ : Sl) : chnO f f' y e ρ none = .no := rfl
def chnA (f f' : List D → VO) (e : DE) : AO → EO
  | .ok [o1, .t (.val y)] ρ => chnO f f' y e ρ (resA ρ [o1, .t (.val y)])
  | .ex x ρ => .ex x ρ
  | _ => .no
@[simp] theorem chnA_e1 (f f' : List D → VO) (e : DE) : chnA f f' e (.ok [o1, .t (.val y)] ρ) = chnO f f' y e ρ (resA ρ [o1, .t (.val y)]) := rfl
@[simp] theorem chnA_e2 (f f' : List D → VO) (e : DE) : chnA f f' e (.ex x ρ) = .ex x ρ := rfl
@[simp] theorem e_dChain (f f' : List D → VO) (a b e : DE) (ρ : Sl) : dChain f f' a b e ρ = chnA f f' e (daC a (daC b daN) ρ) := by
  unfold dChain
  cases daC a (daC b daN) ρ with
  | no => rfl
  | ex x ρ1 => rfl
  | ok os ρ1 =>
    match os with
    | [] => rfl
    | [_] => rfl
    | _ :: b1 :: _ :: _ =>
      cases b1 with
      | p _ => rfl
      | t s => cases s <;> rfl
    | [_, .p _] => rfl
    | [_, .t .no] => rfl
    | [_, .t (.own _)] => rfl
    | [o1, .t (.val y)] =>
      simp only [chnA]
      cases resA ρ1 [o1, .t (.val y)] with
      | none => rfl
      | some ds =>
        simp only [chnO]
        cases f ds with
        | no => rfl
        | n _ => rfl
        | v d => cases d with
          | bool c =>
            cases c with
            | false => rfl
            | true =>
              simp only [chnB, if_true]
              cases daC e daN ρ1 with
              | no => rfl
              | ex x ρ2 => rfl
              | ok os2 ρ2 =>
                match os2 with
                | [] => rfl
                | _ :: _ :: _ => rfl
                | [o3] =>
                  simp only [chnE]
                  match resA ρ2 [o3] with
                  | none => rfl
                  | some [] => rfl
                  | some (_ :: _ :: _) => rfl
                  | some [z] => rfl
          | _ => rfl
def strO (ρ : Sl) : Od → EO
  | .t (.val (.str x)) => .ok (.t (.val (.str x))) ρ
  | _ => .no
@[simp] theorem strO_e1 (ρ : Sl) : strO ρ (.t (.val (.str x))) = .ok (.t (.val (.str x))) ρ := rfl
def EO.strE : EO → EO
  | .ok o ρ => strO ρ o
  | .ex x ρ => .ex x ρ
  | .no => .no
@[simp] theorem EO.strE_e1 : EO.strE  (.ok o ρ) = strO ρ o := rfl
@[simp] theorem EO.strE_e2 : EO.strE  (.ex x ρ) = .ex x ρ := rfl
@[simp] theorem EO.strE_e3 : EO.strE  (.no) = .no := rfl
@[simp] theorem e_dStr (d : DE) (ρ : Sl) : dStr d ρ = (d ρ).strE := by
  unfold dStr
  cases d ρ with
  | ok o ρ1 =>
    cases o with
    | p i => rfl
    | t s => cases s with
      | no => rfl
      | own d => rfl
      | val d => cases d <;> rfl
  | ex x ρ1 => rfl
  | no => rfl
def intO (ρ : Sl) : Od → EO
  | .t (.val (.int x)) => .ok (.t (.val (.int x))) ρ
  | _ => .no
@[simp] theorem intO_e1 (ρ : Sl) : intO ρ (.t (.val (.int x))) = .ok (.t (.val (.int x))) ρ := rfl
def EO.intE : EO → EO
  | .ok o ρ => intO ρ o
  | .ex x ρ => .ex x ρ
  | .no => .no
@[simp] theorem EO.intE_e1 : EO.intE  (.ok o ρ) = intO ρ o := rfl
@[simp] theorem EO.intE_e2 : EO.intE  (.ex x ρ) = .ex x ρ := rfl
@[simp] theorem EO.intE_e3 : EO.intE  (.no) = .no := rfl
@[simp] theorem e_dInt (d : DE) (ρ : Sl) : dInt d ρ = (d ρ).intE := by
  unfold dInt
  cases d ρ with
  | ok o ρ1 =>
    cases o with
    | p i => rfl
    | t s => cases s with
      | no => rfl
      | own d => rfl
      | val d => cases d <;> rfl
  | ex x ρ1 => rfl
  | no => rfl
def fzO : Option (D × Sl) → EO
  | some (x, ρ) => .ok (.t (.val x)) ρ
  | none => .no
@[simp] theorem fzO_e1 : fzO  (some (x, ρ)) = .ok (.t (.val x)) ρ := rfl
@[simp] theorem fzO_e2 : fzO  none = .no := rfl
def EO.fz : EO → EO
  | .ok o ρ => fzO (frz1 ρ o)
  | .ex x ρ => .ex x ρ
  | .no => .no
@[simp] theorem EO.fz_e1 : EO.fz  (.ok o ρ) = fzO (frz1 ρ o) := rfl
@[simp] theorem EO.fz_e2 : EO.fz  (.ex x ρ) = .ex x ρ := rfl
@[simp] theorem EO.fz_e3 : EO.fz  (.no) = .no := rfl
@[simp] theorem e_dFz (d : DE) (ρ : Sl) : dFz d ρ = (d ρ).fz := by
  unfold dFz
  cases d ρ with
  | ok o ρ1 =>
    simp only [EO.fz]
    cases frz1 ρ1 o <;> rfl
  | ex x ρ1 => rfl
  | no => rfl
/-! statements -/
def SO.seq (b : DS) : SO → SO
  | .nx ρ => b ρ
  | .rt d ρ => .rt d ρ
  | .bk ρ => .bk ρ
  | .ct ρ => .ct ρ
  | .ex x ρ => .ex x ρ
  | .no => .no
@[simp] theorem SO.seq_e1 (b : DS) : SO.seq b (.nx ρ) = b ρ := rfl
@[simp] theorem SO.seq_e2 (b : DS) : SO.seq b (.rt d ρ) = .rt d ρ := rfl
@[simp] theorem SO.seq_e3 (b : DS) : SO.seq b (.bk ρ) = .bk ρ := rfl
@[simp] theorem SO.seq_e4 (b : DS) : SO.seq b (.ct ρ) = .ct ρ := rfl
@[simp] theorem SO.seq_e5 (b : DS) : SO.seq b (.ex x ρ) = .ex x ρ := rfl
@[simp] theorem SO.seq_e6 (b : DS) : SO.seq b (.no) = .no := rfl
@[simp] theorem e_sSeq (a b : DS) (ρ : Sl) : sSeq a b ρ = (a ρ).seq b := by
  unfold sSeq
  cases a ρ <;> rfl
@[simp] theorem e_sNil (ρ : Sl) : sNil ρ = .nx ρ := rfl
@[simp] theorem e_sBrk (ρ : Sl) : sBrk ρ = .bk ρ := rfl
@[simp] theorem e_sCnt (ρ : Sl) : sCnt ρ = .ct ρ := rfl
@[simp] theorem e_sRetN (ρ : Sl) : sRetN ρ = .rt .none ρ := rfl
def retO : Option (D × Sl) → SO
  | some (x, ρ) => .rt x ρ
  | none => .no
@[simp] theorem retO_e1 : retO  (some (x, ρ)) = .rt x ρ := rfl
@[simp] theorem retO_e2 : retO  none = .no := rfl
def EO.ret : EO → SO
  | .ok o ρ => retO (frz1 ρ o)
  | .ex x ρ => .ex x ρ
  | .no => .no
@[simp] theorem EO.ret_e1 : EO.ret  (.ok o ρ) = retO (frz1 ρ o) := rfl
@[simp] theorem EO.ret_e2 : EO.ret  (.ex x ρ) = .ex x ρ := rfl
@[simp] theorem EO.ret_e3 : EO.ret  (.no) = .no := rfl
@[simp] theorem e_sRet (d : DE) (ρ : Sl) : sRet d ρ = (d ρ).ret := by
  unfold sRet
  cases d ρ with
  | ok o ρ1 =>
    simp only [EO.ret]
    cases frz1 ρ1 o <;> rfl
  | ex x ρ1 => rfl
  | no => rfl
def EO.drop : EO → SO
  | .ok _ ρ => .nx ρ
  | .ex x ρ => .ex x ρ
  | .no => .no
@[simp] theorem EO.drop_e1 : EO.drop  (.ok w1 ρ) = .nx ρ := rfl
@[simp] theorem EO.drop_e2 : EO.drop  (.ex x ρ) = .ex x ρ := rfl
@[simp] theorem EO.drop_e3 : EO.drop  (.no) = .no := rfl
@[simp] theorem e_sDrop (d : DE) (ρ : Sl) : sDrop d ρ = (d ρ).drop := by
  unfold sDrop
  cases d ρ <;> rfl
def setP (i j : Nat) (ρ : Sl) : Option SV → SO
  | some (.val x) => .nx (ρ.set i (.val x))
  | some (.own x) => .nx ((ρ.set j (.val x)).set i (.val x))
  | some .no => .no
  | none => .no
@[simp] theorem setP_e1 (i j : Nat) (ρ : Sl) : setP i j ρ (some (.val x)) = .nx (ρ.set i (.val x)) := rfl
@[simp] theorem setP_e2 (i j : Nat) (ρ : Sl) : setP i j ρ (some (.own x)) = .nx ((ρ.set j (.val x)).set i (.val x)) := rfl
@[simp] theorem setP_e3 (i j : Nat) (ρ : Sl) : setP i j ρ (some .no) = .no := rfl
@[simp] theorem setP_e4 (i j : Nat) (ρ : Sl) : setP i j ρ none = .no := rfl
def EO.set (i : Nat) : EO → SO
  | .ok (.t s) ρ => .nx (ρ.set i s)
  | .ok (.p j) ρ => setP i j ρ ρ[j]?
  | .ex x ρ => .ex x ρ
  | .no => .no
@[simp] theorem EO.set_e1 (i : Nat) : EO.set i (.ok (.t s) ρ) = .nx (ρ.set i s) := rfl
@[simp] theorem EO.set_e2 (i : Nat) : EO.set i (.ok (.p j) ρ) = setP i j ρ ρ[j]? := rfl
@[simp] theorem EO.set_e3 (i : Nat) : EO.set i (.ex x ρ) = .ex x ρ := rfl
@[simp] theorem EO.set_e4 (i : Nat) : EO.set i (.no) = .no := rfl
@[simp] theorem e_sSet (i : Nat) (d : DE) (ρ : Sl) : sSet i d ρ = (d ρ).set i := by
  unfold sSet
  cases d ρ with
  | ok o ρ1 =>
    cases o with
    | t s => rfl
    | p j =>
      simp only [EO.set]
      cases ρ1[j]? with
      | none => rfl
      | some s => cases s <;> rfl
  | ex x ρ1 => rfl
  | no => rfl
def nxO : Option Sl → SO
  | some ρ => .nx ρ
  | none => .no
@[simp] theorem nxO_e1 : nxO  (some ρ) = .nx ρ := rfl
@[simp] theorem nxO_e2 : nxO  none = .no := rfl
def asgO (dg : DG) : Option (D × Sl) → SO
  | some (x, ρ) => nxO (dg x ρ)
  | none => .no
@[simp] theorem asgO_e1 (dg : DG) : asgO dg (some (x, ρ)) = nxO (dg x ρ) := rfl
@[simp] theorem asgO_e2 (dg : DG) : asgO dg none = .no := rfl
def EO.asg (dg : DG) : EO → SO
  | .ok o ρ => asgO dg (frz1 ρ o)
  | .ex x ρ => .ex x ρ
  | .no => .no
@[simp] theorem EO.asg_e1 (dg : DG) : EO.asg dg (.ok o ρ) = asgO dg (frz1 ρ o) := rfl
@[simp] theorem EO.asg_e2 (dg : DG) : EO.asg dg (.ex x ρ) = .ex x ρ := rfl
@[simp] theorem EO.asg_e3 (dg : DG) : EO.asg dg (.no) = .no := rfl
@[simp] theorem e_sAsg (dg : DG) (d : DE) (ρ : Sl) : sAsg dg d ρ = (d ρ).asg dg := by
  unfold sAsg
  cases d ρ with
  | ok o ρ1 =>
    simp only [EO.asg]
    cases frz1 ρ1 o with
    | none => rfl
    | some p =>
      obtain ⟨x, ρ2⟩ := p
      simp only [asgO]
      cases dg x ρ2 <;> rfl
  | ex x ρ1 => rfl
  | no => rfl
@[simp] theorem e_gN (i : Nat) (d : D) (ρ : Sl) : gN i d ρ = some (ρ.set i (.val d)) := rfl
@[simp] theorem e_gsN (ρ : Sl) : gsN [] ρ = some ρ := rfl
def gsK (gs : List D → Sl → Option Sl) (ds : List D) : Option Sl → Option Sl
  | some ρ => gs ds ρ
  | none => none
@[simp] theorem gsK_e1 (gs : List D → Sl → Option Sl) (ds : List D) : gsK gs ds (some ρ) = gs ds ρ := rfl
@[simp] theorem gsK_e2 (gs : List D → Sl → Option Sl) (ds : List D) : gsK gs ds none = none := rfl
@[simp] theorem e_gsC (g : DG) (gs : List D → Sl → Option Sl) (d : D) (ds : List D) (ρ : Sl) : gsC g gs (d :: ds) ρ = gsK gs ds (g d ρ) := by
  unfold gsC
  simp only
  cases g d ρ <;> rfl
@[simp] theorem e_gT (gs : List D → Sl → Option Sl) (n : Nat) (ds : List D) (ρ : Sl) : gT gs n (.tuple ds) ρ = if ds.length = n then gs ds ρ else none := rfl
def svO (i : Nat) (ρ : Sl) : Option SV → Option (SV × Sl)
  | some (.val d) => some (.val d, ρ)
  | some (.own d) => some (.val d, ρ.set i (.val d))
  | some .no => none
  | none => none
@[simp] theorem svO_e1 (i : Nat) (ρ : Sl) : svO i ρ (some (.val d)) = some (.val d, ρ) := rfl
@[simp] theorem svO_e2 (i : Nat) (ρ : Sl) : svO i ρ (some (.own d)) = some (.val d, ρ.set i (.val d)) := rfl
@[simp] theorem svO_e3 (i : Nat) (ρ : Sl) : svO i ρ (some .no) = none := rfl
@[simp] theorem svO_e4 (i : Nat) (ρ : Sl) : svO i ρ none = none := rfl
@[simp] theorem e_sv1 (s : SV) (ρ : Sl) : sv1 ρ (.t s) = some (s, ρ) := rfl
@[simp] theorem e_sv2 (i : Nat) (ρ : Sl) : sv1 ρ (.p i) = svO i ρ ρ[i]? := by
  show (match ρ[i]? with | some (.val d) => some (SV.val d, ρ) | some (.own d) => some (SV.val d, ρ.set i (.val d)) | _ => none) = _
  cases ρ[i]? with
  | none => rfl
  | some s => cases s <;> rfl
def svC1 (s : SV) : Option (List SV × Sl) → Option (List SV × Sl)
  | some (ss, ρ) => some (s :: ss, ρ)
  | none => none
@[simp] theorem svC1_e1 (s : SV) : svC1 s (some (ss, ρ)) = some (s :: ss, ρ) := rfl
@[simp] theorem svC1_e2 (s : SV) : svC1 s none = none := rfl
def svC : Option (SV × Sl) → List Od → Option (List SV × Sl)
  | some (s, ρ1), os => svC1 s (svA ρ1 os)
  | none, _ => none
@[simp] theorem svC_e1 : svC  (some (s, ρ1)) oz = svC1 s (svA ρ1 oz) := rfl
@[simp] theorem svC_e2 : svC  none w1 = none := rfl
@[simp] theorem e_svN (ρ : Sl) : svA ρ [] = some ([], ρ) := rfl
@[simp] theorem e_svC (ρ : Sl) (o : Od) (os : List Od) : svA ρ (o :: os) = svC (sv1 ρ o) os := by
  rw [svA]
  cases sv1 ρ o with
  | none => rfl
  | some p =>
    obtain ⟨s, ρ1⟩ := p
    simp only [svC]
    cases svA ρ1 os with
    | none => rfl
    | some q => rfl
@[simp] theorem e_setN (ρ : Sl) : setAll ρ [] [] = ρ := rfl
@[simp] theorem e_setC (ρ : Sl) (i : Nat) (is : List Nat) (s : SV) (ss : List SV) : setAll ρ (i :: is) (s :: ss) = setAll (ρ.set i s) is ss := rfl
def parO (is : List Nat) : Option (List SV × Sl) → SO
  | some (ss, ρ) => .nx (setAll ρ is ss)
  | none => .no
@[simp] theorem parO_e1 (is : List Nat) : parO is (some (ss, ρ)) = .nx (setAll ρ is ss) := rfl
@[simp] theorem parO_e2 (is : List Nat) : parO is none = .no := rfl
def AO.par (is : List Nat) : AO → SO
  | .ok os ρ => parO is (svA ρ os)
  | .ex x ρ => .ex x ρ
  | .no => .no
@[simp] theorem AO.par_e1 (is : List Nat) : AO.par is (.ok oz ρ) = parO is (svA ρ oz) := rfl
@[simp] theorem AO.par_e2 (is : List Nat) : AO.par is (.ex x ρ) = .ex x ρ := rfl
@[simp] theorem AO.par_e3 (is : List Nat) : AO.par is (.no) = .no := rfl
@[simp] theorem e_sPar (is : List Nat) (da : DAs) (ρ : Sl) : sPar is da ρ = (da ρ).par is := by
  unfold sPar
  cases da ρ with
  | ok os ρ1 =>
    simp only [AO.par]
    cases svA ρ1 os <;> rfl
  | ex x ρ1 => rfl
  | no => rfl
def rsO (x : Str) (fns : List Str) : Option (List D × Sl) → SO
  | some (ds, ρ) => .ex ⟨x, (fns.zip ds).reverse⟩ ρ
  | none => .no
@[simp] theorem rsO_e1 (x : Str) (fns : List Str) : rsO x fns (some (ds, ρ)) = .ex ⟨x, (fns.zip ds).reverse⟩ ρ := rfl
@[simp] theorem rsO_e2 (x : Str) (fns : List Str) : rsO x fns none = .no := rfl
def AO.rs (x : Str) (fns : List Str) : AO → SO
  | .ok os ρ => rsO x fns (frzA ρ os)
  | .ex y ρ => .ex y ρ
  | .no => .no
@[simp] theorem AO.rs_e1 (x : Str) (fns : List Str) : AO.rs x fns (.ok oz ρ) = rsO x fns (frzA ρ oz) := rfl
@[simp] theorem AO.rs_e2 (x : Str) (fns : List Str) : AO.rs x fns (.ex y ρ) = .ex y ρ := rfl
@[simp] theorem AO.rs_e3 (x : Str) (fns : List Str) : AO.rs x fns (.no) = .no := rfl
@[simp] theorem e_sRaise (x : Str) (fns : List Str) (da : DAs) (ρ : Sl) : sRaise x fns da ρ = (da ρ).rs x fns := by
  unfold sRaise
  cases da ρ with
  | ok os ρ1 =>
    simp only [AO.rs]
    cases frzA ρ1 os <;> rfl
  | ex x ρ1 => rfl
  | no => rfl
def augV (i : Nat) (ρ : Sl) : VO → SO
  | .v z => .nx (ρ.set i (.val z))
  | .n _ => .no
  | .no => .no
@[simp] theorem augV_e1 (i : Nat) (ρ : Sl) : augV i ρ (.v z) = .nx (ρ.set i (.val z)) := rfl
@[simp] theorem augV_e2 (i : Nat) (ρ : Sl) : augV i ρ (.n w1) = .no := rfl
@[simp] theorem augV_e3 (i : Nat) (ρ : Sl) : augV i ρ (.no) = .no := rfl
def augO (i : Nat) (f : List D → VO) (a : D) (ρ : Sl) : Option D → SO
  | some b => augV i ρ (f [a, b])
  | none => .no
@[simp] theorem augO_e1 (i : Nat) (f : List D → VO) (a : D) (ρ : Sl) : augO i f a ρ (some b) = augV i ρ (f [a, b]) := rfl
@[simp] theorem augO_e2 (i : Nat) (f : List D → VO) (a : D) (ρ : Sl) : augO i f a ρ none = .no := rfl
def augE (i : Nat) (f : List D → VO) (a : D) : EO → SO
  | .ok o ρ => augO i f a ρ (res ρ o)
  | .ex x ρ => .ex x ρ
  | .no => .no
@[simp] theorem augE_e1 (i : Nat) (f : List D → VO) (a : D) : augE i f a (.ok o ρ) = augO i f a ρ (res ρ o) := rfl
@[simp] theorem augE_e2 (i : Nat) (f : List D → VO) (a : D) : augE i f a (.ex x ρ) = .ex x ρ := rfl
@[simp] theorem augE_e3 (i : Nat) (f : List D → VO) (a : D) : augE i f a (.no) = .no := rfl
def augS (i : Nat) (f : List D → VO) (d : DE) (ρ : Sl) : Option SV → SO
  | some (.val a) => augE i f a (d ρ)
  | some (.own _) => .no
  | some .no => .no
  | none => .no
@[simp] theorem augS_e1 (i : Nat) (f : List D → VO) (d : DE) (ρ : Sl) : augS i f d ρ (some (.val a)) = augE i f a (d ρ) := rfl
@[simp] theorem augS_e2 (i : Nat) (f : List D → VO) (d : DE) (ρ : Sl) : augS i f d ρ (some (.own w1)) = .no := rfl
@[simp] theorem augS_e3 (i : Nat) (f : List D → VO) (d : DE) (ρ : Sl) : augS i f d ρ (some .no) = .no := rfl
@[simp] theorem augS_e4 (i : Nat) (f : List D → VO) (d : DE) (ρ : Sl) : augS i f d ρ none = .no := rfl
@[simp] theorem e_sAug (i : Nat) (f : List D → VO) (d : DE) (ρ : Sl) : sAug i f d ρ = augS i f d ρ ρ[i]? := by
  unfold sAug
  cases ρ[i]? with
  | none => rfl
  | some s =>
    cases s with
    | no => rfl
    | own _ => rfl
    | val a =>
      simp only [augS]
      cases d ρ with
      | no => rfl
      | ex x ρ1 => rfl
      | ok o ρ1 =>
        simp only [augE]
        cases res ρ1 o with
        | none => rfl
        | some b =>
          simp only [augO]
          cases f [a, b] <;> rfl
def mutD (k : Nat) (ρ : Sl) : Option (D × D) → EO
  | some (z, d1) => .ok (.t (.val z)) (ρ.set k (.own d1))
  | none => .no
@[simp] theorem mutD_e1 (k : Nat) (ρ : Sl) : mutD k ρ (some (z, d1)) = .ok (.t (.val z)) (ρ.set k (.own d1)) := rfl
@[simp] theorem mutD_e2 (k : Nat) (ρ : Sl) : mutD k ρ none = .no := rfl
def mutF (k : Nat) (f : MF) (ds : List D) (ρ : Sl) : Option SV → EO
  | some (.own d0) => mutD k ρ (f d0 ds)
  | some (.val _) => .no
  | some .no => .no
  | none => .no
@[simp] theorem mutF_e1 (k : Nat) (f : MF) (ds : List D) (ρ : Sl) : mutF k f ds ρ (some (.own d0)) = mutD k ρ (f d0 ds) := rfl
@[simp] theorem mutF_e2 (k : Nat) (f : MF) (ds : List D) (ρ : Sl) : mutF k f ds ρ (some (.val w1)) = .no := rfl
@[simp] theorem mutF_e3 (k : Nat) (f : MF) (ds : List D) (ρ : Sl) : mutF k f ds ρ (some .no) = .no := rfl
@[simp] theorem mutF_e4 (k : Nat) (f : MF) (ds : List D) (ρ : Sl) : mutF k f ds ρ none = .no := rfl
def mutO (k : Nat) (f : MF) : Option (List D × Sl) → EO
  | some (ds, ρ) => mutF k f ds ρ ρ[k]?
  | none => .no
@[simp] theorem mutO_e1 (k : Nat) (f : MF) : mutO k f (some (ds, ρ)) = mutF k f ds ρ ρ[k]? := rfl
@[simp] theorem mutO_e2 (k : Nat) (f : MF) : mutO k f none = .no := rfl
def AO.mut (k : Nat) (f : MF) : AO → EO
  | .ok os ρ => mutO k f (frzA ρ os)
  | .ex x ρ => .ex x ρ
  | .no => .no
@[simp] theorem AO.mut_e1 (k : Nat) (f : MF) : AO.mut k f (.ok oz ρ) = mutO k f (frzA ρ oz) := rfl
@[simp] theorem AO.mut_e2 (k : Nat) (f : MF) : AO.mut k f (.ex x ρ) = .ex x ρ := rfl
@[simp] theorem AO.mut_e3 (k : Nat) (f : MF) : AO.mut k f (.no) = .no := rfl
def mutS (T : String) (k : Nat) (f : MF) (da : DAs) (ρ : Sl) : Option SV → EO
  | some (.own d) => if tyOk T d = true then (da ρ).mut k f else .no
  | some (.val _) => .no
  | some .no => .no
  | none => .no
@[simp] theorem mutS_e1 (T : String) (k : Nat) (f : MF) (da : DAs) (ρ : Sl) : mutS T k f da ρ (some (.own d)) = if tyOk T d = true then (da ρ).mut k f else .no := rfl
@[simp] theorem mutS_e2 (T : String) (k : Nat) (f : MF) (da : DAs) (ρ : Sl) : mutS T k f da ρ (some (.val w1)) = .no := rfl
@[simp] theorem mutS_e3 (T : String) (k : Nat) (f : MF) (da : DAs) (ρ : Sl) : mutS T k f da ρ (some .no) = .no := rfl
@[simp] theorem mutS_e4 (T : String) (k : Nat) (f : MF) (da : DAs) (ρ : Sl) : mutS T k f da ρ none = .no := rfl
@[simp] theorem e_dMut (T : String) (k : Nat) (f : MF) (da : DAs) (ρ : Sl) : dMut T k f da ρ = mutS T k f da ρ ρ[k]? := by
  unfold dMut
  cases ρ[k]? with
  | none => rfl
  | some s =>
    cases s with
    | no => rfl
    | val _ => rfl
    | own d =>
      simp only [mutS]
      by_cases h : tyOk T d = true
      · rw [if_pos h, if_pos h]
        cases da ρ with
        | ok os ρ1 =>
          simp only [AO.mut]
          cases frzA ρ1 os with
          | none => rfl
          | some p =>
            obtain ⟨ds, ρ2⟩ := p
            simp only [mutO]
            cases ρ2[k]? with
            | none => rfl
            | some s2 =>
              cases s2 with
              | no => rfl
              | val _ => rfl
              | own d0 =>
                simp only [mutF]
                cases f d0 ds <;> rfl
        | ex x ρ1 => rfl
        | no => rfl
      · rw [if_neg h, if_neg h]
def ixlD (k : Nat) (x : D) (ρ : Sl) : Option Nat → List D → SO
  | some j, ds => .nx (ρ.set k (.own (.list (ds.set j x))))
  | none, _ => .no
@[simp] theorem ixlD_e1 (k : Nat) (x : D) (ρ : Sl) : ixlD k x ρ (some j) ds = .nx (ρ.set k (.own (.list (ds.set j x)))) := rfl
@[simp] theorem ixlD_e2 (k : Nat) (x : D) (ρ : Sl) : ixlD k x ρ none w1 = .no := rfl
def ixlF (k : Nat) (x : D) (i : Int) (ρ : Sl) : Option SV → SO
  | some (.own (.list ds)) => ixlD k x ρ (ixN ds.length i) ds
  | _ => .no
@[simp] theorem ixlF_e1 (k : Nat) (x : D) (i : Int) (ρ : Sl) : ixlF k x i ρ (some (.own (.list ds))) = ixlD k x ρ (ixN ds.length i) ds := rfl
def ixlI (k : Nat) (x : D) : EO → SO
  | .ok (.t (.val (.int i))) ρ => ixlF k x i ρ ρ[k]?
  | .ex y ρ => .ex y ρ
  | _ => .no
@[simp] theorem ixlI_e1 (k : Nat) (x : D) : ixlI k x (.ok (.t (.val (.int i))) ρ) = ixlF k x i ρ ρ[k]? := rfl
@[simp] theorem ixlI_e2 (k : Nat) (x : D) : ixlI k x (.ex y ρ) = .ex y ρ := rfl
def ixlS (k : Nat) (x : D) (di : DE) (ρ : Sl) : Option SV → SO
  | some (.own _) => ixlI k x (di ρ)
  | some (.val _) => .no
  | some .no => .no
  | none => .no
@[simp] theorem ixlS_e1 (k : Nat) (x : D) (di : DE) (ρ : Sl) : ixlS k x di ρ (some (.own w1)) = ixlI k x (di ρ) := rfl
@[simp] theorem ixlS_e2 (k : Nat) (x : D) (di : DE) (ρ : Sl) : ixlS k x di ρ (some (.val w1)) = .no := rfl
@[simp] theorem ixlS_e3 (k : Nat) (x : D) (di : DE) (ρ : Sl) : ixlS k x di ρ (some .no) = .no := rfl
@[simp] theorem ixlS_e4 (k : Nat) (x : D) (di : DE) (ρ : Sl) : ixlS k x di ρ none = .no := rfl
def ixlO (k : Nat) (di : DE) : Option (D × Sl) → SO
  | some (x, ρ) => ixlS k x di ρ ρ[k]?
  | none => .no
@[simp] theorem ixlO_e1 (k : Nat) (di : DE) : ixlO k di (some (x, ρ)) = ixlS k x di ρ ρ[k]? := rfl
@[simp] theorem ixlO_e2 (k : Nat) (di : DE) : ixlO k di none = .no := rfl
def EO.ixl (k : Nat) (di : DE) : EO → SO
  | .ok o ρ => ixlO k di (frz1 ρ o)
  | .ex y ρ => .ex y ρ
  | .no => .no
@[simp] theorem EO.ixl_e1 (k : Nat) (di : DE) : EO.ixl k di (.ok o ρ) = ixlO k di (frz1 ρ o) := rfl
@[simp] theorem EO.ixl_e2 (k : Nat) (di : DE) : EO.ixl k di (.ex y ρ) = .ex y ρ := rfl
@[simp] theorem EO.ixl_e3 (k : Nat) (di : DE) : EO.ixl k di (.no) = .no := rfl
@[simp] theorem e_sIxL (k : Nat) (d di : DE) (ρ : Sl) : sIxL k d di ρ = (d ρ).ixl k di := by
  unfold sIxL
  cases d ρ with
  | ok o ρ0 =>
    simp only [EO.ixl]
    cases frz1 ρ0 o with
    | none => rfl
    | some p =>
      obtain ⟨x, ρ1⟩ := p
      simp only [ixlO]
      cases ρ1[k]? with
      | none => rfl
      | some s =>
        cases s with
        | no => rfl
        | val _ => rfl
        | own d0 =>
          simp only [ixlS]
          cases di ρ1 with
          | no => rfl
          | ex y ρ2 => rfl
          | ok o2 ρ2 =>
            cases o2 with
            | p _ => rfl
            | t s2 => cases s2 with
              | no => rfl
              | own _ => rfl
              | val d2 => cases d2 with
                | int i =>
                  simp only [ixlI]
                  cases ρ2[k]? with
                  | none => rfl
                  | some s3 => cases s3 with
                    | no => rfl
                    | val _ => rfl
                    | own d3 => cases d3 with
                      | list ds =>
                        simp only [ixlF]
                        cases ixN ds.length i <;> rfl
                      | _ => rfl
                | _ => rfl
  | ex x ρ1 => rfl
  | no => rfl
/-! what is walked -/
def itD (x : D) (ρ : Sl) : Option (List D) → IO
  | some ds => .ok x ds ρ
  | none => .no
@[simp] theorem itD_e1 (x : D) (ρ : Sl) : itD x ρ (some ds) = .ok x ds ρ := rfl
@[simp] theorem itD_e2 (x : D) (ρ : Sl) : itD x ρ none = .no := rfl
def itO : Option (D × Sl) → IO
  | some (x, ρ) => itD x ρ (itemsD x)
  | none => .no
@[simp] theorem itO_e1 : itO  (some (x, ρ)) = itD x ρ (itemsD x) := rfl
@[simp] theorem itO_e2 : itO  none = .no := rfl
def EO.it : EO → IO
  | .ok o ρ => itO (frz1 ρ o)
  | .ex y ρ => .ex y ρ
  | .no => .no
@[simp] theorem EO.it_e1 : EO.it  (.ok o ρ) = itO (frz1 ρ o) := rfl
@[simp] theorem EO.it_e2 : EO.it  (.ex y ρ) = .ex y ρ := rfl
@[simp] theorem EO.it_e3 : EO.it  (.no) = .no := rfl
@[simp] theorem e_dIt (d : DE) (ρ : Sl) : dIt d ρ = (d ρ).it := by
  unfold dIt
  cases d ρ with
  | ok o ρ1 =>
    simp only [EO.it]
    cases frz1 ρ1 o with
    | none => rfl
    | some p =>
      obtain ⟨x, ρ2⟩ := p
      simp only [itO]
      cases itemsD x <;> rfl
  | ex x ρ1 => rfl
  | no => rfl
@[simp] theorem items_l (ds : List D) : itemsD (.list ds) = some ds := rfl
@[simp] theorem items_t (ds : List D) : itemsD (.tuple ds) = some ds := rfl
@[simp] theorem items_s (z : Str) : itemsD (.str z) = some (z.cps.toList.map fun c => .str ⟨#[c]⟩) := rfl
def rg1O (ρ : Sl) : Option (List D) → IO
  | some [.int n] => if small n = true then .ok .none (rangeD 0 n) ρ else .no
  | _ => .no
@[simp] theorem rg1O_e1 (ρ : Sl) : rg1O ρ (some [.int n]) = if small n = true then .ok .none (rangeD 0 n) ρ else .no := rfl
def AO.rg1 : AO → IO
  | .ok os ρ => rg1O ρ (resA ρ os)
  | .ex y ρ => .ex y ρ
  | .no => .no
@[simp] theorem AO.rg1_e1 : AO.rg1  (.ok oz ρ) = rg1O ρ (resA ρ oz) := rfl
@[simp] theorem AO.rg1_e2 : AO.rg1  (.ex y ρ) = .ex y ρ := rfl
@[simp] theorem AO.rg1_e3 : AO.rg1  (.no) = .no := rfl
@[simp] theorem e_dRg1 (da : DAs) (ρ : Sl) : dRg1 da ρ = (da ρ).rg1 := by
  unfold dRg1
  cases da ρ <;> rfl
def rg2O (ρ : Sl) : Option (List D) → IO
  | some [.int a, .int b] => if (small a && small b) = true then .ok .none (rangeD a b) ρ else .no
  | _ => .no
@[simp] theorem rg2O_e1 (ρ : Sl) : rg2O ρ (some [.int a, .int b]) = if (small a && small b) = true then .ok .none (rangeD a b) ρ else .no := rfl
def AO.rg2 : AO → IO
  | .ok os ρ => rg2O ρ (resA ρ os)
  | .ex y ρ => .ex y ρ
  | .no => .no
@[simp] theorem AO.rg2_e1 : AO.rg2  (.ok oz ρ) = rg2O ρ (resA ρ oz) := rfl
@[simp] theorem AO.rg2_e2 : AO.rg2  (.ex y ρ) = .ex y ρ := rfl
@[simp] theorem AO.rg2_e3 : AO.rg2  (.no) = .no := rfl
@[simp] theorem e_dRg2 (da : DAs) (ρ : Sl) : dRg2 da ρ = (da ρ).rg2 := by
  unfold dRg2
  cases da ρ <;> rfl
def enD (x : D) (ρ : Sl) : Option (List D) → IO
  | some ds => .ok x (enumD ds) ρ
  | none => .no
@[simp] theorem enD_e1 (x : D) (ρ : Sl) : enD x ρ (some ds) = .ok x (enumD ds) ρ := rfl
@[simp] theorem enD_e2 (x : D) (ρ : Sl) : enD x ρ none = .no := rfl
def enO : Option (List D × Sl) → IO
  | some ([x], ρ) => enD x ρ (itemsD x)
  | _ => .no
@[simp] theorem enO_e1 : enO  (some ([x], ρ)) = enD x ρ (itemsD x) := rfl
def AO.en : AO → IO
  | .ok os ρ => enO (frzA ρ os)
  | .ex y ρ => .ex y ρ
  | .no => .no
@[simp] theorem AO.en_e1 : AO.en  (.ok oz ρ) = enO (frzA ρ oz) := rfl
@[simp] theorem AO.en_e2 : AO.en  (.ex y ρ) = .ex y ρ := rfl
@[simp] theorem AO.en_e3 : AO.en  (.no) = .no := rfl
@[simp] theorem e_dEn (da : DAs) (ρ : Sl) : dEn da ρ = (da ρ).en := by
  unfold dEn
  cases da ρ with
  | ok os ρ1 =>
    simp only [AO.en]
    match frzA ρ1 os with
    | none => rfl
    | some ([], ρ2) => rfl
    | some (_ :: _ :: _, ρ2) => rfl
    | some ([x], ρ2) =>
      simp only [enO]
      cases itemsD x <;> rfl
  | ex x ρ1 => rfl
  | no => rfl
def IO.for (dg : DG) (b : DS) : IO → SO
  | .ok _ ds ρ => forL dg b ds ρ
  | .ex y ρ => .ex y ρ
  | .no => .no
@[simp] theorem IO.for_e1 (dg : DG) (b : DS) : IO.for dg b (.ok w1 ds ρ) = forL dg b ds ρ := rfl
@[simp] theorem IO.for_e2 (dg : DG) (b : DS) : IO.for dg b (.ex y ρ) = .ex y ρ := rfl
@[simp] theorem IO.for_e3 (dg : DG) (b : DS) : IO.for dg b (.no) = .no := rfl
@[simp] theorem e_sFor (di : DI) (dg : DG) (b : DS) (ρ : Sl) : sFor di dg b ρ = (di ρ).for dg b := by
  unfold sFor
  cases di ρ <;> rfl
def lcO (vs : List Nat) (ρ1 : Sl) : Option (List D × Sl) → EO
  | some (acc, ρ2) => .ok (.t (.own (.list acc))) (restR ρ1 ρ2 vs)
  | none => .no
@[simp] theorem lcO_e1 (vs : List Nat) (ρ1 : Sl) : lcO vs ρ1 (some (acc, ρ2)) = .ok (.t (.own (.list acc))) (restR ρ1 ρ2 vs) := rfl
@[simp] theorem lcO_e2 (vs : List Nat) (ρ1 : Sl) : lcO vs ρ1 none = .no := rfl
def IO.lc (vs : List Nat) (dg : DG) (dt : DB) (de : DE) : IO → EO
  | .ok _ ds ρ => lcO vs ρ (lcL dg dt de vs ds [] (wipeR ρ vs))
  | .ex y ρ => .ex y ρ
  | .no => .no
@[simp] theorem IO.lc_e1 (vs : List Nat) (dg : DG) (dt : DB) (de : DE) : IO.lc vs dg dt de (.ok w1 ds ρ) = lcO vs ρ (lcL dg dt de vs ds [] (wipeR ρ vs)) := rfl
@[simp] theorem IO.lc_e2 (vs : List Nat) (dg : DG) (dt : DB) (de : DE) : IO.lc vs dg dt de (.ex y ρ) = .ex y ρ := rfl
@[simp] theorem IO.lc_e3 (vs : List Nat) (dg : DG) (dt : DB) (de : DE) : IO.lc vs dg dt de (.no) = .no := rfl
theorem e_dLc (di : DI) (vs : List Nat) (dg : DG) (dt : DB) (de : DE) (ρ : Sl) : dLc di vs dg dt de ρ = (di ρ).lc vs dg dt de := by
  unfold dLc
  cases di ρ with
  | ok x ds ρ1 =>
    simp only [IO.lc]
    cases lcL dg dt de vs ds [] (wipeR ρ1 vs) <;> rfl
  | ex x ρ1 => rfl
  | no => rfl
def tryO (cn : Str) (hf : Exn → Option D) (i : Nat) : EO → SO
  | .ok (.t _) ρ => .nx ρ
  | .ok (.p _) _ => .no
  | .ex x ρ => if x.cls = cn ∧ i < ρ.length then retO ((hf x).map fun v => (v, ρ.set i .no)) else .no
  | .no => .no
@[simp] theorem tryO_e1 (cn : Str) (hf : Exn → Option D) (i : Nat) : tryO cn hf i (.ok (.t w1) ρ) = .nx ρ := rfl
@[simp] theorem tryO_e2 (cn : Str) (hf : Exn → Option D) (i : Nat) : tryO cn hf i (.ok (.p w1) w2) = .no := rfl
@[simp] theorem tryO_e3 (cn : Str) (hf : Exn → Option D) (i : Nat) : tryO cn hf i (.ex x ρ) = if x.cls = cn ∧ i < ρ.length then retO ((hf x).map fun v => (v, ρ.set i .no)) else .no := rfl
@[simp] theorem tryO_e4 (cn : Str) (hf : Exn → Option D) (i : Nat) : tryO cn hf i (.no) = .no := rfl
@[simp] theorem e_dTry (cn : Str) (hf : Exn → Option D) (i : Nat) (d : DE) (ρ : Sl) : dTry cn hf i d ρ = tryO cn hf i (d ρ) := by
  unfold dTry
  cases d ρ with
  | ok o ρ1 => cases o <;> rfl
  | ex x ρ1 =>
    simp only [tryO]
    cases hf x <;> rfl
  | no => rfl
def EO.rf (cn f ret : Str) : EO → EO
  | .ok (.t _) ρ => .ok (.t (.val (.str ret))) ρ
  | .ok (.p _) _ => .no
  | .ex x ρ => if x.cls = cn then fzO ((x.fs.lookup f).map fun v => (v, ρ)) else .no
  | .no => .no
@[simp] theorem EO.rf_e1 (cn f ret : Str) : EO.rf cn f ret (.ok (.t w1) ρ) = .ok (.t (.val (.str ret))) ρ := rfl
@[simp] theorem EO.rf_e2 (cn f ret : Str) : EO.rf cn f ret (.ok (.p w1) w2) = .no := rfl
@[simp] theorem EO.rf_e3 (cn f ret : Str) : EO.rf cn f ret (.ex x ρ) = if x.cls = cn then fzO ((x.fs.lookup f).map fun v => (v, ρ)) else .no := rfl
@[simp] theorem EO.rf_e4 (cn f ret : Str) : EO.rf cn f ret (.no) = .no := rfl
@[simp] theorem e_dRef (cn f ret : Str) (d : DE) (ρ : Sl) : dRef cn f ret d ρ = (d ρ).rf cn f ret := by
  unfold dRef
  cases d ρ with
  | ok o ρ1 => cases o <;> rfl
  | ex x ρ1 =>
    simp only [EO.rf]
    cases x.fs.lookup f <;> rfl
  | no => rfl
def SO.ro : SO → RO
  | .rt d _ => .ret d
  | .nx _ => .ret .none
  | .ex x _ => .exc x
  | .bk _ => .no
  | .ct _ => .no
  | .no => .no
@[simp] theorem SO.ro_e1 : SO.ro  (.rt d w1) = .ret d := rfl
@[simp] theorem SO.ro_e2 : SO.ro  (.nx w1) = .ret .none := rfl
@[simp] theorem SO.ro_e3 : SO.ro  (.ex x w1) = .exc x := rfl
@[simp] theorem SO.ro_e4 : SO.ro  (.bk w1) = .no := rfl
@[simp] theorem SO.ro_e5 : SO.ro  (.ct w1) = .no := rfl
@[simp] theorem SO.ro_e6 : SO.ro  (.no) = .no := rfl
theorem fo_run {io : Bool} {n : Nat} {b : DS} {ds : List D} : fo (runD io n b ds) = (b (startR io n ds)).ro := by
  unfold runD
  cases b (startR io n ds) <;> rfl
def SO.fo : SO → FO
  | .rt d ρ => .rt d (ρ.getD 0 .no)
  | .nx ρ => .rt .none (ρ.getD 0 .no)
  | .ex x ρ => .ex x (ρ.getD 0 .no)
  | .bk _ => .no
  | .ct _ => .no
  | .no => .no
@[simp] theorem SO.fo_e1 : SO.fo  (.rt d ρ) = .rt d (ρ.getD 0 .no) := rfl
@[simp] theorem SO.fo_e2 : SO.fo  (.nx ρ) = .rt .none (ρ.getD 0 .no) := rfl
@[simp] theorem SO.fo_e3 : SO.fo  (.ex x ρ) = .ex x (ρ.getD 0 .no) := rfl
@[simp] theorem SO.fo_e4 : SO.fo  (.bk w1) = .no := rfl
@[simp] theorem SO.fo_e5 : SO.fo  (.ct w1) = .no := rfl
@[simp] theorem SO.fo_e6 : SO.fo  (.no) = .no := rfl
theorem io_run {io : Bool} {n : Nat} {b : DS} {ds : List D} : runD io n b ds = (b (startR io n ds)).fo := by
  unfold runD
  cases b (startR io n ds) <;> rfl
@[simp] theorem startR_f (n : Nat) (ds : List D) : startR false n ds = ds.map .val ++ List.replicate (n - ds.length) .no := rfl
@[simp] theorem startR_t (n : Nat) (d : D) (ds : List D) : startR true n (d :: ds) = .own d :: ds.map .val ++ List.replicate (n - (ds.length + 1)) .no := rfl
@[simp] theorem e_dYes (ρ : Sl) : dYes ρ = .ok true ρ := rfl
@[simp] theorem isD_none : isD .none = false := rfl
@[simp] theorem isD_bool (b : Bool) : isD (.bool b) = false := rfl
@[simp] theorem isD_int (b : Int) : isD (.int b) = false := rfl
@[simp] theorem isD_str (b : Str) : isD (.str b) = false := rfl
@[simp] theorem isD_list (b : List D) : isD (.list b) = false := rfl
@[simp] theorem isD_tuple (b : List D) : isD (.tuple b) = false := rfl
@[simp] theorem oIsi_none (T : String) : oIsi T [.none] = (match kitB "NoneType" T with | some b => .v (.bool b) | none => .no) := rfl
@[simp] theorem oIsi_bool (T : String) (b : Bool) : oIsi T [.bool b] = (match kitB "bool" T with | some b => .v (.bool b) | none => .no) := rfl
@[simp] theorem oIsi_int (T : String) (b : Int) : oIsi T [.int b] = (match kitB "int" T with | some b => .v (.bool b) | none => .no) := rfl
@[simp] theorem oIsi_str (T : String) (b : Str) : oIsi T [.str b] = (match kitB "str" T with | some b => .v (.bool b) | none => .no) := rfl
@[simp] theorem oIsi_list (T : String) (b : List D) : oIsi T [.list b] = (match kitB "list" T with | some b => .v (.bool b) | none => .no) := rfl
@[simp] theorem oIsi_tuple (T : String) (b : List D) : oIsi T [.tuple b] = (match kitB "tuple" T with | some b => .v (.bool b) | none => .no) := rfl
@[simp] theorem oLen_l (ds : List D) : oLen [.list ds] = .v (.int (ds.length : Nat)) := rfl
@[simp] theorem oLen_t (ds : List D) : oLen [.tuple ds] = .v (.int (ds.length : Nat)) := rfl
theorem oLen_s {z : Str} (h : z.length ≤ 100000) : oLen [.str z] = .v (.int (z.length : Nat)) := by simp [oLen, h]
@[simp] theorem oTuple_l (ds : List D) : oTuple [.list ds] = .v (.tuple ds) := rfl
@[simp] theorem oTuple_t (ds : List D) : oTuple [.tuple ds] = .v (.tuple ds) := rfl
@[simp] theorem oList_l (ds : List D) : oList [.list ds] = .n (.list ds) := rfl
@[simp] theorem oList_t (ds : List D) : oList [.tuple ds] = .n (.list ds) := rfl
@[simp] theorem oIsN_none : oIsN [.none, .none] = .v (.bool true) := rfl
@[simp] theorem oIsN_bool (b : Bool) : oIsN [.bool b, .none] = .v (.bool false) := rfl
@[simp] theorem oIsN_int (b : Int) : oIsN [.int b, .none] = .v (.bool false) := rfl
@[simp] theorem oIsN_str (b : Str) : oIsN [.str b, .none] = .v (.bool false) := rfl
@[simp] theorem oIsN_list (b : List D) : oIsN [.list b, .none] = .v (.bool false) := rfl
@[simp] theorem oIsN_tuple (b : List D) : oIsN [.tuple b, .none] = .v (.bool false) := rfl
@[simp] theorem oNotN_none : oNotN [.none, .none] = .v (.bool false) := rfl
@[simp] theorem oNotN_bool (b : Bool) : oNotN [.bool b, .none] = .v (.bool true) := rfl
@[simp] theorem oNotN_int (b : Int) : oNotN [.int b, .none] = .v (.bool true) := rfl
@[simp] theorem oNotN_str (b : Str) : oNotN [.str b, .none] = .v (.bool true) := rfl
@[simp] theorem oNotN_list (b : List D) : oNotN [.list b, .none] = .v (.bool true) := rfl
@[simp] theorem oNotN_tuple (b : List D) : oNotN [.tuple b, .none] = .v (.bool true) := rfl
@[simp] theorem tyOk_list (ds : List D) : tyOk "list" (.list ds) = true := rfl
/-! ### a comprehension over a list, one name, its parts changing nothing -/
theorem wipeR1 (ρ : Sl) (v : Nat) : wipeR ρ [v] = ρ.set v .no := rfl
theorem lcL1 {v : Nat} {dt : DB} {de : DE} {ρ0 : Sl} {p : D → Bool} {g : D → D} (hv : ρ0[v]? = some .no) : ∀ (ds acc : List D), acc.length + ds.length ≤ 100000 →
    (∀ d ∈ ds, dt (ρ0.set v (.val d)) = .ok (p d) (ρ0.set v (.val d))) → (∀ d ∈ ds, p d = true → ∃ o, de (ρ0.set v (.val d)) = .ok o (ρ0.set v (.val d)) ∧ frz1 (ρ0.set v (.val d)) o = some (g d, ρ0.set v (.val d))) →
    lcL (gN v) dt de [v] ds acc ρ0 = some (acc ++ (ds.filter p).map g, ρ0)
  | [], acc, _, _, _ => by simp [lcL]
  | d :: ds, acc, hl, h1, h2 => by
    have back : wipeR (ρ0.set v (.val d)) [v] = ρ0 := by
      rw [wipeR1, List.set_set]
      have hlt : v < ρ0.length := (List.getElem?_eq_some_iff.mp hv).1
      have e : ρ0[v] = .no := (List.getElem?_eq_some_iff.mp hv).2
      rw [← e, List.set_getElem_self]
    simp only [List.length_cons] at hl
    unfold lcL gN
    simp only
    rw [h1 d List.mem_cons_self]
    cases hp : p d with
    | false =>
      simp only
      rw [back, List.filter_cons_of_neg (by simp [hp])]
      exact lcL1 hv ds acc (by omega) (fun x hx => h1 x (List.mem_cons_of_mem _ hx)) (fun x hx => h2 x (List.mem_cons_of_mem _ hx))
    | true =>
      obtain ⟨o, e1, e2⟩ := h2 d List.mem_cons_self hp
      simp only
      rw [e1]
      simp only
      rw [e2]
      simp only
      rw [if_pos (show acc.length < 100000 by omega), back, List.filter_cons_of_pos (by simp [hp]), List.map_cons]
      have q := lcL1 hv ds (acc ++ [g d]) (by simp; omega) (fun x hx => h1 x (List.mem_cons_of_mem _ hx)) (fun x hx => h2 x (List.mem_cons_of_mem _ hx))
      rw [show lcL (fun d ρ => some (ρ.set v (.val d))) dt de [v] ds (acc ++ [g d]) ρ0 = lcL (gN v) dt de [v] ds (acc ++ [g d]) ρ0 from rfl, q, List.append_assoc]
      rfl
theorem dLc1 {di : DI} {v : Nat} {dt : DB} {de : DE} {ρ ρ1 : Sl} {x : D} {ds : List D} {p : D → Bool} {g : D → D} (hi : di ρ = .ok x ds ρ1) (hv : v < ρ1.length) (hl : ds.length ≤ 100000)
    (h1 : ∀ d ∈ ds, dt (ρ1.set v (.val d)) = .ok (p d) (ρ1.set v (.val d))) (h2 : ∀ d ∈ ds, p d = true → ∃ o, de (ρ1.set v (.val d)) = .ok o (ρ1.set v (.val d)) ∧ frz1 (ρ1.set v (.val d)) o = some (g d, ρ1.set v (.val d))) :
    dLc di [v] (gN v) dt de ρ = .ok (.t (.own (.list ((ds.filter p).map g)))) ρ1 := by
  unfold dLc
  rw [hi]
  simp only
  have hs : ∀ d, (ρ1.set v .no).set v (.val d) = ρ1.set v (.val d) := fun d => List.set_set ..
  rw [wipeR1, lcL1 (p := p) (g := g) (by simp [hv]) ds [] (by simpa using hl) (fun d hd => by rw [hs]; exact h1 d hd) (fun d hd hp => by rw [hs]; exact h2 d hd hp)]
  simp only [List.nil_append, restR, wipeR]
  rw [List.set_set]
  have e : ρ1.getD v .no = ρ1[v] := by simp [List.getD, hv]
  rw [e, List.set_getElem_self]
/-- no condition -/
theorem dLc1y {di : DI} {v : Nat} {de : DE} {ρ ρ1 : Sl} {x : D} {ds : List D} {g : D → D} (hi : di ρ = .ok x ds ρ1) (hv : v < ρ1.length) (hl : ds.length ≤ 100000)
    (h2 : ∀ d ∈ ds, ∃ o, de (ρ1.set v (.val d)) = .ok o (ρ1.set v (.val d)) ∧ frz1 (ρ1.set v (.val d)) o = some (g d, ρ1.set v (.val d))) :
    dLc di [v] (gN v) dYes de ρ = .ok (.t (.own (.list (ds.map g)))) ρ1 := by
  rw [dLc1 (dt := dYes) (p := fun _ => true) (g := g) hi hv hl (fun _ _ => rfl) (fun d hd _ => h2 d hd)]
  rw [List.filter_eq_self.mpr (fun _ _ => rfl)]
theorem blsOf_map' {α : Type} (l : List α) (f : α → Bool) : blsOf (l.map fun x => .bool (f x)) = some (l.map f) := by
  have := blsOf_map (l.map f)
  rwa [List.map_map] at this
theorem intsOf_map' {α : Type} (l : List α) (f : α → Int) : intsOf (l.map fun x => .int (f x)) = some (l.map f) := by
  have := intsOf_map (l.map f)
  rwa [List.map_map] at this
theorem strsOf_map' {α : Type} (l : List α) (f : α → Str) : strsOf (l.map fun x => .str (f x)) = some (l.map f) := by
  have := strsOf_map (l.map f)
  rwa [List.map_map] at this
/-! ### loops -/
theorem forL_nil (dg : DG) (b : DS) (ρ : Sl) : forL dg b [] ρ = .nx ρ := rfl
theorem forL_nx {dg : DG} {b : DS} {d : D} {ds : List D} {ρ ρ1 ρ2 : Sl} (h : dg d ρ = some ρ1) (hb : b ρ1 = .nx ρ2) : forL dg b (d :: ds) ρ = forL dg b ds ρ2 := by
  rw [forL, h]; simp only; rw [hb]
theorem forL_ct {dg : DG} {b : DS} {d : D} {ds : List D} {ρ ρ1 ρ2 : Sl} (h : dg d ρ = some ρ1) (hb : b ρ1 = .ct ρ2) : forL dg b (d :: ds) ρ = forL dg b ds ρ2 := by
  rw [forL, h]; simp only; rw [hb]
theorem forL_rt {dg : DG} {b : DS} {d x : D} {ds : List D} {ρ ρ1 ρ2 : Sl} (h : dg d ρ = some ρ1) (hb : b ρ1 = .rt x ρ2) : forL dg b (d :: ds) ρ = .rt x ρ2 := by
  rw [forL, h]; simp only; rw [hb]
theorem forL_ex {dg : DG} {b : DS} {d : D} {x : Exn} {ds : List D} {ρ ρ1 ρ2 : Sl} (h : dg d ρ = some ρ1) (hb : b ρ1 = .ex x ρ2) : forL dg b (d :: ds) ρ = .ex x ρ2 := by
  rw [forL, h]; simp only; rw [hb]
/-- a loop that never leaves: the state is told by i turns -/
theorem forL_inv {dg : DG} {b : DS} {β : Type} (I : β → Sl) (P : β → Prop) (step : β → D → β) : ∀ (ds : List D) (s : β), P s → (∀ s d, d ∈ ds → P s → ∃ ρ1, dg d (I s) = some ρ1 ∧ (b ρ1 = .nx (I (step s d)) ∨ b ρ1 = .ct (I (step s d))) ∧ P (step s d)) →
    forL dg b ds (I s) = .nx (I (ds.foldl step s)) ∧ P (ds.foldl step s)
  | [], s, hp, _ => ⟨rfl, hp⟩
  | d :: ds, s, hp, h => by
    obtain ⟨ρ1, e1, e2, e3⟩ := h s d List.mem_cons_self hp
    obtain ⟨q1, q2⟩ := forL_inv I P step ds (step s d) e3 (fun s d hd => h s d (List.mem_cons_of_mem _ hd))
    refine ⟨?_, q2⟩
    rcases e2 with e2 | e2
    · rw [forL_nx e1 e2]; exact q1
    · rw [forL_ct e1 e2]; exact q1
end PD
namespace PD
open PySem PySem.Spec PyProof.Rows L2
@[simp] theorem kit_NoneType_int : kitB "NoneType" "int" = some false := by decide +kernel
@[simp] theorem kit_NoneType_bool : kitB "NoneType" "bool" = some false := by decide +kernel
@[simp] theorem kit_NoneType_str : kitB "NoneType" "str" = some false := by decide +kernel
@[simp] theorem kit_NoneType_list : kitB "NoneType" "list" = some false := by decide +kernel
@[simp] theorem kit_NoneType_tuple : kitB "NoneType" "tuple" = some false := by decide +kernel
@[simp] theorem kit_bool_int : kitB "bool" "int" = some true := by decide +kernel
@[simp] theorem kit_bool_bool : kitB "bool" "bool" = some true := by decide +kernel
@[simp] theorem kit_bool_str : kitB "bool" "str" = some false := by decide +kernel
@[simp] theorem kit_bool_list : kitB "bool" "list" = some false := by decide +kernel
@[simp] theorem kit_bool_tuple : kitB "bool" "tuple" = some false := by decide +kernel
@[simp] theorem kit_int_int : kitB "int" "int" = some true := by decide +kernel
@[simp] theorem kit_int_bool : kitB "int" "bool" = some false := by decide +kernel
@[simp] theorem kit_int_str : kitB "int" "str" = some false := by decide +kernel
@[simp] theorem kit_int_list : kitB "int" "list" = some false := by decide +kernel
@[simp] theorem kit_int_tuple : kitB "int" "tuple" = some false := by decide +kernel
@[simp] theorem kit_str_int : kitB "str" "int" = some false := by decide +kernel
@[simp] theorem kit_str_bool : kitB "str" "bool" = some false := by decide +kernel
@[simp] theorem kit_str_str : kitB "str" "str" = some true := by decide +kernel
@[simp] theorem kit_str_list : kitB "str" "list" = some false := by decide +kernel
@[simp] theorem kit_str_tuple : kitB "str" "tuple" = some false := by decide +kernel
@[simp] theorem kit_list_int : kitB "list" "int" = some false := by decide +kernel
@[simp] theorem kit_list_bool : kitB "list" "bool" = some false := by decide +kernel
@[simp] theorem kit_list_str : kitB "list" "str" = some false := by decide +kernel
@[simp] theorem kit_list_list : kitB "list" "list" = some true := by decide +kernel
@[simp] theorem kit_list_tuple : kitB "list" "tuple" = some false := by decide +kernel
@[simp] theorem kit_tuple_int : kitB "tuple" "int" = some false := by decide +kernel
@[simp] theorem kit_tuple_bool : kitB "tuple" "bool" = some false := by decide +kernel
@[simp] theorem kit_tuple_str : kitB "tuple" "str" = some false := by decide +kernel
@[simp] theorem kit_tuple_list : kitB "tuple" "list" = some false := by decide +kernel
@[simp] theorem kit_tuple_tuple : kitB "tuple" "tuple" = some true := by decide +kernel
@[simp] theorem kit_dict_int : kitB "dict" "int" = some false := by decide +kernel
@[simp] theorem kit_dict_bool : kitB "dict" "bool" = some false := by decide +kernel
@[simp] theorem kit_dict_str : kitB "dict" "str" = some false := by decide +kernel
@[simp] theorem kit_dict_list : kitB "dict" "list" = some false := by decide +kernel
@[simp] theorem kit_dict_tuple : kitB "dict" "tuple" = some false := by decide +kernel
end PD
namespace PD
open PySem PySem.Spec PyProof.Rows L2
/-! ### operations on told data -/
@[simp] theorem oLt_i (a b : Int) : oLt [.int a, .int b] = .v (.bool (decide (a < b))) := rfl
@[simp] theorem oLe_i (a b : Int) : oLe [.int a, .int b] = .v (.bool (decide (a ≤ b))) := rfl
@[simp] theorem oGt_i (a b : Int) : oGt [.int a, .int b] = .v (.bool (decide (b < a))) := rfl
@[simp] theorem oGe_i (a b : Int) : oGe [.int a, .int b] = .v (.bool (decide (b ≤ a))) := rfl
@[simp] theorem oNeg_i (a : Int) : oNeg [.int a] = .v (.int (-a)) := rfl
@[simp] theorem oSub_i (a b : Int) : oSub [.int a, .int b] = .v (.int (a - b)) := rfl
@[simp] theorem oAdd_i (a b : Int) : oAdd [.int a, .int b] = .v (.int (a + b)) := rfl
@[simp] theorem oInt_i (a : Int) : oInt [.int a] = .v (.int a) := rfl
@[simp] theorem oMod_i (a b : Int) : oMod [.int a, .int b] = if b ≠ 0 then .v (.int (a.fmod b)) else .no := by
  by_cases h : b = 0 <;> simp [oMod, oI, h]
@[simp] theorem oAndB_i (a b : Int) : oAndB [.int a, .int b] = .v (.int (Builtin.bitAnd a b)) := rfl
theorem oMul_i {a b : Int} (h : bMul a b = true) : oMul [.int a, .int b] = .v (.int (a * b)) := by
  simp [oMul, vOr, oI, h]
theorem oMul_s {a b : Int} (h1 : -18446744073709551616 < a) (h2 : a < 18446744073709551616) : oMul [.int a, .int b] = .v (.int (a * b)) := oMul_i (by simp [bMul, h1, h2])
theorem oMul_r {a b : Int} (h1 : -18446744073709551616 < b) (h2 : b < 18446744073709551616) : oMul [.int a, .int b] = .v (.int (a * b)) := oMul_i (by simp [bMul, h1, h2])
theorem oDiv_i {a b : Int} (h1 : b ≠ 0) (h2 : b.natAbs < 1073741824) : oDiv [.int a, .int b] = .v (.int (a.fdiv b)) := by
  simp [oDiv, vOr, oI, bDiv, h1, h2]
theorem oPow_i {a b : Int} (h : bPow a b = true) : oPow [.int a, .int b] = .v (.int (a ^ b.toNat)) := by
  simp [oPow, oI, h]
theorem oIx_l {ds : List D} {i : Int} {d : D} (h : atI ds i = some d) : oIx [.list ds, .int i] = .v d := by
  simp [oIx, vOr, oIxL, h]
theorem oIx_t {ds : List D} {i : Int} {d : D} (h : atI ds i = some d) : oIx [.tuple ds, .int i] = .v d := by
  simp [oIx, vOr, oIxL, oIxT, h]
theorem atI_nat {α : Type} {xs : List α} {i : Nat} {x : α} (h : xs[i]? = some x) : atI xs (i : Int) = some x := by
  have hi : i < xs.length := (List.getElem?_eq_some_iff.mp h).1
  unfold atI L2.ixN
  simp only [Int.natCast_nonneg, if_true]
  rw [if_pos (by omega)]
  simpa using h
/-! ### equality -/
theorem shaped_int (a : Int) : SeqAt.shaped (.int a) = true := by simp [SeqAt.shaped, PyData.canLay0, PyData.depth]
theorem shaped_bool (a : Bool) : SeqAt.shaped (.bool a) = true := by simp [SeqAt.shaped, PyData.canLay0, PyData.depth]
theorem shaped_none : SeqAt.shaped .none = true := by simp [SeqAt.shaped, PyData.canLay0, PyData.depth]
@[simp] theorem oEq_i (a b : Int) : oEq [.int a, .int b] = .v (.bool (decide (a = b))) := by
  simp [oEq, vOr, oEqS, oEqD, shaped_int, PyData.eqv]; rfl
@[simp] theorem oNe_i (a b : Int) : oNe [.int a, .int b] = .v (.bool (!decide (a = b))) := by
  simp [oNe, vOr, oNeS, oNeD, shaped_int, PyData.eqv]; rfl
@[simp] theorem oEq_s (a b : Str) : oEq [.str a, .str b] = .v (.bool (decide (a = b))) := rfl
@[simp] theorem oNe_s (a b : Str) : oNe [.str a, .str b] = .v (.bool (!decide (a = b))) := rfl
@[simp] theorem oEq_b (a b : Bool) : oEq [.bool a, .bool b] = .v (.bool (a == b)) := by
  simp [oEq, vOr, oEqS, oEqD, shaped_bool, PyData.eqv]
end PD

set_option Elab.async false
set_option linter.all false
set_option maxRecDepth 100000
set_option maxHeartbeats 2000000
/-! PdM: dicts. -/
namespace PD
open PySem PySem.Spec PyProof.Rows L2
/-! ### keys -/
def toKey : D → Option Key
  | .int i => some (.inl i)
  | .str x => some (.inr x)
  | _ => none
def toKeys : List D → Option (List Key)
  | [] => some []
  | d :: ds => (match toKey d with
    | some k => (match toKeys ds with
      | some ks => some (k :: ks)
      | none => none)
    | none => none)
theorem toKey_kD (k : Key) : toKey (kD k) = some k := by cases k <;> rfl
theorem toKey_eq {d : D} {k : Key} (h : toKey d = some k) : d = kD k := by
  cases d <;> simp [toKey] at h <;> subst h <;> rfl
theorem toKeys_kT : ∀ ks : List Key, toKeys (ks.map kD) = some ks
  | [] => rfl
  | k :: ks => by simp only [List.map_cons, toKeys, toKey_kD, toKeys_kT ks]
theorem toKeys_eq : ∀ {ds : List D} {ks : List Key}, toKeys ds = some ks → ds = ks.map kD
  | [], ks, h => by cases h; rfl
  | d :: ds, ks, h => by
    simp only [toKeys] at h
    cases e1 : toKey d with
    | none => rw [e1] at h; cases h
    | some k =>
      rw [e1] at h
      cases e2 : toKeys ds with
      | none => rw [e2] at h; cases h
      | some ks' =>
        rw [e2] at h
        cases h
        rw [toKey_eq e1, toKeys_eq e2]; rfl
/-! ### entries -/
section
variable {κ : Type} [DecidableEq κ] {K : PySem.W.Frag} {F : Hp}
def getE (dec : D → Option κ) (es : List (D × D)) (k : κ) : Option D := (es.find? fun p => decide (dec p.1 = some k)).map (·.2)
def putE (enc : κ → D) (dec : D → Option κ) (es : List (D × D)) (k : κ) (d : D) : List (D × D) :=
  if (es.any fun p => decide (dec p.1 = some k)) = true then es.map (fun p => if dec p.1 = some k then (p.1, d) else p) else es ++ [(enc k, d)]
structure Ent (K : PySem.W.Frag) (F : Hp) (enc : κ → D) (kvs : List (κ × V)) (es : List (D × D)) : Prop where
  ks : es.map (·.1) = kvs.map (fun p => enc p.1)
  vs : RpA K F (kvs.map (·.2)) (es.map (·.2))
theorem Ent.cons_inv {enc : κ → D} {p : κ × V} {kvs : List (κ × V)} {es : List (D × D)} (h : Ent K F enc (p :: kvs) es) : ∃ d es', es = (enc p.1, d) :: es' ∧ Rp K F p.2 d ∧ Ent K F enc kvs es' := by
  obtain ⟨h1, h2⟩ := h
  cases es with
  | nil => simp at h1
  | cons q es =>
    simp only [List.map_cons, List.cons.injEq] at h1
    cases h2 with
    | cons a b => exact ⟨q.2, es, by rw [← h1.1], a, h1.2, b⟩
theorem Ent.get {enc : κ → D} {dec : D → Option κ} (hd : ∀ k, dec (enc k) = some k) (k : κ) : ∀ {kvs : List (κ × V)} {es : List (D × D)}, Ent K F enc kvs es → (∃ v d, valV kvs k = some v ∧ getE dec es k = some d ∧ Rp K F v d) ∨ (valV kvs k = none ∧ getE dec es k = none)
  | [], es, h => by
    have := h.ks
    cases es with
    | nil => exact .inr ⟨rfl, rfl⟩
    | cons q es => simp at this
  | p :: kvs, es, h => by
    obtain ⟨d, es', rfl, h1, h2⟩ := h.cons_inv
    by_cases hk : p.1 = k
    · refine .inl ⟨p.2, d, valV_pos hk, ?_, h1⟩
      simp [getE, List.find?_cons, hd, hk]
    · have e : getE dec ((enc p.1, d) :: es') k = getE dec es' k := by simp [getE, List.find?_cons, hd, hk]
      rw [valV_neg hk, e]
      exact h2.get hd k
theorem Ent.nil {enc : κ → D} : Ent K F enc ([] : List (κ × V)) [] := ⟨rfl, .nil⟩
theorem Ent.mono {F' : Hp} {enc : κ → D} {kvs : List (κ × V)} {es : List (D × D)} (e : Same F F') (h : Ent K F enc kvs es) : Ent K F' enc kvs es := ⟨h.ks, RpA.mono e _ _ h.vs⟩
theorem Ent.put {enc : κ → D} {dec : D → Option κ} (hd : ∀ k, dec (enc k) = some k) (k : κ) {v : V} {d : D} (r : Rp K F v d) {kvs : List (κ × V)} {es : List (D × D)} (h : Ent K F enc kvs es) : Ent K F enc (putK kvs k v) (putE enc dec es k d) := by
  have any : ∀ {kvs : List (κ × V)} {es : List (D × D)}, Ent K F enc kvs es → (es.any fun p => decide (dec p.1 = some k)) = (kvs.any fun p => decide (p.1 = k)) := by
    intro kvs
    induction kvs with
    | nil =>
      intro es h
      have := h.ks
      cases es with
      | nil => rfl
      | cons q es => simp at this
    | cons p kvs ih =>
      intro es h
      obtain ⟨d', es', rfl, h1, h2⟩ := h.cons_inv
      rw [List.any_cons, List.any_cons, ih h2, hd]
      congr 1
      exact decide_eq_decide.mpr ⟨fun z => Option.some.inj z, fun z => by rw [z]⟩
  have mp : ∀ {kvs : List (κ × V)} {es : List (D × D)}, Ent K F enc kvs es → Ent K F enc (kvs.map fun kv => if kv.1 = k then (kv.1, v) else kv) (es.map fun p => if dec p.1 = some k then (p.1, d) else p) := by
    intro kvs
    induction kvs with
    | nil =>
      intro es h
      have := h.ks
      cases es with
      | nil => exact .nil
      | cons q es => simp at this
    | cons p kvs ih =>
      intro es h
      obtain ⟨d', es', rfl, h1, h2⟩ := h.cons_inv
      obtain ⟨i1, i2⟩ := ih h2
      by_cases hk : p.1 = k
      · refine ⟨?_, ?_⟩
        · simp only [List.map_cons, hd, hk, if_true]; rw [i1]
        · simp only [List.map_cons, hd, hk, if_true]; exact .cons r i2
      · have hk' : ¬ (some p.1 = some k) := fun z => hk (Option.some.inj z)
        refine ⟨?_, ?_⟩
        · simp only [List.map_cons, hd, hk, hk', if_false]; rw [i1]
        · simp only [List.map_cons, hd, hk, hk', if_false]; exact .cons h1 i2
  unfold putK putE
  rw [any h]
  by_cases ha : (kvs.any fun kv => decide (kv.1 = k)) = true
  · rw [if_pos ha, if_pos ha]; exact mp h
  · rw [if_neg ha, if_neg ha]
    exact ⟨by rw [List.map_append, List.map_append, h.ks]; rfl, by rw [List.map_append, List.map_append]; exact h.vs.app (.cons r .nil)⟩
end
/-! ### reading -/
section
variable {K : PySem.W.Frag} {F H : Hp}
def decT : D → Option (List Key)
  | .tuple ds => toKeys ds
  | _ => none
theorem decT_kT (k : List Key) : decT (kT k) = some k := toKeys_kT k
/-- the value at a key; none: not told here -/
def lookD (es : List (D × D)) (k : D) : Option (Option D) := match es with
  | (.none, _) :: es' => (match k with
    | .tuple ds => (match toKeys ds with
      | some ks => some (getE decT es' ks)
      | none => none)
    | _ => none)
  | es => (match toKey k with
    | some q => some (getE toKey es q)
    | none => none)
theorem Rr.dict {v : V} {es : List (D × D)} (s : Same F H) (h : Rr K F H v (.dict es)) : ∃ a, v = .ref a ∧ ((∃ kvs, Rd H a (.dK kvs) ∧ Ent K F kD kvs es) ∨ ∃ kvs es', es = (.none, .none) :: es' ∧ Rd H a (.dT kvs) ∧ Ent K F kT kvs es') := by
  rcases h with h | ⟨a, o, rfl, ha, h⟩
  · cases h with
    | dK h1 h2 h3 => exact ⟨_, rfl, .inl ⟨_, rd_mono s h1, ⟨h2, h3⟩⟩⟩
    | dT h1 h2 h3 => exact ⟨_, rfl, .inr ⟨_, _, rfl, rd_mono s h1, ⟨h2, h3⟩⟩⟩
  · cases h with
    | dK h2 h3 => exact ⟨a, rfl, .inl ⟨_, .of ha, ⟨h2, h3⟩⟩⟩
    | dT h2 h3 => exact ⟨a, rfl, .inr ⟨_, _, rfl, .of ha, ⟨h2, h3⟩⟩⟩
theorem Rr.tupS {v : V} {ds : List D} (s : Same F H) (h : Rr K F H v (.tuple ds)) : ∃ b xs, v = .ref b ∧ H b = some (.tup xs) ∧ RpA K F xs ds := by
  rcases h with h | ⟨a, o, rfl, ha, h⟩
  · cases h with
    | tup h1 h2 => exact ⟨_, _, rfl, s _ _ h1, h2⟩
  · cases h
theorem key_rel {v : V} {d : D} {k : Key} (h : Rr K F H v d) (e : toKey d = some k) : v = kV k := by
  cases d with
  | int i => cases h.int; cases e; rfl
  | str x => cases h.str; cases e; rfl
  | _ => cases e
theorem keys_rel : ∀ {xs : List V} {ds : List D} {ks : List Key}, RpA K F xs ds → toKeys ds = some ks → xs = ks.map kV
  | [], _, ks, h, e => by cases h; cases e; rfl
  | x :: xs, d :: ds, ks, h, e => by
    cases h with
    | cons h1 h2 =>
      simp only [toKeys] at e
      cases e1 : toKey d with
      | none => rw [e1] at e; cases e
      | some k =>
        rw [e1] at e
        cases e2 : toKeys ds with
        | none => rw [e2] at e; cases e
        | some ks' =>
          rw [e2] at e
          cases e
          rw [key_rel (H := fun _ => none) (.inl h1) e1, keys_rel h2 e2]; rfl
theorem nokey {kvs : List (Key × V)} {x : D} {es : List (D × D)} (h : Ent K F kD kvs ((.none, x) :: es)) : False := by
  have := h.ks
  cases kvs with
  | nil => simp at this
  | cons p kvs =>
    obtain ⟨k, v⟩ := p
    simp at this
    cases k <;> simp [kD] at this
def RelG (K : PySem.W.Frag) (F : Hp) : Option V → Option D → Prop
  | r, some d => ∃ w, r = some w ∧ Rp K F w d
  | r, none => r = none
theorem dget_ok {v y : V} {es : List (D × D)} {k : D} {o : Option D} (s : Same F H) (h : Rr K F H v (.dict es)) (hk : Rr K F H y k) (e : lookD es k = some o) : ∃ a r, v = .ref a ∧ IsD H a ∧ DGet H a y r ∧ RelG K F r o := by
  obtain ⟨a, rfl, hh⟩ := h.dict s
  rcases hh with ⟨kvs, h1, h2⟩ | ⟨kvs, es', rfl, h1, h2⟩
  · have e' : (match toKey k with | some q => some (getE toKey es q) | none => none) = some o := by
      unfold lookD at e
      split at e
      · exact (nokey h2).elim
      · exact e
    cases q : toKey k with
    | none => rw [q] at e'; cases e'
    | some kk =>
      rw [q] at e'
      cases e'
      refine ⟨a, valV kvs kk, rfl, .inl ⟨_, h1⟩, .inl ⟨kvs, kk, h1, key_rel hk q, rfl⟩, ?_⟩
      rcases h2.get toKey_kD kk with ⟨w, d, q1, q2, q3⟩ | ⟨q1, q2⟩
      · rw [q2]; exact ⟨w, q1, q3⟩
      · rw [q2]; exact q1
  · unfold lookD at e
    simp only at e
    cases k with
    | tuple ds =>
      simp only at e
      cases q : toKeys ds with
      | none => rw [q] at e; cases e
      | some ks =>
        rw [q] at e
        cases e
        obtain ⟨b, xs, rfl, hb, hx⟩ := hk.tupS s
        have := keys_rel hx q
        subst this
        refine ⟨a, valV kvs ks, rfl, .inr ⟨_, h1⟩, .inr ⟨kvs, ks, b, h1, rfl, hb, rfl⟩, ?_⟩
        rcases h2.get decT_kT ks with ⟨w, d, q1, q2, q3⟩ | ⟨q1, q2⟩
        · rw [q2]; exact ⟨w, q1, q3⟩
        · rw [q2]; exact q1
    | _ => cases e
end

/-! ### d[k], k in d -/
section
variable {K : PySem.W.Frag} {F H : Hp} {X : Cx} {c : Cfg} {W : XK}
def rDGet : R2 := fun x y H Q => ∃ a v, x = .ref a ∧ DGet H a y (some v) ∧ Q v H
def oDGet : List D → VO
  | [.dict es, k] => (match lookD es k with
    | some (some d) => .v d
    | _ => .no)
  | _ => .no
theorem vok_dget : VOk K (r2 rDGet) oDGet := by
  intro F H vs ds Q s rr hp
  unfold oDGet at hp
  split at hp
  · rename_i es k
    cases rr with
    | cons h1 h2 =>
      cases h2 with
      | cons h2 h3 =>
        cases h3
        split at hp
        · rename_i d e
          obtain ⟨a, r, rfl, _, g, w, rfl, q⟩ := dget_ok s h1 h2 e
          exact ⟨a, w, rfl, g, PostV.here s hp q⟩
        · exact hp.elim
  · exact hp.elim
theorem dx_dget {o i : Expr} {d e : DE} {pos : Pos} (hu : X.A.units + 65 < cLine) (ho : DX X c W o d) (hi : DX X c W i e) (hs : NoSl i := by exact fun _ _ => rfl) : DX X c W (.Subscript o i pos) (dOp oDGet (daC d (daC e daN))) := by
  obtain ⟨t, p, r⟩ := ho
  obtain ⟨t2, p2, r2⟩ := hi
  exact ⟨_, pe_dget (by omega) p p2 hs, re_op2 (r := rDGet) vok_dget r r2⟩
def rDIn : R2 := fun y x H Q => ∃ a o, x = .ref a ∧ DGet H a y o ∧ Q (.bl o.isSome) H
def rDNotIn : R2 := fun y x H Q => ∃ a o, x = .ref a ∧ DGet H a y o ∧ Q (.bl (!o.isSome)) H
def oDIn : List D → VO
  | [k, .dict es] => (match lookD es k with
    | some o => .v (.bool o.isSome)
    | none => .no)
  | _ => .no
def oDNotIn : List D → VO
  | [k, .dict es] => (match lookD es k with
    | some o => .v (.bool (!o.isSome))
    | none => .no)
  | _ => .no
theorem dget_some {v y : V} {es : List (D × D)} {k : D} {o : Option D} (s : Same F H) (h : Rr K F H v (.dict es)) (hk : Rr K F H y k) (e : lookD es k = some o) : ∃ a r, v = .ref a ∧ DGet H a y r ∧ r.isSome = o.isSome := by
  obtain ⟨a, r, e1, _, g, q⟩ := dget_ok s h hk e
  refine ⟨a, r, e1, g, ?_⟩
  cases o with
  | none => rw [show r = none from q]; rfl
  | some d => obtain ⟨w, rfl, _⟩ := q; rfl
theorem vok_din : VOk K (r2 rDIn) oDIn := by
  intro F H vs ds Q s rr hp
  unfold oDIn at hp
  split at hp
  · rename_i k es
    cases rr with
    | cons h1 h2 =>
      cases h2 with
      | cons h2 h3 =>
        cases h3
        split at hp
        · rename_i o e
          obtain ⟨a, r, rfl, g, q⟩ := dget_some s h2 h1 e
          rw [← q] at hp
          exact ⟨a, r, rfl, g, PostV.here s hp (.bl _)⟩
        · exact hp.elim
  · exact hp.elim
theorem vok_dnotIn : VOk K (r2 rDNotIn) oDNotIn := by
  intro F H vs ds Q s rr hp
  unfold oDNotIn at hp
  split at hp
  · rename_i k es
    cases rr with
    | cons h1 h2 =>
      cases h2 with
      | cons h2 h3 =>
        cases h3
        split at hp
        · rename_i o e
          obtain ⟨a, r, rfl, g, q⟩ := dget_some s h2 h1 e
          rw [← q] at hp
          exact ⟨a, r, rfl, g, PostV.here s hp (.bl _)⟩
        · exact hp.elim
  · exact hp.elim
theorem dx_din {a b : Expr} {da db : DE} {pos : Pos} (hu : X.A.units + 65 < cLine) (ha : DX X c W a da) (hb : DX X c W b db) (hm : behindInMarks .In b = false := by first | exact nobehind _ (by decide) (by decide) | rfl) : DX X c W (.Compare a [.In] [b] pos) (dOp oDIn (daC da (daC db daN))) := by
  obtain ⟨t, p, r⟩ := ha
  obtain ⟨t2, p2, r2⟩ := hb
  exact ⟨_, pe_cmp (pc_din (by omega) p p2) hm, re_op2 (r := rDIn) vok_din r r2⟩
theorem dx_dnotIn {a b : Expr} {da db : DE} {pos : Pos} (hu : X.A.units + 65 < cLine) (ha : DX X c W a da) (hb : DX X c W b db) (hm : behindInMarks .NotIn b = false := by first | exact nobehind _ (by decide) (by decide) | rfl) : DX X c W (.Compare a [.NotIn] [b] pos) (dOp oDNotIn (daC da (daC db daN))) := by
  obtain ⟨t, p, r⟩ := ha
  obtain ⟨t2, p2, r2⟩ := hb
  exact ⟨_, pe_cmp (pc_dnotin (by omega) p p2) hm, re_op2 (r := rDNotIn) vok_dnotIn r r2⟩
theorem dt_din {a b : Expr} {da db : DE} {pos : Pos} (hu : X.A.units + 65 < cLine) (ha : DX X c W a da) (hb : DX X c W b db) (hm : behindInMarks .In b = false := by first | exact nobehind _ (by decide) (by decide) | rfl) : DT X c W (.Compare a [.In] [b] pos) (dTst (dOp oDIn (daC da (daC db daN)))) := by
  obtain ⟨t, p, r⟩ := ha
  obtain ⟨t2, p2, r2⟩ := hb
  exact ⟨_, pt_cmp (pc_din (by omega) p p2) hm, rb_tst (re_op2 (r := rDIn) vok_din r r2)⟩
theorem dt_dnotIn {a b : Expr} {da db : DE} {pos : Pos} (hu : X.A.units + 65 < cLine) (ha : DX X c W a da) (hb : DX X c W b db) (hm : behindInMarks .NotIn b = false := by first | exact nobehind _ (by decide) (by decide) | rfl) : DT X c W (.Compare a [.NotIn] [b] pos) (dTst (dOp oDNotIn (daC da (daC db daN)))) := by
  obtain ⟨t, p, r⟩ := ha
  obtain ⟨t2, p2, r2⟩ := hb
  exact ⟨_, pt_cmp (pc_dnotin (by omega) p p2) hm, rb_tst (re_op2 (r := rDNotIn) vok_dnotIn r r2)⟩

/-! ### an operand is looked at before the others are reckoned: o.m(..) -/
def dOpM (m : D → Bool) (f : List D → VO) (d : DE) (da : DAs) : DE := fun ρ => match d ρ with
  | .ok o ρ1 => (match res ρ1 o with
    | some x => if m x = true then (match da ρ1 with
      | .ok os ρ2 => (match resA ρ2 (o :: os) with
        | some ds => (match f ds with
          | .v d => .ok (.t (.val d)) ρ2
          | .n d => .ok (.t (.own d)) ρ2
          | .no => .no)
        | none => .no)
      | .ex x ρ2 => .ex x ρ2
      | .no => .no) else .no
    | none => .no)
  | .ex x ρ1 => .ex x ρ1
  | .no => .no
theorem re_mid {M : V → Hp → Prop} {m : D → Bool} {G : V → L2.St → Hp → VK → Prop} {r : List V → Hp → VK → Prop} {f : List D → VO} {te : TE} {ta : TA} {d : DE} {da : DAs} (hM : ∀ F H v x, Same F H → Rr c.K F H v x → m x = true → M v H) (hv : VOk c.K r f) (he : RE c W te d) (ha : RA c W ta da)
    (hG : ∀ x σ H Q, M x H → ta σ H (fun ys H2 => r (x :: ys) H2 Q) → G x σ H Q) : RE c W (fun σ H Q => te σ H fun x H1 => G x σ H1 Q) (dOpM m f d da) := by
  intro τ σ ρ F H Q hl rr h
  unfold dOpM at h
  refine re_run he hl rr (fun o ρ1 e v F1 H1 hl1 hh r1 => ?_) (fun x ρ1 e => by rw [e] at h; exact h) fun e => by rw [e] at h; exact h.elim
  rw [e] at h
  simp only at h
  cases e1 : res ρ1 o with
  | none => rw [e1] at h; exact h.elim
  | some x =>
    rw [e1] at h
    simp only at h
    split at h
    · rename_i hm
      have qx := R.res1 hl1 hh r1 e1
      refine hG v σ H1 Q (hM F1 H1 v x r1.sub qx hm) ?_
      refine ha (temps [o] [v] ++ τ) σ ρ1 F1 H1 _ hl1 (by rw [List.append_assoc]; exact r1) ?_
      cases e2 : da ρ1 with
      | no => rw [e2] at h; exact h.elim
      | ex y ρ2 =>
        rw [e2] at h
        exact fun cls dd F' H' hl' xr r' => h cls dd F' H' hl' xr (by rw [List.append_assoc] at r'; exact r'.dropTemps)
      | ok os ρ2 =>
        rw [e2] at h
        intro vs F2 H2 hl2 hh2 r2
        simp only at h
        cases e3 : resA ρ2 (o :: os) with
        | none => rw [e3] at h; exact h.elim
        | some ds =>
          rw [e3] at h
          simp only at h
          have hh3 : Held σ (o :: os) (v :: vs) := by cases o with
            | t s => exact hh2
            | p i => exact ⟨hh.1, hh2⟩
          have r3 : R c F2 (temps (o :: os) (v :: vs) ++ (τ ++ σ.zip ρ2)) H2 := by
            refine r2.permL ?_
            have e4 : temps (o :: os) (v :: vs) = temps [o] [v] ++ temps os vs := by cases o <;> rfl
            rw [e4, List.append_assoc, List.append_assoc, ← List.append_assoc, ← List.append_assoc (temps [o] [v])]
            exact List.perm_append_comm.append_right _
          refine hv F2 H2 (v :: vs) ds Q r3.sub (R.resA hl2 r3 (o :: os) (v :: vs) ds (fun _ x => x) hh3 e3) ?_
          have r4 : R c F2 (τ ++ σ.zip ρ2) H2 := r3.dropTemps
          cases e5 : f ds with
          | no => rw [e5] at h; exact h.elim
          | v d =>
            rw [e5] at h
            intro z F' H' g hz
            exact h z F' H' hl2 ((r4.grow g).addV hz)
          | n d =>
            rw [e5] at h
            intro p o F' H' g hp fp ho hown
            exact h (.ref p) F' H' hl2 (r4.addO g hp fp ho hown)
    · exact h.elim
def isDict : D → Bool
  | .dict _ => true
  | _ => false
def MDict : V → Hp → Prop := fun v H => ∃ a, v = .ref a ∧ IsD H a
theorem mDict_ok (s : Same F H) {v : V} {x : D} (h : Rr K F H v x) (hm : isDict x = true) : MDict v H := by
  cases x with
  | dict es =>
    obtain ⟨a, rfl, hh⟩ := h.dict s
    rcases hh with ⟨kvs, h1, _⟩ | ⟨kvs, _, _, h1, _⟩
    · exact ⟨a, rfl, .inl ⟨_, h1⟩⟩
    · exact ⟨a, rfl, .inr ⟨_, h1⟩⟩
  | _ => cases hm
def rGet1 : List V → Hp → VK → Prop := fun vs H Q => match vs with
  | [.ref a, y] => ∃ o, DGet H a y o ∧ Q (o.getD .non) H
  | _ => False
def rGet2 : List V → Hp → VK → Prop := fun vs H Q => match vs with
  | [.ref a, y, z] => ∃ o, DGet H a y o ∧ Q (o.getD z) H
  | _ => False
def oGet1 : List D → VO
  | [.dict es, k] => (match lookD es k with
    | some (some d) => .v d
    | some none => .v .none
    | none => .no)
  | _ => .no
/-- the further value: data that nobody changes -/
def oGet2 : List D → VO
  | [.dict es, k, d0] => (match lookD es k with
    | some (some d) => .v d
    | some none => (match d0 with
      | .int i => .v (.int i)
      | .none => .v .none
      | .bool b => .v (.bool b)
      | .str x => .v (.str x)
      | .tuple ds => .v (.tuple ds)
      | _ => .no)
    | none => .no)
  | _ => .no
theorem vok_get1 : VOk K rGet1 oGet1 := by
  intro F H vs ds Q s rr hp
  unfold oGet1 at hp
  split at hp
  · rename_i es k
    cases rr with
    | cons h1 h2 =>
      cases h2 with
      | cons h2 h3 =>
        cases h3
        split at hp
        · rename_i d e
          obtain ⟨a, r, rfl, _, g, w, rfl, q⟩ := dget_ok s h1 h2 e
          exact ⟨_, g, PostV.here s hp q⟩
        · rename_i e
          obtain ⟨a, r, rfl, _, g, q⟩ := dget_ok s h1 h2 e
          have q : r = none := q
          subst q
          exact ⟨_, g, PostV.here s hp .non⟩
        · exact hp.elim
  · exact hp.elim
theorem vok_get2 : VOk K rGet2 oGet2 := by
  intro F H vs ds Q s rr hp
  unfold oGet2 at hp
  split at hp
  · rename_i es k d0
    cases rr with
    | cons h1 h2 =>
      cases h2 with
      | cons h2 h3 =>
        cases h3 with
        | cons h3 h4 =>
          cases h4
          split at hp
          · rename_i d e
            obtain ⟨a, r, rfl, _, g, w, rfl, q⟩ := dget_ok s h1 h2 e
            exact ⟨_, g, PostV.here s hp q⟩
          · rename_i e
            obtain ⟨a, r, rfl, _, g, q⟩ := dget_ok s h1 h2 e
            have q : r = none := q
            subst q
            refine ⟨_, g, ?_⟩
            cases d0 with
            | int i => cases h3.int; exact PostV.here s hp (.int _)
            | none => cases h3.non; exact PostV.here s hp .non
            | bool i => cases h3.bl; exact PostV.here s hp (.bl _)
            | str i => cases h3.str; exact PostV.here s hp (.str _)
            | tuple ds =>
              rcases h3 with h3 | ⟨_, _, _, _, h3⟩
              · exact PostV.here s hp h3
              · cases h3
            | _ => exact hp.elim
          · exact hp.elim
  · exact hp.elim
theorem dx_get1 {o e : Expr} {d de : DE} {apos cpos : Pos} (hu : X.A.units + 65 < cLine) (ho : DX X c W o d) (he : DX X c W e de)
    (hb : attributeBase o "get" X.env (eval o X.env) = eval o X.env := by rfl)
    (hf : ((backTo cpos (starEach [e] X.env)).all (fun x => !x.1) && (backToKw cpos (keywordEach [] X.env)).all (fun x => x.1.isSome) && decide (([e] : List Expr).length + ([] : List Keyword).length + (if ([] : List Keyword).isEmpty then 0 else 1) < 30)) = true := by rfl)
    (hli : (apos.endLine == cpos.line) = true := by rfl) (ht : backTo cpos (starEach [e] X.env) = [(false, eval e X.env)] := by rfl) : DX X c W (.Call (.Attribute o "get" apos) [e] [] cpos) (dOpM isDict oGet1 d (daC de daN)) := by
  obtain ⟨t, p, r⟩ := ho
  obtain ⟨t2, p2, r2⟩ := he
  refine ⟨_, pe_dget1 (by omega) p p2 ⟨hb, hf, hli, ht⟩, ?_⟩
  exact re_mid (M := MDict) (r := rGet1) (G := fun x σ H1 Q => ∃ a, x = .ref a ∧ IsD H1 a ∧ t2 σ H1 fun y H2 => ∃ o, DGet H2 a y o ∧ Q (o.getD .non) H2) (fun F H v x s q hm => mDict_ok s q hm) vok_get1 r (ra_cons r2 ra_nil)
    fun x σ H Q ⟨a, ea, hd⟩ h => by subst ea; exact ⟨a, rfl, hd, h⟩
theorem dx_get2 {o e f : Expr} {d de df : DE} {apos cpos : Pos} (hu : X.A.units + 65 < cLine) (ho : DX X c W o d) (he : DX X c W e de) (hfx : DX X c W f df)
    (hb : attributeBase o "get" X.env (eval o X.env) = eval o X.env := by rfl)
    (hf : ((backTo cpos (starEach [e, f] X.env)).all (fun x => !x.1) && (backToKw cpos (keywordEach [] X.env)).all (fun x => x.1.isSome) && decide (([e, f] : List Expr).length + ([] : List Keyword).length + (if ([] : List Keyword).isEmpty then 0 else 1) < 30)) = true := by rfl)
    (hli : (apos.endLine == cpos.line) = true := by rfl) (ht : backTo cpos (starEach [e, f] X.env) = [(false, eval e X.env), (false, eval f X.env)] := by rfl) : DX X c W (.Call (.Attribute o "get" apos) [e, f] [] cpos) (dOpM isDict oGet2 d (daC de (daC df daN))) := by
  obtain ⟨t, p, r⟩ := ho
  obtain ⟨t2, p2, r2⟩ := he
  obtain ⟨t3, p3, r3⟩ := hfx
  refine ⟨_, pe_dget2 (by omega) p p2 p3 ⟨hb, hf, hli, ht⟩, ?_⟩
  exact re_mid (M := MDict) (r := rGet2) (G := fun x σ H1 Q => ∃ a, x = .ref a ∧ IsD H1 a ∧ t2 σ H1 fun y H2 => t3 σ H2 fun z H3 => ∃ o, DGet H3 a y o ∧ Q (o.getD z) H3) (fun F H v x s q hm => mDict_ok s q hm) vok_get2 r (ra_cons r2 (ra_cons r3 ra_nil))
    fun x σ H Q ⟨a, ea, hd⟩ h => by subst ea; exact ⟨a, rfl, hd, h⟩

/-! ### displays -/
def dDNewK : DE := fun ρ => .ok (.t (.own (.dict []))) ρ
def dDNewT : DE := fun ρ => .ok (.t (.own (.dict [(.none, .none)]))) ρ
theorem dx_dnewK {pos : Pos} : DX X c W (.Dict [] [] pos) dDNewK := ⟨_, pe_dnewK, fun τ σ ρ F H Q hl r h p hp =>
  h (.ref p) _ _ hl (r.addO (Grow.new1 r.sub hp) hp (r.sub.free hp) upd_same (.dK rfl .nil))⟩
theorem dx_dnewT {pos : Pos} : DX X c W (.Dict [] [] pos) dDNewT := ⟨_, pe_dnewT, fun τ σ ρ F H Q hl r h p hp =>
  h (.ref p) _ _ hl (r.addO (Grow.new1 r.sub hp) hp (r.sub.free hp) upd_same (.dT rfl .nil))⟩
def flat : List (V × V) → List V
  | [] => []
  | (x, y) :: r => x :: y :: flat r
def unflat : List V → List (V × V)
  | x :: y :: r => (x, y) :: unflat r
  | _ => []
theorem unflat_flat : ∀ ps : List (V × V), unflat (flat ps) = ps
  | [] => rfl
  | (x, y) :: r => by rw [flat, unflat, unflat_flat r]
def tFlat (trs : List (TE × TE)) : TA := fun σ H Q => tPairs trs σ H fun ps H' => Q (flat ps) H'
def DXP (X : Cx) (c : Cfg) (W : XK) (pos : Pos) (keys : List (Option Expr)) (values : List Expr) (da : DAs) : Prop := ∃ trs, PPs X pos keys values trs ∧ RA c W (tFlat trs) da
theorem dp_nil {pos : Pos} : DXP X c W pos [] [] daN := ⟨_, pps_nil, ra_nil⟩
theorem dp_cons {pos : Pos} {k v : Expr} {ks : List (Option Expr)} {vs : List Expr} {dk dv : DE} {da : DAs} (hk : DX X c W k dk) (hv : DX X c W v dv) (hr : DXP X c W pos ks vs da) : DXP X c W pos (some k :: ks) (v :: vs) (daC dk (daC dv da)) := by
  obtain ⟨t, p, r⟩ := hk
  obtain ⟨t2, p2, r2⟩ := hv
  obtain ⟨trs, p3, r3⟩ := hr
  exact ⟨_, pps_cons p p2 p3, ra_cons r (ra_cons r2 r3)⟩
/-- the pairs of a display -/
def prs : List D → Option (List (Key × D))
  | [] => some []
  | k :: v :: r => (match toKey k with
    | some q => (match prs r with
      | some ps => some ((q, v) :: ps)
      | none => none)
    | none => none)
  | [_] => none
def mergeD (es : List (D × D)) (ps : List (Key × D)) : List (D × D) := ps.foldl (fun acc p => putE kD toKey acc p.1 p.2) es
theorem prs_rel : ∀ (vs : List V) (ds : List D) (ps : List (Key × D)), RpA K F vs ds → prs ds = some ps → ∃ kvs : List (Key × V), unflat vs = kvs.map (fun kv => (kV kv.1, kv.2)) ∧ kvs.length = ps.length ∧
    ∀ {kvs0 : List (Key × V)} {es : List (D × D)}, Ent K F kD kvs0 es → Ent K F kD (mergeK kvs0 kvs) (mergeD es ps)
  | [], [], ps, _, e => by cases e; exact ⟨[], rfl, rfl, fun h => h⟩
  | [_], [_], ps, _, e => by cases e
  | x :: y :: vs, k :: v :: ds, ps, h, e => by
    cases h with
    | cons h1 h2 =>
      cases h2 with
      | cons h2 h3 =>
        simp only [prs] at e
        cases e1 : toKey k with
        | none => rw [e1] at e; cases e
        | some q =>
          rw [e1] at e
          simp only at e
          cases e2 : prs ds with
          | none => rw [e2] at e; cases e
          | some ps' =>
            rw [e2] at e
            cases e
            obtain ⟨kvs, i1, i2, i3⟩ := prs_rel vs ds ps' h3 e2
            refine ⟨(q, y) :: kvs, ?_, by simp [i2], fun {kvs0 es} h => ?_⟩
            · rw [unflat, i1, key_rel (H := fun _ => none) (.inl h1) e1]; rfl
            · exact i3 (h.put toKey_kD q h2)
  | [], _ :: _, _, h, _ => by cases h
  | _ :: _, [], _, h, _ => by cases h
  | [_], _ :: _ :: _, _, h, _ => by cases h with | cons _ h => cases h
  | _ :: _ :: _, [_], _, h, _ => by cases h with | cons _ h => cases h
def dDisp (da : DAs) : DE := fun ρ => match da ρ with
  | .ok os ρ1 => (match frzA ρ1 os with
    | some (ds, ρ2) => (match prs ds with
      | some ps => if ps.length ≤ 15 then .ok (.t (.own (.dict (mergeD [] ps)))) ρ2 else .no
      | none => .no)
    | none => .no)
  | .ex x ρ1 => .ex x ρ1
  | .no => .no
theorem re_disp {trs : List (TE × TE)} {da : DAs} (ha : RA c W (tFlat trs) da) : RE c W (tDisp trs) (dDisp da) := by
  intro τ σ ρ F H Q hl rr h p hp
  unfold dDisp at h
  have r0 : R c F (((some (.ref p), .own (.dict [])) :: τ) ++ σ.zip ρ) (upd H p (.dK [])) := rr.addO (Grow.new1 rr.sub hp) hp (rr.sub.free hp) upd_same (.dK rfl .nil)
  have key := ha ((some (.ref p), .own (.dict [])) :: τ) σ ρ F _ (fun vs H2 => H2 p = some (.dK []) ∧ ∃ kvs : List (Key × V), unflat vs = kvs.map (fun kv => (kV kv.1, kv.2)) ∧ kvs.length ≤ 15 ∧ Q (.ref p) (upd H2 p (.dK (mergeK [] kvs)))) hl r0
  unfold tFlat at key
  simp only [unflat_flat] at key
  refine key ?_
  cases e : da ρ with
  | no => rw [e] at h; exact h.elim
  | ex x ρ1 => rw [e] at h; exact PostX.drop h
  | ok os ρ1 =>
    rw [e] at h
    intro vs F1 H1 hl1 hh r1
    simp only at h
    cases e1 : frzA ρ1 os with
    | none => rw [e1] at h; exact h.elim
    | some pp =>
      obtain ⟨ds, ρ2⟩ := pp
      rw [e1] at h
      simp only at h
      obtain ⟨F2, s2, hl2, q, r2⟩ := R.frzA hl1 hh r1 e1
      cases e2 : prs ds with
      | none => rw [e2] at h; exact h.elim
      | some ps =>
        rw [e2] at h
        simp only at h
        split at h
        · rename_i hz
          have r2 : R c F2 ((some (.ref p), .own (.dict [])) :: (τ ++ σ.zip ρ2)) H1 := r2
          obtain ⟨f1, o, f2, f3⟩ := r2.ok _ List.mem_cons_self
          obtain ⟨kvs, i1, i2, i3⟩ := prs_rel vs ds ps q e2
          cases f3 with
          | @dK kvs0 _ g1 g2 =>
            have : kvs0 = [] := by cases kvs0 with
              | nil => rfl
              | cons _ _ => simp at g1
            subst this
            obtain ⟨j1, j2⟩ := i3 (kvs0 := []) (es := []) .nil
            refine ⟨f2, kvs, i1, by omega, ?_⟩
            exact h (.ref p) F2 _ hl2 (r2.change (.dK j1 j2))
        · exact h.elim
theorem dx_disp {pos : Pos} {keys : List (Option Expr)} {values : List Expr} {da : DAs} (h : DXP X c W pos keys values da) (hall : keys.all (·.isSome) = true := by rfl) (hl : keys.length = values.length := by rfl) (h0 : keys ≠ [] := by simp) (h15 : keys.length ≤ 15 := by decide) : DX X c W (.Dict keys values pos) (dDisp da) := by
  obtain ⟨trs, p, r⟩ := h
  exact ⟨_, pe_disp p hall hl h0 h15, re_disp r⟩
/-! ### d[k] = v -/
def putD (es : List (D × D)) (k v : D) : Option (List (D × D)) := match es with
  | (.none, m) :: es' => (match k with
    | .tuple ds => (match toKeys ds with
      | some ks => some ((.none, m) :: putE kT decT es' ks v)
      | none => none)
    | _ => none)
  | es => (match toKey k with
    | some q => some (putE kD toKey es q v)
    | none => none)
def sIxD (k : Nat) (d di : DE) : DS := fun ρ => match d ρ with
  | .ok o ρ0 => (match frz1 ρ0 o with
    | some (x, ρ1) => (match ρ1[k]? with
      | some (.own _) => (match di ρ1 with
        | .ok oi ρ2' => (match frz1 ρ2' oi with
          | some (y, ρ2) => (match ρ2[k]? with
            | some (.own (.dict es)) => if es.length < 100000 then (match putD es y x with
              | some es' => .nx (ρ2.set k (.own (.dict es')))
              | none => .no) else .no
            | _ => .no)
          | none => .no)
        | .ex x ρ2 => .ex x ρ2
        | _ => .no)
      | _ => .no)
    | none => .no)
  | .ex x ρ1 => .ex x ρ1
  | .no => .no
theorem put_ok {a : Addr} {o : HO} {es es' : List (D × D)} {y v : V} {k x : D} (s : Same F H) (ha : H a = some o) (ho : Own K F o (.dict es)) (hy : Rp K F y k) (hv : Rp K F v x) (hz : es.length < 100000) (e : putD es k x = some es') :
    ∃ o', DPut H a y v (upd H a o') ∧ Own K F o' (.dict es') := by
  cases ho with
  | @dK kvs _ h1 h2 =>
    have e' : (match toKey k with | some q => some (putE kD toKey es q x) | none => none) = some es' := by
      unfold putD at e
      split at e
      · exact (nokey (K := K) (F := F) ⟨h1, h2⟩).elim
      · exact e
    cases q : toKey k with
    | none => rw [q] at e'; cases e'
    | some kk =>
      rw [q] at e'
      cases e'
      obtain ⟨j1, j2⟩ := Ent.put (K := K) (F := F) toKey_kD kk hv ⟨h1, h2⟩
      have hl : kvs.length = es.length := by have := congrArg List.length h1; simpa using this.symm
      exact ⟨_, .inl ⟨kvs, kk, ha, key_rel (H := H) (.inl hy) q, by rw [hl]; exact Nat.lt_of_lt_of_le hz (szl (Nat.le_refl _)), rfl⟩, .dK j1 j2⟩
  | @dT kvs es0 h1 h2 =>
    unfold putD at e
    simp only at e
    cases k with
    | tuple ds =>
      simp only at e
      cases q : toKeys ds with
      | none => rw [q] at e; cases e
      | some ks =>
        rw [q] at e
        cases e
        cases hy with
        | @tup b xs _ hb hx =>
          have := keys_rel hx q
          subst this
          obtain ⟨j1, j2⟩ := Ent.put (K := K) (F := F) decT_kT ks hv ⟨h1, h2⟩
          have hl : kvs.length = es0.length := by have := congrArg List.length h1; simpa using this.symm
          have hz' : es0.length + 1 < 100000 := hz
          exact ⟨_, .inr ⟨kvs, ks, b, ha, rfl, s _ _ hb, by rw [hl]; exact Nat.lt_of_lt_of_le (by omega) (szl (Nat.le_refl _)), rfl⟩, .dT j1 j2⟩
    | _ => cases e
theorem rs_ixD {k : Nat} {te ti : TE} {d di : DE} (he : RE c W te d) (hi : RE c W ti di) : RS c W (sDPut (tVar k) ti te) (sIxD k d di) := by
  intro τ σ ρ F H Dn hl hp r h
  unfold sIxD at h
  refine re_run he hl r (fun o ρ0 e v F1 H1 hl1 hh r1 => ?_) (fun x ρ1 e => by rw [e] at h; exact PostX'.of hp h) fun e => by rw [e] at h; exact h.elim
  rw [e] at h
  simp only at h
  cases e1 : frz1 ρ0 o with
  | none => rw [e1] at h; exact h.elim
  | some p =>
    obtain ⟨x, ρ1⟩ := p
    rw [e1] at h
    simp only at h
    obtain ⟨F2, s2, hl2, r2⟩ := R.frz1 hl1 hh r1 e1
    cases e2 : ρ1[k]? with
    | none => rw [e2] at h; exact h.elim
    | some s =>
      rw [e2] at h
      cases s with
      | no => exact h.elim
      | val _ => exact h.elim
      | own d00 =>
        simp only at h
        obtain ⟨a, o', f1, _, _, _⟩ := R.ownSlot (r2.drop) hl2 e2
        refine ⟨.ref a, f1, re_run hi (τ := (some v, .val x) :: τ) hl2 r2 (fun oi ρ2' e3 y F3 H3 hl3 hh3 r3 => ?_) (fun y ρ2 e3 => by rw [e3] at h; exact (PostX'.of hp h).drop1) fun e3 => by rw [e3] at h; exact h.elim⟩
        rw [e3] at h
        simp only at h
        cases e4 : frz1 ρ2' oi with
        | none => rw [e4] at h; exact h.elim
        | some p2 =>
          obtain ⟨yd, ρ2⟩ := p2
          rw [e4] at h
          simp only at h
          obtain ⟨F4, s4, hl4, r4⟩ := R.frz1 hl3 hh3 r3 e4
          have qy : Rp c.K F4 y yd := r4.ok _ List.mem_cons_self
          have r5 : R c F4 ((some v, .val x) :: (τ ++ σ.zip ρ2)) H3 := r4.drop
          have qx : Rp c.K F4 v x := r5.ok _ List.mem_cons_self
          have r6 := r5.drop
          cases e5 : ρ2[k]? with
          | none => rw [e5] at h; exact h.elim
          | some s =>
            rw [e5] at h
            cases s with
            | no => exact h.elim
            | val _ => exact h.elim
            | own d0 =>
              cases d0 with
              | dict es =>
                simp only at h
                split at h
                · rename_i hz
                  cases e6 : putD es yd x with
                  | none => rw [e6] at h; exact h.elim
                  | some es' =>
                    rw [e6] at h
                    obtain ⟨a', o2, g1, g2, g3, g4⟩ := r6.ownSlot hl4 e5
                    have ea : a' = a := by rw [f1] at g1; cases g1; rfl
                    subst ea
                    obtain ⟨o3, j1, j2⟩ := put_ok r6.sub g3 g4 qy qx hz e6
                    exact ⟨a', _, rfl, j1, h σ F4 _ (by simpa using hl4) hp (r6.changeSlot f1 e5 j2)⟩
                · exact h.elim
              | _ => exact h.elim
theorem ds_ixD {k : Nat} {x : Str} {e i : Expr} {d di : DE} {px tpos pos : Pos} (hu : X.A.units + 65 < cLine) (he : DX X c W e d) (hi : DX X c W i di) (hN : X.N[k]? = some x := by rfl) (hv : Vis X.env.scope x := by first | exact Or.inl rfl | exact Or.inr (Or.inl rfl) | exact Or.inr (Or.inr rfl)) (hd : (x == ("__debug__" : Str)) = false := by decide) (hcd : (x == ("__classdict__" : Str)) = false := by decide)
    (hs : swapsWith e (some (.Subscript (.Name x px) i tpos)) pos.line X.env = pure false := by rfl) :
    DSt X c W (.Assign [.Subscript (.Name x px) i tpos] e pos) (sIxD k d di) := by
  obtain ⟨t, p, r⟩ := he
  obtain ⟨t2, p2, r2⟩ := hi
  exact ⟨_, ps_dput (by omega) (pe_var hN hv hd hcd) p2 p hs, rs_ixD r r2⟩
end
end PD

set_option Elab.async false
set_option linter.all false
set_option maxRecDepth 100000
set_option maxHeartbeats 2000000
/-! PdN: dict(pairs), d.update(d2), min of data, constants of the module that are tuples. -/
namespace PD
open PySem PySem.Spec PyProof.Rows L2
abbrev Ke := L2.Key
def mergeT (kvs more : List (List Ke × V)) : List (List Ke × V) := more.foldl (fun acc kv => putK acc kv.1 kv.2) kvs
theorem length_mergeT : ∀ (more kvs : List (List Ke × V)), (mergeT kvs more).length ≤ kvs.length + more.length
  | [], kvs => by show kvs.length ≤ kvs.length + 0; omega
  | p :: r, kvs => by
    have h1 := length_mergeT r (putK kvs p.1 p.2)
    have h2 := length_putK kvs p.1 p.2
    show (mergeT (putK kvs p.1 p.2) r).length ≤ _
    rw [List.length_cons]; omega
theorem KT_merge {H : Hp} {more : List (List Ke × V)} {rs : List (List Ke × Addr × Value)} (h : KT H more rs) : ∀ {kvs : List (List Ke × V)} {xs : List (List Ke × Addr × Value)}, KT H kvs xs → KT H (mergeT kvs more) (storedAllH xs rs) := by
  induction h with
  | nil => intro kvs xs q; exact q
  | @cons p r ps qs h t ih =>
    intro kvs xs q
    have e : KT H (putK kvs p.1 p.2) (storedH xs r.1 r.2.1 r.2.2) := by
      have := q.put p.1 (b := r.2.1) h.2.1 h.2.2
      rw [← h.1]; exact this
    exact ih e
/-- a pair's object, its key's object, the key, the value -/
structure PT4 where
  p : Addr
  b : Addr
  k : List Ke
  v : V
def rDictT (K : PySem.W.Frag) : List V → Hp → VK → Prop := fun vs H Q => ∃ (a : Addr) (es : List PT4), vs = [.ref a] ∧ SqL K H a (es.map fun e => .ref e.p) ∧ (∀ e ∈ es, SqT K H e.p [.ref e.b, e.v] ∧ H e.b = some (.tup (e.k.map kV))) ∧ es.length ≤ sizeLine ∧
  ∀ p, H p = none → Q (.ref p) (upd H p (.dT (mergeT [] (es.map fun e => (e.k, e.v)))))
section
variable {X : Cx} {pins : List (Addr × Obj)} {σ : L2.St} {H : Hp} {s : Shared}
theorem refsOf {α : Type} (f : α → Addr) : ∀ {es : List α} {us : List Value}, Vals (es.map fun e => V.ref (f e)) us → us = es.map fun e => Value.ref (f e)
  | [], us, r => by
    rw [List.map_nil] at r
    cases r; rfl
  | e :: es, us, r => by
    rw [List.map_cons] at r
    cases r with
    | cons h t =>
      cases h
      rw [List.map_cons, ← refsOf f t]
theorem entsT (I : Inv X pins σ H s) : ∀ (es : List PT4), (∀ e ∈ es, SqT X.K H e.p [.ref e.b, e.v] ∧ H e.b = some (.tup (e.k.map kV))) →
    ∃ rs : List (List Ke × Addr × Value), KT H (es.map fun e => (e.k, e.v)) rs ∧ rs.length = es.length ∧ ∀ (j : Nat) q, rs[j]? = some q → ∃ e, es[j]? = some e ∧ IsTup s.heap e.p #[.ref q.2.1, q.2.2]
  | [], _ => ⟨[], .nil, rfl, fun j q h => by simp at h⟩
  | e :: es, h => by
    obtain ⟨rs, h1, h2, h3⟩ := entsT I es fun x hx => h x (List.mem_cons_of_mem _ hx)
    obtain ⟨g1, g2⟩ := h e List.mem_cons_self
    obtain ⟨its, rv, ht, _⟩ := I.tuple g1
    obtain ⟨u, y, ei, ru, ry⟩ := vals2 rv
    cases ru
    subst ei
    refine ⟨(e.k, e.b, y) :: rs, .cons ⟨rfl, g2, ry⟩ h1, by simp [h2], fun j q hj => ?_⟩
    cases j with
    | zero =>
      cases (Option.some.inj (show some (e.k, e.b, y) = some q from hj))
      exact ⟨e, rfl, by simpa using ht⟩
    | succ j => exact h3 j q (by simpa using hj)
theorem keysT (I : Inv X pins σ H s) : ∀ {l : List (List Ke × V)} {m : List (List Ke × Addr × Value)}, KT H l m → ∀ x ∈ m, (tupleKind (mixKind X.prog X.w)).is s.heap x.1 x.2.1
  | _, _, .nil, x, hx => nomatch hx
  | _, _, .cons (a := p) (b := r) hq t, x, hx => by
    rcases List.mem_cons.mp hx with e | hx
    · subst e
      exact key_of I.hok (by rw [← hq.1]; exact hq.2.1)
    · exact keysT I t x hx
theorem cr_dictT (hcalm : X.calm = true) (hu : X.A.units + 65 < cLine) : CallR X (.type "dict") (rDictT X.K) := by
  intro pins s σ H xs us Q I r q
  obtain ⟨a, es, rfl, hq, he, hz, q⟩ := q
  obtain rfl := Vals.ref1 r
  obtain ⟨its, rv, ⟨o, n, ho, hc, hd, hdat⟩, _⟩ := I.list hq
  have ei := refsOf (fun e : PT4 => e.p) rv
  subst ei
  obtain ⟨rs, k1, k2, k3⟩ := entsT I es he
  have st := tupleKind_stays (prog := X.prog) (w := X.w) (knd := mixKind X.prog X.w)
  have hm : (s.heap.objs.size == sysModules) = false := beq_eq_false_iff_ne.mpr (Nat.ne_of_gt I.big)
  have ok : PlainSeq "list" s.heap a (es.map fun e => Value.ref e.p).toArray ∧ PairItems s.heap (es.map fun e => Value.ref e.p).toArray (fun j => ((es.map fun e => e.p)[j]?).getD 0) (rs.map fun q => (Value.ref q.2.1, q.2.2)) := by
    refine ⟨⟨o, n, ho, hc, hd, hdat⟩, by simp [k2], fun j k v e => ?_⟩
    rw [List.getElem?_map] at e
    cases e1 : rs[j]? with
    | none => rw [e1] at e; cases e
    | some q0 =>
      rw [e1] at e
      cases e
      obtain ⟨e0, g1, g2⟩ := k3 j q0 e1
      refine ⟨by simp [g1], .inl ?_⟩
      obtain ⟨o2, y1, y2, m, y3⟩ := g2
      simp only [List.getElem?_map, g1, Option.map_some, Option.getD_some]
      exact ⟨o2, y1, y2, m, y3⟩
  refine call_dict_pairsH (knd := tupleKind (mixKind X.prog X.w)) (ps := rs) (PairArg.list a _ _ _) (I.ok.hd hcalm) (show X.A.units + 1 + 1 < cLine by omega) ok ⟨by simp, fun i key v hr => ?_⟩
    (fun h' hk x hx => st.stays (fun b o vs n e _ => hk b o (Nat.ne_of_lt (Heap.lt_size e)) (fun z => nomatch z) e) (keysT I k1 x hx)) (by simp only [List.length_map]; omega) fun h' tk dd k => ?_
  · have hr : (rs.map fun q => (Value.ref q.2.1, q.2.2))[i]? = some (key, v) := hr
    rw [List.getElem?_map] at hr
    cases e1 : rs[i]? with
    | none => rw [e1] at hr; cases hr
    | some q0 =>
      rw [e1] at hr
      cases hr
      exact ⟨q0.1, q0.2.1, rfl, rfl⟩
  · have k' : ∀ b o, s.heap.get? b = some o → h'.get? b = some o := fun b o e => k b o (fun z => nomatch z) e
    have hlen : (mergeT [] (es.map fun e => (e.k, e.v))).length ≤ sizeLine := by
      have := length_mergeT (es.map fun e => (e.k, e.v)) []
      simp only [List.length_nil, List.length_map] at this
      omega
    obtain ⟨oq, ees, ep, hoq, h2, h3, h4, _, h5⟩ := dd
    have fr := I.hok.fresh (Nat.le_refl s.heap.objs.size)
    exact ⟨.ref s.heap.objs.size, _, I.laid (o := .dT (mergeT [] (es.map fun e => (e.k, e.v)))) (t' := tk) k' (Nat.le_refl _)
      ⟨hlen, hm, _, (KT_merge k1 (kvs := []) .nil).keeps fun b ys eb => (by rw [upd_ne (ne_of_none eb fr)]; exact eb), oq, ees, ep, hoq, h2, h3, h4, h5⟩, rfl, q _ fr⟩
end

/-! ### d.update(d2) -/
def rUpdT (P : Program) (w : World) : V → List V → Hp → VK → Prop := fun x vs H Q => ∃ (a b : Addr) (kvs more : List (List Ke × V)), x = .ref a ∧ vs = [.ref b] ∧ a ≠ b ∧ H a = some (.dT kvs) ∧ Rd H b (.dT more) ∧ kvs.length + more.length ≤ sizeLine ∧
  (kvs ≠ [] ∨ (more.map fun p => tupleKeyHash (mixKind P w) p.1).Nodup) ∧ Q .non (upd H a (.dT (mergeT kvs more)))
def rUpdK : V → List V → Hp → VK → Prop := fun x vs H Q => ∃ (a b : Addr) (kvs more : List (Ke × V)), x = .ref a ∧ vs = [.ref b] ∧ a ≠ b ∧ H a = some (.dK kvs) ∧ Rd H b (.dK more) ∧ kvs.length + more.length ≤ sizeLine ∧ Q .non (upd H a (.dK (mergeK kvs more)))
section
variable {X : Cx}
theorem KT_len {H : Hp} {kvs : List (List Ke × V)} {xs : List (List Ke × Addr × Value)} (h : KT H kvs xs) : kvs.length = xs.length := Paired.length h
theorem KT_keys {H : Hp} {kvs : List (List Ke × V)} {xs : List (List Ke × Addr × Value)} (h : KT H kvs xs) : xs.map (·.1) = kvs.map (·.1) := by
  induction h with
  | nil => rfl
  | cons h t ih => rw [List.map_cons, List.map_cons, ih, h.1]
theorem mt_updT (hu : X.A.units + 65 < cLine) : MtR X "dict.update" (rUpdT X.prog X.w) := by
  intro pins s σ H x xs v us Q I rx rxs h
  obtain ⟨a, b, kvs, more, rfl, rfl, hab, ha, hb, hz, hh, q⟩ := h
  cases rx
  obtain rfl := Vals.ref1 rxs
  obtain ⟨z, hd, xs1, rel1, dd1⟩ := dt_of I.hok ha
  obtain ⟨z2, hd2, xs2, rel2, dd2⟩ := dt_rd I.hok hb
  have st := tupleKind_stays (prog := X.prog) (w := X.w) (knd := mixKind X.prog X.w)
  have l1 := KT_len rel1
  have l2 := KT_len rel2
  refine call_update_dictH (knd := tupleKind (mixKind X.prog X.w)) (show X.A.units + 1 < cLine by omega) hab hd2 dd1 dd2 ?_ (by omega) fun h' d' _ hs => ?_
  · rcases hh with hh | hh
    · refine .inl fun e => hh ?_
      subst e
      exact List.eq_nil_of_length_eq_zero l1
    · refine .inr ⟨keyed_apart st dd2, ?_⟩
      have e : xs2.map (fun x => (tupleKind (mixKind X.prog X.w)).hash x.1) = more.map (fun p => tupleKeyHash (mixKind X.prog X.w) p.1) := by
        have := congrArg (List.map (tupleKeyHash (mixKind X.prog X.w))) (KT_keys rel2)
        rw [List.map_map, List.map_map] at this
        exact this
      rw [e]; exact hh
  · obtain ⟨o, es, ep, hq, h2, h3, h4, _, h5⟩ := d'
    have hl : (mergeT kvs more).length ≤ sizeLine := Nat.le_trans (length_mergeT more kvs) hz
    exact ⟨.non, _, d_write (ob := .dT (mergeT kvs more)) I (by rw [ha]; exact True.intro) hs ⟨o, hq⟩ ⟨hl, hd, _, (KT_merge rel2 rel1).keeps fun c ys ec => (by rw [upd_ne (ne_of ec ha (fun z => nomatch z))]; exact ec), o, es, ep, hq, h2, h3, h4, h5⟩, rfl, q⟩
theorem mt_updK : MtR X "dict.update" rUpdK := by
  intro pins s σ H x xs v us Q I rx rxs h
  obtain ⟨a, b, kvs, more, rfl, rfl, hab, ha, hb, hz, q⟩ := h
  cases rx
  obtain rfl := Vals.ref1 rxs
  obtain ⟨z, hd, vs1, rel1, dd1⟩ := dk_of I.hok ha
  obtain ⟨z2, hd2, vs2, rel2, dd2⟩ := dk_rd I.hok hb
  refine call_meetsIn PySem.F.slot_dict_update dd1.typeIs PySem.F.entry_dict_update (PySem.F.args_dict_update_2 _ _) (meets_dict_update (mixKind X.prog X.w) a b hab hd2)
    ⟨vs1, vs2, dd1, dd2, by rw [← rel1.length, ← rel2.length]; exact hz, fun h' d' _ hs => ?_⟩
  have he : ∃ q, h'.get? a = some q := let ⟨q, _, _, hq, _⟩ := d'; ⟨q, hq⟩
  have hl : (mergeK kvs more).length ≤ sizeLine := Nat.le_trans (length_mergeK more kvs) hz
  exact ⟨.non, _, d_write (t' := s.toks) I (by rw [ha]; exact True.intro) hs he (dk_new hl hd (KV.merge rel2 rel1) d'), rfl, q⟩
end
/-! ### over data -/
def hKe : Ke → Int
  | .inl i => hashInt i
  | .inr _ => 0
def intKeys (ks : List Ke) : Bool := ks.all fun | .inl _ => true | .inr _ => false
def hashT (ks : List Ke) : Int := reduceHash (Builtin.Tuple.tupleHashOf (ks.map hKe))
theorem hashT_eq {P : Program} {w : World} {ks : List Ke} (h : intKeys ks = true) : tupleKeyHash (mixKind P w) ks = hashT ks := by
  unfold tupleKeyHash hashT
  have e : ks.map (mixKind P w).hash = ks.map hKe := by
    refine List.map_congr_left fun k hk => ?_
    have := List.all_eq_true.mp h k hk
    cases k with
    | inl i => rfl
    | inr x => cases this
  rw [e]
def keysD (es : List (D × D)) : Option (List (List Ke)) := match es with
  | [] => some []
  | p :: es => (match decT p.1 with
    | some k => (match keysD es with
      | some ks => some (k :: ks)
      | none => none)
    | none => none)
theorem keysD_ent {K : PySem.W.Frag} {F : Hp} : ∀ {kvs : List (List Ke × V)} {es : List (D × D)}, Ent K F kT kvs es → keysD es = some (kvs.map (·.1))
  | [], es, h => by
    have := h.ks
    cases es with
    | nil => rfl
    | cons q es => simp at this
  | p :: kvs, es, h => by
    obtain ⟨d, es', rfl, h1, h2⟩ := h.cons_inv
    rw [keysD]
    simp only [decT_kT, keysD_ent h2]
    rfl
/-- the keys are tuples of ints, their hashes differ -/
def hashesOk (es : List (D × D)) : Bool := match keysD es with
  | some ks => ks.all intKeys && decide (ks.map hashT).Nodup
  | none => false
def mergeTD (es es2 : List (D × D)) : List (D × D) := es2.foldl (fun acc p => match decT p.1 with
  | some k => putE kT decT acc k p.2
  | none => acc) es
def mergeKD (es es2 : List (D × D)) : List (D × D) := es2.foldl (fun acc p => match toKey p.1 with
  | some k => putE kD toKey acc k p.2
  | none => acc) es
section
variable {K : PySem.W.Frag} {F H : Hp} {X : Cx} {c : Cfg} {W : XK}
theorem Ent.mergeT : ∀ {more : List (List Ke × V)} {es2 : List (D × D)} {kvs : List (List Ke × V)} {es : List (D × D)}, Ent K F kT more es2 → Ent K F kT kvs es → Ent K F kT (PD.mergeT kvs more) (mergeTD es es2)
  | [], es2, kvs, es, h, q => by
    have := h.ks
    cases es2 with
    | nil => exact q
    | cons q es => simp at this
  | p :: more, es2, kvs, es, h, q => by
    obtain ⟨d, es', rfl, h1, h2⟩ := h.cons_inv
    have e : mergeTD es ((kT p.1, d) :: es') = mergeTD (putE kT decT es p.1 d) es' := by
      unfold mergeTD
      rw [List.foldl_cons]
      simp only [decT_kT]
    rw [e]
    have := Ent.mergeT h2 (q.put decT_kT p.1 h1)
    exact this
theorem Ent.mergeK : ∀ {more : List (Ke × V)} {es2 : List (D × D)} {kvs : List (Ke × V)} {es : List (D × D)}, Ent K F kD more es2 → Ent K F kD kvs es → Ent K F kD (L2.mergeK kvs more) (mergeKD es es2)
  | [], es2, kvs, es, h, q => by
    have := h.ks
    cases es2 with
    | nil => exact q
    | cons q es => simp at this
  | p :: more, es2, kvs, es, h, q => by
    obtain ⟨d, es', rfl, h1, h2⟩ := h.cons_inv
    have e : mergeKD es ((kD p.1, d) :: es') = mergeKD (putE kD toKey es p.1 d) es' := by
      unfold mergeKD
      rw [List.foldl_cons]
      simp only [toKey_kD]
    rw [e]
    have := Ent.mergeK h2 (q.put toKey_kD p.1 h1)
    exact this
theorem Ent.len {κ : Type} [DecidableEq κ] {enc : κ → D} {kvs : List (κ × V)} {es : List (D × D)} (h : Ent K F enc kvs es) : kvs.length = es.length := by
  have := congrArg List.length h.ks
  simpa using this.symm
def mUpdT : D → List D → Option (D × D)
  | .dict ((.none, .none) :: es), [.dict ((.none, .none) :: es2)] => if es.length + es2.length ≤ 100000 ∧ (es ≠ [] ∨ hashesOk es2 = true) then some (.none, .dict ((.none, .none) :: mergeTD es es2)) else none
  | _, _ => none
theorem mok_updT {P : Program} {w : World} : MOk K (rUpdT P w) mUpdT := by
  intro F H a o d0 vs ds Q z d1 s ha fa ho q e h
  unfold mUpdT at e
  split at e
  · rename_i es es2
    cases q with
    | cons q1 q2 =>
      cases q2
      split at e
      · rename_i hz
        cases e
        cases ho with
        | dK g1 g2 => exact (nokey (K := K) (F := F) ⟨g1, g2⟩).elim
        | @dT kvs _ g1 g2 =>
          cases q1 with
          | dK y1 y2 y3 => exact (nokey (K := K) (F := F) ⟨y2, y3⟩).elim
          | @dT b more _ y1 y2 y3 =>
            have E1 : Ent K F kT kvs es := ⟨g1, g2⟩
            have E2 : Ent K F kT more es2 := ⟨y2, y3⟩
            have hab : a ≠ b := by
              rintro rfl
              rcases y1 with y1 | ⟨_, y1⟩ <;> (rw [fa] at y1; cases y1)
            obtain ⟨m1, m2⟩ := Ent.mergeT E2 E1
            refine ⟨a, b, kvs, more, rfl, rfl, hab, ha, rd_mono s y1, ?_, ?_, h _ _ .non (.dT m1 m2)⟩
            · rw [E1.len, E2.len]; exact szl hz.1
            · rcases hz.2 with hn | hn
              · refine .inl fun e => hn ?_
                subst e
                have := E1.len
                exact List.eq_nil_of_length_eq_zero this.symm
              · refine .inr ?_
                unfold hashesOk at hn
                rw [keysD_ent E2] at hn
                obtain ⟨n1, n2⟩ := Bool.and_eq_true_iff.mp hn
                have n2 := of_decide_eq_true n2
                have e : more.map (fun p => tupleKeyHash (mixKind P w) p.1) = (more.map (·.1)).map hashT := by
                  rw [List.map_map]
                  refine List.map_congr_left fun p hp => hashT_eq (List.all_eq_true.mp n1 p.1 (List.mem_map.mpr ⟨p, hp, rfl⟩))
                rw [e]; exact n2
      · cases e
  · cases e
def notT : List (D × D) → Bool
  | (.none, _) :: _ => false
  | _ => true
def mUpdK : D → List D → Option (D × D)
  | .dict es, [.dict es2] => if notT es = true ∧ notT es2 = true ∧ es.length + es2.length ≤ 100000 then some (.none, .dict (mergeKD es es2)) else none
  | _, _ => none
theorem mok_updK : MOk K rUpdK mUpdK := by
  intro F H a o d0 vs ds Q z d1 s ha fa ho q e h
  unfold mUpdK at e
  split at e
  · rename_i es es2
    cases q with
    | cons q1 q2 =>
      cases q2
      split at e
      · rename_i hz
        cases e
        cases ho with
        | dT g1 g2 => exact nomatch hz.1
        | @dK kvs _ g1 g2 =>
          cases q1 with
          | dT y1 y2 y3 => exact nomatch hz.2.1
          | @dK b more _ y1 y2 y3 =>
            have E1 : Ent K F kD kvs es := ⟨g1, g2⟩
            have E2 : Ent K F kD more es2 := ⟨y2, y3⟩
            have hab : a ≠ b := by
              rintro rfl
              rcases y1 with y1 | ⟨_, y1⟩ <;> (rw [fa] at y1; cases y1)
            obtain ⟨m1, m2⟩ := Ent.mergeK E2 E1
            exact ⟨a, b, kvs, more, rfl, rfl, hab, ha, rd_mono s y1, by rw [E1.len, E2.len]; exact szl hz.2.2, h _ _ .non (.dK m1 m2)⟩
      · cases e
  · cases e
/-! ### dict(pairs) -/
def prsT : List D → Option (List (List Ke × D))
  | [] => some []
  | .tuple [.tuple ks, v] :: r => (match toKeys ks with
    | some q => (match prsT r with
      | some ps => some ((q, v) :: ps)
      | none => none)
    | none => none)
  | _ => none
def prsK : List D → Option (List (Ke × D))
  | [] => some []
  | .tuple [k, v] :: r => (match toKey k with
    | some q => (match prsK r with
      | some ps => some ((q, v) :: ps)
      | none => none)
    | none => none)
  | _ => none
def foldT (es : List (D × D)) (ps : List (List Ke × D)) : List (D × D) := ps.foldl (fun acc p => putE kT decT acc p.1 p.2) es
theorem prsT_rel : ∀ (ds : List D) (vs : List V) (ps : List (List Ke × D)), RpA K F vs ds → prsT ds = some ps → ∃ es : List PT4, vs = es.map (fun e => .ref e.p) ∧ (∀ e ∈ es, F e.p = some (.tup [.ref e.b, e.v]) ∧ F e.b = some (.tup (e.k.map kV))) ∧ es.length = ds.length ∧
    ∀ {kvs0 : List (List Ke × V)} {es0 : List (D × D)}, Ent K F kT kvs0 es0 → Ent K F kT (PD.mergeT kvs0 (es.map fun e => (e.k, e.v))) (foldT es0 ps)
  | [], vs, ps, h, e => by
    cases h; cases e
    exact ⟨[], rfl, (by simp), rfl, fun h => h⟩
  | d :: ds, vs, ps, h, e => by
    cases h with
    | @cons v vs' _ _ h1 h2 =>
      unfold prsT at e
      split at e
      · rename_i hd; cases hd
      · rename_i ks x r hd
        cases hd
        cases q : toKeys ks with
        | none => rw [q] at e; cases e
        | some kk =>
          rw [q] at e
          simp only at e
          cases q2 : prsT ds with
          | none => rw [q2] at e; cases e
          | some ps' =>
            rw [q2] at e
            cases e
            obtain ⟨es, i1, i2, i3, i4⟩ := prsT_rel ds vs' ps' h2 q2
            cases h1 with
            | @tup p xs _ j1 j2 =>
              cases j2 with
              | cons k1 k2 =>
                cases k2 with
                | @cons y _ _ _ k2 k3 =>
                  cases k3
                  cases k1 with
                  | @tup b zs _ l1 l2 =>
                    have := keys_rel l2 q
                    subst this
                    refine ⟨⟨p, b, kk, y⟩ :: es, by rw [i1]; rfl, fun e he => ?_, by simp [i3], fun {kvs0 es0} h => i4 (h.put decT_kT kk k2)⟩
                    rcases List.mem_cons.mp he with rfl | he
                    · exact ⟨j1, l1⟩
                    · exact i2 e he
      · cases e
theorem prsK_rel : ∀ (ds : List D) (vs : List V) (ps : List (Ke × D)), RpA K F vs ds → prsK ds = some ps → ∃ (as : List Addr) (kvs : List (Ke × V)), vs = as.map V.ref ∧ Paired (fun p (kv : Ke × V) => F p = some (.tup [kV kv.1, kv.2])) as kvs ∧
    ∀ {kvs0 : List (Ke × V)} {es0 : List (D × D)}, Ent K F kD kvs0 es0 → Ent K F kD (L2.mergeK kvs0 kvs) (mergeD es0 ps)
  | [], vs, ps, h, e => by
    cases h; cases e
    exact ⟨[], [], rfl, .nil, fun h => h⟩
  | d :: ds, vs, ps, h, e => by
    cases h with
    | @cons v vs' _ _ h1 h2 =>
      unfold prsK at e
      split at e
      · rename_i hd; cases hd
      · rename_i k x r hd
        cases hd
        cases q : toKey k with
        | none => rw [q] at e; cases e
        | some kk =>
          rw [q] at e
          simp only at e
          cases q2 : prsK ds with
          | none => rw [q2] at e; cases e
          | some ps' =>
            rw [q2] at e
            cases e
            obtain ⟨as, kvs, i1, i2, i4⟩ := prsK_rel ds vs' ps' h2 q2
            cases h1 with
            | @tup p xs _ j1 j2 =>
              cases j2 with
              | cons k1 k2 =>
                cases k2 with
                | @cons y _ _ _ k2 k3 =>
                  cases k3
                  have := key_rel (H := fun _ => none) (.inl k1) q
                  subst this
                  exact ⟨p :: as, (kk, y) :: kvs, by rw [i1]; rfl, .cons j1 i2, fun {kvs0 es0} h => i4 (h.put toKey_kD kk k2)⟩
      · cases e
def oDictT : List D → VO
  | [.list ds] => if ds.length ≤ 100000 then (match prsT ds with
    | some ps => .n (.dict ((.none, .none) :: foldT [] ps))
    | none => .no) else .no
  | _ => .no
theorem vok_dictT : VOk K (rDictT K) oDictT := by
  intro F H vs ds Q s rr hp
  unfold oDictT at hp
  split at hp
  · rename_i ds
    cases rr with
    | cons h1 h2 =>
      cases h2
      split at hp
      · rename_i hz
        cases e : prsT ds with
        | none => rw [e] at hp; exact hp.elim
        | some ps =>
          rw [e] at hp
          obtain ⟨a, xs, rfl, h1, q1⟩ := h1.lst s
          obtain ⟨es, rfl, i2, i3, i4⟩ := prsT_rel ds xs ps q1 e
          obtain ⟨m1, m2⟩ := i4 (kvs0 := []) (es0 := []) .nil
          refine ⟨a, es, rfl, .inl h1, fun e he => ⟨.inl (.inl (s _ _ (i2 e he).1)), s _ _ (i2 e he).2⟩, by rw [i3]; exact szl hz, fun p hp' => ?_⟩
          exact hp p _ _ _ (Grow.new1 s hp') hp' (s.free hp') upd_same (.dT m1 m2)
      · exact hp.elim
  · exact hp.elim
def rDictP (K : PySem.W.Frag) : List V → Hp → VK → Prop := fun xs H Q => ∃ (a : Addr) (ps : List Addr) (kvs : List (Ke × V)), xs = [.ref a] ∧ SqL K H a (ps.map V.ref) ∧ Paired (fun p kv => SqT K H p [kV kv.1, kv.2]) ps kvs ∧ ∀ p, H p = none → Q (.ref p) (upd H p (.dK (L2.mergeK [] kvs)))
def oDictK : List D → VO
  | [.list ds] => (match prsK ds with
    | some ps => .n (.dict (mergeD [] ps))
    | none => .no)
  | _ => .no
theorem vok_dictK : VOk K (rDictP K) oDictK := by
  intro F H vs ds Q s rr hp
  unfold oDictK at hp
  split at hp
  · rename_i ds
    cases rr with
    | cons h1 h2 =>
      cases h2
      cases e : prsK ds with
      | none => rw [e] at hp; exact hp.elim
      | some ps =>
        rw [e] at hp
        obtain ⟨a, xs, rfl, h1, q1⟩ := h1.lst s
        obtain ⟨as, kvs, rfl, i2, i4⟩ := prsK_rel ds xs ps q1 e
        obtain ⟨m1, m2⟩ := i4 (kvs0 := []) (es0 := []) .nil
        refine ⟨a, as, kvs, rfl, .inl h1, ?_, fun p hp' => ?_⟩
        · exact Paired.mapP i2 fun p kv z => .inl (.inl (s _ _ z))
        · exact hp p _ _ _ (Grow.new1 s hp') hp' (s.free hp') upd_same (.dK m1 m2)
  · exact hp.elim
theorem cr_dictK (hc : X.calm = true) : CallR X (.type "dict") (rDictP X.K) := call_dictP hc
/-! ### min(xs) of data -/
def rMinD (K : PySem.W.Frag) : List V → Hp → VK → Prop := fun vs H Q => ∃ (a : Addr) (xs : List V) (d : D) (ds : List D), vs = [.ref a] ∧ SqL K H a xs ∧ DpAll K H xs (d :: ds) ∧ PySem.W.AlikeAll (d :: ds) ∧ PyData.depthAll (d :: ds) ≤ 63 ∧
  ∀ (i : Nat) v, xs[i]? = some v → (d :: ds)[i]? = some (PySem.W.minD d ds) → Q v H
theorem cr_minD (hc : X.calm = true) (hu : X.A.units + 65 < cLine) : CallR X (.builtin "min") (rMinD X.K) := by
  intro pins s σ H vs us Q I r h
  obtain ⟨a, xs, d, ds, rfl, hs, hd, ha, hz, q⟩ := h
  obtain rfl := Vals.ref1 r
  obtain ⟨its, rv, pl, _⟩ := I.list hs
  obtain ⟨as, hr⟩ := Dp.readsAll I (d :: ds) xs its hd rv
  have hl : s.heap.IsList a its.toArray := pl.isList
  have hr' : ReadsAll s.heap its.toArray.toList (d :: ds) as := hr
  have hn : its.toArray.size = ds.length + 1 := PySem.W.readsAll_len hr'
  refine call_min_walkH (PySem.W.iter_listW (A := X.A.in1) (I.ok.hd hc) hl fun s₂ e W st hfp hw hk => ?_)
  refine ⟨_, _, _, _, _, _, _, s.heap, _, rfl, W, st, hfp, by omega, hw, hk, PySem.W.cmpIn_lt (A := X.A.in1) hr' ha (by show X.A.units + 1 + _ < _; omega), fun v s' hP m => ?_⟩
  obtain ⟨h', tk, rfl, hk'⟩ := PySem.W.moved_old e rfl m
  have e1 : its.toArray.size - 1 = ds.length := by omega
  obtain ⟨e3, e2⟩ := PySem.W.argBest_fold PySem.W.dataLt PyData.none d ds ds.length (Nat.le_refl _)
  rw [List.take_length] at e2
  rw [e1] at hP
  have hlx : xs.length = ds.length + 1 := by
    have := rv.length
    simp only [List.size_toArray] at hn
    omega
  have hi := Nat.lt_succ_of_le e3
  have hx : xs[argBest (fun i j => PySem.W.dataLt ((d :: ds).getD i .none) ((d :: ds).getD j .none)) ds.length]? = some (xs[argBest (fun i j => PySem.W.dataLt ((d :: ds).getD i .none) ((d :: ds).getD j .none)) ds.length]'(by omega)) := List.getElem?_eq_getElem _
  obtain ⟨u, g1, g2⟩ := rv.get hx
  have hP' : its[argBest (fun i j => PySem.W.dataLt ((d :: ds).getD i .none) ((d :: ds).getD j .none)) ds.length]? = some v := by simpa using hP
  rw [hP'] at g1
  cases g1
  refine ⟨_, H, I.kept (t' := tk) hk', g2, q _ _ hx ?_⟩
  unfold PySem.W.minD
  rw [← e2]
  have hlt : argBest (fun i j => PySem.W.dataLt ((d :: ds).getD i .none) ((d :: ds).getD j .none)) ds.length < (d :: ds).length := by simpa using hi
  rw [List.getElem?_eq_getElem hlt, List.getD_eq_getElem?_getD, List.getElem?_eq_getElem hlt]
  rfl
def alikeB (xs : List D) : Bool := xs.all fun x => (xs.all fun y => PySem.W.alike x y) && !isNone x
theorem alikeB_ok {xs : List D} (h : alikeB xs = true) : PySem.W.AlikeAll xs := by
  refine ⟨fun x hx y hy => ?_, fun x hx e => ?_⟩
  · have := List.all_eq_true.mp h x hx
    exact List.all_eq_true.mp (Bool.and_eq_true_iff.mp this).1 y hy
  · have := (Bool.and_eq_true_iff.mp (List.all_eq_true.mp h x hx)).2
    subst e
    cases this
def oMin : List D → VO
  | [.list (d :: ds)] => if alikeB (d :: ds) = true ∧ SeqAt.shaped (.list (d :: ds)) = true then .v (PySem.W.minD d ds) else .no
  | _ => .no
theorem shaped_depth {ds : List D} (h : SeqAt.shaped (.list ds) = true) : PyData.depthAll ds ≤ 63 ∧ PyData.canLayAll0 ds = true := by
  have h1 := SeqAt.canLay_of_shaped h
  simp [SeqAt.shaped, PyData.depth, PyData.canLay0] at h
  refine ⟨by omega, by simpa [PyData.canLay0] using h1⟩
theorem vok_min : VOk K (rMinD K) oMin := by
  intro F H vs ds Q s rr hp
  unfold oMin at hp
  split at hp
  · rename_i d ds
    cases rr with
    | cons h1 h2 =>
      cases h2
      split at hp
      · rename_i hz
        obtain ⟨a, xs, rfl, h1, q1⟩ := h1.lst s
        obtain ⟨z1, z2⟩ := shaped_depth hz.2
        refine ⟨a, xs, d, ds, rfl, .inl h1, RpA.dp _ _ z2 (RpA.mono s _ _ q1), alikeB_ok hz.1, z1, fun i v e1 e2 => ?_⟩
        obtain ⟨v', g1, g2⟩ := q1.get e2
        rw [e1] at g1
        cases g1
        exact PostV.here s hp g2
      · exact hp.elim
  · exact hp.elim
/-! ### is, is not: bools -/
def rIsB (neg : Bool) : R2 := fun x y H Q => ∃ a b, x = .bl a ∧ y = .bl b ∧ Q (.bl (if neg = true then !(a == b) else (a == b))) H
def oIsB : List D → VO
  | [.bool a, .bool b] => .v (.bool (a == b))
  | _ => .no
def oIsNotB : List D → VO
  | [.bool a, .bool b] => .v (.bool (!(a == b)))
  | _ => .no
theorem op_isB : OpR X (compareOp .Is) (rIsB false) := by
  intro pins s σ H x y v u Q I rx ry h
  obtain ⟨a, b, rfl, rfl, q⟩ := h
  cases rx
  cases ry
  refine wpAny_is_plain (by rfl) ⟨.bl (a == b), H, I, ?_, q⟩
  cases a <;> cases b <;> rfl
theorem op_isNotB : OpR X (compareOp .IsNot) (rIsB true) := by
  intro pins s σ H x y v u Q I rx ry h
  obtain ⟨a, b, rfl, rfl, q⟩ := h
  cases rx
  cases ry
  refine wpAny_isNot_plain (by rfl) ⟨.bl (!(a == b)), H, I, ?_, q⟩
  cases a <;> cases b <;> rfl
end
end PD

set_option Elab.async false
set_option linter.all false
set_option maxRecDepth 100000
set_option maxHeartbeats 2000000
/-! PdO: constants of the module that are tuples of numbers (never values here: only looked into). -/
namespace PD
open PySem PySem.Spec PyProof.Rows L2
/-- a module's tuple -/
structure GlT (K : PySem.W.Frag) (mg : Str → Option Value) (x : Str) (ds : List D) : Prop where
  ex : ∃ (a : Addr) (xs : List V), mg x = some (.ref a) ∧ (∀ H, SqT K H a xs) ∧ ∀ F, RpA K F xs ds
theorem glT_mk {K : PySem.W.Frag} {mg : Str → Option Value} {x : Str} {a : Addr} {o : Obj} {its : Array Value} {n : Nat} {xs : List V} {ds : List D} (h : mg x = some (.ref a)) (hk : K.lookup a = some o) (hc : o.cls = .type "tuple") (hd : o.data = .seq its n) (hz : its.size ≤ 1000) (hv : Vals xs its.toList) (hr : ∀ F, RpA K F xs ds) : GlT K mg x ds :=
  ⟨a, xs, h, fun H => .inr ⟨o, its, n, hk, hc, hd, szl (by omega), hv⟩, hr⟩
inductive TO where
  | ok (ds : List D) (ρ : Sl)
  | ex (x : Exn) (ρ : Sl)
  | no
abbrev DTp := Sl → TO
def PostT (c : Cfg) (W : XK) (τ : Cells) (σ : L2.St) (Q : VK) : TO → Prop
  | .ok ds ρ => ∀ a xs F H, σ.length = ρ.length → (∀ H, SqT c.K H a xs) → (∀ F, RpA c.K F xs ds) → R c F (τ ++ σ.zip ρ) H → Q (.ref a) H
  | .ex x ρ => PostX c W τ σ x ρ
  | .no => False
def RT (c : Cfg) (W : XK) (t : TE) (d : DTp) : Prop := ∀ τ σ ρ F H Q, σ.length = ρ.length → R c F (τ ++ σ.zip ρ) H → PostT c W τ σ Q (d ρ) → t σ H Q
def DXT (X : Cx) (c : Cfg) (W : XK) (e : Expr) (d : DTp) : Prop := ∃ t, PE X e t ∧ RT c W t d
def tG (ds : List D) : DTp := fun ρ => .ok ds ρ
def tIfT (t : DB) (a b : DTp) : DTp := fun ρ => match t ρ with
  | .ok true ρ1 => a ρ1
  | .ok false ρ1 => b ρ1
  | .ex x ρ1 => .ex x ρ1
  | .no => .no
section
variable {X : Cx} {c : Cfg} {W : XK}
theorem xt_glob {x : Str} {ds : List D} {pos : Pos} (g : GlT X.K X.mg x ds) (hK : c.K = X.K) (hg : Gl X x := by rfl) (hd : (x == ("__debug__" : Str)) = false := by decide) : DXT X c W (.Name x pos) (tG ds) := by
  obtain ⟨a, xs, hm, h1, h2⟩ := g.ex
  refine ⟨_, pe_glob hg hm (v := .ref a) rfl hd, fun τ σ ρ F H Q hl r h => ?_⟩
  exact h a xs F H hl (by rw [hK]; exact h1) (by rw [hK]; exact h2) r
theorem xt_if {t a b : Expr} {pos : Pos} {dt : DB} {da db : DTp} (hc : DT X c W t dt) (ha : DXT X c W a da) (hb : DXT X c W b db) : DXT X c W (.IfExp t a b pos) (tIfT dt da db) := by
  obtain ⟨t1, p1, r1⟩ := hc
  obtain ⟨t2, p2, r2⟩ := ha
  obtain ⟨t3, p3, r3⟩ := hb
  refine ⟨_, pe_ifExp p1 p2 p3, fun τ σ ρ F H Q hl r h => ?_⟩
  unfold tIfT at h
  refine r1 τ σ ρ F H _ hl r ?_
  cases e : dt ρ with
  | no => rw [e] at h; exact h.elim
  | ex x ρ1 => rw [e] at h; exact h
  | ok k ρ1 =>
    rw [e] at h
    intro F1 H1 hl1 r1'
    cases k with
    | true => exact iteT (r2 τ σ ρ1 F1 H1 Q hl1 r1' h)
    | false => exact iteF (r3 τ σ ρ1 F1 H1 Q hl1 r1' h)
/-- t[i] -/
def dIxT (d : DTp) (di : DE) : DE := fun ρ => match d ρ with
  | .ok ds ρ1 => (match di ρ1 with
    | .ok (.t (.val (.int i))) ρ2 => (match atI ds i with
      | some x => .ok (.t (.val x)) ρ2
      | none => .no)
    | .ex x ρ2 => .ex x ρ2
    | _ => .no)
  | .ex x ρ1 => .ex x ρ1
  | .no => .no
theorem dx_ixT {a b : Expr} {d : DTp} {di : DE} {pos : Pos} (hK : c.K = X.K) (ha : DXT X c W a d) (hb : DX X c W b di) (hs : PlainIx b := by exact fun _ _ => rfl) : DX X c W (.Subscript a b pos) (dIxT d di) := by
  obtain ⟨t1, p1, r1⟩ := ha
  obtain ⟨t2, p2, r2⟩ := hb
  refine ⟨_, pe_ix ix_tup p1 p2 hs, fun τ σ ρ F H Q hl r h => ?_⟩
  unfold dIxT at h
  refine r1 τ σ ρ F H _ hl r ?_
  cases e : d ρ with
  | no => rw [e] at h; exact h.elim
  | ex x ρ1 => rw [e] at h; exact h
  | ok ds ρ1 =>
    rw [e] at h
    intro a xs F1 H1 hl1 hq hr r1'
    simp only at h
    refine r2 τ σ ρ1 F1 H1 _ hl1 r1' ?_
    cases e2 : di ρ1 with
    | no => rw [e2] at h; exact h.elim
    | ex x ρ2 => rw [e2] at h; exact h
    | ok o ρ2 =>
      rw [e2] at h
      cases o with
      | p _ => exact h.elim
      | t s =>
        cases s with
        | no => exact h.elim
        | own _ => exact h.elim
        | val di' =>
          cases di' with
          | int i =>
            simp only at h
            intro v F2 H2 hl2 r2'
            have q : Rp c.K F2 v (.int i) := r2'.ok _ List.mem_cons_self
            cases q
            cases e3 : atI ds i with
            | none => rw [e3] at h; exact h.elim
            | some x =>
              rw [e3] at h
              obtain ⟨w, g1, g2⟩ := (hr F2).atI e3
              exact ⟨a, xs, i, w, rfl, rfl, by rw [← hK]; exact hq H2, g1, h w F2 H2 hl2 (r2'.drop.addV g2)⟩
          | _ => exact h.elim
end
end PD

set_option Elab.async false
set_option linter.all false
set_option maxRecDepth 100000
set_option maxHeartbeats 2000000
/-! PdQ: evaluation of the further combinators. -/
namespace PD
open PySem PySem.Spec PyProof.Rows L2
theorem vok_isB {K : PySem.W.Frag} : VOk K (r2 (rIsB false)) oIsB := by
  intro F H vs ds Q s rr hp
  unfold oIsB at hp
  split at hp
  · rename_i a b
    cases rr with
    | cons h1 h2 =>
      cases h2 with
      | cons h2 h3 =>
        cases h3
        cases h1.bl
        cases h2.bl
        exact ⟨a, b, rfl, rfl, PostV.here s hp (.bl _)⟩
  · exact hp.elim
theorem vok_isNotB {K : PySem.W.Frag} : VOk K (r2 (rIsB true)) oIsNotB := by
  intro F H vs ds Q s rr hp
  unfold oIsNotB at hp
  split at hp
  · rename_i a b
    cases rr with
    | cons h1 h2 =>
      cases h2 with
      | cons h2 h3 =>
        cases h3
        cases h1.bl
        cases h2.bl
        exact ⟨a, b, rfl, rfl, PostV.here s hp (.bl _)⟩
  · exact hp.elim

def ixTA (ρ : Sl) : Option D → EO
  | some x => .ok (.t (.val x)) ρ
  | none => .no
@[simp] theorem ixTA_e1 (ρ : Sl) : ixTA ρ (some x) = .ok (.t (.val x)) ρ := rfl
@[simp] theorem ixTA_e2 (ρ : Sl) : ixTA ρ none = .no := rfl
def ixTI (ds : List D) : EO → EO
  | .ok (.t (.val (.int i))) ρ => ixTA ρ (atI ds i)
  | .ex x ρ => .ex x ρ
  | _ => .no
@[simp] theorem ixTI_e1 (ds : List D) : ixTI ds (.ok (.t (.val (.int i))) ρ) = ixTA ρ (atI ds i) := rfl
@[simp] theorem ixTI_e2 (ds : List D) : ixTI ds (.ex x ρ) = .ex x ρ := rfl
def TO.ixT (di : DE) : TO → EO
  | .ok ds ρ => ixTI ds (di ρ)
  | .ex x ρ => .ex x ρ
  | .no => .no
@[simp] theorem TO.ixT_e1 (di : DE) : TO.ixT di (.ok ds ρ) = ixTI ds (di ρ) := rfl
@[simp] theorem TO.ixT_e2 (di : DE) : TO.ixT di (.ex x ρ) = .ex x ρ := rfl
@[simp] theorem TO.ixT_e3 (di : DE) : TO.ixT di (.no) = .no := rfl
@[simp] theorem e_dIxT (d : DTp) (di : DE) (ρ : Sl) : dIxT d di ρ = (d ρ).ixT di := by
  unfold dIxT
  cases d ρ with
  | ok ds ρ1 =>
    simp only [TO.ixT]
    cases di ρ1 with
    | no => rfl
    | ex x ρ2 => rfl
    | ok o ρ2 =>
      cases o with
      | p _ => rfl
      | t s => cases s with
        | no => rfl
        | own _ => rfl
        | val d' => cases d' with
          | int i =>
            simp only [ixTI]
            cases atI ds i <;> rfl
          | _ => rfl
  | ex x ρ1 => rfl
  | no => rfl
@[simp] theorem e_tG (ds : List D) (ρ : Sl) : tG ds ρ = .ok ds ρ := rfl
def BO.ifT (a b : DTp) : BO → TO
  | .ok c ρ => if c = true then a ρ else b ρ
  | .ex x ρ => .ex x ρ
  | .no => .no
@[simp] theorem BO.ifT_e1 (a b : DTp) : BO.ifT a b (.ok c ρ) = if c = true then a ρ else b ρ := rfl
@[simp] theorem BO.ifT_e2 (a b : DTp) : BO.ifT a b (.ex x ρ) = .ex x ρ := rfl
@[simp] theorem BO.ifT_e3 (a b : DTp) : BO.ifT a b (.no) = .no := rfl
@[simp] theorem e_tIfT (t : DB) (a b : DTp) (ρ : Sl) : tIfT t a b ρ = (t ρ).ifT a b := by
  unfold tIfT
  cases t ρ with
  | ok c ρ1 => cases c <;> rfl
  | ex x ρ1 => rfl
  | no => rfl
/-! dOpM -/
def opmR (f : List D → VO) (ρ : Sl) : Option (List D) → EO
  | some ds => (f ds).eo ρ
  | none => .no
@[simp] theorem opmR_e1 (f : List D → VO) (ρ : Sl) : opmR f ρ (some ds) = (f ds).eo ρ := rfl
@[simp] theorem opmR_e2 (f : List D → VO) (ρ : Sl) : opmR f ρ none = .no := rfl
def opmA (f : List D → VO) (o : Od) : AO → EO
  | .ok os ρ => opmR f ρ (resA ρ (o :: os))
  | .ex x ρ => .ex x ρ
  | .no => .no
@[simp] theorem opmA_e1 (f : List D → VO) (o : Od) : opmA f o (.ok oz ρ) = opmR f ρ (resA ρ (o :: oz)) := rfl
@[simp] theorem opmA_e2 (f : List D → VO) (o : Od) : opmA f o (.ex x ρ) = .ex x ρ := rfl
@[simp] theorem opmA_e3 (f : List D → VO) (o : Od) : opmA f o (.no) = .no := rfl
def opmX (m : D → Bool) (f : List D → VO) (o : Od) (da : DAs) (ρ : Sl) : Option D → EO
  | some x => if m x = true then opmA f o (da ρ) else .no
  | none => .no
@[simp] theorem opmX_e1 (m : D → Bool) (f : List D → VO) (o : Od) (da : DAs) (ρ : Sl) : opmX m f o da ρ (some x) = if m x = true then opmA f o (da ρ) else .no := rfl
@[simp] theorem opmX_e2 (m : D → Bool) (f : List D → VO) (o : Od) (da : DAs) (ρ : Sl) : opmX m f o da ρ none = .no := rfl
def EO.opm (m : D → Bool) (f : List D → VO) (da : DAs) : EO → EO
  | .ok o ρ => opmX m f o da ρ (res ρ o)
  | .ex x ρ => .ex x ρ
  | .no => .no
@[simp] theorem EO.opm_e1 (m : D → Bool) (f : List D → VO) (da : DAs) : EO.opm m f da (.ok o ρ) = opmX m f o da ρ (res ρ o) := rfl
@[simp] theorem EO.opm_e2 (m : D → Bool) (f : List D → VO) (da : DAs) : EO.opm m f da (.ex x ρ) = .ex x ρ := rfl
@[simp] theorem EO.opm_e3 (m : D → Bool) (f : List D → VO) (da : DAs) : EO.opm m f da (.no) = .no := rfl
@[simp] theorem e_dOpM (m : D → Bool) (f : List D → VO) (d : DE) (da : DAs) (ρ : Sl) : dOpM m f d da ρ = (d ρ).opm m f da := by
  unfold dOpM
  cases d ρ with
  | ok o ρ1 =>
    simp only [EO.opm]
    cases res ρ1 o with
    | none => rfl
    | some x =>
      simp only [opmX]
      by_cases hm : m x = true
      · rw [if_pos hm, if_pos hm]
        cases da ρ1 with
        | ok os ρ2 =>
          simp only [opmA]
          cases resA ρ2 (o :: os) with
          | none => rfl
          | some ds =>
            simp only [opmR]
            cases f ds <;> rfl
        | ex x ρ2 => rfl
        | no => rfl
      · rw [if_neg hm, if_neg hm]
  | ex x ρ1 => rfl
  | no => rfl
@[simp] theorem isDict_d (es : List (D × D)) : isDict (.dict es) = true := rfl
/-! displays -/
@[simp] theorem e_dDNewK (ρ : Sl) : dDNewK ρ = .ok (.t (.own (.dict []))) ρ := rfl
@[simp] theorem e_dDNewT (ρ : Sl) : dDNewT ρ = .ok (.t (.own (.dict [(.none, .none)]))) ρ := rfl
def dspP (ρ : Sl) : Option (List (Key × D)) → EO
  | some ps => if ps.length ≤ 15 then .ok (.t (.own (.dict (mergeD [] ps)))) ρ else .no
  | none => .no
@[simp] theorem dspP_e1 (ρ : Sl) : dspP ρ (some ps) = if ps.length ≤ 15 then .ok (.t (.own (.dict (mergeD [] ps)))) ρ else .no := rfl
@[simp] theorem dspP_e2 (ρ : Sl) : dspP ρ none = .no := rfl
def dspO : Option (List D × Sl) → EO
  | some (ds, ρ) => dspP ρ (prs ds)
  | none => .no
@[simp] theorem dspO_e1 : dspO  (some (ds, ρ)) = dspP ρ (prs ds) := rfl
@[simp] theorem dspO_e2 : dspO  none = .no := rfl
def AO.dsp : AO → EO
  | .ok os ρ => dspO (frzA ρ os)
  | .ex x ρ => .ex x ρ
  | .no => .no
@[simp] theorem AO.dsp_e1 : AO.dsp  (.ok oz ρ) = dspO (frzA ρ oz) := rfl
@[simp] theorem AO.dsp_e2 : AO.dsp  (.ex x ρ) = .ex x ρ := rfl
@[simp] theorem AO.dsp_e3 : AO.dsp  (.no) = .no := rfl
@[simp] theorem e_dDisp (da : DAs) (ρ : Sl) : dDisp da ρ = (da ρ).dsp := by
  unfold dDisp
  cases da ρ with
  | ok os ρ1 =>
    simp only [AO.dsp]
    cases frzA ρ1 os with
    | none => rfl
    | some p =>
      obtain ⟨ds, ρ2⟩ := p
      simp only [dspO]
      cases prs ds <;> rfl
  | ex x ρ1 => rfl
  | no => rfl
/-! d[k] = v -/
def ixdE (k : Nat) (ρ : Sl) : Option (List (D × D)) → SO
  | some es => .nx (ρ.set k (.own (.dict es)))
  | none => .no
@[simp] theorem ixdE_e1 (k : Nat) (ρ : Sl) : ixdE k ρ (some es) = .nx (ρ.set k (.own (.dict es))) := rfl
@[simp] theorem ixdE_e2 (k : Nat) (ρ : Sl) : ixdE k ρ none = .no := rfl
def ixdF (k : Nat) (x y : D) (ρ : Sl) : Option SV → SO
  | some (.own (.dict es)) => if es.length < 100000 then ixdE k ρ (putD es y x) else .no
  | _ => .no
@[simp] theorem ixdF_e1 (k : Nat) (x y : D) (ρ : Sl) : ixdF k x y ρ (some (.own (.dict es))) = if es.length < 100000 then ixdE k ρ (putD es y x) else .no := rfl
def ixdY (k : Nat) (x : D) : Option (D × Sl) → SO
  | some (y, ρ) => ixdF k x y ρ ρ[k]?
  | none => .no
@[simp] theorem ixdY_e1 (k : Nat) (x : D) : ixdY k x (some (y, ρ)) = ixdF k x y ρ ρ[k]? := rfl
@[simp] theorem ixdY_e2 (k : Nat) (x : D) : ixdY k x none = .no := rfl
def ixdI (k : Nat) (x : D) : EO → SO
  | .ok o ρ => ixdY k x (frz1 ρ o)
  | .ex y ρ => .ex y ρ
  | .no => .no
@[simp] theorem ixdI_e1 (k : Nat) (x : D) : ixdI k x (.ok o ρ) = ixdY k x (frz1 ρ o) := rfl
@[simp] theorem ixdI_e2 (k : Nat) (x : D) : ixdI k x (.ex y ρ) = .ex y ρ := rfl
@[simp] theorem ixdI_e3 (k : Nat) (x : D) : ixdI k x (.no) = .no := rfl
def ixdS (k : Nat) (x : D) (di : DE) (ρ : Sl) : Option SV → SO
  | some (.own _) => ixdI k x (di ρ)
  | some (.val _) => .no
  | some .no => .no
  | none => .no
@[simp] theorem ixdS_e1 (k : Nat) (x : D) (di : DE) (ρ : Sl) : ixdS k x di ρ (some (.own w1)) = ixdI k x (di ρ) := rfl
@[simp] theorem ixdS_e2 (k : Nat) (x : D) (di : DE) (ρ : Sl) : ixdS k x di ρ (some (.val w1)) = .no := rfl
@[simp] theorem ixdS_e3 (k : Nat) (x : D) (di : DE) (ρ : Sl) : ixdS k x di ρ (some .no) = .no := rfl
@[simp] theorem ixdS_e4 (k : Nat) (x : D) (di : DE) (ρ : Sl) : ixdS k x di ρ none = .no := rfl
def ixdO (k : Nat) (di : DE) : Option (D × Sl) → SO
  | some (x, ρ) => ixdS k x di ρ ρ[k]?
  | none => .no
@[simp] theorem ixdO_e1 (k : Nat) (di : DE) : ixdO k di (some (x, ρ)) = ixdS k x di ρ ρ[k]? := rfl
@[simp] theorem ixdO_e2 (k : Nat) (di : DE) : ixdO k di none = .no := rfl
def EO.ixd (k : Nat) (di : DE) : EO → SO
  | .ok o ρ => ixdO k di (frz1 ρ o)
  | .ex y ρ => .ex y ρ
  | .no => .no
@[simp] theorem EO.ixd_e1 (k : Nat) (di : DE) : EO.ixd k di (.ok o ρ) = ixdO k di (frz1 ρ o) := rfl
@[simp] theorem EO.ixd_e2 (k : Nat) (di : DE) : EO.ixd k di (.ex y ρ) = .ex y ρ := rfl
@[simp] theorem EO.ixd_e3 (k : Nat) (di : DE) : EO.ixd k di (.no) = .no := rfl
@[simp] theorem e_sIxD (k : Nat) (d di : DE) (ρ : Sl) : sIxD k d di ρ = (d ρ).ixd k di := by
  unfold sIxD
  cases d ρ with
  | ok o ρ0 =>
    simp only [EO.ixd]
    cases frz1 ρ0 o with
    | none => rfl
    | some p =>
      obtain ⟨x, ρ1⟩ := p
      simp only [ixdO]
      cases ρ1[k]? with
      | none => rfl
      | some s =>
        cases s with
        | no => rfl
        | val _ => rfl
        | own d0 =>
          simp only [ixdS]
          cases di ρ1 with
          | no => rfl
          | ex y ρ2 => rfl
          | ok o2 ρ2 =>
            simp only [ixdI]
            cases frz1 ρ2 o2 with
            | none => rfl
            | some p2 =>
              obtain ⟨y, ρ3⟩ := p2
              simp only [ixdY]
              cases ρ3[k]? with
              | none => rfl
              | some s3 => cases s3 with
                | no => rfl
                | val _ => rfl
                | own d3 => cases d3 with
                  | dict es =>
                    simp only [ixdF]
                    cases putD es y x <;> rfl
                  | _ => rfl
  | ex x ρ1 => rfl
  | no => rfl
/-! operations -/
def dgO : Option (Option D) → VO
  | some (some d) => .v d
  | some none => .no
  | none => .no
@[simp] theorem dgO_e1 : dgO  (some (some d)) = .v d := rfl
@[simp] theorem dgO_e2 : dgO  (some none) = .no := rfl
@[simp] theorem dgO_e3 : dgO  none = .no := rfl
@[simp] theorem oDGet_e (es : List (D × D)) (k : D) : oDGet [.dict es, k] = dgO (lookD es k) := by
  simp only [oDGet]
  rcases lookD es k with _ | _ | d <;> rfl
def diO : Option (Option D) → VO
  | some o => .v (.bool o.isSome)
  | none => .no
@[simp] theorem diO_e1 : diO  (some o) = .v (.bool o.isSome) := rfl
@[simp] theorem diO_e2 : diO  none = .no := rfl
@[simp] theorem oDIn_e (es : List (D × D)) (k : D) : oDIn [k, .dict es] = diO (lookD es k) := by
  simp only [oDIn]
  cases lookD es k <;> rfl
def dnO : Option (Option D) → VO
  | some o => .v (.bool (!o.isSome))
  | none => .no
@[simp] theorem dnO_e1 : dnO  (some o) = .v (.bool (!o.isSome)) := rfl
@[simp] theorem dnO_e2 : dnO  none = .no := rfl
@[simp] theorem oDNotIn_e (es : List (D × D)) (k : D) : oDNotIn [k, .dict es] = dnO (lookD es k) := by
  simp only [oDNotIn]
  cases lookD es k <;> rfl
def g1O : Option (Option D) → VO
  | some (some d) => .v d
  | some none => .v .none
  | none => .no
@[simp] theorem g1O_e1 : g1O  (some (some d)) = .v d := rfl
@[simp] theorem g1O_e2 : g1O  (some none) = .v .none := rfl
@[simp] theorem g1O_e3 : g1O  none = .no := rfl
@[simp] theorem oGet1_e (es : List (D × D)) (k : D) : oGet1 [.dict es, k] = g1O (lookD es k) := by
  simp only [oGet1]
  rcases lookD es k with _ | _ | d <;> rfl
@[simp] theorem oIsB_e (a b : Bool) : oIsB [.bool a, .bool b] = .v (.bool (a == b)) := rfl
@[simp] theorem oIsNotB_e (a b : Bool) : oIsNotB [.bool a, .bool b] = .v (.bool (!(a == b))) := rfl
@[simp] theorem tyOk_dict (es : List (D × D)) : tyOk "dict" (.dict es) = true := rfl
end PD

set_option Elab.async false
set_option linter.all false
set_option maxRecDepth 100000
set_option maxHeartbeats 2000000
/-! PdR: extend, zip, list(range(..)), sorted(set(a tuple of numbers)), comprehensions with two for. -/
namespace PD
open PySem PySem.Spec PyProof.Rows L2 RZ
/-! ### xs.extend(ys) -/
def rExtR : V → List V → Hp → VK → Prop := fun x vs H Q => ∃ l b xs zs, x = .ref l ∧ vs = [.ref b] ∧ H l = some (.lst xs) ∧ Rd H b (.lst zs) ∧ xs.length + zs.length ≤ sizeLine ∧ Q .non (upd H l (.lst (xs ++ zs)))
section
variable {X : Cx}
theorem mt_extR : MtR X "list.extend" rExtR := by
  intro pins s σ H x vs v us Q I rx rv h
  obtain ⟨l, b, xs, zs, rfl, rfl, hl, hb, hz, q⟩ := h
  cases rx
  obtain rfl := Vals.ref1 rv
  obtain ⟨_, ia, n, ra, la, ea⟩ := Inv.lstR I (.inl hl)
  obtain ⟨_, ib, m, rb, lb, eb⟩ := Inv.lstR I hb
  have size : ia.toArray.size + ib.toArray.size ≤ sizeLine := by simp only [List.size_toArray]; omega
  have short : (!ia.toArray.isEmpty && Builtin.List.listTooLong (ia.toArray.size + ib.toArray.size)) = false := by
    rw [notLongL size, Bool.and_false]
  have fit : ia.toArray.size ≤ sizeLine := by omega
  have slack : ia.toArray.size + ib.toArray.size ≤ sizeLine + 1 := by omega
  refine call_meets PySem.F.slot_list_extend ⟨_, ea, rfl⟩ PySem.F.entry_list_extend (PySem.F.args_list_extend_2 _ _) (AutoSeq1.list_extend_list_list_0 l ia.toArray n b ib.toArray m (fun z => by rw [short] at z; cases z) fit slack) ⟨ea, eb, ?_⟩
  exact ⟨.non, upd H l (.lst (xs ++ zs)), I.lset (its' := ia ++ ib) hl ea (by simp) (ra.append rb) (by rw [List.length_append]; exact hz), rfl, q⟩
end
def mExtend : D → List D → Option (D × D)
  | .list ds, [.list es] => if ds.length + es.length ≤ 100000 then some (.none, .list (ds ++ es)) else none
  | _, _ => none
section
variable {K : PySem.W.Frag} {X : Cx} {c : Cfg} {W : XK}
theorem mok_extend : MOk K rExtR mExtend := by
  intro F H a o d0 vs ds Q z d1 s ha fa ho q e h
  unfold mExtend at e
  split at e
  · rename_i ds es
    cases ho with
    | lst ho =>
      cases q with
      | cons q1 q2 =>
        cases q2
        split at e
        · rename_i hz
          cases e
          cases q1 with
          | @lst b ys _ hb q1 =>
            exact ⟨a, b, _, ys, rfl, rfl, ha, rd_mono s hb, by rw [ho.len, q1.len]; exact szl hz, h _ _ .non (.lst (ho.app q1))⟩
        · cases e
  · cases e
/-! ### zip -/
def zipD : List D → List D → List D
  | x :: xs, y :: ys => .tuple [x, y] :: zipD xs ys
  | _, _ => []
theorem zipD_at : ∀ (xs ys : List D) (i : Nat) (d : D), (zipD xs ys)[i]? = some d → ∃ x y, xs[i]? = some x ∧ ys[i]? = some y ∧ d = .tuple [x, y]
  | [], _, i, d, h => by simp [zipD] at h
  | _ :: _, [], i, d, h => by simp [zipD] at h
  | x :: xs, y :: ys, 0, d, h => by
    simp [zipD] at h
    exact ⟨x, y, rfl, rfl, h.symm⟩
  | x :: xs, y :: ys, i + 1, d, h => by
    simp [zipD] at h
    obtain ⟨a, b, h1, h2, h3⟩ := zipD_at xs ys i d h
    exact ⟨a, b, by simpa using h1, by simpa using h2, h3⟩
theorem zipD_len : ∀ (xs ys : List D), (zipD xs ys).length = min xs.length ys.length
  | [], ys => by simp [zipD]
  | _ :: _, [] => by simp [zipD]
  | x :: xs, y :: ys => by simp [zipD, zipD_len xs ys]
def dZip (da : DAs) : DI := fun ρ => match da ρ with
  | .ok os ρ1 => (match frzA ρ1 os with
    | some ([x, y], ρ2) => (match x, y with
      | .list xs, .list ys => .ok (.dict [(.bool true, x), (.bool true, y)]) (zipD xs ys) ρ2
      | .tuple xs, .tuple ys => .ok (.dict [(.bool true, x), (.bool true, y)]) (zipD xs ys) ρ2
      | _, _ => .no)
    | _ => .no)
  | .ex x ρ1 => .ex x ρ1
  | .no => .no
theorem jok_zipT {a b : Addr} {xs ys : List D} : JOk K (ItzT K a b) [.ref a, .ref b] [.tuple xs, .tuple ys] (zipD xs ys) := by
  intro F H s rr
  cases rr with
  | cons h1 h2 =>
    cases h2 with
    | cons h2 h3 =>
      obtain ⟨a', vs, e1, g1, q1⟩ := Rr.tup s (.inl h1)
      cases e1
      obtain ⟨b', ws, e2, g2, q2⟩ := Rr.tup s (.inl h2)
      cases e2
      refine ⟨fun i d hd => ?_, vs, ws, g1, g2, ?_⟩
      · obtain ⟨x, y, i1, i2, rfl⟩ := zipD_at xs ys i d hd
        obtain ⟨v, j1, k1⟩ := q1.get i1
        obtain ⟨w, j2, k2⟩ := q2.get i2
        refine ⟨⟨vs, ws, v, w, g1, g2, j1, j2⟩, fun z H' hy => ?_⟩
        obtain ⟨T, x', y', rfl, hT, rfl, hx, hy⟩ := hy
        have e1 := hx vs g1
        rw [j1] at e1; cases e1
        have e2 := hy ws g2
        rw [j2] at e2; cases e2
        have g := Grow.lay (o := .tup [v, w]) s hT
        exact ⟨_, g, .tup upd_same (.cons (Rp.mono g.f _ _ k1) (.cons (Rp.mono g.f _ _ k2) .nil))⟩
      · rw [zipD_len, q1.len, q2.len]; omega
theorem jok_zipL {a b : Addr} {xs ys : List D} : JOk K (Itz K a b) [.ref a, .ref b] [.list xs, .list ys] (zipD xs ys) := by
  intro F H s rr
  cases rr with
  | cons h1 h2 =>
    cases h2 with
    | cons h2 h3 =>
      obtain ⟨a', vs, e1, g1, q1⟩ := Rr.lst s (.inl h1)
      cases e1
      obtain ⟨b', ws, e2, g2, q2⟩ := Rr.lst s (.inl h2)
      cases e2
      refine ⟨fun i d hd => ?_, vs, ws, .inl g1, .inl g2, ?_⟩
      · obtain ⟨x, y, i1, i2, rfl⟩ := zipD_at xs ys i d hd
        obtain ⟨v, j1, k1⟩ := q1.get i1
        obtain ⟨w, j2, k2⟩ := q2.get i2
        refine ⟨⟨vs, ws, v, w, .inl g1, .inl g2, j1, j2⟩, fun z H' hy => ?_⟩
        obtain ⟨T, x', y', rfl, hT, rfl, hx, hy⟩ := hy
        have e1 := hx vs (.inl g1)
        rw [j1] at e1; cases e1
        have e2 := hy ws (.inl g2)
        rw [j2] at e2; cases e2
        have g := Grow.lay (o := .tup [v, w]) s hT
        exact ⟨_, g, .tup upd_same (.cons (Rp.mono g.f _ _ k1) (.cons (Rp.mono g.f _ _ k2) .nil))⟩
      · rw [zipD_len, q1.len, q2.len]; omega
theorem ri_zip {ta : TA} {da : DAs} (ha : RA c W ta da) : RI c W (iZipA c.K ta) (dZip da) := by
  intro τ σ ρ F H Q hl r h
  unfold dZip at h
  refine ha τ σ ρ F H _ hl r ?_
  cases e : da ρ with
  | no => rw [e] at h; exact h.elim
  | ex x ρ1 => rw [e] at h; exact h
  | ok os ρ1 =>
    rw [e] at h
    intro vs F1 H1 hl1 hh r1
    simp only at h
    cases e1 : frzA ρ1 os with
    | none => rw [e1] at h; exact h.elim
    | some p =>
      obtain ⟨ds, ρ2⟩ := p
      obtain ⟨F2, s2, hl2, q, r2⟩ := R.frzA hl1 hh r1 e1
      rw [e1] at h
      match ds, h, q with
      | [x, y], h, .cons (v := v) q1 (.cons (v := u) q2 .nil) =>
        have r3 : R c F2 (vals [v, u] [x, y] ++ (τ ++ σ.zip ρ2)) H1 := (r2.addV q2).addV q1
        cases x with
        | list xs =>
          cases y with
          | list ys =>
            obtain ⟨a, vs, rfl, h1, _⟩ := Rr.lst r2.sub (.inl q1)
            obtain ⟨b, ws, rfl, h2, _⟩ := Rr.lst r2.sub (.inl q2)
            exact ⟨a, b, vs, ws, rfl, .inl ⟨.inl h1, .inl h2, h _ [_, _] F2 H1 hl2 rfl r3 jok_zipL⟩⟩
          | _ => exact h.elim
        | tuple xs =>
          cases y with
          | tuple ys =>
            obtain ⟨a, vs, rfl, h1, _⟩ := Rr.tup r2.sub (.inl q1)
            obtain ⟨b, ws, rfl, h2, _⟩ := Rr.tup r2.sub (.inl q2)
            exact ⟨a, b, vs, ws, rfl, .inr ⟨h1, h2, h _ [_, _] F2 H1 hl2 rfl r3 jok_zipT⟩⟩
          | _ => exact h.elim
        | _ => exact h.elim
      | [], h, _ => exact h.elim
      | [_], h, _ => exact h.elim
      | _ :: _ :: _ :: _, h, _ => exact h.elim
theorem di_zip {e e2 : Expr} {da : DAs} {p pos tpos : Pos} {elts : List Expr} {kk : Nat} (hK : c.K = X.K) (hm : X.mg "zip" = none) (ha : DXA X c W [e, e2] da) (hg : Gl X "zip" := by rfl)
    (hs : starEach [e, e2] X.env = (false, eval e X.env) :: starEach [e2] X.env := by rfl) (hpl : (backTo pos (starEach [e2] X.env)).any (·.1) = false := by rfl) : DXI X c W (.Tuple elts kk tpos) (.Call (.Name "zip" p) [e, e2] [] pos) (dZip da) := by
  obtain ⟨t, q, r⟩ := ha
  have k := ri_zip r
  rw [hK] at k
  exact ⟨_, pi_zipA hg hm q hs hpl, k⟩
/-! ### list(range(n)) -/
def dLR (d : DE) : DE := fun ρ => match d ρ with
  | .ok (.t (.val (.int n))) ρ1 => if small n = true then .ok (.t (.own (.list (rangeD 0 n)))) ρ1 else .no
  | .ex x ρ1 => .ex x ρ1
  | _ => .no
theorem rp_rg (F : Hp) (a b : Int) : RpA K F (rgV a b) (rangeD a b) := by
  unfold rgV rangeD
  refine RpA.mk (by simp) fun i v d h1 h2 => ?_
  rw [List.getElem?_map] at h1 h2
  cases e : (List.range (b - a).toNat)[i]? with
  | none => rw [e] at h1; cases h1
  | some k => rw [e] at h1 h2; cases h1; cases h2; exact .int _
theorem re_lr {te : TE} {d : DE} (he : RE c W te d) : RE c W (tLstRg (tRg1 te)) (dLR d) := by
  intro τ σ ρ F H Q hl r h
  unfold dLR at h
  refine he τ σ ρ F H _ hl r ?_
  cases e : d ρ with
  | no => rw [e] at h; exact h.elim
  | ex x ρ1 => rw [e] at h; exact h
  | ok o ρ1 =>
    rw [e] at h
    cases o with
    | p _ => exact h.elim
    | t s =>
      cases s with
      | no => exact h.elim
      | own _ => exact h.elim
      | val d' =>
        cases d' with
        | int n =>
          simp only at h
          split at h
          · rename_i hz
            have hz := small_le hz
            intro v F1 H1 hl1 r1
            have q : Rp c.K F1 v (.int n) := r1.ok _ List.mem_cons_self
            cases q
            have r2 := r1.drop
            refine ⟨n, rfl, ⟨by omega, by omega, by omega, by omega, by omega⟩, fun p hp => ?_⟩
            have g := Grow.new1 (o := .lst (rgV 0 n)) r2.sub hp
            exact h (.ref p) _ _ hl1 (r2.addO g hp (r2.sub.free hp) upd_same (.lst (rp_rg _ _ _)))
          · exact h.elim
        | _ => exact h.elim
theorem dx_listRange {e : Expr} {d : DE} {p p2 pos pos2 : Pos} (hm : X.mg "list" = none) (hm2 : X.mg "range" = none) (he : DX X c W e d) (hc : X.calm = true) (hg : Gl X "list" := by rfl) (hg2 : Gl X "range" := by rfl)
    (na : starEach [e] X.env = (false, eval e X.env) :: starEach [] X.env := by rfl) (nb : starEach [.Call (.Name "range" p2) [e] [] pos2] X.env = (false, eval (.Call (.Name "range" p2) [e] [] pos2) X.env) :: starEach [] X.env := by rfl) :
    DX X c W (.Call (.Name "list" p) [.Call (.Name "range" p2) [e] [] pos2] [] pos) (dLR d) := by
  obtain ⟨t, q, r⟩ := he
  exact ⟨_, pe_listRg hc hg hm (prg_1 hg2 hm2 q na) nb, re_lr r⟩
end
end PD

set_option Elab.async false
set_option linter.all false
set_option maxRecDepth 100000
set_option maxHeartbeats 2000000
/-! PdS: comprehensions with two for; sorted(set(a tuple of numbers)). -/
namespace PD
open PySem PySem.Spec PyProof.Rows L2
def lcTwo (dg : DG) (dt : DB) (di1 : DI) (dg1 : DG) (dt1 : DB) (de : DE) (vs vs1 : List Nat) : List D → List D → Sl → Option (List D × Sl)
  | [], acc, ρ => some (acc, ρ)
  | d :: ds, acc, ρ => match dg d ρ with
    | some ρ1 => (match dt ρ1 with
      | .ok true ρ2 => (match di1 ρ2 with
        | .ok _ ds1 ρ3 => (match lcL dg1 dt1 de vs1 ds1 acc (wipeR ρ3 vs1) with
          | some (acc', ρ4) => lcTwo dg dt di1 dg1 dt1 de vs vs1 ds acc' (wipeR ρ4 vs)
          | none => none)
        | _ => none)
      | .ok false ρ2 => lcTwo dg dt di1 dg1 dt1 de vs vs1 ds acc (wipeR ρ2 vs)
      | _ => none)
    | none => none
def dLcG (di : DI) (vs : List Nat) (dg : DG) (dt : DB) (di1 : DI) (vs1 : List Nat) (dg1 : DG) (dt1 : DB) (de : DE) : DE := fun ρ => match di ρ with
  | .ok _ ds ρ1 => (match lcTwo dg dt di1 dg1 dt1 de vs vs1 ds [] (wipeR ρ1 vs) with
    | some (acc, ρ2) => .ok (.t (.own (.list acc))) (restR ρ1 ρ2 vs)
    | none => .no)
  | .ex x ρ1 => .ex x ρ1
  | .no => .no
section
variable {X : Cx} {c : Cfg} {W : XK} {F H : Hp}
theorem perm_mid {α : Type} (P S : List α) (x : α) (Z : List α) : ((P ++ (x :: S)) ++ Z).Perm (x :: ((P ++ S) ++ Z)) := (List.perm_middle (a := x) (l₁ := P) (l₂ := S)).append_right Z
/-- the inner walk of two -/
theorem lc_in {g1 : TG} {tt1 : TT} {te : TE} {vs1 is1 : List Nat} {dg1 : DG} {dt1 : DB} {de : DE} {Dl : Addr} {P S : Cells} {w1 : List V} {hs ds1 acc accF : List D} {ρ ρF : Sl} {σ2 : L2.St} {J1 : It} {Nx : Hp → Prop} (hs1 : ∀ i ∈ is1, i ∈ vs1) (hg : RG c g1 dg1 is1) (ht : RB c WF tt1 dt1) (he : RE c WF te de)
    (hw1 : w1.length = hs.length) (hin : ∀ x ∈ vals w1 hs, x ∈ P ++ S) (hl : σ2.length = ρ.length) (r : R c F ((P ++ ((some (.ref Dl), .own (.list acc)) :: S)) ++ (wipe σ2 vs1).zip ρ) H) (hj : JOk c.K J1 w1 hs ds1) (hL : lcL dg1 dt1 de vs1 ds1 acc ρ = some (accF, ρF))
    (fin : ∀ F' H', σ2.length = ρF.length → R c F' ((P ++ ((some (.ref Dl), .own (.list accF)) :: S)) ++ (wipe σ2 vs1).zip ρF) H' → Nx H') :
    ∃ W1 : Nat → Nat → Hp → Prop, (∃ m, W1 0 m H) ∧ ∀ j k H, W1 j k H → (J1.stop j H ∧ Nx H) ∨ (J1.go j H ∧ ∃ Nx1 : Hp → Prop, (∀ H', Nx1 H' → ∃ k', k' < k ∧ W1 (j + 1) k' H') ∧ ∀ x H', J1.yld j H x H' → g1 x (wipe σ2 vs1) H' fun σ3 H5 => wipe σ3 vs1 = wipe σ2 vs1 ∧ tt1 σ3 H5 fun b H6 =>
      if b = true then te σ3 H6 fun y H7 => ∃ acc, H7 Dl = some (.lst acc) ∧ acc.length < sizeLine ∧ Nx1 (upd H7 Dl (.lst (acc ++ [y]))) else Nx1 H6) := by
  refine ⟨fun i m H' => ∃ ρ' F' acc rest, σ2.length = ρ'.length ∧ R c F' ((P ++ ((some (.ref Dl), .own (.list acc)) :: S)) ++ (wipe σ2 vs1).zip ρ') H' ∧ rest = ds1.drop i ∧ i ≤ ds1.length ∧ m = ds1.length - i ∧ lcL dg1 dt1 de vs1 rest acc ρ' = some (accF, ρF),
    ⟨ds1.length, ρ, F, acc, ds1, hl, r, by simp, Nat.zero_le _, by simp, hL⟩, ?_⟩
  rintro i m H' ⟨ρ', F', acc, rest, hl', r', hr, hile, hm, h'⟩
  have held : RpA c.K F' w1 hs := vals_rp w1 hs (cs := []) hw1 fun x hx => r'.ok x (by
    rw [List.append_nil] at hx
    rcases List.mem_append.mp (hin x hx) with q | q
    · exact List.mem_append_left _ (List.mem_append_left _ q)
    · exact List.mem_append_left _ (List.mem_append_right _ (List.mem_cons_of_mem _ q)))
  cases rest with
  | nil =>
    have hi : i = ds1.length := by
      have z := congrArg List.length hr
      simp at z
      omega
    subst hi
    cases h'
    exact .inl ⟨(hj F' H' r'.sub held).2, fin F' H' hl' r'⟩
  | cons d rest =>
    have hdi : ds1[i]? = some d := by
      have z : (ds1.drop i)[0]? = some d := by rw [← hr]; rfl
      simpa using z
    have hilt := (List.getElem?_eq_some_iff.mp hdi).1
    have hr2 : rest = ds1.drop (i + 1) := by
      rw [← List.tail_drop, ← hr]; rfl
    unfold lcL at h'
    obtain ⟨go, yl⟩ := (hj F' H' r'.sub held).1 i d hdi
    refine .inr ⟨go, fun H2 => ∃ ρ2 F2 acc2, σ2.length = ρ2.length ∧ R c F2 ((P ++ ((some (.ref Dl), .own (.list acc2)) :: S)) ++ (wipe σ2 vs1).zip ρ2) H2 ∧ lcL dg1 dt1 de vs1 rest acc2 ρ2 = some (accF, ρF),
      fun H2 ⟨ρ2, F2, acc2, a1, a2, a3⟩ => ⟨ds1.length - (i + 1), by omega, ρ2, F2, acc2, rest, a1, a2, hr2, by omega, rfl, a3⟩, fun x H2 y => ?_⟩
    obtain ⟨F2, g2, qx⟩ := yl x H2 y
    refine hg _ (wipe σ2 vs1) ρ' F2 H2 x d _ (by rw [wipe_length]; exact hl') ((r'.grow g2).addV qx) ?_
    cases e2 : dg1 d ρ' with
    | none => rw [e2] at h'; cases h'
    | some ρ2 =>
      rw [e2] at h'
      simp only at h'
      intro σ3 F3 H3 hl3 o3 r3
      have hw := wipe_of_out o3 hs1
      have len3 : σ2.length = σ3.length := by rw [o3.1, wipe_length]
      refine ⟨hw, ht _ σ3 ρ2 F3 H3 _ hl3 r3 ?_⟩
      cases e3 : dt1 ρ2 with
      | no => rw [e3] at h'; cases h'
      | ex x' ρ3 => rw [e3] at h'; cases h'
      | ok k ρ3 =>
        rw [e3] at h'
        intro F4 H4 hl4 r4
        cases k with
        | false =>
          have r5 := R.forget hl4 vs1 _ r4
          rw [hw] at r5
          exact iteF ⟨wipeR ρ3 vs1, F4, acc, by rw [wipeR_length]; omega, r5, h'⟩
        | true =>
          simp only at h'
          refine iteT (re_run he hl4 r4 (fun o ρ4 e4 y F5 H5 hl5 hh r5 => ?_) (fun x' ρ4 e4 => by rw [e4] at h'; cases h') fun e4 => by rw [e4] at h'; cases h')
          rw [e4] at h'
          simp only at h'
          cases e5 : frz1 ρ4 o with
          | none => rw [e5] at h'; cases h'
          | some p =>
            obtain ⟨xd, ρ5⟩ := p
            rw [e5] at h'
            simp only at h'
            split at h'
            · rename_i hz
              obtain ⟨F6, s6, hl6, r6⟩ := R.frz1 hl5 hh r5 e5
              have qy : Rp c.K F6 y xd := r6.ok _ List.mem_cons_self
              have r7 : R c F6 ((some (.ref Dl), .own (.list acc)) :: ((P ++ S) ++ σ3.zip ρ5)) H5 := r6.drop.permL (perm_mid P S _ _)
              obtain ⟨f1, ob, f2, f3⟩ := r7.ok _ List.mem_cons_self
              cases f3 with
              | @lst xs _ f3 =>
                have r8 := r7.change (o' := .lst (xs ++ [y])) (d' := .list (acc ++ [xd])) (.lst (f3.app (.cons qy .nil)))
                have r10 := R.forget hl6 vs1 _ (r8.permL (perm_mid P S _ _).symm)
                rw [hw] at r10
                exact ⟨xs, f2, by rw [f3.len]; exact Nat.lt_of_lt_of_le hz (szl (Nat.le_refl _)), wipeR ρ5 vs1, F6, acc ++ [xd], by rw [wipeR_length]; omega, r10, h'⟩
            · cases h'
theorem wipe_wipe {σ2 σ : L2.St} {vs vs1 : List Nat} (h : wipe σ2 vs = wipe σ vs) (hs : ∀ i ∈ vs1, i ∈ vs) : wipe (wipe σ2 vs1) vs = wipe σ vs := by
  rw [← h]
  refine List.ext_getElem? fun j => ?_
  by_cases hj : j ∈ vs
  · rw [wipe_in hj, wipe_in hj, wipe_length]
  · rw [L2.wipe_out hj, L2.wipe_out hj, L2.wipe_out fun z => hj (hs j z)]
theorem re_lcG {wi wi1 : TI} {g g1 : TG} {tt tt1 : TT} {te : TE} {vs vs1 is is1 : List Nat} {di di1 : DI} {dg dg1 : DG} {dt dt1 : DB} {de : DE} (hs : ∀ i ∈ is, i ∈ vs) (hs1 : ∀ i ∈ is1, i ∈ vs1) (hv : ∀ i ∈ vs1, i ∈ vs) (hi : RI c W wi di) (hg : RG c g dg is) (ht : RB c WF tt dt)
    (hi1 : RI c WF wi1 di1) (hg1 : RG c g1 dg1 is1) (ht1 : RB c WF tt1 dt1) (he : RE c WF te de) : RE c W (tLc2 wi g tt wi1 g1 tt1 te vs vs1) (dLcG di vs dg dt di1 vs1 dg1 dt1 de) := by
  intro τ σ ρ F H Q hl r h
  unfold dLcG at h
  refine hi τ σ ρ F H _ hl r ?_
  cases e : di ρ with
  | no => rw [e] at h; exact h.elim
  | ex x ρ1 => rw [e] at h; exact h
  | ok d0 ds ρ1 =>
    rw [e] at h
    intro J w0 F1 H1 hl1 hvs r1 hj Dl hD
    simp only at h
    cases e1 : lcTwo dg dt di1 dg1 dt1 de vs vs1 ds [] (wipeR ρ1 vs) with
    | none => rw [e1] at h; exact h.elim
    | some p =>
      obtain ⟨accF, ρF⟩ := p
      rw [e1] at h
      simp only at h
      have r2 : R c F1 ((some (.ref Dl), .own (.list [])) :: ((vals w0 (heldD d0) ++ τ) ++ σ.zip ρ1)) (upd H1 Dl (.lst [])) :=
        R.addO (by rw [List.append_assoc]; exact r1) (Grow.new1 r1.sub hD) hD (r1.sub.free hD) upd_same (.lst .nil)
      have r3 := R.wipeAll hl1 vs ((some (.ref Dl), .own (.list [])) :: (vals w0 (heldD d0) ++ τ)) r2
      refine ⟨fun i m H' => ∃ ρ' F' acc rest, σ.length = ρ'.length ∧ R c F' ((holdC σ ρ1 vs ++ ((some (.ref Dl), .own (.list acc)) :: (vals w0 (heldD d0) ++ τ))) ++ (wipe σ vs).zip ρ') H' ∧ rest = ds.drop i ∧ i ≤ ds.length ∧ m = ds.length - i ∧ lcTwo dg dt di1 dg1 dt1 de vs vs1 rest acc ρ' = some (accF, ρF),
        ⟨ds.length, wipeR ρ1 vs, F1, [], ds, by rw [wipeR_length]; exact hl1, r3, by simp, Nat.zero_le _, by simp, e1⟩, ?_⟩
      rintro i m H' ⟨ρ', F', acc, rest, hl', r', hr, hile, hm, h'⟩
      have held : RpA c.K F' w0 (heldD d0) := vals_rp w0 (heldD d0) (cs := []) hvs fun x hx => r'.ok x (by rw [List.append_nil] at hx; simp [hx])
      cases rest with
      | nil =>
        have hi : i = ds.length := by
          have z := congrArg List.length hr
          simp at z
          omega
        subst hi
        cases h'
        refine .inl ⟨(hj F' H' r'.sub held).2, ?_⟩
        have r4 := R.unwipeAll hl1 vs _ _ hl' r'
        have r5 : R c F' ((some (.ref Dl), .own (.list accF)) :: (vals w0 (heldD d0) ++ (τ ++ σ.zip (restR ρ1 ρF vs)))) H' := by rw [← List.append_assoc (vals w0 (heldD d0))]; exact r4
        exact h (.ref Dl) F' H' (by rw [restR_length]; exact hl') (r5.subl ((List.sublist_append_right _ _).cons_cons _))
      | cons d rest =>
        have hdi : ds[i]? = some d := by
          have z : (ds.drop i)[0]? = some d := by rw [← hr]; rfl
          simpa using z
        have hilt := (List.getElem?_eq_some_iff.mp hdi).1
        have hr2 : rest = ds.drop (i + 1) := by
          rw [← List.tail_drop, ← hr]; rfl
        unfold lcTwo at h'
        obtain ⟨go, yl⟩ := (hj F' H' r'.sub held).1 i d hdi
        refine .inr ⟨go, fun H2 => ∃ ρ2 F2 acc2, σ.length = ρ2.length ∧ R c F2 ((holdC σ ρ1 vs ++ ((some (.ref Dl), .own (.list acc2)) :: (vals w0 (heldD d0) ++ τ))) ++ (wipe σ vs).zip ρ2) H2 ∧ lcTwo dg dt di1 dg1 dt1 de vs vs1 rest acc2 ρ2 = some (accF, ρF),
          fun H2 ⟨ρ2, F2, acc2, a1, a2, a3⟩ => ⟨ds.length - (i + 1), by omega, ρ2, F2, acc2, rest, a1, a2, hr2, by omega, rfl, a3⟩, fun x H2 y => ?_⟩
        obtain ⟨F2, g2, qx⟩ := yl x H2 y
        refine hg _ (wipe σ vs) ρ' F2 H2 x d _ (by rw [wipe_length]; exact hl') ((r'.grow g2).addV qx) ?_
        cases e2 : dg d ρ' with
        | none => rw [e2] at h'; cases h'
        | some ρ2 =>
          rw [e2] at h'
          simp only at h'
          intro σ3 F3 H3 hl3 o3 r3
          have hw := wipe_of_out o3 hs
          have len3 : σ.length = σ3.length := by rw [o3.1, wipe_length]
          refine ⟨hw, ht _ σ3 ρ2 F3 H3 _ hl3 r3 ?_⟩
          cases e3 : dt ρ2 with
          | no => rw [e3] at h'; cases h'
          | ex x' ρ3 => rw [e3] at h'; cases h'
          | ok k ρ3 =>
            rw [e3] at h'
            intro F4 H4 hl4 r4
            cases k with
            | false =>
              have r5 := R.forget hl4 vs _ r4
              rw [hw] at r5
              exact iteF ⟨wipeR ρ3 vs, F4, acc, by rw [wipeR_length]; omega, r5, h'⟩
            | true =>
              simp only at h'
              refine iteT (hi1 _ σ3 ρ3 F4 H4 _ hl4 r4 ?_)
              cases e4 : di1 ρ3 with
              | no => rw [e4] at h'; cases h'
              | ex x' ρ4 => rw [e4] at h'; cases h'
              | ok d1 ds1 ρ4 =>
                rw [e4] at h'
                simp only at h'
                intro J1 w1 F5 H5 hl5 hw1 r5 hj1
                cases e5 : lcL dg1 dt1 de vs1 ds1 acc (wipeR ρ4 vs1) with
                | none => rw [e5] at h'; cases h'
                | some p =>
                  obtain ⟨acc', ρ5⟩ := p
                  rw [e5] at h'
                  simp only at h'
                  have r6 : R c F5 (((vals w1 (heldD d1) ++ holdC σ ρ1 vs) ++ ((some (.ref Dl), .own (.list acc)) :: (vals w0 (heldD d0) ++ τ))) ++ σ3.zip ρ4) H5 := by
                    rw [List.append_assoc, List.append_assoc]
                    rw [List.append_assoc] at r5
                    exact r5
                  have r7 := R.forget hl5 vs1 _ r6
                  refine lc_in (P := vals w1 (heldD d1) ++ holdC σ ρ1 vs) (S := vals w0 (heldD d0) ++ τ) (acc := acc) (accF := acc') (ρF := ρ5) hs1 hg1 ht1 he hw1 (fun x hx => List.mem_append_left _ (List.mem_append_left _ hx)) (by rw [wipeR_length]; exact hl5) r7 hj1 e5 fun F' H' hl6 r8 => ?_
                  have r9 : R c F' (vals w1 (heldD d1) ++ ((holdC σ ρ1 vs ++ ((some (.ref Dl), .own (.list acc')) :: (vals w0 (heldD d0) ++ τ))) ++ (wipe σ3 vs1).zip ρ5)) H' := by
                    rw [List.append_assoc, List.append_assoc] at r8
                    rw [List.append_assoc]
                    exact r8
                  have r10 := R.forget (by rw [wipe_length]; exact hl6) vs _ r9.dropTemps
                  rw [wipe_wipe hw hv] at r10
                  exact ⟨wipeR ρ5 vs, F', acc', by rw [wipeR_length]; omega, r10, h'⟩
/-- the inner iterable stands in the block's context -/
def BI (X : Cx) (scope : Scope) (c : Cfg) (tg iter : Expr) (d : DI) : Prop := ∀ s H C cl fp, DXI (Blk X scope s H C cl fp) c WF tg iter d
theorem PI.anti {X : Cx} {tg e : Expr} {t t' : TI} (h : PI X tg e t) (a : ∀ σ H Q, t' σ H Q → t σ H Q) : PI X tg e t' := ⟨fun pins s σ H Q I q => h.run pins s σ H Q I (a σ H Q q)⟩
theorem BI.one {scope : Scope} {tg e : Expr} {d : DI} (h : BI X scope c tg e d) : ∃ te, (∀ s H C cl fp, PI (Blk X scope s H C cl fp) tg e te) ∧ RI c WF te d := by
  refine ⟨fun σ H' Q => ∀ s H C cl fp, Classical.choose (h s H C cl fp) σ H' Q, fun s H C cl fp => ?_, fun τ σ ρ F H' Q hl r q s H C cl fp => ?_⟩
  · exact PD.PI.anti (Classical.choose_spec (h s H C cl fp)).1 fun σ H' Q q => q s H C cl fp
  · exact (Classical.choose_spec (h s H C cl fp)).2 τ σ ρ F H' Q hl r q
theorem dx_lcG {elt tg iter tg1 iter1 : Expr} {ifs ifs1 : List Expr} {scope : Scope} {own : List (Str × Nat)} {vs1 is is1 : List Nat} {pos : Pos} {di di1 : DI} {dg dg1 : DG} {dt dt1 : DB} {de : DE} (hc : X.calm = true) (hN : X.N.Nodup) (hi : DXI X c W tg iter di) (hg : BG X scope c tg dg is) (ht : BTs X scope c ifs dt)
    (hi1 : BI X scope c tg1 iter1 di1) (hg1 : BG X scope c tg1 dg1 is1) (ht1 : BTs X scope c ifs1 dt1) (he : BX X scope c elt de) (ok : BlkOk X.N X.env.scope scope own) (hs : ∀ i ∈ is, i ∈ own.map (·.2) := by decide) (hs1 : ∀ i ∈ is1, i ∈ vs1 := by decide) (hv : ∀ i ∈ vs1, i ∈ own.map (·.2) := by decide)
    (hf : ∀ x, foldedSetIterable iter X.env x = pure x := by exact fun _ => rfl) (hf1 : ∀ env x, foldedSetIterable iter1 env x = pure x := by exact fun _ _ => rfl) : DX X c W (.ListComp elt [⟨tg, iter, ifs, 0⟩, ⟨tg1, iter1, ifs1, 0⟩] scope pos) (dLcG di (own.map (·.2)) dg dt di1 vs1 dg1 dt1 de) := by
  obtain ⟨wi, p1, r1⟩ := hi
  obtain ⟨g, p2, r2⟩ := hg.one
  obtain ⟨tt, p3, r3⟩ := ht.one
  obtain ⟨wi1, p5, r5⟩ := hi1.one
  obtain ⟨g1, p6, r6⟩ := hg1.one
  obtain ⟨tt1, p7, r7⟩ := ht1.one
  obtain ⟨te, p4, r4⟩ := he.one
  exact ⟨_, pe_lc2 hc hN p1 ok hv p2 p3 p5 p6 p7 p4 hf hf1, re_lcG hs hs1 hv r1 r2 r3 r5 r6 r7 r4⟩
theorem ds_setLcG {i : Nat} {y : Str} {py : Pos} {elt tg iter tg1 iter1 : Expr} {ifs ifs1 : List Expr} {scope : Scope} {own : List (Str × Nat)} {vs1 is is1 : List Nat} {pos spos : Pos} {di di1 : DI} {dg dg1 : DG} {dt dt1 : DB} {de : DE} (fz : Bool) (hn : Np c [i]) (hc : X.calm = true) (hN : X.N.Nodup) (hi : DXI X c W tg iter di) (hg : BG X scope c tg dg is) (ht : BTs X scope c ifs dt)
    (hi1 : BI X scope c tg1 iter1 di1) (hg1 : BG X scope c tg1 dg1 is1) (ht1 : BTs X scope c ifs1 dt1) (he : BX X scope c elt de) (ok : BlkOk X.N X.env.scope scope own) (hy : X.N[i]? = some y := by rfl) (hyl : X.env.scope.names.lookup y = some .local := by rfl)
    (hsw : swapsWith (.ListComp elt [⟨tg, iter, ifs, 0⟩, ⟨tg1, iter1, ifs1, 0⟩] scope pos) (some (.Name y py)) spos.line X.env = pure true := by exact (sw_true rfl rfl rfl (by decide +kernel)))
    (hs : ∀ i ∈ is, i ∈ own.map (·.2) := by decide) (hs1 : ∀ i ∈ is1, i ∈ vs1 := by decide) (hv : ∀ i ∈ vs1, i ∈ own.map (·.2) := by decide)
    (hf : ∀ x, foldedSetIterable iter X.env x = pure x := by exact fun _ => rfl) (hf1 : ∀ env x, foldedSetIterable iter1 env x = pure x := by exact fun _ _ => rfl) :
    DSt X c W (.Assign [.Name y py] (.ListComp elt [⟨tg, iter, ifs, 0⟩, ⟨tg1, iter1, ifs1, 0⟩] scope pos) spos) (sSet i (if fz = true then dFz (dLcG di (own.map (·.2)) dg dt di1 vs1 dg1 dt1 de) else dLcG di (own.map (·.2)) dg dt di1 vs1 dg1 dt1 de)) := by
  obtain ⟨wi, p1, r1⟩ := hi
  obtain ⟨g, p2, r2⟩ := hg.one
  obtain ⟨tt, p3, r3⟩ := ht.one
  obtain ⟨wi1, p5, r5⟩ := hi1.one
  obtain ⟨g1, p6, r6⟩ := hg1.one
  obtain ⟨tt1, p7, r7⟩ := ht1.one
  obtain ⟨te, p4, r4⟩ := he.one
  refine ⟨_, ps_setLc2 hc hN hy hyl hsw p1 ok hv p2 p3 p5 p6 p7 p4 hf hf1, rs_set hn ?_⟩
  cases fz with
  | true => exact re_fz (re_lcG hs hs1 hv r1 r2 r3 r5 r6 r7 r4)
  | false => exact re_lcG hs hs1 hv r1 r2 r3 r5 r6 r7 r4
/-! ### sorted(set(xs)), a tuple of numbers -/
/-- set(t), a tuple of numbers -/
def rSetTI (K : PySem.W.Frag) (w : World) : List V → Hp → VK → Prop := fun vs H Q => ∃ (a : Addr) (ns : List Int), vs = [.ref a] ∧ SqT K H a (ns.map V.int) ∧ ns.length ≤ 1000 ∧ ∀ p n, H p = none → n ≤ ns.length → Q (.ref p) (upd H p (SetO w p (fun j => decide (j ∈ ns)) n))
theorem cr_setTI (hc : X.calm = true) : CallR X (.type "set") (rSetTI X.K X.w) := by
  intro pins s σ H vs us Q I r h
  obtain ⟨a, ns, rfl, hs, hz, q⟩ := h
  obtain rfl := Vals.ref1 r
  obtain ⟨its, rv, ⟨o, ho, hcl, m, hd⟩, _⟩ := I.tuple hs
  refine call_set_tupI ns (I.ok.hd hc) ⟨o, ho, hcl, m, hd⟩ rv.ints (by have : scanBound = 2 ^ 20 ∨ True := .inr trivial; unfold scanBound; omega) fun h' tk n R hn k => ?_
  exact ⟨.ref s.heap.objs.size, _, I.laid (o := SetO X.w s.heap.objs.size (fun j => decide (j ∈ ns)) n) (t' := tk) k (Nat.le_refl _) (setO_new R), rfl, q _ n (I.hok.fresh (Nat.le_refl _)) hn⟩
/-- the numbers of a row in their order, each once -/
def insI (z : Int) : List Int → List Int
  | [] => [z]
  | y :: ys => if z < y then z :: y :: ys else if z = y then y :: ys else y :: insI z ys
def sdI (ns : List Int) : List Int := ns.foldr insI []
theorem insI_mem {z y : Int} : ∀ {l : List Int}, y ∈ insI z l ↔ y = z ∨ y ∈ l
  | [] => by simp [insI]
  | x :: l => by
    unfold insI
    split
    · simp
    · split
      · rename_i h; subst h; simp
      · simp only [List.mem_cons, insI_mem (l := l)]
        constructor
        · rintro (h | h | h) <;> simp [h]
        · rintro (h | h | h) <;> simp [h]
theorem insI_up {z : Int} : ∀ {l : List Int}, l.Pairwise (· < ·) → (insI z l).Pairwise (· < ·)
  | [], _ => by simp [insI]
  | x :: l, h => by
    unfold insI
    obtain ⟨h1, h2⟩ := List.pairwise_cons.mp h
    split
    · rename_i hz
      exact List.pairwise_cons.mpr ⟨fun y hy => by
        rcases List.mem_cons.mp hy with e | e
        · rw [e]; exact hz
        · have := h1 y e; omega, h⟩
    · split
      · exact h
      · rename_i ha hb
        exact List.pairwise_cons.mpr ⟨fun y hy => by
          rcases insI_mem.mp hy with e | e
          · omega
          · exact h1 y e, insI_up h2⟩
theorem sdI_mem {y : Int} : ∀ {ns : List Int}, y ∈ sdI ns ↔ y ∈ ns
  | [] => by simp [sdI]
  | z :: ns => by
    show y ∈ insI z (sdI ns) ↔ _
    rw [insI_mem, sdI_mem (ns := ns)]; simp
theorem sdI_up : ∀ (ns : List Int), (sdI ns).Pairwise (· < ·)
  | [] => .nil
  | _ :: ns => insI_up (sdI_up ns)
theorem up_ext : ∀ {l m : List Int}, l.Pairwise (· < ·) → m.Pairwise (· < ·) → (∀ z, z ∈ l ↔ z ∈ m) → l = m
  | [], [], _, _, _ => rfl
  | [], y :: m, _, _, h => absurd ((h y).mpr List.mem_cons_self) (by simp)
  | x :: l, [], _, _, h => absurd ((h x).mp List.mem_cons_self) (by simp)
  | x :: l, y :: m, hl, hm, h => by
    obtain ⟨l1, l2⟩ := List.pairwise_cons.mp hl
    obtain ⟨m1, m2⟩ := List.pairwise_cons.mp hm
    have e : x = y := by
      rcases List.mem_cons.mp ((h x).mp List.mem_cons_self) with e | e
      · exact e
      · rcases List.mem_cons.mp ((h y).mpr List.mem_cons_self) with e' | e'
        · exact e'.symm
        · have := m1 x e; have := l1 y e'; omega
    subst e
    rw [up_ext l2 m2 fun z => by
      constructor
      · intro hz
        rcases List.mem_cons.mp ((h z).mp (List.mem_cons_of_mem _ hz)) with e | e
        · have := l1 z hz; omega
        · exact e
      · intro hz
        rcases List.mem_cons.mp ((h z).mpr (List.mem_cons_of_mem _ hz)) with e | e
        · have := m1 z hz; omega
        · exact e]
def oSortSet : List D → VO
  | [.tuple ds] => (match intsOf ds with
    | some ns => if ns.length < 64 then .n (.list ((sdI ns).map .int)) else .no
    | none => .no)
  | _ => .no
def rSortSetT (K : PySem.W.Frag) (w : World) : List V → Hp → VK → Prop := fun vs H Q => rSetTI K w vs H fun u H2 => rSortedSet w [u] H2 Q
theorem rp_ints {F : Hp} : ∀ ns : List Int, RpA c.K F (ns.map V.int) (ns.map .int)
  | [] => .nil
  | n :: ns => .cons (.int n) (rp_ints ns)
theorem vok_sortSet : VOk c.K (rSortSetT c.K X.w) oSortSet := by
  intro F H vs ds Q s rr hp
  unfold oSortSet at hp
  split at hp
  · rename_i ds
    cases rr with
    | cons h1 h2 =>
      cases h2
      obtain ⟨a, xs, rfl, h1, q⟩ := h1.tup s
      cases e : intsOf ds with
      | none => rw [e] at hp; exact hp.elim
      | some ns =>
        rw [e] at hp
        simp only at hp
        have := intsOf_ok q e
        subst this
        split at hp
        · rename_i hz
          refine ⟨a, ns, rfl, h1, by omega, fun p n hp0 hn => ⟨p, _, n, rfl, upd_same, by omega, fun ms p' hup hmem hlen hp' => ?_⟩⟩
          have e1 : ms = sdI ns := up_ext hup (sdI_up ns) fun z => by rw [hmem z, sdI_mem]; simp
          subst e1
          have g1 := Grow.new1 (o := SetO X.w p (fun j => decide (j ∈ ns)) n) s hp0
          have g2 := Grow.new1 (o := .lst ((sdI ns).map V.int)) (g1.sub) hp'
          have hpp : H p' = none := by
            by_cases hb : p' = p
            · rw [hb]; exact hp0
            · rw [upd_ne hb] at hp'; exact hp'
          exact hp p' _ _ _ (g1.trans g2) hpp (s.free hpp) upd_same (.lst (rp_ints _))
        · exact hp.elim
  · exact hp.elim
theorem dx_sortSet {e : Expr} {d : DE} {p p2 pos pos2 : Pos} (hK : c.K = X.K) (hm : X.mg "sorted" = none) (hm2 : X.mg "set" = none) (he : DX X c W e d) (hc : X.calm = true) (hg : Gl X "sorted" := by rfl) (hg2 : Gl X "set" := by rfl)
    (na : starEach [e] X.env = (false, eval e X.env) :: starEach [] X.env := by rfl) (nb : starEach [.Call (.Name "set" p2) [e] [] pos2] X.env = (false, eval (.Call (.Name "set" p2) [e] [] pos2) X.env) :: starEach [] X.env := by rfl) :
    DX X c W (.Call (.Name "sorted" p) [.Call (.Name "set" p2) [e] [] pos2] [] pos) (dOp oSortSet (daC d daN)) := by
  obtain ⟨t, q, r⟩ := he
  have k := re_op (vok_sortSet (X := X)) (ra_cons r ra_nil)
  rw [hK] at k
  exact ⟨_, pe_callB (cr_sortedSet hc) hg hm (by decide +kernel) (pa_cons (pe_callTy (cr_setTI hc) hg2 hm2 (by decide +kernel) (pa_cons q pa_nil na) (by decide) (by decide) na rfl) pa_nil nb) (by decide) (by decide) nb rfl, k⟩
end
end PD

set_option Elab.async false
set_option linter.all false
set_option maxRecDepth 100000
set_option maxHeartbeats 2000000
/-! PdT: defs that make lambdas themselves (their code's table grows). -/
namespace PD
open PySem PySem.Spec PyProof.Rows L2
structure FinT (T : List (Addr × Str)) (ia : List Addr) (F H F' H' : Hp) : Prop where
  f : Same F F'
  sub : Same F' H'
  kept : ∀ b o, H b = some o → (∀ ps, o ≠ .tbl ps) → b ∉ ia → H' b = some o
  tabs : LamX.Tabs T H'
  new : ∀ b, F' b ≠ none → F b = none → hide H b = none ∨ b ∈ ia
  ntb : ∀ b ps, F' b = some (.tbl ps) → F b = some (.tbl ps)
def FPostT (K : PySem.W.Frag) (mg : Str → Option Value) (T : List (Addr × Str)) (F H : Hp) (ia : List Addr) (Q : VK) (E : XK) : FO → Prop
  | .rt d s => ∀ v F' H', FinT T ia F H F' H' → IoOk K F' H' ia s → Rp K F' v d → Q v H'
  | .ex x s => ∀ cls dd F' H', FinT T ia F H F' H' → IoOk K F' H' ia s → XR K mg F' H' x cls dd → E cls dd H'
  | .no => False
/-- the promise of a def that makes lambdas; T: the tables of code objects -/
def spT (K : PySem.W.Frag) (mg : Str → Option Value) (T : List (Addr × Str)) (io : Bool) (np : Nat) (f : List D → FO) : Sp := fun vs H Q E =>
  ∃ F ia ds, vs.length = np ∧ (if io = true then ∃ a, ia = [a] else ia = []) ∧ Same F H ∧ LamX.Tabs T H ∧ (∀ b ps, F b ≠ some (.tbl ps)) ∧ ArgsOk K F H ia vs ds ∧ FPostT K mg T F H ia Q E (f ds)
section
variable {X : Cx} {c : Cfg} {W : XK} {F H F' H' : Hp}
theorem hide_none {H : Hp} {b : Addr} {o : HO} (h : hide H b = none) (e : H b = some o) : ∃ ps, o = .tbl ps := by
  unfold hide at h
  rw [e] at h
  cases o with
  | tbl ps => exact ⟨ps, rfl⟩
  | _ => cases h
theorem R.freshT {cs : Cells} (nH : ∀ b ps, c.H0 b ≠ some (.tbl ps)) (r : R c F cs H) {b : Addr} (h : hide H b = none) : c.H0 b = none ∨ b ∈ c.io := by
  by_cases hb : b ∈ c.io
  · exact .inr hb
  · refine .inl ?_
    cases e : c.H0 b with
    | none => rfl
    | some u =>
      obtain ⟨ps, z⟩ := hide_none h (r.kept b u e hb)
      exact absurd (by rw [e, z]) (nH b ps)
theorem R.finT {cs : Cells} {a : Addr} {d0 : D} {s : SV} (nH : ∀ b ps, c.H0 b ≠ some (.tbl ps)) (r : R c F ((some (.ref a), .own d0) :: cs) H) (g : FinT c.T [a] F H F' H') (ok : CellOk c.K F' H' (some (.ref a), s)) : R c F' ((some (.ref a), s) :: cs) H' := by
  obtain ⟨fa, o, ha, how⟩ := r.ok _ List.mem_cons_self
  have nd : (a :: cs.filterMap ownA).Nodup := r.dis
  have na := (List.nodup_cons.mp nd).1
  have oa := r.own a List.mem_cons_self
  refine ⟨g.sub, r.grow0.trans g.f, fun b h n => ?_, fun b u e hi => ?_, g.tabs, fun b ps h => r.ntb b ps (g.ntb b ps h), fun x hx => ?_, ?_, ?_⟩
  · cases e : F b with
    | some u => exact r.growN b h (by rw [e]; simp)
    | none =>
      rcases g.new b n e with hb | hb
      · exact r.freshT nH hb
      · have : b = a := by simpa using hb
        rw [this]; exact oa
  · have hb : b ≠ a := fun z => by
      rcases oa with q | q
      · rw [z, q] at e; cases e
      · exact hi (z ▸ q)
    exact g.kept b u (r.kept b u e hi) (fun ps z => nH b ps (by rw [e, z])) (by simpa using hb)
  · rcases List.mem_cons.mp hx with rfl | hx
    · exact ok
    · have q := r.ok x (List.mem_cons_of_mem _ hx)
      obtain ⟨v, s'⟩ := x
      cases s' with
      | no => trivial
      | val d' =>
        cases v with
        | none => exact q.elim
        | some v => exact Rp.mono g.f _ _ q
      | own d' =>
        cases v with
        | none => exact q.elim
        | some v =>
          cases v with
          | ref b =>
            obtain ⟨q1, u, q2, q3⟩ := q
            have hb : b ≠ a := fun z => na (by rw [← z]; exact List.mem_filterMap.mpr ⟨_, hx, rfl⟩)
            refine ⟨?_, u, g.kept b u q2 q3.ntbl (by simpa using hb), q3.mono g.f⟩
            cases e : F' b with
            | none => rfl
            | some w =>
              rcases g.new b (by rw [e]; simp) q1 with z | z
              · obtain ⟨ps, zz⟩ := hide_none z q2
                exact absurd zz (q3.ntbl ps)
              · exact absurd (by simpa using z) hb
          | _ => exact q.elim
  · cases s with
    | own d => exact r.dis
    | no => exact (List.nodup_cons.mp nd).2
    | val d => exact (List.nodup_cons.mp nd).2
  · cases s with
    | own d => exact r.own
    | no => exact fun b hb => r.own b (List.mem_cons_of_mem _ hb)
    | val d => exact fun b hb => r.own b (List.mem_cons_of_mem _ hb)
theorem R.finT0 {cs : Cells} (nH : ∀ b ps, c.H0 b ≠ some (.tbl ps)) (r : R c F cs H) (g : FinT c.T [] F H F' H') : R c F' cs H' := by
  refine ⟨g.sub, r.grow0.trans g.f, fun b h n => ?_, fun b u e hi => g.kept b u (r.kept b u e hi) (fun ps z => nH b ps (by rw [e, z])) (by simp), g.tabs, fun b ps h => r.ntb b ps (g.ntb b ps h), fun x hx => ?_, r.dis, r.own⟩
  · cases e : F b with
    | some u => exact r.growN b h (by rw [e]; simp)
    | none =>
      rcases g.new b n e with hb | hb
      · exact r.freshT nH hb
      · cases hb
  · have q := r.ok x hx
    obtain ⟨v, s'⟩ := x
    cases s' with
    | no => trivial
    | val d' =>
      cases v with
      | none => exact q.elim
      | some v => exact Rp.mono g.f _ _ q
    | own d' =>
      cases v with
      | none => exact q.elim
      | some v =>
        cases v with
        | ref b =>
          obtain ⟨q1, u, q2, q3⟩ := q
          refine ⟨?_, u, g.kept b u q2 q3.ntbl (by simp), q3.mono g.f⟩
          cases e : F' b with
          | none => rfl
          | some w =>
            rcases g.new b (by rw [e]; simp) q1 with z | z
            · obtain ⟨ps, zz⟩ := hide_none z q2
              exact absurd zz (q3.ntbl ps)
            · cases z
        | _ => exact q.elim
theorem re_callT {np : Nat} {f : List D → FO} {ta : TA} {da : DAs} (n0 : ∀ b ps, c.F0 b ≠ some (.tbl ps)) (nH : ∀ b ps, c.H0 b ≠ some (.tbl ps)) (hl' : daLen da np) (ha : RA c W ta da) : RE c W (tCall (spT c.K c.mg c.T false np f) [] W ta) (dCall f da) := by
  intro τ σ ρ F H Q hl r h
  unfold dCall at h
  refine ha τ σ ρ F H _ hl r ?_
  cases e : da ρ with
  | no => rw [e] at h; exact h.elim
  | ex x ρ1 => rw [e] at h; exact h
  | ok os ρ1 =>
    rw [e] at h
    intro vs F1 H1 hl1 hh r1
    simp only at h
    cases e1 : frzA ρ1 os with
    | none => rw [e1] at h; exact h.elim
    | some p =>
      obtain ⟨ds, ρ2⟩ := p
      rw [e1] at h
      simp only at h
      obtain ⟨F2, s2, hl2, q, r2⟩ := R.frzA hl1 hh r1 e1
      refine ⟨F2, [], ds, ?_, by simp, r2.sub, r2.tabs, fun b ps z => n0 b ps (r2.ntb b ps z), by rw [List.append_nil]; exact q, ?_⟩
      · rw [List.append_nil, ← Held.len os vs hh]; exact hl' _ _ _ e
      · cases e2 : f ds with
        | no => rw [e2] at h; exact h.elim
        | ex x s =>
          rw [e2] at h
          exact fun cls dd F' H' g _ xr => h cls dd F' H' hl2 xr (r2.finT0 nH g)
        | rt d s =>
          rw [e2] at h
          exact fun v F' H' g _ qv => h v F' H' hl2 ((r2.finT0 nH g).addV qv)
theorem re_callIoT {np k : Nat} {f : List D → FO} {ta : TA} {da : DAs} (n0 : ∀ b ps, c.F0 b ≠ some (.tbl ps)) (nH : ∀ b ps, c.H0 b ≠ some (.tbl ps)) (hl' : daLen da np) (ha : RA c W ta da) : RE c W (tCall (spT c.K c.mg c.T true (np + 1) f) [] W (tCons (tVar k) ta)) (dCallIo f k da) := by
  intro τ σ ρ F H Q hl r h
  unfold dCallIo at h
  cases e0 : ρ[k]? with
  | none => rw [e0] at h; exact h.elim
  | some s0 =>
    rw [e0] at h
    cases s0 with
    | no => exact h.elim
    | val _ => exact h.elim
    | own d00 =>
      simp only at h
      obtain ⟨a, o, e1, _, _, _⟩ := r.ownSlot hl e0
      refine ⟨.ref a, e1, ha τ σ ρ F H _ hl r ?_⟩
      cases e : da ρ with
      | no => rw [e] at h; exact h.elim
      | ex x ρ1 => rw [e] at h; exact h
      | ok os ρ1 =>
        rw [e] at h
        intro vs F1 H1 hl1 hh r1
        simp only at h
        cases e2 : frzA ρ1 os with
        | none => rw [e2] at h; exact h.elim
        | some p =>
          obtain ⟨ds, ρ2⟩ := p
          rw [e2] at h
          simp only at h
          obtain ⟨F2, s2, hl2, q, r2⟩ := R.frzA hl1 hh r1 e2
          cases e3 : ρ2[k]? with
          | none => rw [e3] at h; exact h.elim
          | some s3 =>
            rw [e3] at h
            cases s3 with
            | no => exact h.elim
            | val _ => exact h.elim
            | own d0 =>
              simp only at h
              obtain ⟨a', o', f1, f2, f3, f4⟩ := r2.ownSlot hl2 e3
              have ea : a' = a := by rw [e1] at f1; cases f1; rfl
              subst ea
              refine ⟨F2, [a'], d0 :: ds, ?_, ⟨a', rfl⟩, r2.sub, r2.tabs, fun b ps z => n0 b ps (r2.ntb b ps z), ?_, ?_⟩
              · rw [List.append_nil, List.length_cons, ← Held.len os vs hh, hl' _ _ _ e]
              · rw [List.append_nil]
                exact ⟨vs, d0, ds, o', rfl, rfl, f2, f3, f4, q⟩
              · cases e4 : f (d0 :: ds) with
                | no => rw [e4] at h; exact h.elim
                | ex x s =>
                  rw [e4] at h
                  intro cls dd F' H' g io xr
                  obtain ⟨rest, q1, q2⟩ := R.front (s' := s) e1 e3 r2
                  exact h cls dd F' H' (by simpa using hl2) xr (q2 F' H' (q1.finT nH g io))
                | rt d s =>
                  rw [e4] at h
                  intro v F' H' g io qv
                  obtain ⟨rest, q1, q2⟩ := R.front (s' := s) e1 e3 r2
                  exact h v F' H' (by simpa using hl2) ((q2 F' H' (q1.finT nH g io)).addV qv)
theorem dx_callT {T : List (Addr × Str)} {x : Str} {k np : Nat} {ps : List Str} {f : List D → FO} {e : Expr} {es : List Expr} {da : DAs} {p pos : Pos} (G : Cal X x k ps (spT X.K X.mg T false np f)) (hT : c.T = T) (n0 : ∀ b ps, c.F0 b ≠ some (.tbl ps)) (nH : ∀ b ps, c.H0 b ≠ some (.tbl ps)) (hK : c.K = X.K) (hmg : c.mg = X.mg) (hr : Room k X.A) (hx : Passes (L2.CX X.prog X.w) X W) (ha : DXA X c W (e :: es) da) (hl : daLen da np) (hg : Gl X x := by rfl)
    (hdb : (x == ("__debug__" : Str)) = false := by decide) (he : starEach (e :: es) X.env = (false, eval e X.env) :: starEach es X.env := by rfl) (hpl : (backTo pos (starEach es X.env)).any (·.1) = false := by rfl) : DX X c W (.Call (.Name x p) (e :: es) [] pos) (dCall f da) := by
  obtain ⟨t, pa, ra⟩ := ha
  obtain ⟨fa, fd, h1, h2, h3, h4⟩ := G.ex
  have q := re_callT (f := f) n0 nH hl ra
  rw [hK, hmg, hT] at q
  exact ⟨_, pe_call h1 hr hg h2 h3 h4 .nil hx pa hdb he hpl, q⟩
theorem dx_callIoT {T : List (Addr × Str)} {x : Str} {k np j : Nat} {ps : List Str} {f : List D → FO} {y : Str} {es : List Expr} {da : DAs} {p pos py : Pos} (G : Cal X x k ps (spT X.K X.mg T true (np + 1) f)) (hT : c.T = T) (n0 : ∀ b ps, c.F0 b ≠ some (.tbl ps)) (nH : ∀ b ps, c.H0 b ≠ some (.tbl ps)) (hK : c.K = X.K) (hmg : c.mg = X.mg) (hr : Room k X.A) (hx : Passes (L2.CX X.prog X.w) X W) (ha : DXA X c W es da) (hl : daLen da np)
    (hN : X.N[j]? = some y := by rfl) (hv : Vis X.env.scope y := by first | exact Or.inl rfl | exact Or.inr (Or.inl rfl) | exact Or.inr (Or.inr rfl)) (hd : (y == ("__debug__" : Str)) = false := by decide) (hcd : (y == ("__classdict__" : Str)) = false := by decide) (hg : Gl X x := by rfl)
    (hdb : (x == ("__debug__" : Str)) = false := by decide) (he : starEach (.Name y py :: es) X.env = (false, eval (.Name y py) X.env) :: starEach es X.env := by rfl) (hpl : (backTo pos (starEach es X.env)).any (·.1) = false := by rfl) : DX X c W (.Call (.Name x p) (.Name y py :: es) [] pos) (dCallIo f j da) := by
  obtain ⟨t, pa, ra⟩ := ha
  obtain ⟨fa, fd, h1, h2, h3, h4⟩ := G.ex
  have q := re_callIoT (f := f) (k := j) n0 nH hl ra
  rw [hK, hmg, hT] at q
  exact ⟨_, pe_call h1 hr hg h2 h3 h4 .nil hx (pa_cons (pe_var hN hv hd hcd) pa he) hdb he hpl, q⟩
end
/-- _law_refused(lambda: body), one of several tables -/
theorem dx_refT {X : Cx} {c : Cfg} {W : XK} {P cc : Addr} {x a e n f ret : Str} {fns : List Str} {Ng : List Str} {st : Stmt} {g CS : Addr} {fd : FuncData} {k j : Nat} {params : Arguments} {body : Expr} {scope : Scope} {d : DE} {p lpos pos p1 p2 p3 p4 p5 p6 p7 p8 p9 p10 p11 : Pos}
    (Fu : Fun X.K x x st g fd) (hb : Binds X.K fd [a] []) (hm : X.mg x = some (.ref g)) (Sg : FnScope Ng [a] (defScope st)) (hst : defBody st = refBody a e n f ret j p1 p2 p3 p4 p5 p6 p7 p8 p9 p10 p11) (T : ExcF X.K X.mg e CS fns) (hK : c.K = X.K) (hmg : c.mg = X.mg) (n0 : ∀ b ps, c.F0 b ≠ some (.tbl ps)) (nH : ∀ b ps, c.H0 b ≠ some (.tbl ps))
    (hT : (P, X.env.qual ++ "<lambda>") ∈ c.T) (hu : ∀ p ∈ c.T, p.1 = P → p.2 = X.env.qual ++ "<lambda>") (TB : LamX.TabB X.base X.mg cc P) (hcode : X.env.code = .ref cc) (hr : Room (k + 2) X.A)
    (hbody : ∀ (A : Around) (outer : List Env) (s : Shared) (H : Hp) (E : XK) (f c' : Addr), Room k (A.deeper (LamX.lamEnv X scope s.heap.objs.size f c')) → DX (LamX.lamCx X A outer s H E scope f c') c E body d)
    (hf : f ∈ fns := by decide) (hN0 : Ng[0]? = some a := by rfl) (hN1 : Ng[1]? = some n := by rfl) (hva : Vis (defScope st) a := by exact Or.inl rfl) (hln : (defScope st).names.lookup n = some .local := by rfl) (hge : (defScope st).names.lookup e = some .globalImplicit := by rfl)
    (L : LamX.LamS X.env.scope scope := by exact LamX.lamS_by rfl) (hdef : defaultsOf params X.env = ([], []) := by rfl)
    (hbind : ∀ (q : Str) (cl : List (Str × Addr)) (pm cv ctv : Value), bindArgs (PySem.W.kla_fn "<lambda>" q params body scope cl pm cv ctv) ⟨[], []⟩ = pure [] := by intros; rfl)
    (hba : ∀ (X' : Cx) (p5 : Pos), X'.N = Ng → attributeBase (.Name n p5) f X'.env (eval (.Name n p5) X'.env) = eval (.Name n p5) X'.env := by intros; rfl)
    (hg : Gl X x := by rfl) (h0 : ∀ f : Addr, (L2.start Ng [V.ref f])[0]? = some (some (V.ref f)) := by intro f; rfl)
    (hde : (e == ("__debug__" : Str)) = false := by decide) (hdn : (n == ("__debug__" : Str)) = false := by decide) (hcn : (n == ("__classdict__" : Str)) = false := by decide)
    (hdb : (x == ("__debug__" : Str)) = false := by decide) (hd : (a == ("__debug__" : Str)) = false := by decide) (hcd : (a == ("__classdict__" : Str)) = false := by decide) :
    DX X c W (.Call (.Name x p) [.Lambda params body scope lpos] [] pos) (dRef e f ret d) := by
  obtain ⟨⟨oc, od, kV, doc, pm, an, cdv, ct, osl, rfl, lk, hcg⟩, kp⟩ := Fu
  have q := re_ref (c := c) (W := W) (f := f) (ret := ret) (d := d) (fns := fns) (by rw [hK, hmg]; exact T) n0 nH
  exact ⟨_, LamX.pe_lamcall (T := c.T) (TT := TTr CS f ret) (t := fun E => tCan c E d) (k := k) hg hm kp lk hcg hb Sg hN0 hva (by rw [hst]; exact ref_gives T hf Sg.nd hN1 hln hge hde hdn hcn h0 hba) TB hcode hT
    hu hr L hdef hbind (fun A outer s H E f c' hr' => (hbody A outer s H E f c' hr').can) hdb hd hcd, q⟩
/-- THE RULE for a def that makes lambdas -/
theorem fn_denT {P : Program} {w : World} {K : PySem.W.Frag} {mg : Str → Option Value} {base : Heap} {x qual : Str} {st : Stmt} {f cc : Addr} {N ps : List Str} {k : Nat} {oc kV doc pm ct : Value} {od an : Option Addr} {osl : Array (Option Value)} {T : List (Addr × Str)} (io : Bool) (body : DS)
    (lk : K.lookup f = some ⟨oc, od, .func (PySem.W.fnOf x qual (defArgs st) (defBody st) (defScope st) .none kV doc pm an (.ref cc) ct), osl⟩) (hcd : PySem.W.codeIn K (.ref cc) qual = true) (S : FnScope N ps (defScope st)) (hio : io = true → ps ≠ [])
    (hbody : ∀ (A : Around) (outer : List Env) (s : Shared) (H : Hp) (E : XK) (F0 H0 : Hp) (ia : List Addr) (pin : Option V), Room k (A.deeper (envOfC qual (defScope st) s.heap.objs.size f (.ref cc))) → (io = false → pin = none) → (∀ b ps, F0 b ≠ some (.tbl ps)) → (∀ b ps, H0 b ≠ some (.tbl ps)) →
      DSs (cxOf (L2.CX P w) P w K mg base N qual (defScope st) f (.ref cc) A outer s H E) ⟨K, mg, F0, H0, ia, T, pin⟩ E (defBody st) body) :
    FnOk P w K mg base (L2.CX P w) (k + 1) f (PySem.W.fnOf x qual (defArgs st) (defBody st) (defScope st) .none kV doc pm an (.ref cc) ct) ps (spT K mg T io ps.length (runD io N.length body)) := by
  have hNp : ps.length ≤ N.length := by
    have := congrArg List.length S.pre
    rw [List.length_take] at this
    omega
  refine fn_of lk hcd S (fun vs H Q E h => ?_) (fun A outer s H vs Q E hr h => ?_)
  · obtain ⟨_, _, _, h1, _⟩ := h
    exact h1
  · obtain ⟨F, ia, ds, h1, h2, sub, tabs, nF, args, post⟩ := h
    have fin : ∀ (pin : Option V), (pin = match ia with | [] => none | a :: _ => some (.ref a)) → (io = false → pin = none) → ds.length = vs.length →
        R ⟨K, mg, F, hide H, ia, T, pin⟩ F ([] ++ (L2.start N vs).zip (startR io N.length ds)) H → Pin ⟨K, mg, F, hide H, ia, T, pin⟩ (L2.start N vs) →
        ∃ t, PSs (cxOf (L2.CX P w) P w K mg base N qual (defScope st) f (.ref cc) A outer s H E) (defBody st) t ∧ t { nx := fun _ H' => Q .non H', rt := Q } (L2.start N vs) H := by
      intro pin hpin hpn hlen r hp
      obtain ⟨t, p, q⟩ := hbody A outer s H E F (hide H) ia pin hr hpn nF (hide_ntb H)
      refine ⟨t, p, q [] (L2.start N vs) (startR io N.length ds) F H _ ?_ hp r ?_⟩
      · rw [startR_len (by omega)]
        unfold L2.start
        rw [List.length_append, List.length_map, List.length_replicate]
        omega
      · have fin1 : ∀ {F' H'} {cs : Cells}, R ⟨K, mg, F, hide H, ia, T, pin⟩ F' cs H' → FinT T ia F H F' H' := fun {F' H' cs} r' =>
          ⟨r'.grow0, r'.sub, fun b o e nt hi => r'.kept b o (hide_get e nt) hi, r'.tabs, fun b n e => r'.growN b e n, fun b ps h => r'.ntb b ps h⟩
        have io1 : ∀ {F' H'} {σ' : L2.St} {ρ' : Sl} {cs : Cells}, R ⟨K, mg, F, hide H, ia, T, pin⟩ F' (cs ++ σ'.zip ρ') H' → σ'.length = ρ'.length → Pin ⟨K, mg, F, hide H, ia, T, pin⟩ σ' → IoOk K F' H' ia (ρ'.getD 0 .no) := fun {F' H' σ' ρ' cs} r' hl' hp' => by
          cases ia with
          | nil => trivial
          | cons a l =>
            have e0 : σ'[0]? = some (some (.ref a)) := hp' (.ref a) hpin
            show CellOk K F' H' (some (.ref a), ρ'.getD 0 .no)
            cases e : ρ'[0]? with
            | none =>
              have z1 := List.getElem?_eq_none_iff.mp e
              have z2 := (List.getElem?_eq_some_iff.mp e0).1
              omega
            | some s' =>
              have e2 : ρ'.getD 0 .no = s' := by simp [List.getD, e]
              rw [e2]
              cases s' with
              | no => trivial
              | val d =>
                obtain ⟨v, f1, m⟩ := R.slot r' hl' e (by intro z; cases z)
                rw [e0] at f1; cases f1
                exact r'.ok _ m
              | own d =>
                obtain ⟨v, f1, m⟩ := R.slot r' hl' e (by intro z; cases z)
                rw [e0] at f1; cases f1
                exact r'.ok _ m
        unfold runD at post
        cases e : body (startR io N.length ds) with
        | no => rw [e] at post; exact post.elim
        | bk ρ => rw [e] at post; exact post.elim
        | ct ρ => rw [e] at post; exact post.elim
        | nx ρ =>
          rw [e] at post
          exact fun σ' F' H' hl' hp' r' => post .non F' H' (fin1 r') (io1 r' hl' hp') .non
        | rt d ρ =>
          rw [e] at post
          intro v σ' F' H' hl' hp' r'
          exact post v F' H' (fin1 r') (io1 (cs := [(some v, .val d)]) r' hl' hp') (r'.ok _ List.mem_cons_self)
        | ex x ρ =>
          rw [e] at post
          intro cls dd σ' F' H' hl' hp' xr r'
          exact post cls dd F' H' (fin1 r') (io1 (cs := []) r' hl' hp') xr
    cases io with
    | false =>
      have hia : ia = [] := by simpa using h2
      subst hia
      have args : RpA K F vs ds := args
      have hlen := args.len
      refine fin none rfl (fun _ => rfl) hlen.symm ?_ (fun v hv => by cases hv)
      obtain ⟨a, b⟩ := vals_cells (H := H) vs ds (N.length - vs.length) (N.length - ds.length) args
      refine ⟨sub, Same.refl _, fun b h n => absurd h n, fun b o e _ => hide_same H b o e, tabs, fun b ps h => h, a, ?_, ?_⟩
      · show ((L2.start N vs).zip (startR false N.length ds)).filterMap ownA |>.Nodup
        rw [show ((L2.start N vs).zip (startR false N.length ds)).filterMap ownA = [] from b]
        exact List.nodup_nil
      · intro z hz
        rw [show (([] : Cells) ++ (L2.start N vs).zip (startR false N.length ds)).filterMap ownA = [] from b] at hz
        cases hz
    | true =>
      have hia : ∃ a, ia = [a] := by simpa using h2
      obtain ⟨a, rfl⟩ := hia
      obtain ⟨vs', d0, ds', o, rfl, rfl, fa, ha, how, args'⟩ := args
      have hlen := args'.len
      have hl1 : (d0 :: ds').length = (V.ref a :: vs').length := by simp [hlen]
      refine fin (some (.ref a)) rfl (fun z => by cases z) hl1 ?_ (fun v hv => by cases hv; rfl)
      obtain ⟨p, q⟩ := vals_cells (H := H) vs' ds' (N.length - (V.ref a :: vs').length) (N.length - (d0 :: ds').length) args'
      have ez : ([] ++ (L2.start N (V.ref a :: vs')).zip (startR true N.length (d0 :: ds'))) = (some (.ref a), .own d0) :: (vs'.map some ++ List.replicate (N.length - (V.ref a :: vs').length) none).zip (ds'.map SV.val ++ List.replicate (N.length - (d0 :: ds').length) SV.no) := rfl
      rw [ez]
      refine ⟨sub, Same.refl _, fun b h n => absurd h n, fun b o e _ => hide_same H b o e, tabs, fun b ps h => h, fun y hy => ?_, ?_, ?_⟩
      · rcases List.mem_cons.mp hy with rfl | hy
        · exact ⟨fa, o, ha, how⟩
        · exact p y hy
      · show (a :: _).Nodup
        rw [q]
        exact List.nodup_cons.mpr ⟨by simp, List.nodup_nil⟩
      · intro z hz
        rcases List.mem_cons.mp (show z ∈ a :: _ from hz) with rfl | hz
        · exact .inr List.mem_cons_self
        · rw [q] at hz; cases hz
/-- the law's promise, T's tables being empty -/
def spLawT (K : PySem.W.Frag) (T : List (Addr × Str)) : Sp := fun vs H Q E => ∃ (a : Addr) (ns : List Int), vs = [.ref a] ∧ ns.length ≤ 63 ∧ (∀ z ∈ ns, Builtin.Int.intBits z ≤ 1048576) ∧ (∀ p ∈ T, H p.1 = some (.tbl #[])) ∧ SqL K H a (ns.map V.int) ∧ ∀ H', Q (.bl true) H'
theorem law_denT {P : Program} {w : World} {K : PySem.W.Frag} {mg : Str → Option Value} {base : Heap} {x qual : Str} {st : Stmt} {f cc : Addr} {N : List Str} {p : Str} {k : Nat} {oc kV doc pm ct : Value} {od an : Option Addr} {osl : Array (Option Value)} {T : List (Addr × Str)} (body : DS)
    (lk : K.lookup f = some ⟨oc, od, .func (PySem.W.fnOf x qual (defArgs st) (defBody st) (defScope st) .none kV doc pm an (.ref cc) ct), osl⟩) (hcd : PySem.W.codeIn K (.ref cc) qual = true) (S : FnScope N [p] (defScope st)) (hnl : noListB K = true)
    (hden : ∀ ns : List Int, ns.length ≤ 63 → (∀ z ∈ ns, Builtin.Int.intBits z ≤ 1048576) → ∃ ρ, body (startR false N.length [.list (ns.map .int)]) = .rt (.bool true) ρ)
    (hbody : ∀ (A : Around) (outer : List Env) (s : Shared) (H : Hp) (E : XK) (F0 H0 : Hp), Room k (A.deeper (envOfC qual (defScope st) s.heap.objs.size f (.ref cc))) →
      (∀ b ps, F0 b ≠ some (.tbl ps)) → (∀ b ps, H0 b ≠ some (.tbl ps)) → DSs (cxOf (L2.CX P w) P w K mg base N qual (defScope st) f (.ref cc) A outer s H E) ⟨K, mg, F0, H0, [], T, none⟩ E (defBody st) body) :
    FnOk P w K mg base (L2.CX P w) (k + 1) f (PySem.W.fnOf x qual (defArgs st) (defBody st) (defScope st) .none kV doc pm an (.ref cc) ct) [p] (spLawT K T) := by
  refine fn_of lk hcd S (fun vs H Q E h => ?_) (fun A outer s H vs Q E hr h => ?_)
  · obtain ⟨a, ns, rfl, _⟩ := h
    rfl
  · obtain ⟨a, ns, rfl, h1, h2, h3, h4, h5⟩ := h
    have hNp : 1 ≤ N.length := by
      have := congrArg List.length S.pre
      rw [List.length_take] at this
      simp at this
      omega
    obtain ⟨ρ, e⟩ := hden ns h1 h2
    have rd : Rd (hide H) a (.lst (ns.map V.int)) := by
      rcases h4 with h4 | ⟨o, _, _, h4, h5, _⟩
      · rcases h4 with h4 | ⟨o, h4⟩
        · exact .inl (hide_get h4 fun ps z => by cases z)
        · exact .inr ⟨o, hide_get h4 fun ps z => by cases z⟩
      · exact absurd h5 (noList_ok hnl h4)
    obtain ⟨t, pt, q⟩ := hbody A outer s H E (hide H) (hide H) hr (hide_ntb H) (hide_ntb H)
    refine ⟨t, pt, q [] (L2.start N [.ref a]) (startR false N.length [.list (ns.map .int)]) (hide H) H _ ?_ (fun v hv => by cases hv) ?_ ?_⟩
    · rw [startR_len (by simpa using hNp)]
      unfold L2.start
      rw [List.length_append, List.length_map, List.length_replicate]
      simp; omega
    · obtain ⟨u, v⟩ := vals_cells (F := hide H) (H := H) [.ref a] [.list (ns.map .int)] (N.length - 1) (N.length - 1) (.cons (.lst rd (RpA.ints ns)) .nil)
      refine ⟨hide_same H, Same.refl _, fun b h n => absurd h n, fun b o e _ => hide_same H b o e, fun p hp => LamX.TabS.nil (h3 p hp), fun b ps h => h, u, ?_, ?_⟩
      · show (((L2.start N [.ref a]).zip (startR false N.length [.list (ns.map .int)])).filterMap ownA).Nodup
        rw [show ((L2.start N [.ref a]).zip (startR false N.length [.list (ns.map .int)])).filterMap ownA = [] from v]
        exact List.nodup_nil
      · intro z hz
        rw [show (([] : Cells) ++ (L2.start N [.ref a]).zip (startR false N.length [.list (ns.map .int)])).filterMap ownA = [] from v] at hz
        cases hz
    · rw [e]
      intro v σ' F' H' hl' hp' r'
      have q : Rp K F' v (.bool true) := r'.ok _ List.mem_cons_self
      cases q
      exact h5 H'
/-- the end, with what is known of the tables of all the text's defs -/
theorem walk_own {l : PySem.W.OpenLaw} {n k : Nat} {q : Program} {loose : List Str} {XP : (Str → Option Value) → Heap → Prop} {YP : World → Heap → Prop} {d : DefRec} {K : Params → PySem.W.Frag} {CX : World → CXT} {x : Str}
    (hn : l.most = some n) (hz : n ≤ sizeLine) (hdf : d.params.defaults = []) (hr : Room k callerA) (hY : ∀ (w : World) (h : Heap), YP w h → (K w.params).In h)
    (F : ∀ (w : World) (mg : Str → Option Value) (fa : Addr) (h : Heap), YP w h → (K w.params).In h → h.Ns mainGlobals mg → mg d.name = some (.ref fa) → (∀ (y : Str) (fy : Addr), ((recsOf q).any fun e => e.name == y) = true → mg y = some (.ref fy) → LamX.OwnTab (K w.params) fy h) → LamX.LawAtS l w (K w.params) (CX w) k n x mg fa h)
    (hCX : ∀ (w : World) (H : Hp) (s : Shared) (e : Value) (s' : Shared), CX w [] H s (fun _ _ _ => False) e s' → False) :
    PySem.W.WalkO q loose XP YP l.row.toRowW d [] (fun f vs => PySem.call f vs) := by
  refine Att.attach_callB hn hdf fun w s0 s1 mg mb fa ob pm cd doc a vs ns G Y ho hd hcd hmg hobj hints hlen hbits hg => ?_
  have KX := hY w _ Y
  have own : ∀ (y : Str) (fy : Addr), ((recsOf q).any fun e => e.name == y) = true → mg y = some (.ref fy) → LamX.OwnTab (K w.params) fy s1.heap := by
    intro y fy hy hm c P o1 fd1 e dd vs1 sl k1 k2 k3 k4 k5
    obtain ⟨dL, hdL, z⟩ := List.any_eq_true.mp hy
    have z : dL.name = y := beq_iff_eq.mp z
    obtain ⟨a', o', fd', c', P', i1, i2, i3, i4, i5, ⟨oc, vc, e1, _, e3, e4⟩, hP⟩ := G.T.tab dL hdL
    have u1 : fy = a' := by rw [z, hm] at i1; cases i1; rfl
    subst u1
    have u2 : o1 = o' := by have := KX _ _ k1; rw [i2] at this; cases this; rfl
    subst u2
    have u3 : fd1 = fd' := by rw [k2] at i3; cases i3; rfl
    subst u3
    have u4 : c = c' := by rw [k3] at i4; cases i4; rfl
    subst u4
    have u5 := KX _ _ k4
    rw [e1] at u5
    cases u5
    cases e3
    have u6 : P = P' := by rw [k5] at e4; cases e4; rfl
    subst u6
    exact hP
  obtain ⟨fd, cs, sp, w1, w2, w3, w4, w5, w6⟩ := F w mg fa _ Y KX G.T.g hmg own
  exact LamX.law_callTs KX G.T.g G.T.b G.T.builtins G.T.nolimit hg w1 w2 w3 G.T.bmain hobj hints (Nat.le_trans hlen hz) hr w6 w4 (fun H hH hS => w5 H a ns hlen hbits hH hS) fun H e s' => hCX w H s1 e s'
end PD
namespace PD
open PySem PySem.Spec PyProof.Rows L2
/-! ### [..] * n -/
def dRepL (a b : DE) : DE := fun ρ => match daC a (daC b daN) ρ with
  | .ok [.t (.own (.list ds)), .t (.val (.int k))] ρ1 => if 0 ≤ k ∧ k ≤ 100000 ∧ ds.length * k.toNat ≤ 100000 then .ok (.t (.own (.list (List.replicate k.toNat ds).flatten))) ρ1 else .no
  | .ex x ρ1 => .ex x ρ1
  | _ => .no
section
variable {X : Cx} {c : Cfg} {W : XK}
theorem re_repL {ta tb : TE} {a b : DE} (ha : RE c W ta a) (hb : RE c W tb b) : RE c W (tOp rRep ta tb) (dRepL a b) := by
  intro τ σ ρ F H Q hl r h
  unfold dRepL at h
  refine (ra_cons ha (ra_cons hb ra_nil)) τ σ ρ F H (fun vs H2 => r2 rRep vs H2 Q) hl r ?_
  cases e1 : daC a (daC b daN) ρ with
  | no => rw [e1] at h; exact h.elim
  | ex x ρ1 => rw [e1] at h; exact h
  | ok os ρ1 =>
    rw [e1] at h
    intro vs F1 H1 hl1 hh r1
    match os, h, hh, r1 with
    | [.t (.own (.list ds)), .t (.val (.int k))], h, hh, r1 =>
      simp only at h
      split at h
      · rename_i hz
        have hlen := Held.len _ _ hh
        match vs, hlen, r1 with
        | [v1, v2], _, r1 =>
          have r1 : R c F1 ((some v1, .own (.list ds)) :: (some v2, .val (.int k)) :: (τ ++ σ.zip ρ1)) H1 := r1
          have q2 : Rp c.K F1 v2 (.int k) := r1.ok _ (List.mem_cons_of_mem _ List.mem_cons_self)
          cases q2
          have q1 := r1.ok _ List.mem_cons_self
          match v1, q1 with
          | .ref p, ⟨f1, o, f2, f3⟩ =>
            cases f3 with
            | @lst xs _ f3 =>
              refine ⟨p, k, xs, rfl, rfl, f2, by omega, by omega, by rw [f3.len]; exact szl hz.2.2, fun p' hp' => ?_⟩
              have rd := r1.drop.drop
              have g := Grow.new1 (o := .lst (List.replicate k.toNat xs).flatten) r1.sub hp'
              exact h (.ref p') _ _ hl1 (rd.addO g hp' (r1.sub.free hp') upd_same (.lst (f3.rep _)))
      · exact h.elim
    | [], h, _, _ => exact h.elim
    | [_], h, _, _ => simp only at h; exact h.elim
    | _ :: _ :: _ :: _, h, _, _ => simp only at h; exact h.elim
    | [.p _, _], h, _, _ => exact h.elim
    | [.t .no, _], h, _, _ => exact h.elim
    | [.t (.val _), _], h, _, _ => exact h.elim
    | [.t (.own (.none)), _], h, _, _ => exact h.elim
    | [.t (.own (.bool _)), _], h, _, _ => exact h.elim
    | [.t (.own (.int _)), _], h, _, _ => exact h.elim
    | [.t (.own (.str _)), _], h, _, _ => exact h.elim
    | [.t (.own (.tuple _)), _], h, _, _ => exact h.elim
    | [.t (.own (.dict _)), _], h, _, _ => exact h.elim
    | [.t (.own (.list _)), .p _], h, _, _ => exact h.elim
    | [.t (.own (.list _)), .t .no], h, _, _ => exact h.elim
    | [.t (.own (.list _)), .t (.own _)], h, _, _ => exact h.elim
    | [.t (.own (.list _)), .t (.val (.none))], h, _, _ => exact h.elim
    | [.t (.own (.list _)), .t (.val (.bool _))], h, _, _ => exact h.elim
    | [.t (.own (.list _)), .t (.val (.str _))], h, _, _ => exact h.elim
    | [.t (.own (.list _)), .t (.val (.list _))], h, _, _ => exact h.elim
    | [.t (.own (.list _)), .t (.val (.tuple _))], h, _, _ => exact h.elim
    | [.t (.own (.list _)), .t (.val (.dict _))], h, _, _ => exact h.elim
theorem dx_repL {a b : Expr} {da db : DE} {pos : Pos} (ha : DX X c W a da) (hb : DX X c W b db) : DX X c W (.BinOp a .Mult b pos) (dRepL da db) := by
  obtain ⟨ta, pa, ra⟩ := ha
  obtain ⟨tb, pb, rb⟩ := hb
  exact ⟨_, pe_op op_rep pa pb, re_repL ra rb⟩
end
end PD

set_option Elab.async false
set_option linter.all false
set_option maxRecDepth 100000
set_option maxHeartbeats 2000000
/-! PdU: evaluation of extend, zip, list(range), sorted(set), [..] * n, comprehensions that change a slot, two generators. -/
namespace PD
open PySem PySem.Spec PyProof.Rows L2
theorem mExtend_l {ds es : List D} (h : ds.length + es.length ≤ 100000) : mExtend (.list ds) [.list es] = some (.none, .list (ds ++ es)) := by
  unfold mExtend
  simp only
  rw [if_pos h]
def zipPL (ρ : Sl) (xs : List D) : D → IO
  | .list ys => .ok (.dict [(.bool true, .list xs), (.bool true, .list ys)]) (zipD xs ys) ρ
  | _ => .no
@[simp] theorem zipPL_e1 (ρ : Sl) (xs : List D) : zipPL ρ xs (.list ys) = .ok (.dict [(.bool true, .list xs), (.bool true, .list ys)]) (zipD xs ys) ρ := rfl
def zipPT (ρ : Sl) (xs : List D) : D → IO
  | .tuple ys => .ok (.dict [(.bool true, .tuple xs), (.bool true, .tuple ys)]) (zipD xs ys) ρ
  | _ => .no
@[simp] theorem zipPT_e1 (ρ : Sl) (xs : List D) : zipPT ρ xs (.tuple ys) = .ok (.dict [(.bool true, .tuple xs), (.bool true, .tuple ys)]) (zipD xs ys) ρ := rfl
def zipP (ρ : Sl) (y : D) : D → IO
  | .list xs => zipPL ρ xs y
  | .tuple xs => zipPT ρ xs y
  | _ => .no
@[simp] theorem zipP_e1 (ρ : Sl) (y : D) : zipP ρ y (.list xs) = zipPL ρ xs y := rfl
@[simp] theorem zipP_e2 (ρ : Sl) (y : D) : zipP ρ y (.tuple xs) = zipPT ρ xs y := rfl
def zipO : Option (List D × Sl) → IO
  | some ([x, y], ρ) => zipP ρ y x
  | _ => .no
@[simp] theorem zipO_e1 : zipO  (some ([x, y], ρ)) = zipP ρ y x := rfl
def AO.zip : AO → IO
  | .ok os ρ => zipO (frzA ρ os)
  | .ex y ρ => .ex y ρ
  | .no => .no
@[simp] theorem AO.zip_e1 : AO.zip  (.ok oz ρ) = zipO (frzA ρ oz) := rfl
@[simp] theorem AO.zip_e2 : AO.zip  (.ex y ρ) = .ex y ρ := rfl
@[simp] theorem AO.zip_e3 : AO.zip  (.no) = .no := rfl
@[simp] theorem e_dZip (da : DAs) (ρ : Sl) : dZip da ρ = (da ρ).zip := by
  unfold dZip
  cases da ρ with
  | ok os ρ1 =>
    simp only [AO.zip]
    match frzA ρ1 os with
    | none => rfl
    | some ([], ρ2) => rfl
    | some ([_], ρ2) => rfl
    | some (_ :: _ :: _ :: _, ρ2) => rfl
    | some ([x, y], ρ2) => cases x <;> cases y <;> simp [zipO, zipP, zipPL, zipPT]
  | ex x ρ1 => rfl
  | no => rfl
def EO.lr : EO → EO
  | .ok (.t (.val (.int n))) ρ1 => if small n = true then .ok (.t (.own (.list (rangeD 0 n)))) ρ1 else .no
  | .ex x ρ1 => .ex x ρ1
  | _ => .no
@[simp] theorem EO.lr_e1 : EO.lr  (.ok (.t (.val (.int n))) ρ1) = if small n = true then .ok (.t (.own (.list (rangeD 0 n)))) ρ1 else .no := rfl
@[simp] theorem EO.lr_e2 : EO.lr  (.ex x ρ1) = .ex x ρ1 := rfl
@[simp] theorem e_dLR (d : DE) (ρ : Sl) : dLR d ρ = (d ρ).lr := by
  unfold dLR
  match d ρ with
  | .ok (.t (.val (.int n))) ρ1 => rfl
  | .ok (.t (.val (.none))) ρ1 => rfl
  | .ok (.t (.val (.bool _))) ρ1 => rfl
  | .ok (.t (.val (.str _))) ρ1 => rfl
  | .ok (.t (.val (.list _))) ρ1 => rfl
  | .ok (.t (.val (.tuple _))) ρ1 => rfl
  | .ok (.t (.val (.dict _))) ρ1 => rfl
  | .ok (.t (.own _)) ρ1 => rfl
  | .ok (.t .no) ρ1 => rfl
  | .ok (.p _) ρ1 => rfl
  | .ex x ρ1 => rfl
  | .no => rfl
theorem sortSet_ints {ns : List Int} (h : ns.length < 64) : oSortSet [.tuple (ns.map .int)] = .n (.list ((sdI ns).map .int)) := by
  unfold oSortSet
  simp only
  rw [intsOf_map]
  simp only
  rw [if_pos h]
theorem sdI_id {ns : List Int} (h : ns.Pairwise (· < ·)) : sdI ns = ns := up_ext (sdI_up ns) h fun z => sdI_mem
def repO : AO → EO
  | .ok [.t (.own (.list ds)), .t (.val (.int k))] ρ1 => if 0 ≤ k ∧ k ≤ 100000 ∧ ds.length * k.toNat ≤ 100000 then .ok (.t (.own (.list (List.replicate k.toNat ds).flatten))) ρ1 else .no
  | .ex x ρ1 => .ex x ρ1
  | _ => .no
@[simp] theorem repO_e1 : repO  (.ok [.t (.own (.list ds)), .t (.val (.int k))] ρ1) = if 0 ≤ k ∧ k ≤ 100000 ∧ ds.length * k.toNat ≤ 100000 then .ok (.t (.own (.list (List.replicate k.toNat ds).flatten))) ρ1 else .no := rfl
@[simp] theorem repO_e2 : repO  (.ex x ρ1) = .ex x ρ1 := rfl
@[simp] theorem e_dRepL (a b : DE) (ρ : Sl) : dRepL a b ρ = repO (daC a (daC b daN) ρ) := by
  unfold dRepL repO
  rfl
/-! ### comprehensions whose parts change slots -/
def lcStep (dg : DG) (dt : DB) (de : DE) (vs : List Nat) (d : D) (acc : List D) (ρ : Sl) : Option (List D × Sl) := match dg d ρ with
  | some ρ1 => (match dt ρ1 with
    | .ok true ρ2 => (match de ρ2 with
      | .ok o ρ3 => (match frz1 ρ3 o with
        | some (x, ρ4) => if acc.length < 100000 then some (acc ++ [x], wipeR ρ4 vs) else none
        | none => none)
      | _ => none)
    | .ok false ρ2 => some (acc, wipeR ρ2 vs)
    | _ => none)
  | none => none
theorem lcL_step {dg : DG} {dt : DB} {de : DE} {vs : List Nat} {d : D} {ds acc acc' : List D} {ρ ρ' : Sl} (h : lcStep dg dt de vs d acc ρ = some (acc', ρ')) : lcL dg dt de vs (d :: ds) acc ρ = lcL dg dt de vs ds acc' ρ' := by
  unfold lcStep at h
  conv => lhs; unfold lcL
  cases e1 : dg d ρ with
  | none => rw [e1] at h; cases h
  | some ρ1 =>
    rw [e1] at h
    simp only at h ⊢
    cases e2 : dt ρ1 with
    | no => rw [e2] at h; cases h
    | ex x ρ2 => rw [e2] at h; cases h
    | ok b ρ2 =>
      rw [e2] at h
      cases b with
      | false => cases h; rfl
      | true =>
        simp only at h ⊢
        cases e3 : de ρ2 with
        | no => rw [e3] at h; cases h
        | ex x ρ3 => rw [e3] at h; cases h
        | ok o ρ3 =>
          rw [e3] at h
          simp only at h ⊢
          cases e4 : frz1 ρ3 o with
          | none => rw [e4] at h; cases h
          | some p =>
            obtain ⟨x, ρ4⟩ := p
            rw [e4] at h
            simp only at h ⊢
            split at h
            · rename_i hz
              cases h
              rw [if_pos hz]
            · cases h
theorem lcL_ind {dg : DG} {dt : DB} {de : DE} {vs : List Nat} (I : Nat → List D → Sl → Prop) : ∀ (ds acc : List D) (n : Nat) (ρ : Sl), I n acc ρ → (∀ i d acc ρ, ds[i]? = some d → I (n + i) acc ρ → ∃ acc' ρ', lcStep dg dt de vs d acc ρ = some (acc', ρ') ∧ I (n + i + 1) acc' ρ') →
    ∃ acc' ρ', lcL dg dt de vs ds acc ρ = some (acc', ρ') ∧ I (n + ds.length) acc' ρ'
  | [], acc, n, ρ, h, _ => ⟨acc, ρ, rfl, h⟩
  | d :: ds, acc, n, ρ, h, hs => by
    obtain ⟨a1, ρ1, e, h1⟩ := hs 0 d acc ρ rfl h
    obtain ⟨a2, ρ2, e2, h2⟩ := lcL_ind I ds a1 (n + 1) ρ1 h1 fun i d acc ρ hd hI => by
      have := hs (i + 1) d acc ρ (by simpa using hd) (by rw [show n + (i + 1) = n + 1 + i by omega]; exact hI)
      rw [show n + (i + 1) + 1 = n + 1 + i + 1 by omega] at this
      exact this
    refine ⟨a2, ρ2, ?_, ?_⟩
    · rw [lcL_step e, e2]
    · rw [List.length_cons, show n + (ds.length + 1) = n + 1 + ds.length by omega]; exact h2
theorem dLc_ind {di : DI} {vs : List Nat} {dg : DG} {dt : DB} {de : DE} {ρ ρ1 : Sl} {x : D} {ds : List D} (I : Nat → List D → Sl → Prop) (hi : di ρ = .ok x ds ρ1) (h0 : I 0 [] (wipeR ρ1 vs))
    (hs : ∀ i d acc ρ, ds[i]? = some d → I i acc ρ → ∃ acc' ρ', lcStep dg dt de vs d acc ρ = some (acc', ρ') ∧ I (i + 1) acc' ρ') : ∃ acc ρ2, dLc di vs dg dt de ρ = .ok (.t (.own (.list acc))) (restR ρ1 ρ2 vs) ∧ I ds.length acc ρ2 := by
  obtain ⟨acc, ρ2, e, h⟩ := lcL_ind (dg := dg) (dt := dt) (de := de) (vs := vs) I ds [] 0 (wipeR ρ1 vs) h0 fun i d acc ρ hd hI => by
    rw [Nat.zero_add] at hI ⊢
    exact hs i d acc ρ hd hI
  rw [Nat.zero_add] at h
  refine ⟨acc, ρ2, ?_, h⟩
  unfold dLc
  rw [hi]
  simp only
  rw [e]
/-! ### two generators, one name each -/
theorem lcTwo1 {v u : Nat} {di1 : DI} {dt : DB} {de : DE} {ρ0 : Sl} {xs : D → List D} {p : D → D → Bool} {g : D → D → D} (hv : ρ0[v]? = some .no) (hu : ρ0[u]? = some .no) (hvu : v ≠ u) : ∀ (ds acc : List D), acc.length + (ds.flatMap xs).length ≤ 100000 →
    (∀ d ∈ ds, ∃ x, di1 (ρ0.set v (.val d)) = .ok x (xs d) (ρ0.set v (.val d))) →
    (∀ d ∈ ds, ∀ y ∈ xs d, dt ((ρ0.set v (.val d)).set u (.val y)) = .ok (p d y) ((ρ0.set v (.val d)).set u (.val y))) →
    (∀ d ∈ ds, ∀ y ∈ xs d, p d y = true → ∃ o, de ((ρ0.set v (.val d)).set u (.val y)) = .ok o ((ρ0.set v (.val d)).set u (.val y)) ∧ frz1 ((ρ0.set v (.val d)).set u (.val y)) o = some (g d y, (ρ0.set v (.val d)).set u (.val y))) →
    lcTwo (gN v) dYes di1 (gN u) dt de [v, u] [u] ds acc ρ0 = some (acc ++ ds.flatMap fun d => ((xs d).filter (p d)).map (g d), ρ0)
  | [], acc, _, _, _, _ => by simp [lcTwo]
  | d :: ds, acc, hl, h0, h1, h2 => by
    have hv1 : v < ρ0.length := (List.getElem?_eq_some_iff.mp hv).1
    have hu1 : u < ρ0.length := (List.getElem?_eq_some_iff.mp hu).1
    have ev : ρ0[v] = .no := (List.getElem?_eq_some_iff.mp hv).2
    have eu : ρ0[u] = .no := (List.getElem?_eq_some_iff.mp hu).2
    obtain ⟨x, e0⟩ := h0 d List.mem_cons_self
    rw [List.flatMap_cons, List.length_append] at hl
    have w1 : wipeR (ρ0.set v (.val d)) [u] = ρ0.set v (.val d) := by
      rw [wipeR1, List.set_comm _ _ hvu, ← eu, List.set_getElem_self]
    have w2 : wipeR (ρ0.set v (.val d)) [v, u] = ρ0 := by
      simp only [wipeR]
      rw [List.set_comm _ _ hvu, List.set_set]
      conv => lhs; rw [show SV.no = ρ0[u] from eu.symm, List.set_getElem_self, eu.trans ev.symm, List.set_getElem_self]
    have hfl : (((xs d).filter (p d)).map (g d)).length ≤ (xs d).length := by rw [List.length_map]; exact List.length_filter_le _ _
    have q := lcL1 (v := u) (dt := dt) (de := de) (ρ0 := ρ0.set v (.val d)) (p := p d) (g := g d) (by rw [List.getElem?_set_ne hvu]; exact hu) (xs d) acc (by omega) (h1 d List.mem_cons_self) (h2 d List.mem_cons_self)
    rw [lcTwo]
    rw [show gN v d ρ0 = some (ρ0.set v (.val d)) from rfl]
    simp only
    rw [show dYes (ρ0.set v (.val d)) = .ok true (ρ0.set v (.val d)) from rfl]
    simp only
    rw [e0]
    simp only
    rw [w1, q]
    simp only
    rw [w2, lcTwo1 hv hu hvu ds _ (by rw [List.length_append]; omega) (fun d hd => h0 d (List.mem_cons_of_mem _ hd)) (fun d hd => h1 d (List.mem_cons_of_mem _ hd)) (fun d hd => h2 d (List.mem_cons_of_mem _ hd)), List.flatMap_cons, List.append_assoc]
theorem dLcG1 {di di1 : DI} {v u : Nat} {dt : DB} {de : DE} {ρ ρ1 : Sl} {x : D} {ds : List D} {xs : D → List D} {p : D → D → Bool} {g : D → D → D} (hi : di ρ = .ok x ds ρ1) (hv : ρ1[v]? = some .no) (hu : ρ1[u]? = some .no) (hvu : v ≠ u) (hl : (ds.flatMap xs).length ≤ 100000)
    (h0 : ∀ d ∈ ds, ∃ x, di1 (ρ1.set v (.val d)) = .ok x (xs d) (ρ1.set v (.val d)))
    (h1 : ∀ d ∈ ds, ∀ y ∈ xs d, dt ((ρ1.set v (.val d)).set u (.val y)) = .ok (p d y) ((ρ1.set v (.val d)).set u (.val y)))
    (h2 : ∀ d ∈ ds, ∀ y ∈ xs d, p d y = true → ∃ o, de ((ρ1.set v (.val d)).set u (.val y)) = .ok o ((ρ1.set v (.val d)).set u (.val y)) ∧ frz1 ((ρ1.set v (.val d)).set u (.val y)) o = some (g d y, (ρ1.set v (.val d)).set u (.val y))) :
    dLcG di [v, u] (gN v) dYes di1 [u] (gN u) dt de ρ = .ok (.t (.own (.list (ds.flatMap fun d => ((xs d).filter (p d)).map (g d))))) ρ1 := by
  have hv1 : v < ρ1.length := (List.getElem?_eq_some_iff.mp hv).1
  have hu1 : u < ρ1.length := (List.getElem?_eq_some_iff.mp hu).1
  have ev : ρ1[v] = .no := (List.getElem?_eq_some_iff.mp hv).2
  have eu : ρ1[u] = .no := (List.getElem?_eq_some_iff.mp hu).2
  have w2 : wipeR ρ1 [v, u] = ρ1 := by
    simp only [wipeR]
    conv => lhs; rw [show SV.no = ρ1[u] from eu.symm, List.set_getElem_self, eu.trans ev.symm, List.set_getElem_self]
  have w1 : wipeR ρ1 [u] = ρ1 := by
    rw [wipeR1, ← eu, List.set_getElem_self]
  unfold dLcG
  rw [hi]
  simp only
  rw [w2, lcTwo1 (p := p) (g := g) (xs := xs) hv hu hvu ds [] (by simpa using hl) h0 h1 h2]
  simp only [List.nil_append]
  congr 1
  simp only [restR]
  rw [w1, show ρ1.getD v .no = ρ1[v] by simp [List.getD, hv1], List.set_getElem_self, show wipeR ρ1 [] = ρ1 from rfl, show ρ1.getD u .no = ρ1[u] by simp [List.getD, hu1], List.set_getElem_self]
end PD

set_option Elab.async false
set_option linter.all false
set_option maxRecDepth 100000
set_option maxHeartbeats 4000000
/-! PdV: set(a list of numbers), sorted(set(..)) of a list. -/
namespace PD
open PySem PySem.Spec PyProof.Rows L2
section
variable {P : Program} {w : World} {A : Around} {E : Value → Shared → Prop} {s : Shared}
/-- the new empty set -/
abbrev sObj (w : World) : Obj := { cls := .type "set", dict := none, data := .set #[] 0 (.fresh 0 0 (!w.params.followText "set-order")) }
/-- what is there once the numbers are in -/
def SGot (w : World) (s : Shared) (ns : List Int) (s' : Shared) : Prop := ∃ (g : Heap) (tk c : Nat), s' = { s with heap := g, toks := tk } ∧ SetR w g s.heap.objs.size (fun j => decide (j ∈ ns)) c ∧ c ≤ ns.length ∧ ∀ b o, s.heap.get? b = some o → g.get? b = some o
theorem setL_fill {B : Around} {R : Result → Shared → Prop} {l : Addr} {items : Array Value} {ns : List Int} (quiet : B.handled = none) (isl : s.heap.IsList l items) (nums : IntsAre items.toList ns) (room : ns.length + 1 < scanBound)
    (k : ∀ t, SGot w s ns t → R (.ok (.ret .none)) t) :
    wpAny (model P w) B.in1 (Builtin.«set.__init__» ⟨[.ref s.heap.objs.size, .ref l], []⟩) (fun fin t => match fin with
      | .done f => R (.ok f) t
      | .again c => c.quiet = true ∧ codeAny (model P w) B c R t) (fun e t => R (.error e) t) { s with heap := s.heap.push (sObj w) } := by
  have many : items.size = ns.length := by rw [← Array.length_toList]; exact IntsAre.length nums
  obtain ⟨lo, at_l, is_l, m, body⟩ := isl
  obtain ⟨lc, ld, lb, ls⟩ := lo
  obtain rfl : lc = .type "list" := is_l
  obtain rfl : lb = .seq items m := body
  have z : (s.heap.push (sObj w)).objs.size = s.heap.objs.size + 1 := Heap.size_push ..
  have below : l < s.heap.objs.size := Heap.lt_size at_l
  have at_S : (s.heap.push (sObj w)).get? s.heap.objs.size = some (sObj w) := Heap.get?_push_size _ rfl
  have at_l' : (s.heap.push (sObj w)).get? l = some { cls := .type "list", dict := ld, data := .seq items m, slots := ls } := Heap.get?_push_of_some _ at_l
  have still : (s.heap.push (sObj w)).IsList l items := ⟨_, at_l', rfl, m, rfl⟩
  have o1 : l ≠ (s.heap.push (sObj w)).objs.size := Nat.ne_of_lt (by rw [z]; exact Nat.lt_succ_of_lt below)
  have o2 : s.heap.objs.size ∉ [(s.heap.push (sObj w)).objs.size, l] := by
    intro hm
    rcases List.mem_cons.mp hm with e | hm
    · exact Nat.ne_of_lt (by rw [z]; exact Nat.lt_succ_self _) e
    · exact Nat.ne_of_gt below (List.mem_singleton.mp hm)
  have n1 := F.sub_list_set
  have n2 := F.sub_list_frozenset
  have n3 : (Value.type "list" == Value.type "dict") = false := by decide
  have each : ∀ (i : Nat) (v : Value), items[i]? = some v → ∃ k t, ns[i]? = some k ∧ v = .int k t := fun i v hv => by
    have hi : i < ns.length := many ▸ (Array.getElem?_eq_some_iff.mp hv).1
    obtain ⟨t, e⟩ := IntsAre.int_at nums i v (by rw [Array.getElem?_toList]; exact hv)
    exact ⟨ns[i], t, List.getElem?_eq_getElem hi, by rw [e, List.getD_eq_getElem?_getD, List.getElem?_eq_getElem hi] <;> rfl⟩
  unfold Builtin.«set.__init__» noKeywords Builtin.Frozenset.updateFrom
  generalize hit : pyIter = iter
  wp_walk
  subst hit
  refine wpAny_pyIter_list still (wpAny_bind (wpAny_runValue ?_))
  refine set_update_ints ((Walks.list (by simp [quiet]) _ l o1 items).toS) s.heap.objs.size o2 ns many room each items.size 0 _ (by omega) (Nat.zero_le _) ⟨⟨_, Heap.get?_push_size _ rfl, rfl, rfl⟩, still.push _⟩ ⟨0, Nat.le_refl 0, setR_new_at (Heap.get?_push_of_some _ at_S)⟩ fun t c mv hc got => ?_
  obtain ⟨g, gg, dd, tk, oo⟩ := t
  obtain rfl : gg = s.gens := mv.gens
  obtain rfl : dd = s.drawn := mv.drawn
  obtain rfl : oo = s.os := mv.os
  show wpAny _ _ _ _ _ _
  refine wpAny_pure ?_
  show wpAny _ _ (ret Value.none) _ _ _
  refine wpAny_pure (k _ ⟨g, tk, c, rfl, got, many ▸ hc, fun b o e => ?_⟩)
  have hb : b < s.heap.objs.size := Heap.lt_size e
  refine mv.heap b o (fun hm => ?_) (Heap.get?_push_of_some _ (Heap.get?_push_of_some _ e))
  simp only [List.mem_cons, List.not_mem_nil, or_false] at hm
  rcases hm with e1 | e1
  · exact Nat.ne_of_lt hb e1
  · exact Nat.ne_of_lt (by rw [z]; exact Nat.lt_succ_of_lt hb) e1
theorem setL_call {l : Addr} {items : Array Value} {ns : List Int} {Q : Value → Shared → Prop} (quiet : A.handled = none) (isl : s.heap.IsList l items) (nums : IntsAre items.toList ns) (room : ns.length + 1 < scanBound)
    (k : ∀ s', SGot w s ns s' → Q (.ref s.heap.objs.size) s') : wpAny (model P w) A (call (.type "set") [.ref l]) Q E s := by
  obtain ⟨cc, rest, way⟩ := F.called_set.mro
  have u1 := F.called_set.made
  have u2 := F.called_set.sub
  have u3 := F.called_set.notType
  have u4 := F.called_set.canCreate
  have u5 := F.typeCall_set_1 (.ref l)
  have u6 := F.called_set.init.lookup
  refine wpAny_call (codeAny_of_tree ?_)
  show wpAny _ _ (callAny (.type "set") _) _ _ _
  refine wpAny_pure ⟨Code.quiet_builtin _ (by decide +kernel), codeAny_builtin F.entry_type_call ?_⟩
  rw [Around.under_plain (weight_type_call_type "set" [.ref l] []) rfl]
  repeat (any_goals (first | assumption | wp_step))
  refine codeAny_mono (code_set_led1 (.ref l) (E := E) (Q₁ := fun o t => o = .ref s.heap.objs.size ∧ t = { s with heap := s.heap.push (sObj w) }) ⟨rfl, rfl⟩) fun r t hr => ?_
  rcases r with e | f
  · exact hr
  · cases f with
    | ret o =>
      obtain ⟨rfl, rfl⟩ := hr
      have there : (s.heap.push (sObj w)).get? s.heap.objs.size = some (sObj w) := Heap.get?_push_size _ rfl
      have ty : Shared.TypeIs { s with heap := s.heap.push (sObj w) } (.ref s.heap.objs.size) "set" := ⟨_, there, rfl⟩
      have u7 := F.called_set.init.bind (.ref s.heap.objs.size)
      repeat (any_goals (first | assumption | wp_step))
      refine codeAny_mono (codeAny_call_builtin (R := wants (fun r t => r = .none ∧ SGot w s ns t) E) F.called_set.init.plain F.entry_set_init (check_set_init_1 ty ?_)) fun r t hr => ?_
      · exact setL_fill (by simp [quiet]) isl nums room fun t ht => ⟨rfl, ht⟩
      · rcases r with e | f
        · exact hr
        · cases f with
          | ret o =>
            obtain ⟨rfl, got⟩ := hr
            repeat (any_goals (first | assumption | wp_step))
            exact k _ got
          | _ => exact hr.elim
    | _ => exact hr.elim
end
section
variable {X : Cx} {c : Cfg} {W : XK} {F H : Hp}
def rSetLI (K : PySem.W.Frag) (w : World) : List V → Hp → VK → Prop := fun vs H Q => ∃ (a : Addr) (ns : List Int), vs = [.ref a] ∧ SqL K H a (ns.map V.int) ∧ ns.length ≤ 1000 ∧ ∀ p n, H p = none → n ≤ ns.length → Q (.ref p) (upd H p (SetO w p (fun j => decide (j ∈ ns)) n))
theorem cr_setLI (hc : X.calm = true) : CallR X (.type "set") (rSetLI X.K X.w) := by
  intro pins s σ H vs us Q I r h
  obtain ⟨a, ns, rfl, hs, hz, q⟩ := h
  obtain rfl := Vals.ref1 r
  obtain ⟨its, rv, ⟨o, n0, e, ocl, _, od⟩, _⟩ := I.list hs
  refine setL_call (I.ok.hd hc) ⟨o, e, ocl, n0, od⟩ rv.ints (by have : scanBound = 2 ^ 20 ∨ True := .inr trivial; unfold scanBound; omega) fun t got => ?_
  obtain ⟨g, tk, n, rfl, R, hn, k⟩ := got
  exact ⟨.ref s.heap.objs.size, _, I.laid (o := SetO X.w s.heap.objs.size (fun j => decide (j ∈ ns)) n) (t' := tk) k (Nat.le_refl _) (setO_new R), rfl, q _ n (I.hok.fresh (Nat.le_refl _)) hn⟩
def oSortSetL : List D → VO
  | [.list ds] => (match intsOf ds with
    | some ns => if ns.length < 64 then .n (.list ((sdI ns).map .int)) else .no
    | none => .no)
  | _ => .no
def rSortSetL (K : PySem.W.Frag) (w : World) : List V → Hp → VK → Prop := fun vs H Q => rSetLI K w vs H fun u H2 => rSortedSet w [u] H2 Q
theorem vok_sortSetL : VOk c.K (rSortSetL c.K X.w) oSortSetL := by
  intro F H vs ds Q s rr hp
  unfold oSortSetL at hp
  split at hp
  · rename_i ds
    cases rr with
    | cons h1 h2 =>
      cases h2
      obtain ⟨a, xs, rfl, h1, q⟩ := h1.lst s
      cases e : intsOf ds with
      | none => rw [e] at hp; exact hp.elim
      | some ns =>
        rw [e] at hp
        simp only at hp
        have := intsOf_ok q e
        subst this
        split at hp
        · rename_i hz
          refine ⟨a, ns, rfl, .inl h1, by omega, fun p n hp0 hn => ⟨p, _, n, rfl, upd_same, by omega, fun ms p' hup hmem hlen hp' => ?_⟩⟩
          have e1 : ms = sdI ns := up_ext hup (sdI_up ns) fun z => by rw [hmem z, sdI_mem]; simp
          subst e1
          have g1 := Grow.new1 (o := SetO X.w p (fun j => decide (j ∈ ns)) n) s hp0
          have g2 := Grow.new1 (o := .lst ((sdI ns).map V.int)) g1.sub hp'
          have hpp : H p' = none := by
            by_cases hb : p' = p
            · rw [hb]; exact hp0
            · rw [upd_ne hb] at hp'; exact hp'
          exact hp p' _ _ _ (g1.trans g2) hpp (s.free hpp) upd_same (.lst (rp_ints _))
        · exact hp.elim
  · exact hp.elim
/-- a tuple of numbers or a list -/
def oSortSetA : List D → VO := vOr oSortSet oSortSetL
theorem cr_sset (hc : X.calm = true) : CallR X (.type "set") (fun vs H Q => rSetTI X.K X.w vs H Q ∨ rSetLI X.K X.w vs H Q) := fun pins s σ H vs us Q I r h =>
  h.elim (cr_setTI hc pins s σ H vs us Q I r) (cr_setLI hc pins s σ H vs us Q I r)
theorem dx_sortSetA {e : Expr} {d : DE} {p p2 pos pos2 : Pos} (hK : c.K = X.K) (hm : X.mg "sorted" = none) (hm2 : X.mg "set" = none) (he : DX X c W e d) (hc : X.calm = true) (hg : Gl X "sorted" := by rfl) (hg2 : Gl X "set" := by rfl)
    (na : starEach [e] X.env = (false, eval e X.env) :: starEach [] X.env := by rfl) (nb : starEach [.Call (.Name "set" p2) [e] [] pos2] X.env = (false, eval (.Call (.Name "set" p2) [e] [] pos2) X.env) :: starEach [] X.env := by rfl) :
    DX X c W (.Call (.Name "sorted" p) [.Call (.Name "set" p2) [e] [] pos2] [] pos) (dOp oSortSetA (daC d daN)) := by
  obtain ⟨t, q, r⟩ := he
  have k := re_op ((vok_sortSet (X := X)).or (vok_sortSetL (X := X))) (ra_cons r ra_nil)
  rw [hK] at k
  exact ⟨_, pe_callB (cr_sortedSet hc) hg hm (by decide +kernel) (pa_cons (pe_callTy (cr_sset hc) hg2 hm2 (by decide +kernel) (pa_cons q pa_nil na) (by decide) (by decide) na rfl) pa_nil nb) (by decide) (by decide) nb rfl, fun τ σ ρ F H Q hl r' h => (k τ σ ρ F H Q hl r' h)⟩
theorem sortSetA_t {ns : List Int} (h : ns.length < 64) : oSortSetA [.tuple (ns.map .int)] = .n (.list ((sdI ns).map .int)) := by
  unfold oSortSetA vOr
  rw [sortSet_ints h]
theorem sortSetA_l {ns : List Int} (h : ns.length < 64) : oSortSetA [.list (ns.map .int)] = .n (.list ((sdI ns).map .int)) := by
  unfold oSortSetA vOr
  simp only [oSortSet, oSortSetL]
  rw [intsOf_map]
  simp only
  rw [if_pos h]
end
end PD

set_option Elab.async false
set_option linter.all false
set_option maxRecDepth 100000
set_option maxHeartbeats 4000000
/-! PdW: list(a dict with numbers as keys), sorted(a list of numbers). -/
namespace PD
open PySem PySem.Spec PyProof.Rows L2
section
variable {X : Cx} {c : Cfg} {W : XK} {F H : Hp} {K : PySem.W.Frag}
def oListD : List D → VO
  | [.dict es] => (match intsOf (es.map (·.1)) with
    | some ns => .n (.list (ns.map .int))
    | none => .no)
  | _ => .no
theorem keysI {kvs : List (Key × V)} {es : List (D × D)} {ns : List Int} (h : es.map (·.1) = kvs.map fun p => kD p.1) (e : intsOf (es.map (·.1)) = some ns) : (kvs.map fun kv => kV kv.1) = ns.map V.int := by
  rw [h] at e
  clear h
  induction kvs generalizing ns with
  | nil => cases e; rfl
  | cons kv kvs ih =>
    obtain ⟨k, v⟩ := kv
    cases k with
    | inl i =>
      change (match intsOf (kvs.map fun p => kD p.1) with
        | some bs => some (i :: bs)
        | none => none) = some ns at e
      cases q : intsOf (kvs.map fun p => kD p.1) with
      | none => rw [q] at e; cases e
      | some bs =>
        rw [q] at e
        cases e
        rw [List.map_cons, ih q]
        rfl
    | inr x =>
      change none = some ns at e
      cases e
def rListDK : List V → Hp → VK → Prop := fun xs H Q => ∃ (a : Addr) (kvs : List (Key × V)), xs = [.ref a] ∧ Rd H a (.dK kvs) ∧ ∀ p, H p = none → Q (.ref p) (upd H p (.lst (kvs.map fun kv => kV kv.1)))
theorem cr_listDK (hc : X.calm = true) : CallR X (.type "list") rListDK := call_listD hc
theorem vok_listD : VOk K rListDK oListD := by
  intro F H vs ds Q s rr hp
  unfold oListD at hp
  split at hp
  · rename_i es
    cases rr with
    | cons h1 h2 =>
      cases h2
      obtain ⟨a, rfl, hd⟩ := h1.dict s
      cases e : intsOf (es.map (·.1)) with
      | none => rw [e] at hp; exact hp.elim
      | some ns =>
        rw [e] at hp
        rcases hd with ⟨kvs, h1, h2⟩ | ⟨kvs, es', he, _, _⟩
        · have q := keysI h2.1 e
          exact ⟨a, kvs, rfl, h1, fun p hp' => by rw [q]; exact PostV.lst s hp (RpA.ints ns) hp'⟩
        · rw [he] at e
          simp [intsOf] at e
  · exact hp.elim
/-- in order, each as often as it is there -/
def insL (z : Int) : List Int → List Int
  | [] => [z]
  | y :: ys => if z ≤ y then z :: y :: ys else y :: insL z ys
def stI (ns : List Int) : List Int := ns.foldr insL []
theorem insL_perm (z : Int) : ∀ l : List Int, (insL z l).Perm (z :: l)
  | [] => .refl _
  | y :: ys => by
    unfold insL
    split
    · exact .refl _
    · exact ((insL_perm z ys).cons y).trans (.swap z y ys)
theorem stI_perm : ∀ l : List Int, (stI l).Perm l
  | [] => .refl _
  | z :: l => (insL_perm z (stI l)).trans ((stI_perm l).cons z)
theorem insL_up {z : Int} : ∀ {l : List Int}, l.Pairwise (· ≤ ·) → (insL z l).Pairwise (· ≤ ·)
  | [], _ => by simp [insL]
  | y :: ys, h => by
    obtain ⟨h1, h2⟩ := List.pairwise_cons.mp h
    unfold insL
    split
    · rename_i hz
      exact List.pairwise_cons.mpr ⟨fun x hx => by
        rcases List.mem_cons.mp hx with e | e
        · rw [e]; exact hz
        · have := h1 x e; omega, h⟩
    · rename_i hz
      exact List.pairwise_cons.mpr ⟨fun x hx => by
        rcases List.mem_cons.mp ((insL_perm z ys).mem_iff.mp hx) with e | e
        · omega
        · exact h1 x e, insL_up h2⟩
theorem stI_up : ∀ l : List Int, (stI l).Pairwise (· ≤ ·)
  | [] => .nil
  | z :: l => insL_up (stI_up l)
theorem sorted_ext : ∀ {l m : List Int}, l.Pairwise (· ≤ ·) → m.Pairwise (· ≤ ·) → l.Perm m → l = m
  | [], m, _, _, h => (List.nil_perm.mp h).symm ▸ rfl
  | x :: l, [], _, _, h => by have := h.length_eq; simp at this
  | x :: l, y :: m, hl, hm, h => by
    obtain ⟨l1, l2⟩ := List.pairwise_cons.mp hl
    obtain ⟨m1, m2⟩ := List.pairwise_cons.mp hm
    have e : x = y := by
      rcases List.mem_cons.mp (h.mem_iff.mp List.mem_cons_self) with e | e
      · exact e
      · rcases List.mem_cons.mp (h.mem_iff.mpr List.mem_cons_self) with e' | e'
        · exact e'.symm
        · have := m1 x e; have := l1 y e'; omega
    subst e
    rw [sorted_ext l2 m2 h.cons_inv]
def oSorted : List D → VO
  | [.list ds] => (match intsOf ds with
    | some ns => .n (.list ((stI ns).map .int))
    | none => .no)
  | _ => .no
theorem vok_sorted : VOk K (rSortedI K) oSorted := by
  intro F H vs ds Q s rr hp
  unfold oSorted at hp
  split at hp
  · rename_i ds
    cases rr with
    | cons h1 h2 =>
      cases h2
      obtain ⟨a, xs, rfl, h1, q⟩ := h1.lst s
      cases e : intsOf ds with
      | none => rw [e] at hp; exact hp.elim
      | some ns =>
        rw [e] at hp
        have := intsOf_ok q e
        subst this
        refine ⟨a, ns, rfl, .inl h1, fun ms p hpm hup hp' => ?_⟩
        have e1 : ms = stI ns := sorted_ext hup (stI_up ns) (hpm.trans (stI_perm ns).symm)
        subst e1
        exact PostV.lst s hp (RpA.ints _) hp'
  · exact hp.elim
theorem oListD_i {es : List (D × D)} {ns : List Int} (h : es.map (·.1) = ns.map .int) : oListD [.dict es] = .n (.list (ns.map .int)) := by
  unfold oListD
  simp only
  rw [h, intsOf_map]
theorem oSorted_i (ns : List Int) : oSorted [.list (ns.map .int)] = .n (.list ((stI ns).map .int)) := by
  unfold oSorted
  simp only
  rw [intsOf_map]
end
end PD

set_option Elab.async false
set_option linter.all false
set_option maxRecDepth 100000
set_option maxHeartbeats 4000000
/-! PdX: sorted(set(xs)) where xs is long but has few different numbers. -/
namespace PD
open PySem PySem.Spec PyProof.Rows L2
theorem nodup_same : ∀ {l m : List Int}, l.Nodup → m.Nodup → (∀ z, z ∈ l ↔ z ∈ m) → l.length = m.length
  | [], [], _, _, _ => rfl
  | [], y :: m, _, _, h => absurd ((h y).mpr List.mem_cons_self) (by simp)
  | x :: l, m, hl, hm, h => by
    obtain ⟨l1, l2⟩ := List.nodup_cons.mp hl
    have hx : x ∈ m := (h x).mp List.mem_cons_self
    have q := nodup_same (l := l) (m := m.erase x) l2 (hm.erase x) fun z => by
      rw [hm.mem_erase_iff]
      constructor
      · intro hz
        exact ⟨fun e => l1 (e ▸ hz), (h z).mp (List.mem_cons_of_mem _ hz)⟩
      · rintro ⟨hn, hz⟩
        rcases List.mem_cons.mp ((h z).mpr hz) with e | e
        · exact absurd e hn
        · exact e
    have := List.length_erase_of_mem hx
    have hpos := List.length_pos_of_mem hx
    simp only [List.length_cons]
    omega
theorem sdI_nodup (ns : List Int) : (sdI ns).Nodup := (sdI_up ns).imp fun h e => by omega
theorem setR_card {w : World} {h : Heap} {a : Addr} {ns : List Int} {n : Nat} (R : SetR w h a (fun j => decide (j ∈ ns)) n) : n = (sdI ns).length := by
  obtain ⟨o, es, ep, t, _, _, _, _, nd, hm, _, _, hn, _⟩ := R
  rw [← hn, ← Array.length_toList, ← List.length_map (f := keyOf)]
  refine nodup_same nd (sdI_nodup ns) fun z => ?_
  rw [← hm z, sdI_mem]
  simp
section
variable {X : Cx} {c : Cfg} {W : XK} {F H : Hp}
/-- set(xs), its number told -/
def rSetN (K : PySem.W.Frag) (w : World) : List V → Hp → VK → Prop := fun vs H Q => ∃ (a : Addr) (ns : List Int), vs = [.ref a] ∧ (SqL K H a (ns.map V.int) ∨ SqT K H a (ns.map V.int)) ∧ ns.length ≤ 4000 ∧ ∀ p, H p = none → Q (.ref p) (upd H p (SetO w p (fun j => decide (j ∈ ns)) (sdI ns).length))
theorem cr_setN (hc : X.calm = true) : CallR X (.type "set") (rSetN X.K X.w) := by
  intro pins s σ H vs us Q I r h
  obtain ⟨a, ns, rfl, hs, hz, q⟩ := h
  obtain rfl := Vals.ref1 r
  have room : ns.length + 1 < scanBound := by unfold scanBound; omega
  rcases hs with hs | hs
  · obtain ⟨its, rv, ⟨o, n0, e, ocl, _, od⟩, _⟩ := I.list hs
    refine setL_call (I.ok.hd hc) ⟨o, e, ocl, n0, od⟩ rv.ints room fun t got => ?_
    obtain ⟨g, tk, n, rfl, R, _, k⟩ := got
    have hn := setR_card R
    subst hn
    exact ⟨.ref s.heap.objs.size, _, I.laid (o := SetO X.w s.heap.objs.size (fun j => decide (j ∈ ns)) (sdI ns).length) (t' := tk) k (Nat.le_refl _) (setO_new R), rfl, q _ (I.hok.fresh (Nat.le_refl _))⟩
  · obtain ⟨its, rv, ⟨o, ho, hcl, m, hd⟩, _⟩ := I.tuple hs
    refine call_set_tupI ns (I.ok.hd hc) ⟨o, ho, hcl, m, hd⟩ rv.ints room fun h' tk n R _ k => ?_
    have hn := setR_card R
    subst hn
    exact ⟨.ref s.heap.objs.size, _, I.laid (o := SetO X.w s.heap.objs.size (fun j => decide (j ∈ ns)) (sdI ns).length) (t' := tk) k (Nat.le_refl _) (setO_new R), rfl, q _ (I.hok.fresh (Nat.le_refl _))⟩
def seqD : D → Option (List D)
  | .list ds => some ds
  | .tuple ds => some ds
  | _ => none
def oSortSetN : List D → VO
  | [d] => (match (seqD d).bind intsOf with
    | some ns => if ns.length ≤ 4000 ∧ (sdI ns).length < 64 then .n (.list ((sdI ns).map .int)) else .no
    | none => .no)
  | _ => .no
def rSortSetN (K : PySem.W.Frag) (w : World) : List V → Hp → VK → Prop := fun vs H Q => rSetN K w vs H fun u H2 => rSortedSet w [u] H2 Q
theorem vok_sortSetN : VOk c.K (rSortSetN c.K X.w) oSortSetN := by
  intro F H vs ds Q s rr hp
  unfold oSortSetN at hp
  split at hp
  · rename_i d
    cases rr with
    | cons h1 h2 =>
      cases h2
      have fin : ∀ (a : Addr) (ns : List Int), (SqL c.K H a (ns.map V.int) ∨ SqT c.K H a (ns.map V.int)) → ns.length ≤ 4000 ∧ (sdI ns).length < 64 → PostV c.K F H Q (.n (.list ((sdI ns).map .int))) → rSortSetN c.K X.w [.ref a] H Q := by
        intro a ns hs hz hp
        refine ⟨a, ns, rfl, hs, hz.1, fun p hp0 => ⟨p, _, _, rfl, upd_same, hz.2, fun ms p' hup hmem hlen hp' => ?_⟩⟩
        have e1 : ms = sdI ns := up_ext hup (sdI_up ns) fun z => by rw [hmem z, sdI_mem]; simp
        subst e1
        have g1 := Grow.new1 (o := SetO X.w p (fun j => decide (j ∈ ns)) (sdI ns).length) s hp0
        have g2 := Grow.new1 (o := .lst ((sdI ns).map V.int)) g1.sub hp'
        have hpp : H p' = none := by
          by_cases hb : p' = p
          · rw [hb]; exact hp0
          · rw [upd_ne hb] at hp'; exact hp'
        exact hp p' _ _ _ (g1.trans g2) hpp (s.free hpp) upd_same (.lst (rp_ints _))
      cases d with
      | list ds =>
        obtain ⟨a, xs, rfl, h1, q⟩ := h1.lst s
        simp only [seqD, Option.bind_some] at hp
        cases e : intsOf ds with
        | none => rw [e] at hp; exact hp.elim
        | some ns =>
          rw [e] at hp
          simp only at hp
          have := intsOf_ok q e
          subst this
          split at hp
          · rename_i hz
            exact fin a ns (.inl (.inl h1)) hz hp
          · exact hp.elim
      | tuple ds =>
        obtain ⟨a, xs, rfl, h1, q⟩ := h1.tup s
        simp only [seqD, Option.bind_some] at hp
        cases e : intsOf ds with
        | none => rw [e] at hp; exact hp.elim
        | some ns =>
          rw [e] at hp
          simp only at hp
          have := intsOf_ok q e
          subst this
          split at hp
          · rename_i hz
            exact fin a ns (.inr h1) hz hp
          · exact hp.elim
      | _ => exact hp.elim
  · exact hp.elim
theorem dx_sortSetN {e : Expr} {d : DE} {p p2 pos pos2 : Pos} (hK : c.K = X.K) (hm : X.mg "sorted" = none) (hm2 : X.mg "set" = none) (he : DX X c W e d) (hc : X.calm = true) (hg : Gl X "sorted" := by rfl) (hg2 : Gl X "set" := by rfl)
    (na : starEach [e] X.env = (false, eval e X.env) :: starEach [] X.env := by rfl) (nb : starEach [.Call (.Name "set" p2) [e] [] pos2] X.env = (false, eval (.Call (.Name "set" p2) [e] [] pos2) X.env) :: starEach [] X.env := by rfl) :
    DX X c W (.Call (.Name "sorted" p) [.Call (.Name "set" p2) [e] [] pos2] [] pos) (dOp oSortSetN (daC d daN)) := by
  obtain ⟨t, q, r⟩ := he
  have k := re_op (vok_sortSetN (X := X)) (ra_cons r ra_nil)
  rw [hK] at k
  exact ⟨_, pe_callB (cr_sortedSet hc) hg hm (by decide +kernel) (pa_cons (pe_callTy (cr_setN hc) hg2 hm2 (by decide +kernel) (pa_cons q pa_nil na) (by decide) (by decide) na rfl) pa_nil nb) (by decide) (by decide) nb rfl, k⟩
theorem sortSetN_t {ns : List Int} (h : ns.length ≤ 4000) (h2 : (sdI ns).length < 64) : oSortSetN [.tuple (ns.map .int)] = .n (.list ((sdI ns).map .int)) := by
  simp only [oSortSetN, seqD, Option.bind_some, intsOf_map]
  rw [if_pos ⟨h, h2⟩]
theorem sortSetN_l {ns : List Int} (h : ns.length ≤ 4000) (h2 : (sdI ns).length < 64) : oSortSetN [.list (ns.map .int)] = .n (.list ((sdI ns).map .int)) := by
  simp only [oSortSetN, seqD, Option.bind_some, intsOf_map]
  rw [if_pos ⟨h, h2⟩]
end
end PD

set_option Elab.async false
set_option linter.all false
set_option maxRecDepth 100000
set_option maxHeartbeats 4000000
/-! G: the defs of the row (printed by gen.py). -/
namespace G
open PySem PySem.Spec PyProof.Rows L2 PD
def top (i : Nat) : Stmt := PySem.Challenge.pw_beamboards_k23_whole_blocked_cells.main.body.getD i (.Pass ⟨0, 0, 0, 0⟩)
def g_MOST_SIDE : D := (.int 8)
def g_MOST_PARTERS : D := (.int 8)
def g_EMPTY : D := (.int 0)
def g_SLASH : D := (.int 1)
def g_END : D := (.int 3)
def g_PART_SLASH : D := (.int 4)
def g_PART_BACKSLASH : D := (.int 5)
def g_UP : D := (.int 0)
def g_RIGHT : D := (.int 1)
def g_DOWN : D := (.int 2)
def g_LEFT : D := (.int 3)
def g_BY_SLASH : D := (.tuple [(.int 1), (.int 0), (.int 3), (.int 2)])
def gt_BY_SLASH : List D := [(.int 1), (.int 0), (.int 3), (.int 2)]
def g_BY_BACKSLASH : D := (.tuple [(.int 3), (.int 2), (.int 1), (.int 0)])
def gt_BY_BACKSLASH : List D := [(.int 3), (.int 2), (.int 1), (.int 0)]
def g_MOST_BLOCKS : D := (.int 3)
/-! ### _law_taken -/
def N__law_taken : List Str := ["row", "many", "found", "cell"]
def den__law_taken : DS :=
  (sSeq (sIf (dTst (dOp oGt (daC (dOp oIx (daC (dV 0) (daC (dC (.int 3)) daN))) (daC (dC (.int 0)) daN))))
  (sSeq (sSet 2 (dOp oMod (daC (dOp oInt (daC (dOp oIx (daC (dV 0) (daC (dC (.int 3)) daN))) daN)) (daC (dV 1) daN))))
  (sSeq (sIxL 0 (dOp oDiv (daC (dOp oIx (daC (dV 0) (daC (dC (.int 3)) daN))) (daC (dV 1) daN))) (dC (.int 3)))
  (sRet (dV 2))))
  sNil)
  (sSeq (sIxL 0 (dOp oAdd (daC (dOp oIx (daC (dV 0) (daC (dC (.int 1)) daN))) (daC (dC (.int 1)) daN))) (dC (.int 1)))
  (sSeq (sIf (dTst (dOp oGt (daC (dOp oIx (daC (dV 0) (daC (dC (.int 1)) daN))) (daC (dOp oLen (daC (dOp oIx (daC (dV 0) (daC (dC (.int 0)) daN))) daN)) daN))))
  (sSeq (sIxL 0 (dOp oMod (daC (dOp oInt (daC (dOp oAdd (daC (dOp oMul (daC (dOp oIx (daC (dV 0) (daC (dC (.int 2)) daN))) (daC (dC (.int 48271)) daN))) (daC (dC (.int 11)) daN))) daN)) (daC (dC (.int 2147483647)) daN))) (dC (.int 2)))
  (sRet (dOp oMod (daC (dOp oInt (daC (dOp oDiv (daC (dOp oIx (daC (dV 0) (daC (dC (.int 2)) daN))) (daC (dC (.int 7)) daN))) daN)) (daC (dV 1) daN)))))
  sNil)
  (sSeq (sSet 3 (dOp oIx (daC (dOp oIx (daC (dV 0) (daC (dC (.int 0)) daN))) (daC (dOp oSub (daC (dOp oIx (daC (dV 0) (daC (dC (.int 1)) daN))) (daC (dC (.int 1)) daN))) daN))))
  (sSeq (sIxL 0 (dOp oMod (daC (dOp oInt (daC (dOp oAdd (daC (dOp oAdd (daC (dOp oMul (daC (dOp oIx (daC (dV 0) (daC (dC (.int 2)) daN))) (daC (dC (.int 48271)) daN))) (daC (dOp oInt (daC (dV 3) daN)) daN))) (daC (dC (.int 11)) daN))) daN)) (daC (dC (.int 2147483647)) daN))) (dC (.int 2)))
  (sSeq (sIf (dTst (dOp oGe (daC (dV 3) (daC (dOp oPow (daC (dC (.int 10)) (daC (dC (.int 18)) daN))) daN))))
  (sIxL 0 (dOp oDiv (daC (dOp oInt (daC (dOp oMod (daC (dOp oInt (daC (dV 3) daN)) (daC (dOp oPow (daC (dC (.int 10)) (daC (dC (.int 90)) daN))) daN))) daN)) (daC (dV 1) daN))) (dC (.int 3)))
  sNil)
  (sRet (dOp oMod (daC (dOp oInt (daC (dV 3) daN)) (daC (dV 1) daN))))))))))
def f__law_taken : List D → FO := runD true 4 den__law_taken
theorem sc__law_taken : FnScope N__law_taken ["row", "many"] (defScope (top 40)) := ⟨rfl, rfl, rfl, by decide +kernel, rfl, by decide +kernel, by decide +kernel⟩
theorem ok__law_taken {P : Program} {w : World} {K : PySem.W.Frag} {mg : Str → Option Value} {base : Heap} {f : Addr} {fd : FuncData} (Fu : Fun K "_law_taken" "_law_taken" (top 40) f fd)
    (m_int : mg "int" = none) (m_len : mg "len" = none) :
    FnOk P w K mg base (L2.CX P w) 1 f fd ["row", "many"] (spP K mg true 2 f__law_taken) := by
  refine fn_den2 (k := 0) (N := N__law_taken) true den__law_taken Fu sc__law_taken (by decide) fun cdv A outer s H E F0 H0 ia T pin hr hpn => ?_
  have hK : (Cfg.mk K mg F0 H0 ia T pin).K = K := rfl
  have hmg : (Cfg.mk K mg F0 H0 ia T pin).mg = mg := rfl
  
  have tk := takes_of (X := cxOf (L2.CX P w) P w K mg base N__law_taken "_law_taken" (defScope (top 40)) f cdv A outer s H E) rfl rfl rfl rfl
  have hx : Passes (L2.CX P w) (cxOf (L2.CX P w) P w K mg base N__law_taken "_law_taken" (defScope (top 40)) f cdv A outer s H E) E := passes_call tk (fun _ _ _ _ h => h)
  have hp : PassesOwn (model P w) (cxOf (L2.CX P w) P w K mg base N__law_taken "_law_taken" (defScope (top 40)) f cdv A outer s H E).A (cxOf (L2.CX P w) P w K mg base N__law_taken "_law_taken" (defScope (top 40)) f cdv A outer s H E).env (cxOf (L2.CX P w) P w K mg base N__law_taken "_law_taken" (defScope (top 40)) f cdv A outer s H E).xe := passes_of rfl
  have hu1 := hr.units
  have hu : (A.deeper (envOfC "_law_taken" (defScope (top 40)) s.heap.objs.size f cdv)).units + 65 < cLine := by have := hr.un; omega
  exact (ds_cons (ds_if (dt_cmp op_gt vok_B0 (dx_ix ix_seq vok_ix (dx_var 0) dx_int) dx_int)
  (ds_cons (ds_set (.inl (by decide)) sc__law_taken.nd (dx_bin op_modN vok_mod (dx_callTy call_int1 vok_int m_int (da_cons (dx_ix ix_seq vok_ix (dx_var 0) dx_int) da_nil)) (dx_var 1)))
  (ds_cons (ds_ixL (k := 0) (dx_bin op_divA vok_div (dx_ix ix_seq vok_ix (dx_var 0) dx_int) (dx_var 1)) dx_int)
  (ds_one (ds_ret (dx_var 2)))))
  ds_nil)
  (ds_cons (ds_ixL (k := 0) (dx_bin op_addA vok_add (dx_ix ix_seq vok_ix (dx_var 0) dx_int) dx_int) dx_int)
  (ds_cons (ds_if (dt_cmp op_gt vok_B0 (dx_ix ix_seq vok_ix (dx_var 0) dx_int) (dx_callB call_len vok_len m_len (da_cons (dx_ix ix_seq vok_ix (dx_var 0) dx_int) da_nil)))
  (ds_cons (ds_ixL (k := 0) (dx_bin op_modN vok_mod (dx_callTy call_int1 vok_int m_int (da_cons (dx_bin op_addA vok_add (dx_bin op_mulA vok_mul (dx_ix ix_seq vok_ix (dx_var 0) dx_int) dx_int) dx_int) da_nil)) dx_int) dx_int)
  (ds_one (ds_ret (dx_bin op_modN vok_mod (dx_callTy call_int1 vok_int m_int (da_cons (dx_bin op_divA vok_div (dx_ix ix_seq vok_ix (dx_var 0) dx_int) dx_int) da_nil)) (dx_var 1)))))
  ds_nil)
  (ds_cons (ds_set (.inl (by decide)) sc__law_taken.nd (dx_ix ix_seq vok_ix (dx_ix ix_seq vok_ix (dx_var 0) dx_int) (dx_bin op_sub vok_I0 (dx_ix ix_seq vok_ix (dx_var 0) dx_int) dx_int)))
  (ds_cons (ds_ixL (k := 0) (dx_bin op_modN vok_mod (dx_callTy call_int1 vok_int m_int (da_cons (dx_bin op_addA vok_add (dx_bin op_addA vok_add (dx_bin op_mulA vok_mul (dx_ix ix_seq vok_ix (dx_var 0) dx_int) dx_int) (dx_callTy call_int1 vok_int m_int (da_cons (dx_var 3) da_nil))) dx_int) da_nil)) dx_int) dx_int)
  (ds_cons (ds_if (dt_cmp op_ge vok_B0 (dx_var 3) (dx_bin op_pow vok_pow dx_int dx_int))
  (ds_one (ds_ixL (k := 0) (dx_bin op_divA vok_div (dx_callTy call_int1 vok_int m_int (da_cons (dx_bin op_modN vok_mod (dx_callTy call_int1 vok_int m_int (da_cons (dx_var 3) da_nil)) (dx_bin op_pow vok_pow dx_int dx_int)) da_nil)) (dx_var 1)) dx_int))
  ds_nil)
  (ds_one (ds_ret (dx_bin op_modN vok_mod (dx_callTy call_int1 vok_int m_int (da_cons (dx_var 3) da_nil)) (dx_var 1))))))))))
/-! ### _law_pick -/
def N__law_pick : List Str := ["row", "some"]
def den__law_pick : DS :=
  (sRet (dOp oIx (daC (dV 1) (daC (dCallIo f__law_taken 0 (daC (dOp oLen (daC (dV 1) daN)) daN)) daN))))
def f__law_pick : List D → FO := runD true 2 den__law_pick
theorem sc__law_pick : FnScope N__law_pick ["row", "some"] (defScope (top 41)) := ⟨rfl, rfl, rfl, by decide +kernel, rfl, by decide +kernel, by decide +kernel⟩
theorem ok__law_pick {P : Program} {w : World} {K : PySem.W.Frag} {mg : Str → Option Value} {base : Heap} {f : Addr} {fd : FuncData} (Fu : Fun K "_law_pick" "_law_pick" (top 41) f fd)
    (c__law_taken : Cq P w K mg base "_law_taken" 1 ["row", "many"] (spP K mg true 2 f__law_taken)) (m_len : mg "len" = none) :
    FnOk P w K mg base (L2.CX P w) 2 f fd ["row", "some"] (spP K mg true 2 f__law_pick) := by
  refine fn_den2 (k := 1) (N := N__law_pick) true den__law_pick Fu sc__law_pick (by decide) fun cdv A outer s H E F0 H0 ia T pin hr hpn => ?_
  have hK : (Cfg.mk K mg F0 H0 ia T pin).K = K := rfl
  have hmg : (Cfg.mk K mg F0 H0 ia T pin).mg = mg := rfl
  
  have tk := takes_of (X := cxOf (L2.CX P w) P w K mg base N__law_pick "_law_pick" (defScope (top 41)) f cdv A outer s H E) rfl rfl rfl rfl
  have hx : Passes (L2.CX P w) (cxOf (L2.CX P w) P w K mg base N__law_pick "_law_pick" (defScope (top 41)) f cdv A outer s H E) E := passes_call tk (fun _ _ _ _ h => h)
  have hp : PassesOwn (model P w) (cxOf (L2.CX P w) P w K mg base N__law_pick "_law_pick" (defScope (top 41)) f cdv A outer s H E).A (cxOf (L2.CX P w) P w K mg base N__law_pick "_law_pick" (defScope (top 41)) f cdv A outer s H E).env (cxOf (L2.CX P w) P w K mg base N__law_pick "_law_pick" (defScope (top 41)) f cdv A outer s H E).xe := passes_of rfl
  have hu1 := hr.units
  have hu : (A.deeper (envOfC "_law_pick" (defScope (top 41)) s.heap.objs.size f cdv)).units + 65 < cLine := by have := hr.un; omega
  exact (ds_one (ds_ret (dx_ix ix_seq vok_ix (dx_var 1) (dx_callIo (j := 0) ⟨c__law_taken⟩ hK hmg (hr.mono (by decide)) hx (da_cons (dx_callB call_len vok_len m_len (da_cons (dx_var 1) da_nil)) da_nil) (daLen_cons daLen_nil)))))
/-! ### _law_board -/
def N__law_board : List Str := ["row", "wide", "high", "most", "cells", "left", "at", "own"]
def lb__law_board_1 : DS :=
  (sSeq (sSet 7 (dCallIo f__law_pick 0 (daC (dIf (dTst (dOp oGt (daC (dV 5) (daC (dC (.int 0)) daN)))) (dLst (daC (dC (.int 0)) (daC (dC (.int 0)) (daC (dC (.int 1)) (daC (dC (.int 1)) (daC (dC (.int 2)) (daC (dC (.int 2)) (daC (dC (.int 3)) (daC (dC (.int 4)) (daC (dC (.int 5)) (daC (dC (.int 4)) (daC (dC (.int 5)) daN)))))))))))) (dLst (daC (dC (.int 0)) (daC (dC (.int 0)) (daC (dC (.int 1)) (daC (dC (.int 2)) (daC (dC (.int 1)) (daC (dC (.int 2)) (daC (dC (.int 1)) (daC (dC (.int 2)) (daC (dC (.int 3)) daN))))))))))) daN)))
  (sSeq (sSet 7 (dIf (dAnd (dTst (dOp oEq (daC (dV 7) (daC (dC (.int 3)) daN)))) (dTst (dOp oGt (daC (dCallIo f__law_taken 0 (daC (dC (.int 3)) daN)) (daC (dC (.int 0)) daN))))) (dC (.int 0)) (dV 7)))
  (sSeq (sSet 5 (dOp oSub (daC (dV 5) (daC (dIf (dTst (dOp oGt (daC (dV 7) (daC (dC (.int 3)) daN)))) (dC (.int 1)) (dC (.int 0))) daN))))
  (sDrop (dMut "list" 4 mAppend (daC (dV 7) daN))))))
def den__law_board : DS :=
  (sSeq (sPar [4, 5] (daC (dLst daN) (daC (dV 3) daN)))
  (sSeq (sFor (dRg1 (daC (dOp oMul (daC (dV 1) (daC (dV 2) daN))) daN)) (gN 6) lb__law_board_1)
  (sRet (dTup (daC (dV 1) (daC (dV 2) (daC (dOp oTuple (daC (dV 4) daN)) daN)))))))
def f__law_board : List D → FO := runD true 8 den__law_board
theorem sc__law_board : FnScope N__law_board ["row", "wide", "high", "most"] (defScope (top 44)) := ⟨rfl, rfl, rfl, by decide +kernel, rfl, by decide +kernel, by decide +kernel⟩
theorem ok__law_board {P : Program} {w : World} {K : PySem.W.Frag} {mg : Str → Option Value} {base : Heap} {f : Addr} {fd : FuncData} (Fu : Fun K "_law_board" "_law_board" (top 44) f fd)
    (c__law_pick : Cq P w K mg base "_law_pick" 2 ["row", "some"] (spP K mg true 2 f__law_pick)) (c__law_taken : Cq P w K mg base "_law_taken" 1 ["row", "many"] (spP K mg true 2 f__law_taken)) (m_range : mg "range" = none) (m_tuple : mg "tuple" = none) :
    FnOk P w K mg base (L2.CX P w) 3 f fd ["row", "wide", "high", "most"] (spP K mg true 4 f__law_board) := by
  refine fn_den2 (k := 2) (N := N__law_board) true den__law_board Fu sc__law_board (by decide) fun cdv A outer s H E F0 H0 ia T pin hr hpn => ?_
  have hK : (Cfg.mk K mg F0 H0 ia T pin).K = K := rfl
  have hmg : (Cfg.mk K mg F0 H0 ia T pin).mg = mg := rfl
  
  have tk := takes_of (X := cxOf (L2.CX P w) P w K mg base N__law_board "_law_board" (defScope (top 44)) f cdv A outer s H E) rfl rfl rfl rfl
  have hx : Passes (L2.CX P w) (cxOf (L2.CX P w) P w K mg base N__law_board "_law_board" (defScope (top 44)) f cdv A outer s H E) E := passes_call tk (fun _ _ _ _ h => h)
  have hp : PassesOwn (model P w) (cxOf (L2.CX P w) P w K mg base N__law_board "_law_board" (defScope (top 44)) f cdv A outer s H E).A (cxOf (L2.CX P w) P w K mg base N__law_board "_law_board" (defScope (top 44)) f cdv A outer s H E).env (cxOf (L2.CX P w) P w K mg base N__law_board "_law_board" (defScope (top 44)) f cdv A outer s H E).xe := passes_of rfl
  have hu1 := hr.units
  have hu : (A.deeper (envOfC "_law_board" (defScope (top 44)) s.heap.objs.size f cdv)).units + 65 < cLine := by have := hr.un; omega
  exact (ds_cons (ds_par2 (.inl (by decide)) rfl sc__law_board.nd (da_cons (dx_lst da_nil) (da_cons (dx_var 3) da_nil)) (daLen_cons (daLen_cons daLen_nil)))
  (ds_cons (ds_for (.inl (by decide)) hp rfl (di_rg1 m_range (da_cons (dx_bin op_mulA vok_mul (dx_var 1) (dx_var 2)) da_nil)) (dg_name (i := 6) sc__law_board.nd)
  (ds_cons (ds_set (.inl (by decide)) sc__law_board.nd (dx_callIo (j := 0) ⟨c__law_pick⟩ hK hmg (hr.mono (by decide)) hx (da_cons (dx_if (dt_cmp op_gt vok_B0 (dx_var 5) dx_int) (dx_lst (da_cons dx_int (da_cons dx_int (da_cons dx_int (da_cons dx_int (da_cons dx_int (da_cons dx_int (da_cons dx_int (da_cons dx_int (da_cons dx_int (da_cons dx_int (da_cons dx_int da_nil)))))))))))) (dx_lst (da_cons dx_int (da_cons dx_int (da_cons dx_int (da_cons dx_int (da_cons dx_int (da_cons dx_int (da_cons dx_int (da_cons dx_int (da_cons dx_int da_nil))))))))))) da_nil) (daLen_cons daLen_nil)))
  (ds_cons (ds_set (.inl (by decide)) sc__law_board.nd (dx_if (DTW.t (dw_and (dt_cmp (op_eqA hu1) vok_eq (dx_var 7) dx_int) (dw_and1 (dt_cmp op_gt vok_B0 (dx_callIo (j := 0) ⟨c__law_taken⟩ hK hmg (hr.mono (by decide)) hx (da_cons dx_int da_nil) (daLen_cons daLen_nil)) dx_int)))) dx_int (dx_var 7)))
  (ds_cons (ds_set (.inl (by decide)) sc__law_board.nd (dx_bin op_sub vok_I0 (dx_var 5) (dx_if (dt_cmp op_gt vok_B0 (dx_var 7) dx_int) dx_int dx_int)))
  (ds_one (ds_expr (dx_mut (k := 4) mok_append hK mt_append PySem.F.plainAttrs_list PySem.F.slot_list_append PySem.F.type_list_append (da_cons (dx_var 7) da_nil))))))))
  (ds_one (ds_ret (dx_tup (da_cons (dx_var 1) (da_cons (dx_var 2) (da_cons (dx_callTy call_tuple_of vok_tuple m_tuple (da_cons (dx_var 4) da_nil)) da_nil))))))))
/-! ### _law_entry -/
def N__law_entry : List Str := ["wide", "high", "port"]
def den__law_entry : DS :=
  (sSeq (sIf (dTst (dOp oLt (daC (dV 2) (daC (dV 0) daN))))
  (sRet (dTup (daC (dV 2) (daC (dC (.int 0)) (daC (dC (.int 2)) daN)))))
  sNil)
  (sSeq (sIf (dTst (dOp oLt (daC (dV 2) (daC (dOp oAdd (daC (dV 0) (daC (dV 1) daN))) daN))))
  (sRet (dTup (daC (dOp oSub (daC (dV 0) (daC (dC (.int 1)) daN))) (daC (dOp oSub (daC (dV 2) (daC (dV 0) daN))) (daC (dC (.int 3)) daN)))))
  sNil)
  (sSeq (sIf (dTst (dOp oLt (daC (dV 2) (daC (dOp oAdd (daC (dOp oMul (daC (dC (.int 2)) (daC (dV 0) daN))) (daC (dV 1) daN))) daN))))
  (sRet (dTup (daC (dOp oSub (daC (dOp oSub (daC (dV 2) (daC (dV 0) daN))) (daC (dV 1) daN))) (daC (dOp oSub (daC (dV 1) (daC (dC (.int 1)) daN))) (daC (dC (.int 0)) daN)))))
  sNil)
  (sRet (dTup (daC (dC (.int 0)) (daC (dOp oSub (daC (dOp oSub (daC (dV 2) (daC (dOp oMul (daC (dC (.int 2)) (daC (dV 0) daN))) daN))) (daC (dV 1) daN))) (daC (dC (.int 1)) daN))))))))
def f__law_entry : List D → FO := runD false 3 den__law_entry
theorem sc__law_entry : FnScope N__law_entry ["wide", "high", "port"] (defScope (top 45)) := ⟨rfl, rfl, rfl, by decide +kernel, rfl, by decide +kernel, by decide +kernel⟩
theorem ok__law_entry {P : Program} {w : World} {K : PySem.W.Frag} {mg : Str → Option Value} {base : Heap} {f : Addr} {fd : FuncData} (Fu : Fun K "_law_entry" "_law_entry" (top 45) f fd)
     :
    FnOk P w K mg base (L2.CX P w) 1 f fd ["wide", "high", "port"] (spP K mg false 3 f__law_entry) := by
  refine fn_den2 (k := 0) (N := N__law_entry) false den__law_entry Fu sc__law_entry (by simp) fun cdv A outer s H E F0 H0 ia T pin hr hpn => ?_
  have hK : (Cfg.mk K mg F0 H0 ia T pin).K = K := rfl
  have hmg : (Cfg.mk K mg F0 H0 ia T pin).mg = mg := rfl
  have hpin := hpn rfl
  have tk := takes_of (X := cxOf (L2.CX P w) P w K mg base N__law_entry "_law_entry" (defScope (top 45)) f cdv A outer s H E) rfl rfl rfl rfl
  have hx : Passes (L2.CX P w) (cxOf (L2.CX P w) P w K mg base N__law_entry "_law_entry" (defScope (top 45)) f cdv A outer s H E) E := passes_call tk (fun _ _ _ _ h => h)
  have hp : PassesOwn (model P w) (cxOf (L2.CX P w) P w K mg base N__law_entry "_law_entry" (defScope (top 45)) f cdv A outer s H E).A (cxOf (L2.CX P w) P w K mg base N__law_entry "_law_entry" (defScope (top 45)) f cdv A outer s H E).env (cxOf (L2.CX P w) P w K mg base N__law_entry "_law_entry" (defScope (top 45)) f cdv A outer s H E).xe := passes_of rfl
  have hu1 := hr.units
  have hu : (A.deeper (envOfC "_law_entry" (defScope (top 45)) s.heap.objs.size f cdv)).units + 65 < cLine := by have := hr.un; omega
  exact (ds_cons (ds_if (dt_cmp op_lt vok_B0 (dx_var 2) (dx_var 0))
  (ds_one (ds_ret (dx_tup (da_cons (dx_var 2) (da_cons dx_int (da_cons dx_int da_nil))))))
  ds_nil)
  (ds_cons (ds_if (dt_cmp op_lt vok_B0 (dx_var 2) (dx_bin op_addA vok_add (dx_var 0) (dx_var 1)))
  (ds_one (ds_ret (dx_tup (da_cons (dx_bin op_sub vok_I0 (dx_var 0) dx_int) (da_cons (dx_bin op_sub vok_I0 (dx_var 2) (dx_var 0)) (da_cons dx_int da_nil))))))
  ds_nil)
  (ds_cons (ds_if (dt_cmp op_lt vok_B0 (dx_var 2) (dx_bin op_addA vok_add (dx_bin op_mulA vok_mul dx_int (dx_var 0)) (dx_var 1)))
  (ds_one (ds_ret (dx_tup (da_cons (dx_bin op_sub vok_I0 (dx_bin op_sub vok_I0 (dx_var 2) (dx_var 0)) (dx_var 1)) (da_cons (dx_bin op_sub vok_I0 (dx_var 1) dx_int) (da_cons dx_int da_nil))))))
  ds_nil)
  (ds_one (ds_ret (dx_tup (da_cons dx_int (da_cons (dx_bin op_sub vok_I0 (dx_bin op_sub vok_I0 (dx_var 2) (dx_bin op_mulA vok_mul dx_int (dx_var 0))) (dx_var 1)) (da_cons dx_int da_nil)))))))))
/-! ### _law_start -/
def N__law_start : List Str := ["board", "port", "column", "line", "heading"]
def den__law_start : DS :=
  (sSeq (sAsg (gT (gsC (gN 2) (gsC (gN 3) (gsC (gN 4) gsN))) 3) (dCall f__law_entry (daC (dOp oIx (daC (dV 0) (daC (dC (.int 0)) daN))) (daC (dOp oIx (daC (dV 0) (daC (dC (.int 1)) daN))) (daC (dV 1) daN)))))
  (sRet (dTup (daC (dOp oAdd (daC (dOp oMul (daC (dV 3) (daC (dOp oIx (daC (dV 0) (daC (dC (.int 0)) daN))) daN))) (daC (dV 2) daN))) (daC (dV 4) daN)))))
def f__law_start : List D → FO := runD false 5 den__law_start
theorem sc__law_start : FnScope N__law_start ["board", "port"] (defScope (top 49)) := ⟨rfl, rfl, rfl, by decide +kernel, rfl, by decide +kernel, by decide +kernel⟩
theorem ok__law_start {P : Program} {w : World} {K : PySem.W.Frag} {mg : Str → Option Value} {base : Heap} {f : Addr} {fd : FuncData} (Fu : Fun K "_law_start" "_law_start" (top 49) f fd)
    (c__law_entry : Cq P w K mg base "_law_entry" 1 ["wide", "high", "port"] (spP K mg false 3 f__law_entry)) :
    FnOk P w K mg base (L2.CX P w) 2 f fd ["board", "port"] (spP K mg false 2 f__law_start) := by
  refine fn_den2 (k := 1) (N := N__law_start) false den__law_start Fu sc__law_start (by simp) fun cdv A outer s H E F0 H0 ia T pin hr hpn => ?_
  have hK : (Cfg.mk K mg F0 H0 ia T pin).K = K := rfl
  have hmg : (Cfg.mk K mg F0 H0 ia T pin).mg = mg := rfl
  have hpin := hpn rfl
  have tk := takes_of (X := cxOf (L2.CX P w) P w K mg base N__law_start "_law_start" (defScope (top 49)) f cdv A outer s H E) rfl rfl rfl rfl
  have hx : Passes (L2.CX P w) (cxOf (L2.CX P w) P w K mg base N__law_start "_law_start" (defScope (top 49)) f cdv A outer s H E) E := passes_call tk (fun _ _ _ _ h => h)
  have hp : PassesOwn (model P w) (cxOf (L2.CX P w) P w K mg base N__law_start "_law_start" (defScope (top 49)) f cdv A outer s H E).A (cxOf (L2.CX P w) P w K mg base N__law_start "_law_start" (defScope (top 49)) f cdv A outer s H E).env (cxOf (L2.CX P w) P w K mg base N__law_start "_law_start" (defScope (top 49)) f cdv A outer s H E).xe := passes_of rfl
  have hu1 := hr.units
  have hu : (A.deeper (envOfC "_law_start" (defScope (top 49)) s.heap.objs.size f cdv)).units + 65 < cLine := by have := hr.un; omega
  exact (ds_cons (ds_asg (.inr hpin) (dx_call ⟨c__law_entry⟩ hK hmg (hr.mono (by decide)) hx (da_cons (dx_ix ix_seq vok_ix (dx_var 0) dx_int) (da_cons (dx_ix ix_seq vok_ix (dx_var 0) dx_int) (da_cons (dx_var 1) da_nil))) (daLen_cons (daLen_cons (daLen_cons daLen_nil)))) (dg_tup hK rfl (dgs_cons (dg_name (i := 2) sc__law_start.nd) (dgs_cons (dg_name (i := 3) sc__law_start.nd) (dgs_cons (dg_name (i := 4) sc__law_start.nd) dgs_nil)))))
  (ds_one (ds_ret (dx_tup (da_cons (dx_bin op_addA vok_add (dx_bin op_mulA vok_mul (dx_var 3) (dx_ix ix_seq vok_ix (dx_var 0) dx_int)) (dx_var 2)) (da_cons (dx_var 4) da_nil))))))
/-! ### _law_turn -/
def N__law_turn : List Str := ["sign", "heading"]
def den__law_turn : DS :=
  (sRet (dOp oDGet (daC (dOp oDGet (daC (dDisp (daC (dC (.int 1)) (daC (dDisp (daC (dC (.int 0)) (daC (dC (.int 1)) (daC (dC (.int 1)) (daC (dC (.int 0)) (daC (dC (.int 2)) (daC (dC (.int 3)) (daC (dC (.int 3)) (daC (dC (.int 2)) daN))))))))) (daC (dC (.int 2)) (daC (dDisp (daC (dC (.int 0)) (daC (dC (.int 3)) (daC (dC (.int 3)) (daC (dC (.int 0)) (daC (dC (.int 1)) (daC (dC (.int 2)) (daC (dC (.int 2)) (daC (dC (.int 1)) daN))))))))) daN))))) (daC (dV 0) daN))) (daC (dV 1) daN))))
def f__law_turn : List D → FO := runD false 2 den__law_turn
theorem sc__law_turn : FnScope N__law_turn ["sign", "heading"] (defScope (top 47)) := ⟨rfl, rfl, rfl, by decide +kernel, rfl, by decide +kernel, by decide +kernel⟩
theorem ok__law_turn {P : Program} {w : World} {K : PySem.W.Frag} {mg : Str → Option Value} {base : Heap} {f : Addr} {fd : FuncData} (Fu : Fun K "_law_turn" "_law_turn" (top 47) f fd)
     :
    FnOk P w K mg base (L2.CX P w) 1 f fd ["sign", "heading"] (spP K mg false 2 f__law_turn) := by
  refine fn_den2 (k := 0) (N := N__law_turn) false den__law_turn Fu sc__law_turn (by simp) fun cdv A outer s H E F0 H0 ia T pin hr hpn => ?_
  have hK : (Cfg.mk K mg F0 H0 ia T pin).K = K := rfl
  have hmg : (Cfg.mk K mg F0 H0 ia T pin).mg = mg := rfl
  have hpin := hpn rfl
  have tk := takes_of (X := cxOf (L2.CX P w) P w K mg base N__law_turn "_law_turn" (defScope (top 47)) f cdv A outer s H E) rfl rfl rfl rfl
  have hx : Passes (L2.CX P w) (cxOf (L2.CX P w) P w K mg base N__law_turn "_law_turn" (defScope (top 47)) f cdv A outer s H E) E := passes_call tk (fun _ _ _ _ h => h)
  have hp : PassesOwn (model P w) (cxOf (L2.CX P w) P w K mg base N__law_turn "_law_turn" (defScope (top 47)) f cdv A outer s H E).A (cxOf (L2.CX P w) P w K mg base N__law_turn "_law_turn" (defScope (top 47)) f cdv A outer s H E).env (cxOf (L2.CX P w) P w K mg base N__law_turn "_law_turn" (defScope (top 47)) f cdv A outer s H E).xe := passes_of rfl
  have hu1 := hr.units
  have hu : (A.deeper (envOfC "_law_turn" (defScope (top 47)) s.heap.objs.size f cdv)).units + 65 < cLine := by have := hr.un; omega
  exact (ds_one (ds_ret (dx_dget hu (dx_dget hu (dx_disp (dp_cons dx_int (dx_disp (dp_cons dx_int dx_int (dp_cons dx_int dx_int (dp_cons dx_int dx_int (dp_cons dx_int dx_int dp_nil))))) (dp_cons dx_int (dx_disp (dp_cons dx_int dx_int (dp_cons dx_int dx_int (dp_cons dx_int dx_int (dp_cons dx_int dx_int dp_nil))))) dp_nil))) (dx_var 0)) (dx_var 1))))
/-! ### _law_out -/
def N__law_out : List Str := ["wide", "high", "column", "line"]
def den__law_out : DS :=
  (sSeq (sIf (dTst (dOp oLt (daC (dV 3) (daC (dC (.int 0)) daN))))
  (sRet (dV 2))
  sNil)
  (sSeq (sIf (dTst (dOp oGe (daC (dV 2) (daC (dV 0) daN))))
  (sRet (dOp oAdd (daC (dV 0) (daC (dV 3) daN))))
  sNil)
  (sRet (dIf (dTst (dOp oGe (daC (dV 3) (daC (dV 1) daN)))) (dOp oAdd (daC (dOp oAdd (daC (dV 0) (daC (dV 1) daN))) (daC (dV 2) daN))) (dOp oAdd (daC (dOp oAdd (daC (dOp oMul (daC (dC (.int 2)) (daC (dV 0) daN))) (daC (dV 1) daN))) (daC (dV 3) daN)))))))
def f__law_out : List D → FO := runD false 4 den__law_out
theorem sc__law_out : FnScope N__law_out ["wide", "high", "column", "line"] (defScope (top 46)) := ⟨rfl, rfl, rfl, by decide +kernel, rfl, by decide +kernel, by decide +kernel⟩
theorem ok__law_out {P : Program} {w : World} {K : PySem.W.Frag} {mg : Str → Option Value} {base : Heap} {f : Addr} {fd : FuncData} (Fu : Fun K "_law_out" "_law_out" (top 46) f fd)
     :
    FnOk P w K mg base (L2.CX P w) 1 f fd ["wide", "high", "column", "line"] (spP K mg false 4 f__law_out) := by
  refine fn_den2 (k := 0) (N := N__law_out) false den__law_out Fu sc__law_out (by simp) fun cdv A outer s H E F0 H0 ia T pin hr hpn => ?_
  have hK : (Cfg.mk K mg F0 H0 ia T pin).K = K := rfl
  have hmg : (Cfg.mk K mg F0 H0 ia T pin).mg = mg := rfl
  have hpin := hpn rfl
  have tk := takes_of (X := cxOf (L2.CX P w) P w K mg base N__law_out "_law_out" (defScope (top 46)) f cdv A outer s H E) rfl rfl rfl rfl
  have hx : Passes (L2.CX P w) (cxOf (L2.CX P w) P w K mg base N__law_out "_law_out" (defScope (top 46)) f cdv A outer s H E) E := passes_call tk (fun _ _ _ _ h => h)
  have hp : PassesOwn (model P w) (cxOf (L2.CX P w) P w K mg base N__law_out "_law_out" (defScope (top 46)) f cdv A outer s H E).A (cxOf (L2.CX P w) P w K mg base N__law_out "_law_out" (defScope (top 46)) f cdv A outer s H E).env (cxOf (L2.CX P w) P w K mg base N__law_out "_law_out" (defScope (top 46)) f cdv A outer s H E).xe := passes_of rfl
  have hu1 := hr.units
  have hu : (A.deeper (envOfC "_law_out" (defScope (top 46)) s.heap.objs.size f cdv)).units + 65 < cLine := by have := hr.un; omega
  exact (ds_cons (ds_if (dt_cmp op_lt vok_B0 (dx_var 3) dx_int)
  (ds_one (ds_ret (dx_var 2)))
  ds_nil)
  (ds_cons (ds_if (dt_cmp op_ge vok_B0 (dx_var 2) (dx_var 0))
  (ds_one (ds_ret (dx_bin op_addA vok_add (dx_var 0) (dx_var 3))))
  ds_nil)
  (ds_one (ds_ret (dx_if (dt_cmp op_ge vok_B0 (dx_var 3) (dx_var 1)) (dx_bin op_addA vok_add (dx_bin op_addA vok_add (dx_var 0) (dx_var 1)) (dx_var 2)) (dx_bin op_addA vok_add (dx_bin op_addA vok_add (dx_bin op_mulA vok_mul dx_int (dx_var 0)) (dx_var 1)) (dx_var 3)))))))
/-! ### _law_goals -/
def N__law_goals : List Str := ["board", "state", "wide", "high", "cells", "column", "line", "heading", "own", "found", "some", "turned", "way", "a", "b", "inside"]
def lb__law_goals_1 : DS :=
  (sSeq (sPar [13, 14] (daC (dOp oAdd (daC (dV 5) (daC (dOp oIx (daC (dTup (daC (dC (.int 0)) (daC (dC (.int 1)) (daC (dC (.int 0)) (daC (dOp oNeg (daC (dC (.int 1)) daN)) daN))))) (daC (dV 12) daN))) daN))) (daC (dOp oAdd (daC (dV 6) (daC (dOp oIx (daC (dTup (daC (dOp oNeg (daC (dC (.int 1)) daN)) (daC (dC (.int 0)) (daC (dC (.int 1)) (daC (dC (.int 0)) daN))))) (daC (dV 12) daN))) daN))) daN)))
  (sSeq (sSet 15 (dAndV (dChain oLe oLt (dC (.int 0)) (dV 13) (dV 2)) (dChain oLe oLt (dC (.int 0)) (dV 14) (dV 3))))
  (sDrop (dMut "list" 9 mAppend (daC (dIf (dTru (dV 15)) (dTup (daC (dOp oAdd (daC (dOp oMul (daC (dV 14) (daC (dV 2) daN))) (daC (dV 13) daN))) (daC (dV 12) daN))) (dOp oSub (daC (dOp oNeg (daC (dC (.int 1)) daN)) (daC (dCall f__law_out (daC (dV 2) (daC (dV 3) (daC (dV 13) (daC (dV 14) daN))))) daN)))) daN)))))
def den__law_goals : DS :=
  (sSeq (sAsg (gT (gsC (gN 2) (gsC (gN 3) (gsC (gN 4) gsN))) 3) (dV 0))
  (sSeq (sPar [5, 6, 7] (daC (dOp oMod (daC (dOp oIx (daC (dV 1) (daC (dC (.int 0)) daN))) (daC (dV 2) daN))) (daC (dOp oDiv (daC (dOp oIx (daC (dV 1) (daC (dC (.int 0)) daN))) (daC (dV 2) daN))) (daC (dOp oIx (daC (dV 1) (daC (dC (.int 1)) daN))) daN))))
  (sSeq (sPar [8, 9] (daC (dOp oIx (daC (dV 4) (daC (dOp oIx (daC (dV 1) (daC (dC (.int 0)) daN))) daN))) (daC (dLst daN) daN)))
  (sSeq (sSet 10 (dOpM isDict oGet1 (dDisp (daC (dC (.int 0)) (daC (dLst (daC (dV 7) daN)) (daC (dC (.int 3)) (daC (dLst daN) daN))))) (daC (dV 8) daN)))
  (sSeq (sIf (dTst (dOp oIsN (daC (dV 10) (daC (dC .none) daN))))
  (sSeq (sSet 11 (dCall f__law_turn (daC (dIf (dTst (dOp oIn (daC (dV 8) (daC (dTup (daC (dC (.int 1)) (daC (dC (.int 4)) daN))) daN)))) (dC (.int 1)) (dC (.int 2))) (daC (dV 7) daN))))
  (sSet 10 (dFz (dIf (dTst (dOp oLt (daC (dV 8) (daC (dC (.int 3)) daN)))) (dLst (daC (dV 11) daN)) (dLst (daC (dV 7) (daC (dV 11) daN)))))))
  sNil)
  (sSeq (sFor (dIt (dV 10)) (gN 12) lb__law_goals_1)
  (sRet (dV 9))))))))
def f__law_goals : List D → FO := runD false 16 den__law_goals
theorem sc__law_goals : FnScope N__law_goals ["board", "state"] (defScope (top 48)) := ⟨rfl, rfl, rfl, by decide +kernel, rfl, by decide +kernel, by decide +kernel⟩
theorem ok__law_goals {P : Program} {w : World} {K : PySem.W.Frag} {mg : Str → Option Value} {base : Heap} {f : Addr} {fd : FuncData} (Fu : Fun K "_law_goals" "_law_goals" (top 48) f fd)
    (c__law_turn : Cq P w K mg base "_law_turn" 1 ["sign", "heading"] (spP K mg false 2 f__law_turn)) (c__law_out : Cq P w K mg base "_law_out" 1 ["wide", "high", "column", "line"] (spP K mg false 4 f__law_out)) :
    FnOk P w K mg base (L2.CX P w) 2 f fd ["board", "state"] (spP K mg false 2 f__law_goals) := by
  refine fn_den2 (k := 1) (N := N__law_goals) false den__law_goals Fu sc__law_goals (by simp) fun cdv A outer s H E F0 H0 ia T pin hr hpn => ?_
  have hK : (Cfg.mk K mg F0 H0 ia T pin).K = K := rfl
  have hmg : (Cfg.mk K mg F0 H0 ia T pin).mg = mg := rfl
  have hpin := hpn rfl
  have tk := takes_of (X := cxOf (L2.CX P w) P w K mg base N__law_goals "_law_goals" (defScope (top 48)) f cdv A outer s H E) rfl rfl rfl rfl
  have hx : Passes (L2.CX P w) (cxOf (L2.CX P w) P w K mg base N__law_goals "_law_goals" (defScope (top 48)) f cdv A outer s H E) E := passes_call tk (fun _ _ _ _ h => h)
  have hp : PassesOwn (model P w) (cxOf (L2.CX P w) P w K mg base N__law_goals "_law_goals" (defScope (top 48)) f cdv A outer s H E).A (cxOf (L2.CX P w) P w K mg base N__law_goals "_law_goals" (defScope (top 48)) f cdv A outer s H E).env (cxOf (L2.CX P w) P w K mg base N__law_goals "_law_goals" (defScope (top 48)) f cdv A outer s H E).xe := passes_of rfl
  have hu1 := hr.units
  have hu : (A.deeper (envOfC "_law_goals" (defScope (top 48)) s.heap.objs.size f cdv)).units + 65 < cLine := by have := hr.un; omega
  exact (ds_cons (ds_asg (.inr hpin) (dx_var 0) (dg_tup hK rfl (dgs_cons (dg_name (i := 2) sc__law_goals.nd) (dgs_cons (dg_name (i := 3) sc__law_goals.nd) (dgs_cons (dg_name (i := 4) sc__law_goals.nd) dgs_nil)))))
  (ds_cons (ds_par3 (.inr hpin) rfl sc__law_goals.nd (da_cons (dx_bin op_modN vok_mod (dx_ix ix_seq vok_ix (dx_var 1) dx_int) (dx_var 2)) (da_cons (dx_bin op_divA vok_div (dx_ix ix_seq vok_ix (dx_var 1) dx_int) (dx_var 2)) (da_cons (dx_ix ix_seq vok_ix (dx_var 1) dx_int) da_nil))) (daLen_cons (daLen_cons (daLen_cons daLen_nil))))
  (ds_cons (ds_par2 (.inr hpin) rfl sc__law_goals.nd (da_cons (dx_ix ix_seq vok_ix (dx_var 4) (dx_ix ix_seq vok_ix (dx_var 1) dx_int)) (da_cons (dx_lst da_nil) da_nil)) (daLen_cons (daLen_cons daLen_nil)))
  (ds_cons (ds_set (.inr hpin) sc__law_goals.nd (dx_get1 hu (dx_disp (dp_cons dx_int (dx_lst (da_cons (dx_var 7) da_nil)) (dp_cons dx_int (dx_lst da_nil) dp_nil))) (dx_var 8)))
  (ds_cons (ds_if (dt_cmp op_isN vok_isN (dx_var 10) dx_non)
  (ds_cons (ds_set (.inr hpin) sc__law_goals.nd (dx_call ⟨c__law_turn⟩ hK hmg (hr.mono (by decide)) hx (da_cons (dx_if (dt_cmp (op_inA hu) vok_in (dx_var 8) (dx_tup (da_cons dx_int (da_cons dx_int da_nil)))) dx_int dx_int) (da_cons (dx_var 7) da_nil)) (daLen_cons (daLen_cons daLen_nil))))
  (ds_one (ds_set (.inr hpin) sc__law_goals.nd (dx_fz (dx_if (dt_cmp op_lt vok_B0 (dx_var 8) dx_int) (dx_lst (da_cons (dx_var 11) da_nil)) (dx_lst (da_cons (dx_var 7) (da_cons (dx_var 11) da_nil))))))))
  ds_nil)
  (ds_cons (ds_for (.inr hpin) hp rfl (di_any hK (dx_var 10)) (dg_name (i := 12) sc__law_goals.nd)
  (ds_cons (ds_par2 (.inr hpin) rfl sc__law_goals.nd (da_cons (dx_bin op_addA vok_add (dx_var 5) (dx_ix ix_seq vok_ix (dx_tup (da_cons dx_int (da_cons dx_int (da_cons dx_int (da_cons (dx_un un_neg vok_U dx_int) da_nil))))) (dx_var 12))) (da_cons (dx_bin op_addA vok_add (dx_var 6) (dx_ix ix_seq vok_ix (dx_tup (da_cons (dx_un un_neg vok_U dx_int) (da_cons dx_int (da_cons dx_int (da_cons dx_int da_nil))))) (dx_var 12))) da_nil)) (daLen_cons (daLen_cons daLen_nil)))
  (ds_cons (ds_set (.inr hpin) sc__law_goals.nd (dx_and (dx_chain op_le vok_B0 op_lt vok_B0 dx_int (dx_var 13) (dx_var 2)) (dx_one (dx_chain op_le vok_B0 op_lt vok_B0 dx_int (dx_var 14) (dx_var 3)))))
  (ds_one (ds_expr (dx_mut (k := 9) mok_append hK mt_append PySem.F.plainAttrs_list PySem.F.slot_list_append PySem.F.type_list_append (da_cons (dx_if (dt_tru (dx_var 15) hK) (dx_tup (da_cons (dx_bin op_addA vok_add (dx_bin op_mulA vok_mul (dx_var 14) (dx_var 2)) (dx_var 13)) (da_cons (dx_var 12) da_nil))) (dx_bin op_sub vok_I0 (dx_un un_neg vok_U dx_int) (dx_call ⟨c__law_out⟩ hK hmg (hr.mono (by decide)) hx (da_cons (dx_var 2) (da_cons (dx_var 3) (da_cons (dx_var 13) (da_cons (dx_var 14) da_nil)))) (daLen_cons (daLen_cons (daLen_cons (daLen_cons daLen_nil))))))) da_nil)))))))
  (ds_one (ds_ret (dx_var 9)))))))))
/-! ### _law_reached -/
def N__law_reached : List Str := ["board", "port", "found", "line", "own", "goal"]
noncomputable def ct__law_reached_1 : DB :=
  (dTru (dOp (oIsi "tuple") (daC (dV 5) daN)))
noncomputable def lb__law_reached_2 : DS :=
  (sSeq (sSet 4 (dMut "list" 3 mPopAt (daC (dC (.int 0)) daN)))
  (sIf (dTst (dOp oNotIn (daC (dV 4) (daC (dV 2) daN))))
  (sSeq (sDrop (dMut "list" 2 mAppend (daC (dV 4) daN)))
  (sSet 3 (dOp oAdd (daC (dV 3) (daC (dLc (dIt (dCall f__law_goals (daC (dV 0) (daC (dV 4) daN)))) [5] (gN 5) ct__law_reached_1 (dV 5)) daN)))))
  sNil))
noncomputable def lt__law_reached_3 : DB :=
  (dTst (dOp oNe (daC (dV 3) (daC (dLst daN) daN))))
noncomputable def den__law_reached : DS :=
  (sSeq (sPar [2, 3] (daC (dLst daN) (daC (dLst (daC (dCall f__law_start (daC (dV 0) (daC (dV 1) daN))) daN)) daN)))
  (sSeq (sWh lt__law_reached_3 lb__law_reached_2)
  (sRet (dV 2))))
noncomputable def f__law_reached : List D → FO := runD false 6 den__law_reached
theorem sc__law_reached : FnScope N__law_reached ["board", "port"] (defScope (top 50)) := ⟨rfl, rfl, rfl, by decide +kernel, rfl, by decide +kernel, by decide +kernel⟩
theorem ok__law_reached {P : Program} {w : World} {K : PySem.W.Frag} {mg : Str → Option Value} {base : Heap} {f : Addr} {fd : FuncData} (Fu : Fun K "_law_reached" "_law_reached" (top 50) f fd)
    (c__law_start : Cq P w K mg base "_law_start" 2 ["board", "port"] (spP K mg false 2 f__law_start)) (c__law_goals : Cq P w K mg base "_law_goals" 2 ["board", "state"] (spP K mg false 2 f__law_goals)) (m_isinstance : mg "isinstance" = none) (m_tuple : mg "tuple" = none) :
    FnOk P w K mg base (L2.CX P w) 3 f fd ["board", "port"] (spP K mg false 2 f__law_reached) := by
  refine fn_den2 (k := 2) (N := N__law_reached) false den__law_reached Fu sc__law_reached (by simp) fun cdv A outer s H E F0 H0 ia T pin hr hpn => ?_
  have hK : (Cfg.mk K mg F0 H0 ia T pin).K = K := rfl
  have hmg : (Cfg.mk K mg F0 H0 ia T pin).mg = mg := rfl
  have hpin := hpn rfl
  have tk := takes_of (X := cxOf (L2.CX P w) P w K mg base N__law_reached "_law_reached" (defScope (top 50)) f cdv A outer s H E) rfl rfl rfl rfl
  have hx : Passes (L2.CX P w) (cxOf (L2.CX P w) P w K mg base N__law_reached "_law_reached" (defScope (top 50)) f cdv A outer s H E) E := passes_call tk (fun _ _ _ _ h => h)
  have hp : PassesOwn (model P w) (cxOf (L2.CX P w) P w K mg base N__law_reached "_law_reached" (defScope (top 50)) f cdv A outer s H E).A (cxOf (L2.CX P w) P w K mg base N__law_reached "_law_reached" (defScope (top 50)) f cdv A outer s H E).env (cxOf (L2.CX P w) P w K mg base N__law_reached "_law_reached" (defScope (top 50)) f cdv A outer s H E).xe := passes_of rfl
  have hu1 := hr.units
  have hu : (A.deeper (envOfC "_law_reached" (defScope (top 50)) s.heap.objs.size f cdv)).units + 65 < cLine := by have := hr.un; omega
  exact (ds_cons (ds_par2 (.inr hpin) rfl sc__law_reached.nd (da_cons (dx_lst da_nil) (da_cons (dx_lst (da_cons (dx_call ⟨c__law_start⟩ hK hmg (hr.mono (by decide)) hx (da_cons (dx_var 0) (da_cons (dx_var 1) da_nil)) (daLen_cons (daLen_cons daLen_nil))) da_nil)) da_nil)) (daLen_cons (daLen_cons daLen_nil)))
  (ds_cons (ds_while hp (dt_cmp (op_neA hu1) vok_ne (dx_var 3) (dx_lst da_nil))
  (ds_cons (ds_set (.inr hpin) sc__law_reached.nd (dx_mut (k := 3) mok_popAt hK mt_popAt PySem.F.plainAttrs_list PySem.F.slot_list_pop PySem.F.type_list_pop (da_cons dx_int da_nil)))
  (ds_one (ds_if (dt_cmp (op_notInA hu) vok_notIn (dx_var 4) (dx_var 2))
  (ds_cons (ds_expr (dx_mut (k := 2) mok_append hK mt_append PySem.F.plainAttrs_list PySem.F.slot_list_append PySem.F.type_list_append (da_cons (dx_var 4) da_nil)))
  (ds_one (ds_set (.inr hpin) sc__law_reached.nd (dx_bin op_addA vok_add (dx_var 3) (dx_lc (own := [("goal", 5)]) rfl sc__law_reached.nd (di_any hK (dx_call ⟨c__law_goals⟩ hK hmg (hr.mono (by decide)) hx (da_cons (dx_var 0) (da_cons (dx_var 4) da_nil)) (daLen_cons (daLen_cons daLen_nil)))) (fun _ _ _ _ _ => (dg_name (i := 5) sc__law_reached.nd)) (bt_one fun _ _ _ _ _ => (dt_tru (dx_isi (T := "tuple") hK m_isinstance m_tuple (dx_var 5)) hK)) (fun _ _ _ _ _ => (dx_var 5)) (blkOk_by (by kernel_rfl)))))))
  ds_nil))))
  (ds_one (ds_ret (dx_var 2)))))
/-! ### _law_outs -/
def N__law_outs : List Str := ["board", "ports", "found", "port", "state", "goal"]
noncomputable def ct__law_outs_1 : DB :=
  (dTru (dOp (oIsi "int") (daC (dV 5) daN)))
noncomputable def ce__law_outs_2 : DE :=
  (dOp oSub (daC (dOp oNeg (daC (dC (.int 1)) daN)) (daC (dV 5) daN)))
noncomputable def lb__law_outs_3 : DS :=
  (sSet 2 (dFz (dOp oAdd (daC (dV 2) (daC (dLc (dIt (dCall f__law_goals (daC (dV 0) (daC (dV 4) daN)))) [5] (gN 5) ct__law_outs_1 ce__law_outs_2) daN)))))
noncomputable def lb__law_outs_4 : DS :=
  (sFor (dIt (dCall f__law_reached (daC (dV 0) (daC (dV 3) daN)))) (gN 4) lb__law_outs_3)
noncomputable def den__law_outs : DS :=
  (sSeq (sSet 2 (dFz (dLst daN)))
  (sSeq (sFor (dIt (dV 1)) (gN 3) lb__law_outs_4)
  (sRet (dOp oSortSetN (daC (dV 2) daN)))))
noncomputable def f__law_outs : List D → FO := runD false 6 den__law_outs
theorem sc__law_outs : FnScope N__law_outs ["board", "ports"] (defScope (top 52)) := ⟨rfl, rfl, rfl, by decide +kernel, rfl, by decide +kernel, by decide +kernel⟩
theorem ok__law_outs {P : Program} {w : World} {K : PySem.W.Frag} {mg : Str → Option Value} {base : Heap} {f : Addr} {fd : FuncData} (Fu : Fun K "_law_outs" "_law_outs" (top 52) f fd)
    (c__law_reached : Cq P w K mg base "_law_reached" 3 ["board", "port"] (spP K mg false 2 f__law_reached)) (c__law_goals : Cq P w K mg base "_law_goals" 2 ["board", "state"] (spP K mg false 2 f__law_goals)) (m_isinstance : mg "isinstance" = none) (m_int : mg "int" = none) (m_sorted : mg "sorted" = none) (m_set : mg "set" = none) :
    FnOk P w K mg base (L2.CX P w) 4 f fd ["board", "ports"] (spP K mg false 2 f__law_outs) := by
  refine fn_den2 (k := 3) (N := N__law_outs) false den__law_outs Fu sc__law_outs (by simp) fun cdv A outer s H E F0 H0 ia T pin hr hpn => ?_
  have hK : (Cfg.mk K mg F0 H0 ia T pin).K = K := rfl
  have hmg : (Cfg.mk K mg F0 H0 ia T pin).mg = mg := rfl
  have hpin := hpn rfl
  have tk := takes_of (X := cxOf (L2.CX P w) P w K mg base N__law_outs "_law_outs" (defScope (top 52)) f cdv A outer s H E) rfl rfl rfl rfl
  have hx : Passes (L2.CX P w) (cxOf (L2.CX P w) P w K mg base N__law_outs "_law_outs" (defScope (top 52)) f cdv A outer s H E) E := passes_call tk (fun _ _ _ _ h => h)
  have hp : PassesOwn (model P w) (cxOf (L2.CX P w) P w K mg base N__law_outs "_law_outs" (defScope (top 52)) f cdv A outer s H E).A (cxOf (L2.CX P w) P w K mg base N__law_outs "_law_outs" (defScope (top 52)) f cdv A outer s H E).env (cxOf (L2.CX P w) P w K mg base N__law_outs "_law_outs" (defScope (top 52)) f cdv A outer s H E).xe := passes_of rfl
  have hu1 := hr.units
  have hu : (A.deeper (envOfC "_law_outs" (defScope (top 52)) s.heap.objs.size f cdv)).units + 65 < cLine := by have := hr.un; omega
  exact (ds_cons (ds_set (.inr hpin) sc__law_outs.nd (dx_fz (dx_lst da_nil)))
  (ds_cons (ds_for (.inr hpin) hp rfl (di_any hK (dx_var 1)) (dg_name (i := 3) sc__law_outs.nd)
  (ds_one (ds_for (.inr hpin) hp rfl (di_any hK (dx_call ⟨c__law_reached⟩ hK hmg (hr.mono (by decide)) hx (da_cons (dx_var 0) (da_cons (dx_var 3) da_nil)) (daLen_cons (daLen_cons daLen_nil)))) (dg_name (i := 4) sc__law_outs.nd)
  (ds_one (ds_set (.inr hpin) sc__law_outs.nd (dx_fz (dx_bin op_addA vok_add (dx_var 2) (dx_lc (own := [("goal", 5)]) rfl sc__law_outs.nd (di_any hK (dx_call ⟨c__law_goals⟩ hK hmg (hr.mono (by decide)) hx (da_cons (dx_var 0) (da_cons (dx_var 4) da_nil)) (daLen_cons (daLen_cons daLen_nil)))) (fun _ _ _ _ _ => (dg_name (i := 5) sc__law_outs.nd)) (bt_one fun _ _ _ _ _ => (dt_tru (dx_isi (T := "int") hK m_isinstance m_int (dx_var 5)) hK)) (fun _ _ _ _ _ => (dx_bin op_sub vok_I0 (dx_un un_neg vok_U dx_int) (dx_var 5))) (blkOk_by (by kernel_rfl))))))))))
  (ds_one (ds_ret (dx_sortSetN hK m_sorted m_set (dx_var 2) rfl)))))
/-! ### _law_alike (recursive) -/
def N__law_alike : List Str := ["found", "due", "at"]
def ct__law_alike_1 (rec : List D → FO) : DB :=
  (dNot (dTru (dCall rec (daC (dOp oIx (daC (dV 0) (daC (dV 2) daN))) (daC (dOp oIx (daC (dV 1) (daC (dV 2) daN))) daN)))))
def den__law_alike (rec : List D → FO) : DS :=
  (sSeq (sIf (dTru (dOp (oIsi "tuple") (daC (dV 1) daN)))
  (sSeq (sIf (dOr (dNot (dTru (dOp (oIsi "tuple") (daC (dV 0) daN)))) (dTst (dOp oNe (daC (dOp oLen (daC (dV 0) daN)) (daC (dOp oLen (daC (dV 1) daN)) daN)))))
  (sRet (dC (.bool false)))
  sNil)
  (sRet (dOp oEq (daC (dLc (dRg1 (daC (dOp oLen (daC (dV 1) daN)) daN)) [2] (gN 2) (ct__law_alike_1 rec) (dV 2)) (daC (dLst daN) daN)))))
  sNil)
  (sSeq (sIf (dOr (dTst (dOp oIsN (daC (dV 1) (daC (dC .none) daN)))) (dTru (dOp (oIsi "str") (daC (dV 1) daN))))
  (sRet (dAndV (dOp oEq (daC (dV 0) (daC (dV 1) daN))) (dOp oEq (daC (dOp (oIsi "str") (daC (dV 0) daN)) (daC (dOp (oIsi "str") (daC (dV 1) daN)) daN)))))
  sNil)
  (sRet (dAndV (dOp (oIsi "int") (daC (dV 0) daN)) (dAndV (dOp oEq (daC (dOp (oIsi "bool") (daC (dV 0) daN)) (daC (dOp (oIsi "bool") (daC (dV 1) daN)) daN))) (dOp oEq (daC (dV 0) (daC (dV 1) daN))))))))
def f__law_alike : Nat → List D → FO
  | 0 => fun _ => .no
  | n + 1 => runD false 3 (den__law_alike (f__law_alike n))
theorem sc__law_alike : FnScope N__law_alike ["found", "due"] (defScope (top 43)) := ⟨rfl, rfl, rfl, by decide +kernel, rfl, by decide +kernel, by decide +kernel⟩
theorem ok__law_alike {P : Program} {w : World} {K : PySem.W.Frag} {mg : Str → Option Value} {base : Heap} {f : Addr} {fd : FuncData} (Fu : Fun K "_law_alike" "_law_alike" (top 43) f fd) (hm : mg "_law_alike" = some (.ref f)) (hb : Binds K fd ["found", "due"] [])
    (m_isinstance : mg "isinstance" = none) (m_tuple : mg "tuple" = none) (m_len : mg "len" = none) (m_range : mg "range" = none) (m_str : mg "str" = none) (m_int : mg "int" = none) (m_bool : mg "bool" = none) : ∀ n : Nat,
    FnOk P w K mg base (L2.CX P w) (0 + n) f fd ["found", "due"] (spP K mg false 2 (f__law_alike n))
  | 0 => fnOk_no
  | n + 1 => by
    have c_rec : Cq P w K mg base "_law_alike" (0 + n) ["found", "due"] (spP K mg false 2 (f__law_alike n)) := ⟨f, fd, ok__law_alike Fu hm hb m_isinstance m_tuple m_len m_range m_str m_int m_bool n, hm, Fu.kp, hb⟩
    refine fn_den2 (k := 0 + n) (N := N__law_alike) false (den__law_alike (f__law_alike n)) Fu sc__law_alike (by simp) fun cdv A outer s H E F0 H0 ia T pin hr hpn => ?_
    generalize f__law_alike n = rec at c_rec ⊢
    have hK : (Cfg.mk K mg F0 H0 ia T pin).K = K := rfl
    have hmg : (Cfg.mk K mg F0 H0 ia T pin).mg = mg := rfl
    have hpin := hpn rfl
    have tk := takes_of (X := cxOf (L2.CX P w) P w K mg base N__law_alike "_law_alike" (defScope (top 43)) f cdv A outer s H E) rfl rfl rfl rfl
    have hx : Passes (L2.CX P w) (cxOf (L2.CX P w) P w K mg base N__law_alike "_law_alike" (defScope (top 43)) f cdv A outer s H E) E := passes_call tk (fun _ _ _ _ h => h)
    have hp : PassesOwn (model P w) (cxOf (L2.CX P w) P w K mg base N__law_alike "_law_alike" (defScope (top 43)) f cdv A outer s H E).A (cxOf (L2.CX P w) P w K mg base N__law_alike "_law_alike" (defScope (top 43)) f cdv A outer s H E).env (cxOf (L2.CX P w) P w K mg base N__law_alike "_law_alike" (defScope (top 43)) f cdv A outer s H E).xe := passes_of rfl
    have hu1 := hr.units
    have hu : (A.deeper (envOfC "_law_alike" (defScope (top 43)) s.heap.objs.size f cdv)).units + 65 < cLine := by have := hr.un; omega
    exact (ds_cons (ds_if (dt_tru (dx_isi (T := "tuple") hK m_isinstance m_tuple (dx_var 1)) hK)
  (ds_cons (ds_if (DTW.t (dw_or (dt_not (dt_tru (dx_isi (T := "tuple") hK m_isinstance m_tuple (dx_var 0)) hK)) (dw_or1 (dt_cmp (op_neA hu1) vok_ne (dx_callB call_len vok_len m_len (da_cons (dx_var 0) da_nil)) (dx_callB call_len vok_len m_len (da_cons (dx_var 1) da_nil))))))
  (ds_one (ds_ret dx_bl))
  ds_nil)
  (ds_one (ds_ret (dx_cmp (op_eqA hu1) vok_eq (dx_lc (own := [("at", 2)]) rfl sc__law_alike.nd (di_rg1 m_range (da_cons (dx_callB call_len vok_len m_len (da_cons (dx_var 1) da_nil)) da_nil)) (fun _ _ _ _ _ => (dg_name (i := 2) sc__law_alike.nd)) (bt_one fun _ _ _ _ _ => (dt_not (dt_tru (dx_call ⟨c_rec⟩ hK hmg (hr.mono (by omega)) passL (da_cons (dx_ix ix_seq vok_ix (dx_var 0) (dx_var 2)) (da_cons (dx_ix ix_seq vok_ix (dx_var 1) (dx_var 2)) da_nil)) (daLen_cons (daLen_cons daLen_nil))) hK))) (fun _ _ _ _ _ => (dx_var 2)) (blkOk_by (by kernel_rfl))) (dx_lst da_nil)))))
  ds_nil)
  (ds_cons (ds_if (DTW.t (dw_or (dt_cmp op_isN vok_isN (dx_var 1) dx_non) (dw_or1 (dt_tru (dx_isi (T := "str") hK m_isinstance m_str (dx_var 1)) hK))))
  (ds_one (ds_ret (dx_and (dx_cmp (op_eqA hu1) vok_eq (dx_var 0) (dx_var 1)) (dx_one (dx_cmp (op_eqA hu1) vok_eq (dx_isi (T := "str") hK m_isinstance m_str (dx_var 0)) (dx_isi (T := "str") hK m_isinstance m_str (dx_var 1)))))))
  ds_nil)
  (ds_one (ds_ret (dx_and (dx_isi (T := "int") hK m_isinstance m_int (dx_var 0)) (dx_and (dx_cmp (op_eqA hu1) vok_eq (dx_isi (T := "bool") hK m_isinstance m_bool (dx_var 0)) (dx_isi (T := "bool") hK m_isinstance m_bool (dx_var 1))) (dx_one (dx_cmp (op_eqA hu1) vok_eq (dx_var 0) (dx_var 1)))))))))
/-! ### need -/
def N_need : List Str := ["is_right", "name"]
def den_need : DS :=
  (sIf (dNot (dTru (dV 0)))
  (sRaise "BadArgument" ["name"] (daC (dV 1) daN))
  sNil)
def f_need : List D → FO := runD false 2 den_need
theorem sc_need : FnScope N_need ["is_right", "name"] (defScope (top 19)) := ⟨rfl, rfl, rfl, by decide +kernel, rfl, by decide +kernel, by decide +kernel⟩
theorem ok_need {P : Program} {w : World} {K : PySem.W.Frag} {mg : Str → Option Value} {base : Heap} {f : Addr} {fd : FuncData} (Fu : Fun K "need" "need" (top 19) f fd)
    {D_BadArgument : Addr} (x_BadArgument : Xq P w K mg base "BadArgument" D_BadArgument 1 ["name"]) :
    FnOk P w K mg base (L2.CX P w) 3 f fd ["is_right", "name"] (spP K mg false 2 f_need) := by
  refine fn_den2 (k := 2) (N := N_need) false den_need Fu sc_need (by simp) fun cdv A outer s H E F0 H0 ia T pin hr hpn => ?_
  have hK : (Cfg.mk K mg F0 H0 ia T pin).K = K := rfl
  have hmg : (Cfg.mk K mg F0 H0 ia T pin).mg = mg := rfl
  have hpin := hpn rfl
  have tk := takes_of (X := cxOf (L2.CX P w) P w K mg base N_need "need" (defScope (top 19)) f cdv A outer s H E) rfl rfl rfl rfl
  have hx : Passes (L2.CX P w) (cxOf (L2.CX P w) P w K mg base N_need "need" (defScope (top 19)) f cdv A outer s H E) E := passes_call tk (fun _ _ _ _ h => h)
  have hp : PassesOwn (model P w) (cxOf (L2.CX P w) P w K mg base N_need "need" (defScope (top 19)) f cdv A outer s H E).A (cxOf (L2.CX P w) P w K mg base N_need "need" (defScope (top 19)) f cdv A outer s H E).env (cxOf (L2.CX P w) P w K mg base N_need "need" (defScope (top 19)) f cdv A outer s H E).xe := passes_of rfl
  have hu1 := hr.units
  have hu : (A.deeper (envOfC "need" (defScope (top 19)) s.heap.objs.size f cdv)).units + 65 < cLine := by have := hr.un; omega
  exact (ds_one (ds_if (dt_not (dt_tru (dx_var 0) hK))
  (ds_one (ds_raise ⟨x_BadArgument⟩ hK hmg (hr.mono (by decide)) passL tk rfl (da_cons (dx_var 1) da_nil) (daLen_cons daLen_nil)))
  ds_nil))
/-! ### is_whole -/
def N_is_whole : List Str := ["value", "low", "high"]
def den_is_whole : DS :=
  (sRet (dAndV (dOp (oIsi "int") (daC (dV 0) daN)) (dAndV (dNotT (dOp (oIsi "bool") (daC (dV 0) daN))) (dChain oLe oLe (dV 1) (dV 0) (dV 2)))))
def f_is_whole : List D → FO := runD false 3 den_is_whole
theorem sc_is_whole : FnScope N_is_whole ["value", "low", "high"] (defScope (top 16)) := ⟨rfl, rfl, rfl, by decide +kernel, rfl, by decide +kernel, by decide +kernel⟩
theorem ok_is_whole {P : Program} {w : World} {K : PySem.W.Frag} {mg : Str → Option Value} {base : Heap} {f : Addr} {fd : FuncData} (Fu : Fun K "is_whole" "is_whole" (top 16) f fd)
    (m_isinstance : mg "isinstance" = none) (m_int : mg "int" = none) (m_bool : mg "bool" = none) :
    FnOk P w K mg base (L2.CX P w) 1 f fd ["value", "low", "high"] (spP K mg false 3 f_is_whole) := by
  refine fn_den2 (k := 0) (N := N_is_whole) false den_is_whole Fu sc_is_whole (by simp) fun cdv A outer s H E F0 H0 ia T pin hr hpn => ?_
  have hK : (Cfg.mk K mg F0 H0 ia T pin).K = K := rfl
  have hmg : (Cfg.mk K mg F0 H0 ia T pin).mg = mg := rfl
  have hpin := hpn rfl
  have tk := takes_of (X := cxOf (L2.CX P w) P w K mg base N_is_whole "is_whole" (defScope (top 16)) f cdv A outer s H E) rfl rfl rfl rfl
  have hx : Passes (L2.CX P w) (cxOf (L2.CX P w) P w K mg base N_is_whole "is_whole" (defScope (top 16)) f cdv A outer s H E) E := passes_call tk (fun _ _ _ _ h => h)
  have hp : PassesOwn (model P w) (cxOf (L2.CX P w) P w K mg base N_is_whole "is_whole" (defScope (top 16)) f cdv A outer s H E).A (cxOf (L2.CX P w) P w K mg base N_is_whole "is_whole" (defScope (top 16)) f cdv A outer s H E).env (cxOf (L2.CX P w) P w K mg base N_is_whole "is_whole" (defScope (top 16)) f cdv A outer s H E).xe := passes_of rfl
  have hu1 := hr.units
  have hu : (A.deeper (envOfC "is_whole" (defScope (top 16)) s.heap.objs.size f cdv)).units + 65 < cLine := by have := hr.un; omega
  exact (ds_one (ds_ret (dx_and (dx_isi (T := "int") hK m_isinstance m_int (dx_var 0)) (dx_and (dx_notT (dx_isi (T := "bool") hK m_isinstance m_bool (dx_var 0)) hK) (dx_one (dx_chain op_le vok_B0 op_le vok_B0 (dx_var 1) (dx_var 0) (dx_var 2)))))))
/-! ### parters -/
def N_parters : List Str := ["cells", "own"]
def ct_parters_1 : DB :=
  (dTst (dOp oGt (daC (dV 1) (daC (dC g_END) daN))))
def den_parters : DS :=
  (sRet (dOp oLen (daC (dLc (dIt (dV 0)) [1] (gN 1) ct_parters_1 (dV 1)) daN)))
def f_parters : List D → FO := runD false 2 den_parters
theorem sc_parters : FnScope N_parters ["cells"] (defScope (top 17)) := ⟨rfl, rfl, rfl, by decide +kernel, rfl, by decide +kernel, by decide +kernel⟩
theorem ok_parters {P : Program} {w : World} {K : PySem.W.Frag} {mg : Str → Option Value} {base : Heap} {f : Addr} {fd : FuncData} (Fu : Fun K "parters" "parters" (top 17) f fd)
    (gl_END : Glb K mg "END" g_END) (m_len : mg "len" = none) :
    FnOk P w K mg base (L2.CX P w) 1 f fd ["cells"] (spP K mg false 1 f_parters) := by
  refine fn_den2 (k := 0) (N := N_parters) false den_parters Fu sc_parters (by simp) fun cdv A outer s H E F0 H0 ia T pin hr hpn => ?_
  have hK : (Cfg.mk K mg F0 H0 ia T pin).K = K := rfl
  have hmg : (Cfg.mk K mg F0 H0 ia T pin).mg = mg := rfl
  have hpin := hpn rfl
  have tk := takes_of (X := cxOf (L2.CX P w) P w K mg base N_parters "parters" (defScope (top 17)) f cdv A outer s H E) rfl rfl rfl rfl
  have hx : Passes (L2.CX P w) (cxOf (L2.CX P w) P w K mg base N_parters "parters" (defScope (top 17)) f cdv A outer s H E) E := passes_call tk (fun _ _ _ _ h => h)
  have hp : PassesOwn (model P w) (cxOf (L2.CX P w) P w K mg base N_parters "parters" (defScope (top 17)) f cdv A outer s H E).A (cxOf (L2.CX P w) P w K mg base N_parters "parters" (defScope (top 17)) f cdv A outer s H E).env (cxOf (L2.CX P w) P w K mg base N_parters "parters" (defScope (top 17)) f cdv A outer s H E).xe := passes_of rfl
  have hu1 := hr.units
  have hu : (A.deeper (envOfC "parters" (defScope (top 17)) s.heap.objs.size f cdv)).units + 65 < cLine := by have := hr.un; omega
  exact (ds_one (ds_ret (dx_callB call_len vok_len m_len (da_cons (dx_lc (own := [("own", 1)]) rfl sc_parters.nd (di_any hK (dx_var 0)) (fun _ _ _ _ _ => (dg_name (i := 1) sc_parters.nd)) (bt_one fun _ _ _ _ _ => (dt_cmp op_gt vok_B0 (dx_var 1) (dx_glob gl_END hK))) (fun _ _ _ _ _ => (dx_var 1)) (blkOk_by (by kernel_rfl))) da_nil))))
/-! ### is_board -/
def N_is_board : List Str := ["value", "wide", "high", "cells", "own"]
def ce_is_board_1 : DE :=
  (dCall f_is_whole (daC (dV 4) (daC (dC g_EMPTY) (daC (dC g_PART_BACKSLASH) daN))))
def den_is_board : DS :=
  (sSeq (sIf (dOr (dNot (dTru (dOp (oIsi "tuple") (daC (dV 0) daN)))) (dTst (dOp oNe (daC (dOp oLen (daC (dV 0) daN)) (daC (dC (.int 3)) daN)))))
  (sRet (dC (.bool false)))
  sNil)
  (sSeq (sAsg (gT (gsC (gN 1) (gsC (gN 2) (gsC (gN 3) gsN))) 3) (dV 0))
  (sSeq (sIf (dOr (dNot (dTru (dCall f_is_whole (daC (dV 1) (daC (dC (.int 1)) (daC (dC g_MOST_SIDE) daN)))))) (dNot (dTru (dCall f_is_whole (daC (dV 2) (daC (dC (.int 1)) (daC (dC g_MOST_SIDE) daN)))))))
  (sRet (dC (.bool false)))
  sNil)
  (sSeq (sIf (dOr (dNot (dTru (dOp (oIsi "tuple") (daC (dV 3) daN)))) (dTst (dOp oNe (daC (dOp oLen (daC (dV 3) daN)) (daC (dOp oMul (daC (dV 1) (daC (dV 2) daN))) daN)))))
  (sRet (dC (.bool false)))
  sNil)
  (sRet (dAndV (dOp oAll (daC (dLc (dIt (dV 3)) [4] (gN 4) dYes ce_is_board_1) daN)) (dOp oLe (daC (dCall f_parters (daC (dV 3) daN)) (daC (dC g_MOST_PARTERS) daN)))))))))
def f_is_board : List D → FO := runD false 5 den_is_board
theorem sc_is_board : FnScope N_is_board ["value"] (defScope (top 18)) := ⟨rfl, rfl, rfl, by decide +kernel, rfl, by decide +kernel, by decide +kernel⟩
theorem ok_is_board {P : Program} {w : World} {K : PySem.W.Frag} {mg : Str → Option Value} {base : Heap} {f : Addr} {fd : FuncData} (Fu : Fun K "is_board" "is_board" (top 18) f fd)
    (c_is_whole : Cq P w K mg base "is_whole" 1 ["value", "low", "high"] (spP K mg false 3 f_is_whole)) (c_parters : Cq P w K mg base "parters" 1 ["cells"] (spP K mg false 1 f_parters)) (gl_MOST_SIDE : Glb K mg "MOST_SIDE" g_MOST_SIDE) (gl_EMPTY : Glb K mg "EMPTY" g_EMPTY) (gl_PART_BACKSLASH : Glb K mg "PART_BACKSLASH" g_PART_BACKSLASH) (gl_MOST_PARTERS : Glb K mg "MOST_PARTERS" g_MOST_PARTERS) (m_isinstance : mg "isinstance" = none) (m_tuple : mg "tuple" = none) (m_len : mg "len" = none) (m_all : mg "all" = none) :
    FnOk P w K mg base (L2.CX P w) 2 f fd ["value"] (spP K mg false 1 f_is_board) := by
  refine fn_den2 (k := 1) (N := N_is_board) false den_is_board Fu sc_is_board (by simp) fun cdv A outer s H E F0 H0 ia T pin hr hpn => ?_
  have hK : (Cfg.mk K mg F0 H0 ia T pin).K = K := rfl
  have hmg : (Cfg.mk K mg F0 H0 ia T pin).mg = mg := rfl
  have hpin := hpn rfl
  have tk := takes_of (X := cxOf (L2.CX P w) P w K mg base N_is_board "is_board" (defScope (top 18)) f cdv A outer s H E) rfl rfl rfl rfl
  have hx : Passes (L2.CX P w) (cxOf (L2.CX P w) P w K mg base N_is_board "is_board" (defScope (top 18)) f cdv A outer s H E) E := passes_call tk (fun _ _ _ _ h => h)
  have hp : PassesOwn (model P w) (cxOf (L2.CX P w) P w K mg base N_is_board "is_board" (defScope (top 18)) f cdv A outer s H E).A (cxOf (L2.CX P w) P w K mg base N_is_board "is_board" (defScope (top 18)) f cdv A outer s H E).env (cxOf (L2.CX P w) P w K mg base N_is_board "is_board" (defScope (top 18)) f cdv A outer s H E).xe := passes_of rfl
  have hu1 := hr.units
  have hu : (A.deeper (envOfC "is_board" (defScope (top 18)) s.heap.objs.size f cdv)).units + 65 < cLine := by have := hr.un; omega
  exact (ds_cons (ds_if (DTW.t (dw_or (dt_not (dt_tru (dx_isi (T := "tuple") hK m_isinstance m_tuple (dx_var 0)) hK)) (dw_or1 (dt_cmp (op_neA hu1) vok_ne (dx_callB call_len vok_len m_len (da_cons (dx_var 0) da_nil)) dx_int))))
  (ds_one (ds_ret dx_bl))
  ds_nil)
  (ds_cons (ds_asg (.inr hpin) (dx_var 0) (dg_tup hK rfl (dgs_cons (dg_name (i := 1) sc_is_board.nd) (dgs_cons (dg_name (i := 2) sc_is_board.nd) (dgs_cons (dg_name (i := 3) sc_is_board.nd) dgs_nil)))))
  (ds_cons (ds_if (DTW.t (dw_or (dt_not (dt_tru (dx_call ⟨c_is_whole⟩ hK hmg (hr.mono (by decide)) hx (da_cons (dx_var 1) (da_cons dx_int (da_cons (dx_glob gl_MOST_SIDE hK) da_nil))) (daLen_cons (daLen_cons (daLen_cons daLen_nil)))) hK)) (dw_or1 (dt_not (dt_tru (dx_call ⟨c_is_whole⟩ hK hmg (hr.mono (by decide)) hx (da_cons (dx_var 2) (da_cons dx_int (da_cons (dx_glob gl_MOST_SIDE hK) da_nil))) (daLen_cons (daLen_cons (daLen_cons daLen_nil)))) hK)))))
  (ds_one (ds_ret dx_bl))
  ds_nil)
  (ds_cons (ds_if (DTW.t (dw_or (dt_not (dt_tru (dx_isi (T := "tuple") hK m_isinstance m_tuple (dx_var 3)) hK)) (dw_or1 (dt_cmp (op_neA hu1) vok_ne (dx_callB call_len vok_len m_len (da_cons (dx_var 3) da_nil)) (dx_bin op_mulA vok_mul (dx_var 1) (dx_var 2))))))
  (ds_one (ds_ret dx_bl))
  ds_nil)
  (ds_one (ds_ret (dx_and (dx_callB (cr_all rfl) vok_all m_all (da_cons (dx_lc (own := [("own", 4)]) rfl sc_is_board.nd (di_any hK (dx_var 3)) (fun _ _ _ _ _ => (dg_name (i := 4) sc_is_board.nd)) bt_nil (fun _ _ _ _ _ => (dx_call ⟨c_is_whole⟩ hK hmg (hr.mono (by decide)) passL (da_cons (dx_var 4) (da_cons (dx_glob gl_EMPTY hK) (da_cons (dx_glob gl_PART_BACKSLASH hK) da_nil))) (daLen_cons (daLen_cons (daLen_cons daLen_nil))))) (blkOk_by (by kernel_rfl))) da_nil)) (dx_one (dx_cmp op_le vok_B0 (dx_call ⟨c_parters⟩ hK hmg (hr.mono (by decide)) hx (da_cons (dx_var 3) da_nil) (daLen_cons daLen_nil)) (dx_glob gl_MOST_PARTERS hK))))))))))
/-! ### need_board -/
def N_need_board : List Str := ["value", "name"]
def den_need_board : DS :=
  (sDrop (dCall f_need (daC (dCall f_is_board (daC (dV 0) daN)) (daC (dV 1) daN))))
def f_need_board : List D → FO := runD false 2 den_need_board
theorem sc_need_board : FnScope N_need_board ["value", "name"] (defScope (top 20)) := ⟨rfl, rfl, rfl, by decide +kernel, rfl, by decide +kernel, by decide +kernel⟩
theorem ok_need_board {P : Program} {w : World} {K : PySem.W.Frag} {mg : Str → Option Value} {base : Heap} {f : Addr} {fd : FuncData} (Fu : Fun K "need_board" "need_board" (top 20) f fd)
    (c_need : Cq P w K mg base "need" 3 ["is_right", "name"] (spP K mg false 2 f_need)) (c_is_board : Cq P w K mg base "is_board" 2 ["value"] (spP K mg false 1 f_is_board)) :
    FnOk P w K mg base (L2.CX P w) 4 f fd ["value", "name"] (spP K mg false 2 f_need_board) := by
  refine fn_den2 (k := 3) (N := N_need_board) false den_need_board Fu sc_need_board (by simp) fun cdv A outer s H E F0 H0 ia T pin hr hpn => ?_
  have hK : (Cfg.mk K mg F0 H0 ia T pin).K = K := rfl
  have hmg : (Cfg.mk K mg F0 H0 ia T pin).mg = mg := rfl
  have hpin := hpn rfl
  have tk := takes_of (X := cxOf (L2.CX P w) P w K mg base N_need_board "need_board" (defScope (top 20)) f cdv A outer s H E) rfl rfl rfl rfl
  have hx : Passes (L2.CX P w) (cxOf (L2.CX P w) P w K mg base N_need_board "need_board" (defScope (top 20)) f cdv A outer s H E) E := passes_call tk (fun _ _ _ _ h => h)
  have hp : PassesOwn (model P w) (cxOf (L2.CX P w) P w K mg base N_need_board "need_board" (defScope (top 20)) f cdv A outer s H E).A (cxOf (L2.CX P w) P w K mg base N_need_board "need_board" (defScope (top 20)) f cdv A outer s H E).env (cxOf (L2.CX P w) P w K mg base N_need_board "need_board" (defScope (top 20)) f cdv A outer s H E).xe := passes_of rfl
  have hu1 := hr.units
  have hu : (A.deeper (envOfC "need_board" (defScope (top 20)) s.heap.objs.size f cdv)).units + 65 < cLine := by have := hr.un; omega
  exact (ds_one (ds_expr (dx_call ⟨c_need⟩ hK hmg (hr.mono (by decide)) hx (da_cons (dx_call ⟨c_is_board⟩ hK hmg (hr.mono (by decide)) hx (da_cons (dx_var 0) da_nil) (daLen_cons daLen_nil)) (da_cons (dx_var 1) da_nil)) (daLen_cons (daLen_cons daLen_nil)))))
/-! ### port_count -/
def N_port_count : List Str := ["wide", "high"]
def den_port_count : DS :=
  (sRet (dOp oMul (daC (dC (.int 2)) (daC (dOp oAdd (daC (dV 0) (daC (dV 1) daN))) daN))))
def f_port_count : List D → FO := runD false 2 den_port_count
theorem sc_port_count : FnScope N_port_count ["wide", "high"] (defScope (top 21)) := ⟨rfl, rfl, rfl, by decide +kernel, rfl, by decide +kernel, by decide +kernel⟩
theorem ok_port_count {P : Program} {w : World} {K : PySem.W.Frag} {mg : Str → Option Value} {base : Heap} {f : Addr} {fd : FuncData} (Fu : Fun K "port_count" "port_count" (top 21) f fd)
     :
    FnOk P w K mg base (L2.CX P w) 1 f fd ["wide", "high"] (spP K mg false 2 f_port_count) := by
  refine fn_den2 (k := 0) (N := N_port_count) false den_port_count Fu sc_port_count (by simp) fun cdv A outer s H E F0 H0 ia T pin hr hpn => ?_
  have hK : (Cfg.mk K mg F0 H0 ia T pin).K = K := rfl
  have hmg : (Cfg.mk K mg F0 H0 ia T pin).mg = mg := rfl
  have hpin := hpn rfl
  have tk := takes_of (X := cxOf (L2.CX P w) P w K mg base N_port_count "port_count" (defScope (top 21)) f cdv A outer s H E) rfl rfl rfl rfl
  have hx : Passes (L2.CX P w) (cxOf (L2.CX P w) P w K mg base N_port_count "port_count" (defScope (top 21)) f cdv A outer s H E) E := passes_call tk (fun _ _ _ _ h => h)
  have hp : PassesOwn (model P w) (cxOf (L2.CX P w) P w K mg base N_port_count "port_count" (defScope (top 21)) f cdv A outer s H E).A (cxOf (L2.CX P w) P w K mg base N_port_count "port_count" (defScope (top 21)) f cdv A outer s H E).env (cxOf (L2.CX P w) P w K mg base N_port_count "port_count" (defScope (top 21)) f cdv A outer s H E).xe := passes_of rfl
  have hu1 := hr.units
  have hu : (A.deeper (envOfC "port_count" (defScope (top 21)) s.heap.objs.size f cdv)).units + 65 < cLine := by have := hr.un; omega
  exact (ds_one (ds_ret (dx_bin op_mulA vok_mul dx_int (dx_bin op_addA vok_add (dx_var 0) (dx_var 1)))))
/-! ### entry -/
def N_entry : List Str := ["wide", "high", "port"]
def den_entry : DS :=
  (sSeq (sIf (dTst (dOp oLt (daC (dV 2) (daC (dV 0) daN))))
  (sRet (dTup (daC (dV 2) (daC (dC g_DOWN) daN))))
  sNil)
  (sSeq (sIf (dTst (dOp oLt (daC (dV 2) (daC (dOp oAdd (daC (dV 0) (daC (dV 1) daN))) daN))))
  (sRet (dTup (daC (dOp oSub (daC (dOp oAdd (daC (dOp oMul (daC (dOp oSub (daC (dV 2) (daC (dV 0) daN))) (daC (dV 0) daN))) (daC (dV 0) daN))) (daC (dC (.int 1)) daN))) (daC (dC g_LEFT) daN))))
  sNil)
  (sSeq (sIf (dTst (dOp oLt (daC (dV 2) (daC (dOp oAdd (daC (dOp oMul (daC (dC (.int 2)) (daC (dV 0) daN))) (daC (dV 1) daN))) daN))))
  (sRet (dTup (daC (dOp oSub (daC (dOp oSub (daC (dOp oAdd (daC (dOp oMul (daC (dOp oSub (daC (dV 1) (daC (dC (.int 1)) daN))) (daC (dV 0) daN))) (daC (dV 2) daN))) (daC (dV 0) daN))) (daC (dV 1) daN))) (daC (dC g_UP) daN))))
  sNil)
  (sRet (dTup (daC (dOp oMul (daC (dOp oSub (daC (dOp oSub (daC (dV 2) (daC (dOp oMul (daC (dC (.int 2)) (daC (dV 0) daN))) daN))) (daC (dV 1) daN))) (daC (dV 0) daN))) (daC (dC g_RIGHT) daN)))))))
def f_entry : List D → FO := runD false 3 den_entry
theorem sc_entry : FnScope N_entry ["wide", "high", "port"] (defScope (top 23)) := ⟨rfl, rfl, rfl, by decide +kernel, rfl, by decide +kernel, by decide +kernel⟩
theorem ok_entry {P : Program} {w : World} {K : PySem.W.Frag} {mg : Str → Option Value} {base : Heap} {f : Addr} {fd : FuncData} (Fu : Fun K "entry" "entry" (top 23) f fd)
    (gl_DOWN : Glb K mg "DOWN" g_DOWN) (gl_LEFT : Glb K mg "LEFT" g_LEFT) (gl_UP : Glb K mg "UP" g_UP) (gl_RIGHT : Glb K mg "RIGHT" g_RIGHT) :
    FnOk P w K mg base (L2.CX P w) 1 f fd ["wide", "high", "port"] (spP K mg false 3 f_entry) := by
  refine fn_den2 (k := 0) (N := N_entry) false den_entry Fu sc_entry (by simp) fun cdv A outer s H E F0 H0 ia T pin hr hpn => ?_
  have hK : (Cfg.mk K mg F0 H0 ia T pin).K = K := rfl
  have hmg : (Cfg.mk K mg F0 H0 ia T pin).mg = mg := rfl
  have hpin := hpn rfl
  have tk := takes_of (X := cxOf (L2.CX P w) P w K mg base N_entry "entry" (defScope (top 23)) f cdv A outer s H E) rfl rfl rfl rfl
  have hx : Passes (L2.CX P w) (cxOf (L2.CX P w) P w K mg base N_entry "entry" (defScope (top 23)) f cdv A outer s H E) E := passes_call tk (fun _ _ _ _ h => h)
  have hp : PassesOwn (model P w) (cxOf (L2.CX P w) P w K mg base N_entry "entry" (defScope (top 23)) f cdv A outer s H E).A (cxOf (L2.CX P w) P w K mg base N_entry "entry" (defScope (top 23)) f cdv A outer s H E).env (cxOf (L2.CX P w) P w K mg base N_entry "entry" (defScope (top 23)) f cdv A outer s H E).xe := passes_of rfl
  have hu1 := hr.units
  have hu : (A.deeper (envOfC "entry" (defScope (top 23)) s.heap.objs.size f cdv)).units + 65 < cLine := by have := hr.un; omega
  exact (ds_cons (ds_if (dt_cmp op_lt vok_B0 (dx_var 2) (dx_var 0))
  (ds_one (ds_ret (dx_tup (da_cons (dx_var 2) (da_cons (dx_glob gl_DOWN hK) da_nil)))))
  ds_nil)
  (ds_cons (ds_if (dt_cmp op_lt vok_B0 (dx_var 2) (dx_bin op_addA vok_add (dx_var 0) (dx_var 1)))
  (ds_one (ds_ret (dx_tup (da_cons (dx_bin op_sub vok_I0 (dx_bin op_addA vok_add (dx_bin op_mulA vok_mul (dx_bin op_sub vok_I0 (dx_var 2) (dx_var 0)) (dx_var 0)) (dx_var 0)) dx_int) (da_cons (dx_glob gl_LEFT hK) da_nil)))))
  ds_nil)
  (ds_cons (ds_if (dt_cmp op_lt vok_B0 (dx_var 2) (dx_bin op_addA vok_add (dx_bin op_mulA vok_mul dx_int (dx_var 0)) (dx_var 1)))
  (ds_one (ds_ret (dx_tup (da_cons (dx_bin op_sub vok_I0 (dx_bin op_sub vok_I0 (dx_bin op_addA vok_add (dx_bin op_mulA vok_mul (dx_bin op_sub vok_I0 (dx_var 1) dx_int) (dx_var 0)) (dx_var 2)) (dx_var 0)) (dx_var 1)) (da_cons (dx_glob gl_UP hK) da_nil)))))
  ds_nil)
  (ds_one (ds_ret (dx_tup (da_cons (dx_bin op_mulA vok_mul (dx_bin op_sub vok_I0 (dx_bin op_sub vok_I0 (dx_var 2) (dx_bin op_mulA vok_mul dx_int (dx_var 0))) (dx_var 1)) (dx_var 0)) (da_cons (dx_glob gl_RIGHT hK) da_nil))))))))
/-! ### headings -/
def N_headings : List Str := ["element", "heading", "turned"]
def den_headings : DS :=
  (sSeq (sIf (dTst (dOp oEq (daC (dV 0) (daC (dC g_EMPTY) daN))))
  (sRet (dTup (daC (dV 1) daN)))
  sNil)
  (sSeq (sIf (dTst (dOp oEq (daC (dV 0) (daC (dC g_END) daN))))
  (sRet (dTup daN))
  sNil)
  (sSeq (sSet 2 (dIxT (tIfT (dTst (dOp oIn (daC (dV 0) (daC (dTup (daC (dC g_SLASH) (daC (dC g_PART_SLASH) daN))) daN)))) (tG gt_BY_SLASH) (tG gt_BY_BACKSLASH)) (dV 1)))
  (sRet (dIf (dTst (dOp oGt (daC (dV 0) (daC (dC g_END) daN)))) (dTup (daC (dV 1) (daC (dV 2) daN))) (dTup (daC (dV 2) daN)))))))
def f_headings : List D → FO := runD false 3 den_headings
theorem sc_headings : FnScope N_headings ["element", "heading"] (defScope (top 25)) := ⟨rfl, rfl, rfl, by decide +kernel, rfl, by decide +kernel, by decide +kernel⟩
theorem ok_headings {P : Program} {w : World} {K : PySem.W.Frag} {mg : Str → Option Value} {base : Heap} {f : Addr} {fd : FuncData} (Fu : Fun K "headings" "headings" (top 25) f fd)
    (gl_EMPTY : Glb K mg "EMPTY" g_EMPTY) (gl_END : Glb K mg "END" g_END) (gl_SLASH : Glb K mg "SLASH" g_SLASH) (gl_PART_SLASH : Glb K mg "PART_SLASH" g_PART_SLASH) (glt_BY_SLASH : GlT K mg "BY_SLASH" gt_BY_SLASH) (glt_BY_BACKSLASH : GlT K mg "BY_BACKSLASH" gt_BY_BACKSLASH) :
    FnOk P w K mg base (L2.CX P w) 1 f fd ["element", "heading"] (spP K mg false 2 f_headings) := by
  refine fn_den2 (k := 0) (N := N_headings) false den_headings Fu sc_headings (by simp) fun cdv A outer s H E F0 H0 ia T pin hr hpn => ?_
  have hK : (Cfg.mk K mg F0 H0 ia T pin).K = K := rfl
  have hmg : (Cfg.mk K mg F0 H0 ia T pin).mg = mg := rfl
  have hpin := hpn rfl
  have tk := takes_of (X := cxOf (L2.CX P w) P w K mg base N_headings "headings" (defScope (top 25)) f cdv A outer s H E) rfl rfl rfl rfl
  have hx : Passes (L2.CX P w) (cxOf (L2.CX P w) P w K mg base N_headings "headings" (defScope (top 25)) f cdv A outer s H E) E := passes_call tk (fun _ _ _ _ h => h)
  have hp : PassesOwn (model P w) (cxOf (L2.CX P w) P w K mg base N_headings "headings" (defScope (top 25)) f cdv A outer s H E).A (cxOf (L2.CX P w) P w K mg base N_headings "headings" (defScope (top 25)) f cdv A outer s H E).env (cxOf (L2.CX P w) P w K mg base N_headings "headings" (defScope (top 25)) f cdv A outer s H E).xe := passes_of rfl
  have hu1 := hr.units
  have hu : (A.deeper (envOfC "headings" (defScope (top 25)) s.heap.objs.size f cdv)).units + 65 < cLine := by have := hr.un; omega
  exact (ds_cons (ds_if (dt_cmp (op_eqA hu1) vok_eq (dx_var 0) (dx_glob gl_EMPTY hK))
  (ds_one (ds_ret (dx_tup (da_cons (dx_var 1) da_nil))))
  ds_nil)
  (ds_cons (ds_if (dt_cmp (op_eqA hu1) vok_eq (dx_var 0) (dx_glob gl_END hK))
  (ds_one (ds_ret (dx_tup da_nil)))
  ds_nil)
  (ds_cons (ds_set (.inr hpin) sc_headings.nd (dx_ixT hK (xt_if (dt_cmp (op_inA hu) vok_in (dx_var 0) (dx_tup (da_cons (dx_glob gl_SLASH hK) (da_cons (dx_glob gl_PART_SLASH hK) da_nil)))) (xt_glob glt_BY_SLASH hK) (xt_glob glt_BY_BACKSLASH hK)) (dx_var 1)))
  (ds_one (ds_ret (dx_if (dt_cmp op_gt vok_B0 (dx_var 0) (dx_glob gl_END hK)) (dx_tup (da_cons (dx_var 1) (da_cons (dx_var 2) da_nil))) (dx_tup (da_cons (dx_var 2) da_nil))))))))
/-! ### onward -/
def N_onward : List Str := ["wide", "high", "cell", "heading", "column", "row"]
def den_onward : DS :=
  (sSeq (sPar [4, 5] (daC (dOp oMod (daC (dV 2) (daC (dV 0) daN))) (daC (dOp oDiv (daC (dV 2) (daC (dV 0) daN))) daN)))
  (sSeq (sIf (dTst (dOp oEq (daC (dV 3) (daC (dC g_UP) daN))))
  (sRet (dIf (dTst (dOp oGt (daC (dV 5) (daC (dC (.int 0)) daN)))) (dTup (daC (dOp oSub (daC (dV 2) (daC (dV 0) daN))) (daC (dC g_UP) daN))) (dTup (daC (dC .none) (daC (dV 4) daN)))))
  sNil)
  (sSeq (sIf (dTst (dOp oEq (daC (dV 3) (daC (dC g_RIGHT) daN))))
  (sRet (dIf (dTst (dOp oLt (daC (dV 4) (daC (dOp oSub (daC (dV 0) (daC (dC (.int 1)) daN))) daN)))) (dTup (daC (dOp oAdd (daC (dV 2) (daC (dC (.int 1)) daN))) (daC (dC g_RIGHT) daN))) (dTup (daC (dC .none) (daC (dOp oAdd (daC (dV 0) (daC (dV 5) daN))) daN)))))
  sNil)
  (sSeq (sIf (dTst (dOp oEq (daC (dV 3) (daC (dC g_DOWN) daN))))
  (sRet (dIf (dTst (dOp oLt (daC (dV 5) (daC (dOp oSub (daC (dV 1) (daC (dC (.int 1)) daN))) daN)))) (dTup (daC (dOp oAdd (daC (dV 2) (daC (dV 0) daN))) (daC (dC g_DOWN) daN))) (dTup (daC (dC .none) (daC (dOp oAdd (daC (dOp oAdd (daC (dV 0) (daC (dV 1) daN))) (daC (dV 4) daN))) daN)))))
  sNil)
  (sRet (dIf (dTst (dOp oGt (daC (dV 4) (daC (dC (.int 0)) daN)))) (dTup (daC (dOp oSub (daC (dV 2) (daC (dC (.int 1)) daN))) (daC (dC g_LEFT) daN))) (dTup (daC (dC .none) (daC (dOp oAdd (daC (dOp oAdd (daC (dOp oMul (daC (dC (.int 2)) (daC (dV 0) daN))) (daC (dV 1) daN))) (daC (dV 5) daN))) daN)))))))))
def f_onward : List D → FO := runD false 6 den_onward
theorem sc_onward : FnScope N_onward ["wide", "high", "cell", "heading"] (defScope (top 24)) := ⟨rfl, rfl, rfl, by decide +kernel, rfl, by decide +kernel, by decide +kernel⟩
theorem ok_onward {P : Program} {w : World} {K : PySem.W.Frag} {mg : Str → Option Value} {base : Heap} {f : Addr} {fd : FuncData} (Fu : Fun K "onward" "onward" (top 24) f fd)
    (gl_UP : Glb K mg "UP" g_UP) (gl_RIGHT : Glb K mg "RIGHT" g_RIGHT) (gl_DOWN : Glb K mg "DOWN" g_DOWN) (gl_LEFT : Glb K mg "LEFT" g_LEFT) :
    FnOk P w K mg base (L2.CX P w) 1 f fd ["wide", "high", "cell", "heading"] (spP K mg false 4 f_onward) := by
  refine fn_den2 (k := 0) (N := N_onward) false den_onward Fu sc_onward (by simp) fun cdv A outer s H E F0 H0 ia T pin hr hpn => ?_
  have hK : (Cfg.mk K mg F0 H0 ia T pin).K = K := rfl
  have hmg : (Cfg.mk K mg F0 H0 ia T pin).mg = mg := rfl
  have hpin := hpn rfl
  have tk := takes_of (X := cxOf (L2.CX P w) P w K mg base N_onward "onward" (defScope (top 24)) f cdv A outer s H E) rfl rfl rfl rfl
  have hx : Passes (L2.CX P w) (cxOf (L2.CX P w) P w K mg base N_onward "onward" (defScope (top 24)) f cdv A outer s H E) E := passes_call tk (fun _ _ _ _ h => h)
  have hp : PassesOwn (model P w) (cxOf (L2.CX P w) P w K mg base N_onward "onward" (defScope (top 24)) f cdv A outer s H E).A (cxOf (L2.CX P w) P w K mg base N_onward "onward" (defScope (top 24)) f cdv A outer s H E).env (cxOf (L2.CX P w) P w K mg base N_onward "onward" (defScope (top 24)) f cdv A outer s H E).xe := passes_of rfl
  have hu1 := hr.units
  have hu : (A.deeper (envOfC "onward" (defScope (top 24)) s.heap.objs.size f cdv)).units + 65 < cLine := by have := hr.un; omega
  exact (ds_cons (ds_par2 (.inr hpin) rfl sc_onward.nd (da_cons (dx_bin op_modN vok_mod (dx_var 2) (dx_var 0)) (da_cons (dx_bin op_divA vok_div (dx_var 2) (dx_var 0)) da_nil)) (daLen_cons (daLen_cons daLen_nil)))
  (ds_cons (ds_if (dt_cmp (op_eqA hu1) vok_eq (dx_var 3) (dx_glob gl_UP hK))
  (ds_one (ds_ret (dx_if (dt_cmp op_gt vok_B0 (dx_var 5) dx_int) (dx_tup (da_cons (dx_bin op_sub vok_I0 (dx_var 2) (dx_var 0)) (da_cons (dx_glob gl_UP hK) da_nil))) (dx_tup (da_cons dx_non (da_cons (dx_var 4) da_nil))))))
  ds_nil)
  (ds_cons (ds_if (dt_cmp (op_eqA hu1) vok_eq (dx_var 3) (dx_glob gl_RIGHT hK))
  (ds_one (ds_ret (dx_if (dt_cmp op_lt vok_B0 (dx_var 4) (dx_bin op_sub vok_I0 (dx_var 0) dx_int)) (dx_tup (da_cons (dx_bin op_addA vok_add (dx_var 2) dx_int) (da_cons (dx_glob gl_RIGHT hK) da_nil))) (dx_tup (da_cons dx_non (da_cons (dx_bin op_addA vok_add (dx_var 0) (dx_var 5)) da_nil))))))
  ds_nil)
  (ds_cons (ds_if (dt_cmp (op_eqA hu1) vok_eq (dx_var 3) (dx_glob gl_DOWN hK))
  (ds_one (ds_ret (dx_if (dt_cmp op_lt vok_B0 (dx_var 5) (dx_bin op_sub vok_I0 (dx_var 1) dx_int)) (dx_tup (da_cons (dx_bin op_addA vok_add (dx_var 2) (dx_var 0)) (da_cons (dx_glob gl_DOWN hK) da_nil))) (dx_tup (da_cons dx_non (da_cons (dx_bin op_addA vok_add (dx_bin op_addA vok_add (dx_var 0) (dx_var 1)) (dx_var 4)) da_nil))))))
  ds_nil)
  (ds_one (ds_ret (dx_if (dt_cmp op_gt vok_B0 (dx_var 4) dx_int) (dx_tup (da_cons (dx_bin op_sub vok_I0 (dx_var 2) dx_int) (da_cons (dx_glob gl_LEFT hK) da_nil))) (dx_tup (da_cons dx_non (da_cons (dx_bin op_addA vok_add (dx_bin op_addA vok_add (dx_bin op_mulA vok_mul dx_int (dx_var 0)) (dx_var 1)) (dx_var 5)) da_nil))))))))))
/-! ### outs -/
def N_outs : List Str := ["board", "ports", "found", "seen", "line", "own", "way", "cell", "heading", "port"]
noncomputable def ce_outs_1 : DE :=
  (dCall f_entry (daC (dOp oIx (daC (dV 0) (daC (dC (.int 0)) daN))) (daC (dOp oIx (daC (dV 0) (daC (dC (.int 1)) daN))) (daC (dV 9) daN))))
noncomputable def lb_outs_2 : DS :=
  (sSeq (sAsg (gT (gsC (gN 7) (gsC (gN 8) gsN)) 2) (dCall f_onward (daC (dOp oIx (daC (dV 0) (daC (dC (.int 0)) daN))) (daC (dOp oIx (daC (dV 0) (daC (dC (.int 1)) daN))) (daC (dOp oIx (daC (dV 5) (daC (dC (.int 0)) daN))) (daC (dV 6) daN))))))
  (sIf (dTst (dOp oIsN (daC (dV 7) (daC (dC .none) daN))))
  (sIxD 2 (dC (.bool true)) (dV 8))
  (sDrop (dMut "list" 4 mAppend (daC (dTup (daC (dV 7) (daC (dV 8) daN))) daN)))))
noncomputable def lb_outs_3 : DS :=
  (sSeq (sSet 5 (dMut "list" 4 mPop daN))
  (sIf (dTst (dOp oDNotIn (daC (dV 5) (daC (dV 3) daN))))
  (sSeq (sIxD 3 (dC (.bool true)) (dV 5))
  (sFor (dIt (dCall f_headings (daC (dOp oIx (daC (dOp oIx (daC (dV 0) (daC (dC (.int 2)) daN))) (daC (dOp oIx (daC (dV 5) (daC (dC (.int 0)) daN))) daN))) (daC (dOp oIx (daC (dV 5) (daC (dC (.int 1)) daN))) daN)))) (gN 6) lb_outs_2))
  sNil))
noncomputable def lt_outs_4 : DB :=
  (dTru (dV 4))
noncomputable def den_outs : DS :=
  (sSeq (sPar [2, 3] (daC dDNewK (daC dDNewT daN)))
  (sSeq (sSet 4 (dLc (dIt (dV 1)) [9] (gN 9) dYes ce_outs_1))
  (sSeq (sWh lt_outs_4 lb_outs_3)
  (sRet (dV 2)))))
noncomputable def f_outs : List D → FO := runD false 10 den_outs
theorem sc_outs : FnScope N_outs ["board", "ports"] (defScope (top 31)) := ⟨rfl, rfl, rfl, by decide +kernel, rfl, by decide +kernel, by decide +kernel⟩
theorem ok_outs {P : Program} {w : World} {K : PySem.W.Frag} {mg : Str → Option Value} {base : Heap} {f : Addr} {fd : FuncData} (Fu : Fun K "outs" "outs" (top 31) f fd)
    (c_entry : Cq P w K mg base "entry" 1 ["wide", "high", "port"] (spP K mg false 3 f_entry)) (c_headings : Cq P w K mg base "headings" 1 ["element", "heading"] (spP K mg false 2 f_headings)) (c_onward : Cq P w K mg base "onward" 1 ["wide", "high", "cell", "heading"] (spP K mg false 4 f_onward)) :
    FnOk P w K mg base (L2.CX P w) 2 f fd ["board", "ports"] (spP K mg false 2 f_outs) := by
  refine fn_den2 (k := 1) (N := N_outs) false den_outs Fu sc_outs (by simp) fun cdv A outer s H E F0 H0 ia T pin hr hpn => ?_
  have hK : (Cfg.mk K mg F0 H0 ia T pin).K = K := rfl
  have hmg : (Cfg.mk K mg F0 H0 ia T pin).mg = mg := rfl
  have hpin := hpn rfl
  have tk := takes_of (X := cxOf (L2.CX P w) P w K mg base N_outs "outs" (defScope (top 31)) f cdv A outer s H E) rfl rfl rfl rfl
  have hx : Passes (L2.CX P w) (cxOf (L2.CX P w) P w K mg base N_outs "outs" (defScope (top 31)) f cdv A outer s H E) E := passes_call tk (fun _ _ _ _ h => h)
  have hp : PassesOwn (model P w) (cxOf (L2.CX P w) P w K mg base N_outs "outs" (defScope (top 31)) f cdv A outer s H E).A (cxOf (L2.CX P w) P w K mg base N_outs "outs" (defScope (top 31)) f cdv A outer s H E).env (cxOf (L2.CX P w) P w K mg base N_outs "outs" (defScope (top 31)) f cdv A outer s H E).xe := passes_of rfl
  have hu1 := hr.units
  have hu : (A.deeper (envOfC "outs" (defScope (top 31)) s.heap.objs.size f cdv)).units + 65 < cLine := by have := hr.un; omega
  exact (ds_cons (ds_par2 (.inr hpin) rfl sc_outs.nd (da_cons dx_dnewK (da_cons dx_dnewT da_nil)) (daLen_cons (daLen_cons daLen_nil)))
  (ds_cons (ds_setLc (own := [("port", 9)]) false (.inr hpin) rfl sc_outs.nd (di_any hK (dx_var 1)) (fun _ _ _ _ _ => (dg_name (i := 9) sc_outs.nd)) bt_nil (fun _ _ _ _ _ => (dx_call ⟨c_entry⟩ hK hmg (hr.mono (by decide)) passL (da_cons (dx_ix ix_seq vok_ix (dx_var 0) dx_int) (da_cons (dx_ix ix_seq vok_ix (dx_var 0) dx_int) (da_cons (dx_var 9) da_nil))) (daLen_cons (daLen_cons (daLen_cons daLen_nil))))) (blkOk_by (by kernel_rfl)))
  (ds_cons (ds_while hp (dt_tru (dx_var 4) hK)
  (ds_cons (ds_set (.inr hpin) sc_outs.nd (dx_mut0 (k := 4) mok_pop hK mt_pop PySem.F.plainAttrs_list PySem.F.slot_list_pop PySem.F.type_list_pop))
  (ds_one (ds_if (dt_dnotIn hu (dx_var 5) (dx_var 3))
  (ds_cons (ds_ixD (k := 3) hu dx_bl (dx_var 5))
  (ds_one (ds_for (.inr hpin) hp rfl (di_any hK (dx_call ⟨c_headings⟩ hK hmg (hr.mono (by decide)) hx (da_cons (dx_ix ix_seq vok_ix (dx_ix ix_seq vok_ix (dx_var 0) dx_int) (dx_ix ix_seq vok_ix (dx_var 5) dx_int)) (da_cons (dx_ix ix_seq vok_ix (dx_var 5) dx_int) da_nil)) (daLen_cons (daLen_cons daLen_nil)))) (dg_name (i := 6) sc_outs.nd)
  (ds_cons (ds_asg (.inr hpin) (dx_call ⟨c_onward⟩ hK hmg (hr.mono (by decide)) hx (da_cons (dx_ix ix_seq vok_ix (dx_var 0) dx_int) (da_cons (dx_ix ix_seq vok_ix (dx_var 0) dx_int) (da_cons (dx_ix ix_seq vok_ix (dx_var 5) dx_int) (da_cons (dx_var 6) da_nil)))) (daLen_cons (daLen_cons (daLen_cons (daLen_cons daLen_nil))))) (dg_tup hK rfl (dgs_cons (dg_name (i := 7) sc_outs.nd) (dgs_cons (dg_name (i := 8) sc_outs.nd) dgs_nil))))
  (ds_one (ds_if (dt_cmp op_isN vok_isN (dx_var 7) dx_non)
  (ds_one (ds_ixD (k := 2) hu dx_bl (dx_var 8)))
  (ds_one (ds_expr (dx_mut (k := 4) mok_append hK mt_append PySem.F.plainAttrs_list PySem.F.slot_list_append PySem.F.type_list_append (da_cons (dx_tup (da_cons (dx_var 7) (da_cons (dx_var 8) da_nil))) da_nil))))))))))
  ds_nil))))
  (ds_one (ds_ret (dx_var 2))))))
/-! ### blocked -/
def N_blocked : List Str := ["board", "some", "at", "own"]
def ce_blocked_1 : DE :=
  (dIf (dTst (dOp oIn (daC (dV 2) (daC (dV 1) daN)))) (dC g_END) (dV 3))
def den_blocked : DS :=
  (sRet (dTup (daC (dOp oIx (daC (dV 0) (daC (dC (.int 0)) daN))) (daC (dOp oIx (daC (dV 0) (daC (dC (.int 1)) daN))) (daC (dOp oTuple (daC (dLc (dEn (daC (dOp oIx (daC (dV 0) (daC (dC (.int 2)) daN))) daN)) [2, 3] (gT (gsC (gN 2) (gsC (gN 3) gsN)) 2) dYes ce_blocked_1) daN)) daN)))))
def f_blocked : List D → FO := runD false 4 den_blocked
theorem sc_blocked : FnScope N_blocked ["board", "some"] (defScope (top 30)) := ⟨rfl, rfl, rfl, by decide +kernel, rfl, by decide +kernel, by decide +kernel⟩
theorem ok_blocked {P : Program} {w : World} {K : PySem.W.Frag} {mg : Str → Option Value} {base : Heap} {f : Addr} {fd : FuncData} (Fu : Fun K "blocked" "blocked" (top 30) f fd)
    (gl_END : Glb K mg "END" g_END) (m_enumerate : mg "enumerate" = none) (m_tuple : mg "tuple" = none) :
    FnOk P w K mg base (L2.CX P w) 1 f fd ["board", "some"] (spP K mg false 2 f_blocked) := by
  refine fn_den2 (k := 0) (N := N_blocked) false den_blocked Fu sc_blocked (by simp) fun cdv A outer s H E F0 H0 ia T pin hr hpn => ?_
  have hK : (Cfg.mk K mg F0 H0 ia T pin).K = K := rfl
  have hmg : (Cfg.mk K mg F0 H0 ia T pin).mg = mg := rfl
  have hpin := hpn rfl
  have tk := takes_of (X := cxOf (L2.CX P w) P w K mg base N_blocked "blocked" (defScope (top 30)) f cdv A outer s H E) rfl rfl rfl rfl
  have hx : Passes (L2.CX P w) (cxOf (L2.CX P w) P w K mg base N_blocked "blocked" (defScope (top 30)) f cdv A outer s H E) E := passes_call tk (fun _ _ _ _ h => h)
  have hp : PassesOwn (model P w) (cxOf (L2.CX P w) P w K mg base N_blocked "blocked" (defScope (top 30)) f cdv A outer s H E).A (cxOf (L2.CX P w) P w K mg base N_blocked "blocked" (defScope (top 30)) f cdv A outer s H E).env (cxOf (L2.CX P w) P w K mg base N_blocked "blocked" (defScope (top 30)) f cdv A outer s H E).xe := passes_of rfl
  have hu1 := hr.units
  have hu : (A.deeper (envOfC "blocked" (defScope (top 30)) s.heap.objs.size f cdv)).units + 65 < cLine := by have := hr.un; omega
  exact (ds_one (ds_ret (dx_tup (da_cons (dx_ix ix_seq vok_ix (dx_var 0) dx_int) (da_cons (dx_ix ix_seq vok_ix (dx_var 0) dx_int) (da_cons (dx_callTy call_tuple_of vok_tuple m_tuple (da_cons (dx_lc (own := [("at", 2), ("own", 3)]) rfl sc_blocked.nd (di_enum hK m_enumerate (da_cons (dx_ix ix_seq vok_ix (dx_var 0) dx_int) da_nil)) (fun _ _ _ _ _ => (dg_tup hK rfl (dgs_cons (dg_name (i := 2) sc_blocked.nd) (dgs_cons (dg_name (i := 3) sc_blocked.nd) dgs_nil)))) bt_nil (fun _ _ _ _ _ => (dx_if (dt_cmp (op_inA hu) vok_in (dx_var 2) (dx_var 1)) (dx_glob gl_END hK) (dx_var 3))) (blkOk_by (by kernel_rfl))) da_nil)) da_nil))))))
/-! ### shut_off -/
def N_shut_off : List Str := ["board", "cell", "found", "port", "own", "left", "goal"]
noncomputable def ct_shut_off_1 : DB :=
  (dTst (dOp oDNotIn (daC (dV 6) (daC (dV 5) daN))))
noncomputable def ce_shut_off_2 : DE :=
  (dTup (daC (dV 3) (daC (dV 6) daN)))
noncomputable def lb_shut_off_3 : DS :=
  (sSeq (sPar [4, 5] (daC (dCall f_outs (daC (dV 0) (daC (dLst (daC (dV 3) daN)) daN))) (daC (dCall f_outs (daC (dCall f_blocked (daC (dV 0) (daC (dTup (daC (dV 1) daN)) daN))) (daC (dLst (daC (dV 3) daN)) daN))) daN)))
  (sDrop (dMut "list" 2 mExtend (daC (dLc (dIt (dOp oSorted (daC (dOp oListD (daC (dV 4) daN)) daN))) [6] (gN 6) ct_shut_off_1 ce_shut_off_2) daN))))
noncomputable def den_shut_off : DS :=
  (sSeq (sDrop (dCall f_need_board (daC (dV 0) (daC (dC (.str "board")) daN))))
  (sSeq (sDrop (dCall f_need (daC (dCall f_is_whole (daC (dV 1) (daC (dC (.int 0)) (daC (dOp oSub (daC (dOp oLen (daC (dOp oIx (daC (dV 0) (daC (dC (.int 2)) daN))) daN)) (daC (dC (.int 1)) daN))) daN)))) (daC (dC (.str "cell")) daN))))
  (sSeq (sSet 2 (dLst daN))
  (sSeq (sFor (dRg1 (daC (dCall f_port_count (daC (dOp oIx (daC (dV 0) (daC (dC (.int 0)) daN))) (daC (dOp oIx (daC (dV 0) (daC (dC (.int 1)) daN))) daN))) daN)) (gN 3) lb_shut_off_3)
  (sRet (dOp oTuple (daC (dV 2) daN)))))))
noncomputable def f_shut_off : List D → FO := runD false 7 den_shut_off
theorem sc_shut_off : FnScope N_shut_off ["board", "cell"] (defScope (top 38)) := ⟨rfl, rfl, rfl, by decide +kernel, rfl, by decide +kernel, by decide +kernel⟩
theorem ok_shut_off {P : Program} {w : World} {K : PySem.W.Frag} {mg : Str → Option Value} {base : Heap} {f : Addr} {fd : FuncData} (Fu : Fun K "shut_off" "shut_off" (top 38) f fd)
    (c_need_board : Cq P w K mg base "need_board" 4 ["value", "name"] (spP K mg false 2 f_need_board)) (c_need : Cq P w K mg base "need" 3 ["is_right", "name"] (spP K mg false 2 f_need)) (c_is_whole : Cq P w K mg base "is_whole" 1 ["value", "low", "high"] (spP K mg false 3 f_is_whole)) (c_port_count : Cq P w K mg base "port_count" 1 ["wide", "high"] (spP K mg false 2 f_port_count)) (c_outs : Cq P w K mg base "outs" 2 ["board", "ports"] (spP K mg false 2 f_outs)) (c_blocked : Cq P w K mg base "blocked" 1 ["board", "some"] (spP K mg false 2 f_blocked)) (m_len : mg "len" = none) (m_range : mg "range" = none) (m_list : mg "list" = none) (m_sorted : mg "sorted" = none) (m_tuple : mg "tuple" = none) :
    FnOk P w K mg base (L2.CX P w) 5 f fd ["board", "cell"] (spP K mg false 2 f_shut_off) := by
  refine fn_den2 (k := 4) (N := N_shut_off) false den_shut_off Fu sc_shut_off (by simp) fun cdv A outer s H E F0 H0 ia T pin hr hpn => ?_
  have hK : (Cfg.mk K mg F0 H0 ia T pin).K = K := rfl
  have hmg : (Cfg.mk K mg F0 H0 ia T pin).mg = mg := rfl
  have hpin := hpn rfl
  have tk := takes_of (X := cxOf (L2.CX P w) P w K mg base N_shut_off "shut_off" (defScope (top 38)) f cdv A outer s H E) rfl rfl rfl rfl
  have hx : Passes (L2.CX P w) (cxOf (L2.CX P w) P w K mg base N_shut_off "shut_off" (defScope (top 38)) f cdv A outer s H E) E := passes_call tk (fun _ _ _ _ h => h)
  have hp : PassesOwn (model P w) (cxOf (L2.CX P w) P w K mg base N_shut_off "shut_off" (defScope (top 38)) f cdv A outer s H E).A (cxOf (L2.CX P w) P w K mg base N_shut_off "shut_off" (defScope (top 38)) f cdv A outer s H E).env (cxOf (L2.CX P w) P w K mg base N_shut_off "shut_off" (defScope (top 38)) f cdv A outer s H E).xe := passes_of rfl
  have hu1 := hr.units
  have hu : (A.deeper (envOfC "shut_off" (defScope (top 38)) s.heap.objs.size f cdv)).units + 65 < cLine := by have := hr.un; omega
  exact (ds_cons (ds_expr (dx_call ⟨c_need_board⟩ hK hmg (hr.mono (by decide)) hx (da_cons (dx_var 0) (da_cons dx_str da_nil)) (daLen_cons (daLen_cons daLen_nil))))
  (ds_cons (ds_expr (dx_call ⟨c_need⟩ hK hmg (hr.mono (by decide)) hx (da_cons (dx_call ⟨c_is_whole⟩ hK hmg (hr.mono (by decide)) hx (da_cons (dx_var 1) (da_cons dx_int (da_cons (dx_bin op_sub vok_I0 (dx_callB call_len vok_len m_len (da_cons (dx_ix ix_seq vok_ix (dx_var 0) dx_int) da_nil)) dx_int) da_nil))) (daLen_cons (daLen_cons (daLen_cons daLen_nil)))) (da_cons dx_str da_nil)) (daLen_cons (daLen_cons daLen_nil))))
  (ds_cons (ds_set (.inr hpin) sc_shut_off.nd (dx_lst da_nil))
  (ds_cons (ds_for (.inr hpin) hp rfl (di_rg1 m_range (da_cons (dx_call ⟨c_port_count⟩ hK hmg (hr.mono (by decide)) hx (da_cons (dx_ix ix_seq vok_ix (dx_var 0) dx_int) (da_cons (dx_ix ix_seq vok_ix (dx_var 0) dx_int) da_nil)) (daLen_cons (daLen_cons daLen_nil))) da_nil)) (dg_name (i := 3) sc_shut_off.nd)
  (ds_cons (ds_parT (.inr hpin) hK rfl (pga_cons (i := 4) sc_shut_off.nd (pga_cons (i := 5) sc_shut_off.nd pga_nil)) (da_cons (dx_call ⟨c_outs⟩ hK hmg (hr.mono (by decide)) hx (da_cons (dx_var 0) (da_cons (dx_lst (da_cons (dx_var 3) da_nil)) da_nil)) (daLen_cons (daLen_cons daLen_nil))) (da_cons (dx_call ⟨c_outs⟩ hK hmg (hr.mono (by decide)) hx (da_cons (dx_call ⟨c_blocked⟩ hK hmg (hr.mono (by decide)) hx (da_cons (dx_var 0) (da_cons (dx_tup (da_cons (dx_var 1) da_nil)) da_nil)) (daLen_cons (daLen_cons daLen_nil))) (da_cons (dx_lst (da_cons (dx_var 3) da_nil)) da_nil)) (daLen_cons (daLen_cons daLen_nil))) da_nil)) (daLen_cons (daLen_cons daLen_nil)))
  (ds_one (ds_expr (dx_mut (k := 2) mok_extend hK mt_extR PySem.F.plainAttrs_list PySem.F.slot_list_extend PySem.F.type_list_extend (da_cons (dx_lc (own := [("goal", 6)]) rfl sc_shut_off.nd (di_any hK (dx_callB cr_sortedI vok_sorted m_sorted (da_cons (dx_callTy (cr_listDK rfl) vok_listD m_list (da_cons (dx_var 4) da_nil)) da_nil))) (fun _ _ _ _ _ => (dg_name (i := 6) sc_shut_off.nd)) (bt_one fun _ _ _ _ _ => (dt_dnotIn hu (dx_var 6) (dx_var 5))) (fun _ _ _ _ _ => (dx_tup (da_cons (dx_var 3) (da_cons (dx_var 6) da_nil)))) (blkOk_by (by kernel_rfl))) da_nil))))))
  (ds_one (ds_ret (dx_callTy call_tuple_of vok_tuple m_tuple (da_cons (dx_var 2) da_nil))))))))
/-! ### need_port -/
def N_need_port : List Str := ["board", "value", "name"]
def den_need_port : DS :=
  (sDrop (dCall f_need (daC (dCall f_is_whole (daC (dV 1) (daC (dC (.int 0)) (daC (dOp oSub (daC (dCall f_port_count (daC (dOp oIx (daC (dV 0) (daC (dC (.int 0)) daN))) (daC (dOp oIx (daC (dV 0) (daC (dC (.int 1)) daN))) daN))) (daC (dC (.int 1)) daN))) daN)))) (daC (dV 2) daN))))
def f_need_port : List D → FO := runD false 3 den_need_port
theorem sc_need_port : FnScope N_need_port ["board", "value", "name"] (defScope (top 22)) := ⟨rfl, rfl, rfl, by decide +kernel, rfl, by decide +kernel, by decide +kernel⟩
theorem ok_need_port {P : Program} {w : World} {K : PySem.W.Frag} {mg : Str → Option Value} {base : Heap} {f : Addr} {fd : FuncData} (Fu : Fun K "need_port" "need_port" (top 22) f fd)
    (c_need : Cq P w K mg base "need" 3 ["is_right", "name"] (spP K mg false 2 f_need)) (c_is_whole : Cq P w K mg base "is_whole" 1 ["value", "low", "high"] (spP K mg false 3 f_is_whole)) (c_port_count : Cq P w K mg base "port_count" 1 ["wide", "high"] (spP K mg false 2 f_port_count)) :
    FnOk P w K mg base (L2.CX P w) 4 f fd ["board", "value", "name"] (spP K mg false 3 f_need_port) := by
  refine fn_den2 (k := 3) (N := N_need_port) false den_need_port Fu sc_need_port (by simp) fun cdv A outer s H E F0 H0 ia T pin hr hpn => ?_
  have hK : (Cfg.mk K mg F0 H0 ia T pin).K = K := rfl
  have hmg : (Cfg.mk K mg F0 H0 ia T pin).mg = mg := rfl
  have hpin := hpn rfl
  have tk := takes_of (X := cxOf (L2.CX P w) P w K mg base N_need_port "need_port" (defScope (top 22)) f cdv A outer s H E) rfl rfl rfl rfl
  have hx : Passes (L2.CX P w) (cxOf (L2.CX P w) P w K mg base N_need_port "need_port" (defScope (top 22)) f cdv A outer s H E) E := passes_call tk (fun _ _ _ _ h => h)
  have hp : PassesOwn (model P w) (cxOf (L2.CX P w) P w K mg base N_need_port "need_port" (defScope (top 22)) f cdv A outer s H E).A (cxOf (L2.CX P w) P w K mg base N_need_port "need_port" (defScope (top 22)) f cdv A outer s H E).env (cxOf (L2.CX P w) P w K mg base N_need_port "need_port" (defScope (top 22)) f cdv A outer s H E).xe := passes_of rfl
  have hu1 := hr.units
  have hu : (A.deeper (envOfC "need_port" (defScope (top 22)) s.heap.objs.size f cdv)).units + 65 < cLine := by have := hr.un; omega
  exact (ds_one (ds_expr (dx_call ⟨c_need⟩ hK hmg (hr.mono (by decide)) hx (da_cons (dx_call ⟨c_is_whole⟩ hK hmg (hr.mono (by decide)) hx (da_cons (dx_var 1) (da_cons dx_int (da_cons (dx_bin op_sub vok_I0 (dx_call ⟨c_port_count⟩ hK hmg (hr.mono (by decide)) hx (da_cons (dx_ix ix_seq vok_ix (dx_var 0) dx_int) (da_cons (dx_ix ix_seq vok_ix (dx_var 0) dx_int) da_nil)) (daLen_cons (daLen_cons daLen_nil))) dx_int) da_nil))) (daLen_cons (daLen_cons (daLen_cons daLen_nil)))) (da_cons (dx_var 2) da_nil)) (daLen_cons (daLen_cons daLen_nil)))))
/-! ### reaches -/
def N_reaches : List Str := ["board", "port", "goal"]
noncomputable def den_reaches : DS :=
  (sSeq (sDrop (dCall f_need_board (daC (dV 0) (daC (dC (.str "board")) daN))))
  (sSeq (sDrop (dCall f_need_port (daC (dV 0) (daC (dV 1) (daC (dC (.str "port")) daN)))))
  (sSeq (sDrop (dCall f_need_port (daC (dV 0) (daC (dV 2) (daC (dC (.str "goal")) daN)))))
  (sRet (dOp oDIn (daC (dV 2) (daC (dCall f_outs (daC (dV 0) (daC (dLst (daC (dV 1) daN)) daN))) daN)))))))
noncomputable def f_reaches : List D → FO := runD false 3 den_reaches
theorem sc_reaches : FnScope N_reaches ["board", "port", "goal"] (defScope (top 34)) := ⟨rfl, rfl, rfl, by decide +kernel, rfl, by decide +kernel, by decide +kernel⟩
theorem ok_reaches {P : Program} {w : World} {K : PySem.W.Frag} {mg : Str → Option Value} {base : Heap} {f : Addr} {fd : FuncData} (Fu : Fun K "reaches" "reaches" (top 34) f fd)
    (c_need_board : Cq P w K mg base "need_board" 4 ["value", "name"] (spP K mg false 2 f_need_board)) (c_need_port : Cq P w K mg base "need_port" 4 ["board", "value", "name"] (spP K mg false 3 f_need_port)) (c_outs : Cq P w K mg base "outs" 2 ["board", "ports"] (spP K mg false 2 f_outs)) :
    FnOk P w K mg base (L2.CX P w) 5 f fd ["board", "port", "goal"] (spP K mg false 3 f_reaches) := by
  refine fn_den2 (k := 4) (N := N_reaches) false den_reaches Fu sc_reaches (by simp) fun cdv A outer s H E F0 H0 ia T pin hr hpn => ?_
  have hK : (Cfg.mk K mg F0 H0 ia T pin).K = K := rfl
  have hmg : (Cfg.mk K mg F0 H0 ia T pin).mg = mg := rfl
  have hpin := hpn rfl
  have tk := takes_of (X := cxOf (L2.CX P w) P w K mg base N_reaches "reaches" (defScope (top 34)) f cdv A outer s H E) rfl rfl rfl rfl
  have hx : Passes (L2.CX P w) (cxOf (L2.CX P w) P w K mg base N_reaches "reaches" (defScope (top 34)) f cdv A outer s H E) E := passes_call tk (fun _ _ _ _ h => h)
  have hp : PassesOwn (model P w) (cxOf (L2.CX P w) P w K mg base N_reaches "reaches" (defScope (top 34)) f cdv A outer s H E).A (cxOf (L2.CX P w) P w K mg base N_reaches "reaches" (defScope (top 34)) f cdv A outer s H E).env (cxOf (L2.CX P w) P w K mg base N_reaches "reaches" (defScope (top 34)) f cdv A outer s H E).xe := passes_of rfl
  have hu1 := hr.units
  have hu : (A.deeper (envOfC "reaches" (defScope (top 34)) s.heap.objs.size f cdv)).units + 65 < cLine := by have := hr.un; omega
  exact (ds_cons (ds_expr (dx_call ⟨c_need_board⟩ hK hmg (hr.mono (by decide)) hx (da_cons (dx_var 0) (da_cons dx_str da_nil)) (daLen_cons (daLen_cons daLen_nil))))
  (ds_cons (ds_expr (dx_call ⟨c_need_port⟩ hK hmg (hr.mono (by decide)) hx (da_cons (dx_var 0) (da_cons (dx_var 1) (da_cons dx_str da_nil))) (daLen_cons (daLen_cons (daLen_cons daLen_nil)))))
  (ds_cons (ds_expr (dx_call ⟨c_need_port⟩ hK hmg (hr.mono (by decide)) hx (da_cons (dx_var 0) (da_cons (dx_var 2) (da_cons dx_str da_nil))) (daLen_cons (daLen_cons (daLen_cons daLen_nil)))))
  (ds_one (ds_ret (dx_din hu (dx_var 2) (dx_call ⟨c_outs⟩ hK hmg (hr.mono (by decide)) hx (da_cons (dx_var 0) (da_cons (dx_lst (da_cons (dx_var 1) da_nil)) da_nil)) (daLen_cons (daLen_cons daLen_nil)))))))))
/-! ### is_shut -/
def N_is_shut : List Str := ["board", "ports", "goals", "some", "found", "goal"]
noncomputable def ce_is_shut_1 : DE :=
  (dOp oDIn (daC (dV 5) (daC (dV 4) daN)))
noncomputable def den_is_shut : DS :=
  (sSeq (sSet 4 (dCall f_outs (daC (dCall f_blocked (daC (dV 0) (daC (dV 3) daN))) (daC (dV 1) daN))))
  (sRet (dNotT (dOp oAny (daC (dLc (dIt (dV 2)) [5] (gN 5) dYes ce_is_shut_1) daN)))))
noncomputable def f_is_shut : List D → FO := runD false 6 den_is_shut
theorem sc_is_shut : FnScope N_is_shut ["board", "ports", "goals", "some"] (defScope (top 33)) := ⟨rfl, rfl, rfl, by decide +kernel, rfl, by decide +kernel, by decide +kernel⟩
theorem ok_is_shut {P : Program} {w : World} {K : PySem.W.Frag} {mg : Str → Option Value} {base : Heap} {f : Addr} {fd : FuncData} (Fu : Fun K "is_shut" "is_shut" (top 33) f fd)
    (c_outs : Cq P w K mg base "outs" 2 ["board", "ports"] (spP K mg false 2 f_outs)) (c_blocked : Cq P w K mg base "blocked" 1 ["board", "some"] (spP K mg false 2 f_blocked)) (m_any : mg "any" = none) :
    FnOk P w K mg base (L2.CX P w) 3 f fd ["board", "ports", "goals", "some"] (spP K mg false 4 f_is_shut) := by
  refine fn_den2 (k := 2) (N := N_is_shut) false den_is_shut Fu sc_is_shut (by simp) fun cdv A outer s H E F0 H0 ia T pin hr hpn => ?_
  have hK : (Cfg.mk K mg F0 H0 ia T pin).K = K := rfl
  have hmg : (Cfg.mk K mg F0 H0 ia T pin).mg = mg := rfl
  have hpin := hpn rfl
  have tk := takes_of (X := cxOf (L2.CX P w) P w K mg base N_is_shut "is_shut" (defScope (top 33)) f cdv A outer s H E) rfl rfl rfl rfl
  have hx : Passes (L2.CX P w) (cxOf (L2.CX P w) P w K mg base N_is_shut "is_shut" (defScope (top 33)) f cdv A outer s H E) E := passes_call tk (fun _ _ _ _ h => h)
  have hp : PassesOwn (model P w) (cxOf (L2.CX P w) P w K mg base N_is_shut "is_shut" (defScope (top 33)) f cdv A outer s H E).A (cxOf (L2.CX P w) P w K mg base N_is_shut "is_shut" (defScope (top 33)) f cdv A outer s H E).env (cxOf (L2.CX P w) P w K mg base N_is_shut "is_shut" (defScope (top 33)) f cdv A outer s H E).xe := passes_of rfl
  have hu1 := hr.units
  have hu : (A.deeper (envOfC "is_shut" (defScope (top 33)) s.heap.objs.size f cdv)).units + 65 < cLine := by have := hr.un; omega
  exact (ds_cons (ds_set (.inr hpin) sc_is_shut.nd (dx_call ⟨c_outs⟩ hK hmg (hr.mono (by decide)) hx (da_cons (dx_call ⟨c_blocked⟩ hK hmg (hr.mono (by decide)) hx (da_cons (dx_var 0) (da_cons (dx_var 3) da_nil)) (daLen_cons (daLen_cons daLen_nil))) (da_cons (dx_var 1) da_nil)) (daLen_cons (daLen_cons daLen_nil))))
  (ds_one (ds_ret (dx_notT (dx_callB (cr_any rfl) vok_any m_any (da_cons (dx_lc (own := [("goal", 5)]) rfl sc_is_shut.nd (di_any hK (dx_var 2)) (fun _ _ _ _ _ => (dg_name (i := 5) sc_is_shut.nd)) bt_nil (fun _ _ _ _ _ => (dx_din hu (dx_var 5) (dx_var 4))) (blkOk_by (by kernel_rfl))) da_nil)) hK))))
/-! ### needed -/
def N_needed : List Str := ["board", "port", "goal", "cell"]
noncomputable def ct_needed_1 : DB :=
  (dTru (dCall f_is_shut (daC (dV 0) (daC (dLst (daC (dV 1) daN)) (daC (dLst (daC (dV 2) daN)) (daC (dTup (daC (dV 3) daN)) daN))))))
noncomputable def den_needed : DS :=
  (sSeq (sIf (dNot (dTru (dCall f_reaches (daC (dV 0) (daC (dV 1) (daC (dV 2) daN))))))
  (sRet (dC .none))
  sNil)
  (sRet (dOp oTuple (daC (dLc (dRg1 (daC (dOp oLen (daC (dOp oIx (daC (dV 0) (daC (dC (.int 2)) daN))) daN)) daN)) [3] (gN 3) ct_needed_1 (dV 3)) daN))))
noncomputable def f_needed : List D → FO := runD false 4 den_needed
theorem sc_needed : FnScope N_needed ["board", "port", "goal"] (defScope (top 37)) := ⟨rfl, rfl, rfl, by decide +kernel, rfl, by decide +kernel, by decide +kernel⟩
theorem ok_needed {P : Program} {w : World} {K : PySem.W.Frag} {mg : Str → Option Value} {base : Heap} {f : Addr} {fd : FuncData} (Fu : Fun K "needed" "needed" (top 37) f fd)
    (c_reaches : Cq P w K mg base "reaches" 5 ["board", "port", "goal"] (spP K mg false 3 f_reaches)) (c_is_shut : Cq P w K mg base "is_shut" 3 ["board", "ports", "goals", "some"] (spP K mg false 4 f_is_shut)) (m_len : mg "len" = none) (m_range : mg "range" = none) (m_tuple : mg "tuple" = none) :
    FnOk P w K mg base (L2.CX P w) 6 f fd ["board", "port", "goal"] (spP K mg false 3 f_needed) := by
  refine fn_den2 (k := 5) (N := N_needed) false den_needed Fu sc_needed (by simp) fun cdv A outer s H E F0 H0 ia T pin hr hpn => ?_
  have hK : (Cfg.mk K mg F0 H0 ia T pin).K = K := rfl
  have hmg : (Cfg.mk K mg F0 H0 ia T pin).mg = mg := rfl
  have hpin := hpn rfl
  have tk := takes_of (X := cxOf (L2.CX P w) P w K mg base N_needed "needed" (defScope (top 37)) f cdv A outer s H E) rfl rfl rfl rfl
  have hx : Passes (L2.CX P w) (cxOf (L2.CX P w) P w K mg base N_needed "needed" (defScope (top 37)) f cdv A outer s H E) E := passes_call tk (fun _ _ _ _ h => h)
  have hp : PassesOwn (model P w) (cxOf (L2.CX P w) P w K mg base N_needed "needed" (defScope (top 37)) f cdv A outer s H E).A (cxOf (L2.CX P w) P w K mg base N_needed "needed" (defScope (top 37)) f cdv A outer s H E).env (cxOf (L2.CX P w) P w K mg base N_needed "needed" (defScope (top 37)) f cdv A outer s H E).xe := passes_of rfl
  have hu1 := hr.units
  have hu : (A.deeper (envOfC "needed" (defScope (top 37)) s.heap.objs.size f cdv)).units + 65 < cLine := by have := hr.un; omega
  exact (ds_cons (ds_if (dt_not (dt_tru (dx_call ⟨c_reaches⟩ hK hmg (hr.mono (by decide)) hx (da_cons (dx_var 0) (da_cons (dx_var 1) (da_cons (dx_var 2) da_nil))) (daLen_cons (daLen_cons (daLen_cons daLen_nil)))) hK))
  (ds_one (ds_ret dx_non))
  ds_nil)
  (ds_one (ds_ret (dx_callTy call_tuple_of vok_tuple m_tuple (da_cons (dx_lc (own := [("cell", 3)]) rfl sc_needed.nd (di_rg1 m_range (da_cons (dx_callB call_len vok_len m_len (da_cons (dx_ix ix_seq vok_ix (dx_var 0) dx_int) da_nil)) da_nil)) (fun _ _ _ _ _ => (dg_name (i := 3) sc_needed.nd)) (bt_one fun _ _ _ _ _ => (dt_tru (dx_call ⟨c_is_shut⟩ hK hmg (hr.mono (by decide)) passL (da_cons (dx_var 0) (da_cons (dx_lst (da_cons (dx_var 1) da_nil)) (da_cons (dx_lst (da_cons (dx_var 2) da_nil)) (da_cons (dx_tup (da_cons (dx_var 3) da_nil)) da_nil)))) (daLen_cons (daLen_cons (daLen_cons (daLen_cons daLen_nil))))) hK)) (fun _ _ _ _ _ => (dx_var 3)) (blkOk_by (by kernel_rfl))) da_nil)))))
/-! ### _law_rows -/
def N__law_rows : List Str := ["places", "size", "found", "turn", "own", "one"]
def ct__law_rows_1 : DB :=
  (dOr (dTst (dOp oEq (daC (dV 4) (daC (dTup daN) daN)))) (dTst (dOp oGt (daC (dV 5) (daC (dOp oIx (daC (dV 4) (daC (dOp oNeg (daC (dC (.int 1)) daN)) daN))) daN)))))
def ce__law_rows_2 : DE :=
  (dOp oAdd (daC (dV 4) (daC (dTup (daC (dV 5) daN)) daN)))
def lb__law_rows_3 : DS :=
  (sSet 2 (dFz (dLcG (dIt (dV 2)) [4, 5] (gN 4) dYes (dIt (dV 0)) [5] (gN 5) ct__law_rows_1 ce__law_rows_2)))
def den__law_rows : DS :=
  (sSeq (sSet 2 (dFz (dLst (daC (dTup daN) daN))))
  (sSeq (sFor (dRg1 (daC (dV 1) daN)) (gN 3) lb__law_rows_3)
  (sRet (dV 2))))
def f__law_rows : List D → FO := runD false 6 den__law_rows
theorem sc__law_rows : FnScope N__law_rows ["places", "size"] (defScope (top 51)) := ⟨rfl, rfl, rfl, by decide +kernel, rfl, by decide +kernel, by decide +kernel⟩
theorem ok__law_rows {P : Program} {w : World} {K : PySem.W.Frag} {mg : Str → Option Value} {base : Heap} {f : Addr} {fd : FuncData} (Fu : Fun K "_law_rows" "_law_rows" (top 51) f fd)
    (m_range : mg "range" = none) :
    FnOk P w K mg base (L2.CX P w) 1 f fd ["places", "size"] (spP K mg false 2 f__law_rows) := by
  refine fn_den2 (k := 0) (N := N__law_rows) false den__law_rows Fu sc__law_rows (by simp) fun cdv A outer s H E F0 H0 ia T pin hr hpn => ?_
  have hK : (Cfg.mk K mg F0 H0 ia T pin).K = K := rfl
  have hmg : (Cfg.mk K mg F0 H0 ia T pin).mg = mg := rfl
  have hpin := hpn rfl
  have tk := takes_of (X := cxOf (L2.CX P w) P w K mg base N__law_rows "_law_rows" (defScope (top 51)) f cdv A outer s H E) rfl rfl rfl rfl
  have hx : Passes (L2.CX P w) (cxOf (L2.CX P w) P w K mg base N__law_rows "_law_rows" (defScope (top 51)) f cdv A outer s H E) E := passes_call tk (fun _ _ _ _ h => h)
  have hp : PassesOwn (model P w) (cxOf (L2.CX P w) P w K mg base N__law_rows "_law_rows" (defScope (top 51)) f cdv A outer s H E).A (cxOf (L2.CX P w) P w K mg base N__law_rows "_law_rows" (defScope (top 51)) f cdv A outer s H E).env (cxOf (L2.CX P w) P w K mg base N__law_rows "_law_rows" (defScope (top 51)) f cdv A outer s H E).xe := passes_of rfl
  have hu1 := hr.units
  have hu : (A.deeper (envOfC "_law_rows" (defScope (top 51)) s.heap.objs.size f cdv)).units + 65 < cLine := by have := hr.un; omega
  exact (ds_cons (ds_set (.inr hpin) sc__law_rows.nd (dx_fz (dx_lst (da_cons (dx_tup da_nil) da_nil))))
  (ds_cons (ds_for (.inr hpin) hp rfl (di_rg1 m_range (da_cons (dx_var 1) da_nil)) (dg_name (i := 3) sc__law_rows.nd)
  (ds_one (ds_setLcG (own := [("own", 4), ("one", 5)]) (vs1 := [5]) true (.inr hpin) rfl sc__law_rows.nd (di_any hK (dx_var 2)) (fun _ _ _ _ _ => (dg_name (i := 4) sc__law_rows.nd)) bt_nil (fun _ _ _ _ _ => (di_any hK (dx_var 0))) (fun _ _ _ _ _ => (dg_name (i := 5) sc__law_rows.nd)) (bt_one fun _ _ _ _ _ => (DTW.t (dw_or (dt_cmp (op_eqA hu1) vok_eq (dx_var 4) (dx_tup da_nil)) (dw_or1 (dt_cmp op_gt vok_B0 (dx_var 5) (dx_ix ix_seq vok_ix (dx_var 4) (dx_un un_neg vok_U dx_int))))))) (fun _ _ _ _ _ => (dx_bin op_addA vok_add (dx_var 4) (dx_tup (da_cons (dx_var 5) da_nil)))) (blkOk_by (by kernel_rfl)))))
  (ds_one (ds_ret (dx_var 2)))))
/-! ### _law_shut -/
def N__law_shut : List Str := ["board", "ports", "goals", "some", "cells", "at", "own", "goal"]
noncomputable def ce__law_shut_1 : DE :=
  (dIf (dTst (dOp oIn (daC (dV 5) (daC (dV 3) daN)))) (dC (.int 3)) (dV 6))
noncomputable def ct__law_shut_2 : DB :=
  (dTst (dOp oIn (daC (dV 7) (daC (dV 2) daN))))
noncomputable def den__law_shut : DS :=
  (sSeq (sSet 4 (dOp oTuple (daC (dLc (dEn (daC (dOp oIx (daC (dV 0) (daC (dC (.int 2)) daN))) daN)) [5, 6] (gT (gsC (gN 5) (gsC (gN 6) gsN)) 2) dYes ce__law_shut_1) daN)))
  (sRet (dOp oEq (daC (dLc (dIt (dCall f__law_outs (daC (dTup (daC (dOp oIx (daC (dV 0) (daC (dC (.int 0)) daN))) (daC (dOp oIx (daC (dV 0) (daC (dC (.int 1)) daN))) (daC (dV 4) daN)))) (daC (dV 1) daN)))) [7] (gN 7) ct__law_shut_2 (dV 7)) (daC (dLst daN) daN)))))
noncomputable def f__law_shut : List D → FO := runD false 8 den__law_shut
theorem sc__law_shut : FnScope N__law_shut ["board", "ports", "goals", "some"] (defScope (top 53)) := ⟨rfl, rfl, rfl, by decide +kernel, rfl, by decide +kernel, by decide +kernel⟩
theorem ok__law_shut {P : Program} {w : World} {K : PySem.W.Frag} {mg : Str → Option Value} {base : Heap} {f : Addr} {fd : FuncData} (Fu : Fun K "_law_shut" "_law_shut" (top 53) f fd)
    (c__law_outs : Cq P w K mg base "_law_outs" 4 ["board", "ports"] (spP K mg false 2 f__law_outs)) (m_enumerate : mg "enumerate" = none) (m_tuple : mg "tuple" = none) :
    FnOk P w K mg base (L2.CX P w) 5 f fd ["board", "ports", "goals", "some"] (spP K mg false 4 f__law_shut) := by
  refine fn_den2 (k := 4) (N := N__law_shut) false den__law_shut Fu sc__law_shut (by simp) fun cdv A outer s H E F0 H0 ia T pin hr hpn => ?_
  have hK : (Cfg.mk K mg F0 H0 ia T pin).K = K := rfl
  have hmg : (Cfg.mk K mg F0 H0 ia T pin).mg = mg := rfl
  have hpin := hpn rfl
  have tk := takes_of (X := cxOf (L2.CX P w) P w K mg base N__law_shut "_law_shut" (defScope (top 53)) f cdv A outer s H E) rfl rfl rfl rfl
  have hx : Passes (L2.CX P w) (cxOf (L2.CX P w) P w K mg base N__law_shut "_law_shut" (defScope (top 53)) f cdv A outer s H E) E := passes_call tk (fun _ _ _ _ h => h)
  have hp : PassesOwn (model P w) (cxOf (L2.CX P w) P w K mg base N__law_shut "_law_shut" (defScope (top 53)) f cdv A outer s H E).A (cxOf (L2.CX P w) P w K mg base N__law_shut "_law_shut" (defScope (top 53)) f cdv A outer s H E).env (cxOf (L2.CX P w) P w K mg base N__law_shut "_law_shut" (defScope (top 53)) f cdv A outer s H E).xe := passes_of rfl
  have hu1 := hr.units
  have hu : (A.deeper (envOfC "_law_shut" (defScope (top 53)) s.heap.objs.size f cdv)).units + 65 < cLine := by have := hr.un; omega
  exact (ds_cons (ds_set (.inr hpin) sc__law_shut.nd (dx_callTy call_tuple_of vok_tuple m_tuple (da_cons (dx_lc (own := [("at", 5), ("own", 6)]) rfl sc__law_shut.nd (di_enum hK m_enumerate (da_cons (dx_ix ix_seq vok_ix (dx_var 0) dx_int) da_nil)) (fun _ _ _ _ _ => (dg_tup hK rfl (dgs_cons (dg_name (i := 5) sc__law_shut.nd) (dgs_cons (dg_name (i := 6) sc__law_shut.nd) dgs_nil)))) bt_nil (fun _ _ _ _ _ => (dx_if (dt_cmp (op_inA hu) vok_in (dx_var 5) (dx_var 3)) dx_int (dx_var 6))) (blkOk_by (by kernel_rfl))) da_nil)))
  (ds_one (ds_ret (dx_cmp (op_eqA hu1) vok_eq (dx_lc (own := [("goal", 7)]) rfl sc__law_shut.nd (di_any hK (dx_call ⟨c__law_outs⟩ hK hmg (hr.mono (by decide)) hx (da_cons (dx_tup (da_cons (dx_ix ix_seq vok_ix (dx_var 0) dx_int) (da_cons (dx_ix ix_seq vok_ix (dx_var 0) dx_int) (da_cons (dx_var 4) da_nil)))) (da_cons (dx_var 1) da_nil)) (daLen_cons (daLen_cons daLen_nil)))) (fun _ _ _ _ _ => (dg_name (i := 7) sc__law_shut.nd)) (bt_one fun _ _ _ _ _ => (dt_cmp (op_inA hu) vok_in (dx_var 7) (dx_var 2))) (fun _ _ _ _ _ => (dx_var 7)) (blkOk_by (by kernel_rfl))) (dx_lst da_nil)))))
/-! ### need_ports -/
def N_need_ports : List Str := ["board", "value", "name", "many", "fits", "own"]
def ce_need_ports_1 : DE :=
  (dCall f_is_whole (daC (dV 5) (daC (dC (.int 0)) (daC (dOp oSub (daC (dV 3) (daC (dC (.int 1)) daN))) daN))))
def den_need_ports : DS :=
  (sSeq (sSet 3 (dCall f_port_count (daC (dOp oIx (daC (dV 0) (daC (dC (.int 0)) daN))) (daC (dOp oIx (daC (dV 0) (daC (dC (.int 1)) daN))) daN))))
  (sSeq (sSet 4 (dAndV (dOp (oIsi "tuple") (daC (dV 1) daN)) (dOp oAll (daC (dLc (dIt (dV 1)) [5] (gN 5) dYes ce_need_ports_1) daN))))
  (sDrop (dCall f_need (daC (dAndV (dV 4) (dOp oEq (daC (dOp oList (daC (dV 1) daN)) (daC (dOp oSortSetN (daC (dV 1) daN)) daN)))) (daC (dV 2) daN))))))
def f_need_ports : List D → FO := runD false 6 den_need_ports
theorem sc_need_ports : FnScope N_need_ports ["board", "value", "name"] (defScope (top 32)) := ⟨rfl, rfl, rfl, by decide +kernel, rfl, by decide +kernel, by decide +kernel⟩
theorem ok_need_ports {P : Program} {w : World} {K : PySem.W.Frag} {mg : Str → Option Value} {base : Heap} {f : Addr} {fd : FuncData} (Fu : Fun K "need_ports" "need_ports" (top 32) f fd)
    (c_port_count : Cq P w K mg base "port_count" 1 ["wide", "high"] (spP K mg false 2 f_port_count)) (c_is_whole : Cq P w K mg base "is_whole" 1 ["value", "low", "high"] (spP K mg false 3 f_is_whole)) (c_need : Cq P w K mg base "need" 3 ["is_right", "name"] (spP K mg false 2 f_need)) (m_isinstance : mg "isinstance" = none) (m_tuple : mg "tuple" = none) (m_all : mg "all" = none) (m_list : mg "list" = none) (m_sorted : mg "sorted" = none) (m_set : mg "set" = none) :
    FnOk P w K mg base (L2.CX P w) 4 f fd ["board", "value", "name"] (spP K mg false 3 f_need_ports) := by
  refine fn_den2 (k := 3) (N := N_need_ports) false den_need_ports Fu sc_need_ports (by simp) fun cdv A outer s H E F0 H0 ia T pin hr hpn => ?_
  have hK : (Cfg.mk K mg F0 H0 ia T pin).K = K := rfl
  have hmg : (Cfg.mk K mg F0 H0 ia T pin).mg = mg := rfl
  have hpin := hpn rfl
  have tk := takes_of (X := cxOf (L2.CX P w) P w K mg base N_need_ports "need_ports" (defScope (top 32)) f cdv A outer s H E) rfl rfl rfl rfl
  have hx : Passes (L2.CX P w) (cxOf (L2.CX P w) P w K mg base N_need_ports "need_ports" (defScope (top 32)) f cdv A outer s H E) E := passes_call tk (fun _ _ _ _ h => h)
  have hp : PassesOwn (model P w) (cxOf (L2.CX P w) P w K mg base N_need_ports "need_ports" (defScope (top 32)) f cdv A outer s H E).A (cxOf (L2.CX P w) P w K mg base N_need_ports "need_ports" (defScope (top 32)) f cdv A outer s H E).env (cxOf (L2.CX P w) P w K mg base N_need_ports "need_ports" (defScope (top 32)) f cdv A outer s H E).xe := passes_of rfl
  have hu1 := hr.units
  have hu : (A.deeper (envOfC "need_ports" (defScope (top 32)) s.heap.objs.size f cdv)).units + 65 < cLine := by have := hr.un; omega
  exact (ds_cons (ds_set (.inr hpin) sc_need_ports.nd (dx_call ⟨c_port_count⟩ hK hmg (hr.mono (by decide)) hx (da_cons (dx_ix ix_seq vok_ix (dx_var 0) dx_int) (da_cons (dx_ix ix_seq vok_ix (dx_var 0) dx_int) da_nil)) (daLen_cons (daLen_cons daLen_nil))))
  (ds_cons (ds_set (.inr hpin) sc_need_ports.nd (dx_and (dx_isi (T := "tuple") hK m_isinstance m_tuple (dx_var 1)) (dx_one (dx_callB (cr_all rfl) vok_all m_all (da_cons (dx_lc (own := [("own", 5)]) rfl sc_need_ports.nd (di_any hK (dx_var 1)) (fun _ _ _ _ _ => (dg_name (i := 5) sc_need_ports.nd)) bt_nil (fun _ _ _ _ _ => (dx_call ⟨c_is_whole⟩ hK hmg (hr.mono (by decide)) passL (da_cons (dx_var 5) (da_cons dx_int (da_cons (dx_bin op_sub vok_I0 (dx_var 3) dx_int) da_nil))) (daLen_cons (daLen_cons (daLen_cons daLen_nil))))) (blkOk_by (by kernel_rfl))) da_nil)))))
  (ds_one (ds_expr (dx_call ⟨c_need⟩ hK hmg (hr.mono (by decide)) hx (da_cons (dx_and (dx_var 4) (dx_one (dx_cmp (op_eqA hu1) vok_eq (dx_callTy call_list_of vok_list m_list (da_cons (dx_var 1) da_nil)) (dx_sortSetN hK m_sorted m_set (dx_var 1) rfl)))) (da_cons (dx_var 2) da_nil)) (daLen_cons (daLen_cons daLen_nil)))))))
/-! ### choices -/
def N_choices : List Str := ["places", "size", "found", "turn", "later", "own", "one"]
def ct_choices_1 : DB :=
  (dOr (dNot (dTru (dV 5))) (dTst (dOp oGt (daC (dV 6) (daC (dOp oIx (daC (dV 5) (daC (dOp oNeg (daC (dC (.int 1)) daN)) daN))) daN)))))
def ce_choices_2 : DE :=
  (dOp oAdd (daC (dV 5) (daC (dTup (daC (dV 6) daN)) daN)))
def lb_choices_3 : DS :=
  (sDrop (dMut "list" 4 mExtend (daC (dLc (dIt (dV 0)) [6] (gN 6) ct_choices_1 ce_choices_2) daN)))
def lb_choices_4 : DS :=
  (sSeq (sSet 4 (dLst daN))
  (sSeq (sFor (dIt (dV 2)) (gN 5) lb_choices_3)
  (sSet 2 (dV 4))))
def den_choices : DS :=
  (sSeq (sSet 2 (dFz (dLst (daC (dTup daN) daN))))
  (sSeq (sFor (dRg1 (daC (dV 1) daN)) (gN 3) lb_choices_4)
  (sRet (dV 2))))
def f_choices : List D → FO := runD false 7 den_choices
theorem sc_choices : FnScope N_choices ["places", "size"] (defScope (top 27)) := ⟨rfl, rfl, rfl, by decide +kernel, rfl, by decide +kernel, by decide +kernel⟩
theorem ok_choices {P : Program} {w : World} {K : PySem.W.Frag} {mg : Str → Option Value} {base : Heap} {f : Addr} {fd : FuncData} (Fu : Fun K "choices" "choices" (top 27) f fd)
    (m_range : mg "range" = none) :
    FnOk P w K mg base (L2.CX P w) 1 f fd ["places", "size"] (spP K mg false 2 f_choices) := by
  refine fn_den2 (k := 0) (N := N_choices) false den_choices Fu sc_choices (by simp) fun cdv A outer s H E F0 H0 ia T pin hr hpn => ?_
  have hK : (Cfg.mk K mg F0 H0 ia T pin).K = K := rfl
  have hmg : (Cfg.mk K mg F0 H0 ia T pin).mg = mg := rfl
  have hpin := hpn rfl
  have tk := takes_of (X := cxOf (L2.CX P w) P w K mg base N_choices "choices" (defScope (top 27)) f cdv A outer s H E) rfl rfl rfl rfl
  have hx : Passes (L2.CX P w) (cxOf (L2.CX P w) P w K mg base N_choices "choices" (defScope (top 27)) f cdv A outer s H E) E := passes_call tk (fun _ _ _ _ h => h)
  have hp : PassesOwn (model P w) (cxOf (L2.CX P w) P w K mg base N_choices "choices" (defScope (top 27)) f cdv A outer s H E).A (cxOf (L2.CX P w) P w K mg base N_choices "choices" (defScope (top 27)) f cdv A outer s H E).env (cxOf (L2.CX P w) P w K mg base N_choices "choices" (defScope (top 27)) f cdv A outer s H E).xe := passes_of rfl
  have hu1 := hr.units
  have hu : (A.deeper (envOfC "choices" (defScope (top 27)) s.heap.objs.size f cdv)).units + 65 < cLine := by have := hr.un; omega
  exact (ds_cons (ds_set (.inr hpin) sc_choices.nd (dx_fz (dx_lst (da_cons (dx_tup da_nil) da_nil))))
  (ds_cons (ds_for (.inr hpin) hp rfl (di_rg1 m_range (da_cons (dx_var 1) da_nil)) (dg_name (i := 3) sc_choices.nd)
  (ds_cons (ds_set (.inr hpin) sc_choices.nd (dx_lst da_nil))
  (ds_cons (ds_for (.inr hpin) hp rfl (di_any hK (dx_var 2)) (dg_name (i := 5) sc_choices.nd)
  (ds_one (ds_expr (dx_mut (k := 4) mok_extend hK mt_extR PySem.F.plainAttrs_list PySem.F.slot_list_extend PySem.F.type_list_extend (da_cons (dx_lc (own := [("one", 6)]) rfl sc_choices.nd (di_any hK (dx_var 0)) (fun _ _ _ _ _ => (dg_name (i := 6) sc_choices.nd)) (bt_one fun _ _ _ _ _ => (DTW.t (dw_or (dt_not (dt_tru (dx_var 5) hK)) (dw_or1 (dt_cmp op_gt vok_B0 (dx_var 6) (dx_ix ix_seq vok_ix (dx_var 5) (dx_un un_neg vok_U dx_int))))))) (fun _ _ _ _ _ => (dx_bin op_addA vok_add (dx_var 5) (dx_tup (da_cons (dx_var 6) da_nil)))) (blkOk_by (by kernel_rfl))) da_nil)))))
  (ds_one (ds_set (.inr hpin) sc_choices.nd (dx_var 4))))))
  (ds_one (ds_ret (dx_var 2)))))
/-! ### fewest_blocks -/
def N_fewest_blocks : List Str := ["board", "ports", "goals", "most", "size", "some"]
noncomputable def lb_fewest_blocks_1 : DS :=
  (sIf (dTru (dCall f_is_shut (daC (dV 0) (daC (dV 1) (daC (dV 2) (daC (dV 5) daN))))))
  (sRet (dV 5))
  sNil)
noncomputable def lb_fewest_blocks_2 : DS :=
  (sFor (dIt (dCall f_choices (daC (dLR (dOp oLen (daC (dOp oIx (daC (dV 0) (daC (dC (.int 2)) daN))) daN))) (daC (dV 4) daN)))) (gN 5) lb_fewest_blocks_1)
noncomputable def den_fewest_blocks : DS :=
  (sSeq (sDrop (dCall f_need_board (daC (dV 0) (daC (dC (.str "board")) daN))))
  (sSeq (sDrop (dCall f_need_ports (daC (dV 0) (daC (dV 1) (daC (dC (.str "ports")) daN)))))
  (sSeq (sDrop (dCall f_need_ports (daC (dV 0) (daC (dV 2) (daC (dC (.str "goals")) daN)))))
  (sSeq (sDrop (dCall f_need (daC (dCall f_is_whole (daC (dV 3) (daC (dC (.int 0)) (daC (dC g_MOST_BLOCKS) daN)))) (daC (dC (.str "most")) daN))))
  (sSeq (sFor (dRg1 (daC (dOp oAdd (daC (dV 3) (daC (dC (.int 1)) daN))) daN)) (gN 4) lb_fewest_blocks_2)
  (sRet (dC .none)))))))
noncomputable def f_fewest_blocks : List D → FO := runD false 6 den_fewest_blocks
theorem sc_fewest_blocks : FnScope N_fewest_blocks ["board", "ports", "goals", "most"] (defScope (top 35)) := ⟨rfl, rfl, rfl, by decide +kernel, rfl, by decide +kernel, by decide +kernel⟩
theorem ok_fewest_blocks {P : Program} {w : World} {K : PySem.W.Frag} {mg : Str → Option Value} {base : Heap} {f : Addr} {fd : FuncData} (Fu : Fun K "fewest_blocks" "fewest_blocks" (top 35) f fd)
    (c_need_board : Cq P w K mg base "need_board" 4 ["value", "name"] (spP K mg false 2 f_need_board)) (c_need_ports : Cq P w K mg base "need_ports" 4 ["board", "value", "name"] (spP K mg false 3 f_need_ports)) (c_need : Cq P w K mg base "need" 3 ["is_right", "name"] (spP K mg false 2 f_need)) (c_is_whole : Cq P w K mg base "is_whole" 1 ["value", "low", "high"] (spP K mg false 3 f_is_whole)) (c_choices : Cq P w K mg base "choices" 1 ["places", "size"] (spP K mg false 2 f_choices)) (c_is_shut : Cq P w K mg base "is_shut" 3 ["board", "ports", "goals", "some"] (spP K mg false 4 f_is_shut)) (gl_MOST_BLOCKS : Glb K mg "MOST_BLOCKS" g_MOST_BLOCKS) (m_range : mg "range" = none) (m_len : mg "len" = none) (m_list : mg "list" = none) :
    FnOk P w K mg base (L2.CX P w) 5 f fd ["board", "ports", "goals", "most"] (spP K mg false 4 f_fewest_blocks) := by
  refine fn_den2 (k := 4) (N := N_fewest_blocks) false den_fewest_blocks Fu sc_fewest_blocks (by simp) fun cdv A outer s H E F0 H0 ia T pin hr hpn => ?_
  have hK : (Cfg.mk K mg F0 H0 ia T pin).K = K := rfl
  have hmg : (Cfg.mk K mg F0 H0 ia T pin).mg = mg := rfl
  have hpin := hpn rfl
  have tk := takes_of (X := cxOf (L2.CX P w) P w K mg base N_fewest_blocks "fewest_blocks" (defScope (top 35)) f cdv A outer s H E) rfl rfl rfl rfl
  have hx : Passes (L2.CX P w) (cxOf (L2.CX P w) P w K mg base N_fewest_blocks "fewest_blocks" (defScope (top 35)) f cdv A outer s H E) E := passes_call tk (fun _ _ _ _ h => h)
  have hp : PassesOwn (model P w) (cxOf (L2.CX P w) P w K mg base N_fewest_blocks "fewest_blocks" (defScope (top 35)) f cdv A outer s H E).A (cxOf (L2.CX P w) P w K mg base N_fewest_blocks "fewest_blocks" (defScope (top 35)) f cdv A outer s H E).env (cxOf (L2.CX P w) P w K mg base N_fewest_blocks "fewest_blocks" (defScope (top 35)) f cdv A outer s H E).xe := passes_of rfl
  have hu1 := hr.units
  have hu : (A.deeper (envOfC "fewest_blocks" (defScope (top 35)) s.heap.objs.size f cdv)).units + 65 < cLine := by have := hr.un; omega
  exact (ds_cons (ds_expr (dx_call ⟨c_need_board⟩ hK hmg (hr.mono (by decide)) hx (da_cons (dx_var 0) (da_cons dx_str da_nil)) (daLen_cons (daLen_cons daLen_nil))))
  (ds_cons (ds_expr (dx_call ⟨c_need_ports⟩ hK hmg (hr.mono (by decide)) hx (da_cons (dx_var 0) (da_cons (dx_var 1) (da_cons dx_str da_nil))) (daLen_cons (daLen_cons (daLen_cons daLen_nil)))))
  (ds_cons (ds_expr (dx_call ⟨c_need_ports⟩ hK hmg (hr.mono (by decide)) hx (da_cons (dx_var 0) (da_cons (dx_var 2) (da_cons dx_str da_nil))) (daLen_cons (daLen_cons (daLen_cons daLen_nil)))))
  (ds_cons (ds_expr (dx_call ⟨c_need⟩ hK hmg (hr.mono (by decide)) hx (da_cons (dx_call ⟨c_is_whole⟩ hK hmg (hr.mono (by decide)) hx (da_cons (dx_var 3) (da_cons dx_int (da_cons (dx_glob gl_MOST_BLOCKS hK) da_nil))) (daLen_cons (daLen_cons (daLen_cons daLen_nil)))) (da_cons dx_str da_nil)) (daLen_cons (daLen_cons daLen_nil))))
  (ds_cons (ds_for (.inr hpin) hp rfl (di_rg1 m_range (da_cons (dx_bin op_addA vok_add (dx_var 3) dx_int) da_nil)) (dg_name (i := 4) sc_fewest_blocks.nd)
  (ds_one (ds_for (.inr hpin) hp rfl (di_any hK (dx_call ⟨c_choices⟩ hK hmg (hr.mono (by decide)) hx (da_cons (dx_listRange m_list m_range (dx_callB call_len vok_len m_len (da_cons (dx_ix ix_seq vok_ix (dx_var 0) dx_int) da_nil)) rfl) (da_cons (dx_var 4) da_nil)) (daLen_cons (daLen_cons daLen_nil)))) (dg_name (i := 5) sc_fewest_blocks.nd)
  (ds_one (ds_if (dt_tru (dx_call ⟨c_is_shut⟩ hK hmg (hr.mono (by decide)) hx (da_cons (dx_var 0) (da_cons (dx_var 1) (da_cons (dx_var 2) (da_cons (dx_var 5) da_nil)))) (daLen_cons (daLen_cons (daLen_cons (daLen_cons daLen_nil))))) hK)
  (ds_one (ds_ret (dx_var 5)))
  ds_nil)))))
  (ds_one (ds_ret dx_non)))))))
/-! ### is_blocking -/
def N_is_blocking : List Str := ["board", "ports", "goals", "value", "own"]
noncomputable def ce_is_blocking_1 : DE :=
  (dCall f_is_whole (daC (dV 4) (daC (dC (.int 0)) (daC (dOp oSub (daC (dOp oLen (daC (dOp oIx (daC (dV 0) (daC (dC (.int 2)) daN))) daN)) (daC (dC (.int 1)) daN))) daN))))
noncomputable def den_is_blocking : DS :=
  (sSeq (sDrop (dCall f_need_board (daC (dV 0) (daC (dC (.str "board")) daN))))
  (sSeq (sDrop (dCall f_need_ports (daC (dV 0) (daC (dV 1) (daC (dC (.str "ports")) daN)))))
  (sSeq (sDrop (dCall f_need_ports (daC (dV 0) (daC (dV 2) (daC (dC (.str "goals")) daN)))))
  (sSeq (sIf (dOr (dNot (dTru (dOp (oIsi "tuple") (daC (dV 3) daN)))) (dNot (dTru (dOp oAll (daC (dLc (dIt (dV 3)) [4] (gN 4) dYes ce_is_blocking_1) daN)))))
  (sRet (dC (.bool false)))
  sNil)
  (sRet (dAndV (dOp oEq (daC (dOp oList (daC (dV 3) daN)) (daC (dOp oSortSetN (daC (dV 3) daN)) daN))) (dCall f_is_shut (daC (dV 0) (daC (dV 1) (daC (dV 2) (daC (dV 3) daN)))))))))))
noncomputable def f_is_blocking : List D → FO := runD false 5 den_is_blocking
theorem sc_is_blocking : FnScope N_is_blocking ["board", "ports", "goals", "value"] (defScope (top 36)) := ⟨rfl, rfl, rfl, by decide +kernel, rfl, by decide +kernel, by decide +kernel⟩
theorem ok_is_blocking {P : Program} {w : World} {K : PySem.W.Frag} {mg : Str → Option Value} {base : Heap} {f : Addr} {fd : FuncData} (Fu : Fun K "is_blocking" "is_blocking" (top 36) f fd)
    (c_need_board : Cq P w K mg base "need_board" 4 ["value", "name"] (spP K mg false 2 f_need_board)) (c_need_ports : Cq P w K mg base "need_ports" 4 ["board", "value", "name"] (spP K mg false 3 f_need_ports)) (c_is_whole : Cq P w K mg base "is_whole" 1 ["value", "low", "high"] (spP K mg false 3 f_is_whole)) (c_is_shut : Cq P w K mg base "is_shut" 3 ["board", "ports", "goals", "some"] (spP K mg false 4 f_is_shut)) (m_isinstance : mg "isinstance" = none) (m_tuple : mg "tuple" = none) (m_len : mg "len" = none) (m_all : mg "all" = none) (m_list : mg "list" = none) (m_sorted : mg "sorted" = none) (m_set : mg "set" = none) :
    FnOk P w K mg base (L2.CX P w) 5 f fd ["board", "ports", "goals", "value"] (spP K mg false 4 f_is_blocking) := by
  refine fn_den2 (k := 4) (N := N_is_blocking) false den_is_blocking Fu sc_is_blocking (by simp) fun cdv A outer s H E F0 H0 ia T pin hr hpn => ?_
  have hK : (Cfg.mk K mg F0 H0 ia T pin).K = K := rfl
  have hmg : (Cfg.mk K mg F0 H0 ia T pin).mg = mg := rfl
  have hpin := hpn rfl
  have tk := takes_of (X := cxOf (L2.CX P w) P w K mg base N_is_blocking "is_blocking" (defScope (top 36)) f cdv A outer s H E) rfl rfl rfl rfl
  have hx : Passes (L2.CX P w) (cxOf (L2.CX P w) P w K mg base N_is_blocking "is_blocking" (defScope (top 36)) f cdv A outer s H E) E := passes_call tk (fun _ _ _ _ h => h)
  have hp : PassesOwn (model P w) (cxOf (L2.CX P w) P w K mg base N_is_blocking "is_blocking" (defScope (top 36)) f cdv A outer s H E).A (cxOf (L2.CX P w) P w K mg base N_is_blocking "is_blocking" (defScope (top 36)) f cdv A outer s H E).env (cxOf (L2.CX P w) P w K mg base N_is_blocking "is_blocking" (defScope (top 36)) f cdv A outer s H E).xe := passes_of rfl
  have hu1 := hr.units
  have hu : (A.deeper (envOfC "is_blocking" (defScope (top 36)) s.heap.objs.size f cdv)).units + 65 < cLine := by have := hr.un; omega
  exact (ds_cons (ds_expr (dx_call ⟨c_need_board⟩ hK hmg (hr.mono (by decide)) hx (da_cons (dx_var 0) (da_cons dx_str da_nil)) (daLen_cons (daLen_cons daLen_nil))))
  (ds_cons (ds_expr (dx_call ⟨c_need_ports⟩ hK hmg (hr.mono (by decide)) hx (da_cons (dx_var 0) (da_cons (dx_var 1) (da_cons dx_str da_nil))) (daLen_cons (daLen_cons (daLen_cons daLen_nil)))))
  (ds_cons (ds_expr (dx_call ⟨c_need_ports⟩ hK hmg (hr.mono (by decide)) hx (da_cons (dx_var 0) (da_cons (dx_var 2) (da_cons dx_str da_nil))) (daLen_cons (daLen_cons (daLen_cons daLen_nil)))))
  (ds_cons (ds_if (DTW.t (dw_or (dt_not (dt_tru (dx_isi (T := "tuple") hK m_isinstance m_tuple (dx_var 3)) hK)) (dw_or1 (dt_not (dt_tru (dx_callB (cr_all rfl) vok_all m_all (da_cons (dx_lc (own := [("own", 4)]) rfl sc_is_blocking.nd (di_any hK (dx_var 3)) (fun _ _ _ _ _ => (dg_name (i := 4) sc_is_blocking.nd)) bt_nil (fun _ _ _ _ _ => (dx_call ⟨c_is_whole⟩ hK hmg (hr.mono (by decide)) passL (da_cons (dx_var 4) (da_cons dx_int (da_cons (dx_bin op_sub vok_I0 (dx_callB call_len vok_len m_len (da_cons (dx_ix ix_seq vok_ix (dx_var 0) dx_int) da_nil)) dx_int) da_nil))) (daLen_cons (daLen_cons (daLen_cons daLen_nil))))) (blkOk_by (by kernel_rfl))) da_nil)) hK)))))
  (ds_one (ds_ret dx_bl))
  ds_nil)
  (ds_one (ds_ret (dx_and (dx_cmp (op_eqA hu1) vok_eq (dx_callTy call_list_of vok_list m_list (da_cons (dx_var 3) da_nil)) (dx_sortSetN hK m_sorted m_set (dx_var 3) rfl)) (dx_one (dx_call ⟨c_is_shut⟩ hK hmg (hr.mono (by decide)) hx (da_cons (dx_var 0) (da_cons (dx_var 1) (da_cons (dx_var 2) (da_cons (dx_var 3) da_nil)))) (daLen_cons (daLen_cons (daLen_cons (daLen_cons daLen_nil)))))))))))))
/-! ### _law_refused, law -/
theorem sc__law_refused : FnScope ["call", "e"] ["call"] (defScope (top 42)) := ⟨rfl, rfl, rfl, by decide +kernel, rfl, by decide +kernel, by decide +kernel⟩
/-! ### _law_case (makes lambdas) -/
def N__law_case : List Str := ["row", "board", "many", "size", "turn", "port", "goal", "fits", "due", "ports", "goals", "most", "some", "rows", "fine", "count", "value", "cell", "cells", "left", "bad", "told", "own", "at"]
noncomputable def ct__law_case_1 : DB :=
  (dTru (dCall f__law_shut (daC (dV 1) (daC (dLst (daC (dV 5) daN)) (daC (dLst (daC (dV 6) daN)) (daC (dLst (daC (dV 17) daN)) daN))))))
noncomputable def ct__law_case_2 : DB :=
  (dTst (dOp oEq (daC (dCallIo f__law_taken 0 (daC (dC (.int 4)) daN)) (daC (dC (.int 0)) daN))))
noncomputable def ct__law_case_3 : DB :=
  (dTst (dOp oEq (daC (dCallIo f__law_taken 0 (daC (dC (.int 3)) daN)) (daC (dC (.int 0)) daN))))
noncomputable def ct__law_case_4 : DB :=
  (dTru (dCall f__law_shut (daC (dV 1) (daC (dV 9) (daC (dV 10) (daC (dV 18) daN))))))
noncomputable def ct__law_case_5 : DB :=
  (dTst (dOp oEq (daC (dCallIo f__law_taken 0 (daC (dC (.int 2)) daN)) (daC (dC (.int 0)) daN))))
noncomputable def lb__law_case_6 : DS :=
  (sSeq (sSet 16 (dOp oTuple (daC (dLc (dRg1 (daC (dV 3) daN)) [17] (gN 17) ct__law_case_5 (dV 17)) daN)))
  (sIf (dTst (dOp oIsNotB (daC (dCall f_is_blocking (daApp (daC (dV 1) (daC (dV 9) (daC (dV 10) daN))) (daC (dV 16) daN))) (daC (dCall f__law_shut (daC (dV 1) (daC (dV 9) (daC (dV 10) (daC (dV 16) daN))))) daN))))
  (sRet (dC (.bool false)))
  sNil))
noncomputable def lb__law_case_7 : DS :=
  (sSeq (sPar [5, 6] (daC (dCallIo f__law_taken 0 (daC (dV 2) daN)) (daC (dCallIo f__law_taken 0 (daC (dV 2) daN)) daN)))
  (sSeq (sSet 7 (dOp oIn (daC (dV 6) (daC (dCall f__law_outs (daC (dV 1) (daC (dLst (daC (dV 5) daN)) daN))) daN))))
  (sSeq (sIf (dNot (dTru (dCall (f__law_alike 8) (daC (dCall f_reaches (daApp (daC (dV 1) (daC (dV 5) daN)) (daC (dV 6) daN))) (daC (dV 7) daN)))))
  (sRet (dC (.bool false)))
  sNil)
  (sSeq (sSet 8 (dIf (dTru (dV 7)) (dOp oTuple (daC (dLc (dRg1 (daC (dV 3) daN)) [17] (gN 17) ct__law_case_1 (dV 17)) daN)) (dC .none)))
  (sSeq (sIf (dNot (dTru (dCall (f__law_alike 8) (daC (dCall f_needed (daC (dV 1) (daC (dV 5) (daC (dV 6) daN)))) (daC (dV 8) daN)))))
  (sRet (dC (.bool false)))
  sNil)
  (sSeq (sSet 9 (dOp oTuple (daC (dLc (dRg1 (daC (dV 2) daN)) [22] (gN 22) ct__law_case_2 (dV 22)) daN)))
  (sSeq (sSet 10 (dOp oTuple (daC (dLc (dRg1 (daC (dV 2) daN)) [22] (gN 22) ct__law_case_3 (dV 22)) daN)))
  (sSeq (sSet 11 (dCallIo f__law_taken 0 (daC (dC (.int 4)) daN)))
  (sSeq (sSet 12 (dFz (dLc (dRg2 (daC (dC (.int 0)) (daC (dOp oAdd (daC (dV 11) (daC (dC (.int 1)) daN))) daN))) [22] (gN 22) dYes (dV 22))))
  (sSeq (sSet 13 (dFz (dLcG (dIt (dV 12)) [15, 18] (gN 15) dYes (dIt (dCall f__law_rows (daC (dLR (dV 3)) (daC (dV 15) daN)))) [18] (gN 18) dYes (dV 18))))
  (sSeq (sSet 14 (dFz (dLc (dIt (dV 13)) [18] (gN 18) ct__law_case_4 (dV 18))))
  (sSeq (sIf (dNot (dTru (dCall (f__law_alike 8) (daC (dCall f_fewest_blocks (daApp (daC (dV 1) (daC (dV 9) (daC (dV 10) daN))) (daC (dV 11) daN))) (daC (dIf (dTst (dOp oNe (daC (dV 14) (daC (dLst daN) daN)))) (dOp oIx (daC (dV 14) (daC (dC (.int 0)) daN))) (dC .none)) daN)))))
  (sRet (dC (.bool false)))
  sNil)
  (sFor (dRg1 (daC (dC (.int 4)) daN)) (gN 15) lb__law_case_6)))))))))))))
noncomputable def ce__law_case_8 : DE :=
  (dIf (dTst (dOp oEq (daC (dV 23) (daC (dV 17) daN)))) (dC (.int 3)) (dV 22))
noncomputable def ct__law_case_9 : DB :=
  (dTst (dOp oNotIn (daC (dV 6) (daC (dV 19) daN))))
noncomputable def ce__law_case_10 : DE :=
  (dTup (daC (dV 5) (daC (dV 6) daN)))
noncomputable def lb__law_case_11 : DS :=
  (sSeq (sSet 19 (dCall f__law_outs (daC (dTup (daC (dOp oIx (daC (dV 1) (daC (dC (.int 0)) daN))) (daC (dOp oIx (daC (dV 1) (daC (dC (.int 1)) daN))) (daC (dV 18) daN)))) (daC (dLst (daC (dV 5) daN)) daN))))
  (sSet 8 (dFz (dOp oAdd (daC (dV 8) (daC (dLc (dIt (dCall f__law_outs (daC (dV 1) (daC (dLst (daC (dV 5) daN)) daN)))) [6] (gN 6) ct__law_case_9 ce__law_case_10) daN))))))
noncomputable def ct__law_case_12 : DB :=
  (dTru (dCall f_is_blocking (daC (dV 1) (daC (dTup (daC (dC (.int 0)) daN)) (daC (dTup daN) (daC (dV 22) daN))))))
noncomputable def den__law_case : DS :=
  (sSeq (sSet 1 (dCallIo f__law_board 0 (daC (dOp oAdd (daC (dC (.int 1)) (daC (dCallIo f__law_taken 0 (daC (dC (.int 3)) daN)) daN))) (daC (dOp oAdd (daC (dC (.int 1)) (daC (dCallIo f__law_taken 0 (daC (dC (.int 2)) daN)) daN))) (daC (dCallIo f__law_taken 0 (daC (dC (.int 6)) daN)) daN)))))
  (sSeq (sPar [2, 3] (daC (dOp oMul (daC (dC (.int 2)) (daC (dOp oAdd (daC (dOp oIx (daC (dV 1) (daC (dC (.int 0)) daN))) (daC (dOp oIx (daC (dV 1) (daC (dC (.int 1)) daN))) daN))) daN))) (daC (dOp oLen (daC (dOp oIx (daC (dV 1) (daC (dC (.int 2)) daN))) daN)) daN)))
  (sSeq (sFor (dRg1 (daC (dC (.int 3)) daN)) (gN 4) lb__law_case_7)
  (sSeq (sSet 17 (dCallIo f__law_taken 0 (daC (dV 3) daN)))
  (sSeq (sSet 18 (dOp oTuple (daC (dLc (dEn (daC (dOp oIx (daC (dV 1) (daC (dC (.int 2)) daN))) daN)) [23, 22] (gT (gsC (gN 23) (gsC (gN 22) gsN)) 2) dYes ce__law_case_8) daN)))
  (sSeq (sSet 8 (dFz (dLst daN)))
  (sSeq (sFor (dRg1 (daC (dV 2) daN)) (gN 5) lb__law_case_11)
  (sSeq (sIf (dNot (dTru (dCall (f__law_alike 8) (daC (dCall f_shut_off (daC (dV 1) (daC (dV 17) daN))) (daC (dOp oTuple (daC (dV 8) daN)) daN)))))
  (sRet (dC (.bool false)))
  sNil)
  (sSeq (sIf (dTst (dOp oNe (daC (dLc (dIt (dLst (daC (dTup (daC (dV 3) daN)) (daC (dTup (daC (dC (.bool true)) daN)) (daC (dC .none) (daC (dLst daN) (daC (dTup (daC (dC (.int 0)) (daC (dC (.int 0)) daN))) (daC (dTup (daC (dOp oNeg (daC (dC (.int 1)) daN)) daN)) daN)))))))) [22] (gN 22) ct__law_case_12 (dV 22)) (daC (dLst daN) daN))))
  (sRet (dC (.bool false)))
  sNil)
  (sSeq (sSet 20 (dCallIo f__law_pick 0 (daC (dLst (daC (dC .none) (daC (dLst (daC (dC (.int 0)) daN)) (daC (dTup (daC (dV 2) daN)) (daC (dTup (daC (dC (.int 0)) (daC (dC (.int 0)) daN))) (daC (dTup (daC (dC (.bool true)) daN)) (daC (dTup (daC (dC (.int 1)) (daC (dC (.int 0)) daN))) daN))))))) daN)))
  (sSeq (sSet 21 (dFz (dLst (daC (dRef "BadArgument" "name" "" (dCall f_fewest_blocks (daC (dV 1) (daC (dV 20) (daC (dTup daN) (daC (dC (.int 0)) daN)))))) (daC (dRef "BadArgument" "name" "" (dCall f_fewest_blocks (daC (dV 1) (daC (dTup daN) (daC (dV 20) (daC (dC (.int 0)) daN)))))) (daC (dRef "BadArgument" "name" "" (dCall f_fewest_blocks (daC (dV 1) (daC (dTup daN) (daC (dTup daN) (daC (dC (.int 4)) daN)))))) (daC (dRef "BadArgument" "name" "" (dCall f_is_blocking (daC (dV 1) (daC (dV 20) (daC (dTup daN) (daC (dTup daN) daN)))))) (daC (dRef "BadArgument" "name" "" (dCall f_needed (daC (dV 1) (daC (dC (.int 0)) (daC (dV 2) daN))))) (daC (dRef "BadArgument" "name" "" (dCall f_shut_off (daC (dV 1) (daC (dV 3) daN)))) (daC (dRef "BadArgument" "name" "" (dCall f_reaches (daC (dC (.int 5)) (daC (dC (.int 0)) (daC (dC (.int 0)) daN))))) daN))))))))))
  (sRet (dOp oEq (daC (dV 21) (daC (dLst (daC (dC (.str "ports")) (daC (dC (.str "goals")) (daC (dC (.str "most")) (daC (dC (.str "ports")) (daC (dC (.str "goal")) (daC (dC (.str "cell")) (daC (dC (.str "board")) daN)))))))) daN)))))))))))))))
noncomputable def f__law_case : List D → FO := runD true 24 den__law_case
theorem sc__law_case : FnScope N__law_case ["row"] (defScope (top 54)) := ⟨rfl, rfl, rfl, by decide +kernel, rfl, by decide +kernel, by decide +kernel⟩
theorem ok__law_case {P : Program} {w : World} {K : PySem.W.Frag} {mg : Str → Option Value} {base : Heap} {f cc Pt g : Addr} {fdR : FuncData} {oc kV doc pm ct : Value} {od an : Option Addr} {osl : Array (Option Value)} {T : List (Addr × Str)}
    (lk : K.lookup f = some ⟨oc, od, .func (PySem.W.fnOf "_law_case" "_law_case" (defArgs (top 54)) (defBody (top 54)) (defScope (top 54)) .none kV doc pm an (.ref cc) ct), osl⟩) (hcd : PySem.W.codeIn K (.ref cc) "_law_case" = true) (TB : LamX.TabB base mg cc Pt) (hTm : (Pt, (("_law_case" : Str) ++ ".<locals>.") ++ "<lambda>") ∈ T) (hTu : ∀ p ∈ T, p.1 = Pt → p.2 = (("_law_case" : Str) ++ ".<locals>.") ++ "<lambda>") (Fr : Fun K "_law_refused" "_law_refused" (top 42) g fdR) (br : Binds K fdR ["call"] []) (mr : mg "_law_refused" = some (.ref g))
    (c__law_board : Cq P w K mg base "_law_board" 3 ["row", "wide", "high", "most"] (spP K mg true 4 f__law_board)) (c__law_taken : Cq P w K mg base "_law_taken" 1 ["row", "many"] (spP K mg true 2 f__law_taken)) (c__law_outs : Cq P w K mg base "_law_outs" 4 ["board", "ports"] (spP K mg false 2 f__law_outs)) (c__law_alike : Cq P w K mg base "_law_alike" 8 ["found", "due"] (spP K mg false 2 (f__law_alike 8))) (c__law_shut : Cq P w K mg base "_law_shut" 5 ["board", "ports", "goals", "some"] (spP K mg false 4 f__law_shut)) (c_needed : Cq P w K mg base "needed" 6 ["board", "port", "goal"] (spP K mg false 3 f_needed)) (c__law_rows : Cq P w K mg base "_law_rows" 1 ["places", "size"] (spP K mg false 2 f__law_rows)) (c_shut_off : Cq P w K mg base "shut_off" 5 ["board", "cell"] (spP K mg false 2 f_shut_off)) (c_is_blocking : Cq P w K mg base "is_blocking" 5 ["board", "ports", "goals", "value"] (spP K mg false 4 f_is_blocking)) (c__law_pick : Cq P w K mg base "_law_pick" 2 ["row", "some"] (spP K mg true 2 f__law_pick)) (c_fewest_blocks : Cq P w K mg base "fewest_blocks" 5 ["board", "ports", "goals", "most"] (spP K mg false 4 f_fewest_blocks)) (c_reaches : Cq P w K mg base "reaches" 5 ["board", "port", "goal"] (spP K mg false 3 f_reaches)) (k_reaches_2 : CKq P w K mg base "reaches" 5 ["board", "port", "goal"] (spP K mg false (2 + 1) f_reaches) 2 1 ["goal"]) (k_fewest_blocks_3 : CKq P w K mg base "fewest_blocks" 5 ["board", "ports", "goals", "most"] (spP K mg false (3 + 1) f_fewest_blocks) 3 1 ["most"]) (k_is_blocking_3 : CKq P w K mg base "is_blocking" 5 ["board", "ports", "goals", "value"] (spP K mg false (3 + 1) f_is_blocking) 3 1 ["value"]) (m_len : mg "len" = none) (m_range : mg "range" = none) (m_tuple : mg "tuple" = none) (m_list : mg "list" = none) (m_enumerate : mg "enumerate" = none) {C_BadArgument : Addr} (e_BadArgument : ExcF K mg "BadArgument" C_BadArgument ["name"]) :
    FnOk P w K mg base (L2.CX P w) 9 f (PySem.W.fnOf "_law_case" "_law_case" (defArgs (top 54)) (defBody (top 54)) (defScope (top 54)) .none kV doc pm an (.ref cc) ct) ["row"] (spT K mg T true 1 f__law_case) := by
  refine fn_denT (k := 8) (N := N__law_case) true den__law_case lk hcd sc__law_case (by decide) fun A outer s H E F0 H0 ia pin hr hpn n0 nH => ?_
  have hK : (Cfg.mk K mg F0 H0 ia T pin).K = K := rfl
  have hmg : (Cfg.mk K mg F0 H0 ia T pin).mg = mg := rfl
  
  have tk := takes_of (X := cxOf (L2.CX P w) P w K mg base N__law_case "_law_case" (defScope (top 54)) f (.ref cc) A outer s H E) rfl rfl rfl rfl
  have hx : Passes (L2.CX P w) (cxOf (L2.CX P w) P w K mg base N__law_case "_law_case" (defScope (top 54)) f (.ref cc) A outer s H E) E := passes_call tk (fun _ _ _ _ h => h)
  have hp : PassesOwn (model P w) (cxOf (L2.CX P w) P w K mg base N__law_case "_law_case" (defScope (top 54)) f (.ref cc) A outer s H E).A (cxOf (L2.CX P w) P w K mg base N__law_case "_law_case" (defScope (top 54)) f (.ref cc) A outer s H E).env (cxOf (L2.CX P w) P w K mg base N__law_case "_law_case" (defScope (top 54)) f (.ref cc) A outer s H E).xe := passes_of rfl
  have hu1 := hr.units
  have hu : (A.deeper (envOfC "_law_case" (defScope (top 54)) s.heap.objs.size f (.ref cc))).units + 65 < cLine := by have := hr.un; omega
  exact (ds_cons (ds_set (.inl (by decide)) sc__law_case.nd (dx_callIo (j := 0) ⟨c__law_board⟩ hK hmg (hr.mono (by decide)) hx (da_cons (dx_bin op_addA vok_add dx_int (dx_callIo (j := 0) ⟨c__law_taken⟩ hK hmg (hr.mono (by decide)) hx (da_cons dx_int da_nil) (daLen_cons daLen_nil))) (da_cons (dx_bin op_addA vok_add dx_int (dx_callIo (j := 0) ⟨c__law_taken⟩ hK hmg (hr.mono (by decide)) hx (da_cons dx_int da_nil) (daLen_cons daLen_nil))) (da_cons (dx_callIo (j := 0) ⟨c__law_taken⟩ hK hmg (hr.mono (by decide)) hx (da_cons dx_int da_nil) (daLen_cons daLen_nil)) da_nil))) (daLen_cons (daLen_cons (daLen_cons daLen_nil)))))
  (ds_cons (ds_parT (.inl (by decide)) hK rfl (pga_cons (i := 2) sc__law_case.nd (pga_cons (i := 3) sc__law_case.nd pga_nil)) (da_cons (dx_bin op_mulA vok_mul dx_int (dx_bin op_addA vok_add (dx_ix ix_seq vok_ix (dx_var 1) dx_int) (dx_ix ix_seq vok_ix (dx_var 1) dx_int))) (da_cons (dx_callB call_len vok_len m_len (da_cons (dx_ix ix_seq vok_ix (dx_var 1) dx_int) da_nil)) da_nil)) (daLen_cons (daLen_cons daLen_nil)))
  (ds_cons (ds_for (.inl (by decide)) hp rfl (di_rg1 m_range (da_cons dx_int da_nil)) (dg_name (i := 4) sc__law_case.nd)
  (ds_cons (ds_parT (.inl (by decide)) hK rfl (pga_cons (i := 5) sc__law_case.nd (pga_cons (i := 6) sc__law_case.nd pga_nil)) (da_cons (dx_callIo (j := 0) ⟨c__law_taken⟩ hK hmg (hr.mono (by decide)) hx (da_cons (dx_var 2) da_nil) (daLen_cons daLen_nil)) (da_cons (dx_callIo (j := 0) ⟨c__law_taken⟩ hK hmg (hr.mono (by decide)) hx (da_cons (dx_var 2) da_nil) (daLen_cons daLen_nil)) da_nil)) (daLen_cons (daLen_cons daLen_nil)))
  (ds_cons (ds_set (.inl (by decide)) sc__law_case.nd (dx_cmp (op_inA hu) vok_in (dx_var 6) (dx_call ⟨c__law_outs⟩ hK hmg (hr.mono (by decide)) hx (da_cons (dx_var 1) (da_cons (dx_lst (da_cons (dx_var 5) da_nil)) da_nil)) (daLen_cons (daLen_cons daLen_nil)))))
  (ds_cons (ds_if (dt_not (dt_tru (dx_call ⟨c__law_alike⟩ hK hmg (hr.mono (by decide)) hx (da_cons (dx_callK ⟨k_reaches_2⟩ hK hmg (hr.mono (by decide)) hx (da_cons (dx_var 1) (da_cons (dx_var 5) da_nil)) (daLen_cons (daLen_cons daLen_nil)) (dk_cons (dx_var 6) dk_nil) (daLen_cons daLen_nil)) (da_cons (dx_var 7) da_nil)) (daLen_cons (daLen_cons daLen_nil))) hK))
  (ds_one (ds_ret dx_bl))
  ds_nil)
  (ds_cons (ds_set (.inl (by decide)) sc__law_case.nd (dx_if (dt_tru (dx_var 7) hK) (dx_callTy call_tuple_of vok_tuple m_tuple (da_cons (dx_lc (own := [("cell", 17)]) rfl sc__law_case.nd (di_rg1 m_range (da_cons (dx_var 3) da_nil)) (fun _ _ _ _ _ => (dg_name (i := 17) sc__law_case.nd)) (bt_one fun _ _ _ _ _ => (dt_tru (dx_call ⟨c__law_shut⟩ hK hmg (hr.mono (by decide)) passL (da_cons (dx_var 1) (da_cons (dx_lst (da_cons (dx_var 5) da_nil)) (da_cons (dx_lst (da_cons (dx_var 6) da_nil)) (da_cons (dx_lst (da_cons (dx_var 17) da_nil)) da_nil)))) (daLen_cons (daLen_cons (daLen_cons (daLen_cons daLen_nil))))) hK)) (fun _ _ _ _ _ => (dx_var 17)) (blkOk_by (by kernel_rfl))) da_nil)) dx_non))
  (ds_cons (ds_if (dt_not (dt_tru (dx_call ⟨c__law_alike⟩ hK hmg (hr.mono (by decide)) hx (da_cons (dx_call ⟨c_needed⟩ hK hmg (hr.mono (by decide)) hx (da_cons (dx_var 1) (da_cons (dx_var 5) (da_cons (dx_var 6) da_nil))) (daLen_cons (daLen_cons (daLen_cons daLen_nil)))) (da_cons (dx_var 8) da_nil)) (daLen_cons (daLen_cons daLen_nil))) hK))
  (ds_one (ds_ret dx_bl))
  ds_nil)
  (ds_cons (ds_set (.inl (by decide)) sc__law_case.nd (dx_callTy call_tuple_of vok_tuple m_tuple (da_cons (dx_lc (own := [("own", 22)]) rfl sc__law_case.nd (di_rg1 m_range (da_cons (dx_var 2) da_nil)) (fun _ _ _ _ _ => (dg_name (i := 22) sc__law_case.nd)) (bt_one fun _ _ _ _ _ => (dt_cmp (op_eqA hu1) vok_eq (dx_callIo (j := 0) ⟨c__law_taken⟩ hK hmg (hr.mono (by decide)) passL (da_cons dx_int da_nil) (daLen_cons daLen_nil)) dx_int)) (fun _ _ _ _ _ => (dx_var 22)) (blkOk_by (by kernel_rfl))) da_nil)))
  (ds_cons (ds_set (.inl (by decide)) sc__law_case.nd (dx_callTy call_tuple_of vok_tuple m_tuple (da_cons (dx_lc (own := [("own", 22)]) rfl sc__law_case.nd (di_rg1 m_range (da_cons (dx_var 2) da_nil)) (fun _ _ _ _ _ => (dg_name (i := 22) sc__law_case.nd)) (bt_one fun _ _ _ _ _ => (dt_cmp (op_eqA hu1) vok_eq (dx_callIo (j := 0) ⟨c__law_taken⟩ hK hmg (hr.mono (by decide)) passL (da_cons dx_int da_nil) (daLen_cons daLen_nil)) dx_int)) (fun _ _ _ _ _ => (dx_var 22)) (blkOk_by (by kernel_rfl))) da_nil)))
  (ds_cons (ds_set (.inl (by decide)) sc__law_case.nd (dx_callIo (j := 0) ⟨c__law_taken⟩ hK hmg (hr.mono (by decide)) hx (da_cons dx_int da_nil) (daLen_cons daLen_nil)))
  (ds_cons (ds_setLc (own := [("own", 22)]) true (.inl (by decide)) rfl sc__law_case.nd (di_rg2 m_range (da_cons dx_int (da_cons (dx_bin op_addA vok_add (dx_var 11) dx_int) da_nil))) (fun _ _ _ _ _ => (dg_name (i := 22) sc__law_case.nd)) bt_nil (fun _ _ _ _ _ => (dx_var 22)) (blkOk_by (by kernel_rfl)))
  (ds_cons (ds_setLcG (own := [("count", 15), ("cells", 18)]) (vs1 := [18]) true (.inl (by decide)) rfl sc__law_case.nd (di_any hK (dx_var 12)) (fun _ _ _ _ _ => (dg_name (i := 15) sc__law_case.nd)) bt_nil (fun _ _ _ _ _ => (di_any hK (dx_call ⟨c__law_rows⟩ hK hmg (hr.mono (by decide)) passL (da_cons (dx_listRange m_list m_range (dx_var 3) rfl) (da_cons (dx_var 15) da_nil)) (daLen_cons (daLen_cons daLen_nil))))) (fun _ _ _ _ _ => (dg_name (i := 18) sc__law_case.nd)) bt_nil (fun _ _ _ _ _ => (dx_var 18)) (blkOk_by (by kernel_rfl)))
  (ds_cons (ds_setLc (own := [("cells", 18)]) true (.inl (by decide)) rfl sc__law_case.nd (di_any hK (dx_var 13)) (fun _ _ _ _ _ => (dg_name (i := 18) sc__law_case.nd)) (bt_one fun _ _ _ _ _ => (dt_tru (dx_call ⟨c__law_shut⟩ hK hmg (hr.mono (by decide)) passL (da_cons (dx_var 1) (da_cons (dx_var 9) (da_cons (dx_var 10) (da_cons (dx_var 18) da_nil)))) (daLen_cons (daLen_cons (daLen_cons (daLen_cons daLen_nil))))) hK)) (fun _ _ _ _ _ => (dx_var 18)) (blkOk_by (by kernel_rfl)))
  (ds_cons (ds_if (dt_not (dt_tru (dx_call ⟨c__law_alike⟩ hK hmg (hr.mono (by decide)) hx (da_cons (dx_callK ⟨k_fewest_blocks_3⟩ hK hmg (hr.mono (by decide)) hx (da_cons (dx_var 1) (da_cons (dx_var 9) (da_cons (dx_var 10) da_nil))) (daLen_cons (daLen_cons (daLen_cons daLen_nil))) (dk_cons (dx_var 11) dk_nil) (daLen_cons daLen_nil)) (da_cons (dx_if (dt_cmp (op_neA hu1) vok_ne (dx_var 14) (dx_lst da_nil)) (dx_ix ix_seq vok_ix (dx_var 14) dx_int) dx_non) da_nil)) (daLen_cons (daLen_cons daLen_nil))) hK))
  (ds_one (ds_ret dx_bl))
  ds_nil)
  (ds_one (ds_for (.inl (by decide)) hp rfl (di_rg1 m_range (da_cons dx_int da_nil)) (dg_name (i := 15) sc__law_case.nd)
  (ds_cons (ds_set (.inl (by decide)) sc__law_case.nd (dx_callTy call_tuple_of vok_tuple m_tuple (da_cons (dx_lc (own := [("cell", 17)]) rfl sc__law_case.nd (di_rg1 m_range (da_cons (dx_var 3) da_nil)) (fun _ _ _ _ _ => (dg_name (i := 17) sc__law_case.nd)) (bt_one fun _ _ _ _ _ => (dt_cmp (op_eqA hu1) vok_eq (dx_callIo (j := 0) ⟨c__law_taken⟩ hK hmg (hr.mono (by decide)) passL (da_cons dx_int da_nil) (daLen_cons daLen_nil)) dx_int)) (fun _ _ _ _ _ => (dx_var 17)) (blkOk_by (by kernel_rfl))) da_nil)))
  (ds_one (ds_if (dt_cmp op_isNotB vok_isNotB (dx_callK ⟨k_is_blocking_3⟩ hK hmg (hr.mono (by decide)) hx (da_cons (dx_var 1) (da_cons (dx_var 9) (da_cons (dx_var 10) da_nil))) (daLen_cons (daLen_cons (daLen_cons daLen_nil))) (dk_cons (dx_var 16) dk_nil) (daLen_cons daLen_nil)) (dx_call ⟨c__law_shut⟩ hK hmg (hr.mono (by decide)) hx (da_cons (dx_var 1) (da_cons (dx_var 9) (da_cons (dx_var 10) (da_cons (dx_var 16) da_nil)))) (daLen_cons (daLen_cons (daLen_cons (daLen_cons daLen_nil))))))
  (ds_one (ds_ret dx_bl))
  ds_nil))))))))))))))))))
  (ds_cons (ds_set (.inl (by decide)) sc__law_case.nd (dx_callIo (j := 0) ⟨c__law_taken⟩ hK hmg (hr.mono (by decide)) hx (da_cons (dx_var 3) da_nil) (daLen_cons daLen_nil)))
  (ds_cons (ds_set (.inl (by decide)) sc__law_case.nd (dx_callTy call_tuple_of vok_tuple m_tuple (da_cons (dx_lc (own := [("at", 23), ("own", 22)]) rfl sc__law_case.nd (di_enum hK m_enumerate (da_cons (dx_ix ix_seq vok_ix (dx_var 1) dx_int) da_nil)) (fun _ _ _ _ _ => (dg_tup hK rfl (dgs_cons (dg_name (i := 23) sc__law_case.nd) (dgs_cons (dg_name (i := 22) sc__law_case.nd) dgs_nil)))) bt_nil (fun _ _ _ _ _ => (dx_if (dt_cmp (op_eqA hu1) vok_eq (dx_var 23) (dx_var 17)) dx_int (dx_var 22))) (blkOk_by (by kernel_rfl))) da_nil)))
  (ds_cons (ds_set (.inl (by decide)) sc__law_case.nd (dx_fz (dx_lst da_nil)))
  (ds_cons (ds_for (.inl (by decide)) hp rfl (di_rg1 m_range (da_cons (dx_var 2) da_nil)) (dg_name (i := 5) sc__law_case.nd)
  (ds_cons (ds_set (.inl (by decide)) sc__law_case.nd (dx_call ⟨c__law_outs⟩ hK hmg (hr.mono (by decide)) hx (da_cons (dx_tup (da_cons (dx_ix ix_seq vok_ix (dx_var 1) dx_int) (da_cons (dx_ix ix_seq vok_ix (dx_var 1) dx_int) (da_cons (dx_var 18) da_nil)))) (da_cons (dx_lst (da_cons (dx_var 5) da_nil)) da_nil)) (daLen_cons (daLen_cons daLen_nil))))
  (ds_one (ds_set (.inl (by decide)) sc__law_case.nd (dx_fz (dx_bin op_addA vok_add (dx_var 8) (dx_lc (own := [("goal", 6)]) rfl sc__law_case.nd (di_any hK (dx_call ⟨c__law_outs⟩ hK hmg (hr.mono (by decide)) hx (da_cons (dx_var 1) (da_cons (dx_lst (da_cons (dx_var 5) da_nil)) da_nil)) (daLen_cons (daLen_cons daLen_nil)))) (fun _ _ _ _ _ => (dg_name (i := 6) sc__law_case.nd)) (bt_one fun _ _ _ _ _ => (dt_cmp (op_notInA hu) vok_notIn (dx_var 6) (dx_var 19))) (fun _ _ _ _ _ => (dx_tup (da_cons (dx_var 5) (da_cons (dx_var 6) da_nil)))) (blkOk_by (by kernel_rfl)))))))))
  (ds_cons (ds_if (dt_not (dt_tru (dx_call ⟨c__law_alike⟩ hK hmg (hr.mono (by decide)) hx (da_cons (dx_call ⟨c_shut_off⟩ hK hmg (hr.mono (by decide)) hx (da_cons (dx_var 1) (da_cons (dx_var 17) da_nil)) (daLen_cons (daLen_cons daLen_nil))) (da_cons (dx_callTy call_tuple_of vok_tuple m_tuple (da_cons (dx_var 8) da_nil)) da_nil)) (daLen_cons (daLen_cons daLen_nil))) hK))
  (ds_one (ds_ret dx_bl))
  ds_nil)
  (ds_cons (ds_if (dt_cmp (op_neA hu1) vok_ne (dx_lc (own := [("own", 22)]) rfl sc__law_case.nd (di_any hK (dx_lst (da_cons (dx_tup (da_cons (dx_var 3) da_nil)) (da_cons (dx_tup (da_cons dx_bl da_nil)) (da_cons dx_non (da_cons (dx_lst da_nil) (da_cons (dx_tup (da_cons dx_int (da_cons dx_int da_nil))) (da_cons (dx_tup (da_cons (dx_un un_neg vok_U dx_int) da_nil)) da_nil)))))))) (fun _ _ _ _ _ => (dg_name (i := 22) sc__law_case.nd)) (bt_one fun _ _ _ _ _ => (dt_tru (dx_call ⟨c_is_blocking⟩ hK hmg (hr.mono (by decide)) passL (da_cons (dx_var 1) (da_cons (dx_tup (da_cons dx_int da_nil)) (da_cons (dx_tup da_nil) (da_cons (dx_var 22) da_nil)))) (daLen_cons (daLen_cons (daLen_cons (daLen_cons daLen_nil))))) hK)) (fun _ _ _ _ _ => (dx_var 22)) (blkOk_by (by kernel_rfl))) (dx_lst da_nil))
  (ds_one (ds_ret dx_bl))
  ds_nil)
  (ds_cons (ds_set (.inl (by decide)) sc__law_case.nd (dx_callIo (j := 0) ⟨c__law_pick⟩ hK hmg (hr.mono (by decide)) hx (da_cons (dx_lst (da_cons dx_non (da_cons (dx_lst (da_cons dx_int da_nil)) (da_cons (dx_tup (da_cons (dx_var 2) da_nil)) (da_cons (dx_tup (da_cons dx_int (da_cons dx_int da_nil))) (da_cons (dx_tup (da_cons dx_bl da_nil)) (da_cons (dx_tup (da_cons dx_int (da_cons dx_int da_nil))) da_nil))))))) da_nil) (daLen_cons daLen_nil)))
  (ds_cons (ds_set (.inl (by decide)) sc__law_case.nd (dx_fz (dx_lst (da_cons (dx_refT (k := 5) Fr br mr sc__law_refused rfl e_BadArgument hK hmg n0 nH hTm hTu TB rfl (hr.mono (by decide)) (fun A outer s H E f c' hrL => (dx_call ⟨c_fewest_blocks⟩ hK hmg (hrL.mono (by decide)) (passes_call (takes_of rfl rfl rfl rfl) (fun _ _ _ _ h => h)) (da_cons (dx_var 1) (da_cons (dx_var 20) (da_cons (dx_tup da_nil) (da_cons dx_int da_nil)))) (daLen_cons (daLen_cons (daLen_cons (daLen_cons daLen_nil))))))) (da_cons (dx_refT (k := 5) Fr br mr sc__law_refused rfl e_BadArgument hK hmg n0 nH hTm hTu TB rfl (hr.mono (by decide)) (fun A outer s H E f c' hrL => (dx_call ⟨c_fewest_blocks⟩ hK hmg (hrL.mono (by decide)) (passes_call (takes_of rfl rfl rfl rfl) (fun _ _ _ _ h => h)) (da_cons (dx_var 1) (da_cons (dx_tup da_nil) (da_cons (dx_var 20) (da_cons dx_int da_nil)))) (daLen_cons (daLen_cons (daLen_cons (daLen_cons daLen_nil))))))) (da_cons (dx_refT (k := 5) Fr br mr sc__law_refused rfl e_BadArgument hK hmg n0 nH hTm hTu TB rfl (hr.mono (by decide)) (fun A outer s H E f c' hrL => (dx_call ⟨c_fewest_blocks⟩ hK hmg (hrL.mono (by decide)) (passes_call (takes_of rfl rfl rfl rfl) (fun _ _ _ _ h => h)) (da_cons (dx_var 1) (da_cons (dx_tup da_nil) (da_cons (dx_tup da_nil) (da_cons dx_int da_nil)))) (daLen_cons (daLen_cons (daLen_cons (daLen_cons daLen_nil))))))) (da_cons (dx_refT (k := 5) Fr br mr sc__law_refused rfl e_BadArgument hK hmg n0 nH hTm hTu TB rfl (hr.mono (by decide)) (fun A outer s H E f c' hrL => (dx_call ⟨c_is_blocking⟩ hK hmg (hrL.mono (by decide)) (passes_call (takes_of rfl rfl rfl rfl) (fun _ _ _ _ h => h)) (da_cons (dx_var 1) (da_cons (dx_var 20) (da_cons (dx_tup da_nil) (da_cons (dx_tup da_nil) da_nil)))) (daLen_cons (daLen_cons (daLen_cons (daLen_cons daLen_nil))))))) (da_cons (dx_refT (k := 6) Fr br mr sc__law_refused rfl e_BadArgument hK hmg n0 nH hTm hTu TB rfl (hr.mono (by decide)) (fun A outer s H E f c' hrL => (dx_call ⟨c_needed⟩ hK hmg (hrL.mono (by decide)) (passes_call (takes_of rfl rfl rfl rfl) (fun _ _ _ _ h => h)) (da_cons (dx_var 1) (da_cons dx_int (da_cons (dx_var 2) da_nil))) (daLen_cons (daLen_cons (daLen_cons daLen_nil)))))) (da_cons (dx_refT (k := 5) Fr br mr sc__law_refused rfl e_BadArgument hK hmg n0 nH hTm hTu TB rfl (hr.mono (by decide)) (fun A outer s H E f c' hrL => (dx_call ⟨c_shut_off⟩ hK hmg (hrL.mono (by decide)) (passes_call (takes_of rfl rfl rfl rfl) (fun _ _ _ _ h => h)) (da_cons (dx_var 1) (da_cons (dx_var 3) da_nil)) (daLen_cons (daLen_cons daLen_nil))))) (da_cons (dx_refT (k := 5) Fr br mr sc__law_refused rfl e_BadArgument hK hmg n0 nH hTm hTu TB rfl (hr.mono (by decide)) (fun A outer s H E f c' hrL => (dx_call ⟨c_reaches⟩ hK hmg (hrL.mono (by decide)) (passes_call (takes_of rfl rfl rfl rfl) (fun _ _ _ _ h => h)) (da_cons dx_int (da_cons dx_int (da_cons dx_int da_nil))) (daLen_cons (daLen_cons (daLen_cons daLen_nil)))))) da_nil))))))))))
  (ds_one (ds_ret (dx_cmp (op_eqA hu1) vok_eq (dx_var 21) (dx_lst (da_cons dx_str (da_cons dx_str (da_cons dx_str (da_cons dx_str (da_cons dx_str (da_cons dx_str (da_cons dx_str da_nil))))))))))))))))))))))
def N_law : List Str := ["script", "row", "turn"]
noncomputable def lb_law_1 : DS :=
  (sIf (dNot (dTru (dCallIo f__law_case 1 daN)))
  (sRet (dC (.bool false)))
  sNil)
noncomputable def den_law : DS :=
  (sSeq (sSet 1 (dLst (daC (dV 0) (daC (dC (.int 0)) (daC (dC (.int 92003)) (daC (dC (.int 0)) daN))))))
  (sSeq (sFor (dRg1 (daC (dC (.int 2)) daN)) (gN 2) lb_law_1)
  (sRet (dC (.bool true)))))
theorem sc_law : FnScope N_law ["script"] (defScope (top 55)) := ⟨rfl, rfl, rfl, by decide +kernel, rfl, by decide +kernel, by decide +kernel⟩
theorem ok_law {P : Program} {w : World} {K : PySem.W.Frag} {mg : Str → Option Value} {base : Heap} {f cc : Addr} {oc kV doc pm ct : Value} {od an : Option Addr} {osl : Array (Option Value)} {T : List (Addr × Str)}
    (lk : K.lookup f = some ⟨oc, od, .func (PySem.W.fnOf "law" "law" (defArgs (top 55)) (defBody (top 55)) (defScope (top 55)) .none kV doc pm an (.ref cc) ct), osl⟩) (hcd : PySem.W.codeIn K (.ref cc) "law" = true) (hnl : noListB K = true)
    (c__law_case : Cq P w K mg base "_law_case" 9 ["row"] (spT K mg T true 1 f__law_case)) (m_range : mg "range" = none)
    (hden : ∀ ns : List Int, ns.length ≤ 63 → (∀ z ∈ ns, Builtin.Int.intBits z ≤ 1048576) → ∃ ρ, den_law (startR false N_law.length [.list (ns.map .int)]) = .rt (.bool true) ρ) :
    FnOk P w K mg base (L2.CX P w) 10 f (PySem.W.fnOf "law" "law" (defArgs (top 55)) (defBody (top 55)) (defScope (top 55)) .none kV doc pm an (.ref cc) ct) ["script"] (spLawT K T) := by
  refine law_denT (k := 9) (N := N_law) den_law lk hcd sc_law hnl hden fun A outer s H E F0 H0 hr n0 nH => ?_
  have hK : (Cfg.mk K mg F0 H0 [] T none).K = K := rfl
  have hmg : (Cfg.mk K mg F0 H0 [] T none).mg = mg := rfl
  have hpin : (Cfg.mk K mg F0 H0 [] T none).pin = none := rfl
  have tk := takes_of (X := cxOf (L2.CX P w) P w K mg base N_law "law" (defScope (top 55)) f (.ref cc) A outer s H E) rfl rfl rfl rfl
  have hx : Passes (L2.CX P w) (cxOf (L2.CX P w) P w K mg base N_law "law" (defScope (top 55)) f (.ref cc) A outer s H E) E := passes_call tk (fun _ _ _ _ h => h)
  have hp : PassesOwn (model P w) (cxOf (L2.CX P w) P w K mg base N_law "law" (defScope (top 55)) f (.ref cc) A outer s H E).A (cxOf (L2.CX P w) P w K mg base N_law "law" (defScope (top 55)) f (.ref cc) A outer s H E).env (cxOf (L2.CX P w) P w K mg base N_law "law" (defScope (top 55)) f (.ref cc) A outer s H E).xe := passes_of rfl
  have hu1 := hr.units
  have hu : (A.deeper (envOfC "law" (defScope (top 55)) s.heap.objs.size f (.ref cc))).units + 65 < cLine := by have := hr.un; omega
  exact (ds_cons (ds_set (.inr hpin) sc_law.nd (dx_lst (da_cons (dx_var 0) (da_cons dx_int (da_cons dx_int (da_cons dx_int da_nil))))))
  (ds_cons (ds_for (.inr hpin) hp rfl (di_rg1 m_range (da_cons dx_int da_nil)) (dg_name (i := 2) sc_law.nd)
  (ds_one (ds_if (dt_not (dt_tru (dx_callIoT (j := 1) ⟨c__law_case⟩ rfl n0 nH hK hmg (hr.mono (by decide)) hx da_nil daLen_nil) hK))
  (ds_one (ds_ret dx_bl))
  ds_nil)))
  (ds_one (ds_ret dx_bl))))
theorem scI_BadArgument : FnScope ["self", "name"] ["self", "name"] (defScope (inClass (top 1) 0)) := ⟨rfl, rfl, rfl, by decide +kernel, rfl, by decide +kernel, by decide +kernel⟩
theorem all_mk {l : PySem.W.OpenLaw} {w : World} {K : PySem.W.Frag} {h : Heap} {mg : Str → Option Value} {fa : Addr} (X : K.In h) (G : h.Ns mainGlobals mg) (hfa : mg "law" = some (.ref fa)) (own__law_case : ∀ fy : Addr, mg "_law_case" = some (.ref fy) → LamX.OwnTab K fy h)
    (hden : ∀ ns : List Int, ns.length ≤ 63 → (∀ z ∈ ns, Builtin.Int.intBits z ≤ 1048576) → ∃ ρ, den_law (startR false N_law.length [.list (ns.map .int)]) = .rt (.bool true) ρ)
    {qa__law_taken : Addr} {od__law_taken an__law_taken : Option Addr} {sl__law_taken : Array (Option Value)} {oc__law_taken kV__law_taken dc__law_taken pm__law_taken cd__law_taken ct__law_taken : Value}
    {qa__law_pick : Addr} {od__law_pick an__law_pick : Option Addr} {sl__law_pick : Array (Option Value)} {oc__law_pick kV__law_pick dc__law_pick pm__law_pick cd__law_pick ct__law_pick : Value}
    {qa__law_board : Addr} {od__law_board an__law_board : Option Addr} {sl__law_board : Array (Option Value)} {oc__law_board kV__law_board dc__law_board pm__law_board cd__law_board ct__law_board : Value}
    {qa__law_entry : Addr} {od__law_entry an__law_entry : Option Addr} {sl__law_entry : Array (Option Value)} {oc__law_entry kV__law_entry dc__law_entry pm__law_entry cd__law_entry ct__law_entry : Value}
    {qa__law_start : Addr} {od__law_start an__law_start : Option Addr} {sl__law_start : Array (Option Value)} {oc__law_start kV__law_start dc__law_start pm__law_start cd__law_start ct__law_start : Value}
    {qa__law_turn : Addr} {od__law_turn an__law_turn : Option Addr} {sl__law_turn : Array (Option Value)} {oc__law_turn kV__law_turn dc__law_turn pm__law_turn cd__law_turn ct__law_turn : Value}
    {qa__law_out : Addr} {od__law_out an__law_out : Option Addr} {sl__law_out : Array (Option Value)} {oc__law_out kV__law_out dc__law_out pm__law_out cd__law_out ct__law_out : Value}
    {qa__law_goals : Addr} {od__law_goals an__law_goals : Option Addr} {sl__law_goals : Array (Option Value)} {oc__law_goals kV__law_goals dc__law_goals pm__law_goals cd__law_goals ct__law_goals : Value}
    {qa__law_reached : Addr} {od__law_reached an__law_reached : Option Addr} {sl__law_reached : Array (Option Value)} {oc__law_reached kV__law_reached dc__law_reached pm__law_reached cd__law_reached ct__law_reached : Value}
    {qa__law_outs : Addr} {od__law_outs an__law_outs : Option Addr} {sl__law_outs : Array (Option Value)} {oc__law_outs kV__law_outs dc__law_outs pm__law_outs cd__law_outs ct__law_outs : Value}
    {qa__law_alike : Addr} {od__law_alike an__law_alike : Option Addr} {sl__law_alike : Array (Option Value)} {oc__law_alike kV__law_alike dc__law_alike pm__law_alike cd__law_alike ct__law_alike : Value}
    {qa_need : Addr} {od_need an_need : Option Addr} {sl_need : Array (Option Value)} {oc_need kV_need dc_need pm_need cd_need ct_need : Value}
    {qa_is_whole : Addr} {od_is_whole an_is_whole : Option Addr} {sl_is_whole : Array (Option Value)} {oc_is_whole kV_is_whole dc_is_whole pm_is_whole cd_is_whole ct_is_whole : Value}
    {qa_parters : Addr} {od_parters an_parters : Option Addr} {sl_parters : Array (Option Value)} {oc_parters kV_parters dc_parters pm_parters cd_parters ct_parters : Value}
    {qa_is_board : Addr} {od_is_board an_is_board : Option Addr} {sl_is_board : Array (Option Value)} {oc_is_board kV_is_board dc_is_board pm_is_board cd_is_board ct_is_board : Value}
    {qa_need_board : Addr} {od_need_board an_need_board : Option Addr} {sl_need_board : Array (Option Value)} {oc_need_board kV_need_board dc_need_board pm_need_board cd_need_board ct_need_board : Value}
    {qa_port_count : Addr} {od_port_count an_port_count : Option Addr} {sl_port_count : Array (Option Value)} {oc_port_count kV_port_count dc_port_count pm_port_count cd_port_count ct_port_count : Value}
    {qa_entry : Addr} {od_entry an_entry : Option Addr} {sl_entry : Array (Option Value)} {oc_entry kV_entry dc_entry pm_entry cd_entry ct_entry : Value}
    {qa_headings : Addr} {od_headings an_headings : Option Addr} {sl_headings : Array (Option Value)} {oc_headings kV_headings dc_headings pm_headings cd_headings ct_headings : Value}
    {qa_onward : Addr} {od_onward an_onward : Option Addr} {sl_onward : Array (Option Value)} {oc_onward kV_onward dc_onward pm_onward cd_onward ct_onward : Value}
    {qa_outs : Addr} {od_outs an_outs : Option Addr} {sl_outs : Array (Option Value)} {oc_outs kV_outs dc_outs pm_outs cd_outs ct_outs : Value}
    {qa_blocked : Addr} {od_blocked an_blocked : Option Addr} {sl_blocked : Array (Option Value)} {oc_blocked kV_blocked dc_blocked pm_blocked cd_blocked ct_blocked : Value}
    {qa_shut_off : Addr} {od_shut_off an_shut_off : Option Addr} {sl_shut_off : Array (Option Value)} {oc_shut_off kV_shut_off dc_shut_off pm_shut_off cd_shut_off ct_shut_off : Value}
    {qa_need_port : Addr} {od_need_port an_need_port : Option Addr} {sl_need_port : Array (Option Value)} {oc_need_port kV_need_port dc_need_port pm_need_port cd_need_port ct_need_port : Value}
    {qa_reaches : Addr} {od_reaches an_reaches : Option Addr} {sl_reaches : Array (Option Value)} {oc_reaches kV_reaches dc_reaches pm_reaches cd_reaches ct_reaches : Value}
    {qa_is_shut : Addr} {od_is_shut an_is_shut : Option Addr} {sl_is_shut : Array (Option Value)} {oc_is_shut kV_is_shut dc_is_shut pm_is_shut cd_is_shut ct_is_shut : Value}
    {qa_needed : Addr} {od_needed an_needed : Option Addr} {sl_needed : Array (Option Value)} {oc_needed kV_needed dc_needed pm_needed cd_needed ct_needed : Value}
    {qa__law_rows : Addr} {od__law_rows an__law_rows : Option Addr} {sl__law_rows : Array (Option Value)} {oc__law_rows kV__law_rows dc__law_rows pm__law_rows cd__law_rows ct__law_rows : Value}
    {qa__law_shut : Addr} {od__law_shut an__law_shut : Option Addr} {sl__law_shut : Array (Option Value)} {oc__law_shut kV__law_shut dc__law_shut pm__law_shut cd__law_shut ct__law_shut : Value}
    {qa_need_ports : Addr} {od_need_ports an_need_ports : Option Addr} {sl_need_ports : Array (Option Value)} {oc_need_ports kV_need_ports dc_need_ports pm_need_ports cd_need_ports ct_need_ports : Value}
    {qa_choices : Addr} {od_choices an_choices : Option Addr} {sl_choices : Array (Option Value)} {oc_choices kV_choices dc_choices pm_choices cd_choices ct_choices : Value}
    {qa_fewest_blocks : Addr} {od_fewest_blocks an_fewest_blocks : Option Addr} {sl_fewest_blocks : Array (Option Value)} {oc_fewest_blocks kV_fewest_blocks dc_fewest_blocks pm_fewest_blocks cd_fewest_blocks ct_fewest_blocks : Value}
    {qa_is_blocking : Addr} {od_is_blocking an_is_blocking : Option Addr} {sl_is_blocking : Array (Option Value)} {oc_is_blocking kV_is_blocking dc_is_blocking pm_is_blocking cd_is_blocking ct_is_blocking : Value}
    {qa__law_case cc__law_case Pt__law_case : Addr} {od__law_case an__law_case dd__law_case : Option Addr} {sl__law_case sc__law_case : Array (Option Value)} {oc__law_case kV__law_case dc__law_case pm__law_case ct__law_case ec__law_case : Value} {vs__law_case : Array Value}
    {qa__law_refused : Addr} {od__law_refused an__law_refused : Option Addr} {sl__law_refused : Array (Option Value)} {oc__law_refused kV__law_refused dc__law_refused pm__law_refused cd__law_refused ct__law_refused : Value}
    {fl cc : Addr} {odl anl : Option Addr} {sll : Array (Option Value)} {ocl kVl dcl pml ctl : Value}
    {u_END : Value}
    {u_MOST_SIDE : Value}
    {u_EMPTY : Value}
    {u_PART_BACKSLASH : Value}
    {u_MOST_PARTERS : Value}
    {u_DOWN : Value}
    {u_LEFT : Value}
    {u_UP : Value}
    {u_RIGHT : Value}
    {u_SLASH : Value}
    {u_PART_SLASH : Value}
    {u_MOST_BLOCKS : Value}
    {aT_BY_SLASH : Addr} {cT_BY_SLASH : Value} {dT_BY_SLASH : Option Addr} {iT_BY_SLASH : Array Value} {nT_BY_SLASH : Nat} {sT_BY_SLASH : Array (Option Value)}
    {aT_BY_BACKSLASH : Addr} {cT_BY_BACKSLASH : Value} {dT_BY_BACKSLASH : Option Addr} {iT_BY_BACKSLASH : Array Value} {nT_BY_BACKSLASH : Nat} {sT_BY_BACKSLASH : Array (Option Value)}
    {CBadArgument NBadArgument : Addr} {nmBadArgument qBadArgument : Str} {bsBadArgument subBadArgument : List Value} {snBadArgument : List Str} {abBadArgument : Bool} {colBadArgument : Option Bool} {ddBadArgument : Option Addr} {m0BadArgument m1BadArgument m2BadArgument m3BadArgument m5BadArgument : Option Value}
    {qaI_BadArgument : Addr} {odI_BadArgument anI_BadArgument : Option Addr} {slI_BadArgument : Array (Option Value)} {ocI_BadArgument kVI_BadArgument dcI_BadArgument pmI_BadArgument cdI_BadArgument ctI_BadArgument : Value}
    (a__law_taken : PySem.W.nsIn K mainGlobals "_law_taken" = some (some (.ref qa__law_taken)))
    (l__law_taken : K.lookup qa__law_taken = some ⟨oc__law_taken, od__law_taken, .func (PySem.W.fnOf "_law_taken" "_law_taken" (defArgs (top 40)) (defBody (top 40)) (defScope (top 40)) .none kV__law_taken dc__law_taken pm__law_taken an__law_taken cd__law_taken ct__law_taken), sl__law_taken⟩)
    (c__law_taken : PySem.W.codeIn K cd__law_taken "_law_taken" = true)
    (k__law_taken : PySem.W.keepIn K (.ref qa__law_taken) = true)
    (a__law_pick : PySem.W.nsIn K mainGlobals "_law_pick" = some (some (.ref qa__law_pick)))
    (l__law_pick : K.lookup qa__law_pick = some ⟨oc__law_pick, od__law_pick, .func (PySem.W.fnOf "_law_pick" "_law_pick" (defArgs (top 41)) (defBody (top 41)) (defScope (top 41)) .none kV__law_pick dc__law_pick pm__law_pick an__law_pick cd__law_pick ct__law_pick), sl__law_pick⟩)
    (c__law_pick : PySem.W.codeIn K cd__law_pick "_law_pick" = true)
    (k__law_pick : PySem.W.keepIn K (.ref qa__law_pick) = true)
    (a__law_board : PySem.W.nsIn K mainGlobals "_law_board" = some (some (.ref qa__law_board)))
    (l__law_board : K.lookup qa__law_board = some ⟨oc__law_board, od__law_board, .func (PySem.W.fnOf "_law_board" "_law_board" (defArgs (top 44)) (defBody (top 44)) (defScope (top 44)) .none kV__law_board dc__law_board pm__law_board an__law_board cd__law_board ct__law_board), sl__law_board⟩)
    (c__law_board : PySem.W.codeIn K cd__law_board "_law_board" = true)
    (k__law_board : PySem.W.keepIn K (.ref qa__law_board) = true)
    (a__law_entry : PySem.W.nsIn K mainGlobals "_law_entry" = some (some (.ref qa__law_entry)))
    (l__law_entry : K.lookup qa__law_entry = some ⟨oc__law_entry, od__law_entry, .func (PySem.W.fnOf "_law_entry" "_law_entry" (defArgs (top 45)) (defBody (top 45)) (defScope (top 45)) .none kV__law_entry dc__law_entry pm__law_entry an__law_entry cd__law_entry ct__law_entry), sl__law_entry⟩)
    (c__law_entry : PySem.W.codeIn K cd__law_entry "_law_entry" = true)
    (k__law_entry : PySem.W.keepIn K (.ref qa__law_entry) = true)
    (a__law_start : PySem.W.nsIn K mainGlobals "_law_start" = some (some (.ref qa__law_start)))
    (l__law_start : K.lookup qa__law_start = some ⟨oc__law_start, od__law_start, .func (PySem.W.fnOf "_law_start" "_law_start" (defArgs (top 49)) (defBody (top 49)) (defScope (top 49)) .none kV__law_start dc__law_start pm__law_start an__law_start cd__law_start ct__law_start), sl__law_start⟩)
    (c__law_start : PySem.W.codeIn K cd__law_start "_law_start" = true)
    (k__law_start : PySem.W.keepIn K (.ref qa__law_start) = true)
    (a__law_turn : PySem.W.nsIn K mainGlobals "_law_turn" = some (some (.ref qa__law_turn)))
    (l__law_turn : K.lookup qa__law_turn = some ⟨oc__law_turn, od__law_turn, .func (PySem.W.fnOf "_law_turn" "_law_turn" (defArgs (top 47)) (defBody (top 47)) (defScope (top 47)) .none kV__law_turn dc__law_turn pm__law_turn an__law_turn cd__law_turn ct__law_turn), sl__law_turn⟩)
    (c__law_turn : PySem.W.codeIn K cd__law_turn "_law_turn" = true)
    (k__law_turn : PySem.W.keepIn K (.ref qa__law_turn) = true)
    (a__law_out : PySem.W.nsIn K mainGlobals "_law_out" = some (some (.ref qa__law_out)))
    (l__law_out : K.lookup qa__law_out = some ⟨oc__law_out, od__law_out, .func (PySem.W.fnOf "_law_out" "_law_out" (defArgs (top 46)) (defBody (top 46)) (defScope (top 46)) .none kV__law_out dc__law_out pm__law_out an__law_out cd__law_out ct__law_out), sl__law_out⟩)
    (c__law_out : PySem.W.codeIn K cd__law_out "_law_out" = true)
    (k__law_out : PySem.W.keepIn K (.ref qa__law_out) = true)
    (a__law_goals : PySem.W.nsIn K mainGlobals "_law_goals" = some (some (.ref qa__law_goals)))
    (l__law_goals : K.lookup qa__law_goals = some ⟨oc__law_goals, od__law_goals, .func (PySem.W.fnOf "_law_goals" "_law_goals" (defArgs (top 48)) (defBody (top 48)) (defScope (top 48)) .none kV__law_goals dc__law_goals pm__law_goals an__law_goals cd__law_goals ct__law_goals), sl__law_goals⟩)
    (c__law_goals : PySem.W.codeIn K cd__law_goals "_law_goals" = true)
    (k__law_goals : PySem.W.keepIn K (.ref qa__law_goals) = true)
    (a__law_reached : PySem.W.nsIn K mainGlobals "_law_reached" = some (some (.ref qa__law_reached)))
    (l__law_reached : K.lookup qa__law_reached = some ⟨oc__law_reached, od__law_reached, .func (PySem.W.fnOf "_law_reached" "_law_reached" (defArgs (top 50)) (defBody (top 50)) (defScope (top 50)) .none kV__law_reached dc__law_reached pm__law_reached an__law_reached cd__law_reached ct__law_reached), sl__law_reached⟩)
    (c__law_reached : PySem.W.codeIn K cd__law_reached "_law_reached" = true)
    (k__law_reached : PySem.W.keepIn K (.ref qa__law_reached) = true)
    (a__law_outs : PySem.W.nsIn K mainGlobals "_law_outs" = some (some (.ref qa__law_outs)))
    (l__law_outs : K.lookup qa__law_outs = some ⟨oc__law_outs, od__law_outs, .func (PySem.W.fnOf "_law_outs" "_law_outs" (defArgs (top 52)) (defBody (top 52)) (defScope (top 52)) .none kV__law_outs dc__law_outs pm__law_outs an__law_outs cd__law_outs ct__law_outs), sl__law_outs⟩)
    (c__law_outs : PySem.W.codeIn K cd__law_outs "_law_outs" = true)
    (k__law_outs : PySem.W.keepIn K (.ref qa__law_outs) = true)
    (a__law_alike : PySem.W.nsIn K mainGlobals "_law_alike" = some (some (.ref qa__law_alike)))
    (l__law_alike : K.lookup qa__law_alike = some ⟨oc__law_alike, od__law_alike, .func (PySem.W.fnOf "_law_alike" "_law_alike" (defArgs (top 43)) (defBody (top 43)) (defScope (top 43)) .none kV__law_alike dc__law_alike pm__law_alike an__law_alike cd__law_alike ct__law_alike), sl__law_alike⟩)
    (c__law_alike : PySem.W.codeIn K cd__law_alike "_law_alike" = true)
    (k__law_alike : PySem.W.keepIn K (.ref qa__law_alike) = true)
    (a_need : PySem.W.nsIn K mainGlobals "need" = some (some (.ref qa_need)))
    (l_need : K.lookup qa_need = some ⟨oc_need, od_need, .func (PySem.W.fnOf "need" "need" (defArgs (top 19)) (defBody (top 19)) (defScope (top 19)) .none kV_need dc_need pm_need an_need cd_need ct_need), sl_need⟩)
    (c_need : PySem.W.codeIn K cd_need "need" = true)
    (k_need : PySem.W.keepIn K (.ref qa_need) = true)
    (a_is_whole : PySem.W.nsIn K mainGlobals "is_whole" = some (some (.ref qa_is_whole)))
    (l_is_whole : K.lookup qa_is_whole = some ⟨oc_is_whole, od_is_whole, .func (PySem.W.fnOf "is_whole" "is_whole" (defArgs (top 16)) (defBody (top 16)) (defScope (top 16)) .none kV_is_whole dc_is_whole pm_is_whole an_is_whole cd_is_whole ct_is_whole), sl_is_whole⟩)
    (c_is_whole : PySem.W.codeIn K cd_is_whole "is_whole" = true)
    (k_is_whole : PySem.W.keepIn K (.ref qa_is_whole) = true)
    (a_parters : PySem.W.nsIn K mainGlobals "parters" = some (some (.ref qa_parters)))
    (l_parters : K.lookup qa_parters = some ⟨oc_parters, od_parters, .func (PySem.W.fnOf "parters" "parters" (defArgs (top 17)) (defBody (top 17)) (defScope (top 17)) .none kV_parters dc_parters pm_parters an_parters cd_parters ct_parters), sl_parters⟩)
    (c_parters : PySem.W.codeIn K cd_parters "parters" = true)
    (k_parters : PySem.W.keepIn K (.ref qa_parters) = true)
    (a_is_board : PySem.W.nsIn K mainGlobals "is_board" = some (some (.ref qa_is_board)))
    (l_is_board : K.lookup qa_is_board = some ⟨oc_is_board, od_is_board, .func (PySem.W.fnOf "is_board" "is_board" (defArgs (top 18)) (defBody (top 18)) (defScope (top 18)) .none kV_is_board dc_is_board pm_is_board an_is_board cd_is_board ct_is_board), sl_is_board⟩)
    (c_is_board : PySem.W.codeIn K cd_is_board "is_board" = true)
    (k_is_board : PySem.W.keepIn K (.ref qa_is_board) = true)
    (a_need_board : PySem.W.nsIn K mainGlobals "need_board" = some (some (.ref qa_need_board)))
    (l_need_board : K.lookup qa_need_board = some ⟨oc_need_board, od_need_board, .func (PySem.W.fnOf "need_board" "need_board" (defArgs (top 20)) (defBody (top 20)) (defScope (top 20)) .none kV_need_board dc_need_board pm_need_board an_need_board cd_need_board ct_need_board), sl_need_board⟩)
    (c_need_board : PySem.W.codeIn K cd_need_board "need_board" = true)
    (k_need_board : PySem.W.keepIn K (.ref qa_need_board) = true)
    (a_port_count : PySem.W.nsIn K mainGlobals "port_count" = some (some (.ref qa_port_count)))
    (l_port_count : K.lookup qa_port_count = some ⟨oc_port_count, od_port_count, .func (PySem.W.fnOf "port_count" "port_count" (defArgs (top 21)) (defBody (top 21)) (defScope (top 21)) .none kV_port_count dc_port_count pm_port_count an_port_count cd_port_count ct_port_count), sl_port_count⟩)
    (c_port_count : PySem.W.codeIn K cd_port_count "port_count" = true)
    (k_port_count : PySem.W.keepIn K (.ref qa_port_count) = true)
    (a_entry : PySem.W.nsIn K mainGlobals "entry" = some (some (.ref qa_entry)))
    (l_entry : K.lookup qa_entry = some ⟨oc_entry, od_entry, .func (PySem.W.fnOf "entry" "entry" (defArgs (top 23)) (defBody (top 23)) (defScope (top 23)) .none kV_entry dc_entry pm_entry an_entry cd_entry ct_entry), sl_entry⟩)
    (c_entry : PySem.W.codeIn K cd_entry "entry" = true)
    (k_entry : PySem.W.keepIn K (.ref qa_entry) = true)
    (a_headings : PySem.W.nsIn K mainGlobals "headings" = some (some (.ref qa_headings)))
    (l_headings : K.lookup qa_headings = some ⟨oc_headings, od_headings, .func (PySem.W.fnOf "headings" "headings" (defArgs (top 25)) (defBody (top 25)) (defScope (top 25)) .none kV_headings dc_headings pm_headings an_headings cd_headings ct_headings), sl_headings⟩)
    (c_headings : PySem.W.codeIn K cd_headings "headings" = true)
    (k_headings : PySem.W.keepIn K (.ref qa_headings) = true)
    (a_onward : PySem.W.nsIn K mainGlobals "onward" = some (some (.ref qa_onward)))
    (l_onward : K.lookup qa_onward = some ⟨oc_onward, od_onward, .func (PySem.W.fnOf "onward" "onward" (defArgs (top 24)) (defBody (top 24)) (defScope (top 24)) .none kV_onward dc_onward pm_onward an_onward cd_onward ct_onward), sl_onward⟩)
    (c_onward : PySem.W.codeIn K cd_onward "onward" = true)
    (k_onward : PySem.W.keepIn K (.ref qa_onward) = true)
    (a_outs : PySem.W.nsIn K mainGlobals "outs" = some (some (.ref qa_outs)))
    (l_outs : K.lookup qa_outs = some ⟨oc_outs, od_outs, .func (PySem.W.fnOf "outs" "outs" (defArgs (top 31)) (defBody (top 31)) (defScope (top 31)) .none kV_outs dc_outs pm_outs an_outs cd_outs ct_outs), sl_outs⟩)
    (c_outs : PySem.W.codeIn K cd_outs "outs" = true)
    (k_outs : PySem.W.keepIn K (.ref qa_outs) = true)
    (a_blocked : PySem.W.nsIn K mainGlobals "blocked" = some (some (.ref qa_blocked)))
    (l_blocked : K.lookup qa_blocked = some ⟨oc_blocked, od_blocked, .func (PySem.W.fnOf "blocked" "blocked" (defArgs (top 30)) (defBody (top 30)) (defScope (top 30)) .none kV_blocked dc_blocked pm_blocked an_blocked cd_blocked ct_blocked), sl_blocked⟩)
    (c_blocked : PySem.W.codeIn K cd_blocked "blocked" = true)
    (k_blocked : PySem.W.keepIn K (.ref qa_blocked) = true)
    (a_shut_off : PySem.W.nsIn K mainGlobals "shut_off" = some (some (.ref qa_shut_off)))
    (l_shut_off : K.lookup qa_shut_off = some ⟨oc_shut_off, od_shut_off, .func (PySem.W.fnOf "shut_off" "shut_off" (defArgs (top 38)) (defBody (top 38)) (defScope (top 38)) .none kV_shut_off dc_shut_off pm_shut_off an_shut_off cd_shut_off ct_shut_off), sl_shut_off⟩)
    (c_shut_off : PySem.W.codeIn K cd_shut_off "shut_off" = true)
    (k_shut_off : PySem.W.keepIn K (.ref qa_shut_off) = true)
    (a_need_port : PySem.W.nsIn K mainGlobals "need_port" = some (some (.ref qa_need_port)))
    (l_need_port : K.lookup qa_need_port = some ⟨oc_need_port, od_need_port, .func (PySem.W.fnOf "need_port" "need_port" (defArgs (top 22)) (defBody (top 22)) (defScope (top 22)) .none kV_need_port dc_need_port pm_need_port an_need_port cd_need_port ct_need_port), sl_need_port⟩)
    (c_need_port : PySem.W.codeIn K cd_need_port "need_port" = true)
    (k_need_port : PySem.W.keepIn K (.ref qa_need_port) = true)
    (a_reaches : PySem.W.nsIn K mainGlobals "reaches" = some (some (.ref qa_reaches)))
    (l_reaches : K.lookup qa_reaches = some ⟨oc_reaches, od_reaches, .func (PySem.W.fnOf "reaches" "reaches" (defArgs (top 34)) (defBody (top 34)) (defScope (top 34)) .none kV_reaches dc_reaches pm_reaches an_reaches cd_reaches ct_reaches), sl_reaches⟩)
    (c_reaches : PySem.W.codeIn K cd_reaches "reaches" = true)
    (k_reaches : PySem.W.keepIn K (.ref qa_reaches) = true)
    (a_is_shut : PySem.W.nsIn K mainGlobals "is_shut" = some (some (.ref qa_is_shut)))
    (l_is_shut : K.lookup qa_is_shut = some ⟨oc_is_shut, od_is_shut, .func (PySem.W.fnOf "is_shut" "is_shut" (defArgs (top 33)) (defBody (top 33)) (defScope (top 33)) .none kV_is_shut dc_is_shut pm_is_shut an_is_shut cd_is_shut ct_is_shut), sl_is_shut⟩)
    (c_is_shut : PySem.W.codeIn K cd_is_shut "is_shut" = true)
    (k_is_shut : PySem.W.keepIn K (.ref qa_is_shut) = true)
    (a_needed : PySem.W.nsIn K mainGlobals "needed" = some (some (.ref qa_needed)))
    (l_needed : K.lookup qa_needed = some ⟨oc_needed, od_needed, .func (PySem.W.fnOf "needed" "needed" (defArgs (top 37)) (defBody (top 37)) (defScope (top 37)) .none kV_needed dc_needed pm_needed an_needed cd_needed ct_needed), sl_needed⟩)
    (c_needed : PySem.W.codeIn K cd_needed "needed" = true)
    (k_needed : PySem.W.keepIn K (.ref qa_needed) = true)
    (a__law_rows : PySem.W.nsIn K mainGlobals "_law_rows" = some (some (.ref qa__law_rows)))
    (l__law_rows : K.lookup qa__law_rows = some ⟨oc__law_rows, od__law_rows, .func (PySem.W.fnOf "_law_rows" "_law_rows" (defArgs (top 51)) (defBody (top 51)) (defScope (top 51)) .none kV__law_rows dc__law_rows pm__law_rows an__law_rows cd__law_rows ct__law_rows), sl__law_rows⟩)
    (c__law_rows : PySem.W.codeIn K cd__law_rows "_law_rows" = true)
    (k__law_rows : PySem.W.keepIn K (.ref qa__law_rows) = true)
    (a__law_shut : PySem.W.nsIn K mainGlobals "_law_shut" = some (some (.ref qa__law_shut)))
    (l__law_shut : K.lookup qa__law_shut = some ⟨oc__law_shut, od__law_shut, .func (PySem.W.fnOf "_law_shut" "_law_shut" (defArgs (top 53)) (defBody (top 53)) (defScope (top 53)) .none kV__law_shut dc__law_shut pm__law_shut an__law_shut cd__law_shut ct__law_shut), sl__law_shut⟩)
    (c__law_shut : PySem.W.codeIn K cd__law_shut "_law_shut" = true)
    (k__law_shut : PySem.W.keepIn K (.ref qa__law_shut) = true)
    (a_need_ports : PySem.W.nsIn K mainGlobals "need_ports" = some (some (.ref qa_need_ports)))
    (l_need_ports : K.lookup qa_need_ports = some ⟨oc_need_ports, od_need_ports, .func (PySem.W.fnOf "need_ports" "need_ports" (defArgs (top 32)) (defBody (top 32)) (defScope (top 32)) .none kV_need_ports dc_need_ports pm_need_ports an_need_ports cd_need_ports ct_need_ports), sl_need_ports⟩)
    (c_need_ports : PySem.W.codeIn K cd_need_ports "need_ports" = true)
    (k_need_ports : PySem.W.keepIn K (.ref qa_need_ports) = true)
    (a_choices : PySem.W.nsIn K mainGlobals "choices" = some (some (.ref qa_choices)))
    (l_choices : K.lookup qa_choices = some ⟨oc_choices, od_choices, .func (PySem.W.fnOf "choices" "choices" (defArgs (top 27)) (defBody (top 27)) (defScope (top 27)) .none kV_choices dc_choices pm_choices an_choices cd_choices ct_choices), sl_choices⟩)
    (c_choices : PySem.W.codeIn K cd_choices "choices" = true)
    (k_choices : PySem.W.keepIn K (.ref qa_choices) = true)
    (a_fewest_blocks : PySem.W.nsIn K mainGlobals "fewest_blocks" = some (some (.ref qa_fewest_blocks)))
    (l_fewest_blocks : K.lookup qa_fewest_blocks = some ⟨oc_fewest_blocks, od_fewest_blocks, .func (PySem.W.fnOf "fewest_blocks" "fewest_blocks" (defArgs (top 35)) (defBody (top 35)) (defScope (top 35)) .none kV_fewest_blocks dc_fewest_blocks pm_fewest_blocks an_fewest_blocks cd_fewest_blocks ct_fewest_blocks), sl_fewest_blocks⟩)
    (c_fewest_blocks : PySem.W.codeIn K cd_fewest_blocks "fewest_blocks" = true)
    (k_fewest_blocks : PySem.W.keepIn K (.ref qa_fewest_blocks) = true)
    (a_is_blocking : PySem.W.nsIn K mainGlobals "is_blocking" = some (some (.ref qa_is_blocking)))
    (l_is_blocking : K.lookup qa_is_blocking = some ⟨oc_is_blocking, od_is_blocking, .func (PySem.W.fnOf "is_blocking" "is_blocking" (defArgs (top 36)) (defBody (top 36)) (defScope (top 36)) .none kV_is_blocking dc_is_blocking pm_is_blocking an_is_blocking cd_is_blocking ct_is_blocking), sl_is_blocking⟩)
    (c_is_blocking : PySem.W.codeIn K cd_is_blocking "is_blocking" = true)
    (k_is_blocking : PySem.W.keepIn K (.ref qa_is_blocking) = true)
    (a__law_case : PySem.W.nsIn K mainGlobals "_law_case" = some (some (.ref qa__law_case)))
    (l__law_case : K.lookup qa__law_case = some ⟨oc__law_case, od__law_case, .func (PySem.W.fnOf "_law_case" "_law_case" (defArgs (top 54)) (defBody (top 54)) (defScope (top 54)) .none kV__law_case dc__law_case pm__law_case an__law_case (.ref cc__law_case) ct__law_case), sl__law_case⟩)
    (c__law_case : PySem.W.codeIn K (.ref cc__law_case) "_law_case" = true)
    (k__law_case : PySem.W.keepIn K (.ref qa__law_case) = true)
    (lc__law_case : K.lookup cc__law_case = some ⟨ec__law_case, dd__law_case, .fields vs__law_case, sc__law_case⟩)
    (l11__law_case : vs__law_case[11]? = some (.ref Pt__law_case))
    (hcd__law_case : PySem.W.codeHdIn K cc__law_case Pt__law_case = true)
    (nP__law_case : K.lookup Pt__law_case = none)
    (a__law_refused : PySem.W.nsIn K mainGlobals "_law_refused" = some (some (.ref qa__law_refused)))
    (l__law_refused : K.lookup qa__law_refused = some ⟨oc__law_refused, od__law_refused, .func (PySem.W.fnOf "_law_refused" "_law_refused" (defArgs (top 42)) (defBody (top 42)) (defScope (top 42)) .none kV__law_refused dc__law_refused pm__law_refused an__law_refused cd__law_refused ct__law_refused), sl__law_refused⟩)
    (c__law_refused : PySem.W.codeIn K cd__law_refused "_law_refused" = true)
    (k__law_refused : PySem.W.keepIn K (.ref qa__law_refused) = true)
    (al : PySem.W.nsIn K mainGlobals "law" = some (some (.ref fl)))
    (ll : K.lookup fl = some ⟨ocl, odl, .func (PySem.W.fnOf "law" "law" (defArgs (top 55)) (defBody (top 55)) (defScope (top 55)) .none kVl dcl pml anl (.ref cc) ctl), sll⟩)
    (cl : PySem.W.codeIn K (.ref cc) "law" = true)
    (hnl : noListB K = true)
    (z_int : PySem.W.nsIn K mainGlobals "int" = some none)
    (z_len : PySem.W.nsIn K mainGlobals "len" = some none)
    (z_range : PySem.W.nsIn K mainGlobals "range" = some none)
    (z_tuple : PySem.W.nsIn K mainGlobals "tuple" = some none)
    (z_isinstance : PySem.W.nsIn K mainGlobals "isinstance" = some none)
    (z_sorted : PySem.W.nsIn K mainGlobals "sorted" = some none)
    (z_set : PySem.W.nsIn K mainGlobals "set" = some none)
    (z_str : PySem.W.nsIn K mainGlobals "str" = some none)
    (z_bool : PySem.W.nsIn K mainGlobals "bool" = some none)
    (z_all : PySem.W.nsIn K mainGlobals "all" = some none)
    (z_enumerate : PySem.W.nsIn K mainGlobals "enumerate" = some none)
    (z_list : PySem.W.nsIn K mainGlobals "list" = some none)
    (z_any : PySem.W.nsIn K mainGlobals "any" = some none)
    (g_END_ : PySem.W.nsIn K mainGlobals "END" = some (some u_END))
    (r_END : RelV (.int (3)) u_END)
    (g_MOST_SIDE_ : PySem.W.nsIn K mainGlobals "MOST_SIDE" = some (some u_MOST_SIDE))
    (r_MOST_SIDE : RelV (.int (8)) u_MOST_SIDE)
    (g_EMPTY_ : PySem.W.nsIn K mainGlobals "EMPTY" = some (some u_EMPTY))
    (r_EMPTY : RelV (.int (0)) u_EMPTY)
    (g_PART_BACKSLASH_ : PySem.W.nsIn K mainGlobals "PART_BACKSLASH" = some (some u_PART_BACKSLASH))
    (r_PART_BACKSLASH : RelV (.int (5)) u_PART_BACKSLASH)
    (g_MOST_PARTERS_ : PySem.W.nsIn K mainGlobals "MOST_PARTERS" = some (some u_MOST_PARTERS))
    (r_MOST_PARTERS : RelV (.int (8)) u_MOST_PARTERS)
    (g_DOWN_ : PySem.W.nsIn K mainGlobals "DOWN" = some (some u_DOWN))
    (r_DOWN : RelV (.int (2)) u_DOWN)
    (g_LEFT_ : PySem.W.nsIn K mainGlobals "LEFT" = some (some u_LEFT))
    (r_LEFT : RelV (.int (3)) u_LEFT)
    (g_UP_ : PySem.W.nsIn K mainGlobals "UP" = some (some u_UP))
    (r_UP : RelV (.int (0)) u_UP)
    (g_RIGHT_ : PySem.W.nsIn K mainGlobals "RIGHT" = some (some u_RIGHT))
    (r_RIGHT : RelV (.int (1)) u_RIGHT)
    (g_SLASH_ : PySem.W.nsIn K mainGlobals "SLASH" = some (some u_SLASH))
    (r_SLASH : RelV (.int (1)) u_SLASH)
    (g_PART_SLASH_ : PySem.W.nsIn K mainGlobals "PART_SLASH" = some (some u_PART_SLASH))
    (r_PART_SLASH : RelV (.int (4)) u_PART_SLASH)
    (g_MOST_BLOCKS_ : PySem.W.nsIn K mainGlobals "MOST_BLOCKS" = some (some u_MOST_BLOCKS))
    (r_MOST_BLOCKS : RelV (.int (3)) u_MOST_BLOCKS)
    (gT_BY_SLASH : PySem.W.nsIn K mainGlobals "BY_SLASH" = some (some (.ref aT_BY_SLASH)))
    (lT_BY_SLASH : K.lookup aT_BY_SLASH = some ⟨cT_BY_SLASH, dT_BY_SLASH, .seq iT_BY_SLASH nT_BY_SLASH, sT_BY_SLASH⟩)
    (eT_BY_SLASH : cT_BY_SLASH = .type "tuple")
    (zT_BY_SLASH : iT_BY_SLASH.size ≤ 1000)
    (vT_BY_SLASH : Vals [.int (1), .int (0), .int (3), .int (2)] iT_BY_SLASH.toList)
    (gT_BY_BACKSLASH : PySem.W.nsIn K mainGlobals "BY_BACKSLASH" = some (some (.ref aT_BY_BACKSLASH)))
    (lT_BY_BACKSLASH : K.lookup aT_BY_BACKSLASH = some ⟨cT_BY_BACKSLASH, dT_BY_BACKSLASH, .seq iT_BY_BACKSLASH nT_BY_BACKSLASH, sT_BY_BACKSLASH⟩)
    (eT_BY_BACKSLASH : cT_BY_BACKSLASH = .type "tuple")
    (zT_BY_BACKSLASH : iT_BY_BACKSLASH.size ≤ 1000)
    (vT_BY_BACKSLASH : Vals [.int (3), .int (2), .int (1), .int (0)] iT_BY_BACKSLASH.toList)
    (aCBadArgument : PySem.W.nsIn K mainGlobals "BadArgument" = some (some (.ref CBadArgument)))
    (xLBadArgument : K.lookup CBadArgument = some (excClassObj nmBadArgument qBadArgument CBadArgument NBadArgument bsBadArgument [.type "ValueError", .type "Exception", .type "BaseException", .type "object"] true snBadArgument subBadArgument abBadArgument colBadArgument ddBadArgument m0BadArgument m1BadArgument m2BadArgument m3BadArgument m5BadArgument "ValueError.__new__"))
    (saBadArgument : PySem.W.findIn K (.ref CBadArgument) "__setattr__" = some (some (.builtin "object.__setattr__")))
    (gaBadArgument : PySem.W.findIn K (.ref CBadArgument) "__getattribute__" = some (some (.builtin "BaseException.__getattribute__")))
    (ggBadArgument : PySem.W.findIn K (.ref CBadArgument) "__getattr__" = some none)
    (nbBadArgumentname : PySem.W.findIn K (.ref CBadArgument) "name" = some none)
    (iIBadArgument : PySem.W.findIn K (.ref CBadArgument) "__init__" = some (some (.ref qaI_BadArgument)))
    (lI_BadArgument : K.lookup qaI_BadArgument = some ⟨ocI_BadArgument, odI_BadArgument, .func (PySem.W.fnOf "__init__" "BadArgument.__init__" (defArgs (inClass (top 1) 0)) (defBody (inClass (top 1) 0)) (defScope (inClass (top 1) 0)) .none kVI_BadArgument dcI_BadArgument pmI_BadArgument anI_BadArgument cdI_BadArgument ctI_BadArgument), slI_BadArgument⟩)
    (cI_BadArgument : PySem.W.codeIn K cdI_BadArgument "BadArgument.__init__" = true)
    (kI_BadArgument : PySem.W.keepIn K (.ref qaI_BadArgument) = true)
    (tIBadArgument : PySem.W.typeIn K (.ref qaI_BadArgument) = some (.type "function"))
    (kCBadArgument : PySem.W.keepIn K (.ref CBadArgument) = true)
    (eCBadArgument : PySem.W.subIn K (.ref CBadArgument) (.type "BaseException") = some true)
    (tCBadArgument : PySem.W.typeIn K (.ref CBadArgument) = some (.type "type"))
    (hCBadArgument : PySem.W.hasDictIn K CBadArgument = true)
    (iCBadArgument : PySem.W.isClsIn K CBadArgument = true)
    (sCBadArgument : PySem.W.subIn K (.ref CBadArgument) (.ref CBadArgument) = some true) :
    LamX.LawAtS l w K (L2.CX l.prog w) 10 63 "script" mg fa h := by
  have e := hfa.symm.trans (PySem.W.mg_of X G al)
  cases e
  have F__law_taken := fun_mk (st := top 40) l__law_taken c__law_taken k__law_taken
  have b__law_taken := F__law_taken.binds (ps := ["row", "many"]) fun _ _ _ _ _ _ us hl => match us, hl with | [_, _], _ => rfl
  have M__law_taken := PySem.W.mg_of X G a__law_taken
  have F__law_pick := fun_mk (st := top 41) l__law_pick c__law_pick k__law_pick
  have b__law_pick := F__law_pick.binds (ps := ["row", "some"]) fun _ _ _ _ _ _ us hl => match us, hl with | [_, _], _ => rfl
  have M__law_pick := PySem.W.mg_of X G a__law_pick
  have F__law_board := fun_mk (st := top 44) l__law_board c__law_board k__law_board
  have b__law_board := F__law_board.binds (ps := ["row", "wide", "high", "most"]) fun _ _ _ _ _ _ us hl => match us, hl with | [_, _, _, _], _ => rfl
  have M__law_board := PySem.W.mg_of X G a__law_board
  have F__law_entry := fun_mk (st := top 45) l__law_entry c__law_entry k__law_entry
  have b__law_entry := F__law_entry.binds (ps := ["wide", "high", "port"]) fun _ _ _ _ _ _ us hl => match us, hl with | [_, _, _], _ => rfl
  have M__law_entry := PySem.W.mg_of X G a__law_entry
  have F__law_start := fun_mk (st := top 49) l__law_start c__law_start k__law_start
  have b__law_start := F__law_start.binds (ps := ["board", "port"]) fun _ _ _ _ _ _ us hl => match us, hl with | [_, _], _ => rfl
  have M__law_start := PySem.W.mg_of X G a__law_start
  have F__law_turn := fun_mk (st := top 47) l__law_turn c__law_turn k__law_turn
  have b__law_turn := F__law_turn.binds (ps := ["sign", "heading"]) fun _ _ _ _ _ _ us hl => match us, hl with | [_, _], _ => rfl
  have M__law_turn := PySem.W.mg_of X G a__law_turn
  have F__law_out := fun_mk (st := top 46) l__law_out c__law_out k__law_out
  have b__law_out := F__law_out.binds (ps := ["wide", "high", "column", "line"]) fun _ _ _ _ _ _ us hl => match us, hl with | [_, _, _, _], _ => rfl
  have M__law_out := PySem.W.mg_of X G a__law_out
  have F__law_goals := fun_mk (st := top 48) l__law_goals c__law_goals k__law_goals
  have b__law_goals := F__law_goals.binds (ps := ["board", "state"]) fun _ _ _ _ _ _ us hl => match us, hl with | [_, _], _ => rfl
  have M__law_goals := PySem.W.mg_of X G a__law_goals
  have F__law_reached := fun_mk (st := top 50) l__law_reached c__law_reached k__law_reached
  have b__law_reached := F__law_reached.binds (ps := ["board", "port"]) fun _ _ _ _ _ _ us hl => match us, hl with | [_, _], _ => rfl
  have M__law_reached := PySem.W.mg_of X G a__law_reached
  have F__law_outs := fun_mk (st := top 52) l__law_outs c__law_outs k__law_outs
  have b__law_outs := F__law_outs.binds (ps := ["board", "ports"]) fun _ _ _ _ _ _ us hl => match us, hl with | [_, _], _ => rfl
  have M__law_outs := PySem.W.mg_of X G a__law_outs
  have F__law_alike := fun_mk (st := top 43) l__law_alike c__law_alike k__law_alike
  have b__law_alike := F__law_alike.binds (ps := ["found", "due"]) fun _ _ _ _ _ _ us hl => match us, hl with | [_, _], _ => rfl
  have M__law_alike := PySem.W.mg_of X G a__law_alike
  have F_need := fun_mk (st := top 19) l_need c_need k_need
  have b_need := F_need.binds (ps := ["is_right", "name"]) fun _ _ _ _ _ _ us hl => match us, hl with | [_, _], _ => rfl
  have M_need := PySem.W.mg_of X G a_need
  have F_is_whole := fun_mk (st := top 16) l_is_whole c_is_whole k_is_whole
  have b_is_whole := F_is_whole.binds (ps := ["value", "low", "high"]) fun _ _ _ _ _ _ us hl => match us, hl with | [_, _, _], _ => rfl
  have M_is_whole := PySem.W.mg_of X G a_is_whole
  have F_parters := fun_mk (st := top 17) l_parters c_parters k_parters
  have b_parters := F_parters.binds (ps := ["cells"]) fun _ _ _ _ _ _ us hl => match us, hl with | [_], _ => rfl
  have M_parters := PySem.W.mg_of X G a_parters
  have F_is_board := fun_mk (st := top 18) l_is_board c_is_board k_is_board
  have b_is_board := F_is_board.binds (ps := ["value"]) fun _ _ _ _ _ _ us hl => match us, hl with | [_], _ => rfl
  have M_is_board := PySem.W.mg_of X G a_is_board
  have F_need_board := fun_mk (st := top 20) l_need_board c_need_board k_need_board
  have b_need_board := F_need_board.binds (ps := ["value", "name"]) fun _ _ _ _ _ _ us hl => match us, hl with | [_, _], _ => rfl
  have M_need_board := PySem.W.mg_of X G a_need_board
  have F_port_count := fun_mk (st := top 21) l_port_count c_port_count k_port_count
  have b_port_count := F_port_count.binds (ps := ["wide", "high"]) fun _ _ _ _ _ _ us hl => match us, hl with | [_, _], _ => rfl
  have M_port_count := PySem.W.mg_of X G a_port_count
  have F_entry := fun_mk (st := top 23) l_entry c_entry k_entry
  have b_entry := F_entry.binds (ps := ["wide", "high", "port"]) fun _ _ _ _ _ _ us hl => match us, hl with | [_, _, _], _ => rfl
  have M_entry := PySem.W.mg_of X G a_entry
  have F_headings := fun_mk (st := top 25) l_headings c_headings k_headings
  have b_headings := F_headings.binds (ps := ["element", "heading"]) fun _ _ _ _ _ _ us hl => match us, hl with | [_, _], _ => rfl
  have M_headings := PySem.W.mg_of X G a_headings
  have F_onward := fun_mk (st := top 24) l_onward c_onward k_onward
  have b_onward := F_onward.binds (ps := ["wide", "high", "cell", "heading"]) fun _ _ _ _ _ _ us hl => match us, hl with | [_, _, _, _], _ => rfl
  have M_onward := PySem.W.mg_of X G a_onward
  have F_outs := fun_mk (st := top 31) l_outs c_outs k_outs
  have b_outs := F_outs.binds (ps := ["board", "ports"]) fun _ _ _ _ _ _ us hl => match us, hl with | [_, _], _ => rfl
  have M_outs := PySem.W.mg_of X G a_outs
  have F_blocked := fun_mk (st := top 30) l_blocked c_blocked k_blocked
  have b_blocked := F_blocked.binds (ps := ["board", "some"]) fun _ _ _ _ _ _ us hl => match us, hl with | [_, _], _ => rfl
  have M_blocked := PySem.W.mg_of X G a_blocked
  have F_shut_off := fun_mk (st := top 38) l_shut_off c_shut_off k_shut_off
  have b_shut_off := F_shut_off.binds (ps := ["board", "cell"]) fun _ _ _ _ _ _ us hl => match us, hl with | [_, _], _ => rfl
  have M_shut_off := PySem.W.mg_of X G a_shut_off
  have F_need_port := fun_mk (st := top 22) l_need_port c_need_port k_need_port
  have b_need_port := F_need_port.binds (ps := ["board", "value", "name"]) fun _ _ _ _ _ _ us hl => match us, hl with | [_, _, _], _ => rfl
  have M_need_port := PySem.W.mg_of X G a_need_port
  have F_reaches := fun_mk (st := top 34) l_reaches c_reaches k_reaches
  have b_reaches := F_reaches.binds (ps := ["board", "port", "goal"]) fun _ _ _ _ _ _ us hl => match us, hl with | [_, _, _], _ => rfl
  have M_reaches := PySem.W.mg_of X G a_reaches
  have F_is_shut := fun_mk (st := top 33) l_is_shut c_is_shut k_is_shut
  have b_is_shut := F_is_shut.binds (ps := ["board", "ports", "goals", "some"]) fun _ _ _ _ _ _ us hl => match us, hl with | [_, _, _, _], _ => rfl
  have M_is_shut := PySem.W.mg_of X G a_is_shut
  have F_needed := fun_mk (st := top 37) l_needed c_needed k_needed
  have b_needed := F_needed.binds (ps := ["board", "port", "goal"]) fun _ _ _ _ _ _ us hl => match us, hl with | [_, _, _], _ => rfl
  have M_needed := PySem.W.mg_of X G a_needed
  have F__law_rows := fun_mk (st := top 51) l__law_rows c__law_rows k__law_rows
  have b__law_rows := F__law_rows.binds (ps := ["places", "size"]) fun _ _ _ _ _ _ us hl => match us, hl with | [_, _], _ => rfl
  have M__law_rows := PySem.W.mg_of X G a__law_rows
  have F__law_shut := fun_mk (st := top 53) l__law_shut c__law_shut k__law_shut
  have b__law_shut := F__law_shut.binds (ps := ["board", "ports", "goals", "some"]) fun _ _ _ _ _ _ us hl => match us, hl with | [_, _, _, _], _ => rfl
  have M__law_shut := PySem.W.mg_of X G a__law_shut
  have F_need_ports := fun_mk (st := top 32) l_need_ports c_need_ports k_need_ports
  have b_need_ports := F_need_ports.binds (ps := ["board", "value", "name"]) fun _ _ _ _ _ _ us hl => match us, hl with | [_, _, _], _ => rfl
  have M_need_ports := PySem.W.mg_of X G a_need_ports
  have F_choices := fun_mk (st := top 27) l_choices c_choices k_choices
  have b_choices := F_choices.binds (ps := ["places", "size"]) fun _ _ _ _ _ _ us hl => match us, hl with | [_, _], _ => rfl
  have M_choices := PySem.W.mg_of X G a_choices
  have F_fewest_blocks := fun_mk (st := top 35) l_fewest_blocks c_fewest_blocks k_fewest_blocks
  have b_fewest_blocks := F_fewest_blocks.binds (ps := ["board", "ports", "goals", "most"]) fun _ _ _ _ _ _ us hl => match us, hl with | [_, _, _, _], _ => rfl
  have M_fewest_blocks := PySem.W.mg_of X G a_fewest_blocks
  have F_is_blocking := fun_mk (st := top 36) l_is_blocking c_is_blocking k_is_blocking
  have b_is_blocking := F_is_blocking.binds (ps := ["board", "ports", "goals", "value"]) fun _ _ _ _ _ _ us hl => match us, hl with | [_, _, _, _], _ => rfl
  have M_is_blocking := PySem.W.mg_of X G a_is_blocking
  have F__law_case := fun_mk (st := top 54) l__law_case c__law_case k__law_case
  have b__law_case := F__law_case.binds (ps := ["row"]) fun _ _ _ _ _ _ us hl => match us, hl with | [_], _ => rfl
  have M__law_case := PySem.W.mg_of X G a__law_case
  have F__law_refused := fun_mk (st := top 42) l__law_refused c__law_refused k__law_refused
  have b__law_refused := F__law_refused.binds (ps := ["call"]) fun _ _ _ _ _ _ us hl => match us, hl with | [_], _ => rfl
  have M__law_refused := PySem.W.mg_of X G a__law_refused
  have Z_int := PySem.W.mg_none_of X G z_int
  have Z_len := PySem.W.mg_none_of X G z_len
  have Z_range := PySem.W.mg_none_of X G z_range
  have Z_tuple := PySem.W.mg_none_of X G z_tuple
  have Z_isinstance := PySem.W.mg_none_of X G z_isinstance
  have Z_sorted := PySem.W.mg_none_of X G z_sorted
  have Z_set := PySem.W.mg_none_of X G z_set
  have Z_str := PySem.W.mg_none_of X G z_str
  have Z_bool := PySem.W.mg_none_of X G z_bool
  have Z_all := PySem.W.mg_none_of X G z_all
  have Z_enumerate := PySem.W.mg_none_of X G z_enumerate
  have Z_list := PySem.W.mg_none_of X G z_list
  have Z_any := PySem.W.mg_none_of X G z_any
  have G_END : Glb K mg "END" g_END := ⟨_, _, PySem.W.mg_of X G g_END_, r_END, fun _ => .int _⟩
  have G_MOST_SIDE : Glb K mg "MOST_SIDE" g_MOST_SIDE := ⟨_, _, PySem.W.mg_of X G g_MOST_SIDE_, r_MOST_SIDE, fun _ => .int _⟩
  have G_EMPTY : Glb K mg "EMPTY" g_EMPTY := ⟨_, _, PySem.W.mg_of X G g_EMPTY_, r_EMPTY, fun _ => .int _⟩
  have G_PART_BACKSLASH : Glb K mg "PART_BACKSLASH" g_PART_BACKSLASH := ⟨_, _, PySem.W.mg_of X G g_PART_BACKSLASH_, r_PART_BACKSLASH, fun _ => .int _⟩
  have G_MOST_PARTERS : Glb K mg "MOST_PARTERS" g_MOST_PARTERS := ⟨_, _, PySem.W.mg_of X G g_MOST_PARTERS_, r_MOST_PARTERS, fun _ => .int _⟩
  have G_DOWN : Glb K mg "DOWN" g_DOWN := ⟨_, _, PySem.W.mg_of X G g_DOWN_, r_DOWN, fun _ => .int _⟩
  have G_LEFT : Glb K mg "LEFT" g_LEFT := ⟨_, _, PySem.W.mg_of X G g_LEFT_, r_LEFT, fun _ => .int _⟩
  have G_UP : Glb K mg "UP" g_UP := ⟨_, _, PySem.W.mg_of X G g_UP_, r_UP, fun _ => .int _⟩
  have G_RIGHT : Glb K mg "RIGHT" g_RIGHT := ⟨_, _, PySem.W.mg_of X G g_RIGHT_, r_RIGHT, fun _ => .int _⟩
  have G_SLASH : Glb K mg "SLASH" g_SLASH := ⟨_, _, PySem.W.mg_of X G g_SLASH_, r_SLASH, fun _ => .int _⟩
  have G_PART_SLASH : Glb K mg "PART_SLASH" g_PART_SLASH := ⟨_, _, PySem.W.mg_of X G g_PART_SLASH_, r_PART_SLASH, fun _ => .int _⟩
  have G_MOST_BLOCKS : Glb K mg "MOST_BLOCKS" g_MOST_BLOCKS := ⟨_, _, PySem.W.mg_of X G g_MOST_BLOCKS_, r_MOST_BLOCKS, fun _ => .int _⟩
  have GT_BY_SLASH : GlT K mg "BY_SLASH" gt_BY_SLASH := glT_mk (PySem.W.mg_of X G gT_BY_SLASH) lT_BY_SLASH eT_BY_SLASH rfl zT_BY_SLASH vT_BY_SLASH fun F => (.cons (PD.Rp.int _) (.cons (PD.Rp.int _) (.cons (PD.Rp.int _) (.cons (PD.Rp.int _) .nil))))
  have GT_BY_BACKSLASH : GlT K mg "BY_BACKSLASH" gt_BY_BACKSLASH := glT_mk (PySem.W.mg_of X G gT_BY_BACKSLASH) lT_BY_BACKSLASH eT_BY_BACKSLASH rfl zT_BY_BACKSLASH vT_BY_BACKSLASH fun F => (.cons (PD.Rp.int _) (.cons (PD.Rp.int _) (.cons (PD.Rp.int _) (.cons (PD.Rp.int _) .nil))))
  have F_I_BadArgument := fun_mk (st := inClass (top 1) 0) lI_BadArgument cI_BadArgument kI_BadArgument
  have b_I_BadArgument := F_I_BadArgument.binds (ps := ["self", "name"]) fun _ _ _ _ _ _ us hl => match us, hl with | [_, _], _ => rfl
  have O_BadArgument : OexC K CBadArgument := ⟨⟨_, _, _, _, _, _, _, _, _, _, _, _, _, _, _, xLBadArgument, by decide +kernel⟩, saBadArgument, eCBadArgument, tCBadArgument, kCBadArgument⟩
  have E_BadArgument : ExcF K mg "BadArgument" CBadArgument ["name"] := ⟨PySem.W.mg_of X G aCBadArgument, exm_self eCBadArgument iCBadArgument tCBadArgument sCBadArgument, ⟨gaBadArgument, ggBadArgument, eCBadArgument, hCBadArgument⟩, List.forall_mem_cons.mpr ⟨nbBadArgumentname, fun _ h => nomatch h⟩⟩
  refine ⟨(PySem.W.fnOf "law" "law" (defArgs (top 55)) (defBody (top 55)) (defScope (top 55)) .none kVl dcl pml anl (.ref cc) ctl), [(cc__law_case, Pt__law_case)], spLawT K [(Pt__law_case, (("_law_case" : Str) ++ ".<locals>.") ++ "<lambda>")], List.forall_mem_cons.mpr ⟨own__law_case _ M__law_case cc__law_case Pt__law_case _ _ _ _ _ _ l__law_case rfl rfl lc__law_case l11__law_case, fun _ h => nomatch h⟩, List.forall_mem_cons.mpr ⟨nP__law_case, fun _ h => nomatch h⟩, List.forall_mem_cons.mpr ⟨PySem.W.codeHd_of_K X hcd__law_case, fun _ h => nomatch h⟩, fun s u => .of_eq rfl, fun H a ns h1 h2 h3 h4 => ⟨a, ns, rfl, h1, h2, List.forall_mem_cons.mpr ⟨h3 (cc__law_case, Pt__law_case) (List.mem_cons_self), fun _ h => nomatch h⟩, h4, fun _ => rfl⟩, fun base hB hG hT => ?_⟩
  · have X_BadArgument : Xq l.prog w K mg base "BadArgument" CBadArgument 1 ["name"] := ⟨qaI_BadArgument, _, _, O_BadArgument, iIBadArgument, tIBadArgument, init1 F_I_BadArgument scI_BadArgument rfl O_BadArgument nbBadArgumentname, b_I_BadArgument, PySem.W.mg_of X G aCBadArgument⟩
    have C__law_taken : Cq l.prog w K mg base "_law_taken" 1 ["row", "many"] (spP K mg true 2 f__law_taken) := ⟨_, _, ok__law_taken F__law_taken Z_int Z_len, M__law_taken, k__law_taken, b__law_taken⟩
    have C__law_pick : Cq l.prog w K mg base "_law_pick" 2 ["row", "some"] (spP K mg true 2 f__law_pick) := ⟨_, _, ok__law_pick F__law_pick C__law_taken Z_len, M__law_pick, k__law_pick, b__law_pick⟩
    have C__law_board : Cq l.prog w K mg base "_law_board" 3 ["row", "wide", "high", "most"] (spP K mg true 4 f__law_board) := ⟨_, _, ok__law_board F__law_board C__law_pick C__law_taken Z_range Z_tuple, M__law_board, k__law_board, b__law_board⟩
    have C__law_entry : Cq l.prog w K mg base "_law_entry" 1 ["wide", "high", "port"] (spP K mg false 3 f__law_entry) := ⟨_, _, ok__law_entry F__law_entry , M__law_entry, k__law_entry, b__law_entry⟩
    have C__law_start : Cq l.prog w K mg base "_law_start" 2 ["board", "port"] (spP K mg false 2 f__law_start) := ⟨_, _, ok__law_start F__law_start C__law_entry, M__law_start, k__law_start, b__law_start⟩
    have C__law_turn : Cq l.prog w K mg base "_law_turn" 1 ["sign", "heading"] (spP K mg false 2 f__law_turn) := ⟨_, _, ok__law_turn F__law_turn , M__law_turn, k__law_turn, b__law_turn⟩
    have C__law_out : Cq l.prog w K mg base "_law_out" 1 ["wide", "high", "column", "line"] (spP K mg false 4 f__law_out) := ⟨_, _, ok__law_out F__law_out , M__law_out, k__law_out, b__law_out⟩
    have C__law_goals : Cq l.prog w K mg base "_law_goals" 2 ["board", "state"] (spP K mg false 2 f__law_goals) := ⟨_, _, ok__law_goals F__law_goals C__law_turn C__law_out, M__law_goals, k__law_goals, b__law_goals⟩
    have C__law_reached : Cq l.prog w K mg base "_law_reached" 3 ["board", "port"] (spP K mg false 2 f__law_reached) := ⟨_, _, ok__law_reached F__law_reached C__law_start C__law_goals Z_isinstance Z_tuple, M__law_reached, k__law_reached, b__law_reached⟩
    have C__law_outs : Cq l.prog w K mg base "_law_outs" 4 ["board", "ports"] (spP K mg false 2 f__law_outs) := ⟨_, _, ok__law_outs F__law_outs C__law_reached C__law_goals Z_isinstance Z_int Z_sorted Z_set, M__law_outs, k__law_outs, b__law_outs⟩
    have C__law_alike : Cq l.prog w K mg base "_law_alike" 8 ["found", "due"] (spP K mg false 2 (f__law_alike 8)) := ⟨_, _, ok__law_alike F__law_alike M__law_alike b__law_alike Z_isinstance Z_tuple Z_len Z_range Z_str Z_int Z_bool 8, M__law_alike, k__law_alike, b__law_alike⟩
    have C_need : Cq l.prog w K mg base "need" 3 ["is_right", "name"] (spP K mg false 2 f_need) := ⟨_, _, ok_need F_need X_BadArgument, M_need, k_need, b_need⟩
    have C_is_whole : Cq l.prog w K mg base "is_whole" 1 ["value", "low", "high"] (spP K mg false 3 f_is_whole) := ⟨_, _, ok_is_whole F_is_whole Z_isinstance Z_int Z_bool, M_is_whole, k_is_whole, b_is_whole⟩
    have C_parters : Cq l.prog w K mg base "parters" 1 ["cells"] (spP K mg false 1 f_parters) := ⟨_, _, ok_parters F_parters G_END Z_len, M_parters, k_parters, b_parters⟩
    have C_is_board : Cq l.prog w K mg base "is_board" 2 ["value"] (spP K mg false 1 f_is_board) := ⟨_, _, ok_is_board F_is_board C_is_whole C_parters G_MOST_SIDE G_EMPTY G_PART_BACKSLASH G_MOST_PARTERS Z_isinstance Z_tuple Z_len Z_all, M_is_board, k_is_board, b_is_board⟩
    have C_need_board : Cq l.prog w K mg base "need_board" 4 ["value", "name"] (spP K mg false 2 f_need_board) := ⟨_, _, ok_need_board F_need_board C_need C_is_board, M_need_board, k_need_board, b_need_board⟩
    have C_port_count : Cq l.prog w K mg base "port_count" 1 ["wide", "high"] (spP K mg false 2 f_port_count) := ⟨_, _, ok_port_count F_port_count , M_port_count, k_port_count, b_port_count⟩
    have C_entry : Cq l.prog w K mg base "entry" 1 ["wide", "high", "port"] (spP K mg false 3 f_entry) := ⟨_, _, ok_entry F_entry G_DOWN G_LEFT G_UP G_RIGHT, M_entry, k_entry, b_entry⟩
    have C_headings : Cq l.prog w K mg base "headings" 1 ["element", "heading"] (spP K mg false 2 f_headings) := ⟨_, _, ok_headings F_headings G_EMPTY G_END G_SLASH G_PART_SLASH GT_BY_SLASH GT_BY_BACKSLASH, M_headings, k_headings, b_headings⟩
    have C_onward : Cq l.prog w K mg base "onward" 1 ["wide", "high", "cell", "heading"] (spP K mg false 4 f_onward) := ⟨_, _, ok_onward F_onward G_UP G_RIGHT G_DOWN G_LEFT, M_onward, k_onward, b_onward⟩
    have C_outs : Cq l.prog w K mg base "outs" 2 ["board", "ports"] (spP K mg false 2 f_outs) := ⟨_, _, ok_outs F_outs C_entry C_headings C_onward, M_outs, k_outs, b_outs⟩
    have C_blocked : Cq l.prog w K mg base "blocked" 1 ["board", "some"] (spP K mg false 2 f_blocked) := ⟨_, _, ok_blocked F_blocked G_END Z_enumerate Z_tuple, M_blocked, k_blocked, b_blocked⟩
    have C_shut_off : Cq l.prog w K mg base "shut_off" 5 ["board", "cell"] (spP K mg false 2 f_shut_off) := ⟨_, _, ok_shut_off F_shut_off C_need_board C_need C_is_whole C_port_count C_outs C_blocked Z_len Z_range Z_list Z_sorted Z_tuple, M_shut_off, k_shut_off, b_shut_off⟩
    have C_need_port : Cq l.prog w K mg base "need_port" 4 ["board", "value", "name"] (spP K mg false 3 f_need_port) := ⟨_, _, ok_need_port F_need_port C_need C_is_whole C_port_count, M_need_port, k_need_port, b_need_port⟩
    have C_reaches : Cq l.prog w K mg base "reaches" 5 ["board", "port", "goal"] (spP K mg false 3 f_reaches) := ⟨_, _, ok_reaches F_reaches C_need_board C_need_port C_outs, M_reaches, k_reaches, b_reaches⟩
    have K_reaches_2 : CKq l.prog w K mg base "reaches" 5 ["board", "port", "goal"] (spP K mg false (2 + 1) f_reaches) 2 1 ["goal"] := by
      exact ⟨_, _, ok_reaches F_reaches C_need_board C_need_port C_outs, M_reaches, k_reaches, kbinds_mk (by simp) fun s us ws h1 h2 => match us, ws, h1, h2 with | [_, _], [_], _, _ => .of_eq rfl⟩
    have C_is_shut : Cq l.prog w K mg base "is_shut" 3 ["board", "ports", "goals", "some"] (spP K mg false 4 f_is_shut) := ⟨_, _, ok_is_shut F_is_shut C_outs C_blocked Z_any, M_is_shut, k_is_shut, b_is_shut⟩
    have C_needed : Cq l.prog w K mg base "needed" 6 ["board", "port", "goal"] (spP K mg false 3 f_needed) := ⟨_, _, ok_needed F_needed C_reaches C_is_shut Z_len Z_range Z_tuple, M_needed, k_needed, b_needed⟩
    have C__law_rows : Cq l.prog w K mg base "_law_rows" 1 ["places", "size"] (spP K mg false 2 f__law_rows) := ⟨_, _, ok__law_rows F__law_rows Z_range, M__law_rows, k__law_rows, b__law_rows⟩
    have C__law_shut : Cq l.prog w K mg base "_law_shut" 5 ["board", "ports", "goals", "some"] (spP K mg false 4 f__law_shut) := ⟨_, _, ok__law_shut F__law_shut C__law_outs Z_enumerate Z_tuple, M__law_shut, k__law_shut, b__law_shut⟩
    have C_need_ports : Cq l.prog w K mg base "need_ports" 4 ["board", "value", "name"] (spP K mg false 3 f_need_ports) := ⟨_, _, ok_need_ports F_need_ports C_port_count C_is_whole C_need Z_isinstance Z_tuple Z_all Z_list Z_sorted Z_set, M_need_ports, k_need_ports, b_need_ports⟩
    have C_choices : Cq l.prog w K mg base "choices" 1 ["places", "size"] (spP K mg false 2 f_choices) := ⟨_, _, ok_choices F_choices Z_range, M_choices, k_choices, b_choices⟩
    have C_fewest_blocks : Cq l.prog w K mg base "fewest_blocks" 5 ["board", "ports", "goals", "most"] (spP K mg false 4 f_fewest_blocks) := ⟨_, _, ok_fewest_blocks F_fewest_blocks C_need_board C_need_ports C_need C_is_whole C_choices C_is_shut G_MOST_BLOCKS Z_range Z_len Z_list, M_fewest_blocks, k_fewest_blocks, b_fewest_blocks⟩
    have K_fewest_blocks_3 : CKq l.prog w K mg base "fewest_blocks" 5 ["board", "ports", "goals", "most"] (spP K mg false (3 + 1) f_fewest_blocks) 3 1 ["most"] := by
      exact ⟨_, _, ok_fewest_blocks F_fewest_blocks C_need_board C_need_ports C_need C_is_whole C_choices C_is_shut G_MOST_BLOCKS Z_range Z_len Z_list, M_fewest_blocks, k_fewest_blocks, kbinds_mk (by simp) fun s us ws h1 h2 => match us, ws, h1, h2 with | [_, _, _], [_], _, _ => .of_eq rfl⟩
    have C_is_blocking : Cq l.prog w K mg base "is_blocking" 5 ["board", "ports", "goals", "value"] (spP K mg false 4 f_is_blocking) := ⟨_, _, ok_is_blocking F_is_blocking C_need_board C_need_ports C_is_whole C_is_shut Z_isinstance Z_tuple Z_len Z_all Z_list Z_sorted Z_set, M_is_blocking, k_is_blocking, b_is_blocking⟩
    have K_is_blocking_3 : CKq l.prog w K mg base "is_blocking" 5 ["board", "ports", "goals", "value"] (spP K mg false (3 + 1) f_is_blocking) 3 1 ["value"] := by
      exact ⟨_, _, ok_is_blocking F_is_blocking C_need_board C_need_ports C_is_whole C_is_shut Z_isinstance Z_tuple Z_len Z_all Z_list Z_sorted Z_set, M_is_blocking, k_is_blocking, kbinds_mk (by simp) fun s us ws h1 h2 => match us, ws, h1, h2 with | [_, _, _], [_], _, _ => .of_eq rfl⟩
    have C__law_case : Cq l.prog w K mg base "_law_case" 9 ["row"] (spT K mg [(Pt__law_case, (("_law_case" : Str) ++ ".<locals>.") ++ "<lambda>")] true 1 f__law_case) := ⟨_, _, ok__law_case l__law_case c__law_case (hT (cc__law_case, Pt__law_case) (List.mem_cons_self)) (List.mem_cons_self) (by simp) F__law_refused b__law_refused M__law_refused C__law_board C__law_taken C__law_outs C__law_alike C__law_shut C_needed C__law_rows C_shut_off C_is_blocking C__law_pick C_fewest_blocks C_reaches K_reaches_2 K_fewest_blocks_3 K_is_blocking_3 Z_len Z_range Z_tuple Z_list Z_enumerate E_BadArgument, M__law_case, k__law_case, b__law_case⟩
    exact ok_law ll cl hnl C__law_case Z_range hden
end G

set_option Elab.async false
set_option linter.all false
set_option maxRecDepth 100000
set_option maxHeartbeats 2000000
/-! PuA: plain facts on the defs that most laws share. -/
namespace G
open PySem PySem.Spec PyProof.Rows L2 PD
/-! ### is_whole -/
def notInt : D → Bool
  | .int _ => false
  | .bool _ => false
  | .dict _ => false
  | _ => true
theorem is_whole_int (v lo hi : Int) : fo (f_is_whole [.int v, .int lo, .int hi]) = .ret (.bool (decide (lo ≤ v) && decide (v ≤ hi))) := by
  by_cases h : lo ≤ v <;> simp [f_is_whole, fo_run, den_is_whole, h]
theorem is_whole_bool (b : Bool) (lo hi : Int) : fo (f_is_whole [.bool b, .int lo, .int hi]) = .ret (.bool false) := by
  simp [f_is_whole, fo_run, den_is_whole]
theorem is_whole_not {d : D} (lo hi : Int) (h : notInt d = true) : fo (f_is_whole [d, .int lo, .int hi]) = .ret (.bool false) := by
  cases d <;> first | (simp [notInt] at h; done) | (simp [f_is_whole, fo_run, den_is_whole])
/-! ### parters -/
theorem parters_ints (xs : List Int) (h : xs.length ≤ 100000) : fo (f_parters [.tuple (xs.map .int)]) = .ret (.int ((xs.filter fun x => decide (3 < x)).length : Nat)) := by
  simp only [f_parters, fo_run, den_parters, startR]
  have e := dLc1 (di := dIt (dV 0)) (v := 1) (dt := ct_parters_1) (de := dV 1) (ρ := [.val (.tuple (xs.map .int)), .no]) (ρ1 := [.val (.tuple (xs.map .int)), .no]) (x := .tuple (xs.map .int)) (ds := xs.map .int)
    (p := fun d => match d with | .int x => decide (3 < x) | _ => false) (g := fun d => d) rfl (by simp) (by simpa using h)
    (fun d hd => by
      obtain ⟨x, _, rfl⟩ := List.mem_map.mp hd
      simp [ct_parters_1, g_END])
    (fun d hd _ => ⟨_, rfl, rfl⟩)
  simp [e]
  rw [List.filter_map]
  simp
  rfl
/-! ### is_board -/
def wholeB (d : D) (lo hi : Int) : Bool := match d with
  | .int v => decide (lo ≤ v) && decide (v ≤ hi)
  | _ => false
theorem is_whole_any {d : D} (lo hi : Int) (h : isD d = false) : fo (f_is_whole [d, .int lo, .int hi]) = .ret (.bool (wholeB d lo hi)) := by
  cases d with
  | int v => exact is_whole_int v lo hi
  | bool b => exact is_whole_bool b lo hi
  | dict _ => simp [isD] at h
  | _ => exact is_whole_not lo hi rfl
def cntP (ds : List D) : Nat := (ds.filter fun d => match d with | .int x => decide (3 < x) | _ => false).length
theorem parters_any {ds : List D} (h : ds.length ≤ 100000) (hi : ∀ d ∈ ds, ∃ x, d = .int x) : fo (f_parters [.tuple ds]) = .ret (.int (cntP ds : Nat)) := by
  have e : ds = (ds.map fun d => match d with | .int x => x | _ => 0).map .int := by
    rw [List.map_map]
    refine (List.map_id ds).symm.trans (List.map_congr_left fun d hd => ?_)
    obtain ⟨x, rfl⟩ := hi d hd
    rfl
  have e2 := parters_ints (ds.map fun d => match d with | .int x => x | _ => 0) (by simpa using h)
  rw [← e] at e2
  rw [e2, cntP]
  conv => rhs; rw [e, List.filter_map, List.length_map]
  rfl
def boardB (a b c : D) : Bool := wholeB a 1 8 && (wholeB b 1 8 && (match a, b, c with
  | .int w, .int h, .tuple ds => decide ((ds.length : Int) = w * h) && (ds.all (fun d => wholeB d 0 5) && decide (cntP ds ≤ 8))
  | _, _, _ => false))
theorem is_board_t {a b c : D} (ha : isD a = false) (hb : isD b = false) (hc : isD c = false) (hcs : ∀ ds, c = .tuple ds → ds.length ≤ 100000 ∧ ∀ d ∈ ds, isD d = false) : fo (f_is_board [.tuple [a, b, c]]) = .ret (.bool (boardB a b c)) := by
  simp only [f_is_board, fo_run, den_is_board, g_MOST_SIDE, g_EMPTY, g_PART_BACKSLASH, g_MOST_PARTERS]
  simp [is_whole_any _ _ ha, is_whole_any _ _ hb]
  unfold boardB
  cases h1 : wholeB a 1 8 with
  | false => simp
  | true =>
    cases h2 : wholeB b 1 8 with
    | false => simp
    | true =>
      obtain ⟨w, rfl, w1, w2⟩ : ∃ w, a = .int w ∧ 1 ≤ w ∧ w ≤ 8 := by
        cases a with
        | int w => exact ⟨w, rfl, by simpa [wholeB] using h1⟩
        | _ => simp [wholeB] at h1
      obtain ⟨h, rfl, v1, v2⟩ : ∃ h, b = .int h ∧ 1 ≤ h ∧ h ≤ 8 := by
        cases b with
        | int w => exact ⟨w, rfl, by simpa [wholeB] using h2⟩
        | _ => simp [wholeB] at h2
      have em := oMul_s (a := w) (b := h) (by omega) (by omega)
      cases c with
      | tuple ds =>
        obtain ⟨hl, hd⟩ := hcs ds rfl
        simp [em]
        by_cases h3 : (ds.length : Int) = w * h
        case neg => simp [h3]
        case pos =>
          have e := dLc1y (di := dIt (dV 3)) (v := 4) (de := ce_is_board_1) (ρ := [.val (.tuple [.int w, .int h, .tuple ds]), .val (.int w), .val (.int h), .val (.tuple ds), .no]) (ρ1 := [.val (.tuple [.int w, .int h, .tuple ds]), .val (.int w), .val (.int h), .val (.tuple ds), .no])
            (x := .tuple ds) (ds := ds) (g := fun d => .bool (wholeB d 0 5)) rfl (by simp) hl (fun d hd' => by
              refine ⟨.t (.val (.bool (wholeB d 0 5))), ?_, rfl⟩
              simp [ce_is_board_1, g_EMPTY, g_PART_BACKSLASH, is_whole_any _ _ (hd d hd')])
          by_cases h4 : ∀ x ∈ ds, wholeB x 0 5 = true
          case neg => simp [h3, e, oAll, blsOf_map', h4]
          case pos =>
            have hi : ∀ d ∈ ds, ∃ x, d = .int x := fun d hd' => by
              have := h4 d hd'
              cases d with
              | int x => exact ⟨x, rfl⟩
              | _ => simp [wholeB] at this
            have h4' : (∀ x ∈ ds, wholeB x 0 5 = true) = True := eq_true h4
            simp [h3, e, oAll, blsOf_map', h4', parters_any hl hi]
            rw [List.all_eq_true.mpr h4, Bool.true_and]
            exact decide_eq_decide.mpr (by omega)
      | dict _ => simp [isD] at hc
      | _ => simp
/-! ### need, need_board -/
theorem need_t (n : Str) : fo (f_need [.bool true, .str n]) = .ret .none := by simp [f_need, fo_run, den_need]
theorem need_f (n : Str) : fo (f_need [.bool false, .str n]) = .exc ⟨"BadArgument", [("name", .str n)]⟩ := by simp [f_need, fo_run, den_need]
/-! ### _law_taken -/
def rowD (sc : List Int) (a b c : Int) : D := .list [.list (sc.map .int), .int a, .int b, .int c]
structure RowOk (a b c : Int) : Prop where
  a0 : 0 ≤ a
  b0 : 0 ≤ b
  b1 : b < 2147483647
  c0 : 0 ≤ c
@[simp] theorem ix40 (a b c d : D) : oIx [.list [a, b, c, d], .int 0] = .v a := rfl
@[simp] theorem ix41 (a b c d : D) : oIx [.list [a, b, c, d], .int 1] = .v b := rfl
@[simp] theorem ix42 (a b c d : D) : oIx [.list [a, b, c, d], .int 2] = .v c := rfl
@[simp] theorem ix43 (a b c d : D) : oIx [.list [a, b, c, d], .int 3] = .v d := rfl
@[simp] theorem ixN41 : ixN 4 1 = some 1 := rfl
@[simp] theorem ixN42 : ixN 4 2 = some 2 := rfl
@[simp] theorem ixN43 : ixN 4 3 = some 3 := rfl
@[simp] theorem mulM (x : Int) : oMul [.int x, .int 48271] = .v (.int (x * 48271)) := oMul_r (by decide) (by decide)
@[simp] theorem pow18 : oPow [.int 10, .int 18] = .v (.int (10 ^ 18)) := oPow_i (by decide)
@[simp] theorem pow90 : oPow [.int 10, .int 90] = .v (.int (10 ^ 90)) := oPow_i (by decide)
@[simp] theorem div7 (x : Int) : oDiv [.int x, .int 7] = .v (.int (x.fdiv 7)) := oDiv_i (by decide) (by decide)
theorem fdiv_nn {a b : Int} (ha : 0 ≤ a) (hb : 0 < b) : 0 ≤ a.fdiv b := by
  rw [Int.fdiv_eq_ediv_of_nonneg _ (by omega)]
  exact Int.ediv_nonneg ha (by omega)
theorem fmod_nn (a : Int) {b : Int} (hb : 0 < b) : 0 ≤ a.fmod b ∧ a.fmod b < b := ⟨Int.fmod_nonneg_of_pos a hb, Int.fmod_lt_of_pos a hb⟩
theorem taken_ok (sc : List Int) {a b c many : Int} (ok : RowOk a b c) (h1 : 1 ≤ many) (h2 : many < 1000000) :
    ∃ v a' b' c', f__law_taken [rowD sc a b c, .int many] = .rt (.int v) (.own (rowD sc a' b' c')) ∧ 0 ≤ v ∧ v < many ∧ RowOk a' b' c' := by
  have d1 : ∀ x : Int, oDiv [.int x, .int many] = .v (.int (x.fdiv many)) := fun x => oDiv_i (by omega) (by omega)
  have nz : many ≠ 0 := by omega
  by_cases hc : 0 < c
  · refine ⟨c.fmod many, a, b, c.fdiv many, ?_, (fmod_nn c (by omega)).1, (fmod_nn c (by omega)).2, ok.a0, ok.b0, ok.b1, fdiv_nn ok.c0 (by omega)⟩
    simp [f__law_taken, io_run, den__law_taken, rowD, hc, d1, nz]
  · by_cases ha : (sc.length : Int) < a + 1
    · have q := fmod_nn (b * 48271 + 11) (b := 2147483647) (by decide)
      refine ⟨((b * 48271 + 11).fmod 2147483647 |>.fdiv 7).fmod many, a + 1, (b * 48271 + 11).fmod 2147483647, c, ?_, (fmod_nn _ (by omega)).1, (fmod_nn _ (by omega)).2, by have := ok.a0; omega, q.1, q.2, ok.c0⟩
      simp [f__law_taken, io_run, den__law_taken, rowD, hc, d1, nz, ha]
    · have hi : a.toNat < sc.length := by have := ok.a0; omega
      have e : atI (sc.map PyData.int) a = some (.int sc[a.toNat]) := by
        have : a = (a.toNat : Int) := by have := ok.a0; omega
        conv => lhs; rw [this]
        exact PD.atI_nat (by simp [hi])
      have ex := oIx_l e
      have q := fmod_nn (b * 48271 + sc[a.toNat] + 11) (b := 2147483647) (by decide)
      by_cases hz : 1000000000000000000 ≤ sc[a.toNat]
      · refine ⟨sc[a.toNat].fmod many, a + 1, (b * 48271 + sc[a.toNat] + 11).fmod 2147483647, (sc[a.toNat].fmod (10 ^ 90)).fdiv many, ?_, (fmod_nn _ (by omega)).1, (fmod_nn _ (by omega)).2, by have := ok.a0; omega, q.1, q.2, fdiv_nn (fmod_nn _ (by decide)).1 (by omega)⟩
        simp [f__law_taken, io_run, den__law_taken, rowD, hc, d1, nz, ha, ex, hz]
      · refine ⟨sc[a.toNat].fmod many, a + 1, (b * 48271 + sc[a.toNat] + 11).fmod 2147483647, c, ?_, (fmod_nn _ (by omega)).1, (fmod_nn _ (by omega)).2, by have := ok.a0; omega, q.1, q.2, ok.c0⟩
        simp [f__law_taken, io_run, den__law_taken, rowD, hc, d1, nz, ha, ex, hz]
/-! ### loops told by an invariant -/
theorem forL_ind {dg : DG} {b : DS} (I : Nat → Sl → Prop) : ∀ (ds : List D) (n : Nat) (ρ : Sl), I n ρ → (∀ i d ρ, ds[i]? = some d → I (n + i) ρ → ∃ ρ1 ρ2, dg d ρ = some ρ1 ∧ (b ρ1 = .nx ρ2 ∨ b ρ1 = .ct ρ2) ∧ I (n + i + 1) ρ2) → ∃ ρ', forL dg b ds ρ = .nx ρ' ∧ I (n + ds.length) ρ'
  | [], n, ρ, h, _ => ⟨ρ, rfl, h⟩
  | d :: ds, n, ρ, h, k => by
    obtain ⟨ρ1, ρ2, e1, e2, e3⟩ := k 0 d ρ rfl h
    obtain ⟨ρ', q1, q2⟩ := forL_ind I ds (n + 1) ρ2 e3 (fun i d ρ hd hi => by
      have := k (i + 1) d ρ (by simpa using hd) (by rw [show n + (i + 1) = n + 1 + i by omega]; exact hi)
      rwa [show n + (i + 1) + 1 = n + 1 + i + 1 by omega] at this)
    refine ⟨ρ', ?_, by rw [List.length_cons, show n + (ds.length + 1) = n + 1 + ds.length by omega]; exact q2⟩
    rcases e2 with e2 | e2
    · rw [forL_nx e1 e2]; exact q1
    · rw [forL_ct e1 e2]; exact q1
/-! ### _law_pick, _law_board -/
theorem pick_ok (sc : List Int) {a b c : Int} {ds : List D} (ok : RowOk a b c) (h1 : 1 ≤ ds.length) (h2 : ds.length ≤ 1000) :
    ∃ d a' b' c', d ∈ ds ∧ f__law_pick [rowD sc a b c, .list ds] = .rt d (.own (rowD sc a' b' c')) ∧ RowOk a' b' c' := by
  obtain ⟨v, a', b', c', e, v0, v1, ok'⟩ := taken_ok sc ok (many := ds.length) (by omega) (by omega)
  have hi : v.toNat < ds.length := by omega
  refine ⟨ds[v.toNat], a', b', c', List.getElem_mem hi, ?_, ok'⟩
  have ex : oIx [.list ds, .int v] = .v ds[v.toNat] := oIx_l (by
    have : v = (v.toNat : Int) := by omega
    conv => lhs; rw [this]
    exact PD.atI_nat (by simp [hi]))
  simp [f__law_pick, io_run, den__law_pick, e, ex]
def brd (w h : Int) (cs : List Int) : D := .tuple [.int w, .int h, .tuple (cs.map .int)]
def cnt (cs : List Int) : Nat := (cs.filter fun x => decide (3 < x)).length
theorem cntP_ints (cs : List Int) : cntP (cs.map .int) = cnt cs := by
  unfold cntP cnt
  rw [List.filter_map, List.length_map]
  rfl
theorem cnt_snoc (cs : List Int) (k : Int) : cnt (cs ++ [k]) = cnt cs + if 3 < k then 1 else 0 := by
  unfold cnt
  by_cases h : 3 < k <;> simp [h, List.filter_append]
structure Cells (cs : List Int) : Prop where
  lo : ∀ x ∈ cs, 0 ≤ x ∧ x ≤ 5
theorem rangeD_len (n : Int) : (rangeD 0 n).length = n.toNat := by simp [rangeD]
theorem mAppend_l {ds : List D} (d : D) (h : ds.length < 100000) : mAppend (.list ds) [d] = some (.none, .list (ds ++ [d])) := by
  simp [mAppend, h]
/-! ### _law_alike -/
def okA : Nat → D → Bool
  | 0, _ => false
  | n + 1, .tuple ds => decide (ds.length ≤ 100000) && ds.all (okA n)
  | _ + 1, .list _ => false
  | _ + 1, .dict _ => false
  | _ + 1, .none => true
  | _ + 1, .bool _ => true
  | _ + 1, .int _ => true
  | _ + 1, .str _ => true
@[simp] theorem oEq_nil : oEq [.list [], .list []] = .v (.bool true) := by simp [oEq, vOr, oEqS, oEqD, SeqAt.shaped, PyData.canLay0, PyData.canLayAll0, PyData.depth, PyData.depthAll, PyData.eqv, PyData.eqvAll]
@[simp] theorem oEq_none : oEq [.none, .none] = .v (.bool true) := by simp [oEq, vOr, oEqS, oEqD, shaped_none, PyData.eqv]
theorem alike_refl : ∀ (n : Nat) (d : D), okA n d = true → fo (f__law_alike n [d, d]) = .ret (.bool true)
  | 0, _, h => by simp [okA] at h
  | n + 1, .list _, h => by simp [okA] at h
  | n + 1, .dict _, h => by simp [okA] at h
  | n + 1, .none, _ => by simp [f__law_alike, fo_run, den__law_alike]
  | n + 1, .bool b, _ => by simp [f__law_alike, fo_run, den__law_alike]
  | n + 1, .int b, _ => by simp [f__law_alike, fo_run, den__law_alike]
  | n + 1, .str b, _ => by simp [f__law_alike, fo_run, den__law_alike]
  | n + 1, .tuple ds, h => by
    simp only [okA, Bool.and_eq_true, decide_eq_true_eq, List.all_eq_true] at h
    obtain ⟨hl, ha⟩ := h
    have sm : small (ds.length : Int) = true := by simp [small]; omega
    have e := dLc1 (di := dRg1 (daC (dOp oLen (daC (dV 1) daN)) daN)) (v := 2) (dt := ct__law_alike_1 (f__law_alike n)) (de := dV 2) (ρ := [.val (.tuple ds), .val (.tuple ds), .no]) (ρ1 := [.val (.tuple ds), .val (.tuple ds), .no]) (x := .none) (ds := rangeD 0 ds.length) (p := fun _ => false) (g := fun d => d)
      (by simp [sm]) (by simp) (by rw [rangeD_len]; omega)
      (fun d hd => by
        simp only [rangeD, List.mem_map, List.mem_range] at hd
        obtain ⟨k, hk, rfl⟩ := hd
        have hk' : k < ds.length := by omega
        have ex : oIx [.tuple ds, .int (0 + (k : Int))] = .v ds[k] := oIx_t (by rw [Int.zero_add]; exact PD.atI_nat (by simp [hk']))
        have ih := alike_refl n ds[k] (ha _ (List.getElem_mem hk'))
        rw [Int.zero_add] at ex
        simp [ct__law_alike_1, ex, ih])
      (fun d hd hp => by cases hp)
    have ef : List.filter (fun _ => false) (rangeD 0 ds.length) = [] := List.filter_eq_nil_iff.mpr (fun _ _ => by simp)
    rw [ef] at e
    simp [f__law_alike, fo_run, den__law_alike, e]
end G

set_option Elab.async false
set_option linter.all false
set_option maxRecDepth 100000
set_option maxHeartbeats 2000000
namespace G
open PySem PySem.Spec PyProof.Rows L2 PD
theorem board_step (sc : List Int) {a b c w h m left : Int} {cs : List Int} {d s7 : D} (ok : RowOk a b c) (hl : cs.length < 100000) (hc : Cells cs) (h0 : 0 ≤ left) (s7 : SV) :
    ∃ a' b' c' k s7', lb__law_board_1 [.own (rowD sc a b c), .val (.int w), .val (.int h), .val (.int m), .own (.list (cs.map .int)), .val (.int left), .val d, s7] = .nx [.own (rowD sc a' b' c'), .val (.int w), .val (.int h), .val (.int m), .own (.list ((cs ++ [k]).map .int)), .val (.int (left - if 3 < k then 1 else 0)), .val d, s7'] ∧ RowOk a' b' c' ∧ 0 ≤ k ∧ k ≤ 5 ∧ (3 < k → 0 < left) := by
  have pk : ∃ k a' b' c' d0, f__law_pick [rowD sc a b c, d0] = .rt (.int k) (.own (rowD sc a' b' c')) ∧ RowOk a' b' c' ∧ 0 ≤ k ∧ k ≤ 5 ∧ (3 < k → 0 < left) ∧
      d0 = if 0 < left then .list [.int 0, .int 0, .int 1, .int 1, .int 2, .int 2, .int 3, .int 4, .int 5, .int 4, .int 5] else .list [.int 0, .int 0, .int 1, .int 2, .int 1, .int 2, .int 1, .int 2, .int 3] := by
    by_cases hp : 0 < left
    · obtain ⟨d1, a', b', c', hm, e, ok'⟩ := pick_ok sc (ds := [.int 0, .int 0, .int 1, .int 1, .int 2, .int 2, .int 3, .int 4, .int 5, .int 4, .int 5]) ok (by decide) (by decide)
      have : ∃ k, d1 = .int k ∧ 0 ≤ k ∧ k ≤ 5 := by
        simp only [List.mem_cons, List.not_mem_nil, or_false] at hm
        rcases hm with rfl | rfl | rfl | rfl | rfl | rfl | rfl | rfl | rfl | rfl | rfl <;> exact ⟨_, rfl, by decide, by decide⟩
      obtain ⟨k, rfl, k0, k1⟩ := this
      exact ⟨k, a', b', c', _, e, ok', k0, k1, fun _ => hp, by rw [if_pos hp]⟩
    · obtain ⟨d1, a', b', c', hm, e, ok'⟩ := pick_ok sc (ds := [.int 0, .int 0, .int 1, .int 2, .int 1, .int 2, .int 1, .int 2, .int 3]) ok (by decide) (by decide)
      have : ∃ k, d1 = .int k ∧ 0 ≤ k ∧ k ≤ 3 := by
        simp only [List.mem_cons, List.not_mem_nil, or_false] at hm
        rcases hm with rfl | rfl | rfl | rfl | rfl | rfl | rfl | rfl | rfl <;> exact ⟨_, rfl, by decide, by decide⟩
      obtain ⟨k, rfl, k0, k1⟩ := this
      exact ⟨k, a', b', c', _, e, ok', k0, by omega, fun z => by omega, by rw [if_neg hp]⟩
  obtain ⟨k, a1, b1, c1, d0, e1, ok1, k0, k1, k2, ed⟩ := pk
  subst ed
  have ap : ∀ k : Int, mAppend (.list (cs.map .int)) [.int k] = some (.none, .list ((cs ++ [k]).map .int)) := fun k => by
    rw [mAppend_l _ (by simpa using hl)]; simp
  have pre : (if 0 < left then (.list [.int 0, .int 0, .int 1, .int 1, .int 2, .int 2, .int 3, .int 4, .int 5, .int 4, .int 5] : D) else .list [.int 0, .int 0, .int 1, .int 2, .int 1, .int 2, .int 1, .int 2, .int 3]) = .list (if 0 < left then [.int 0, .int 0, .int 1, .int 1, .int 2, .int 2, .int 3, .int 4, .int 5, .int 4, .int 5] else [.int 0, .int 0, .int 1, .int 2, .int 1, .int 2, .int 1, .int 2, .int 3]) := by split <;> rfl
  by_cases h3 : k = 3
  · subst h3
    obtain ⟨v, a2, b2, c2, e2, v0, v1, ok2⟩ := taken_ok sc ok1 (many := 3) (by decide) (by decide)
    by_cases hv : 0 < v
    · refine ⟨a2, b2, c2, 0, .val (.int 0), ?_, ok2, by decide, by decide, fun z => by omega⟩
      by_cases hp : 0 < left <;> simp [hp] at e1 <;> simp [lb__law_board_1, hp, e1, e2, hv, ap]
    · refine ⟨a2, b2, c2, 3, .val (.int 3), ?_, ok2, by decide, by decide, fun z => by omega⟩
      by_cases hp : 0 < left <;> simp [hp] at e1 <;> simp [lb__law_board_1, hp, e1, e2, hv, ap]
  · refine ⟨a1, b1, c1, k, .val (.int k), ?_, ok1, k0, k1, k2⟩
    by_cases h4 : 3 < k <;> by_cases hp : 0 < left <;> simp [hp] at e1 <;> simp [lb__law_board_1, hp, e1, h3, h4, ap]
theorem board_ok (sc : List Int) {a b c w h m : Int} (ok : RowOk a b c) (w1 : 1 ≤ w) (w2 : w ≤ 100) (h1 : 1 ≤ h) (h2 : h ≤ 100) (m0 : 0 ≤ m) :
    ∃ cs a' b' c', f__law_board [rowD sc a b c, .int w, .int h, .int m] = .rt (brd w h cs) (.own (rowD sc a' b' c')) ∧ (cs.length : Int) = w * h ∧ Cells cs ∧ (cnt cs : Int) ≤ m ∧ RowOk a' b' c' := by
  have wh : w * h ≤ 10000 := by
    have : w * h ≤ 100 * 100 := Int.mul_le_mul w2 h2 (by omega) (by omega)
    omega
  have wh0 : 0 ≤ w * h := Int.mul_nonneg (by omega) (by omega)
  have em := oMul_s (a := w) (b := h) (by omega) (by omega)
  have sm : small (w * h) = true := by simp [small]; omega
  obtain ⟨ρ', q1, q2⟩ := forL_ind (dg := gN 6) (b := lb__law_board_1)
    (fun i ρ => ∃ a b c cs left s6 s7, ρ = [.own (rowD sc a b c), .val (.int w), .val (.int h), .val (.int m), .own (.list (cs.map .int)), .val (.int left), s6, s7] ∧ RowOk a b c ∧ cs.length = i ∧ Cells cs ∧ (cnt cs : Int) + left = m ∧ 0 ≤ left)
    (rangeD 0 (w * h)) 0 [.own (rowD sc a b c), .val (.int w), .val (.int h), .val (.int m), .own (.list []), .val (.int m), .no, .no]
    ⟨a, b, c, [], m, .no, .no, rfl, ok, rfl, ⟨by simp⟩, by simp [cnt], m0⟩ (by
      rintro i d ρ hd ⟨a, b, c, cs, left, s6, s7, rfl, ok, hl, hc, hs, h0⟩
      have hi : i < (rangeD 0 (w * h)).length := (List.getElem?_eq_some_iff.mp hd).1
      rw [rangeD_len] at hi
      obtain ⟨a', b', c', k, s7', e, ok', k0, k1, k2⟩ := board_step sc (w := w) (h := h) (m := m) (d := d) (s7 := d) ok (by omega) hc h0 s7
      refine ⟨_, _, rfl, .inl e, a', b', c', cs ++ [k], left - (if 3 < k then 1 else 0), .val d, s7', rfl, ok', by simp [hl], ⟨fun x hx => ?_⟩, ?_, ?_⟩
      · rcases List.mem_append.mp hx with hx | hx
        · exact hc.lo x hx
        · rw [List.mem_singleton.mp hx]; exact ⟨k0, k1⟩
      · rw [cnt_snoc]
        split <;> omega
      · split
        · have := k2 (by assumption); omega
        · omega)
  obtain ⟨a', b', c', cs, left, s6, s7, rfl, ok', hl, hc, hs, h0⟩ := q2
  refine ⟨cs, a', b', c', ?_, ?_, hc, by omega, ok'⟩
  · simp [f__law_board, io_run, den__law_board, em, sm, q1, brd]
  · rw [hl, rangeD_len]; omega
end G

set_option Elab.async false
set_option linter.all false
set_option maxRecDepth 100000
set_option maxHeartbeats 2000000
/-! PuB: plain boards: how a beam goes from state to state; that beams from ports end; rings; reversal. No program in sight. -/
namespace Bm
abbrev St := Int × Int
inductive Nx where
  | st (s : St)
  | out (p : Int)
deriving DecidableEq
def turn (e d : Int) : Int :=
  if e = 0 then d
  else if e = 1 then (if d = 0 then 1 else if d = 1 then 0 else if d = 2 then 3 else 2)
  else (if d = 0 then 3 else if d = 3 then 0 else if d = 1 then 2 else 1)
def mv (w h c d : Int) : Nx :=
  if d = 0 then (if 0 < c / w then .st (c - w, 0) else .out (c % w))
  else if d = 1 then (if c % w < w - 1 then .st (c + 1, 1) else .out (w + c / w))
  else if d = 2 then (if c / w < h - 1 then .st (c + w, 2) else .out (w + h + c % w))
  else (if 0 < c % w then .st (c - 1, 3) else .out (2 * w + h + c / w))
def el (cs : List Int) (c : Int) : Int := cs.getD c.toNat 0
def nx (w h : Int) (cs : List Int) (s : St) : Nx := if el cs s.1 = 3 then .out (-1) else mv w h s.1 (turn (el cs s.1) s.2)
def ent (w h p : Int) : St :=
  if p < w then (p, 2)
  else if p < w + h then ((p - w) * w + w - 1, 3)
  else if p < 2 * w + h then ((h - 1) * w + p - w - h, 0)
  else ((p - 2 * w - h) * w, 1)
structure Bd (w h : Int) (cs : List Int) : Prop where
  w1 : 1 ≤ w
  w2 : w ≤ 8
  h1 : 1 ≤ h
  h2 : h ≤ 8
  len : (cs.length : Int) = w * h
  el : ∀ x ∈ cs, 0 ≤ x ∧ x ≤ 3
def Vl (w h : Int) (s : St) : Prop := 0 ≤ s.1 ∧ s.1 < w * h ∧ 0 ≤ s.2 ∧ s.2 ≤ 3
theorem turn_rng (e d : Int) (h0 : 0 ≤ d) (h3 : d ≤ 3) : 0 ≤ turn e d ∧ turn e d ≤ 3 := by
  unfold turn
  repeat' split
  all_goals omega
theorem turn_inj (e a b : Int) (a0 : 0 ≤ a) (a3 : a ≤ 3) (b0 : 0 ≤ b) (b3 : b ≤ 3) (h : turn e a = turn e b) : a = b := by
  unfold turn at h
  repeat' split at h
  all_goals omega
/-- column and row of a cell -/
theorem dm {w h c : Int} (w1 : 1 ≤ w) (c0 : 0 ≤ c) (c1 : c < w * h) : c = c / w * w + c % w ∧ 0 ≤ c % w ∧ c % w < w ∧ 0 ≤ c / w ∧ c / w < h := by
  have e := Int.mul_ediv_add_emod c w
  have e' : c / w * w = w * (c / w) := Int.mul_comm _ _
  refine ⟨by omega, Int.emod_nonneg _ (by omega), Int.emod_lt_of_pos _ (by omega), Int.ediv_nonneg c0 (by omega), ?_⟩
  exact Int.ediv_lt_of_lt_mul (by omega) (by rw [Int.mul_comm]; exact c1)
theorem up_le {w r h : Int} (w1 : 1 ≤ w) (hr : r + 1 ≤ h) : r * w + w ≤ w * h := by
  have := Int.mul_le_mul_of_nonneg_left hr (show 0 ≤ w by omega)
  rw [Int.mul_add, Int.mul_one, Int.mul_comm w r] at this
  exact this
theorem row_of {w r k : Int} (w1 : 1 ≤ w) (k0 : 0 ≤ k) (k1 : k < w) : (r * w + k) / w = r ∧ (r * w + k) % w = k := by
  refine ⟨?_, ?_⟩
  · rw [Int.add_comm, Int.add_mul_ediv_right _ _ (by omega), Int.ediv_eq_zero_of_lt k0 k1, Int.zero_add]
  · rw [Int.add_comm, Int.add_mul_emod_self_right, Int.emod_eq_of_lt k0 k1]
section
variable {w h : Int} {cs : List Int}
theorem Bd.pos (B : Bd w h cs) : 1 ≤ w * h := by
  have := Int.mul_le_mul B.w1 B.h1 (by omega) (by have := B.w1; omega)
  omega
theorem mv_vl (B : Bd w h cs) {c d : Int} {t : St} (c0 : 0 ≤ c) (c1 : c < w * h) (e : mv w h c d = .st t) : Vl w h t := by
  obtain ⟨e1, k0, k1, r0, r1⟩ := dm B.w1 c0 c1
  have w1 := B.w1
  unfold mv at e
  have u1 := up_le (r := c / w) w1 (by omega : c / w + 1 ≤ h)
  have z0 : 0 ≤ c / w * w := Int.mul_nonneg r0 (by omega)
  repeat' split at e
  all_goals (cases e)
  all_goals (refine ⟨?_, ?_, by simp, by simp⟩ <;> simp only)
  · have : 1 * w ≤ c / w * w := Int.mul_le_mul_of_nonneg_right (by omega) (by omega)
    omega
  · omega
  · omega
  · omega
  · omega
  · have u2 := up_le (r := c / w + 1) w1 (by omega : c / w + 1 + 1 ≤ h)
    rw [Int.add_mul] at u2
    omega
  · omega
  · omega
theorem nx_vl (B : Bd w h cs) {s t : St} (v : Vl w h s) (e : nx w h cs s = .st t) : Vl w h t := by
  unfold nx at e
  split at e
  · cases e
  · exact mv_vl B v.1 v.2.1 e
theorem mv_inj {c c' d d' : Int} {t : St} (d0 : 0 ≤ d) (d3 : d ≤ 3) (d0' : 0 ≤ d') (d3' : d' ≤ 3) (e : mv w h c d = .st t) (e' : mv w h c' d' = .st t) : c = c' ∧ d = d' := by
  unfold mv at e e'
  repeat' split at e
  all_goals (cases e)
  all_goals (repeat' split at e')
  all_goals first
    | (simp at e'; done)
    | (simp at e'; omega)
theorem nx_inj (B : Bd w h cs) {s s' t : St} (v : Vl w h s) (v' : Vl w h s') (e : nx w h cs s = .st t) (e' : nx w h cs s' = .st t) : s = s' := by
  unfold nx at e e'
  split at e
  · cases e
  · split at e'
    · cases e'
    · obtain ⟨a0, a3⟩ := turn_rng (Bm.el cs s.1) s.2 v.2.2.1 v.2.2.2
      obtain ⟨b0, b3⟩ := turn_rng (Bm.el cs s'.1) s'.2 v'.2.2.1 v'.2.2.2
      obtain ⟨q1, q2⟩ := mv_inj a0 a3 b0 b3 e e'
      rw [← q1] at q2
      have := turn_inj _ _ _ v.2.2.1 v.2.2.2 v'.2.2.1 v'.2.2.2 q2
      exact Prod.ext q1 this
theorem ent_vl (B : Bd w h cs) {p : Int} (p0 : 0 ≤ p) (p1 : p < 2 * (w + h)) : Vl w h (ent w h p) := by
  have w1 := B.w1
  have h1 := B.h1
  unfold ent
  have u0 := up_le (r := h - 1) w1 (by omega : h - 1 + 1 ≤ h)
  have z : 0 ≤ (h - 1) * w := Int.mul_nonneg (by omega) (by omega)
  split
  · exact ⟨p0, by omega, by simp, by simp⟩
  · split
    · have u := up_le (r := p - w) w1 (by omega : p - w + 1 ≤ h)
      have z : 0 ≤ (p - w) * w := Int.mul_nonneg (by omega) (by omega)
      exact ⟨by simp only; omega, by simp only; omega, by simp, by simp⟩
    · split
      · exact ⟨by simp only; omega, by simp only; omega, by simp, by simp⟩
      · have u := up_le (r := p - 2 * w - h) w1 (by omega : p - 2 * w - h + 1 ≤ h)
        have z : 0 ≤ (p - 2 * w - h) * w := Int.mul_nonneg (by omega) (by omega)
        exact ⟨by simp only; omega, by simp only; omega, by simp, by simp⟩
/-- a beam comes in where no beam comes from within -/
theorem ent_no (B : Bd w h cs) {p : Int} {s : St} (p0 : 0 ≤ p) (p1 : p < 2 * (w + h)) (v : Vl w h s) : nx w h cs s ≠ .st (ent w h p) := by
  intro e
  unfold nx at e
  split at e
  · cases e
  · obtain ⟨c, d⟩ := s
    obtain ⟨c0, c1, _, _⟩ := v
    simp only at e c0 c1
    have w1 := B.w1
    have h1 := B.h1
    obtain ⟨e1, k0, k1, r0, r1⟩ := dm w1 c0 c1
    unfold mv ent at e
    have hw : w * h = (h - 1) * w + w := by rw [Int.sub_mul, Int.one_mul, Int.mul_comm]; omega
    have key : ∀ a : Int, c = a * w → c % w = 0 := fun a ha => by rw [ha]; exact Int.mul_emod_left _ _
    have key2 : ∀ a : Int, c + 1 = a * w → c % w = w - 1 := fun a ha => by
      have e3 : c = (a - 1) * w + (w - 1) := by rw [Int.sub_mul, Int.one_mul]; omega
      rw [e3]; exact (row_of w1 (by omega) (by omega)).2
    repeat' split at e
    all_goals (simp only [Nx.st.injEq, Prod.mk.injEq, reduceCtorEq] at e)
    all_goals first
      | omega
      | (have := key (p - w + 1) (by rw [Int.add_mul, Int.one_mul]; omega); omega)
      | (have := key2 (p - 2 * w - h) (by omega); omega)
end
/-! ### pigeonhole -/
theorem nodup_le : ∀ (N : Nat) (l : List Nat), l.Nodup → (∀ x ∈ l, x < N) → l.length ≤ N
  | 0, l, _, h => by
    cases l with
    | nil => simp
    | cons x l => exact absurd (h x List.mem_cons_self) (by omega)
  | N + 1, l, hn, h => by
    by_cases hN : N ∈ l
    · have h1 : (l.erase N).length + 1 = l.length := by
        rw [List.length_erase_of_mem hN]
        have := List.length_pos_of_mem hN
        omega
      have h2 := nodup_le N (l.erase N) (hn.erase N) fun x hx => by
        have h3 := (List.Nodup.mem_erase_iff hn).mp hx
        have := h x h3.2
        omega
      omega
    · have h2 := nodup_le N l hn fun x hx => by
        have h3 := h x hx
        have : x ≠ N := fun e => hN (e ▸ hx)
        omega
      omega
def cd (s : St) : Nat := (4 * s.1 + s.2).toNat
section
variable {w h : Int} {cs : List Int}
theorem cd_inj {s t : St} (v : Vl w h s) (v' : Vl w h t) (e : cd s = cd t) : s = t := by
  obtain ⟨a1, a2, a3, a4⟩ := v
  obtain ⟨b1, b2, b3, b4⟩ := v'
  unfold cd at e
  exact Prod.ext (by omega) (by omega)
theorem many_le (B : Bd w h cs) {l : List St} (hn : l.Nodup) (hv : ∀ s ∈ l, Vl w h s) : (l.length : Int) ≤ 4 * (w * h) := by
  have h1 : (l.map cd).Nodup := by
    unfold List.Nodup
    rw [List.pairwise_map]
    refine List.Pairwise.imp_of_mem ?_ hn
    intro a b ha hb hne e
    exact hne (cd_inj (hv a ha) (hv b hb) e)
  have h2 := nodup_le (4 * (w * h)).toNat (l.map cd) h1 fun x hx => by
    obtain ⟨s, hs, rfl⟩ := List.mem_map.mp hx
    obtain ⟨a1, a2, a3, a4⟩ := hv s hs
    unfold cd
    omega
  rw [List.length_map] at h2
  have := B.pos
  omega
/-! ### runs: from a state to where the beam goes out or ends -/
inductive Run (w h : Int) (cs : List Int) : St → List St → Int → Prop
  | out {s : St} {p : Int} : nx w h cs s = .out p → Run w h cs s [s] p
  | st {s t : St} {l : List St} {p : Int} : nx w h cs s = .st t → Run w h cs t l p → Run w h cs s (s :: l) p
theorem Run.det {s : St} {l l' : List St} {p p' : Int} (r : Run w h cs s l p) (r' : Run w h cs s l' p') : l = l' ∧ p = p' := by
  induction r generalizing l' p' with
  | out e => cases r' with
    | out e' => rw [e] at e'; cases e'; exact ⟨rfl, rfl⟩
    | st e' _ => rw [e] at e'; cases e'
  | st e _ ih => cases r' with
    | out e' => rw [e] at e'; cases e'
    | st e' r2 =>
      rw [e] at e'
      cases e'
      obtain ⟨q1, q2⟩ := ih r2
      exact ⟨by rw [q1], q2⟩
theorem Run.vl (B : Bd w h cs) {s : St} {l : List St} {p : Int} (r : Run w h cs s l p) (v : Vl w h s) : ∀ t ∈ l, Vl w h t := by
  induction r with
  | out e => intro t ht; rw [List.mem_singleton.mp ht]; exact v
  | st e _ ih =>
    intro t ht
    rcases List.mem_cons.mp ht with rfl | ht
    · exact v
    · exact ih (nx_vl B v e) t ht
theorem Run.sub {s : St} {l : List St} {p : Int} (r : Run w h cs s l p) : ∀ t ∈ l, ∃ l', Run w h cs t l' p ∧ l'.length ≤ l.length := by
  induction r with
  | out e => intro t ht; rw [List.mem_singleton.mp ht]; exact ⟨_, .out e, Nat.le_refl _⟩
  | st e r ih =>
    intro t ht
    rcases List.mem_cons.mp ht with rfl | ht
    · exact ⟨_, .st e r, Nat.le_refl _⟩
    · obtain ⟨l', h1, h2⟩ := ih t ht
      exact ⟨l', h1, by rw [List.length_cons]; omega⟩
theorem Run.nodup {s : St} {l : List St} {p : Int} (r : Run w h cs s l p) : l.Nodup := by
  induction r with
  | out e => exact List.nodup_cons.mpr ⟨by simp, List.nodup_nil⟩
  | @st s t l p e r ih =>
    refine List.nodup_cons.mpr ⟨fun hs => ?_, ih⟩
    obtain ⟨l', h1, h2⟩ := r.sub s hs
    have := (Run.det h1 (.st e r)).1
    rw [this, List.length_cons] at h2
    omega
theorem Run.head {s : St} {l : List St} {p : Int} (r : Run w h cs s l p) : ∃ l', l = s :: l' := by
  cases r with
  | out e => exact ⟨_, rfl⟩
  | st e r => exact ⟨_, rfl⟩
theorem Run.len (B : Bd w h cs) {s : St} {l : List St} {p : Int} (r : Run w h cs s l p) (v : Vl w h s) : (l.length : Int) ≤ 4 * (w * h) := many_le B r.nodup (r.vl B v)
/-- a chain of states: each one is behind the one before -/
inductive Ch (w h : Int) (cs : List Int) : St → List St → St → Prop
  | one {s : St} : Ch w h cs s [s] s
  | snoc {s t u : St} {l : List St} : Ch w h cs s l t → nx w h cs t = .st u → Ch w h cs s (l ++ [u]) u
theorem Ch.vl (B : Bd w h cs) {s t : St} {l : List St} (r : Ch w h cs s l t) (v : Vl w h s) : (∀ u ∈ l, Vl w h u) ∧ Vl w h t := by
  induction r with
  | one => exact ⟨fun t ht => by rw [List.mem_singleton.mp ht]; exact v, v⟩
  | snoc r e ih =>
    obtain ⟨i1, i2⟩ := ih
    have := nx_vl B i2 e
    refine ⟨fun t ht => ?_, this⟩
    rcases List.mem_append.mp ht with ht | ht
    · exact i1 t ht
    · rw [List.mem_singleton.mp ht]; exact this
theorem Ch.head {s t : St} {l : List St} (r : Ch w h cs s l t) : ∃ l', l = s :: l' := by
  induction r with
  | one => exact ⟨_, rfl⟩
  | snoc r e ih =>
    obtain ⟨l', rfl⟩ := ih
    exact ⟨_, rfl⟩
theorem Ch.last {s t : St} {l : List St} (r : Ch w h cs s l t) : t ∈ l := by
  cases r with
  | one => exact List.mem_singleton.mpr rfl
  | snoc r e => exact List.mem_append_right _ (List.mem_singleton.mpr rfl)
/-- what stands in a chain behind its first one has one before it there -/
theorem Ch.prev {s t : St} {l : List St} (r : Ch w h cs s l t) : ∀ u ∈ l, u = s ∨ ∃ v ∈ l, nx w h cs v = .st u := by
  induction r with
  | one => intro u hu; exact .inl (List.mem_singleton.mp hu)
  | @snoc t u l r e ih =>
    intro x hx
    rcases List.mem_append.mp hx with hx | hx
    · rcases ih x hx with h1 | ⟨v, h1, h2⟩
      · exact .inl h1
      · exact .inr ⟨v, List.mem_append_left _ h1, h2⟩
    · rw [List.mem_singleton.mp hx]
      exact .inr ⟨t, List.mem_append_left _ r.last, e⟩
theorem Ch.run {s t : St} {l : List St} {l' : List St} {p : Int} (r : Ch w h cs s l t) (q : Run w h cs t (t :: l') p) : Run w h cs s (l ++ l') p := by
  induction r generalizing l' with
  | one => exact q
  | snoc r e ih =>
    rw [List.append_assoc]
    exact ih (.st e q)
/-- a ring -/
def Cyc (w h : Int) (cs : List Int) (s : St) (l : List St) : Prop := ∃ t, Ch w h cs s l t ∧ l.Nodup ∧ nx w h cs t = .st s
/-- which state of a chain is followed by its last one's next, if that stands in it: the last one's next is its first -/
theorem Ch.back (B : Bd w h cs) {s t : St} {l : List St} (r : Ch w h cs s l t) : l.Nodup → (∀ x ∈ l, Vl w h x) → ∀ u ∈ l, nx w h cs t = .st u → u = s := by
  induction r with
  | one => intro _ _ u hu _; exact List.mem_singleton.mp hu
  | @snoc t y l r e ih =>
    intro hn hv u hu he
    have hd := List.nodup_append.mp hn
    rcases List.mem_append.mp hu with hu | hu
    · rcases r.prev u hu with h1 | ⟨z, h1, h2⟩
      · exact h1
      · have hz := nx_inj B (hv z (List.mem_append_left _ h1)) (hv y (List.mem_append_right _ (List.mem_singleton.mpr rfl))) h2 he
        exact absurd hz (hd.2.2 z h1 y (List.mem_singleton.mpr rfl))
    · rw [List.mem_singleton.mp hu] at he ⊢
      have := nx_inj B (hv t (List.mem_append_left _ r.last)) (hv y (List.mem_append_right _ (List.mem_singleton.mpr rfl))) e he
      exact absurd this (hd.2.2 t r.last y (List.mem_singleton.mpr rfl))
/-- every state either goes round or runs out -/
theorem runs_or_rings (B : Bd w h cs) {s : St} (v : Vl w h s) : (∃ l p, Run w h cs s l p) ∨ ∃ l, Cyc w h cs s l := by
  have go : ∀ (n : Nat) (l : List St) (t : St), Ch w h cs s l t → l.Nodup → 4 * (w * h) < l.length + (n : Int) → (∃ l p, Run w h cs s l p) ∨ ∃ l, Cyc w h cs s l := by
    intro n
    induction n with
    | zero =>
      intro l t r hn hl
      have := many_le B hn (r.vl B v).1
      omega
    | succ n ih =>
      intro l t r hn hl
      cases e : nx w h cs t with
      | out p => exact .inl ⟨_, p, r.run (.out e)⟩
      | st u =>
        by_cases hu : u ∈ l
        · have := r.back B hn (r.vl B v).1 u hu e
          subst this
          exact .inr ⟨l, t, r, hn, e⟩
        · refine ih (l ++ [u]) u (.snoc r e) ?_ (by simp; omega)
          exact List.nodup_append.mpr ⟨hn, List.nodup_cons.mpr ⟨by simp, List.nodup_nil⟩, fun a ha b hb => by rw [List.mem_singleton.mp hb]; rintro rfl; exact hu ha⟩
  have := B.pos
  exact go (4 * (w * h) + 1).toNat [s] s .one (List.nodup_cons.mpr ⟨by simp, List.nodup_nil⟩) (by simp; omega)
/-- a beam from a port runs out -/
theorem ent_runs (B : Bd w h cs) {p : Int} (p0 : 0 ≤ p) (p1 : p < 2 * (w + h)) : ∃ l q, Run w h cs (ent w h p) l q := by
  rcases runs_or_rings B (ent_vl B p0 p1) with h1 | ⟨l, t, h1, _, h3⟩
  · exact h1
  · exact absurd h3 (ent_no B p0 p1 (h1.vl B (ent_vl B p0 p1)).2)
/-! ### where a run ends -/
theorem mv_out (B : Bd w h cs) {c d p : Int} (c0 : 0 ≤ c) (c1 : c < w * h) (e : mv w h c d = .out p) : 0 ≤ p ∧ p < 2 * (w + h) := by
  obtain ⟨e1, k0, k1, r0, r1⟩ := dm B.w1 c0 c1
  have := B.w1
  have := B.h1
  unfold mv at e
  repeat' split at e
  all_goals (simp only [Nx.out.injEq, reduceCtorEq] at e)
  all_goals omega
theorem nx_out (B : Bd w h cs) {s : St} {p : Int} (v : Vl w h s) (e : nx w h cs s = .out p) : p = -1 ∨ 0 ≤ p ∧ p < 2 * (w + h) := by
  unfold nx at e
  split at e
  · cases e; exact .inl rfl
  · exact .inr (mv_out B v.1 v.2.1 e)
theorem Run.rng (B : Bd w h cs) {s : St} {l : List St} {p : Int} (r : Run w h cs s l p) (v : Vl w h s) : p = -1 ∨ 0 ≤ p ∧ p < 2 * (w + h) := by
  induction r with
  | out e => exact nx_out B v e
  | st e r ih => exact ih (nx_vl B v e)
/-! ### back -/
def opp (d : Int) : Int := if d = 0 then 2 else if d = 1 then 3 else if d = 2 then 0 else 1
def rev (cs : List Int) (s : St) : St := (s.1, opp (turn (Bm.el cs s.1) s.2))
theorem el_rng (B : Bd w h cs) {c : Int} (c0 : 0 ≤ c) (c1 : c < w * h) : 0 ≤ Bm.el cs c ∧ Bm.el cs c ≤ 3 := by
  have hl := B.len
  have hlt : c.toNat < cs.length := by omega
  unfold Bm.el
  rw [List.getD_eq_getElem?_getD, List.getElem?_eq_getElem hlt]
  exact B.el _ (List.getElem_mem hlt)
theorem turn_opp {e d : Int} (e0 : 0 ≤ e) (e2 : e ≤ 2) (d0 : 0 ≤ d) (d3 : d ≤ 3) : turn e (opp (turn e d)) = opp d := by
  have he : e = 0 ∨ e = 1 ∨ e = 2 := by omega
  have hd : d = 0 ∨ d = 1 ∨ d = 2 ∨ d = 3 := by omega
  rcases he with rfl | rfl | rfl <;> rcases hd with rfl | rfl | rfl | rfl <;> rfl
theorem opp_ne {e d : Int} (e0 : 0 ≤ e) (e2 : e ≤ 2) (d0 : 0 ≤ d) (d3 : d ≤ 3) : opp (turn e d) ≠ d := by
  have he : e = 0 ∨ e = 1 ∨ e = 2 := by omega
  have hd : d = 0 ∨ d = 1 ∨ d = 2 ∨ d = 3 := by omega
  rcases he with rfl | rfl | rfl <;> rcases hd with rfl | rfl | rfl | rfl <;> decide
theorem mv_back (B : Bd w h cs) {c d : Int} {t : St} (c0 : 0 ≤ c) (c1 : c < w * h) (d0 : 0 ≤ d) (d3 : d ≤ 3) (e : mv w h c d = .st t) : t.2 = d ∧ mv w h t.1 (opp d) = .st (c, opp d) := by
  obtain ⟨e1, k0, k1, r0, r1⟩ := dm B.w1 c0 c1
  have vt := mv_vl B c0 c1 e
  have w1 := B.w1
  obtain ⟨f1, f2, f3, f4, f5⟩ := dm w1 vt.1 vt.2.1
  have hd : d = 0 ∨ d = 1 ∨ d = 2 ∨ d = 3 := by omega
  unfold mv at e
  rcases hd with rfl | rfl | rfl | rfl <;> simp at e <;> split at e <;> cases e
  · rename_i e2
    have q := row_of (r := c / w - 1) w1 k0 k1
    rw [show (c / w - 1) * w + c % w = c - w by rw [Int.sub_mul, Int.one_mul]; omega] at q
    refine ⟨rfl, ?_⟩
    simp [mv, opp, q]
    omega
  · rename_i e2
    have q := row_of (r := c / w) (k := c % w + 1) w1 (by omega) (by omega)
    rw [show c / w * w + (c % w + 1) = c + 1 by omega] at q
    refine ⟨rfl, ?_⟩
    simp [mv, opp, q]
    omega
  · rename_i e2
    have q := row_of (r := c / w + 1) w1 k0 k1
    rw [show (c / w + 1) * w + c % w = c + w by rw [Int.add_mul, Int.one_mul]; omega] at q
    refine ⟨rfl, ?_⟩
    simp [mv, opp, q]
    omega
  · rename_i e2
    have q := row_of (r := c / w) (k := c % w - 1) w1 (by omega) (by omega)
    rw [show c / w * w + (c % w - 1) = c - 1 by omega] at q
    refine ⟨rfl, ?_⟩
    simp [mv, opp, q]
    omega
theorem nx_back (B : Bd w h cs) {s t : St} (v : Vl w h s) (e : nx w h cs s = .st t) (ht : Bm.el cs t.1 ≠ 3) : nx w h cs (rev cs t) = .st (rev cs s) := by
  have vt := nx_vl B v e
  unfold nx at e
  split at e
  · cases e
  · rename_i hs
    obtain ⟨a0, a3⟩ := turn_rng (Bm.el cs s.1) s.2 v.2.2.1 v.2.2.2
    obtain ⟨q1, q2⟩ := mv_back B v.1 v.2.1 a0 a3 e
    obtain ⟨e0, e3⟩ := el_rng B vt.1 vt.2.1
    unfold nx rev
    simp only
    rw [if_neg ht, turn_opp e0 (by omega) vt.2.2.1 vt.2.2.2, q1]
    exact q2
theorem ent_out (B : Bd w h cs) {c d p : Int} (c0 : 0 ≤ c) (c1 : c < w * h) (d0 : 0 ≤ d) (d3 : d ≤ 3) (e : mv w h c d = .out p) : ent w h p = (c, opp d) := by
  obtain ⟨e1, k0, k1, r0, r1⟩ := dm B.w1 c0 c1
  have w1 := B.w1
  have h1 := B.h1
  have hd : d = 0 ∨ d = 1 ∨ d = 2 ∨ d = 3 := by omega
  have z0 : 0 ≤ c / w * w := Int.mul_nonneg r0 (by omega)
  unfold mv at e
  rcases hd with rfl | rfl | rfl | rfl <;> simp at e <;> split at e <;> cases e
  · rename_i e2
    have : c / w = 0 := by omega
    rw [this] at e1
    simp only [ent, opp]
    rw [if_pos k1]
    simp; omega
  · rename_i e2
    simp only [ent, opp]
    rw [if_neg (by omega), if_pos (by omega), show w + c / w - w = c / w by omega]
    simp; omega
  · rename_i e2
    have : c / w = h - 1 := by omega
    rw [this] at e1
    simp only [ent, opp]
    rw [if_neg (by omega), if_neg (by omega), if_pos (by omega)]
    simp; omega
  · rename_i e2
    simp only [ent, opp]
    rw [if_neg (by omega), if_neg (by omega), if_neg (by omega), show 2 * w + h + c / w - 2 * w - h = c / w by omega]
    simp; omega
theorem mv_ent (B : Bd w h cs) {p : Int} (p0 : 0 ≤ p) (p1 : p < 2 * (w + h)) : mv w h (ent w h p).1 (opp (ent w h p).2) = .out p := by
  have w1 := B.w1
  have h1 := B.h1
  unfold ent
  split
  · have q := row_of (r := 0) w1 p0 (by assumption)
    rw [Int.zero_mul, Int.zero_add] at q
    simp [mv, opp, q]
  · split
    · have q := row_of (r := p - w) (k := w - 1) w1 (by omega) (by omega)
      rw [show (p - w) * w + (w - 1) = (p - w) * w + w - 1 by omega] at q
      simp [mv, opp, q]
      omega
    · split
      · have q := row_of (r := h - 1) (k := p - w - h) w1 (by omega) (by omega)
        rw [show (h - 1) * w + (p - w - h) = (h - 1) * w + p - w - h by omega] at q
        simp [mv, opp, q]
        omega
      · have q := row_of (r := p - 2 * w - h) (k := 0) w1 (by omega) (by omega)
        rw [Int.add_zero] at q
        simp [mv, opp, q]
        omega
end
end Bm

set_option Elab.async false
set_option linter.all false
set_option maxRecDepth 100000
set_option maxHeartbeats 2000000
/-! PuB2: beams go back the way they came; rings: what the program and the law tell of them. -/
namespace Bm
section
variable {w h : Int} {cs : List Int}
theorem Run.el3 {s : St} {l : List St} {q : Int} (r : Run w h cs s l q) (hq : q ≠ -1) : Bm.el cs s.1 ≠ 3 := by
  intro e
  have e2 : nx w h cs s = .out (-1) := by unfold nx; rw [if_pos e]
  cases r with
  | out e3 => rw [e2] at e3; cases e3; exact hq rfl
  | st e3 _ => rw [e2] at e3; cases e3
theorem back_aux (B : Bd w h cs) {s : St} {l : List St} {q : Int} (r : Run w h cs s l q) (hq : q ≠ -1) (v : Vl w h s) : ∀ (l2 : List St) (p : Int), Run w h cs (rev cs s) (rev cs s :: l2) p → Run w h cs (ent w h q) ((l.map (rev cs)).reverse ++ l2) p := by
  induction r with
  | @out s q e =>
    intro l2 p r2
    have h3 := (Run.out e).el3 hq
    unfold nx at e
    rw [if_neg h3] at e
    obtain ⟨a0, a3⟩ := turn_rng (Bm.el cs s.1) s.2 v.2.2.1 v.2.2.2
    have := ent_out B v.1 v.2.1 a0 a3 e
    rw [this]
    exact r2
  | @st s t l q e r ih =>
    intro l2 p r2
    have vt := nx_vl B v e
    have nb := nx_back B v e (r.el3 hq)
    have := ih hq vt (rev cs s :: l2) p (.st nb r2)
    simpa using this
theorem back_run (B : Bd w h cs) {p q : Int} {l : List St} (p0 : 0 ≤ p) (p1 : p < 2 * (w + h)) (r : Run w h cs (ent w h p) l q) (hq : q ≠ -1) : Run w h cs (ent w h q) (l.map (rev cs)).reverse p := by
  have v := ent_vl B p0 p1
  obtain ⟨e0, e3⟩ := el_rng B v.1 v.2.1
  have h3 := r.el3 hq
  have e : nx w h cs (rev cs (ent w h p)) = .out p := by
    unfold nx rev
    simp only
    rw [if_neg h3, turn_opp e0 (by omega) v.2.2.1 v.2.2.2]
    exact mv_ent B p0 p1
  have := back_aux B r hq v [] p (.out e)
  simpa using this
theorem Run.next {s : St} {l : List St} {q : Int} (r : Run w h cs s l q) : ∀ (i : Nat) (a b : St), l[i]? = some a → l[i + 1]? = some b → nx w h cs a = .st b := by
  induction r with
  | out e => intro i a b h1 h2; simp at h2
  | @st s t l q e r ih =>
    intro i a b h1 h2
    cases i with
    | zero =>
      obtain ⟨l', rfl⟩ := r.head
      simp at h1 h2
      subst h1; subst h2
      exact e
    | succ i => exact ih i a b (by simpa using h1) (by simpa using h2)
theorem mv_ne (w1 : 1 ≤ w) {c d : Int} {t : St} (e : mv w h c d = .st t) : t.1 ≠ c := by
  unfold mv at e
  repeat' split at e
  all_goals (cases e)
  all_goals (simp only; omega)
theorem back_ne (B : Bd w h cs) {p q : Int} {l : List St} (p0 : 0 ≤ p) (p1 : p < 2 * (w + h)) (r : Run w h cs (ent w h p) l q) (hq : q ≠ -1) : q ≠ p := by
  rintro rfl
  have rb := back_run B p0 p1 r hq
  have el := (r.det rb).1
  have v := ent_vl B p0 p1
  have n0 : 0 < l.length := by obtain ⟨l', rfl⟩ := r.head; simp
  have sym : ∀ i, i < l.length → ∃ a b, l[i]? = some a ∧ l[l.length - 1 - i]? = some b ∧ a = rev cs b := by
    intro i hi
    have h1 : l[i]? = some l[i] := List.getElem?_eq_getElem hi
    have h2 : l[l.length - 1 - i]? = some (l[l.length - 1 - i]'(by omega)) := List.getElem?_eq_getElem (by omega)
    refine ⟨_, _, h1, h2, ?_⟩
    have h3 : l[i]? = ((l.map (rev cs)).reverse)[i]? := by rw [← el]
    rw [List.getElem?_reverse (by simpa using hi), List.getElem?_map, List.length_map, h2, h1] at h3
    exact Option.some.inj h3
  have np : ∀ s ∈ l, Bm.el cs s.1 ≠ 3 := fun s hs => by
    obtain ⟨l', h1, _⟩ := r.sub s hs
    exact h1.el3 hq
  by_cases hodd : l.length % 2 = 1
  · obtain ⟨a, b, h1, h2, h3⟩ := sym ((l.length - 1) / 2) (by omega)
    have e : l.length - 1 - (l.length - 1) / 2 = (l.length - 1) / 2 := by omega
    rw [e, h1] at h2
    cases h2
    have ha := List.mem_of_getElem? h1
    have va := r.vl B v a ha
    obtain ⟨e0, e3⟩ := el_rng B va.1 va.2.1
    have := np a ha
    exact opp_ne e0 (by omega) va.2.2.1 va.2.2.2 (congrArg Prod.snd h3).symm
  · obtain ⟨a, b, h1, h2, h3⟩ := sym (l.length / 2) (by omega)
    have e : l.length / 2 = (l.length - 1 - l.length / 2) + 1 := by omega
    have h1' := h1
    rw [e] at h1'
    have nb := r.next _ b a h2 h1'
    have hb := List.mem_of_getElem? h2
    unfold nx at nb
    rw [if_neg (np b hb)] at nb
    have := mv_ne B.w1 nb
    rw [h3] at this
    exact this rfl
end
end Bm

set_option Elab.async false
set_option linter.all false
set_option maxRecDepth 100000
set_option maxHeartbeats 2000000
/-! PuC: what the defs of plain boards give. -/
namespace G
open PySem PySem.Spec PyProof.Rows L2 PD Bm
def stD (s : Bm.St) : D := .tuple [.int s.1, .int s.2]
def nxD : Nx → D
  | .st s => .tuple [.int s.1, .int s.2]
  | .out p => .tuple [.none, .int p]
theorem fmodE (a : Int) {b : Int} (h : 1 ≤ b) : a.fmod b = a % b := Int.fmod_eq_emod_of_nonneg a (by omega)
theorem fdivE (a : Int) {b : Int} (h : 1 ≤ b) : a.fdiv b = a / b := Int.fdiv_eq_ediv_of_nonneg a (by omega)
theorem port_count_t (w h : Int) : fo (f_port_count [.int w, .int h]) = .ret (.int (2 * (w + h))) := by
  simp [f_port_count, fo_run, den_port_count, oMul_s]
section
variable {w h : Int} {cs : List Int}
theorem entry_t (B : Bd w h cs) (p : Int) : fo (f_entry [.int w, .int h, .int p]) = .ret (stD (ent w h p)) := by
  have w1 := B.w1
  have w2 := B.w2
  have em : ∀ x : Int, oMul [.int x, .int w] = .v (.int (x * w)) := fun x => oMul_r (by omega) (by omega)
  have em2 : oMul [.int 2, .int w] = .v (.int (2 * w)) := oMul_s (by decide) (by decide)
  unfold ent stD
  by_cases h1 : p < w
  · simp [f_entry, fo_run, den_entry, g_DOWN, h1]
  · by_cases h2 : p < w + h
    · simp [f_entry, fo_run, den_entry, g_LEFT, h1, h2, em]
    · by_cases h3 : p < 2 * w + h
      · simp [f_entry, fo_run, den_entry, g_UP, h1, h2, h3, em, em2]
      · simp [f_entry, fo_run, den_entry, g_RIGHT, h1, h2, h3, em, em2]
theorem onward_t (B : Bd w h cs) (c d : Int) (d0 : 0 ≤ d) (d3 : d ≤ 3) : fo (f_onward [.int w, .int h, .int c, .int d]) = .ret (nxD (mv w h c d)) := by
  have w1 := B.w1
  have w2 := B.w2
  have em2 : oMul [.int 2, .int w] = .v (.int (2 * w)) := oMul_s (by decide) (by decide)
  have ed : oDiv [.int c, .int w] = .v (.int (c / w)) := by rw [← fdivE c w1]; exact oDiv_i (by omega) (by omega)
  have eo : oMod [.int c, .int w] = .v (.int (c % w)) := by rw [oMod_i, if_pos (by omega), fmodE c w1]
  have hd : d = 0 ∨ d = 1 ∨ d = 2 ∨ d = 3 := by omega
  unfold mv
  rcases hd with rfl | rfl | rfl | rfl
  · by_cases h1 : 0 < c / w <;> simp [f_onward, fo_run, den_onward, g_UP, g_RIGHT, g_DOWN, g_LEFT, ed, eo, h1, nxD]
  · by_cases h1 : c % w < w - 1 <;> simp [f_onward, fo_run, den_onward, g_UP, g_RIGHT, g_DOWN, g_LEFT, ed, eo, h1, nxD]
  · by_cases h1 : c / w < h - 1 <;> simp [f_onward, fo_run, den_onward, g_UP, g_RIGHT, g_DOWN, g_LEFT, ed, eo, h1, nxD]
  · by_cases h1 : 0 < c % w <;> simp [f_onward, fo_run, den_onward, g_UP, g_RIGHT, g_DOWN, g_LEFT, ed, eo, h1, em2, nxD]

def hdD (e d : Int) : List D := if e = 3 then [] else [.int (turn e d)]
theorem inSl (e : Int) : oIn [.int e, .tuple [.int 1, .int 4]] = .v (.bool (decide (e = 1 ∨ e = 4))) := by
  have h1 : SeqAt.shaped (.int e) = true := shaped_int e
  have h2 : SeqAt.shaped (.tuple [.int 1, .int 4]) = true := by decide +kernel
  have : inD (.int e) [.int 1, .int 4] = decide (e = 1 ∨ e = 4) := by
    by_cases a : e = 1
    · subst a; rfl
    · by_cases b : e = 4
      · subst b; rfl
      · have a' : (1 == e) = false := by simp; omega
        have b' : (4 == e) = false := by simp; omega
        simp [inD, PyData.eqv, a, b, a', b']
  simp [oIn, vOr, oInL, oInT, h1, h2, this]
theorem headings_t (e d : Int) (e0 : 0 ≤ e) (e3 : e ≤ 3) (d0 : 0 ≤ d) (d3 : d ≤ 3) : fo (f_headings [.int e, .int d]) = .ret (.tuple (hdD e d)) := by
  have hd : d = 0 ∨ d = 1 ∨ d = 2 ∨ d = 3 := by omega
  have he : e = 0 ∨ e = 1 ∨ e = 2 ∨ e = 3 := by omega
  have i1 := inSl 1
  have i2 := inSl 2
  simp at i1 i2
  rcases he with rfl | rfl | rfl | rfl
  · simp [f_headings, fo_run, den_headings, g_EMPTY, hdD, turn]
  · rcases hd with rfl | rfl | rfl | rfl <;> simp [f_headings, fo_run, den_headings, g_EMPTY, g_END, g_SLASH, g_PART_SLASH, i1, gt_BY_SLASH, gt_BY_BACKSLASH, atI, L2.ixN, hdD, turn]
  · rcases hd with rfl | rfl | rfl | rfl <;> simp [f_headings, fo_run, den_headings, g_EMPTY, g_END, g_SLASH, g_PART_SLASH, i2, gt_BY_SLASH, gt_BY_BACKSLASH, atI, L2.ixN, hdD, turn]
  · simp [f_headings, fo_run, den_headings, g_EMPTY, g_END, hdD]
theorem at_cell (B : Bd w h cs) {c : Int} (c0 : 0 ≤ c) (c1 : c < w * h) : oIx [.tuple (cs.map .int), .int c] = .v (.int (el cs c)) := by
  have hl := B.len
  have hlt : c.toNat < cs.length := by omega
  have e : c = (c.toNat : Int) := by omega
  refine oIx_t ?_
  conv => lhs; rw [e]
  refine PD.atI_nat ?_
  unfold el
  rw [List.getD_eq_getElem?_getD, List.getElem?_map, List.getElem?_eq_getElem hlt]
  rfl
theorem ix_b0 (w h : Int) (x : D) : oIx [.tuple [.int w, .int h, x], .int 0] = .v (.int w) := rfl
theorem ix_b1 (w h : Int) (x : D) : oIx [.tuple [.int w, .int h, x], .int 1] = .v (.int h) := rfl
theorem ix_b2 (w h : Int) (x : D) : oIx [.tuple [.int w, .int h, x], .int 2] = .v x := rfl
theorem law_turn_t (e d : Int) (he : e = 1 ∨ e = 2) (d0 : 0 ≤ d) (d3 : d ≤ 3) : fo (f__law_turn [.int e, .int d]) = .ret (.int (turn e d)) := by
  have hd : d = 0 ∨ d = 1 ∨ d = 2 ∨ d = 3 := by omega
  rcases he with rfl | rfl <;> rcases hd with rfl | rfl | rfl | rfl <;> rfl

theorem law_entry_t (B : Bd w h cs) (p : Int) : ∃ k r d, fo (f__law_entry [.int w, .int h, .int p]) = .ret (.tuple [.int k, .int r, .int d]) ∧ (r * w + k, d) = ent w h p := by
  have w1 := B.w1
  have w2 := B.w2
  have em2 : oMul [.int 2, .int w] = .v (.int (2 * w)) := oMul_s (by decide) (by decide)
  unfold ent
  by_cases h1 : p < w
  · exact ⟨p, 0, 2, by simp [f__law_entry, fo_run, den__law_entry, h1], by simp [h1]⟩
  · by_cases h2 : p < w + h
    · exact ⟨w - 1, p - w, 3, by simp [f__law_entry, fo_run, den__law_entry, h1, h2], by simp [h1, h2]; omega⟩
    · by_cases h3 : p < 2 * w + h
      · exact ⟨p - w - h, h - 1, 0, by simp [f__law_entry, fo_run, den__law_entry, h1, h2, h3, em2], by simp [h1, h2, h3]; omega⟩
      · exact ⟨0, p - 2 * w - h, 1, by simp [f__law_entry, fo_run, den__law_entry, h1, h2, h3, em2], by simp [h1, h2, h3]⟩
theorem law_start_t (B : Bd w h cs) (p : Int) : fo (f__law_start [brd w h cs, .int p]) = .ret (stD (ent w h p)) := by
  obtain ⟨k, r, d, h1, h2⟩ := law_entry_t B p
  have w1 := B.w1
  have w2 := B.w2
  have em : oMul [.int r, .int w] = .v (.int (r * w)) := oMul_r (by omega) (by omega)
  rw [← h2]
  simp [f__law_start, fo_run, den__law_start, brd, ix_b0, ix_b1, h1, em, stD]
theorem law_out_t (B : Bd w h cs) (k r : Int) : fo (f__law_out [.int w, .int h, .int k, .int r]) = .ret (.int (if r < 0 then k else if w ≤ k then w + r else if h ≤ r then w + h + k else 2 * w + h + r)) := by
  have em2 : oMul [.int 2, .int w] = .v (.int (2 * w)) := oMul_s (by decide) (by decide)
  by_cases h1 : r < 0
  · simp [f__law_out, fo_run, den__law_out, h1]
  · by_cases h2 : w ≤ k
    · simp [f__law_out, fo_run, den__law_out, h1, h2]
    · by_cases h3 : h ≤ r <;> simp [f__law_out, fo_run, den__law_out, h1, h2, h3, em2]
/-- where a beam goes on, as the law tells it -/
def nxL : Nx → List D
  | .st s => [stD s]
  | .out p => if p = -1 then [] else [.int (-1 - p)]
def dX (d : Int) : Int := if d = 1 then 1 else if d = 3 then -1 else 0
def dY (d : Int) : Int := if d = 0 then -1 else if d = 2 then 1 else 0
theorem mv_law (B : Bd w h cs) {c d : Int} (c0 : 0 ≤ c) (c1 : c < w * h) (d0 : 0 ≤ d) (d3 : d ≤ 3) :
    mv w h c d = (if (0 ≤ c % w + dX d ∧ c % w + dX d < w) ∧ 0 ≤ c / w + dY d ∧ c / w + dY d < h then .st ((c / w + dY d) * w + (c % w + dX d), d) else .out (if c / w + dY d < 0 then c % w + dX d else if w ≤ c % w + dX d then w + (c / w + dY d) else if h ≤ c / w + dY d then w + h + (c % w + dX d) else 2 * w + h + (c / w + dY d))) := by
  obtain ⟨e1, k0, k1, r0, r1⟩ := dm B.w1 c0 c1
  have w1 := B.w1
  have h1 := B.h1
  have hd : d = 0 ∨ d = 1 ∨ d = 2 ∨ d = 3 := by omega
  have m1 : (c / w + -1) * w = c / w * w - w := by rw [Int.add_mul]; omega
  have m2 : (c / w + 1) * w = c / w * w + w := by rw [Int.add_mul]; omega
  rcases hd with rfl | rfl | rfl | rfl <;> simp only [mv, dX, dY, if_true, if_false, Int.add_zero, reduceCtorEq, Int.reduceEq]
  · by_cases q : 0 < c / w
    · rw [if_pos q, if_pos (by omega), m1]; congr 2; omega
    · rw [if_neg q, if_neg (by omega), if_pos (by omega)]
  · by_cases q : c % w < w - 1
    · rw [if_pos q, if_pos (by omega)]; congr 2; omega
    · rw [if_neg q, if_neg (by omega), if_neg (by omega), if_pos (by omega)]
  · by_cases q : c / w < h - 1
    · rw [if_pos q, if_pos (by omega), m2]; congr 2; omega
    · rw [if_neg q, if_neg (by omega), if_neg (by omega), if_neg (by omega), if_pos (by omega)]
  · by_cases q : 0 < c % w
    · rw [if_pos q, if_pos (by omega)]; congr 2; omega
    · rw [if_neg q, if_neg (by omega), if_neg (by omega), if_neg (by omega), if_neg (by omega)]

theorem goals_body (B : Bd w h cs) {c d : Int} (c0 : 0 ≤ c) (c1 : c < w * h) (d0 : 0 ≤ d) (d3 : d ≤ 3) (b st ce hd e : D) (s10 s11 s13 s14 s15 : SV) : ∃ x13 x14 x15,
    lb__law_goals_1 [.val b, .val st, .val (.int w), .val (.int h), .val ce, .val (.int (c % w)), .val (.int (c / w)), .val hd, .val e, .own (.list []), s10, s11, .val (.int d), s13, s14, s15] =
    .nx [.val b, .val st, .val (.int w), .val (.int h), .val ce, .val (.int (c % w)), .val (.int (c / w)), .val hd, .val e, .own (.list (nxL (mv w h c d))), s10, s11, .val (.int d), x13, x14, x15] := by
  have ml := mv_law B c0 c1 d0 d3
  have w1 := B.w1
  have w2 := B.w2
  have em : ∀ x : Int, oMul [.int x, .int w] = .v (.int (x * w)) := fun x => oMul_r (by omega) (by omega)
  have lo := law_out_t B (c % w + dX d) (c / w + dY d)
  have ix : oIx [.tuple [.int 0, .int 1, .int 0, .int (-1)], .int d] = .v (.int (dX d)) := by
    have hd : d = 0 ∨ d = 1 ∨ d = 2 ∨ d = 3 := by omega
    rcases hd with rfl | rfl | rfl | rfl <;> rfl
  have iy : oIx [.tuple [.int (-1), .int 0, .int 1, .int 0], .int d] = .v (.int (dY d)) := by
    have hd : d = 0 ∨ d = 1 ∨ d = 2 ∨ d = 3 := by omega
    rcases hd with rfl | rfl | rfl | rfl <;> rfl
  refine ⟨.val (.int (c % w + dX d)), .val (.int (c / w + dY d)), .val (.bool (decide ((0 ≤ c % w + dX d ∧ c % w + dX d < w) ∧ 0 ≤ c / w + dY d ∧ c / w + dY d < h))), ?_⟩
  generalize (if c / w + dY d < 0 then c % w + dX d else if w ≤ c % w + dX d then w + (c / w + dY d) else if h ≤ c / w + dY d then w + h + (c % w + dX d) else 2 * w + h + (c / w + dY d)) = P at lo ml
  have hP : ¬ ((0 ≤ c % w + dX d ∧ c % w + dX d < w) ∧ 0 ≤ c / w + dY d ∧ c / w + dY d < h) → P ≠ -1 := fun hq => by
    rw [if_neg hq] at ml
    have := mv_out B c0 c1 ml
    omega
  rw [ml]
  by_cases q1 : 0 ≤ c % w + dX d
  case neg =>
    have hP := hP (by simp [q1])
    simp [lb__law_goals_1, ix, iy, q1, lo, mAppend_l, nxL, hP]
  case pos =>
    by_cases q2 : c % w + dX d < w
    case neg =>
      have hP := hP (by simp [q2])
      simp [lb__law_goals_1, ix, iy, q1, q2, lo, mAppend_l, nxL, hP]
    case pos =>
      by_cases q3 : 0 ≤ c / w + dY d
      case neg =>
        have hP := hP (by simp [q3])
        simp [lb__law_goals_1, ix, iy, q1, q2, q3, lo, mAppend_l, nxL, hP]
      case pos =>
        by_cases q4 : c / w + dY d < h
        case neg =>
          have hP := hP (by simp [q4])
          simp [lb__law_goals_1, ix, iy, q1, q2, q3, q4, lo, mAppend_l, nxL, hP]
        case pos =>
          simp [lb__law_goals_1, ix, iy, q1, q2, q3, q4, lo, em, mAppend_l, nxL, stD]
theorem getH (d e : Int) (e0 : 0 ≤ e) (e3 : e ≤ 3) : lookD (mergeD [] [(.inl 0, .list [.int d]), (.inl 3, .list [])]) (.int e) = some (if e = 0 then some (.list [.int d]) else if e = 3 then some (.list []) else none) := by
  have he : e = 0 ∨ e = 1 ∨ e = 2 ∨ e = 3 := by omega
  rcases he with rfl | rfl | rfl | rfl <;> rfl
theorem law_goals_t (B : Bd w h cs) {s : Bm.St} (v : Vl w h s) : fo (f__law_goals [brd w h cs, stD s]) = .ret (.list (nxL (nx w h cs s))) := by
  have w1 := B.w1
  have w2 := B.w2
  obtain ⟨c, d⟩ := s
  obtain ⟨c0, c1, d0, d3⟩ := v
  simp only at c0 c1 d0 d3
  obtain ⟨e0, e3⟩ := el_rng B c0 c1
  have a1 := at_cell B c0 c1
  have ed : oDiv [.int c, .int w] = .v (.int (c / w)) := by rw [← fdivE c w1]; exact oDiv_i (by omega) (by omega)
  have eo : oMod [.int c, .int w] = .v (.int (c % w)) := by rw [oMod_i, if_pos (by omega), fmodE c w1]
  have i0 : oIx [.tuple [.int c, .int d], .int 0] = .v (.int c) := rfl
  have i1 : oIx [.tuple [.int c, .int d], .int 1] = .v (.int d) := rfl
  have pr : prs [.int 0, .list [.int d], .int 3, .list []] = some [(.inl 0, .list [.int d]), (.inl 3, .list [])] := rfl
  have gt := getH d (el cs c) e0 e3
  have lt := fun he => law_turn_t (el cs c) d he d0 d3
  have isl := inSl (el cs c)
  unfold nx
  simp only
  generalize el cs c = e at *
  have he : e = 0 ∨ e = 1 ∨ e = 2 ∨ e = 3 := by omega
  have body := fun (d' : Int) (h0 : 0 ≤ d') (h3 : d' ≤ 3) => goals_body B c0 c1 h0 h3 (brd w h cs) (stD (c, d)) (.tuple (cs.map .int)) (.int d) (.int e)
  rcases he with rfl | rfl | rfl | rfl
  · obtain ⟨x1, x2, x3, hb⟩ := body d d0 d3 (.val (.list [.int d])) .no .no .no .no
    simp only [brd, stD] at hb
    simp [f__law_goals, fo_run, den__law_goals, brd, stD, a1, ed, eo, i0, i1, pr, gt, forL, hb, turn]
  · obtain ⟨t0, t3⟩ := turn_rng 1 d d0 d3
    have lt := lt (by omega)
    obtain ⟨x1, x2, x3, hb⟩ := body (turn 1 d) t0 t3 (.val (.list [.int (turn 1 d)])) (.val (.int (turn 1 d))) .no .no .no
    simp only [brd, stD] at hb
    simp at isl
    simp [f__law_goals, fo_run, den__law_goals, brd, stD, a1, ed, eo, i0, i1, pr, gt, forL, hb, lt, isl]
  · obtain ⟨t0, t3⟩ := turn_rng 2 d d0 d3
    have lt := lt (by omega)
    obtain ⟨x1, x2, x3, hb⟩ := body (turn 2 d) t0 t3 (.val (.list [.int (turn 2 d)])) (.val (.int (turn 2 d))) .no .no .no
    simp only [brd, stD] at hb
    simp at isl
    simp [f__law_goals, fo_run, den__law_goals, brd, stD, a1, ed, eo, i0, i1, pr, gt, forL, hb, lt, isl]
  · simp [f__law_goals, fo_run, den__law_goals, brd, stD, a1, ed, eo, i0, i1, pr, gt, forL, nxL]
end
end G

set_option Elab.async false
set_option linter.all false
set_option maxRecDepth 100000
set_option maxHeartbeats 2000000
/-! PuE: plain data (numbers, None, lists and tuples of them): equality, in; comprehensions with two names; dicts as tables of states. -/
namespace PD
open PySem PySem.Spec PyProof.Rows L2
mutual
/-- numbers, None, lists and tuples of them, at most so deep -/
def okI : Nat → D → Bool
  | _, .none => true
  | _, .int _ => true
  | n + 1, .list ds => okIs n ds
  | n + 1, .tuple ds => okIs n ds
  | _, _ => false
def okIs : Nat → List D → Bool
  | _, [] => true
  | n, d :: ds => okI n d && okIs n ds
end
theorem okIs_all {n : Nat} : ∀ {ds : List D}, okIs n ds = true ↔ ∀ d ∈ ds, okI n d = true
  | [] => by simp [okIs]
  | d :: ds => by simp [okIs, okIs_all (ds := ds)]
mutual
theorem okI_lay : ∀ (n : Nat) (d : D), okI n d = true → d.canLay0 = true ∧ d.depth ≤ n + 1
  | n, .none, _ => ⟨rfl, by simp [PyData.depth]⟩
  | n, .int _, _ => ⟨rfl, by simp [PyData.depth]⟩
  | n + 1, .list ds, h => by
    obtain ⟨h1, h2⟩ := okIs_lay n ds (by simpa [okI] using h)
    exact ⟨by simp [PyData.canLay0, h1], by simp [PyData.depth]; omega⟩
  | n + 1, .tuple ds, h => by
    obtain ⟨h1, h2⟩ := okIs_lay n ds (by simpa [okI] using h)
    exact ⟨by simp [PyData.canLay0, h1], by simp [PyData.depth]; omega⟩
  | 0, .list ds, h => by simp [okI] at h
  | 0, .tuple ds, h => by simp [okI] at h
  | n, .bool _, h => by simp [okI] at h
  | n, .str _, h => by simp [okI] at h
  | n, .dict _, h => by simp [okI] at h
theorem okIs_lay : ∀ (n : Nat) (ds : List D), okIs n ds = true → PyData.canLayAll0 ds = true ∧ PyData.depthAll ds ≤ n + 1
  | n, [], _ => ⟨rfl, by simp [PyData.depthAll]⟩
  | n, d :: ds, h => by
    have h' : okI n d = true ∧ okIs n ds = true := by simpa [okIs] using h
    obtain ⟨a1, a2⟩ := okI_lay n d h'.1
    obtain ⟨b1, b2⟩ := okIs_lay n ds h'.2
    exact ⟨by simp [PyData.canLayAll0, a1, b1], by simp [PyData.depthAll]; omega⟩
end
theorem okI_shaped {n : Nat} {d : D} (h : okI n d = true) (hn : n ≤ 60) : SeqAt.shaped d = true := by
  obtain ⟨h1, h2⟩ := okI_lay n d h
  simp [SeqAt.shaped, h1]; omega
mutual
theorem eqv_ok : ∀ (n : Nat) (a b : D), okI n a = true → okI n b = true → (PyData.eqv a b = true ↔ a = b)
  | n, .none, b, _, hb => by cases b <;> simp [PyData.eqv] <;> simp [okI] at hb
  | n, .int i, b, _, hb => by cases b <;> simp [PyData.eqv] <;> simp [okI] at hb
  | n + 1, .list xs, b, ha, hb => by
    cases b with
    | list ys => simp [PyData.eqv, eqvAll_ok n xs ys (by simpa [okI] using ha) (by simpa [okI] using hb)]
    | _ => simp [PyData.eqv] <;> simp [okI] at hb
  | n + 1, .tuple xs, b, ha, hb => by
    cases b with
    | tuple ys => simp [PyData.eqv, eqvAll_ok n xs ys (by simpa [okI] using ha) (by simpa [okI] using hb)]
    | _ => simp [PyData.eqv] <;> simp [okI] at hb
  | 0, .list _, _, ha, _ => by simp [okI] at ha
  | 0, .tuple _, _, ha, _ => by simp [okI] at ha
  | n, .bool _, _, ha, _ => by simp [okI] at ha
  | n, .str _, _, ha, _ => by simp [okI] at ha
  | n, .dict _, _, ha, _ => by simp [okI] at ha
theorem eqvAll_ok : ∀ (n : Nat) (xs ys : List D), okIs n xs = true → okIs n ys = true → (PyData.eqvAll xs ys = true ↔ xs = ys)
  | n, [], ys, _, _ => by cases ys <;> simp [PyData.eqvAll]
  | n, x :: xs, [], _, _ => by simp [PyData.eqvAll]
  | n, x :: xs, y :: ys, ha, hb => by
    have ha' : okI n x = true ∧ okIs n xs = true := by simpa [okIs] using ha
    have hb' : okI n y = true ∧ okIs n ys = true := by simpa [okIs] using hb
    simp [PyData.eqvAll, eqv_ok n x y ha'.1 hb'.1, eqvAll_ok n xs ys ha'.2 hb'.2]
end
open Classical in
theorem eqv_dec {n : Nat} {a b : D} (ha : okI n a = true) (hb : okI n b = true) : PyData.eqv a b = decide (a = b) := by
  rw [Bool.eq_iff_iff, eqv_ok n a b ha hb]
  exact (decide_eq_true_iff).symm
theorem okI_notStr {n : Nat} {d : D} (h : okI n d = true) : ∀ x, d ≠ .str x := fun x e => by subst e; simp [okI] at h
open Classical in
theorem oEq_ok {n : Nat} {a b : D} (ha : okI n a = true) (hb : okI n b = true) (hn : n ≤ 60) : oEq [a, b] = .v (.bool (decide (a = b))) := by
  have h1 : oEqS [a, b] = .no := by
    cases a <;> first | rfl | simp [okI] at ha
  simp [oEq, vOr, h1, oEqD, okI_shaped ha hn, okI_shaped hb hn, eqv_dec ha hb]
open Classical in
theorem oNe_ok {n : Nat} {a b : D} (ha : okI n a = true) (hb : okI n b = true) (hn : n ≤ 60) : oNe [a, b] = .v (.bool (!decide (a = b))) := by
  have h1 : oNeS [a, b] = .no := by
    cases a <;> first | rfl | simp [okI] at ha
  simp [oNe, vOr, h1, oNeD, okI_shaped ha hn, okI_shaped hb hn, eqv_dec ha hb]
open Classical in
theorem inD_ok {n : Nat} {d : D} {ds : List D} (ha : okI n d = true) (hb : okIs n ds = true) : inD d ds = decide (d ∈ ds) := by
  rw [Bool.eq_iff_iff, decide_eq_true_iff, inD, List.any_eq_true]
  have hb' := okIs_all.mp hb
  refine ⟨fun ⟨x, hx, e⟩ => ?_, fun h => ⟨d, h, (eqv_ok n d d ha ha).mpr rfl⟩⟩
  rw [← (eqv_ok n x d (hb' x hx) ha).mp e]
  exact hx
open Classical in
theorem oIn_l {n : Nat} {d : D} {ds : List D} (ha : okI n d = true) (hb : okIs n ds = true) (hn : n < 60) : oIn [d, .list ds] = .v (.bool (decide (d ∈ ds))) := by
  have hl : okI (n + 1) (.list ds) = true := by simpa [okI] using hb
  simp [oIn, vOr, oInL, okI_shaped ha (by omega), okI_shaped hl (by omega), inD_ok ha hb]
open Classical in
theorem oIn_t {n : Nat} {d : D} {ds : List D} (ha : okI n d = true) (hb : okIs n ds = true) (hn : n < 60) : oIn [d, .tuple ds] = .v (.bool (decide (d ∈ ds))) := by
  have hl : okI (n + 1) (.tuple ds) = true := by simpa [okI] using hb
  simp [oIn, vOr, oInL, oInT, okI_shaped ha (by omega), okI_shaped hl (by omega), inD_ok ha hb]
open Classical in
theorem oNotIn_l {n : Nat} {d : D} {ds : List D} (ha : okI n d = true) (hb : okIs n ds = true) (hn : n < 60) : oNotIn [d, .list ds] = .v (.bool (!decide (d ∈ ds))) := by
  have hl : okI (n + 1) (.list ds) = true := by simpa [okI] using hb
  simp [oNotIn, vOr, oNotInL, okI_shaped ha (by omega), okI_shaped hl (by omega), inD_ok ha hb]
open Classical in
theorem oNotIn_t {n : Nat} {d : D} {ds : List D} (ha : okI n d = true) (hb : okIs n ds = true) (hn : n < 60) : oNotIn [d, .tuple ds] = .v (.bool (!decide (d ∈ ds))) := by
  have hl : okI (n + 1) (.tuple ds) = true := by simpa [okI] using hb
  simp [oNotIn, vOr, oNotInL, oNotInT, okI_shaped ha (by omega), okI_shaped hl (by omega), inD_ok ha hb]
theorem okI_mono : ∀ (n : Nat) (d : D), okI n d = true → okI (n + 1) d = true := by
  have key : ∀ (n : Nat) , (∀ d, okI n d = true → okI (n + 1) d = true) := by
    intro n
    induction n with
    | zero => intro d h; cases d <;> simp [okI] at h <;> simp [okI]
    | succ n ih =>
      intro d h
      cases d with
      | list ds =>
        have h : okIs n ds = true := by simpa [okI] using h
        have : okIs (n + 1) ds = true := okIs_all.mpr fun d hd => ih d (okIs_all.mp h d hd)
        simpa [okI] using this
      | tuple ds =>
        have h : okIs n ds = true := by simpa [okI] using h
        have : okIs (n + 1) ds = true := okIs_all.mpr fun d hd => ih d (okIs_all.mp h d hd)
        simpa [okI] using this
      | none => rfl
      | int _ => rfl
      | _ => simp [okI] at h
  exact fun n d => key n d
/-! ### a comprehension with two names over pairs -/
theorem lcL2 {v u : Nat} {dt : DB} {de : DE} {ρ0 : Sl} {p : D → D → Bool} {g : D → D → D} (hv : ρ0[v]? = some .no) (hu : ρ0[u]? = some .no) (hvu : v ≠ u) : ∀ (ds : List (D × D)) (acc : List D), acc.length + ds.length ≤ 100000 →
    (∀ d ∈ ds, dt ((ρ0.set v (.val d.1)).set u (.val d.2)) = .ok (p d.1 d.2) ((ρ0.set v (.val d.1)).set u (.val d.2))) →
    (∀ d ∈ ds, p d.1 d.2 = true → ∃ o, de ((ρ0.set v (.val d.1)).set u (.val d.2)) = .ok o ((ρ0.set v (.val d.1)).set u (.val d.2)) ∧ frz1 ((ρ0.set v (.val d.1)).set u (.val d.2)) o = some (g d.1 d.2, (ρ0.set v (.val d.1)).set u (.val d.2))) →
    lcL (gT (gsC (gN v) (gsC (gN u) gsN)) 2) dt de [v, u] (ds.map fun d => .tuple [d.1, d.2]) acc ρ0 = some (acc ++ (ds.filter fun d => p d.1 d.2).map fun d => g d.1 d.2, ρ0)
  | [], acc, _, _, _ => by simp [lcL]
  | d :: ds, acc, hl, h1, h2 => by
    have hv1 : v < ρ0.length := (List.getElem?_eq_some_iff.mp hv).1
    have hu1 : u < ρ0.length := (List.getElem?_eq_some_iff.mp hu).1
    have ev : ρ0[v] = .no := (List.getElem?_eq_some_iff.mp hv).2
    have eu : ρ0[u] = .no := (List.getElem?_eq_some_iff.mp hu).2
    have back : wipeR ((ρ0.set v (.val d.1)).set u (.val d.2)) [v, u] = ρ0 := by
      simp only [wipeR]
      rw [List.set_set, List.set_comm _ _ (Ne.symm hvu), List.set_set]
      conv => lhs; rw [show SV.no = ρ0[v] from ev.symm, List.set_getElem_self, ev.trans eu.symm, List.set_getElem_self]
    have eg : gT (gsC (gN v) (gsC (gN u) gsN)) 2 (.tuple [d.1, d.2]) ρ0 = some ((ρ0.set v (.val d.1)).set u (.val d.2)) := rfl
    simp only [List.length_cons] at hl
    rw [List.map_cons, lcL, eg]
    simp only
    rw [h1 d List.mem_cons_self]
    cases hp : p d.1 d.2 with
    | false =>
      simp only
      rw [back, List.filter_cons_of_neg (by simp [hp])]
      exact lcL2 hv hu hvu ds acc (by omega) (fun x hx => h1 x (List.mem_cons_of_mem _ hx)) (fun x hx => h2 x (List.mem_cons_of_mem _ hx))
    | true =>
      obtain ⟨o, e1, e2⟩ := h2 d List.mem_cons_self hp
      simp only
      rw [e1]
      simp only
      rw [e2]
      simp only
      rw [if_pos (show acc.length < 100000 by omega), back, List.filter_cons_of_pos (by simp [hp]), List.map_cons]
      have q := lcL2 hv hu hvu ds (acc ++ [g d.1 d.2]) (by simp; omega) (fun x hx => h1 x (List.mem_cons_of_mem _ hx)) (fun x hx => h2 x (List.mem_cons_of_mem _ hx))
      rw [q, List.append_assoc]
      rfl
theorem dLc2 {di : DI} {v u : Nat} {dt : DB} {de : DE} {ρ ρ1 : Sl} {x : D} {ds : List (D × D)} {p : D → D → Bool} {g : D → D → D} (hi : di ρ = .ok x (ds.map fun d => .tuple [d.1, d.2]) ρ1) (hv : v < ρ1.length) (hu : u < ρ1.length) (hvu : v ≠ u) (hl : ds.length ≤ 100000)
    (h1 : ∀ d ∈ ds, dt ((ρ1.set v (.val d.1)).set u (.val d.2)) = .ok (p d.1 d.2) ((ρ1.set v (.val d.1)).set u (.val d.2)))
    (h2 : ∀ d ∈ ds, p d.1 d.2 = true → ∃ o, de ((ρ1.set v (.val d.1)).set u (.val d.2)) = .ok o ((ρ1.set v (.val d.1)).set u (.val d.2)) ∧ frz1 ((ρ1.set v (.val d.1)).set u (.val d.2)) o = some (g d.1 d.2, (ρ1.set v (.val d.1)).set u (.val d.2))) :
    dLc di [v, u] (gT (gsC (gN v) (gsC (gN u) gsN)) 2) dt de ρ = .ok (.t (.own (.list ((ds.filter fun d => p d.1 d.2).map fun d => g d.1 d.2)))) ρ1 := by
  unfold dLc
  rw [hi]
  simp only
  have hw : wipeR ρ1 [v, u] = (ρ1.set u .no).set v .no := rfl
  have hs : ∀ a b, (((ρ1.set u .no).set v .no).set v (.val a)).set u (.val b) = (ρ1.set v (.val a)).set u (.val b) := fun a b => by
    rw [List.set_set, List.set_comm _ _ (Ne.symm hvu), List.set_set]
  rw [hw, lcL2 (p := p) (g := g) (by simp [hv]) (by rw [List.getElem?_set_ne hvu]; simp [hu]) hvu ds [] (by simpa using hl) (fun d hd => by rw [hs]; exact h1 d hd) (fun d hd hp => by rw [hs]; exact h2 d hd hp)]
  simp only [List.nil_append]
  congr 1
  simp only [restR, wipeR]
  have e1 : (ρ1.set u .no).getD v .no = ρ1[v] := by rw [List.getD_eq_getElem?_getD, List.getElem?_set_ne (Ne.symm hvu), List.getElem?_eq_getElem hv]; rfl
  have e2 : ρ1.getD u .no = ρ1[u] := by simp [List.getD, hu]
  rw [e1, e2, List.set_set, List.set_comm _ _ (Ne.symm hvu), List.set_set]
  simp
/-- enumerate, as pairs -/
theorem enum_pairs (ds : List D) : enumD ds = (ds.mapIdx fun i d => ((.int (i : Nat) : D), d)).map fun d => .tuple [d.1, d.2] := by
  refine List.ext_getElem? fun i => ?_
  unfold enumD
  rw [List.getElem?_map, List.getElem?_mapIdx, List.getElem?_mapIdx]
  cases ds[i]? <;> rfl
end PD

set_option Elab.async false
set_option linter.all false
set_option maxRecDepth 100000
set_option maxHeartbeats 4000000
/-! PuGb: boards with parters: where a beam goes on. -/
namespace Bm
/-- the headings behind a cell -/
def hds (e d : Int) : List Int := if e = 0 then [d] else if e = 3 then [] else if e < 3 then [turn e d] else [d, turn (e - 3) d]
def nxs (w h : Int) (cs : List Int) (s : St) : List Nx := (hds (el cs s.1) s.2).map (mv w h s.1)
structure Gb (w h : Int) (cs : List Int) : Prop where
  w1 : 1 ≤ w
  w2 : w ≤ 8
  h1 : 1 ≤ h
  h2 : h ≤ 8
  len : (cs.length : Int) = w * h
  el : ∀ x ∈ cs, 0 ≤ x ∧ x ≤ 5
section
variable {w h : Int} {cs : List Int}
theorem Gb.pos (B : Gb w h cs) : 1 ≤ w * h := by
  have := Int.mul_le_mul B.w1 B.h1 (by decide) (by have := B.w1; omega)
  omega
/-- an empty board of the size -/
theorem Gb.bd (B : Gb w h cs) : Bd w h (List.replicate (w * h).toNat 0) := by
  have := B.pos
  exact ⟨B.w1, B.w2, B.h1, B.h2, by simp; omega, fun x hx => by rw [List.eq_of_mem_replicate hx]; decide⟩
theorem hds_rng {e d : Int} (d0 : 0 ≤ d) (d3 : d ≤ 3) : ∀ x ∈ hds e d, 0 ≤ x ∧ x ≤ 3 := by
  intro x hx
  unfold hds at hx
  split at hx
  · rw [List.mem_singleton.mp hx]; exact ⟨d0, d3⟩
  · split at hx
    · cases hx
    · split at hx
      · rw [List.mem_singleton.mp hx]; exact turn_rng e d d0 d3
      · simp only [List.mem_cons, List.not_mem_nil, or_false] at hx
        rcases hx with rfl | rfl
        · exact ⟨d0, d3⟩
        · exact turn_rng _ d d0 d3
theorem hds_len (e d : Int) : (hds e d).length ≤ 2 := by
  unfold hds
  split
  · simp
  · split
    · simp
    · split <;> simp
theorem Gb.cell (B : Gb w h cs) {c : Int} (c0 : 0 ≤ c) (c1 : c < w * h) : 0 ≤ Bm.el cs c ∧ Bm.el cs c ≤ 5 := by
  have hl := B.len
  have hlt : c.toNat < cs.length := by omega
  unfold Bm.el
  rw [List.getD_eq_getElem?_getD, List.getElem?_eq_getElem hlt]
  exact B.el _ (List.getElem_mem hlt)
/-- reached, from some states on -/
inductive Rch (w h : Int) (cs : List Int) (P : List St) : St → Prop
  | here {s : St} : s ∈ P → Rch w h cs P s
  | on {s t : St} : Rch w h cs P s → .st t ∈ nxs w h cs s → Rch w h cs P t
def Outs (w h : Int) (cs : List Int) (P : List St) (g : Int) : Prop := ∃ s, Rch w h cs P s ∧ .out g ∈ nxs w h cs s
theorem Rch.vl (B : Gb w h cs) {P : List St} (hP : ∀ s ∈ P, Vl w h s) {s : St} (r : Rch w h cs P s) : Vl w h s := by
  induction r with
  | here hs => exact hP _ hs
  | on r hm ih =>
    obtain ⟨d, hd, e⟩ := List.mem_map.mp hm
    obtain ⟨d0, d3⟩ := hds_rng ih.2.2.1 ih.2.2.2 d hd
    exact mv_vl B.bd ih.1 ih.2.1 e
theorem Outs.rng (B : Gb w h cs) {P : List St} (hP : ∀ s ∈ P, Vl w h s) {g : Int} (o : Outs w h cs P g) : 0 ≤ g ∧ g < 2 * (w + h) := by
  obtain ⟨s, r, hm⟩ := o
  have v := r.vl B hP
  obtain ⟨d, hd, e⟩ := List.mem_map.mp hm
  exact mv_out B.bd v.1 v.2.1 e
/-- what is closed holds all that is reached -/
theorem Rch.sub {P : List St} {S : St → Prop} (h0 : ∀ s ∈ P, S s) (h1 : ∀ s t, S s → .st t ∈ nxs w h cs s → S t) {s : St} (r : Rch w h cs P s) : S s := by
  induction r with
  | here hs => exact h0 _ hs
  | on r hm ih => exact h1 _ _ ih hm
theorem Rch.mono {P Q : List St} (hPQ : ∀ s ∈ P, s ∈ Q) {s : St} (r : Rch w h cs P s) : Rch w h cs Q s := r.sub (S := Rch w h cs Q) (fun s hs => .here (hPQ s hs)) fun _ _ r hm => .on r hm
theorem Rch.one {P : List St} {s : St} (r : Rch w h cs P s) : ∃ p ∈ P, Rch w h cs [p] s := by
  induction r with
  | here hs => exact ⟨_, hs, .here (by simp)⟩
  | on r hm ih => obtain ⟨p, hp, q⟩ := ih; exact ⟨p, hp, .on q hm⟩
end
end Bm
namespace G
open PySem PySem.Spec PyProof.Rows L2 PD Bm
def nxl : Nx → D
  | .st s => stD s
  | .out p => .int (-1 - p)
section
variable {w h : Int} {cs : List Int}
theorem headings_g (e d : Int) (e0 : 0 ≤ e) (e5 : e ≤ 5) (d0 : 0 ≤ d) (d3 : d ≤ 3) : fo (f_headings [.int e, .int d]) = .ret (.tuple ((hds e d).map .int)) := by
  have hd : d = 0 ∨ d = 1 ∨ d = 2 ∨ d = 3 := by omega
  have he : e = 0 ∨ e = 1 ∨ e = 2 ∨ e = 3 ∨ e = 4 ∨ e = 5 := by omega
  have i1 := inSl 1
  have i2 := inSl 2
  have i4 := inSl 4
  have i5 := inSl 5
  simp at i1 i2 i4 i5
  rcases he with rfl | rfl | rfl | rfl | rfl | rfl
  · simp [f_headings, fo_run, den_headings, g_EMPTY, hds, turn]
  · rcases hd with rfl | rfl | rfl | rfl <;> simp [f_headings, fo_run, den_headings, g_EMPTY, g_END, g_SLASH, g_PART_SLASH, i1, gt_BY_SLASH, gt_BY_BACKSLASH, atI, L2.ixN, hds, turn]
  · rcases hd with rfl | rfl | rfl | rfl <;> simp [f_headings, fo_run, den_headings, g_EMPTY, g_END, g_SLASH, g_PART_SLASH, i2, gt_BY_SLASH, gt_BY_BACKSLASH, atI, L2.ixN, hds, turn]
  · simp [f_headings, fo_run, den_headings, g_EMPTY, g_END, hds]
  · rcases hd with rfl | rfl | rfl | rfl <;> simp [f_headings, fo_run, den_headings, g_EMPTY, g_END, g_SLASH, g_PART_SLASH, i4, gt_BY_SLASH, gt_BY_BACKSLASH, atI, L2.ixN, hds, turn]
  · rcases hd with rfl | rfl | rfl | rfl <;> simp [f_headings, fo_run, den_headings, g_EMPTY, g_END, g_SLASH, g_PART_SLASH, i5, gt_BY_SLASH, gt_BY_BACKSLASH, atI, L2.ixN, hds, turn]
theorem at_cell_g (B : Gb w h cs) {c : Int} (c0 : 0 ≤ c) (c1 : c < w * h) : oIx [.tuple (cs.map .int), .int c] = .v (.int (el cs c)) := by
  have hl := B.len
  have hlt : c.toNat < cs.length := by omega
  have e : c = (c.toNat : Int) := by omega
  refine oIx_t ?_
  conv => lhs; rw [e]
  refine PD.atI_nat ?_
  unfold el
  rw [List.getD_eq_getElem?_getD, List.getElem?_map, List.getElem?_eq_getElem hlt]
  rfl
theorem goals_way (B : Bd w h cs) {c d : Int} (c0 : 0 ≤ c) (c1 : c < w * h) (d0 : 0 ≤ d) (d3 : d ≤ 3) (acc : List D) (ha : acc.length ≤ 1000) (b st ce hd e : D) (s10 s11 s13 s14 s15 : SV) : ∃ x13 x14 x15,
    lb__law_goals_1 [.val b, .val st, .val (.int w), .val (.int h), .val ce, .val (.int (c % w)), .val (.int (c / w)), .val hd, .val e, .own (.list acc), s10, s11, .val (.int d), s13, s14, s15] =
    .nx [.val b, .val st, .val (.int w), .val (.int h), .val ce, .val (.int (c % w)), .val (.int (c / w)), .val hd, .val e, .own (.list (acc ++ [nxl (mv w h c d)])), s10, s11, .val (.int d), x13, x14, x15] := by
  have ml := mv_law B c0 c1 d0 d3
  have w1 := B.w1
  have w2 := B.w2
  have em : ∀ x : Int, oMul [.int x, .int w] = .v (.int (x * w)) := fun x => oMul_r (by omega) (by omega)
  have lo := law_out_t B (c % w + dX d) (c / w + dY d)
  have hal : acc.length < 100000 := by omega
  have ix : oIx [.tuple [.int 0, .int 1, .int 0, .int (-1)], .int d] = .v (.int (dX d)) := by
    have hd : d = 0 ∨ d = 1 ∨ d = 2 ∨ d = 3 := by omega
    rcases hd with rfl | rfl | rfl | rfl <;> rfl
  have iy : oIx [.tuple [.int (-1), .int 0, .int 1, .int 0], .int d] = .v (.int (dY d)) := by
    have hd : d = 0 ∨ d = 1 ∨ d = 2 ∨ d = 3 := by omega
    rcases hd with rfl | rfl | rfl | rfl <;> rfl
  refine ⟨.val (.int (c % w + dX d)), .val (.int (c / w + dY d)), .val (.bool (decide ((0 ≤ c % w + dX d ∧ c % w + dX d < w) ∧ 0 ≤ c / w + dY d ∧ c / w + dY d < h))), ?_⟩
  generalize (if c / w + dY d < 0 then c % w + dX d else if w ≤ c % w + dX d then w + (c / w + dY d) else if h ≤ c / w + dY d then w + h + (c % w + dX d) else 2 * w + h + (c / w + dY d)) = P at lo ml
  rw [ml]
  by_cases q1 : 0 ≤ c % w + dX d
  case neg => simp [lb__law_goals_1, ix, iy, q1, lo, mAppend_l, nxl, hal]
  case pos =>
    by_cases q2 : c % w + dX d < w
    case neg => simp [lb__law_goals_1, ix, iy, q1, q2, lo, mAppend_l, nxl, hal]
    case pos =>
      by_cases q3 : 0 ≤ c / w + dY d
      case neg => simp [lb__law_goals_1, ix, iy, q1, q2, q3, lo, mAppend_l, nxl, hal]
      case pos =>
        by_cases q4 : c / w + dY d < h
        case neg => simp [lb__law_goals_1, ix, iy, q1, q2, q3, q4, lo, mAppend_l, nxl, hal]
        case pos => simp [lb__law_goals_1, ix, iy, q1, q2, q3, q4, lo, em, mAppend_l, nxl, stD, hal]
theorem getHg (d e : Int) (e0 : 0 ≤ e) (e5 : e ≤ 5) : lookD (mergeD [] [(.inl 0, .list [.int d]), (.inl 3, .list [])]) (.int e) = some (if e = 0 then some (.list [.int d]) else if e = 3 then some (.list []) else none) := by
  have he : e = 0 ∨ e = 1 ∨ e = 2 ∨ e = 3 ∨ e = 4 ∨ e = 5 := by omega
  rcases he with rfl | rfl | rfl | rfl | rfl | rfl <;> rfl
theorem law_goals_g (B : Gb w h cs) {s : Bm.St} (v : Vl w h s) : fo (f__law_goals [brd w h cs, stD s]) = .ret (.list ((nxs w h cs s).map nxl)) := by
  have w1 := B.w1
  have w2 := B.w2
  obtain ⟨c, d⟩ := s
  obtain ⟨c0, c1, d0, d3⟩ := v
  simp only at c0 c1 d0 d3
  obtain ⟨e0, e5⟩ := B.cell c0 c1
  have a1 := at_cell_g B c0 c1
  have ed : oDiv [.int c, .int w] = .v (.int (c / w)) := by rw [← fdivE c w1]; exact oDiv_i (by omega) (by omega)
  have eo : oMod [.int c, .int w] = .v (.int (c % w)) := by rw [oMod_i, if_pos (by omega), fmodE c w1]
  have i0 : oIx [.tuple [.int c, .int d], .int 0] = .v (.int c) := rfl
  have i1 : oIx [.tuple [.int c, .int d], .int 1] = .v (.int d) := rfl
  have pr : prs [.int 0, .list [.int d], .int 3, .list []] = some [(.inl 0, .list [.int d]), (.inl 3, .list [])] := rfl
  have gt := getHg d (el cs c) e0 e5
  have isl := inSl (el cs c)
  unfold nxs
  simp only
  generalize el cs c = e at *
  have he : e = 0 ∨ e = 1 ∨ e = 2 ∨ e = 3 ∨ e = 4 ∨ e = 5 := by omega
  have way := fun (d' : Int) (h0 : 0 ≤ d') (h3 : d' ≤ 3) (acc : List D) (ha : acc.length ≤ 1000) => goals_way B.bd c0 c1 h0 h3 acc ha (brd w h cs) (stD (c, d)) (.tuple (cs.map .int)) (.int d) (.int e)
  have l1 := law_turn_t 1 d (by omega) d0 d3
  have l2 := law_turn_t 2 d (by omega) d0 d3
  obtain ⟨t0, t3⟩ := turn_rng 1 d d0 d3
  obtain ⟨u0, u3⟩ := turn_rng 2 d d0 d3
  rcases he with rfl | rfl | rfl | rfl | rfl | rfl
  · obtain ⟨x1, x2, x3, hb⟩ := way d d0 d3 [] (by simp) (.val (.list [.int d])) .no .no .no .no
    simp only [brd, stD, List.nil_append] at hb
    simp [f__law_goals, fo_run, den__law_goals, brd, stD, a1, ed, eo, i0, i1, pr, gt, forL, hb, hds]
  · obtain ⟨x1, x2, x3, hb⟩ := way (turn 1 d) t0 t3 [] (by simp) (.val (.list [.int (turn 1 d)])) (.val (.int (turn 1 d))) .no .no .no
    simp only [brd, stD, List.nil_append] at hb
    simp at isl
    simp [f__law_goals, fo_run, den__law_goals, brd, stD, a1, ed, eo, i0, i1, pr, gt, forL, hb, l1, isl, hds]
  · obtain ⟨x1, x2, x3, hb⟩ := way (turn 2 d) u0 u3 [] (by simp) (.val (.list [.int (turn 2 d)])) (.val (.int (turn 2 d))) .no .no .no
    simp only [brd, stD, List.nil_append] at hb
    simp at isl
    simp [f__law_goals, fo_run, den__law_goals, brd, stD, a1, ed, eo, i0, i1, pr, gt, forL, hb, l2, isl, hds]
  · simp [f__law_goals, fo_run, den__law_goals, brd, stD, a1, ed, eo, i0, i1, pr, gt, forL, hds]
  · obtain ⟨x1, x2, x3, hb⟩ := way d d0 d3 [] (by simp) (.val (.list [.int d, .int (turn 1 d)])) (.val (.int (turn 1 d))) .no .no .no
    obtain ⟨y1, y2, y3, hb2⟩ := way (turn 1 d) t0 t3 [nxl (mv w h c d)] (by simp) (.val (.list [.int d, .int (turn 1 d)])) (.val (.int (turn 1 d))) x1 x2 x3
    simp only [brd, stD, List.nil_append, List.singleton_append] at hb hb2
    simp at isl
    simp [f__law_goals, fo_run, den__law_goals, brd, stD, a1, ed, eo, i0, i1, pr, gt, forL, hb, hb2, l1, isl, hds]
  · obtain ⟨x1, x2, x3, hb⟩ := way d d0 d3 [] (by simp) (.val (.list [.int d, .int (turn 2 d)])) (.val (.int (turn 2 d))) .no .no .no
    obtain ⟨y1, y2, y3, hb2⟩ := way (turn 2 d) u0 u3 [nxl (mv w h c d)] (by simp) (.val (.list [.int d, .int (turn 2 d)])) (.val (.int (turn 2 d))) x1 x2 x3
    simp only [brd, stD, List.nil_append, List.singleton_append] at hb hb2
    simp at isl
    simp [f__law_goals, fo_run, den__law_goals, brd, stD, a1, ed, eo, i0, i1, pr, gt, forL, hb, hb2, l2, isl, hds]
end
end G

set_option Elab.async false
set_option linter.all false
set_option maxRecDepth 100000
set_option maxHeartbeats 2000000
/-! PuDk: dicts with states and with numbers as keys (the first part as in PuG). -/
namespace Bm
/-- a set as a list in the order of coming -/
def ins (K : List St) (s : St) : List St := if s ∈ K then K else K ++ [s]
theorem ins_mem {K : List St} {s t : St} : t ∈ ins K s ↔ t ∈ K ∨ t = s := by
  unfold ins
  split
  · exact ⟨.inl, fun h => h.elim id fun e => e ▸ (by assumption)⟩
  · simp
theorem ins_nodup {K : List St} {s : St} (h : K.Nodup) : (ins K s).Nodup := by
  unfold ins
  split
  · exact h
  · rename_i hs
    exact List.nodup_append.mpr ⟨h, List.nodup_cons.mpr ⟨by simp, List.nodup_nil⟩, fun a ha b hb => by rw [List.mem_singleton.mp hb]; rintro rfl; exact hs ha⟩
end Bm
namespace G
open PySem PySem.Spec PyProof.Rows L2 PD Bm
def enc (K : List Bm.St) : List (D × D) := K.map fun s => (stD s, .bool true)
def dk (K : List Bm.St) : D := .dict ((.none, .none) :: enc K)
def kSt (s : Bm.St) : List Ke := [.inl s.1, .inl s.2]
theorem dec_st (s : Bm.St) : decT (stD s) = some (kSt s) := rfl
theorem kSt_inj {s t : Bm.St} : kSt s = kSt t ↔ s = t := by
  refine ⟨fun e => ?_, fun e => by rw [e]⟩
  unfold kSt at e
  simp at e
  exact Prod.ext e.1 e.2
theorem get_enc (s : Bm.St) : ∀ K : List Bm.St, getE decT (enc K) (kSt s) = if s ∈ K then some (.bool true) else none
  | [] => rfl
  | t :: K => by
    have ih := get_enc s K
    unfold getE enc at ih ⊢
    rw [List.map_cons, List.find?_cons]
    simp only [dec_st, Option.some.injEq, kSt_inj]
    by_cases h : t = s
    · subst h; simp
    · have h' : ¬ s = t := fun e => h e.symm
      simp only [h, decide_false]
      rw [ih]
      simp [h']
theorem look_st (s : Bm.St) (K : List Bm.St) : lookD ((.none, .none) :: enc K) (stD s) = some (if s ∈ K then some (.bool true) else none) := by
  have : lookD ((.none, .none) :: enc K) (stD s) = some (getE decT (enc K) (kSt s)) := rfl
  rw [this, get_enc]
theorem put_enc (s : Bm.St) (K : List Bm.St) : putE kT decT (enc K) (kSt s) (.bool true) = enc (ins K s) := by
  unfold putE ins
  have ha : ((enc K).any fun p => decide (decT p.1 = some (kSt s))) = decide (s ∈ K) := by
    rw [Bool.eq_iff_iff, List.any_eq_true, decide_eq_true_iff]
    unfold enc
    refine ⟨fun ⟨x, hx, e⟩ => ?_, fun hs => ⟨(stD s, .bool true), List.mem_map.mpr ⟨s, hs, rfl⟩, by simp [dec_st]⟩⟩
    obtain ⟨t, ht, rfl⟩ := List.mem_map.mp hx
    simp only [dec_st, Option.some.injEq, kSt_inj, decide_eq_true_iff] at e
    rw [← e]; exact ht
  rw [ha]
  by_cases h : s ∈ K
  · rw [if_pos (decide_eq_true h), if_pos h]
    refine (List.map_congr_left fun p hp => ?_).trans (List.map_id _)
    obtain ⟨t, _, rfl⟩ := List.mem_map.mp hp
    split <;> rfl
  · rw [if_neg (by simpa using h), if_neg h]
    unfold enc
    rw [List.map_append]
    rfl
theorem putD_st (s : Bm.St) (K : List Bm.St) : putD ((.none, .none) :: enc K) (stD s) (.bool true) = some ((.none, .none) :: enc (ins K s)) := by
  have : putD ((.none, .none) :: enc K) (stD s) (.bool true) = some ((.none, .none) :: putE kT decT (enc K) (kSt s) (.bool true)) := rfl
  rw [this, put_enc]
/-! numbers as keys -/
def encI (ks : List Int) : List (D × D) := ks.map fun k => (.int k, .bool true)
def addK (ks : List Int) (k : Int) : List Int := if k ∈ ks then ks else ks ++ [k]
theorem addK_mem {ks : List Int} {k g : Int} : g ∈ addK ks k ↔ g ∈ ks ∨ g = k := by
  unfold addK
  split
  · exact ⟨.inl, fun h => h.elim id fun e => e ▸ (by assumption)⟩
  · simp
theorem addK_nodup {ks : List Int} {k : Int} (h : ks.Nodup) : (addK ks k).Nodup := by
  unfold addK
  split
  · exact h
  · rename_i hs
    exact List.nodup_append.mpr ⟨h, List.nodup_cons.mpr ⟨by simp, List.nodup_nil⟩, fun a ha b hb => by rw [List.mem_singleton.mp hb]; rintro rfl; exact hs ha⟩
theorem tk_int (t : Int) : toKey (.int t) = some (.inl t) := rfl
theorem get_encI (k : Int) : ∀ ks : List Int, getE toKey (encI ks) (.inl k) = if k ∈ ks then some (.bool true) else none
  | [] => rfl
  | t :: ks => by
    have ih := get_encI k ks
    unfold getE encI at ih ⊢
    rw [List.map_cons, List.find?_cons]
    simp only [tk_int, Option.some.injEq, Sum.inl.injEq]
    by_cases h : t = k
    · subst h; simp
    · have h' : ¬ k = t := fun e => h e.symm
      simp only [h, decide_false]
      rw [ih]
      simp [h']
theorem lookD_i (es : List (D × D)) (k : Int) (h : ∀ m es', es ≠ (.none, m) :: es') : lookD es (.int k) = some (getE toKey es (.inl k)) := by
  unfold lookD
  split
  · rename_i m es'
    exact absurd rfl (h _ _)
  · rfl
theorem encI_h (ks : List Int) : ∀ m es', encI ks ≠ (.none, m) :: es' := by
  intro m es'
  cases ks with
  | nil => intro e; cases e
  | cons k ks => intro e; unfold encI at e; rw [List.map_cons] at e; injection e with e _; injection e with e _; cases e
theorem look_i (k : Int) (ks : List Int) : lookD (encI ks) (.int k) = some (if k ∈ ks then some (.bool true) else none) := by
  rw [lookD_i _ _ (encI_h ks), get_encI]
theorem put_encI (k : Int) (ks : List Int) : putE kD toKey (encI ks) (.inl k) (.bool true) = encI (addK ks k) := by
  unfold putE addK
  have ha : ((encI ks).any fun p => decide (toKey p.1 = some (.inl k))) = decide (k ∈ ks) := by
    rw [Bool.eq_iff_iff, List.any_eq_true, decide_eq_true_iff]
    unfold encI
    refine ⟨fun ⟨x, hx, e⟩ => ?_, fun hs => ⟨(.int k, .bool true), List.mem_map.mpr ⟨k, hs, rfl⟩, by simp [tk_int]⟩⟩
    obtain ⟨t, ht, rfl⟩ := List.mem_map.mp hx
    simp only [tk_int, Option.some.injEq, Sum.inl.injEq, decide_eq_true_iff] at e
    rw [← e]; exact ht
  rw [ha]
  by_cases h : k ∈ ks
  · rw [if_pos (decide_eq_true h), if_pos h]
    refine (List.map_congr_left fun p hp => ?_).trans (List.map_id _)
    obtain ⟨t, _, rfl⟩ := List.mem_map.mp hp
    split <;> rfl
  · rw [if_neg (by simpa using h), if_neg h]
    unfold encI
    rw [List.map_append]
    rfl
theorem putD_i (k : Int) (ks : List Int) : putD (encI ks) (.int k) (.bool true) = some (encI (addK ks k)) := by
  have : putD (encI ks) (.int k) (.bool true) = some (putE kD toKey (encI ks) (.inl k) (.bool true)) := by
    unfold putD
    split
    · rename_i m es' e
      exact absurd e (encI_h ks _ _)
    · rfl
  rw [this, put_encI]
theorem keys_i (ks : List Int) : (encI ks).map (·.1) = ks.map .int := by
  unfold encI
  rw [List.map_map]
  rfl
end G

set_option Elab.async false
set_option linter.all false
set_option maxRecDepth 100000
set_option maxHeartbeats 4000000
/-! PuHr: outs: all ports that beams come out of, boards with parters. -/
namespace Bm
/-- one way on: a port found, or a state to be looked at -/
def wayK (a : List Int × List St) : Nx → List Int × List St
  | .out g => (G.addK a.1 g, a.2)
  | .st t => (a.1, a.2 ++ [t])
/-- what holds between two looks -/
structure Look (w h : Int) (cs : List Int) (P : List St) (ks : List Int) (seen line : List St) : Prop where
  sv : ∀ s ∈ seen, Rch w h cs P s
  lv : ∀ s ∈ line, Rch w h cs P s
  st : ∀ s ∈ seen, ∀ t, .st t ∈ nxs w h cs s → t ∈ seen ∨ t ∈ line
  out : ∀ s ∈ seen, ∀ g, .out g ∈ nxs w h cs s → g ∈ ks
  ini : ∀ s ∈ P, s ∈ seen ∨ s ∈ line
  kv : ∀ g ∈ ks, Outs w h cs P g
  kn : ks.Nodup
  sn : seen.Nodup
section
variable {w h : Int} {cs : List Int} {P : List St}
theorem wayK_mem (N : List Nx) : ∀ (a : List Int × List St), (∀ g, g ∈ (N.foldl wayK a).1 ↔ g ∈ a.1 ∨ .out g ∈ N) ∧ (∀ t, t ∈ (N.foldl wayK a).2 ↔ t ∈ a.2 ∨ .st t ∈ N) ∧ (a.1.Nodup → (N.foldl wayK a).1.Nodup) ∧ (N.foldl wayK a).2.length ≤ a.2.length + N.length := by
  induction N with
  | nil => intro a; simp
  | cons x N ih =>
    intro a
    rw [List.foldl_cons]
    obtain ⟨i1, i2, i3, i4⟩ := ih (wayK a x)
    cases x with
    | out p =>
      refine ⟨fun g => ?_, fun t => ?_, fun hn => i3 (G.addK_nodup hn), ?_⟩
      · rw [i1, List.mem_cons]
        simp only [wayK, G.addK_mem, Nx.out.injEq]
        exact or_assoc
      · rw [i2, List.mem_cons]
        simp [wayK]
      · simp only [wayK, List.length_cons] at i4 ⊢
        omega
    | st p =>
      refine ⟨fun g => ?_, fun t => ?_, fun hn => i3 hn, ?_⟩
      · rw [i1, List.mem_cons]
        simp [wayK]
      · rw [i2, List.mem_cons]
        simp only [wayK, List.mem_append, List.mem_singleton, Nx.st.injEq]
        exact or_assoc
      · simp only [wayK, List.length_append, List.length_cons, List.length_nil] at i4 ⊢
        omega
theorem Look.skip {ks : List Int} {seen line : List St} {s : St} (L : Look w h cs P ks seen (line ++ [s])) (hs : s ∈ seen) : Look w h cs P ks seen line where
  sv := L.sv
  lv := fun t ht => L.lv t (List.mem_append_left _ ht)
  st := fun u hu t ht => by
    rcases L.st u hu t ht with q | q
    · exact .inl q
    · rcases List.mem_append.mp q with q | q
      · exact .inr q
      · rw [List.mem_singleton.mp q]; exact .inl hs
  out := L.out
  ini := fun u hu => by
    rcases L.ini u hu with q | q
    · exact .inl q
    · rcases List.mem_append.mp q with q | q
      · exact .inr q
      · rw [List.mem_singleton.mp q]; exact .inl hs
  kv := L.kv
  kn := L.kn
  sn := L.sn
theorem Look.add {ks : List Int} {seen line : List St} {s : St} (L : Look w h cs P ks seen (line ++ [s])) (hs : s ∉ seen) : Look w h cs P ((nxs w h cs s).foldl wayK (ks, line)).1 (seen ++ [s]) ((nxs w h cs s).foldl wayK (ks, line)).2 := by
  obtain ⟨i1, i2, i3, _⟩ := wayK_mem (nxs w h cs s) (ks, line)
  have rs := L.lv s (by simp)
  refine ⟨fun u hu => ?_, fun u hu => ?_, fun u hu t ht => ?_, fun u hu g hg => ?_, fun u hu => ?_, fun g hg => ?_, i3 L.kn, ?_⟩
  · rcases List.mem_append.mp hu with hu | hu
    · exact L.sv u hu
    · rw [List.mem_singleton.mp hu]; exact rs
  · rcases (i2 u).mp hu with hu | hu
    · exact L.lv u (List.mem_append_left _ hu)
    · exact .on rs hu
  · rcases List.mem_append.mp hu with hu | hu
    · rcases L.st u hu t ht with q | q
      · exact .inl (List.mem_append_left _ q)
      · rcases List.mem_append.mp q with q | q
        · exact .inr ((i2 t).mpr (.inl q))
        · exact .inl (List.mem_append_right _ q)
    · rw [List.mem_singleton.mp hu] at ht
      exact .inr ((i2 t).mpr (.inr ht))
  · rcases List.mem_append.mp hu with hu | hu
    · exact (i1 g).mpr (.inl (L.out u hu g hg))
    · rw [List.mem_singleton.mp hu] at hg
      exact (i1 g).mpr (.inr hg)
  · rcases L.ini u hu with q | q
    · exact .inl (List.mem_append_left _ q)
    · rcases List.mem_append.mp q with q | q
      · exact .inr ((i2 u).mpr (.inl q))
      · exact .inl (List.mem_append_right _ q)
  · rcases (i1 g).mp hg with hg | hg
    · exact L.kv g hg
    · exact ⟨s, rs, hg⟩
  · exact List.nodup_append.mpr ⟨L.sn, by simp, fun a ha b hb => by rw [List.mem_singleton.mp hb]; rintro rfl; exact hs ha⟩
/-- at the end all is found -/
theorem Look.done {ks : List Int} {seen : List St} (L : Look w h cs P ks seen []) : (∀ s, s ∈ seen ↔ Rch w h cs P s) ∧ ∀ g, g ∈ ks ↔ Outs w h cs P g := by
  have all : ∀ s, Rch w h cs P s → s ∈ seen := fun s r => r.sub (S := fun s => s ∈ seen) (fun s hs => (L.ini s hs).resolve_right (by simp)) fun s t hs ht => (L.st s hs t ht).resolve_right (by simp)
  exact ⟨fun s => ⟨L.sv s, all s⟩, fun g => ⟨L.kv g, fun ⟨s, r, hm⟩ => L.out s (all s r) g hm⟩⟩
theorem Look.small (B : Gb w h cs) (hP : ∀ s ∈ P, Vl w h s) {ks : List Int} {seen line : List St} (L : Look w h cs P ks seen line) : (seen.length : Int) ≤ 4 * (w * h) ∧ ks.length ≤ 32 := by
  have w2 := B.w2; have h2 := B.h2
  refine ⟨many_le B.bd L.sn fun s hs => (L.sv s hs).vl B hP, ?_⟩
  have q := nodup_le 32 (ks.map Int.toNat) (by
    unfold List.Nodup
    rw [List.pairwise_map]
    refine List.Pairwise.imp_of_mem ?_ L.kn
    intro a b ha hb hne e
    have := (L.kv a ha).rng B hP
    have := (L.kv b hb).rng B hP
    omega) fun x hx => by
      obtain ⟨g, hg, rfl⟩ := List.mem_map.mp hx
      have := (L.kv g hg).rng B hP
      omega
  simpa using q
theorem Gb.area (B : Gb w h cs) : w * h ≤ 64 := by
  have := Int.mul_le_mul B.w2 B.h2 (by have := B.h1; omega) (by decide)
  omega
end
end Bm
namespace G
open PySem PySem.Spec PyProof.Rows L2 PD Bm
section
variable {w h : Int} {cs : List Int} {P : List Bm.St}
theorem outs_way (B : Gb w h cs) {s : Bm.St} (d : Int) (d0 : 0 ≤ d) (d3 : d ≤ 3) (ks : List Int) (line : List Bm.St) (hk : ks.length ≤ 1000) (hl : line.length ≤ 1000) (x1 x3 s7 s8 s9 : SV) :
    ∃ y7 y8, lb_outs_2 [.val (brd w h cs), x1, .own (.dict (encI ks)), x3, .own (.list (line.map stD)), .val (stD s), .val (.int d), s7, s8, s9] =
      .nx [.val (brd w h cs), x1, .own (.dict (encI (wayK (ks, line) (mv w h s.1 d)).1)), x3, .own (.list ((wayK (ks, line) (mv w h s.1 d)).2.map stD)), .val (stD s), .val (.int d), y7, y8, s9] := by
  have e := onward_t B.bd s.1 d d0 d3
  have i0 : oIx [stD s, .int 0] = .v (.int s.1) := rfl
  have b0 : oIx [brd w h cs, .int 0] = .v (.int w) := rfl
  have b1 : oIx [brd w h cs, .int 1] = .v (.int h) := rfl
  cases hm : mv w h s.1 d with
  | out g =>
    rw [hm] at e
    have pd := putD_i g ks
    have hk2 : (encI ks).length < 100000 := by unfold encI; rw [List.length_map]; omega
    refine ⟨.val .none, .val (.int g), ?_⟩
    simp [lb_outs_2, b0, b1, i0, e, nxD, pd, hk2, wayK]
  | st t =>
    rw [hm] at e
    have ap := mAppend_l (ds := line.map stD) (stD t) (by rw [List.length_map]; omega)
    refine ⟨.val (.int t.1), .val (.int t.2), ?_⟩
    have ap' : mAppend (.list (line.map stD)) [.tuple [.int t.1, .int t.2]] = some (.none, .list (line.map stD ++ [stD t])) := ap
    simp [lb_outs_2, b0, b1, i0, e, nxD, wayK, ap']
theorem outs_ways (B : Gb w h cs) {s : Bm.St} : ∀ (ds : List Int), (∀ d ∈ ds, 0 ≤ d ∧ d ≤ 3) → ds.length ≤ 10 → ∀ (ks : List Int) (line : List Bm.St) (x1 x3 s6 s7 s8 s9 : SV), ks.length + ds.length ≤ 900 → line.length + ds.length ≤ 900 →
    ∃ y6 y7 y8, forL (gN 6) lb_outs_2 (ds.map .int) [.val (brd w h cs), x1, .own (.dict (encI ks)), x3, .own (.list (line.map stD)), .val (stD s), s6, s7, s8, s9] =
      .nx [.val (brd w h cs), x1, .own (.dict (encI ((ds.map (mv w h s.1)).foldl wayK (ks, line)).1)), x3, .own (.list (((ds.map (mv w h s.1)).foldl wayK (ks, line)).2.map stD)), .val (stD s), y6, y7, y8, s9]
  | [], _, _, ks, line, x1, x3, s6, s7, s8, s9, _, _ => ⟨s6, s7, s8, rfl⟩
  | d :: ds, hd, hl, ks, line, x1, x3, s6, s7, s8, s9, h1, h2 => by
    simp only [List.length_cons] at h1 h2 hl
    obtain ⟨d0, d3⟩ := hd d List.mem_cons_self
    obtain ⟨y7, y8, e⟩ := outs_way B (s := s) d d0 d3 ks line (by omega) (by omega) x1 x3 s7 s8 s9
    have hw : (wayK (ks, line) (mv w h s.1 d)).1.length ≤ ks.length + 1 ∧ (wayK (ks, line) (mv w h s.1 d)).2.length ≤ line.length + 1 := by
      cases mv w h s.1 d with
      | out g =>
        refine ⟨?_, by simp [wayK]⟩
        simp only [wayK, addK]
        split <;> simp
      | st t => simp [wayK]
    obtain ⟨z6, z7, z8, q⟩ := outs_ways B (s := s) ds (fun x hx => hd x (List.mem_cons_of_mem _ hx)) (by omega) (wayK (ks, line) (mv w h s.1 d)).1 (wayK (ks, line) (mv w h s.1 d)).2 x1 x3 (.val (.int d)) y7 y8 s9 (by omega) (by omega)
    refine ⟨z6, z7, z8, ?_⟩
    rw [List.map_cons, forL_nx (ρ1 := [.val (brd w h cs), x1, .own (.dict (encI ks)), x3, .own (.list (line.map stD)), .val (stD s), .val (.int d), s7, s8, s9]) rfl e, q]
    rw [List.map_cons, List.foldl_cons]
theorem mPop_st (line : List Bm.St) (s : Bm.St) : mPop (.list (line.map stD ++ [stD s])) [] = some (stD s, .list (line.map stD)) := by
  simp [mPop]
theorem outs_look (B : Gb w h cs) (hP : ∀ s ∈ P, Vl w h s) {ks : List Int} {seen line : List Bm.St} {s : Bm.St} (L : Look w h cs P ks seen (line ++ [s])) (hl : line.length ≤ 800) (x1 s5 s6 s7 s8 s9 : SV) :
    ∃ y6 y7 y8, lb_outs_3 [.val (brd w h cs), x1, .own (.dict (encI ks)), .own (dk seen), .own (.list ((line ++ [s]).map stD)), s5, s6, s7, s8, s9] =
      (if s ∈ seen then .nx [.val (brd w h cs), x1, .own (.dict (encI ks)), .own (dk seen), .own (.list (line.map stD)), .val (stD s), s6, s7, s8, s9]
      else .nx [.val (brd w h cs), x1, .own (.dict (encI ((nxs w h cs s).foldl wayK (ks, line)).1)), .own (dk (seen ++ [s])), .own (.list (((nxs w h cs s).foldl wayK (ks, line)).2.map stD)), .val (stD s), y6, y7, y8, s9]) := by
  have v := (L.lv s (by simp)).vl B hP
  obtain ⟨q1, q2⟩ := L.small B hP
  have ha := B.area
  have pop := mPop_st line s
  have lk := look_st s seen
  have ni : oDNotIn [stD s, dk seen] = .v (.bool (!decide (s ∈ seen))) := by
    unfold oDNotIn dk
    simp only
    rw [lk]
    by_cases hs : s ∈ seen <;> simp [hs]
  by_cases hs : s ∈ seen
  · rw [decide_eq_true hs] at ni
    refine ⟨s6, s7, s8, ?_⟩
    rw [if_pos hs]
    simp [lb_outs_3, pop, ni]
  · rw [decide_eq_false hs] at ni
    have pd := putD_st s seen
    rw [ins, if_neg hs] at pd
    have hk : (enc seen).length + 1 < 100000 := by unfold enc; rw [List.length_map]; omega
    obtain ⟨e0, e5⟩ := B.cell v.1 v.2.1
    have eh := headings_g (el cs s.1) s.2 e0 e5 v.2.2.1 v.2.2.2
    have ac := at_cell_g B v.1 v.2.1
    have b2 : oIx [brd w h cs, .int 2] = .v (.tuple (cs.map .int)) := rfl
    have i0 : oIx [stD s, .int 0] = .v (.int s.1) := rfl
    have i1 : oIx [stD s, .int 1] = .v (.int s.2) := rfl
    have hh := hds_len (el cs s.1) s.2
    obtain ⟨y6, y7, y8, q⟩ := outs_ways B (s := s) (hds (el cs s.1) s.2) (hds_rng v.2.2.1 v.2.2.2) (by omega) ks line x1 (.own (dk (seen ++ [s]))) s6 s7 s8 s9 (by omega) (by omega)
    refine ⟨y6, y7, y8, ?_⟩
    rw [if_neg hs]
    have q' : forL (gN 6) lb_outs_2 ((hds (el cs s.1) s.2).map .int) [.val (brd w h cs), x1, .own (.dict (encI ks)), .own (dk (seen ++ [s])), .own (.list (line.map stD)), .val (stD s), s6, s7, s8, s9] = .nx [.val (brd w h cs), x1, .own (.dict (encI ((nxs w h cs s).foldl wayK (ks, line)).1)), .own (dk (seen ++ [s])), .own (.list (((nxs w h cs s).foldl wayK (ks, line)).2.map stD)), .val (stD s), y6, y7, y8, s9] := q
    unfold dk at ni q' ⊢
    simp [lb_outs_3, pop, ni, pd, hk, b2, i0, i1, ac, eh, q']
theorem outs_test (b x1 x2 x3 : SV) (line : List Bm.St) (s5 s6 s7 s8 s9 : SV) : lt_outs_4 [b, x1, x2, x3, .own (.list (line.map stD)), s5, s6, s7, s8, s9] = .ok (decide (line ≠ [])) [b, x1, x2, x3, .own (.list (line.map stD)), s5, s6, s7, s8, s9] := by
  cases line <;> simp [lt_outs_4]
theorem outs_loop (B : Gb w h cs) (hP : ∀ s ∈ P, Vl w h s) (hPl : P.length ≤ 100) : ∀ (m : Nat) (ks : List Int) (seen line : List Bm.St), Look w h cs P ks seen line → 3 * (256 - seen.length) + line.length ≤ m → line.length ≤ P.length + 2 * seen.length → ∀ (x1 s5 s6 s7 s8 s9 : SV),
    ∃ ks' seen' y5 y6 y7 y8, Look w h cs P ks' seen' [] ∧ sWh lt_outs_4 lb_outs_3 [.val (brd w h cs), x1, .own (.dict (encI ks)), .own (dk seen), .own (.list (line.map stD)), s5, s6, s7, s8, s9] =
      .nx [.val (brd w h cs), x1, .own (.dict (encI ks')), .own (dk seen'), .own (.list []), y5, y6, y7, y8, s9] := by
  intro m
  induction m with
  | zero =>
    intro ks seen line L hm hb x1 s5 s6 s7 s8 s9
    have : line = [] := List.length_eq_zero_iff.mp (by omega)
    subst this
    refine ⟨ks, seen, s5, s6, s7, s8, L, ?_⟩
    rw [sWh_eq, outs_test]
    simp
  | succ m ih =>
    intro ks seen line L hm hb x1 s5 s6 s7 s8 s9
    rcases List.eq_nil_or_concat line with hl | ⟨l, s, hl⟩
    · subst hl
      refine ⟨ks, seen, s5, s6, s7, s8, L, ?_⟩
      rw [sWh_eq, outs_test]
      simp
    · rw [List.concat_eq_append] at hl
      subst hl
      obtain ⟨q1, q2⟩ := L.small B hP
      have ha := B.area
      simp only [List.length_append, List.length_cons, List.length_nil] at hm hb
      obtain ⟨y6, y7, y8, e⟩ := outs_look B hP L (by omega) x1 s5 s6 s7 s8 s9
      by_cases hs : s ∈ seen
      · rw [if_pos hs] at e
        obtain ⟨ks', seen', z5, z6, z7, z8, L', q⟩ := ih ks seen l (L.skip hs) (by omega) (by omega) x1 (.val (stD s)) s6 s7 s8 s9
        refine ⟨ks', seen', z5, z6, z7, z8, L', ?_⟩
        rw [sWh_eq, outs_test, decide_eq_true (by simp)]
        simp only
        rw [e]
        simp only
        exact q
      · rw [if_neg hs] at e
        have L2 := L.add hs
        obtain ⟨r1, _⟩ := L2.small B hP
        obtain ⟨_, _, _, i4⟩ := wayK_mem (nxs w h cs s) (ks, l)
        have hn : (nxs w h cs s).length ≤ 2 := by unfold nxs; rw [List.length_map]; exact hds_len _ _
        simp only [List.length_append, List.length_cons, List.length_nil] at r1
        simp only at i4
        obtain ⟨ks', seen', z5, z6, z7, z8, L', q⟩ := ih _ _ _ L2 (by simp only [List.length_append, List.length_cons, List.length_nil]; omega) (by simp only [List.length_append, List.length_cons, List.length_nil]; omega) x1 (.val (stD s)) y6 y7 y8 s9
        refine ⟨ks', seen', z5, z6, z7, z8, L', ?_⟩
        rw [sWh_eq, outs_test, decide_eq_true (by simp)]
        simp only
        rw [e]
        simp only
        exact q
/-- all ports, by a tuple or a list of ports: a dict of the ports found -/
theorem outs_t (B : Gb w h cs) {ps : List Int} (hp : ∀ p ∈ ps, 0 ≤ p ∧ p < 2 * (w + h)) (hl : ps.length ≤ 100) (pd : D) (hpd : pd = .list (ps.map .int) ∨ pd = .tuple (ps.map .int)) :
    ∃ ks : List Int, ks.Nodup ∧ (∀ g, g ∈ ks ↔ Outs w h cs (ps.map (ent w h)) g) ∧ fo (f_outs [brd w h cs, pd]) = .ret (.dict (encI ks)) := by
  have hP : ∀ s ∈ ps.map (ent w h), Vl w h s := fun s hs => by
    obtain ⟨p, hm, rfl⟩ := List.mem_map.mp hs
    exact ent_vl B.bd (hp p hm).1 (hp p hm).2
  have b0 : oIx [brd w h cs, .int 0] = .v (.int w) := rfl
  have b1 : oIx [brd w h cs, .int 1] = .v (.int h) := rfl
  have e := dLc1y (di := dIt (dV 1)) (v := 9) (de := ce_outs_1) (ρ := [.val (brd w h cs), .val pd, .own (.dict (encI [])), .own (dk []), .no, .no, .no, .no, .no, .no]) (ρ1 := [.val (brd w h cs), .val pd, .own (.dict (encI [])), .own (dk []), .no, .no, .no, .no, .no, .no]) (x := pd) (ds := ps.map .int)
    (g := fun d => match d with | .int p => stD (ent w h p) | _ => .none) (by rcases hpd with rfl | rfl <;> simp) (by simp) (by simp; omega) (fun d hd => by
      obtain ⟨p, hm, rfl⟩ := List.mem_map.mp hd
      have q := entry_t B.bd p
      exact ⟨.t (.val (stD (ent w h p))), by simp [ce_outs_1, b0, b1, q], rfl⟩)
  have eL : (ps.map (PyData.int : Int → D)).map (fun d => match d with | .int p => stD (ent w h p) | _ => .none) = (ps.map (ent w h)).map stD := by
    rw [List.map_map, List.map_map]
    rfl
  have L : Look w h cs (ps.map (ent w h)) [] [] (ps.map (ent w h)) := ⟨fun _ h => (nomatch h), fun s hs => .here hs, fun _ h => (nomatch h), fun _ h => (nomatch h), fun s hs => .inr hs, fun _ h => (nomatch h), .nil, .nil⟩
  obtain ⟨ks, seen, y5, y6, y7, y8, L', q⟩ := outs_loop B hP (by simpa using hl) _ [] [] (ps.map (ent w h)) L (Nat.le_refl _) (by simp) (.val pd) .no .no .no .no .no
  refine ⟨ks, L'.kn, L'.done.2, ?_⟩
  have e' : dLc (dIt (dV 1)) [9] (gN 9) dYes ce_outs_1 [.val (brd w h cs), .val pd, .own (.dict []), .own (.dict [(.none, .none)]), .no, .no, .no, .no, .no, .no] = .ok (.t (.own (.list ((ps.map (ent w h)).map stD)))) [.val (brd w h cs), .val pd, .own (.dict []), .own (.dict [(.none, .none)]), .no, .no, .no, .no, .no, .no] := by
    rw [← eL]; exact e
  have q' : sWh lt_outs_4 lb_outs_3 [.val (brd w h cs), .val pd, .own (.dict []), .own (.dict [(.none, .none)]), .own (.list ((ps.map (ent w h)).map stD)), .no, .no, .no, .no, .no] = .nx [.val (brd w h cs), .val pd, .own (.dict (encI ks)), .own (dk seen), .own (.list []), y5, y6, y7, y8, .no] := q
  generalize (ps.map (ent w h)).map stD = M at e' q'
  simp [f_outs, fo_run, den_outs, e', q']
end
end G

set_option Elab.async false
set_option linter.all false
set_option maxRecDepth 100000
set_option maxHeartbeats 4000000
/-! PuHs: _law_reached, _law_outs, boards with parters. -/
namespace Bm
def stsOf (N : List Nx) : List St := N.filterMap fun x => match x with
  | .st t => some t
  | .out _ => none
def outOf (N : List Nx) : List Int := N.filterMap fun x => match x with
  | .st _ => none
  | .out g => some g
theorem outOf_mem {N : List Nx} {g : Int} : g ∈ outOf N ↔ .out g ∈ N := by
  unfold outOf
  rw [List.mem_filterMap]
  constructor
  · rintro ⟨x, hx, e⟩
    cases x with
    | st t => cases e
    | out p => cases e; exact hx
  · exact fun h => ⟨_, h, rfl⟩
theorem wayK_line (N : List Nx) : ∀ a : List Int × List St, (N.foldl wayK a).2 = a.2 ++ stsOf N := by
  induction N with
  | nil => intro a; simp [stsOf]
  | cons x N ih =>
    intro a
    rw [List.foldl_cons, ih]
    cases x with
    | out p => simp [wayK, stsOf]
    | st t => simp [wayK, stsOf]
section
variable {w h : Int} {cs : List Int} {P : List St}
theorem Look.same {ks : List Int} {seen line line' : List St} (L : Look w h cs P ks seen line) (e : ∀ s, s ∈ line ↔ s ∈ line') : Look w h cs P ks seen line' where
  sv := L.sv
  lv := fun s hs => L.lv s ((e s).mpr hs)
  st := fun u hu t ht => (L.st u hu t ht).imp id fun q => (e t).mp q
  out := L.out
  ini := fun u hu => (L.ini u hu).imp id fun q => (e u).mp q
  kv := L.kv
  kn := L.kn
  sn := L.sn
end
end Bm
namespace G
open PySem PySem.Spec PyProof.Rows L2 PD Bm
theorem okIs_stG (l : List Bm.St) : okIs 1 (l.map stD) = true := okIs_all.mpr fun d hd => by
  obtain ⟨s, _, rfl⟩ := List.mem_map.mp hd
  rfl
theorem stD_injG {s t : Bm.St} (e : stD s = stD t) : s = t := by
  unfold stD at e
  simp at e
  exact Prod.ext e.1 e.2
theorem notIn_stG (s : Bm.St) (l : List Bm.St) : oNotIn [stD s, .list (l.map stD)] = .v (.bool (!decide (s ∈ l))) := by
  rw [oNotIn_l (n := 1) rfl (okIs_stG l) (by decide)]
  congr 3
  refine decide_eq_decide.mpr ⟨fun hm => ?_, fun hs => List.mem_map.mpr ⟨s, hs, rfl⟩⟩
  obtain ⟨t, ht, e⟩ := List.mem_map.mp hm
  exact stD_injG e ▸ ht
theorem oNe_nilG (ds : List D) (hd : okIs 2 ds = true) : oNe [.list ds, .list []] = .v (.bool (!decide (ds = []))) := by
  have h1 : okI 3 (.list ds) = true := by simpa [okI] using hd
  have h2 : okI 3 (.list ([] : List D)) = true := by simp [okI, okIs]
  rw [oNe_ok h1 h2 (by decide)]
  by_cases hz : ds = []
  · subst hz; simp
  · have hn : (.list ds : D) ≠ .list [] := fun e => hz (by injection e)
    simp [hz, hn]
theorem oAdd_ls (a b : List D) (h : a.length + b.length ≤ 100000) : oAdd [.list a, .list b] = .n (.list (a ++ b)) := by
  simp only [oAdd, vOr, oI0, oAddS, oAddT, oAddL, h, if_true]
theorem mPopAt_st (line : List Bm.St) (s : Bm.St) : mPopAt (.list (stD s :: line.map stD)) [.int 0] = some (stD s, .list (line.map stD)) := by
  simp [mPopAt]
def tupB : D → Bool
  | .tuple _ => true
  | _ => false
def intB : D → Bool
  | .int _ => true
  | _ => false
def negD : D → D
  | .int g => .int (-1 - g)
  | _ => .none
theorem sts_map (N : List Nx) : ((N.map nxl).filter tupB).map (fun d => d) = (stsOf N).map stD := by
  rw [List.map_id']
  induction N with
  | nil => rfl
  | cons x N ih =>
    cases x with
    | out p =>
      rw [List.map_cons, List.filter_cons_of_neg (by simp [nxl, tupB]), ih]
      rfl
    | st t =>
      rw [List.map_cons, List.filter_cons_of_pos (by simp [nxl, tupB, stD]), ih]
      rfl
theorem outs_map (N : List Nx) : ((N.map nxl).filter intB).map negD = (outOf N).map .int := by
  induction N with
  | nil => rfl
  | cons x N ih =>
    cases x with
    | st t =>
      rw [List.map_cons, List.filter_cons_of_neg (by simp [nxl, intB, stD]), ih]
      rfl
    | out p =>
      rw [List.map_cons, List.filter_cons_of_pos (by simp [nxl, intB]), List.map_cons, ih]
      have : -1 - (-1 - p) = p := by omega
      simp [nxl, negD, outOf, this]
section
variable {w h : Int} {cs : List Int} {P : List Bm.St}
theorem lr_testG (b p f : SV) (line : List Bm.St) (s4 s5 : SV) : lt__law_reached_3 [b, p, f, .own (.list (line.map stD)), s4, s5] = .ok (decide (line ≠ [])) [b, p, f, .own (.list (line.map stD)), s4, s5] := by
  have q := oNe_nilG (line.map stD) (okIs_all.mpr fun d hd => by
    obtain ⟨s, _, rfl⟩ := List.mem_map.mp hd
    rfl)
  cases line with
  | nil => simp at q; simp [lt__law_reached_3, q]
  | cons s line => simp at q; simp [lt__law_reached_3, q]
theorem lr_look (B : Gb w h cs) (hP : ∀ s ∈ P, Vl w h s) {ks : List Int} {seen line : List Bm.St} {s : Bm.St} (L : Look w h cs P ks seen (s :: line)) (hl : line.length ≤ 800) (x1 s4 s5 : SV) :
    lb__law_reached_2 [.val (brd w h cs), x1, .own (.list (seen.map stD)), .own (.list ((s :: line).map stD)), s4, s5] =
      (if s ∈ seen then .nx [.val (brd w h cs), x1, .own (.list (seen.map stD)), .own (.list (line.map stD)), .val (stD s), s5]
      else .nx [.val (brd w h cs), x1, .own (.list ((seen ++ [s]).map stD)), .own (.list ((line ++ stsOf (nxs w h cs s)).map stD)), .val (stD s), s5]) := by
  have v := (L.lv s (by simp)).vl B hP
  obtain ⟨q1, q2⟩ := L.small B hP
  have ha := B.area
  have pop := mPopAt_st line s
  have ni := notIn_stG s seen
  by_cases hs : s ∈ seen
  · rw [decide_eq_true hs] at ni
    rw [if_pos hs]
    simp [lb__law_reached_2, pop, ni]
  · rw [decide_eq_false hs] at ni
    rw [if_neg hs]
    have eg := law_goals_g B v
    have hn : (nxs w h cs s).length ≤ 2 := by unfold nxs; rw [List.length_map]; exact hds_len _ _
    have ap := mAppend_l (ds := seen.map stD) (stD s) (by rw [List.length_map]; omega)
    have e := dLc1 (di := dIt (dCall f__law_goals (daC (dV 0) (daC (dV 4) daN)))) (v := 5) (dt := ct__law_reached_1) (de := dV 5) (ρ := [.val (brd w h cs), x1, .own (.list ((seen ++ [s]).map stD)), .own (.list (line.map stD)), .val (stD s), s5]) (ρ1 := [.val (brd w h cs), x1, .own (.list ((seen ++ [s]).map stD)), .own (.list (line.map stD)), .val (stD s), s5]) (x := .list ((nxs w h cs s).map nxl)) (ds := (nxs w h cs s).map nxl) (p := tupB) (g := fun d => d)
      (by simp [eg]) (by simp) (by simp; omega) (fun d hd => by
        obtain ⟨x, hx, rfl⟩ := List.mem_map.mp hd
        cases x with
        | st t => simp [ct__law_reached_1, nxl, stD, tupB]
        | out p => simp [ct__law_reached_1, nxl, tupB]) (fun d hd hp => ⟨.t (.val d), by simp, rfl⟩)
    rw [sts_map] at e
    have hsl : (stsOf (nxs w h cs s)).length ≤ 2 := Nat.le_trans (List.length_filterMap_le _ _) hn
    have ad := oAdd_ls (line.map stD) ((stsOf (nxs w h cs s)).map stD) (by simp; omega)
    rw [List.map_append] at e
    simp only [List.map_cons, List.map_nil] at e
    simp [lb__law_reached_2, pop, ni, ap, e, ad]
theorem lr_loop (B : Gb w h cs) (hP : ∀ s ∈ P, Vl w h s) (hPl : P.length ≤ 100) : ∀ (m : Nat) (ks : List Int) (seen line : List Bm.St), Look w h cs P ks seen line → 3 * (256 - seen.length) + line.length ≤ m → line.length ≤ P.length + 2 * seen.length → ∀ (x1 s4 s5 : SV),
    ∃ ks' seen' y4, Look w h cs P ks' seen' [] ∧ sWh lt__law_reached_3 lb__law_reached_2 [.val (brd w h cs), x1, .own (.list (seen.map stD)), .own (.list (line.map stD)), s4, s5] =
      .nx [.val (brd w h cs), x1, .own (.list (seen'.map stD)), .own (.list []), y4, s5] := by
  intro m
  induction m with
  | zero =>
    intro ks seen line L hm hb x1 s4 s5
    have : line = [] := List.length_eq_zero_iff.mp (by omega)
    subst this
    refine ⟨ks, seen, s4, L, ?_⟩
    rw [sWh_eq, lr_testG]
    simp
  | succ m ih =>
    intro ks seen line L hm hb x1 s4 s5
    cases line with
    | nil =>
      refine ⟨ks, seen, s4, L, ?_⟩
      rw [sWh_eq, lr_testG]
      simp
    | cons s line =>
      obtain ⟨q1, q2⟩ := L.small B hP
      have ha := B.area
      simp only [List.length_cons] at hm hb
      have e := lr_look B hP L (by omega) x1 s4 s5
      have L0 : Look w h cs P ks seen (line ++ [s]) := L.same fun t => by simp [or_comm]
      by_cases hs : s ∈ seen
      · rw [if_pos hs] at e
        obtain ⟨ks', seen', z4, L', q⟩ := ih ks seen line (L0.skip hs) (by omega) (by omega) x1 (.val (stD s)) s5
        refine ⟨ks', seen', z4, L', ?_⟩
        rw [sWh_eq, lr_testG, decide_eq_true (by simp)]
        simp only
        rw [e]
        simp only
        exact q
      · rw [if_neg hs] at e
        have L2 := L0.add hs
        rw [wayK_line] at L2
        obtain ⟨r1, _⟩ := L2.small B hP
        have hn : (nxs w h cs s).length ≤ 2 := by unfold nxs; rw [List.length_map]; exact hds_len _ _
        have hsl : (stsOf (nxs w h cs s)).length ≤ 2 := Nat.le_trans (List.length_filterMap_le _ _) hn
        simp only [List.length_append, List.length_cons, List.length_nil] at r1
        obtain ⟨ks', seen', z4, L', q⟩ := ih _ _ _ L2 (by simp only [List.length_append, List.length_cons, List.length_nil]; omega) (by simp only [List.length_append, List.length_cons, List.length_nil]; omega) x1 (.val (stD s)) s5
        refine ⟨ks', seen', z4, L', ?_⟩
        rw [sWh_eq, lr_testG, decide_eq_true (by simp)]
        simp only
        rw [e]
        simp only
        exact q
/-- all states that a beam reaches, by a port -/
theorem law_reached_t (B : Gb w h cs) {p : Int} (p0 : 0 ≤ p) (p1 : p < 2 * (w + h)) : ∃ l : List Bm.St, l.Nodup ∧ (l.length : Int) ≤ 4 * (w * h) ∧ (∀ s, s ∈ l ↔ Rch w h cs [ent w h p] s) ∧ fo (f__law_reached [brd w h cs, .int p]) = .ret (.list (l.map stD)) := by
  have hP : ∀ s ∈ [ent w h p], Vl w h s := fun s hs => by rw [List.mem_singleton.mp hs]; exact ent_vl B.bd p0 p1
  have es := law_start_t B.bd p
  have es' : fo (f__law_start [brd w h cs, .int p]) = .ret (stD (ent w h p)) := by
    obtain ⟨k, r, d, h1, h2⟩ := law_entry_t B.bd p
    have w1 := B.w1
    have w2 := B.w2
    have em : oMul [.int r, .int w] = .v (.int (r * w)) := oMul_r (by omega) (by omega)
    rw [← h2]
    simp [f__law_start, fo_run, den__law_start, brd, ix_b0, ix_b1, h1, em, stD]
  have L : Look w h cs [ent w h p] [] [] [ent w h p] := ⟨fun _ h => (nomatch h), fun s hs => .here hs, fun _ h => (nomatch h), fun _ h => (nomatch h), fun s hs => .inr hs, fun _ h => (nomatch h), .nil, .nil⟩
  obtain ⟨ks, seen, y4, L', q⟩ := lr_loop B hP (by simp) _ [] [] [ent w h p] L (Nat.le_refl _) (by simp) (.val (.int p)) .no .no
  refine ⟨seen, L'.sn, (L'.small B hP).1, L'.done.1, ?_⟩
  simp only [List.map_nil, List.map_cons] at q
  simp [f__law_reached, fo_run, den__law_reached, es', q]
end
end G

set_option Elab.async false
set_option linter.all false
set_option maxRecDepth 100000
set_option maxHeartbeats 4000000
/-! PuHt: _law_outs, blocked, is_shut, _law_shut. -/
namespace G
open PySem PySem.Spec PyProof.Rows L2 PD Bm
section
variable {w h : Int} {cs : List Int}
theorem lo_state (B : Gb w h cs) {s : Bm.St} (v : Vl w h s) (L : List Int) (hL : L.length ≤ 4000) (x1 x3 s5 : SV) :
    lb__law_outs_3 [.val (brd w h cs), x1, .val (.list (L.map .int)), x3, .val (stD s), s5] = .nx [.val (brd w h cs), x1, .val (.list ((L ++ outOf (nxs w h cs s)).map .int)), x3, .val (stD s), s5] := by
  have eg := law_goals_g B v
  have hn : (nxs w h cs s).length ≤ 2 := by unfold nxs; rw [List.length_map]; exact hds_len _ _
  have e := dLc1 (di := dIt (dCall f__law_goals (daC (dV 0) (daC (dV 4) daN)))) (v := 5) (dt := ct__law_outs_1) (de := ce__law_outs_2) (ρ := [.val (brd w h cs), x1, .val (.list (L.map .int)), x3, .val (stD s), s5]) (ρ1 := [.val (brd w h cs), x1, .val (.list (L.map .int)), x3, .val (stD s), s5]) (x := .list ((nxs w h cs s).map nxl)) (ds := (nxs w h cs s).map nxl) (p := intB) (g := negD)
    (by simp [eg]) (by simp) (by simp; omega) (fun d hd => by
      obtain ⟨x, hx, rfl⟩ := List.mem_map.mp hd
      cases x with
      | st t => simp [ct__law_outs_1, nxl, stD, intB]
      | out p => simp [ct__law_outs_1, nxl, intB]) (fun d hd hp => by
      obtain ⟨x, hx, rfl⟩ := List.mem_map.mp hd
      cases x with
      | st t => cases hp
      | out p => exact ⟨.t (.val (.int (-1 - (-1 - p)))), by simp [ce__law_outs_2, nxl], rfl⟩)
  rw [outs_map] at e
  have hol : (outOf (nxs w h cs s)).length ≤ 2 := Nat.le_trans (List.length_filterMap_le _ _) hn
  have ad := oAdd_ls (L.map .int) ((outOf (nxs w h cs s)).map .int) (by simp; omega)
  simp [lb__law_outs_3, e, ad]
theorem lo_states (B : Gb w h cs) : ∀ (l : List Bm.St), (∀ s ∈ l, Vl w h s) → ∀ (L : List Int), L.length + 2 * l.length ≤ 4000 → ∀ (x1 x3 s4 s5 : SV),
    ∃ y4, forL (gN 4) lb__law_outs_3 (l.map stD) [.val (brd w h cs), x1, .val (.list (L.map .int)), x3, s4, s5] = .nx [.val (brd w h cs), x1, .val (.list ((L ++ l.flatMap fun s => outOf (nxs w h cs s)).map .int)), x3, y4, s5]
  | [], _, L, _, x1, x3, s4, s5 => ⟨s4, by simp [forL]⟩
  | s :: l, hv, L, hL, x1, x3, s4, s5 => by
    simp only [List.length_cons] at hL
    have e := lo_state B (hv s List.mem_cons_self) L (by omega) x1 x3 s5
    have hn : (nxs w h cs s).length ≤ 2 := by unfold nxs; rw [List.length_map]; exact hds_len _ _
    have hol : (outOf (nxs w h cs s)).length ≤ 2 := Nat.le_trans (List.length_filterMap_le _ _) hn
    obtain ⟨y4, q⟩ := lo_states B l (fun t ht => hv t (List.mem_cons_of_mem _ ht)) (L ++ outOf (nxs w h cs s)) (by rw [List.length_append]; omega) x1 x3 (.val (stD s)) s5
    refine ⟨y4, ?_⟩
    rw [List.map_cons, forL_nx (ρ1 := [.val (brd w h cs), x1, .val (.list (L.map .int)), x3, .val (stD s), s5]) rfl e, q, List.flatMap_cons, List.append_assoc]
theorem lo_ports (B : Gb w h cs) (wh : w * h ≤ 6) : ∀ (ps : List Int), (∀ p ∈ ps, 0 ≤ p ∧ p < 2 * (w + h)) → ∀ (L : List Int), L.length + 48 * ps.length ≤ 4000 → ∀ (x1 s3 s4 s5 : SV),
    ∃ L' : List Int, ∃ y3 y4, (∀ g, g ∈ L' ↔ g ∈ L ∨ Outs w h cs (ps.map (ent w h)) g) ∧ L'.length ≤ L.length + 48 * ps.length ∧ forL (gN 3) lb__law_outs_4 (ps.map .int) [.val (brd w h cs), x1, .val (.list (L.map .int)), s3, s4, s5] = .nx [.val (brd w h cs), x1, .val (.list (L'.map .int)), y3, y4, s5]
  | [], _, L, _, x1, s3, s4, s5 => ⟨L, s3, s4, fun g => ⟨.inl, fun q => q.elim id fun ⟨s, r, _⟩ => by
      have : ∀ {s : Bm.St}, Rch w h cs (([] : List Int).map (ent w h)) s → False := fun r => r.sub (S := fun _ => False) (fun _ h => by cases h) fun _ _ h _ => h
      exact (this r).elim⟩, by simp, by simp [forL]⟩
  | p :: ps, hp, L, hL, x1, s3, s4, s5 => by
    simp only [List.length_cons] at hL
    obtain ⟨p0, p1⟩ := hp p List.mem_cons_self
    obtain ⟨l, l1, l2, l3, l4⟩ := law_reached_t B p0 p1
    have hv : ∀ s ∈ l, Vl w h s := fun s hs => ((l3 s).mp hs).vl B fun t ht => by rw [List.mem_singleton.mp ht]; exact ent_vl B.bd p0 p1
    obtain ⟨y4, q⟩ := lo_states B l hv L (by omega) x1 (.val (.int p)) s4 s5
    have hfl : (l.flatMap fun s => outOf (nxs w h cs s)).length ≤ 2 * l.length := by
      clear l1 l2 l3 l4 hv q
      induction l with
      | nil => simp
      | cons s l ih =>
        have hn : (nxs w h cs s).length ≤ 2 := by unfold nxs; rw [List.length_map]; exact hds_len _ _
        have hol : (outOf (nxs w h cs s)).length ≤ 2 := Nat.le_trans (List.length_filterMap_le _ _) hn
        rw [List.flatMap_cons, List.length_append, List.length_cons]
        omega
    have e : lb__law_outs_4 [.val (brd w h cs), x1, .val (.list (L.map .int)), .val (.int p), s4, s5] = .nx [.val (brd w h cs), x1, .val (.list ((L ++ l.flatMap fun s => outOf (nxs w h cs s)).map .int)), .val (.int p), y4, s5] := by
      rw [← q]
      simp [lb__law_outs_4, l4]
    obtain ⟨L', y3, z4, m1, m2, m3⟩ := lo_ports B wh ps (fun x hx => hp x (List.mem_cons_of_mem _ hx)) (L ++ l.flatMap fun s => outOf (nxs w h cs s)) (by rw [List.length_append]; omega) x1 (.val (.int p)) y4 s5
    refine ⟨L', y3, z4, fun g => ?_, by rw [List.length_append] at m2; simp only [List.length_cons]; omega, ?_⟩
    · rw [m1, List.mem_append, List.mem_flatMap]
      constructor
      · rintro ((q | ⟨s, hs, q⟩) | ⟨s, r, q⟩)
        · exact .inl q
        · exact .inr ⟨s, ((l3 s).mp hs).mono (by simp), outOf_mem.mp q⟩
        · exact .inr ⟨s, r.mono (fun u hu => by rw [List.map_cons]; exact List.mem_cons_of_mem _ hu), q⟩
      · rintro (q | ⟨s, r, q⟩)
        · exact .inl (.inl q)
        · obtain ⟨t, ht, r'⟩ := r.one
          rw [List.map_cons] at ht
          rcases List.mem_cons.mp ht with e | ht
          · subst e
            exact .inl (.inr ⟨s, (l3 s).mpr r', outOf_mem.mpr q⟩)
          · exact .inr ⟨s, r'.mono (fun u hu => by rw [List.mem_singleton.mp hu]; exact ht), q⟩
    · rw [List.map_cons, forL_nx (ρ1 := [.val (brd w h cs), x1, .val (.list (L.map .int)), .val (.int p), s4, s5]) rfl e, m3]
open Classical in
/-- the ports found, in order -/
noncomputable def outL (w h : Int) (cs ps : List Int) : List Int := ((List.range (2 * (w + h)).toNat).map fun k : Nat => (k : Int)).filter fun g => decide (Outs w h cs (ps.map (ent w h)) g)
open Classical in
theorem outL_up (w h : Int) (cs ps : List Int) : (outL w h cs ps).Pairwise (· < ·) := by
  unfold outL
  refine List.Pairwise.filter _ ?_
  rw [List.pairwise_map]
  exact List.pairwise_lt_range.imp fun q => by omega
open Classical in
theorem outL_mem (B : Gb w h cs) {ps : List Int} (hp : ∀ p ∈ ps, 0 ≤ p ∧ p < 2 * (w + h)) {g : Int} : g ∈ outL w h cs ps ↔ Outs w h cs (ps.map (ent w h)) g := by
  unfold outL
  rw [List.mem_filter]
  constructor
  · rintro ⟨_, q⟩
    exact of_decide_eq_true q
  · intro q
    have := q.rng B fun s hs => by
      obtain ⟨p, hm, rfl⟩ := List.mem_map.mp hs
      exact ent_vl B.bd (hp p hm).1 (hp p hm).2
    exact ⟨List.mem_map.mpr ⟨g.toNat, List.mem_range.mpr (by omega), by omega⟩, decide_eq_true q⟩
open Classical in
theorem outL_len (w h : Int) (cs ps : List Int) : (outL w h cs ps).length ≤ (2 * (w + h)).toNat := by
  unfold outL
  refine Nat.le_trans (List.length_filter_le _ _) ?_
  simp
theorem law_outs_t (B : Gb w h cs) (wh : w * h ≤ 6) {ps : List Int} (hp : ∀ p ∈ ps, 0 ≤ p ∧ p < 2 * (w + h)) (hl : ps.length ≤ 32) (pd : D) (hpd : pd = .list (ps.map .int) ∨ pd = .tuple (ps.map .int)) : fo (f__law_outs [brd w h cs, pd]) = .ret (.list ((outL w h cs ps).map .int)) := by
  have w2 := B.w2; have h2 := B.h2
  obtain ⟨L, y3, y4, m1, m2, m3⟩ := lo_ports B wh ps hp [] (by simp; omega) (.val pd) .no .no .no
  have eL : sdI L = outL w h cs ps := up_ext (sdI_up L) (outL_up w h cs ps) fun g => by
    rw [sdI_mem, m1, outL_mem B hp]
    simp
  have hol := outL_len w h cs ps
  have so := sortSetN_l (ns := L) (by simp at m2; omega) (by rw [eL]; omega)
  rw [eL] at so
  simp only [List.map_nil] at m3
  rcases hpd with rfl | rfl <;> simp [f__law_outs, fo_run, den__law_outs, m3, so]
/-! ### blocked boards -/
def blk (cs some : List Int) : List Int := cs.mapIdx fun i e => if (i : Int) ∈ some then 3 else e
theorem blk_gb (B : Gb w h cs) (some : List Int) : Gb w h (blk cs some) := by
  refine ⟨B.w1, B.w2, B.h1, B.h2, by rw [blk, List.length_mapIdx]; exact B.len, fun x hx => ?_⟩
  unfold blk at hx
  rw [List.mem_mapIdx] at hx
  obtain ⟨i, hi, e⟩ := hx
  subst e
  split
  · exact ⟨by decide, by decide⟩
  · exact B.el _ (List.getElem_mem hi)
theorem mem_intsG {k : Int} {ps : List Int} : ((.int k : D) ∈ ps.map .int) ↔ k ∈ ps := by
  constructor
  · intro h
    obtain ⟨x, hx, e⟩ := List.mem_map.mp h
    cases e
    exact hx
  · intro h
    exact List.mem_map.mpr ⟨k, h, rfl⟩
theorem okIs_intsG (n : Nat) (ps : List Int) : okIs n (ps.map .int) = true := okIs_all.mpr fun d hd => by
  obtain ⟨k, _, rfl⟩ := List.mem_map.mp hd
  cases n <;> rfl
theorem oIn_intsG (k : Int) (ps : List Int) : oIn [.int k, .tuple (ps.map .int)] = .v (.bool (decide (k ∈ ps))) := by
  rw [oIn_t (n := 0) rfl (okIs_intsG 0 ps) (by decide)]
  congr 2
  exact decide_eq_decide.mpr mem_intsG
theorem oIn_intsL (k : Int) (ps : List Int) : oIn [.int k, .list (ps.map .int)] = .v (.bool (decide (k ∈ ps))) := by
  rw [oIn_l (n := 0) rfl (okIs_intsG 0 ps) (by decide)]
  congr 2
  exact decide_eq_decide.mpr mem_intsG
/-- a tuple or a list of numbers -/
def Sq (d : D) (ps : List Int) : Prop := d = .tuple (ps.map .int) ∨ d = .list (ps.map .int)
theorem oIn_sq {d : D} {ps : List Int} (h : Sq d ps) (k : Int) : oIn [.int k, d] = .v (.bool (decide (k ∈ ps))) := by
  rcases h with rfl | rfl
  · exact oIn_intsG k ps
  · exact oIn_intsL k ps
def blkD (some : List Int) : D → D → D
  | .int i, e => if i ∈ some then .int 3 else e
  | _, _ => .none
theorem blk_map (cs some : List Int) : (((cs.map (PyData.int : Int → D)).mapIdx fun i d => ((.int (i : Nat) : D), d)).filter fun _ => true).map (fun d => blkD some d.1 d.2) = (blk cs some).map .int := by
  rw [List.filter_eq_self.mpr (fun _ _ => rfl), blk]
  refine List.ext_getElem? fun i => ?_
  simp only [List.getElem?_map, List.getElem?_mapIdx]
  cases cs[i]? with
  | none => rfl
  | some g =>
    simp only [Option.map_some, blkD]
    by_cases hi : (i : Int) ∈ some
    · simp [hi]
    · simp [hi]
theorem blocked_t (B : Gb w h cs) {sd : D} {some : List Int} (hs : Sq sd some) : fo (f_blocked [brd w h cs, sd]) = .ret (brd w h (blk cs some)) := by
  have hl := B.len
  have ha := B.area
  have b0 : oIx [brd w h cs, .int 0] = .v (.int w) := rfl
  have b1 : oIx [brd w h cs, .int 1] = .v (.int h) := rfl
  have b2 : oIx [brd w h cs, .int 2] = .v (.tuple (cs.map .int)) := rfl
  have e := dLc2 (di := dEn (daC (dOp oIx (daC (dV 0) (daC (dC (.int 2)) daN))) daN)) (v := 2) (u := 3) (dt := dYes) (de := ce_blocked_1) (ρ := [.val (brd w h cs), .val sd, .no, .no]) (ρ1 := [.val (brd w h cs), .val sd, .no, .no]) (x := .tuple (cs.map .int)) (ds := (cs.map .int).mapIdx fun i d => (.int (i : Nat), d)) (p := fun _ _ => true) (g := blkD some)
    (by rw [← enum_pairs]; simp [b2, itemsD]) (by simp) (by simp) (by decide) (by simp; omega) (fun _ _ => rfl)
    (fun d hd _ => by
      rw [List.mem_mapIdx] at hd
      obtain ⟨i, hi, rfl⟩ := hd
      have q := oIn_sq hs (i : Int)
      simp only [blkD]
      by_cases hz : (i : Int) ∈ some
      · rw [decide_eq_true hz] at q
        rw [if_pos hz]
        exact ⟨.t (.val (.int 3)), by simp [ce_blocked_1, q, g_END], rfl⟩
      · rw [decide_eq_false hz] at q
        rw [if_neg hz]
        exact ⟨.t (.val _), by simp [ce_blocked_1, q], rfl⟩)
  rw [blk_map] at e
  rw [show brd w h (blk cs some) = .tuple [.int w, .int h, .tuple ((blk cs some).map .int)] from rfl]
  simp [f_blocked, fo_run, den_blocked, b0, b1, e, oTuple]
def memD (ks : List Int) : D → D
  | .int g => .bool (decide (g ∈ ks))
  | _ => .none
/-- no goal is found -/
noncomputable def shutB (w h : Int) (cs ports goals : List Int) : Bool := !(goals.any fun g => decide (g ∈ outL w h cs ports))
theorem is_shut_t (B : Gb w h cs) {pd gd sd : D} {ports goals some : List Int} (hp : ∀ p ∈ ports, 0 ≤ p ∧ p < 2 * (w + h)) (hl : ports.length ≤ 32) (hgl : goals.length ≤ 1000) (hpd : Sq pd ports) (hgd : Sq gd goals) (hsd : Sq sd some) :
    fo (f_is_shut [brd w h cs, pd, gd, sd]) = .ret (.bool (shutB w h (blk cs some) ports goals)) := by
  have e1 := blocked_t B hsd
  obtain ⟨ks, k1, k2, e2⟩ := outs_t (blk_gb B some) hp (by omega) pd hpd.symm
  have e := dLc1y (di := dIt (dV 2)) (v := 5) (de := ce_is_shut_1) (ρ := [.val (brd w h cs), .val pd, .val gd, .val sd, .val (.dict (encI ks)), .no]) (ρ1 := [.val (brd w h cs), .val pd, .val gd, .val sd, .val (.dict (encI ks)), .no]) (x := gd) (ds := goals.map .int) (g := memD ks)
    (by rcases hgd with rfl | rfl <;> simp) (by simp) (by simp; omega) (fun d hd => by
      obtain ⟨g, _, rfl⟩ := List.mem_map.mp hd
      have lk := look_i g ks
      refine ⟨.t (.val (.bool (decide (g ∈ ks)))), ?_, rfl⟩
      have q : oDIn [.int g, .dict (encI ks)] = .v (.bool (decide (g ∈ ks))) := by
        unfold oDIn
        simp only
        rw [lk]
        by_cases hg : g ∈ ks <;> simp [hg]
      simp [ce_is_shut_1, q])
  have eL : (goals.map (PyData.int : Int → D)).map (memD ks) = goals.map fun g => (.bool (decide (g ∈ ks)) : D) := by
    rw [List.map_map]; rfl
  rw [eL] at e
  have hb := blsOf_map' goals fun g => decide (g ∈ ks)
  have ha : (goals.any fun g => decide (g ∈ ks)) = goals.any fun g => decide (g ∈ outL w h (blk cs some) ports) := by
    congr 1
    funext g
    exact decide_eq_decide.mpr (by rw [outL_mem (blk_gb B some) hp, k2])
  simp [f_is_shut, fo_run, den_is_shut, e1, e2, e, oAny, hb, ha, shutB]
theorem oEq_nilG (ds : List D) (hd : okIs 2 ds = true) : oEq [.list ds, .list []] = .v (.bool (decide (ds = []))) := by
  have h1 : okI 3 (.list ds) = true := by simpa [okI] using hd
  have h2 : okI 3 (.list ([] : List D)) = true := by simp [okI, okIs]
  rw [oEq_ok h1 h2 (by decide)]
  congr 2
  exact decide_eq_decide.mpr ⟨fun e => by injection e, fun e => by rw [e]⟩
def inB (goals : List Int) : D → Bool
  | .int g => decide (g ∈ goals)
  | _ => false
theorem law_shut_t (B : Gb w h cs) (wh : w * h ≤ 6) {pd gd sd : D} {ports goals some : List Int} (hp : ∀ p ∈ ports, 0 ≤ p ∧ p < 2 * (w + h)) (hl : ports.length ≤ 32) (hpd : Sq pd ports) (hgd : Sq gd goals) (hsd : Sq sd some) :
    fo (f__law_shut [brd w h cs, pd, gd, sd]) = .ret (.bool (shutB w h (blk cs some) ports goals)) := by
  have w2 := B.w2; have h2 := B.h2
  have hcl := B.len
  have b0 : oIx [brd w h cs, .int 0] = .v (.int w) := rfl
  have b1 : oIx [brd w h cs, .int 1] = .v (.int h) := rfl
  have b2 : oIx [brd w h cs, .int 2] = .v (.tuple (cs.map .int)) := rfl
  have e := dLc2 (di := dEn (daC (dOp oIx (daC (dV 0) (daC (dC (.int 2)) daN))) daN)) (v := 5) (u := 6) (dt := dYes) (de := ce__law_shut_1) (ρ := [.val (brd w h cs), .val pd, .val gd, .val sd, .no, .no, .no, .no]) (ρ1 := [.val (brd w h cs), .val pd, .val gd, .val sd, .no, .no, .no, .no]) (x := .tuple (cs.map .int)) (ds := (cs.map .int).mapIdx fun i d => (.int (i : Nat), d)) (p := fun _ _ => true) (g := blkD some)
    (by rw [← enum_pairs]; simp [b2, itemsD]) (by simp) (by simp) (by decide) (by simp; omega) (fun _ _ => rfl)
    (fun d hd _ => by
      rw [List.mem_mapIdx] at hd
      obtain ⟨i, hi, rfl⟩ := hd
      have q := oIn_sq hsd (i : Int)
      simp only [blkD]
      by_cases hz : (i : Int) ∈ some
      · rw [decide_eq_true hz] at q
        rw [if_pos hz]
        exact ⟨.t (.val (.int 3)), by simp [ce__law_shut_1, q], rfl⟩
      · rw [decide_eq_false hz] at q
        rw [if_neg hz]
        exact ⟨.t (.val _), by simp [ce__law_shut_1, q], rfl⟩)
  rw [blk_map] at e
  have eo := law_outs_t (blk_gb B some) wh hp hl pd hpd.symm
  have eo' : fo (f__law_outs [.tuple [.int w, .int h, .tuple ((blk cs some).map .int)], pd]) = .ret (.list ((outL w h (blk cs some) ports).map .int)) := eo
  have hol := outL_len w h (blk cs some) ports
  have e2 := dLc1 (di := dIt (dCall f__law_outs (daC (dTup (daC (dOp oIx (daC (dV 0) (daC (dC (.int 0)) daN))) (daC (dOp oIx (daC (dV 0) (daC (dC (.int 1)) daN))) (daC (dV 4) daN)))) (daC (dV 1) daN)))) (v := 7) (dt := ct__law_shut_2) (de := dV 7) (ρ := [.val (brd w h cs), .val pd, .val gd, .val sd, .val (.tuple ((blk cs some).map .int)), .no, .no, .no]) (ρ1 := [.val (brd w h cs), .val pd, .val gd, .val sd, .val (.tuple ((blk cs some).map .int)), .no, .no, .no]) (x := .list ((outL w h (blk cs some) ports).map .int)) (ds := (outL w h (blk cs some) ports).map .int) (p := inB goals) (g := fun d => d)
    (by simp [b0, b1, eo']) (by simp) (by simp; omega) (fun d hd => by
      obtain ⟨g, _, rfl⟩ := List.mem_map.mp hd
      have q := oIn_sq hgd g
      simp [ct__law_shut_2, q, inB]) (fun d hd hp => ⟨.t (.val d), by simp, rfl⟩)
  rw [List.map_id', List.filter_map] at e2
  have en := oEq_nilG (((outL w h (blk cs some) ports).filter (inB goals ∘ PyData.int)).map .int) (okIs_intsG 2 _)
  have hz : decide (((outL w h (blk cs some) ports).filter (inB goals ∘ PyData.int)).map (PyData.int : Int → D) = []) = shutB w h (blk cs some) ports goals := by
    unfold shutB
    cases hd : (goals.any fun g => decide (g ∈ outL w h (blk cs some) ports)) with
    | true =>
      obtain ⟨g, hg, hq⟩ := List.any_eq_true.mp hd
      refine decide_eq_false fun z => ?_
      rw [List.map_eq_nil_iff, List.filter_eq_nil_iff] at z
      exact z g (of_decide_eq_true hq) (decide_eq_true hg)
    | false =>
      refine decide_eq_true ?_
      rw [List.map_eq_nil_iff, List.filter_eq_nil_iff]
      intro g hg hq
      have : (goals.any fun g => decide (g ∈ outL w h (blk cs some) ports)) = true := List.any_eq_true.mpr ⟨g, of_decide_eq_true hq, decide_eq_true hg⟩
      rw [hd] at this
      cases this
  rw [hz] at en
  simp [f__law_shut, fo_run, den__law_shut, e, oTuple, e2, en]
end
end G

set_option Elab.async false
set_option linter.all false
set_option maxRecDepth 100000
set_option maxHeartbeats 4000000
/-! PuRw: rows of places: choices, _law_rows (as PuR, for texts without PuQ). -/
namespace G
open PySem PySem.Spec PyProof.Rows L2 PD Bm
def tpD (cs : List Int) : D := .tuple (cs.map .int)
theorem oAdd_tp (a b : List D) (h : a.length + b.length ≤ 100000) : oAdd [.tuple a, .tuple b] = .v (.tuple (a ++ b)) := by
  simp only [oAdd, vOr, oI0, oAddS, oAddT, h, if_true]
theorem small_i {n : Int} (h0 : 0 ≤ n) (h : n ≤ 100000) : small n = true := by simp [small]; omega
theorem rangeD0 (n : Int) : rangeD 0 n = (List.range n.toNat).map fun k : Nat => .int (k : Int) := by
  unfold rangeD
  rw [Int.sub_zero]
  refine List.map_congr_left fun k _ => ?_
  rw [Int.zero_add]
def nxt (own : List Int) (i : Nat) : Bool := match own.getLast? with
  | none => true
  | some l => decide (l < (i : Int))
/-- the rising rows of k of the numbers below n -/
def rws (n : Nat) : Nat → List (List Int)
  | 0 => [[]]
  | k + 1 => (rws n k).flatMap fun own => ((List.range n).filter (nxt own)).map fun i : Nat => own ++ [(i : Int)]
theorem rws_small : ∀ n : Nat, n ≤ 12 → ∀ k : Nat, k ≤ 12 → (rws n k).length ≤ 1000 := by decide +kernel
theorem rws_len (n : Nat) : ∀ (k : Nat) (r : List Int), r ∈ rws n k → r.length = k ∧ ∀ x ∈ r, 0 ≤ x ∧ x < n
  | 0, r, h => by simp [rws] at h; subst h; simp
  | k + 1, r, h => by
    simp only [rws, List.mem_flatMap, List.mem_map, List.mem_filter, List.mem_range] at h
    obtain ⟨own, ho, i, ⟨hi, _⟩, rfl⟩ := h
    obtain ⟨h1, h2⟩ := rws_len n k own ho
    refine ⟨by simp [h1], fun x hx => ?_⟩
    rcases List.mem_append.mp hx with hx | hx
    · exact h2 x hx
    · rw [List.mem_singleton.mp hx]; omega
theorem atI_last {α : Type} (xs : List α) : atI xs (-1) = xs.getLast? := by
  cases xs with
  | nil => rfl
  | cons x xs =>
    rw [List.getLast?_eq_getElem?]
    unfold atI L2.ixN
    simp
    rw [if_pos (by omega)]
    have : (-1 + ((xs.length : Int) + 1)).toNat = xs.length := by omega
    simp [this]
def idD (n : Nat) : List D := (List.range n).map fun i : Nat => .int (i : Int)
def nxD2 : D → D → Bool
  | .tuple ds, .int i => match ds.getLast? with
    | some (.int l) => decide (l < i)
    | some _ => false
    | none => true
  | _, _ => false
theorem nxD2_t (own : List Int) (i : Nat) : nxD2 (tpD own) (.int (i : Int)) = nxt own i := by
  unfold nxD2 tpD nxt
  simp only [List.getLast?_map]
  cases own.getLast? <;> rfl
def apD : D → D → D
  | .tuple ds, d => .tuple (ds ++ [d])
  | _, _ => .none
theorem apD_t (own : List Int) (i : Nat) : apD (tpD own) (.int (i : Int)) = tpD (own ++ [(i : Int)]) := by simp [apD, tpD]
theorem ch_test (own : List Int) (i : Nat) (x0 x1 x2 x3 x4 : SV) : ct_choices_1 [x0, x1, x2, x3, x4, .val (tpD own), .val (.int (i : Int))] = .ok (nxt own i) [x0, x1, x2, x3, x4, .val (tpD own), .val (.int (i : Int))] := by
  rcases List.eq_nil_or_concat own with h | ⟨l, k, h⟩
  · subst h
    simp [ct_choices_1, tpD, nxt]
  · rw [List.concat_eq_append] at h
    subst h
    have e : oIx [.tuple ((l ++ [k]).map .int), .int (-1)] = .v (.int k) := oIx_t (by rw [atI_last]; simp)
    rw [List.map_append] at e
    simp only [List.map_cons, List.map_nil] at e
    simp [ct_choices_1, tpD, nxt, e]
theorem ch_ext (n : Nat) (hn : n ≤ 100) (own : List Int) (ho : own.length ≤ 100) (x1 x2 x3 x6 : SV) (acc : List D) (ha : acc.length ≤ 90000) :
    lb_choices_3 [.val (.list (idD n)), x1, x2, x3, .own (.list acc), .val (tpD own), x6] = .nx [.val (.list (idD n)), x1, x2, x3, .own (.list (acc ++ (((List.range n).filter (nxt own)).map fun i : Nat => tpD (own ++ [(i : Int)])))), .val (tpD own), x6] := by
  have e := dLc1 (di := dIt (dV 0)) (v := 6) (dt := ct_choices_1) (de := ce_choices_2) (ρ := [.val (.list (idD n)), x1, x2, x3, .own (.list acc), .val (tpD own), x6]) (ρ1 := [.val (.list (idD n)), x1, x2, x3, .own (.list acc), .val (tpD own), x6]) (x := .list (idD n)) (ds := idD n)
    (p := nxD2 (tpD own)) (g := apD (tpD own))
    (by simp) (by simp) (by simp [idD]; omega) (fun d hd => by
      obtain ⟨i, hi, rfl⟩ := List.mem_map.mp hd
      rw [nxD2_t]
      exact ch_test own i _ _ _ _ _)
    (fun d hd hp => by
      obtain ⟨i, hi, rfl⟩ := List.mem_map.mp hd
      rw [apD_t]
      have ad := oAdd_tp (own.map .int) [.int (i : Int)] (by simp; omega)
      exact ⟨.t (.val (tpD (own ++ [(i : Int)]))), by simp [ce_choices_2, tpD, ad], rfl⟩)
  have eL : ((idD n).filter (nxD2 (tpD own))).map (apD (tpD own)) = ((List.range n).filter (nxt own)).map fun i : Nat => tpD (own ++ [(i : Int)]) := by
    rw [idD, List.filter_map, List.map_map]
    rw [show List.filter (nxD2 (tpD own) ∘ fun i : Nat => (.int (i : Int) : D)) (List.range n) = List.filter (nxt own) (List.range n) from List.filter_congr fun i _ => nxD2_t own i]
    exact List.map_congr_left fun i _ => apD_t own i
  rw [eL] at e
  have ex := mExtend_l (ds := acc) (es := ((List.range n).filter (nxt own)).map fun i : Nat => tpD (own ++ [(i : Int)])) (by
    rw [List.length_map]
    have := List.length_filter_le (nxt own) (List.range n)
    rw [List.length_range] at this
    omega)
  simp [lb_choices_3, e, ex]
theorem fm_len (n : Nat) : ∀ l : List (List Int), (l.flatMap fun own => ((List.range n).filter (nxt own)).map fun i : Nat => own ++ [(i : Int)]).length ≤ n * l.length
  | [] => by simp
  | a :: l => by
    rw [List.flatMap_cons, List.length_append, List.length_map, List.length_cons]
    have h1 := List.length_filter_le (nxt a) (List.range n)
    rw [List.length_range] at h1
    have h2 := fm_len n l
    rw [Nat.mul_add]
    omega
theorem ch_turn (n k : Nat) (hn : n ≤ 12) (hk : k ≤ 12) (x1 x3 x4 x5 x6 : SV) :
    ∃ y5, lb_choices_4 [.val (.list (idD n)), x1, .val (.list ((rws n k).map tpD)), x3, x4, x5, x6] = .nx [.val (.list (idD n)), x1, .val (.list ((rws n (k + 1)).map tpD)), x3, .val (.list ((rws n (k + 1)).map tpD)), y5, x6] := by
  have hs := rws_small n hn k hk
  obtain ⟨ρ', q1, q2⟩ := forL_ind (dg := gN 5) (b := lb_choices_3)
    (fun i ρ => ∃ y5, ρ = [.val (.list (idD n)), x1, .val (.list ((rws n k).map tpD)), x3, .own (.list ((((rws n k).take i).flatMap fun own => ((List.range n).filter (nxt own)).map fun i : Nat => own ++ [(i : Int)]).map tpD)), y5, x6])
    ((rws n k).map tpD) 0 [.val (.list (idD n)), x1, .val (.list ((rws n k).map tpD)), x3, .own (.list []), x5, x6] ⟨x5, rfl⟩ (by
      rintro i d ρ hd ⟨y5, rfl⟩
      rw [Nat.zero_add]
      rw [List.getElem?_map] at hd
      cases hc : (rws n k)[i]? with
      | none => rw [hc] at hd; cases hd
      | some own =>
        rw [hc] at hd
        cases hd
        obtain ⟨o1, _⟩ := rws_len n k own (List.mem_of_getElem? hc)
        have hb := fm_len n ((rws n k).take i)
        have hb2 : n * ((rws n k).take i).length ≤ 12 * 1000 := Nat.mul_le_mul hn (by rw [List.length_take]; omega)
        have e := ch_ext n (by omega) own (by omega) x1 (.val (.list ((rws n k).map tpD))) x3 x6 ((((rws n k).take i).flatMap fun own => ((List.range n).filter (nxt own)).map fun i : Nat => own ++ [(i : Int)]).map tpD) (by rw [List.length_map]; omega)
        refine ⟨_, _, rfl, .inl e, .val (tpD own), ?_⟩
        rw [List.take_add_one, hc, List.flatMap_append, List.map_append]
        simp)
  obtain ⟨y5, rfl⟩ := q2
  refine ⟨y5, ?_⟩
  rw [Nat.zero_add, List.length_map, List.take_length] at q1
  simp [lb_choices_4, q1, rws]
theorem choices_t (n k : Nat) (hn : n ≤ 12) (hk : k ≤ 12) : fo (f_choices [.list (idD n), .int (k : Int)]) = .ret (.list ((rws n k).map tpD)) := by
  have sm : small (k : Int) = true := small_i (by omega) (by omega)
  obtain ⟨ρ', q1, q2⟩ := forL_ind (dg := gN 3) (b := lb_choices_4)
    (fun i ρ => ∃ y3 y4 y5 y6, ρ = [.val (.list (idD n)), .val (.int (k : Int)), .val (.list ((rws n i).map tpD)), y3, y4, y5, y6])
    (rangeD 0 (k : Int)) 0 [.val (.list (idD n)), .val (.int (k : Int)), .val (.list [.tuple []]), .no, .no, .no, .no] ⟨.no, .no, .no, .no, rfl⟩ (by
      rintro i d ρ hd ⟨y3, y4, y5, y6, rfl⟩
      have hi : i < (rangeD 0 (k : Int)).length := (List.getElem?_eq_some_iff.mp hd).1
      rw [rangeD_len, Int.toNat_natCast] at hi
      rw [Nat.zero_add]
      obtain ⟨z5, e⟩ := ch_turn n i hn (by omega) (.val (.int (k : Int))) (.val d) y4 y5 y6
      exact ⟨_, _, rfl, .inl e, _, _, _, _, rfl⟩)
  obtain ⟨y3, y4, y5, y6, rfl⟩ := q2
  rw [Nat.zero_add, rangeD_len, Int.toNat_natCast] at q1
  simp [f_choices, fo_run, den_choices, sm, q1]
theorem lr_test (own : List Int) (i : Nat) (x0 x1 x2 x3 : SV) : ct__law_rows_1 [x0, x1, x2, x3, .val (tpD own), .val (.int (i : Int))] = .ok (nxt own i) [x0, x1, x2, x3, .val (tpD own), .val (.int (i : Int))] := by
  have en : oEq [.tuple (own.map .int), .tuple []] = .v (.bool (decide (own = []))) := by
    rw [oEq_ok (n := 2) (by simp [okI, okIs_all]) (by simp [okI, okIs]) (by decide)]
    congr 2
    exact decide_eq_decide.mpr (by simp)
  rcases List.eq_nil_or_concat own with h | ⟨l, k, h⟩
  · subst h
    simp only [List.map_nil] at en
    simp [ct__law_rows_1, tpD, nxt, en]
  · rw [List.concat_eq_append] at h
    subst h
    have e : oIx [.tuple ((l ++ [k]).map .int), .int (-1)] = .v (.int k) := oIx_t (by rw [atI_last]; simp)
    rw [List.map_append] at e en
    simp only [List.map_cons, List.map_nil] at e en
    simp [ct__law_rows_1, tpD, nxt, e, en]
theorem lr_turn (n k : Nat) (hn : n ≤ 12) (hk : k ≤ 12) (x1 x3 : SV) :
    lb__law_rows_3 [.val (.list (idD n)), x1, .val (.list ((rws n k).map tpD)), x3, .no, .no] = .nx [.val (.list (idD n)), x1, .val (.list ((rws n (k + 1)).map tpD)), x3, .no, .no] := by
  have hs := rws_small n hn k hk
  have e := dLcG1 (di := dIt (dV 2)) (di1 := dIt (dV 0)) (v := 4) (u := 5) (dt := ct__law_rows_1) (de := ce__law_rows_2) (ρ := [.val (.list (idD n)), x1, .val (.list ((rws n k).map tpD)), x3, .no, .no]) (ρ1 := [.val (.list (idD n)), x1, .val (.list ((rws n k).map tpD)), x3, .no, .no]) (x := .list ((rws n k).map tpD)) (ds := (rws n k).map tpD)
    (xs := fun _ => idD n) (p := nxD2) (g := apD)
    (by simp) rfl rfl (by decide) (by
      have : ∀ l : List D, (l.flatMap fun _ => idD n).length = n * l.length := fun l => by
        induction l with
        | nil => rfl
        | cons a l ih => rw [List.flatMap_cons, List.length_append, ih, List.length_cons, Nat.mul_add]; simp [idD]; omega
      rw [this, List.length_map]
      have := Nat.mul_le_mul hn hs
      omega)
    (fun d hd => ⟨.list (idD n), by simp⟩)
    (fun d hd y hy => by
      obtain ⟨own, ho, rfl⟩ := List.mem_map.mp hd
      obtain ⟨i, hi, rfl⟩ := List.mem_map.mp hy
      rw [nxD2_t]
      exact lr_test own i _ _ _ _)
    (fun d hd y hy hp => by
      obtain ⟨own, ho, rfl⟩ := List.mem_map.mp hd
      obtain ⟨i, hi, rfl⟩ := List.mem_map.mp hy
      obtain ⟨o1, _⟩ := rws_len n k own ho
      rw [apD_t]
      have ad := oAdd_tp (own.map .int) [.int (i : Int)] (by simp; omega)
      exact ⟨.t (.val (tpD (own ++ [(i : Int)]))), by simp [ce__law_rows_2, tpD, ad], rfl⟩)
  have eL : ((rws n k).map tpD).flatMap (fun d => ((idD n).filter (nxD2 d)).map (apD d)) = (rws n (k + 1)).map tpD := by
    rw [rws, List.flatMap_map, List.map_flatMap]
    congr 1
    funext own
    rw [idD, List.filter_map, List.map_map, List.map_map]
    rw [show List.filter (nxD2 (tpD own) ∘ fun i : Nat => (.int (i : Int) : D)) (List.range n) = List.filter (nxt own) (List.range n) from List.filter_congr fun i _ => nxD2_t own i]
    exact List.map_congr_left fun i _ => apD_t own i
  rw [eL] at e
  simp [lb__law_rows_3, e]
theorem law_rows_t (n k : Nat) (hn : n ≤ 12) (hk : k ≤ 12) : fo (f__law_rows [.list (idD n), .int (k : Int)]) = .ret (.list ((rws n k).map tpD)) := by
  have sm : small (k : Int) = true := small_i (by omega) (by omega)
  obtain ⟨ρ', q1, q2⟩ := forL_ind (dg := gN 3) (b := lb__law_rows_3)
    (fun i ρ => ∃ y3, ρ = [.val (.list (idD n)), .val (.int (k : Int)), .val (.list ((rws n i).map tpD)), y3, .no, .no])
    (rangeD 0 (k : Int)) 0 [.val (.list (idD n)), .val (.int (k : Int)), .val (.list [.tuple []]), .no, .no, .no] ⟨.no, rfl⟩ (by
      rintro i d ρ hd ⟨y3, rfl⟩
      have hi : i < (rangeD 0 (k : Int)).length := (List.getElem?_eq_some_iff.mp hd).1
      rw [rangeD_len, Int.toNat_natCast] at hi
      rw [Nat.zero_add]
      exact ⟨_, _, rfl, .inl (lr_turn n i hn (by omega) (.val (.int (k : Int))) (.val d)), _, rfl⟩)
  obtain ⟨y3, rfl⟩ := q2
  rw [Nat.zero_add, rangeD_len, Int.toNat_natCast] at q1
  simp [f__law_rows, fo_run, den__law_rows, sm, q1]
end G

set_option Elab.async false
set_option linter.all false
set_option maxRecDepth 100000
set_option maxHeartbeats 4000000
/-! PuHv: what is needed; reaches, needed, fewest_blocks, is_blocking, shut_off (k23). -/
namespace G
open PySem PySem.Spec PyProof.Rows L2 PD Bm
def bad (n : Str) : Exn := ⟨"BadArgument", [("name", .str n)]⟩
section
variable {w h : Int} {cs : List Int}
theorem is_board_g (B : Gb w h cs) (hc : cnt cs ≤ 8) : fo (f_is_board [brd w h cs]) = .ret (.bool true) := by
  have hl := B.len
  have ha := B.area
  have e := is_board_t (a := .int w) (b := .int h) (c := .tuple (cs.map .int)) rfl rfl rfl (fun ds hd => by
    cases hd
    refine ⟨by rw [List.length_map]; omega, fun d hd => ?_⟩
    obtain ⟨x, _, rfl⟩ := List.mem_map.mp hd
    rfl)
  have hb : boardB (.int w) (.int h) (.tuple (cs.map .int)) = true := by
    have := B.w1; have := B.w2; have := B.h1; have := B.h2
    have c0 : cntP (cs.map .int) ≤ 8 := by rw [cntP_ints]; exact hc
    simp [boardB, wholeB, c0, hl]
    refine ⟨⟨by omega, by omega⟩, ⟨by omega, by omega⟩, fun x hx => ?_⟩
    have := B.el x hx
    omega
  rw [hb] at e
  exact e
theorem need_board_g (B : Gb w h cs) (hc : cnt cs ≤ 8) (n : Str) : fo (f_need_board [brd w h cs, .str n]) = .ret .none := by
  simp [f_need_board, fo_run, den_need_board, is_board_g B hc, need_t]
theorem need_port_g (d : D) (hd : isD d = false) (n : Str) : fo (f_need_port [brd w h cs, d, .str n]) = if wholeB d 0 (2 * (w + h) - 1) = true then .ret .none else .exc (bad n) := by
  have pc := port_count_t w h
  cases hw : wholeB d 0 (2 * (w + h) - 1) <;> simp [f_need_port, fo_run, den_need_port, brd, ix_b0, ix_b1, pc, is_whole_any _ _ hd, hw, need_t, need_f, bad]
theorem need_port_ok {p : Int} (p0 : 0 ≤ p) (p1 : p < 2 * (w + h)) (n : Str) : fo (f_need_port [brd w h cs, .int p, .str n]) = .ret .none := by
  rw [need_port_g (.int p) rfl, if_pos (by simp [wholeB]; omega)]
theorem reaches_t (B : Gb w h cs) (hc : cnt cs ≤ 8) {p g : Int} (p0 : 0 ≤ p) (p1 : p < 2 * (w + h)) (g0 : 0 ≤ g) (g1 : g < 2 * (w + h)) : fo (f_reaches [brd w h cs, .int p, .int g]) = .ret (.bool (decide (g ∈ outL w h cs [p]))) := by
  have e1 := need_board_g B hc "board"
  have e2 := need_port_ok (cs := cs) p0 p1 "port"
  have e3 := need_port_ok (cs := cs) g0 g1 "goal"
  have hp : ∀ q ∈ [p], 0 ≤ q ∧ q < 2 * (w + h) := fun q hq => by rw [List.mem_singleton.mp hq]; exact ⟨p0, p1⟩
  obtain ⟨ks, k1, k2, e4⟩ := outs_t B hp (by simp) (.list ([p].map .int)) (.inl rfl)
  have lk := look_i g ks
  have q : oDIn [.int g, .dict (encI ks)] = .v (.bool (decide (g ∈ outL w h cs [p]))) := by
    unfold oDIn
    simp only
    rw [lk]
    have : decide (g ∈ outL w h cs [p]) = decide (g ∈ ks) := decide_eq_decide.mpr (by rw [outL_mem B hp, k2])
    rw [this]
    by_cases hg : g ∈ ks <;> simp [hg]
  simp only [List.map_cons, List.map_nil] at e4
  simp [f_reaches, fo_run, den_reaches, e1, e2, e3, e4, q]
/-- the cells that are needed -/
noncomputable def needL (w h : Int) (cs : List Int) (p g : Int) : List Int := ((List.range (w * h).toNat).filter fun i : Nat => shutB w h (blk cs [(i : Int)]) [p] [g]).map fun i : Nat => (i : Int)
noncomputable def shD (w h : Int) (cs : List Int) (p g : Int) : D → Bool
  | .int i => shutB w h (blk cs [i]) [p] [g]
  | _ => false
theorem needed_t (B : Gb w h cs) (hc : cnt cs ≤ 8) {p g : Int} (p0 : 0 ≤ p) (p1 : p < 2 * (w + h)) (g0 : 0 ≤ g) (g1 : g < 2 * (w + h)) : fo (f_needed [brd w h cs, .int p, .int g]) = .ret (if g ∈ outL w h cs [p] then .tuple ((needL w h cs p g).map .int) else .none) := by
  have e1 := reaches_t B hc p0 p1 g0 g1
  have hl := B.len
  have ha := B.area
  have hp : ∀ q ∈ [p], 0 ≤ q ∧ q < 2 * (w + h) := fun q hq => by rw [List.mem_singleton.mp hq]; exact ⟨p0, p1⟩
  have b2 : oIx [brd w h cs, .int 2] = .v (.tuple (cs.map .int)) := rfl
  have sm : small (cs.length : Int) = true := small_i (by omega) (by omega)
  by_cases hg : g ∈ outL w h cs [p]
  · rw [decide_eq_true hg] at e1
    rw [if_pos hg]
    have e := dLc1 (di := dRg1 (daC (dOp oLen (daC (dOp oIx (daC (dV 0) (daC (dC (.int 2)) daN))) daN)) daN)) (v := 3) (dt := ct_needed_1) (de := dV 3) (ρ := [.val (brd w h cs), .val (.int p), .val (.int g), .no]) (ρ1 := [.val (brd w h cs), .val (.int p), .val (.int g), .no]) (x := .none) (ds := (List.range cs.length).map fun i : Nat => .int (i : Int)) (p := shD w h cs p g) (g := fun d => d)
      (by simp [b2, sm, rangeD0]) (by simp) (by simp; omega) (fun d hd => by
        obtain ⟨i, hi, rfl⟩ := List.mem_map.mp hd
        have q := is_shut_t B (pd := .list ([p].map .int)) (gd := .list ([g].map .int)) (sd := .tuple ([(i : Int)].map .int)) (ports := [p]) (goals := [g]) (some := [(i : Int)]) hp (by simp) (by simp) (.inr rfl) (.inr rfl) (.inl rfl)
        simp only [List.map_cons, List.map_nil] at q
        simp [ct_needed_1, q, shD]) (fun d hd hp => ⟨.t (.val d), by simp, rfl⟩)
    rw [List.map_id', List.filter_map] at e
    have eL : ((List.range cs.length).filter (shD w h cs p g ∘ fun i : Nat => (.int (i : Int) : D))).map (fun i : Nat => (.int (i : Int) : D)) = (needL w h cs p g).map .int := by
      rw [needL, List.map_map, show (w * h).toNat = cs.length by omega]
      rfl
    rw [eL] at e
    simp [f_needed, fo_run, den_needed, e1, e, oTuple]
  · rw [decide_eq_false hg] at e1
    rw [if_neg hg]
    simp [f_needed, fo_run, den_needed, e1]
theorem insI_len (z : Int) : ∀ l : List Int, (insI z l).length ≤ l.length + 1
  | [] => by simp [insI]
  | y :: l => by
    have ih := insI_len z l
    unfold insI
    split
    · simp
    · split
      · simp
      · simp only [List.length_cons]; omega
theorem sdI_len : ∀ ns : List Int, (sdI ns).length ≤ ns.length
  | [] => by simp [sdI]
  | z :: ns => by
    have h1 := insI_len z (sdI ns)
    have h2 := sdI_len ns
    have h3 : sdI (z :: ns) = insI z (sdI ns) := rfl
    rw [h3, List.length_cons]
    omega
/-! ports as told -/
theorem need_ports_t (d : D) (hd : isD d = false) (hds : ∀ ds, d = .tuple ds → ds.length ≤ 40 ∧ ∀ x ∈ ds, isD x = false) (n : Str) (okP : Bool)
    (hok : ∀ ps : List Int, d = .tuple (ps.map .int) → (∀ p ∈ ps, 0 ≤ p ∧ p < 2 * (w + h)) → okP = decide (ps = sdI ps)) (hno : (∀ ds, d ≠ .tuple ds) → okP = false) (hno2 : ∀ ds, d = .tuple ds → (∃ x ∈ ds, wholeB x 0 (2 * (w + h) - 1) = false) → okP = false) :
    fo (f_need_ports [brd w h cs, d, .str n]) = if okP = true then .ret .none else .exc (bad n) := by
  have pc := port_count_t w h
  have b0 : oIx [brd w h cs, .int 0] = .v (.int w) := rfl
  have b1 : oIx [brd w h cs, .int 1] = .v (.int h) := rfl
  by_cases ht : ∃ ds, d = .tuple ds
  · obtain ⟨ds, rfl⟩ := ht
    obtain ⟨l1, l2⟩ := hds ds rfl
    have e := dLc1y (di := dIt (dV 1)) (v := 5) (de := ce_need_ports_1) (ρ := [.val (brd w h cs), .val (.tuple ds), .val (.str n), .val (.int (2 * (w + h))), .no, .no]) (ρ1 := [.val (brd w h cs), .val (.tuple ds), .val (.str n), .val (.int (2 * (w + h))), .no, .no]) (x := .tuple ds) (ds := ds) (g := fun d => .bool (wholeB d 0 (2 * (w + h) - 1)))
      (by simp) (by simp) (by omega) (fun d hd => ⟨.t (.val (.bool (wholeB d 0 (2 * (w + h) - 1)))), by simp [ce_need_ports_1, is_whole_any 0 (2 * (w + h) - 1) (l2 d hd)], rfl⟩)
    have hb := blsOf_map' ds fun d => wholeB d 0 (2 * (w + h) - 1)
    cases hall : (ds.all fun d => wholeB d 0 (2 * (w + h) - 1)) with
    | true =>
      obtain ⟨ps, hps⟩ : ∃ ps : List Int, ds = ps.map .int := by
        refine ⟨ds.map fun d => match d with | .int x => x | _ => 0, ?_⟩
        rw [List.map_map]
        refine (List.map_id ds).symm.trans (List.map_congr_left fun d hd => ?_)
        have := List.all_eq_true.mp hall d hd
        cases d with
        | int x => rfl
        | _ => cases this
      have hr : ∀ p ∈ ps, 0 ≤ p ∧ p < 2 * (w + h) := fun p hp => by
        have := List.all_eq_true.mp hall (.int p) (by rw [hps]; exact List.mem_map.mpr ⟨p, hp, rfl⟩)
        simp [wholeB] at this
        omega
      have hk := hok ps (by rw [hps]) hr
      have hpl : ps.length ≤ 40 := by rw [hps] at l1; simpa using l1
      have hsl := sdI_len ps
      have so : oSortSetN [.tuple ds] = .n (.list ((sdI ps).map .int)) := by rw [hps]; exact sortSetN_t (by omega) (by omega)
      have eq : oEq [.list ds, .list ((sdI ps).map .int)] = .v (.bool okP) := by
        rw [hps, oEq_ok (n := 1) (by simpa [okI] using okIs_intsG 0 ps) (by simpa [okI] using okIs_intsG 0 (sdI ps)) (by decide), hk]
        congr 2
        refine decide_eq_decide.mpr ⟨fun e => ?_, fun e => by rw [← e]⟩
        injection e with e
        have := congrArg intsOf e
        rw [intsOf_map, intsOf_map] at this
        exact Option.some.inj this
      have ha : (ds.map fun d => wholeB d 0 (2 * (w + h) - 1)).all id = true := by rw [List.all_map]; exact hall
      cases hO : okP <;> rw [hO] at eq <;> simp [f_need_ports, fo_run, den_need_ports, b0, b1, pc, e, oAll, hb, ha, hall, so, eq, oList, need_t, need_f, bad]
    | false =>
      obtain ⟨x, hx, hw⟩ := List.all_eq_false.mp hall
      have hO := hno2 ds rfl ⟨x, hx, by simpa using hw⟩
      rw [hO]
      simp [f_need_ports, fo_run, den_need_ports, b0, b1, pc, e, oAll, hb, hall, need_f, bad]
  · have hO := hno fun ds e => ht ⟨ds, e⟩
    rw [hO]
    cases d with
    | tuple ds => exact absurd ⟨ds, rfl⟩ ht
    | dict _ => simp [isD] at hd
    | _ => simp [f_need_ports, fo_run, den_need_ports, b0, b1, pc, need_f, bad]
end
end G

set_option Elab.async false
set_option linter.all false
set_option maxRecDepth 100000
set_option maxHeartbeats 4000000
/-! PuHw: fewest_blocks, is_blocking, shut_off (k23). -/
namespace G
open PySem PySem.Spec PyProof.Rows L2 PD Bm
def otD : Option (List Int) → D
  | none => .none
  | some r => tpD r
theorem forL_fs {dg : DG} {b : DS} (I : Sl → Prop) (f : Nat → Option (List Int)) : ∀ (l : List Nat) (ρ : Sl), I ρ → (∀ k ∈ l, ∀ ρ, I ρ → ∃ ρ1 ρ2, dg (.int (k : Int)) ρ = some ρ1 ∧ (match f k with
      | some r => b ρ1 = .rt (tpD r) ρ2
      | none => b ρ1 = .nx ρ2 ∧ I ρ2)) →
    ∃ ρ', match l.findSome? f with
      | some r => forL dg b (l.map fun k : Nat => .int (k : Int)) ρ = .rt (tpD r) ρ'
      | none => forL dg b (l.map fun k : Nat => .int (k : Int)) ρ = .nx ρ' ∧ I ρ'
  | [], ρ, h, _ => ⟨ρ, rfl, h⟩
  | k :: l, ρ, h, q => by
    obtain ⟨ρ1, ρ2, e1, e2⟩ := q k List.mem_cons_self ρ h
    rw [List.findSome?_cons]
    cases hp : f k with
    | some r =>
      rw [hp] at e2
      exact ⟨ρ2, by simp only; rw [List.map_cons, forL_rt e1 e2]⟩
    | none =>
      rw [hp] at e2
      simp only at e2
      obtain ⟨ρ', z⟩ := forL_fs I f l ρ2 e2.2 fun k hk => q k (List.mem_cons_of_mem _ hk)
      refine ⟨ρ', ?_⟩
      simp only
      rw [List.map_cons, forL_nx e1 e2.1]
      exact z

structure PtOk (n : Int) (ps : List Int) : Prop where
  up : ps.Pairwise (· < ·)
  rng : ∀ p ∈ ps, 0 ≤ p ∧ p < n
  len : ps.length ≤ 32
noncomputable def fewB (w h : Int) (cs ports goals : List Int) (m : Nat) : Option (List Int) := (List.range (m + 1)).findSome? fun k => (rws (w * h).toNat k).find? fun r => shutB w h (blk cs r) ports goals
section
variable {w h : Int} {cs : List Int}
theorem need_ports_ok {ps : List Int} (P : PtOk (2 * (w + h)) ps) (n : Str) : fo (f_need_ports [brd w h cs, .tuple (ps.map .int), .str n]) = .ret .none := by
  have := need_ports_t (w := w) (h := h) (cs := cs) (.tuple (ps.map .int)) rfl (fun ds e => by
    injection e with e
    subst e
    refine ⟨by have := P.len; simp; omega, fun x hx => ?_⟩
    obtain ⟨k, _, rfl⟩ := List.mem_map.mp hx
    rfl) n true (fun qs e hr => by
      injection e with e
      have := congrArg intsOf e
      rw [intsOf_map, intsOf_map] at this
      cases Option.some.inj this
      exact (decide_eq_true (sdI_id P.up).symm).symm) (fun hz => absurd rfl (hz _)) (fun ds e hx => by
      injection e with e
      subst e
      obtain ⟨x, hx, hw⟩ := hx
      obtain ⟨k, hk, rfl⟩ := List.mem_map.mp hx
      have := P.rng k hk
      simp [wholeB] at hw
      omega)
  rw [this, if_pos rfl]
theorem fb_some (B : Gb w h cs) {ports goals : List Int} (Pp : PtOk (2 * (w + h)) ports) (Pg : PtOk (2 * (w + h)) goals) (r : List Int) (x3 x4 : SV) :
    lb_fewest_blocks_1 [.val (brd w h cs), .val (tpD ports), .val (tpD goals), x3, x4, .val (tpD r)] = (if shutB w h (blk cs r) ports goals = true then .rt (tpD r) [.val (brd w h cs), .val (tpD ports), .val (tpD goals), x3, x4, .val (tpD r)] else .nx [.val (brd w h cs), .val (tpD ports), .val (tpD goals), x3, x4, .val (tpD r)]) := by
  have q := is_shut_t B (pd := tpD ports) (gd := tpD goals) (sd := tpD r) (ports := ports) (goals := goals) (some := r) Pp.rng Pp.len (by have := Pg.len; omega) (.inl rfl) (.inl rfl) (.inl rfl)
  cases hz : shutB w h (blk cs r) ports goals with
  | true => rw [hz] at q; simp [lb_fewest_blocks_1, q]
  | false => rw [hz] at q; simp [lb_fewest_blocks_1, q]
theorem fb_size (B : Gb w h cs) (wh : w * h ≤ 6) {ports goals : List Int} (Pp : PtOk (2 * (w + h)) ports) (Pg : PtOk (2 * (w + h)) goals) {k : Nat} (hk : k ≤ 12) (x3 x5 : SV) :
    ∃ ρ y5, match (rws (w * h).toNat k).find? (fun r => shutB w h (blk cs r) ports goals) with
      | some r => lb_fewest_blocks_2 [.val (brd w h cs), .val (tpD ports), .val (tpD goals), x3, .val (.int (k : Int)), x5] = .rt (tpD r) ρ
      | none => lb_fewest_blocks_2 [.val (brd w h cs), .val (tpD ports), .val (tpD goals), x3, .val (.int (k : Int)), x5] = .nx [.val (brd w h cs), .val (tpD ports), .val (tpD goals), x3, .val (.int (k : Int)), y5] := by
  have hl := B.len
  have ec := choices_t (w * h).toNat k (by omega) hk
  have b2 : oIx [brd w h cs, .int 2] = .v (.tuple (cs.map .int)) := rfl
  have sm : small (cs.length : Int) = true := small_i (by omega) (by omega)
  have er : rangeD 0 (cs.length : Int) = idD (w * h).toNat := by rw [rangeD0, Int.toNat_natCast, show (w * h).toNat = cs.length by omega]; rfl
  have key : ∀ (l : List (List Int)) (x5 : SV), ∃ ρ y5, match l.find? (fun r => shutB w h (blk cs r) ports goals) with
      | some r => forL (gN 5) lb_fewest_blocks_1 (l.map tpD) [.val (brd w h cs), .val (tpD ports), .val (tpD goals), x3, .val (.int (k : Int)), x5] = .rt (tpD r) ρ
      | none => forL (gN 5) lb_fewest_blocks_1 (l.map tpD) [.val (brd w h cs), .val (tpD ports), .val (tpD goals), x3, .val (.int (k : Int)), x5] = .nx [.val (brd w h cs), .val (tpD ports), .val (tpD goals), x3, .val (.int (k : Int)), y5] := by
    intro l
    induction l with
    | nil => exact fun x5 => ⟨[], x5, rfl⟩
    | cons r l ih =>
      intro x5
      have e := fb_some B Pp Pg r x3 (.val (.int (k : Int)))
      rw [List.find?_cons]
      cases hg : shutB w h (blk cs r) ports goals with
      | true =>
        rw [if_pos hg] at e
        refine ⟨[.val (brd w h cs), .val (tpD ports), .val (tpD goals), x3, .val (.int (k : Int)), .val (tpD r)], x5, ?_⟩
        simp only
        rw [List.map_cons, forL_rt (ρ1 := [.val (brd w h cs), .val (tpD ports), .val (tpD goals), x3, .val (.int (k : Int)), .val (tpD r)]) rfl e]
      | false =>
        rw [if_neg (by simp [hg])] at e
        obtain ⟨ρ', y5, q⟩ := ih (.val (tpD r))
        refine ⟨ρ', y5, ?_⟩
        simp only
        rw [List.map_cons, forL_nx (ρ1 := [.val (brd w h cs), .val (tpD ports), .val (tpD goals), x3, .val (.int (k : Int)), .val (tpD r)]) rfl e]
        exact q
  obtain ⟨ρ, y5, q⟩ := key (rws (w * h).toNat k) x5
  refine ⟨ρ, y5, ?_⟩
  have eb : lb_fewest_blocks_2 [.val (brd w h cs), .val (tpD ports), .val (tpD goals), x3, .val (.int (k : Int)), x5] = forL (gN 5) lb_fewest_blocks_1 ((rws (w * h).toNat k).map tpD) [.val (brd w h cs), .val (tpD ports), .val (tpD goals), x3, .val (.int (k : Int)), x5] := by
    simp [lb_fewest_blocks_2, b2, sm, er, ec]
  rw [eb]
  exact q
theorem fewest_blocks_t (B : Gb w h cs) (hc : cnt cs ≤ 8) (wh : w * h ≤ 6) {ports goals : List Int} (Pp : PtOk (2 * (w + h)) ports) (Pg : PtOk (2 * (w + h)) goals) (m : Nat) (hm : m ≤ 3) : fo (f_fewest_blocks [brd w h cs, tpD ports, tpD goals, .int (m : Int)]) = .ret (otD (fewB w h cs ports goals m)) := by
  have e1 := need_board_g B hc "board"
  have e2 : fo (f_need_ports [brd w h cs, tpD ports, .str "ports"]) = .ret .none := need_ports_ok Pp "ports"
  have e3 : fo (f_need_ports [brd w h cs, tpD goals, .str "goals"]) = .ret .none := need_ports_ok Pg "goals"
  have e4 : fo (f_is_whole [.int (m : Int), .int 0, .int 3]) = .ret (.bool true) := by
    rw [is_whole_int]; congr 2; simp; omega
  have sm : small ((m : Int) + 1) = true := small_i (by omega) (by omega)
  have er : rangeD 0 ((m : Int) + 1) = (List.range (m + 1)).map fun k : Nat => (.int (k : Int) : D) := by
    rw [rangeD0, show ((m : Int) + 1).toNat = m + 1 by omega]
  obtain ⟨ρ', q⟩ := forL_fs (dg := gN 4) (b := lb_fewest_blocks_2) (fun ρ => ∃ y4 y5, ρ = [.val (brd w h cs), .val (tpD ports), .val (tpD goals), .val (.int (m : Int)), y4, y5])
    (fun k => (rws (w * h).toNat k).find? fun r => shutB w h (blk cs r) ports goals) (List.range (m + 1)) [.val (brd w h cs), .val (tpD ports), .val (tpD goals), .val (.int (m : Int)), .no, .no] ⟨.no, .no, rfl⟩ (by
      rintro k hk ρ ⟨y4, y5, rfl⟩
      have hk := List.mem_range.mp hk
      obtain ⟨ρ, z5, e⟩ := fb_size B wh Pp Pg (k := k) (by omega) (.val (.int (m : Int))) y5
      cases hf : (rws (w * h).toNat k).find? (fun r => shutB w h (blk cs r) ports goals) with
      | some r =>
        rw [hf] at e
        exact ⟨_, ρ, rfl, e⟩
      | none =>
        rw [hf] at e
        exact ⟨_, _, rfl, e, _, _, rfl⟩)
  rw [← er] at q
  have ef : (List.range (m + 1)).findSome? (fun k => (rws (w * h).toNat k).find? fun r => shutB w h (blk cs r) ports goals) = fewB w h cs ports goals m := rfl
  rw [ef] at q
  cases hf : fewB w h cs ports goals m with
  | some r =>
    rw [hf] at q
    simp only at q
    simp [f_fewest_blocks, fo_run, den_fewest_blocks, g_MOST_BLOCKS, e1, e2, e3, e4, need_t, otD, sm, q]
  | none =>
    rw [hf] at q
    simp only at q
    obtain ⟨q, y4, y5, rfl⟩ := q
    simp [f_fewest_blocks, fo_run, den_fewest_blocks, g_MOST_BLOCKS, e1, e2, e3, e4, need_t, otD, sm, q]
end
end G

set_option Elab.async false
set_option linter.all false
set_option maxRecDepth 100000
set_option maxHeartbeats 4000000
/-! PuHx: is_blocking, shut_off (k23). -/
namespace G
open PySem PySem.Spec PyProof.Rows L2 PD Bm
section
variable {w h : Int} {cs : List Int}
theorem ib_all (ports goals : List Int) (ds : List D) (hl : ds.length ≤ 100) (hd : ∀ d ∈ ds, isD d = false) (B : Gb w h cs) :
    dLc (dIt (dV 3)) [4] (gN 4) dYes ce_is_blocking_1 [.val (brd w h cs), .val (tpD ports), .val (tpD goals), .val (.tuple ds), .no] = .ok (.t (.own (.list (ds.map fun d => (.bool (wholeB d 0 (w * h - 1)) : D))))) [.val (brd w h cs), .val (tpD ports), .val (tpD goals), .val (.tuple ds), .no] := by
  have hcl := B.len
  have b2 : oIx [brd w h cs, .int 2] = .v (.tuple (cs.map .int)) := rfl
  exact dLc1y (di := dIt (dV 3)) (v := 4) (de := ce_is_blocking_1) (x := .tuple ds) (ds := ds) (g := fun d => .bool (wholeB d 0 (w * h - 1)))
    (by simp) (by simp) (by omega) (fun d hd' => ⟨.t (.val (.bool (wholeB d 0 (w * h - 1)))), by simp [ce_is_blocking_1, b2, is_whole_any 0 (w * h - 1) (hd d hd'), hcl], rfl⟩)
theorem is_blocking_ok (B : Gb w h cs) (hc : cnt cs ≤ 8) {ports goals vs : List Int} (Pp : PtOk (2 * (w + h)) ports) (Pg : PtOk (2 * (w + h)) goals) (Pv : PtOk (w * h) vs) : fo (f_is_blocking [brd w h cs, tpD ports, tpD goals, tpD vs]) = .ret (.bool (shutB w h (blk cs vs) ports goals)) := by
  have e1 := need_board_g B hc "board"
  have e2 : fo (f_need_ports [brd w h cs, tpD ports, .str "ports"]) = .ret .none := need_ports_ok Pp "ports"
  have e3 : fo (f_need_ports [brd w h cs, tpD goals, .str "goals"]) = .ret .none := need_ports_ok Pg "goals"
  have hvl := Pv.len
  have e := ib_all ports goals (vs.map .int) (by simp; omega) (fun d hd => by
    obtain ⟨k, _, rfl⟩ := List.mem_map.mp hd
    rfl) B
  have eA : (vs.map (PyData.int : Int → D)).map (fun d => (.bool (wholeB d 0 (w * h - 1)) : D)) = vs.map fun _ => (.bool true : D) := by
    rw [List.map_map]
    refine List.map_congr_left fun k hk => ?_
    have := Pv.rng k hk
    simp [wholeB]
    omega
  rw [eA] at e
  have hb := blsOf_map' vs fun _ => true
  have ha : ((vs.map fun _ => true).all id) = true := by simp
  have q := is_shut_t B (pd := tpD ports) (gd := tpD goals) (sd := tpD vs) (ports := ports) (goals := goals) (some := vs) Pp.rng Pp.len (by have := Pg.len; omega) (.inl rfl) (.inl rfl) (.inl rfl)
  have hsl := sdI_len vs
  have so := sortSetN_t (ns := vs) (by omega) (by omega)
  rw [sdI_id Pv.up] at so
  have eq : oEq [.list (vs.map .int), .list (vs.map .int)] = .v (.bool true) := by
    rw [oEq_ok (n := 1) (by simpa [okI] using okIs_intsG 0 vs) (by simpa [okI] using okIs_intsG 0 vs) (by decide)]
    simp
  have q' : fo (f_is_shut [brd w h cs, tpD ports, tpD goals, .tuple (vs.map .int)]) = .ret (.bool (shutB w h (blk cs vs) ports goals)) := q
  have e' : dLc (dIt (dV 3)) [4] (gN 4) dYes ce_is_blocking_1 [.val (brd w h cs), .val (tpD ports), .val (tpD goals), .val (.tuple (vs.map .int)), .no] = .ok (.t (.own (.list (vs.map fun _ => (.bool true : D))))) [.val (brd w h cs), .val (tpD ports), .val (tpD goals), .val (.tuple (vs.map .int)), .no] := e
  rw [show tpD vs = .tuple (vs.map .int) from rfl]
  simp [f_is_blocking, fo_run, den_is_blocking, e1, e2, e3, e', oAll, hb, ha, so, eq, oList, q']
theorem is_blocking_nt (B : Gb w h cs) (hc : cnt cs ≤ 8) {ports goals : List Int} (Pp : PtOk (2 * (w + h)) ports) (Pg : PtOk (2 * (w + h)) goals) {d : D} (hd : isD d = false) (ht : ∀ ds, d ≠ .tuple ds) : fo (f_is_blocking [brd w h cs, tpD ports, tpD goals, d]) = .ret (.bool false) := by
  have e1 := need_board_g B hc "board"
  have e2 : fo (f_need_ports [brd w h cs, tpD ports, .str "ports"]) = .ret .none := need_ports_ok Pp "ports"
  have e3 : fo (f_need_ports [brd w h cs, tpD goals, .str "goals"]) = .ret .none := need_ports_ok Pg "goals"
  cases d with
  | tuple ds => exact absurd rfl (ht ds)
  | dict _ => simp [isD] at hd
  | _ => simp [f_is_blocking, fo_run, den_is_blocking, e1, e2, e3]
theorem is_blocking_one (B : Gb w h cs) (hc : cnt cs ≤ 8) {ports goals : List Int} (Pp : PtOk (2 * (w + h)) ports) (Pg : PtOk (2 * (w + h)) goals) {d : D} (hd : isD d = false) (hw : wholeB d 0 (w * h - 1) = false) : fo (f_is_blocking [brd w h cs, tpD ports, tpD goals, .tuple [d]]) = .ret (.bool false) := by
  have e1 := need_board_g B hc "board"
  have e2 : fo (f_need_ports [brd w h cs, tpD ports, .str "ports"]) = .ret .none := need_ports_ok Pp "ports"
  have e3 : fo (f_need_ports [brd w h cs, tpD goals, .str "goals"]) = .ret .none := need_ports_ok Pg "goals"
  have e := ib_all ports goals [d] (by simp) (fun x hx => by rw [List.mem_singleton.mp hx]; exact hd) B
  simp only [List.map_cons, List.map_nil, hw] at e
  simp [f_is_blocking, fo_run, den_is_blocking, e1, e2, e3, e, oAll, blsOf]
theorem is_blocking_two (B : Gb w h cs) (hc : cnt cs ≤ 8) {ports goals : List Int} (Pp : PtOk (2 * (w + h)) ports) (Pg : PtOk (2 * (w + h)) goals) : fo (f_is_blocking [brd w h cs, tpD ports, tpD goals, .tuple [.int 0, .int 0]]) = .ret (.bool false) := by
  have e1 := need_board_g B hc "board"
  have e2 : fo (f_need_ports [brd w h cs, tpD ports, .str "ports"]) = .ret .none := need_ports_ok Pp "ports"
  have e3 : fo (f_need_ports [brd w h cs, tpD goals, .str "goals"]) = .ret .none := need_ports_ok Pg "goals"
  have wp := B.pos
  have e := ib_all ports goals [.int 0, .int 0] (by simp) (fun x hx => by
    simp only [List.mem_cons, List.not_mem_nil, or_false] at hx
    rcases hx with rfl | rfl <;> rfl) B
  have hw : wholeB (.int 0) 0 (w * h - 1) = true := by simp [wholeB]; omega
  simp only [List.map_cons, List.map_nil, hw] at e
  have so := sortSetN_t (ns := [0, 0]) (by simp) (by decide)
  have hs : sdI [0, 0] = [0] := by decide
  rw [hs] at so
  have eq : oEq [.list [.int 0, .int 0], .list [.int 0]] = .v (.bool false) := by
    rw [oEq_ok (n := 1) rfl rfl (by decide)]
    simp
  simp only [List.map_cons, List.map_nil] at so
  simp [f_is_blocking, fo_run, den_is_blocking, e1, e2, e3, e, oAll, blsOf, so, eq, oList]
/-! ### shut_off -/
def prD (p g : Int) : D := .tuple [.int p, .int g]
noncomputable def soL (w h : Int) (cs : List Int) (c p : Int) : List D := ((outL w h cs [p]).filter fun g => !decide (g ∈ outL w h (blk cs [c]) [p])).map (prD p)
theorem stI_outL (B : Gb w h cs) {ks ps : List Int} (hp : ∀ p ∈ ps, 0 ≤ p ∧ p < 2 * (w + h)) (k1 : ks.Nodup) (k2 : ∀ g, g ∈ ks ↔ Outs w h cs (ps.map (ent w h)) g) : stI ks = outL w h cs ps := by
  have hn : (stI ks).Nodup := (stI_perm ks).nodup_iff.mpr k1
  refine up_ext ?_ (outL_up w h cs ps) fun g => by rw [(stI_perm ks).mem_iff, k2, outL_mem B hp]
  exact (List.Pairwise.and (stI_up ks) hn).imp fun q => by have := q.1; have := q.2; omega
def niB (ks : List Int) : D → Bool
  | .int g => !decide (g ∈ ks)
  | _ => false
def prE (p : Int) : D → D
  | .int g => prD p g
  | _ => .none
theorem so_port (B : Gb w h cs) {c p : Int} (p0 : 0 ≤ p) (p1 : p < 2 * (w + h)) (acc : List D) (ha : acc.length ≤ 2000) (s4 s5 s6 : SV) :
    ∃ y4 y5, lb_shut_off_3 [.val (brd w h cs), .val (.int c), .own (.list acc), .val (.int p), s4, s5, s6] = .nx [.val (brd w h cs), .val (.int c), .own (.list (acc ++ soL w h cs c p)), .val (.int p), y4, y5, s6] := by
  have hp : ∀ q ∈ [p], 0 ≤ q ∧ q < 2 * (w + h) := fun q hq => by rw [List.mem_singleton.mp hq]; exact ⟨p0, p1⟩
  have w2 := B.w2; have h2 := B.h2
  obtain ⟨ks, k1, k2, e1⟩ := outs_t B hp (by simp) (.list ([p].map .int)) (.inl rfl)
  obtain ⟨ms, m1, m2, e2⟩ := outs_t (blk_gb B [c]) hp (by simp) (.list ([p].map .int)) (.inl rfl)
  have eb := blocked_t B (sd := .tuple ([c].map .int)) (some := [c]) (.inl rfl)
  have hol := outL_len w h cs [p]
  simp only [List.map_cons, List.map_nil] at e1 e2 eb
  have el := oListD_i (keys_i ks)
  have es := oSorted_i ks
  rw [stI_outL B hp k1 k2] at es
  have e := dLc1 (di := dIt (dOp oSorted (daC (dOp oListD (daC (dV 4) daN)) daN))) (v := 6) (dt := ct_shut_off_1) (de := ce_shut_off_2) (ρ := [.val (brd w h cs), .val (.int c), .own (.list acc), .val (.int p), .val (.dict (encI ks)), .val (.dict (encI ms)), s6]) (ρ1 := [.val (brd w h cs), .val (.int c), .own (.list acc), .val (.int p), .val (.dict (encI ks)), .val (.dict (encI ms)), s6]) (x := .list ((outL w h cs [p]).map .int)) (ds := (outL w h cs [p]).map .int) (p := niB ms) (g := prE p)
    (by simp [el, es]) (by simp) (by simp; omega) (fun d hd => by
      obtain ⟨g, _, rfl⟩ := List.mem_map.mp hd
      have lk := look_i g ms
      have q : oDNotIn [.int g, .dict (encI ms)] = .v (.bool (!decide (g ∈ ms))) := by
        unfold oDNotIn
        simp only
        rw [lk]
        by_cases hg : g ∈ ms <;> simp [hg]
      simp [ct_shut_off_1, q, niB]) (fun d hd hp => by
      obtain ⟨g, _, rfl⟩ := List.mem_map.mp hd
      exact ⟨.t (.val (prD p g)), by simp [ce_shut_off_2, prD], rfl⟩)
  have eL : (((outL w h cs [p]).map (PyData.int : Int → D)).filter (niB ms)).map (prE p) = soL w h cs c p := by
    rw [List.filter_map, List.map_map, soL]
    rw [show List.filter (niB ms ∘ PyData.int) (outL w h cs [p]) = (outL w h cs [p]).filter fun g => !decide (g ∈ outL w h (blk cs [c]) [p]) from List.filter_congr fun g _ => by
      simp only [Function.comp, niB]
      congr 1
      exact decide_eq_decide.mpr (by rw [m2, outL_mem (blk_gb B [c]) hp])]
    rfl
  rw [eL] at e
  have hsl : (soL w h cs c p).length ≤ 32 := by
    unfold soL
    rw [List.length_map]
    exact Nat.le_trans (List.length_filter_le _ _) (by omega)
  have ex := mExtend_l (ds := acc) (es := soL w h cs c p) (by omega)
  refine ⟨.val (.dict (encI ks)), .val (.dict (encI ms)), ?_⟩
  simp [lb_shut_off_3, e1, e2, eb, e, ex]
end
end G

set_option Elab.async false
set_option linter.all false
set_option maxRecDepth 100000
set_option maxHeartbeats 4000000
/-! PuHy: shut_off; two generators over slots that hold something (k23). -/
namespace PD
open PySem PySem.Spec PyProof.Rows L2
/-- as dLcG1, the two slots may hold something -/
theorem dLcG1w {di di1 : DI} {v u : Nat} {dt : DB} {de : DE} {ρ ρ1 : Sl} {x : D} {ds : List D} {xs : D → List D} {p : D → D → Bool} {g : D → D → D} (hi : di ρ = .ok x ds ρ1) (hv : v < ρ1.length) (hu : u < ρ1.length) (hvu : v ≠ u) (hl : (ds.flatMap xs).length ≤ 100000)
    (h0 : ∀ d ∈ ds, ∃ x, di1 ((ρ1.set u .no).set v (.val d)) = .ok x (xs d) ((ρ1.set u .no).set v (.val d)))
    (h1 : ∀ d ∈ ds, ∀ y ∈ xs d, dt ((ρ1.set v (.val d)).set u (.val y)) = .ok (p d y) ((ρ1.set v (.val d)).set u (.val y)))
    (h2 : ∀ d ∈ ds, ∀ y ∈ xs d, p d y = true → ∃ o, de ((ρ1.set v (.val d)).set u (.val y)) = .ok o ((ρ1.set v (.val d)).set u (.val y)) ∧ frz1 ((ρ1.set v (.val d)).set u (.val y)) o = some (g d y, (ρ1.set v (.val d)).set u (.val y))) :
    dLcG di [v, u] (gN v) dYes di1 [u] (gN u) dt de ρ = .ok (.t (.own (.list (ds.flatMap fun d => ((xs d).filter (p d)).map (g d))))) ρ1 := by
  have hw : wipeR ρ1 [v, u] = (ρ1.set u .no).set v .no := rfl
  have hs1 : ∀ a, ((ρ1.set u .no).set v .no).set v (.val a) = (ρ1.set u .no).set v (.val a) := fun a => List.set_set ..
  have hs2 : ∀ a b, (((ρ1.set u .no).set v .no).set v (.val a)).set u (.val b) = (ρ1.set v (.val a)).set u (.val b) := fun a b => by
    rw [List.set_set, List.set_comm _ _ (Ne.symm hvu), List.set_set]
  unfold dLcG
  rw [hi]
  simp only
  rw [hw, lcTwo1 (p := p) (g := g) (xs := xs) (by simp [hv]) (by rw [List.getElem?_set_ne hvu]; simp [hu]) hvu ds [] (by simpa using hl) (fun d hd => by rw [hs1]; exact h0 d hd) (fun d hd y hy => by rw [hs2]; exact h1 d hd y hy) (fun d hd y hy hp => by rw [hs2]; exact h2 d hd y hy hp)]
  simp only [List.nil_append]
  congr 1
  simp only [restR, wipeR]
  have e1 : (ρ1.set u .no).getD v .no = ρ1[v] := by rw [List.getD_eq_getElem?_getD, List.getElem?_set_ne (Ne.symm hvu), List.getElem?_eq_getElem hv]; rfl
  have e2 : ρ1.getD u .no = ρ1[u] := by simp [List.getD, hu]
  rw [e1, e2, List.set_set, List.set_comm _ _ (Ne.symm hvu), List.set_set]
  simp
end PD
namespace G
open PySem PySem.Spec PyProof.Rows L2 PD Bm
section
variable {w h : Int} {cs : List Int}
/-- all pairs that are shut off by a cell -/
noncomputable def soAll (w h : Int) (cs : List Int) (c : Int) (n : Nat) : List D := (List.range n).flatMap fun p : Nat => soL w h cs c (p : Int)
theorem soAll_succ (w h : Int) (cs : List Int) (c : Int) (n : Nat) : soAll w h cs c (n + 1) = soAll w h cs c n ++ soL w h cs c (n : Int) := by
  unfold soAll
  rw [List.range_succ, List.flatMap_append]
  simp
theorem soL_len (w h : Int) (cs : List Int) (c p : Int) : (soL w h cs c p).length ≤ (2 * (w + h)).toNat := by
  unfold soL
  rw [List.length_map]
  exact Nat.le_trans (List.length_filter_le _ _) (outL_len w h cs [p])
theorem soAll_len (w h : Int) (cs : List Int) (c : Int) : ∀ n : Nat, (soAll w h cs c n).length ≤ n * (2 * (w + h)).toNat
  | 0 => by simp [soAll]
  | n + 1 => by
    rw [soAll_succ, List.length_append, Nat.add_mul]
    have := soAll_len w h cs c n
    have := soL_len w h cs c (n : Int)
    omega
theorem shut_off_t (B : Gb w h cs) (hc : cnt cs ≤ 8) {c : Int} (c0 : 0 ≤ c) (c1 : c < w * h) : fo (f_shut_off [brd w h cs, .int c]) = .ret (.tuple (soAll w h cs c (2 * (w + h)).toNat)) := by
  have e1 := need_board_g B hc "board"
  have w1 := B.w1; have w2 := B.w2; have h1 := B.h1; have h2 := B.h2
  have hl := B.len
  have b0 : oIx [brd w h cs, .int 0] = .v (.int w) := rfl
  have b1 : oIx [brd w h cs, .int 1] = .v (.int h) := rfl
  have b2 : oIx [brd w h cs, .int 2] = .v (.tuple (cs.map .int)) := rfl
  have e2 : fo (f_is_whole [.int c, .int 0, .int ((cs.length : Int) - 1)]) = .ret (.bool true) := by
    rw [is_whole_int]; congr 2; simp; omega
  have pc := port_count_t w h
  have sm : small (2 * (w + h)) = true := small_i (by omega) (by omega)
  have hN : (2 * (w + h)).toNat ≤ 32 := by omega
  obtain ⟨ρ', q1, q2⟩ := forL_ind (dg := gN 3) (b := lb_shut_off_3)
    (fun i ρ => ∃ y3 y4 y5, ρ = [.val (brd w h cs), .val (.int c), .own (.list (soAll w h cs c i)), y3, y4, y5, .no])
    ((List.range (2 * (w + h)).toNat).map fun k : Nat => .int (k : Int)) 0 [.val (brd w h cs), .val (.int c), .own (.list []), .no, .no, .no, .no] ⟨.no, .no, .no, rfl⟩ (by
      rintro i d ρ hd ⟨y3, y4, y5, rfl⟩
      have hi : i < (2 * (w + h)).toNat := by
        have := (List.getElem?_eq_some_iff.mp hd).1
        simpa using this
      rw [List.getElem?_map, List.getElem?_range hi] at hd
      cases hd
      rw [Nat.zero_add]
      have hsl := soAll_len w h cs c i
      have hm : i * (2 * (w + h)).toNat ≤ 32 * 32 := Nat.mul_le_mul (by omega) hN
      obtain ⟨z4, z5, e⟩ := so_port B (c := c) (p := (i : Int)) (by omega) (by omega) (soAll w h cs c i) (by omega) y4 y5 .no
      rw [← soAll_succ] at e
      exact ⟨_, _, rfl, .inl e, _, _, _, rfl⟩)
  obtain ⟨y3, y4, y5, rfl⟩ := q2
  rw [Nat.zero_add, List.length_map, List.length_range] at q1
  simp [f_shut_off, fo_run, den_shut_off, e1, b0, b1, b2, e2, need_t, pc, sm, rangeD0, q1, oTuple]
theorem shut_off_bad (B : Gb w h cs) (hc : cnt cs ≤ 8) : fo (f_shut_off [brd w h cs, .int (cs.length : Int)]) = .exc (bad "cell") := by
  have e1 := need_board_g B hc "board"
  have b2 : oIx [brd w h cs, .int 2] = .v (.tuple (cs.map .int)) := rfl
  have e2 : fo (f_is_whole [.int (cs.length : Int), .int 0, .int ((cs.length : Int) - 1)]) = .ret (.bool false) := by
    rw [is_whole_int]; congr 2; simp; omega
  simp [f_shut_off, fo_run, den_shut_off, e1, b2, e2, need_f, bad]
theorem needed_bad (B : Gb w h cs) (hc : cnt cs ≤ 8) : fo (f_needed [brd w h cs, .int 0, .int (2 * (w + h))]) = .exc (bad "goal") := by
  have e1 := need_board_g B hc "board"
  have w1 := B.w1; have h1 := B.h1
  have e2 := need_port_ok (w := w) (h := h) (cs := cs) (p := 0) (by decide) (by omega) "port"
  have e3 := need_port_g (w := w) (h := h) (cs := cs) (.int (2 * (w + h))) rfl "goal"
  rw [if_neg (by simp [wholeB]; omega)] at e3
  have e : fo (f_reaches [brd w h cs, .int 0, .int (2 * (w + h))]) = .exc (bad "goal") := by
    simp [f_reaches, fo_run, den_reaches, e1, e2, e3]
  simp [f_needed, fo_run, den_needed, e]
theorem reaches_bad : fo (f_reaches [.int 5, .int 0, .int 0]) = .exc (bad "board") := by
  have e : fo (f_is_board [.int 5]) = .ret (.bool false) := by simp [f_is_board, fo_run, den_is_board]
  have e2 : fo (f_need_board [.int 5, .str "board"]) = .exc (bad "board") := by simp [f_need_board, fo_run, den_need_board, e, need_f, bad]
  simp [f_reaches, fo_run, den_reaches, e2]
end
end G

set_option Elab.async false
set_option linter.all false
set_option maxRecDepth 100000
set_option maxHeartbeats 4000000
/-! PuHz: law k23, the pieces of _law_case (printed by mk23.py). -/
namespace G
open PySem PySem.Spec PyProof.Rows L2 PD Bm
theorem seq_nx {Inv : Sl → Prop} {x y : DS} {ρ ρ1 : Sl} (h1 : x ρ = .nx ρ1) (h2 : ∃ ρ', y ρ1 = .nx ρ' ∧ Inv ρ') : ∃ ρ', sSeq x y ρ = .nx ρ' ∧ Inv ρ' := by
  obtain ⟨ρ', e, i⟩ := h2
  refine ⟨ρ', ?_, i⟩
  unfold sSeq
  rw [h1]
  exact e
theorem seq_rt {Inv : Sl → Prop} {x y : DS} {ρ ρ1 : Sl} {d : D} (h1 : x ρ = .nx ρ1) (h2 : ∃ ρ', y ρ1 = .rt d ρ' ∧ Inv ρ') : ∃ ρ', sSeq x y ρ = .rt d ρ' ∧ Inv ρ' := by
  obtain ⟨ρ', e, i⟩ := h2
  refine ⟨ρ', ?_, i⟩
  unfold sSeq
  rw [h1]
  exact e
section
variable {w h : Int} {cs : List Int}
theorem u_pg (sc : List Int) {a b c : Int} (ok : RowOk a b c) (B : Gb w h cs) (s4 s5 s6 s7 s8 s9 s10 s11 s12 s13 s14 s15 s16 s17 s18 s19 s20 s21 s22 s23 : SV) :
    ∃ a' b' c' p g, RowOk a' b' c' ∧ 0 ≤ p ∧ p < 2 * (w + h) ∧ 0 ≤ g ∧ g < 2 * (w + h) ∧ sPar [5, 6] (daC (dCallIo f__law_taken 0 (daC (dV 2) daN)) (daC (dCallIo f__law_taken 0 (daC (dV 2) daN)) daN)) [.own (rowD sc a b c), .val (brd w h cs), .val (.int (2 * (w + h))), .val (.int (w * h)), s4, s5, s6, s7, s8, s9, s10, s11, s12, s13, s14, s15, s16, s17, s18, s19, s20, s21, s22, s23] = .nx [.own (rowD sc a' b' c'), .val (brd w h cs), .val (.int (2 * (w + h))), .val (.int (w * h)), s4, .val (.int p), .val (.int g), s7, s8, s9, s10, s11, s12, s13, s14, s15, s16, s17, s18, s19, s20, s21, s22, s23] := by
  have w1 := B.w1; have w2 := B.w2; have h1 := B.h1; have h2 := B.h2
  obtain ⟨v1, a1, b1, c1, e1, p1, p1', ok1⟩ := taken_ok sc ok (many := 2 * (w + h)) (by omega) (by omega)
  obtain ⟨v2, a2, b2, c2, e2, p2, p2', ok2⟩ := taken_ok sc ok1 (many := 2 * (w + h)) (by omega) (by omega)
  exact ⟨a2, b2, c2, v1, v2, ok2, p1, p1', p2, p2', by simp [e1, e2]⟩
theorem u_fits (B : Gb w h cs) (hc : cnt cs ≤ 8) (wh : w * h ≤ 6) {p g : Int} (p0 : 0 ≤ p) (p1 : p < 2 * (w + h)) (g0 : 0 ≤ g) (g1 : g < 2 * (w + h)) (s0 s4 s7 s8 s9 s10 s11 s12 s13 s14 s15 s16 s17 s18 s19 s20 s21 s22 s23 : SV) :
    sSet 7 (dOp oIn (daC (dV 6) (daC (dCall f__law_outs (daC (dV 1) (daC (dLst (daC (dV 5) daN)) daN))) daN))) [s0, .val (brd w h cs), .val (.int (2 * (w + h))), .val (.int (w * h)), s4, .val (.int p), .val (.int g), s7, s8, s9, s10, s11, s12, s13, s14, s15, s16, s17, s18, s19, s20, s21, s22, s23] = .nx [s0, .val (brd w h cs), .val (.int (2 * (w + h))), .val (.int (w * h)), s4, .val (.int p), .val (.int g), .val (.bool (decide (g ∈ outL w h cs [p]))), s8, s9, s10, s11, s12, s13, s14, s15, s16, s17, s18, s19, s20, s21, s22, s23] := by
  have hp : ∀ q ∈ [p], 0 ≤ q ∧ q < 2 * (w + h) := fun q hq => by rw [List.mem_singleton.mp hq]; exact ⟨p0, p1⟩
  have e := law_outs_t B wh hp (by simp) (.list ([p].map .int)) (.inl rfl)
  have q := oIn_intsL g (outL w h cs [p])
  simp only [List.map_cons, List.map_nil] at e
  simp [e, q]
theorem u_chk1 (B : Gb w h cs) (hc : cnt cs ≤ 8) (wh : w * h ≤ 6) {p g : Int} (p0 : 0 ≤ p) (p1 : p < 2 * (w + h)) (g0 : 0 ≤ g) (g1 : g < 2 * (w + h)) (s0 s4 s8 s9 s10 s11 s12 s13 s14 s15 s16 s17 s18 s19 s20 s21 s22 s23 : SV) :
    sIf (dNot (dTru (dCall (f__law_alike 8) (daC (dCall f_reaches (daApp (daC (dV 1) (daC (dV 5) daN)) (daC (dV 6) daN))) (daC (dV 7) daN))))) (sRet (dC (.bool false))) sNil [s0, .val (brd w h cs), .val (.int (2 * (w + h))), .val (.int (w * h)), s4, .val (.int p), .val (.int g), .val (.bool (decide (g ∈ outL w h cs [p]))), s8, s9, s10, s11, s12, s13, s14, s15, s16, s17, s18, s19, s20, s21, s22, s23] = .nx [s0, .val (brd w h cs), .val (.int (2 * (w + h))), .val (.int (w * h)), s4, .val (.int p), .val (.int g), .val (.bool (decide (g ∈ outL w h cs [p]))), s8, s9, s10, s11, s12, s13, s14, s15, s16, s17, s18, s19, s20, s21, s22, s23] := by
  have e1 := reaches_t B hc p0 p1 g0 g1
  have e2 := alike_refl 8 (.bool (decide (g ∈ outL w h cs [p]))) rfl
  simp [e1, e2]
theorem u_due (B : Gb w h cs) (hc : cnt cs ≤ 8) (wh : w * h ≤ 6) {p g : Int} (p0 : 0 ≤ p) (p1 : p < 2 * (w + h)) (g0 : 0 ≤ g) (g1 : g < 2 * (w + h)) (s0 s4 s8 s9 s10 s11 s12 s13 s14 s15 s16 s17 s18 s19 s20 s21 s22 s23 : SV) :
    sSet 8 (dIf (dTru (dV 7)) (dOp oTuple (daC (dLc (dRg1 (daC (dV 3) daN)) [17] (gN 17) ct__law_case_1 (dV 17)) daN)) (dC .none)) [s0, .val (brd w h cs), .val (.int (2 * (w + h))), .val (.int (w * h)), s4, .val (.int p), .val (.int g), .val (.bool (decide (g ∈ outL w h cs [p]))), s8, s9, s10, s11, s12, s13, s14, s15, s16, s17, s18, s19, s20, s21, s22, s23] = .nx [s0, .val (brd w h cs), .val (.int (2 * (w + h))), .val (.int (w * h)), s4, .val (.int p), .val (.int g), .val (.bool (decide (g ∈ outL w h cs [p]))), .val (if g ∈ outL w h cs [p] then .tuple ((needL w h cs p g).map .int) else .none), s9, s10, s11, s12, s13, s14, s15, s16, s17, s18, s19, s20, s21, s22, s23] := by
  have hp : ∀ q ∈ [p], 0 ≤ q ∧ q < 2 * (w + h) := fun q hq => by rw [List.mem_singleton.mp hq]; exact ⟨p0, p1⟩
  have wp := B.pos
  have sm : small (w * h) = true := small_i (by omega) (by omega)
  have e := dLc1 (di := dRg1 (daC (dV 3) daN)) (v := 17) (dt := ct__law_case_1) (de := dV 17) (ρ := [s0, .val (brd w h cs), .val (.int (2 * (w + h))), .val (.int (w * h)), s4, .val (.int p), .val (.int g), .val (.bool (decide (g ∈ outL w h cs [p]))), s8, s9, s10, s11, s12, s13, s14, s15, s16, s17, s18, s19, s20, s21, s22, s23]) (ρ1 := [s0, .val (brd w h cs), .val (.int (2 * (w + h))), .val (.int (w * h)), s4, .val (.int p), .val (.int g), .val (.bool (decide (g ∈ outL w h cs [p]))), s8, s9, s10, s11, s12, s13, s14, s15, s16, s17, s18, s19, s20, s21, s22, s23]) (x := .none) (ds := (List.range (w * h).toNat).map fun i : Nat => .int (i : Int)) (p := shD w h cs p g) (g := fun d => d)
    (by simp [sm, rangeD0]) (by simp) (by simp; omega) (fun d hd => by
      obtain ⟨i, hi, rfl⟩ := List.mem_map.mp hd
      have q := law_shut_t B wh (pd := .list ([p].map .int)) (gd := .list ([g].map .int)) (sd := .list ([(i : Int)].map .int)) (ports := [p]) (goals := [g]) (some := [(i : Int)]) hp (by simp) (.inr rfl) (.inr rfl) (.inr rfl)
      simp only [List.map_cons, List.map_nil] at q
      simp [ct__law_case_1, q, shD]) (fun d hd hp => ⟨.t (.val d), by simp, rfl⟩)
  rw [List.map_id', List.filter_map] at e
  have eL : ((List.range (w * h).toNat).filter (shD w h cs p g ∘ fun i : Nat => (.int (i : Int) : D))).map (fun i : Nat => (.int (i : Int) : D)) = (needL w h cs p g).map .int := by
    rw [needL, List.map_map]
    rfl
  rw [eL] at e
  by_cases hg : g ∈ outL w h cs [p]
  · simp only [decide_eq_true hg, if_pos hg] at e ⊢
    simp [e, oTuple]
  · simp only [decide_eq_false hg, if_neg hg] at e ⊢
    simp
theorem okA_ints (n : Nat) (xs : List Int) (hl : xs.length ≤ 1000) : okA (n + 2) (.tuple (xs.map .int)) = true := by
  simp only [okA, Bool.and_eq_true, decide_eq_true_eq, List.all_eq_true]
  refine ⟨by simp; omega, fun d hd => ?_⟩
  obtain ⟨c, _, rfl⟩ := List.mem_map.mp hd
  rfl
theorem u_chk2 (B : Gb w h cs) (hc : cnt cs ≤ 8) (wh : w * h ≤ 6) {p g : Int} (p0 : 0 ≤ p) (p1 : p < 2 * (w + h)) (g0 : 0 ≤ g) (g1 : g < 2 * (w + h)) (s0 s4 s9 s10 s11 s12 s13 s14 s15 s16 s17 s18 s19 s20 s21 s22 s23 : SV) :
    sIf (dNot (dTru (dCall (f__law_alike 8) (daC (dCall f_needed (daC (dV 1) (daC (dV 5) (daC (dV 6) daN)))) (daC (dV 8) daN))))) (sRet (dC (.bool false))) sNil [s0, .val (brd w h cs), .val (.int (2 * (w + h))), .val (.int (w * h)), s4, .val (.int p), .val (.int g), .val (.bool (decide (g ∈ outL w h cs [p]))), .val (if g ∈ outL w h cs [p] then .tuple ((needL w h cs p g).map .int) else .none), s9, s10, s11, s12, s13, s14, s15, s16, s17, s18, s19, s20, s21, s22, s23] = .nx [s0, .val (brd w h cs), .val (.int (2 * (w + h))), .val (.int (w * h)), s4, .val (.int p), .val (.int g), .val (.bool (decide (g ∈ outL w h cs [p]))), .val (if g ∈ outL w h cs [p] then .tuple ((needL w h cs p g).map .int) else .none), s9, s10, s11, s12, s13, s14, s15, s16, s17, s18, s19, s20, s21, s22, s23] := by
  have e1 := needed_t B hc p0 p1 g0 g1
  have hl : (needL w h cs p g).length ≤ 1000 := by
    unfold needL
    rw [List.length_map]
    refine Nat.le_trans (List.length_filter_le _ _) ?_
    simp; omega
  by_cases hg : g ∈ outL w h cs [p]
  · rw [if_pos hg] at e1 ⊢
    have e2 := alike_refl 8 _ (okA_ints 6 (needL w h cs p g) hl)
    simp [e1, e2]
  · rw [if_neg hg] at e1 ⊢
    have e2 := alike_refl 8 .none rfl
    simp [e1, e2]
theorem u_ports (sc : List Int) {a b c : Int} (ok : RowOk a b c) (B : Gb w h cs) (wh : w * h ≤ 6) (s4 s5 s6 s7 s8 s9 s10 s11 s12 s13 s14 s15 s16 s17 s18 s19 s20 s21 s22 s23 : SV) :
    ∃ a' b' c', ∃ ps : List Int, RowOk a' b' c' ∧ PtOk (2 * (w + h)) ps ∧ sSet 9 (dOp oTuple (daC (dLc (dRg1 (daC (dV 2) daN)) [22] (gN 22) ct__law_case_2 (dV 22)) daN)) [.own (rowD sc a b c), .val (brd w h cs), .val (.int (2 * (w + h))), .val (.int (w * h)), s4, s5, s6, s7, s8, s9, s10, s11, s12, s13, s14, s15, s16, s17, s18, s19, s20, s21, s22, s23] = .nx [.own (rowD sc a' b' c'), .val (brd w h cs), .val (.int (2 * (w + h))), .val (.int (w * h)), s4, s5, s6, s7, s8, .val (tpD ps), s10, s11, s12, s13, s14, s15, s16, s17, s18, s19, s20, s21, s22, s23] := by
  have w1 := B.w1; have w2 := B.w2; have h1 := B.h1; have h2 := B.h2
  have wp := B.pos
  have sm : small (2 * (w + h)) = true := small_i (by omega) (by omega)
  obtain ⟨acc, ρ2, e, a', b', c', ps, rfl, i1, i2, i3, i4, rfl⟩ := dLc_ind (di := dRg1 (daC (dV 2) daN)) (vs := [22]) (dg := gN 22) (dt := ct__law_case_2) (de := dV 22) (ρ := [.own (rowD sc a b c), .val (brd w h cs), .val (.int (2 * (w + h))), .val (.int (w * h)), s4, s5, s6, s7, s8, s9, s10, s11, s12, s13, s14, s15, s16, s17, s18, s19, s20, s21, s22, s23]) (ρ1 := [.own (rowD sc a b c), .val (brd w h cs), .val (.int (2 * (w + h))), .val (.int (w * h)), s4, s5, s6, s7, s8, s9, s10, s11, s12, s13, s14, s15, s16, s17, s18, s19, s20, s21, s22, s23]) (x := .none) (ds := (List.range (2 * (w + h)).toNat).map fun k : Nat => .int (k : Int))
    (fun i acc ρ => ∃ a b c, ∃ ps : List Int, acc = ps.map .int ∧ ps.Pairwise (· < ·) ∧ (∀ p ∈ ps, 0 ≤ p ∧ p < (i : Int)) ∧ ps.length ≤ i ∧ RowOk a b c ∧ ρ = [.own (rowD sc a b c), .val (brd w h cs), .val (.int (2 * (w + h))), .val (.int (w * h)), s4, s5, s6, s7, s8, s9, s10, s11, s12, s13, s14, s15, s16, s17, s18, s19, s20, s21, .no, s23])
    (by simp [sm, rangeD0]) ⟨a, b, c, [], rfl, .nil, by simp, by simp, ok, by simp [wipeR]⟩ (by
      rintro i d acc ρ hd ⟨a, b, c, ps, rfl, i1, i2, i3, ok, rfl⟩
      have hi : i < (2 * (w + h)).toNat := by
        have := (List.getElem?_eq_some_iff.mp hd).1
        simpa using this
      rw [List.getElem?_map, List.getElem?_range hi] at hd
      cases hd
      obtain ⟨v, a1, b1, c1, e1, v0, v1, ok1⟩ := taken_ok sc ok (many := 4) (by decide) (by decide)
      by_cases hv : v = 0
      · refine ⟨(ps ++ [(i : Int)]).map .int, _, ?_, a1, b1, c1, ps ++ [(i : Int)], rfl, ?_, ?_, by simp; omega, ok1, rfl⟩
        · have hl : ps.length < 100000 := by omega
          simp [lcStep, ct__law_case_2, e1, hv, hl, wipeR]
        · rw [List.pairwise_append]
          refine ⟨i1, by simp, fun x hx y hy => ?_⟩
          rw [List.mem_singleton.mp hy]
          exact (i2 x hx).2
        · intro p hp
          rcases List.mem_append.mp hp with hp | hp
          · have := i2 p hp; omega
          · rw [List.mem_singleton.mp hp]; omega
      · refine ⟨ps.map .int, _, ?_, a1, b1, c1, ps, rfl, i1, fun p hp => by have := i2 p hp; omega, by omega, ok1, rfl⟩
        simp [lcStep, ct__law_case_2, e1, hv, wipeR])
  have hlen : ((List.range (2 * (w + h)).toNat).map fun k : Nat => (.int (k : Int) : D)).length = (2 * (w + h)).toNat := by simp
  rw [hlen] at i2 i3
  refine ⟨a', b', c', ps, i4, ⟨i1, fun p hp => by have := i2 p hp; omega, by omega⟩, ?_⟩
  simp [e, restR, wipeR, oTuple, tpD]
theorem u_goals (sc : List Int) {a b c : Int} (ok : RowOk a b c) (B : Gb w h cs) (wh : w * h ≤ 6) (s4 s5 s6 s7 s8 s9 s10 s11 s12 s13 s14 s15 s16 s17 s18 s19 s20 s21 s22 s23 : SV) :
    ∃ a' b' c', ∃ ps : List Int, RowOk a' b' c' ∧ PtOk (2 * (w + h)) ps ∧ sSet 10 (dOp oTuple (daC (dLc (dRg1 (daC (dV 2) daN)) [22] (gN 22) ct__law_case_3 (dV 22)) daN)) [.own (rowD sc a b c), .val (brd w h cs), .val (.int (2 * (w + h))), .val (.int (w * h)), s4, s5, s6, s7, s8, s9, s10, s11, s12, s13, s14, s15, s16, s17, s18, s19, s20, s21, s22, s23] = .nx [.own (rowD sc a' b' c'), .val (brd w h cs), .val (.int (2 * (w + h))), .val (.int (w * h)), s4, s5, s6, s7, s8, s9, .val (tpD ps), s11, s12, s13, s14, s15, s16, s17, s18, s19, s20, s21, s22, s23] := by
  have w1 := B.w1; have w2 := B.w2; have h1 := B.h1; have h2 := B.h2
  have wp := B.pos
  have sm : small (2 * (w + h)) = true := small_i (by omega) (by omega)
  obtain ⟨acc, ρ2, e, a', b', c', ps, rfl, i1, i2, i3, i4, rfl⟩ := dLc_ind (di := dRg1 (daC (dV 2) daN)) (vs := [22]) (dg := gN 22) (dt := ct__law_case_3) (de := dV 22) (ρ := [.own (rowD sc a b c), .val (brd w h cs), .val (.int (2 * (w + h))), .val (.int (w * h)), s4, s5, s6, s7, s8, s9, s10, s11, s12, s13, s14, s15, s16, s17, s18, s19, s20, s21, s22, s23]) (ρ1 := [.own (rowD sc a b c), .val (brd w h cs), .val (.int (2 * (w + h))), .val (.int (w * h)), s4, s5, s6, s7, s8, s9, s10, s11, s12, s13, s14, s15, s16, s17, s18, s19, s20, s21, s22, s23]) (x := .none) (ds := (List.range (2 * (w + h)).toNat).map fun k : Nat => .int (k : Int))
    (fun i acc ρ => ∃ a b c, ∃ ps : List Int, acc = ps.map .int ∧ ps.Pairwise (· < ·) ∧ (∀ p ∈ ps, 0 ≤ p ∧ p < (i : Int)) ∧ ps.length ≤ i ∧ RowOk a b c ∧ ρ = [.own (rowD sc a b c), .val (brd w h cs), .val (.int (2 * (w + h))), .val (.int (w * h)), s4, s5, s6, s7, s8, s9, s10, s11, s12, s13, s14, s15, s16, s17, s18, s19, s20, s21, .no, s23])
    (by simp [sm, rangeD0]) ⟨a, b, c, [], rfl, .nil, by simp, by simp, ok, by simp [wipeR]⟩ (by
      rintro i d acc ρ hd ⟨a, b, c, ps, rfl, i1, i2, i3, ok, rfl⟩
      have hi : i < (2 * (w + h)).toNat := by
        have := (List.getElem?_eq_some_iff.mp hd).1
        simpa using this
      rw [List.getElem?_map, List.getElem?_range hi] at hd
      cases hd
      obtain ⟨v, a1, b1, c1, e1, v0, v1, ok1⟩ := taken_ok sc ok (many := 3) (by decide) (by decide)
      by_cases hv : v = 0
      · refine ⟨(ps ++ [(i : Int)]).map .int, _, ?_, a1, b1, c1, ps ++ [(i : Int)], rfl, ?_, ?_, by simp; omega, ok1, rfl⟩
        · have hl : ps.length < 100000 := by omega
          simp [lcStep, ct__law_case_3, e1, hv, hl, wipeR]
        · rw [List.pairwise_append]
          refine ⟨i1, by simp, fun x hx y hy => ?_⟩
          rw [List.mem_singleton.mp hy]
          exact (i2 x hx).2
        · intro p hp
          rcases List.mem_append.mp hp with hp | hp
          · have := i2 p hp; omega
          · rw [List.mem_singleton.mp hp]; omega
      · refine ⟨ps.map .int, _, ?_, a1, b1, c1, ps, rfl, i1, fun p hp => by have := i2 p hp; omega, by omega, ok1, rfl⟩
        simp [lcStep, ct__law_case_3, e1, hv, wipeR])
  have hlen : ((List.range (2 * (w + h)).toNat).map fun k : Nat => (.int (k : Int) : D)).length = (2 * (w + h)).toNat := by simp
  rw [hlen] at i2 i3
  refine ⟨a', b', c', ps, i4, ⟨i1, fun p hp => by have := i2 p hp; omega, by omega⟩, ?_⟩
  simp [e, restR, wipeR, oTuple, tpD]
theorem u_value (sc : List Int) {a b c : Int} (ok : RowOk a b c) (B : Gb w h cs) (wh : w * h ≤ 6) (s4 s5 s6 s7 s8 s9 s10 s11 s12 s13 s14 s15 s16 s17 s18 s19 s20 s21 s22 s23 : SV) :
    ∃ a' b' c', ∃ ps : List Int, RowOk a' b' c' ∧ PtOk (w * h) ps ∧ sSet 16 (dOp oTuple (daC (dLc (dRg1 (daC (dV 3) daN)) [17] (gN 17) ct__law_case_5 (dV 17)) daN)) [.own (rowD sc a b c), .val (brd w h cs), .val (.int (2 * (w + h))), .val (.int (w * h)), s4, s5, s6, s7, s8, s9, s10, s11, s12, s13, s14, s15, s16, s17, s18, s19, s20, s21, s22, s23] = .nx [.own (rowD sc a' b' c'), .val (brd w h cs), .val (.int (2 * (w + h))), .val (.int (w * h)), s4, s5, s6, s7, s8, s9, s10, s11, s12, s13, s14, s15, .val (tpD ps), s17, s18, s19, s20, s21, s22, s23] := by
  have w1 := B.w1; have w2 := B.w2; have h1 := B.h1; have h2 := B.h2
  have wp := B.pos
  have sm : small (w * h) = true := small_i (by omega) (by omega)
  obtain ⟨acc, ρ2, e, a', b', c', ps, rfl, i1, i2, i3, i4, rfl⟩ := dLc_ind (di := dRg1 (daC (dV 3) daN)) (vs := [17]) (dg := gN 17) (dt := ct__law_case_5) (de := dV 17) (ρ := [.own (rowD sc a b c), .val (brd w h cs), .val (.int (2 * (w + h))), .val (.int (w * h)), s4, s5, s6, s7, s8, s9, s10, s11, s12, s13, s14, s15, s16, s17, s18, s19, s20, s21, s22, s23]) (ρ1 := [.own (rowD sc a b c), .val (brd w h cs), .val (.int (2 * (w + h))), .val (.int (w * h)), s4, s5, s6, s7, s8, s9, s10, s11, s12, s13, s14, s15, s16, s17, s18, s19, s20, s21, s22, s23]) (x := .none) (ds := (List.range (w * h).toNat).map fun k : Nat => .int (k : Int))
    (fun i acc ρ => ∃ a b c, ∃ ps : List Int, acc = ps.map .int ∧ ps.Pairwise (· < ·) ∧ (∀ p ∈ ps, 0 ≤ p ∧ p < (i : Int)) ∧ ps.length ≤ i ∧ RowOk a b c ∧ ρ = [.own (rowD sc a b c), .val (brd w h cs), .val (.int (2 * (w + h))), .val (.int (w * h)), s4, s5, s6, s7, s8, s9, s10, s11, s12, s13, s14, s15, s16, .no, s18, s19, s20, s21, s22, s23])
    (by simp [sm, rangeD0]) ⟨a, b, c, [], rfl, .nil, by simp, by simp, ok, by simp [wipeR]⟩ (by
      rintro i d acc ρ hd ⟨a, b, c, ps, rfl, i1, i2, i3, ok, rfl⟩
      have hi : i < (w * h).toNat := by
        have := (List.getElem?_eq_some_iff.mp hd).1
        simpa using this
      rw [List.getElem?_map, List.getElem?_range hi] at hd
      cases hd
      obtain ⟨v, a1, b1, c1, e1, v0, v1, ok1⟩ := taken_ok sc ok (many := 2) (by decide) (by decide)
      by_cases hv : v = 0
      · refine ⟨(ps ++ [(i : Int)]).map .int, _, ?_, a1, b1, c1, ps ++ [(i : Int)], rfl, ?_, ?_, by simp; omega, ok1, rfl⟩
        · have hl : ps.length < 100000 := by omega
          simp [lcStep, ct__law_case_5, e1, hv, hl, wipeR]
        · rw [List.pairwise_append]
          refine ⟨i1, by simp, fun x hx y hy => ?_⟩
          rw [List.mem_singleton.mp hy]
          exact (i2 x hx).2
        · intro p hp
          rcases List.mem_append.mp hp with hp | hp
          · have := i2 p hp; omega
          · rw [List.mem_singleton.mp hp]; omega
      · refine ⟨ps.map .int, _, ?_, a1, b1, c1, ps, rfl, i1, fun p hp => by have := i2 p hp; omega, by omega, ok1, rfl⟩
        simp [lcStep, ct__law_case_5, e1, hv, wipeR])
  have hlen : ((List.range (w * h).toNat).map fun k : Nat => (.int (k : Int) : D)).length = (w * h).toNat := by simp
  rw [hlen] at i2 i3
  refine ⟨a', b', c', ps, i4, ⟨i1, fun p hp => by have := i2 p hp; omega, by omega⟩, ?_⟩
  simp [e, restR, wipeR, oTuple, tpD]
end
end G

set_option Elab.async false
set_option linter.all false
set_option maxRecDepth 100000
set_option maxHeartbeats 4000000
/-! PuIa: law k23, the turns of _law_case (printed by mk23.py). -/
namespace G
open PySem PySem.Spec PyProof.Rows L2 PD Bm
/-- all rows of at most m cells -/
def allR (w h : Int) (m : Nat) : List (List Int) := (List.range (m + 1)).flatMap fun k => rws (w * h).toNat k
theorem find_fm {α β : Type} (f : α → List β) (p : β → Bool) : ∀ l : List α, ((l.flatMap f).filter p).head? = l.findSome? fun x => (f x).find? p
  | [] => rfl
  | x :: l => by
    rw [List.flatMap_cons, List.filter_append, List.head?_append, find_fm f p l, List.findSome?_cons, List.head?_filter]
    cases (f x).find? p <;> rfl
section
variable {w h : Int} {cs : List Int}
theorem u_most (sc : List Int) {a b c : Int} (ok : RowOk a b c) (s4 s5 s6 s7 s8 s9 s10 s11 s12 s13 s14 s15 s16 s17 s18 s19 s20 s21 s22 s23 : SV) :
    ∃ a' b' c', ∃ m : Nat, RowOk a' b' c' ∧ m ≤ 3 ∧ sSet 11 (dCallIo f__law_taken 0 (daC (dC (.int 4)) daN)) [.own (rowD sc a b c), .val (brd w h cs), .val (.int (2 * (w + h))), .val (.int (w * h)), s4, s5, s6, s7, s8, s9, s10, s11, s12, s13, s14, s15, s16, s17, s18, s19, s20, s21, s22, s23] = .nx [.own (rowD sc a' b' c'), .val (brd w h cs), .val (.int (2 * (w + h))), .val (.int (w * h)), s4, s5, s6, s7, s8, s9, s10, .val (.int (m : Int)), s12, s13, s14, s15, s16, s17, s18, s19, s20, s21, s22, s23] := by
  obtain ⟨v1, a1, b1, c1, e1, p1, p1', ok1⟩ := taken_ok sc ok (many := 4) (by decide) (by decide)
  obtain ⟨m, rfl⟩ := Int.eq_ofNat_of_zero_le p1
  exact ⟨a1, b1, c1, m, ok1, by omega, by simp [e1]⟩
theorem u_some (m : Nat) (hm : m ≤ 3) (s0 s4 s5 s6 s7 s8 s9 s10 s12 s13 s14 s15 s16 s17 s18 s19 s20 s21 s22 s23 : SV) :
    sSet 12 (dFz (dLc (dRg2 (daC (dC (.int 0)) (daC (dOp oAdd (daC (dV 11) (daC (dC (.int 1)) daN))) daN))) [22] (gN 22) dYes (dV 22))) [s0, .val (brd w h cs), .val (.int (2 * (w + h))), .val (.int (w * h)), s4, s5, s6, s7, s8, s9, s10, .val (.int (m : Int)), s12, s13, s14, s15, s16, s17, s18, s19, s20, s21, s22, s23] = .nx [s0, .val (brd w h cs), .val (.int (2 * (w + h))), .val (.int (w * h)), s4, s5, s6, s7, s8, s9, s10, .val (.int (m : Int)), .val (.list ((List.range (m + 1)).map fun k : Nat => .int (k : Int))), s13, s14, s15, s16, s17, s18, s19, s20, s21, s22, s23] := by
  have sm : small ((m : Int) + 1) = true := small_i (by omega) (by omega)
  have s0' : small 0 = true := by decide
  have er : rangeD 0 ((m : Int) + 1) = (List.range (m + 1)).map fun k : Nat => (.int (k : Int) : D) := by
    rw [rangeD0, show ((m : Int) + 1).toNat = m + 1 by omega]
  have e := dLc1y (di := dRg2 (daC (dC (.int 0)) (daC (dOp oAdd (daC (dV 11) (daC (dC (.int 1)) daN))) daN))) (v := 22) (de := dV 22) (ρ := [s0, .val (brd w h cs), .val (.int (2 * (w + h))), .val (.int (w * h)), s4, s5, s6, s7, s8, s9, s10, .val (.int (m : Int)), s12, s13, s14, s15, s16, s17, s18, s19, s20, s21, s22, s23]) (ρ1 := [s0, .val (brd w h cs), .val (.int (2 * (w + h))), .val (.int (w * h)), s4, s5, s6, s7, s8, s9, s10, .val (.int (m : Int)), s12, s13, s14, s15, s16, s17, s18, s19, s20, s21, s22, s23]) (x := .none) (ds := (List.range (m + 1)).map fun k : Nat => .int (k : Int)) (g := fun d => d)
    (by simp [sm, s0', er]) (by simp) (by simp; omega) (fun d hd => ⟨.t (.val d), by simp, rfl⟩)
  rw [List.map_id'] at e
  generalize ((List.range (m + 1)).map fun k : Nat => (.int (k : Int) : D)) = L at e ⊢
  simp [e]
theorem u_rows (B : Gb w h cs) (wh : w * h ≤ 6) (m : Nat) (hm : m ≤ 3) (s0 s4 s5 s6 s7 s8 s9 s10 s11 s13 s14 s15 s16 s17 s18 s19 s20 s21 s22 s23 : SV) :
    sSet 13 (dFz (dLcG (dIt (dV 12)) [15, 18] (gN 15) dYes (dIt (dCall f__law_rows (daC (dLR (dV 3)) (daC (dV 15) daN)))) [18] (gN 18) dYes (dV 18))) [s0, .val (brd w h cs), .val (.int (2 * (w + h))), .val (.int (w * h)), s4, s5, s6, s7, s8, s9, s10, s11, .val (.list ((List.range (m + 1)).map fun k : Nat => .int (k : Int))), s13, s14, s15, s16, s17, s18, s19, s20, s21, s22, s23] = .nx [s0, .val (brd w h cs), .val (.int (2 * (w + h))), .val (.int (w * h)), s4, s5, s6, s7, s8, s9, s10, s11, .val (.list ((List.range (m + 1)).map fun k : Nat => .int (k : Int))), .val (.list ((allR w h m).map tpD)), s14, s15, s16, s17, s18, s19, s20, s21, s22, s23] := by
  have wp := B.pos
  have sm : small (w * h) = true := small_i (by omega) (by omega)
  have er : rangeD 0 (w * h) = idD (w * h).toNat := by rw [rangeD0]; rfl
  have hn : (w * h).toNat ≤ 12 := by omega
  have key := dLcG1w (di := dIt (dV 12)) (di1 := dIt (dCall f__law_rows (daC (dLR (dV 3)) (daC (dV 15) daN)))) (v := 15) (u := 18) (dt := dYes) (de := dV 18) (ρ := [s0, .val (brd w h cs), .val (.int (2 * (w + h))), .val (.int (w * h)), s4, s5, s6, s7, s8, s9, s10, s11, .val (.list ((List.range (m + 1)).map fun k : Nat => .int (k : Int))), s13, s14, s15, s16, s17, s18, s19, s20, s21, s22, s23]) (ρ1 := [s0, .val (brd w h cs), .val (.int (2 * (w + h))), .val (.int (w * h)), s4, s5, s6, s7, s8, s9, s10, s11, .val (.list ((List.range (m + 1)).map fun k : Nat => .int (k : Int))), s13, s14, s15, s16, s17, s18, s19, s20, s21, s22, s23]) (x := .list ((List.range (m + 1)).map fun k : Nat => .int (k : Int))) (ds := (List.range (m + 1)).map fun k : Nat => .int (k : Int))
    (xs := fun d => match d with | .int k => (rws (w * h).toNat k.toNat).map tpD | _ => []) (p := fun _ _ => true) (g := fun _ y => y)
    (by simp) (by simp) (by simp) (by decide) (by
      rw [List.flatMap_map, List.length_flatMap]
      have : ∀ k ∈ List.range (m + 1), (((rws (w * h).toNat ((k : Int)).toNat).map tpD).length) ≤ 1000 := fun k hk => by
        have := List.mem_range.mp hk
        rw [List.length_map]
        exact rws_small _ hn _ (by omega)
      have sum_le : ∀ l : List Nat, (∀ k ∈ l, (((rws (w * h).toNat ((k : Int)).toNat).map tpD).length) ≤ 1000) → (l.map fun k : Nat => (((rws (w * h).toNat ((k : Int)).toNat).map tpD).length)).sum ≤ 1000 * l.length := by
        intro l
        induction l with
        | nil => intro _; simp
        | cons k l ih =>
          intro hl
          have h1 := hl k List.mem_cons_self
          have h2 := ih fun k hk => hl k (List.mem_cons_of_mem _ hk)
          rw [List.map_cons, List.sum_cons, List.length_cons]
          omega
      have q := sum_le (List.range (m + 1)) this
      rw [List.length_range] at q
      exact Nat.le_trans q (by omega))
    (fun d hd => by
      obtain ⟨k, hk, rfl⟩ := List.mem_map.mp hd
      have hk := List.mem_range.mp hk
      have e := law_rows_t (w * h).toNat k hn (by omega)
      exact ⟨.list ((rws (w * h).toNat k).map tpD), by simp [sm, er, e]⟩)
    (fun d hd y hy => rfl)
    (fun d hd y hy hp => ⟨.t (.val y), by simp, rfl⟩)
  have eL : ((List.range (m + 1)).map fun k : Nat => (.int (k : Int) : D)).flatMap (fun d => ((match d with | .int k => (rws (w * h).toNat k.toNat).map tpD | _ => [] : List D).filter fun _ => true).map fun y => y) = (allR w h m).map tpD := by
    rw [List.flatMap_map, allR, List.map_flatMap]
    congr 1
    funext k
    rw [List.map_id', List.filter_eq_self.mpr (fun _ _ => rfl)]
    rfl
  have key' : dLcG (dIt (dV 12)) [15, 18] (gN 15) dYes (dIt (dCall f__law_rows (daC (dLR (dV 3)) (daC (dV 15) daN)))) [18] (gN 18) dYes (dV 18) [s0, .val (brd w h cs), .val (.int (2 * (w + h))), .val (.int (w * h)), s4, s5, s6, s7, s8, s9, s10, s11, .val (.list ((List.range (m + 1)).map fun k : Nat => .int (k : Int))), s13, s14, s15, s16, s17, s18, s19, s20, s21, s22, s23] = .ok (.t (.own (.list ((allR w h m).map tpD)))) [s0, .val (brd w h cs), .val (.int (2 * (w + h))), .val (.int (w * h)), s4, s5, s6, s7, s8, s9, s10, s11, .val (.list ((List.range (m + 1)).map fun k : Nat => .int (k : Int))), s13, s14, s15, s16, s17, s18, s19, s20, s21, s22, s23] := by
    rw [← eL]; exact key
  generalize ((List.range (m + 1)).map fun k : Nat => (.int (k : Int) : D)) = L at key' ⊢
  simp [key']
theorem allR_len (w h : Int) (wh : w * h ≤ 6) (m : Nat) (hm : m ≤ 3) : (allR w h m).length ≤ 4000 := by
  have hn : (w * h).toNat ≤ 12 := by omega
  have : ∀ l : List Nat, (∀ k ∈ l, k ≤ 12) → (l.flatMap fun k => rws (w * h).toNat k).length ≤ 1000 * l.length := by
    intro l
    induction l with
    | nil => intro _; simp
    | cons k l ih =>
      intro hl
      have h1 := rws_small _ hn k (hl k List.mem_cons_self)
      have h2 := ih fun k hk => hl k (List.mem_cons_of_mem _ hk)
      rw [List.flatMap_cons, List.length_append, List.length_cons]
      omega
  have q := this (List.range (m + 1)) fun k hk => by have := List.mem_range.mp hk; omega
  rw [List.length_range] at q
  exact Nat.le_trans q (by omega)
noncomputable def shR (w h : Int) (cs ports goals : List Int) : D → Bool
  | .tuple ds => (match intsOf ds with
    | some r => shutB w h (blk cs r) ports goals
    | none => false)
  | _ => false
theorem shR_t (w h : Int) (cs ports goals r : List Int) : shR w h cs ports goals (tpD r) = shutB w h (blk cs r) ports goals := by simp [shR, tpD, intsOf_map]
theorem u_fine (B : Gb w h cs) (hc : cnt cs ≤ 8) (wh : w * h ≤ 6) {ports goals : List Int} (Pp : PtOk (2 * (w + h)) ports) (Pg : PtOk (2 * (w + h)) goals) (m : Nat) (hm : m ≤ 3) (s0 s4 s5 s6 s7 s8 s11 s12 s14 s15 s16 s17 s18 s19 s20 s21 s22 s23 : SV) :
    sSet 14 (dFz (dLc (dIt (dV 13)) [18] (gN 18) ct__law_case_4 (dV 18))) [s0, .val (brd w h cs), .val (.int (2 * (w + h))), .val (.int (w * h)), s4, s5, s6, s7, s8, .val (tpD ports), .val (tpD goals), s11, s12, .val (.list ((allR w h m).map tpD)), s14, s15, s16, s17, s18, s19, s20, s21, s22, s23] = .nx [s0, .val (brd w h cs), .val (.int (2 * (w + h))), .val (.int (w * h)), s4, s5, s6, s7, s8, .val (tpD ports), .val (tpD goals), s11, s12, .val (.list ((allR w h m).map tpD)), .val (.list (((allR w h m).filter fun r => shutB w h (blk cs r) ports goals).map tpD)), s15, s16, s17, s18, s19, s20, s21, s22, s23] := by
  have hl := allR_len w h wh m hm
  have e := dLc1 (di := dIt (dV 13)) (v := 18) (dt := ct__law_case_4) (de := dV 18) (ρ := [s0, .val (brd w h cs), .val (.int (2 * (w + h))), .val (.int (w * h)), s4, s5, s6, s7, s8, .val (tpD ports), .val (tpD goals), s11, s12, .val (.list ((allR w h m).map tpD)), s14, s15, s16, s17, s18, s19, s20, s21, s22, s23]) (ρ1 := [s0, .val (brd w h cs), .val (.int (2 * (w + h))), .val (.int (w * h)), s4, s5, s6, s7, s8, .val (tpD ports), .val (tpD goals), s11, s12, .val (.list ((allR w h m).map tpD)), s14, s15, s16, s17, s18, s19, s20, s21, s22, s23]) (x := .list ((allR w h m).map tpD)) (ds := (allR w h m).map tpD) (p := shR w h cs ports goals) (g := fun d => d)
    (by simp) (by simp) (by simp; omega) (fun d hd => by
      obtain ⟨r, hr, rfl⟩ := List.mem_map.mp hd
      have q := law_shut_t B wh (pd := tpD ports) (gd := tpD goals) (sd := tpD r) (ports := ports) (goals := goals) (some := r) Pp.rng Pp.len (.inl rfl) (.inl rfl) (.inl rfl)
      rw [shR_t]
      simp [ct__law_case_4, q]) (fun d hd hp => ⟨.t (.val d), by simp, rfl⟩)
  rw [List.map_id', List.filter_map] at e
  rw [show List.filter (shR w h cs ports goals ∘ tpD) (allR w h m) = (allR w h m).filter fun r => shutB w h (blk cs r) ports goals from List.filter_congr fun r _ => shR_t _ _ _ _ _ r] at e
  simp [e]
theorem u_chk3 (B : Gb w h cs) (hc : cnt cs ≤ 8) (wh : w * h ≤ 6) {ports goals : List Int} (Pp : PtOk (2 * (w + h)) ports) (Pg : PtOk (2 * (w + h)) goals) (m : Nat) (hm : m ≤ 3) (s0 s4 s5 s6 s7 s8 s12 s13 s15 s16 s17 s18 s19 s20 s21 s22 s23 : SV) :
    sIf (dNot (dTru (dCall (f__law_alike 8) (daC (dCall f_fewest_blocks (daApp (daC (dV 1) (daC (dV 9) (daC (dV 10) daN))) (daC (dV 11) daN))) (daC (dIf (dTst (dOp oNe (daC (dV 14) (daC (dLst daN) daN)))) (dOp oIx (daC (dV 14) (daC (dC (.int 0)) daN))) (dC .none)) daN))))) (sRet (dC (.bool false))) sNil [s0, .val (brd w h cs), .val (.int (2 * (w + h))), .val (.int (w * h)), s4, s5, s6, s7, s8, .val (tpD ports), .val (tpD goals), .val (.int (m : Int)), s12, s13, .val (.list (((allR w h m).filter fun r => shutB w h (blk cs r) ports goals).map tpD)), s15, s16, s17, s18, s19, s20, s21, s22, s23] = .nx [s0, .val (brd w h cs), .val (.int (2 * (w + h))), .val (.int (w * h)), s4, s5, s6, s7, s8, .val (tpD ports), .val (tpD goals), .val (.int (m : Int)), s12, s13, .val (.list (((allR w h m).filter fun r => shutB w h (blk cs r) ports goals).map tpD)), s15, s16, s17, s18, s19, s20, s21, s22, s23] := by
  have e1 := fewest_blocks_t B hc wh Pp Pg m hm
  have hh := find_fm (fun k => rws (w * h).toNat k) (fun r => shutB w h (blk cs r) ports goals) (List.range (m + 1))
  have hf : ((allR w h m).filter fun r => shutB w h (blk cs r) ports goals).head? = fewB w h cs ports goals m := hh
  have en := oNe_nilG (((allR w h m).filter fun r => shutB w h (blk cs r) ports goals).map tpD) (okIs_all.mpr fun d hd => by
    obtain ⟨r, _, rfl⟩ := List.mem_map.mp hd
    exact okI_mono 1 _ (by simpa [tpD, okI] using okIs_intsG 0 r))
  have mem : ∀ r ∈ allR w h m, r.length ≤ 100 := fun r hr => by
    unfold allR at hr
    obtain ⟨k, hk, hr⟩ := List.mem_flatMap.mp hr
    have := (rws_len _ k r hr).1
    have := List.mem_range.mp hk
    omega
  rw [← hf] at e1
  cases hr : (allR w h m).filter (fun r => shutB w h (blk cs r) ports goals) with
  | nil =>
    rw [hr] at en e1
    have e2 := alike_refl 8 .none rfl
    simp only [List.map_nil, List.head?_nil, otD] at en e1
    simp [e1, en, e2]
  | cons r l =>
    rw [hr] at en e1
    have hrm : r ∈ allR w h m := (List.mem_filter.mp (hr ▸ List.mem_cons_self)).1
    have e2 := alike_refl 8 (tpD r) (okA_ints 6 r (by have := mem r hrm; omega))
    have ix : oIx [.list (tpD r :: l.map tpD), .int 0] = .v (tpD r) := oIx_l (PD.atI_nat (i := 0) rfl)
    simp only [List.map_cons, List.head?_cons, otD] at en e1 ⊢
    simp [e1, en, e2, ix]
end
end G

set_option Elab.async false
set_option linter.all false
set_option maxRecDepth 100000
set_option maxHeartbeats 4000000
/-! PuIb: law k23, a turn of _law_case (printed by mk23.py). -/
namespace G
open PySem PySem.Spec PyProof.Rows L2 PD Bm
section
variable {w h : Int} {cs : List Int}
theorem u_block (B : Gb w h cs) (hc : cnt cs ≤ 8) (wh : w * h ≤ 6) {ports goals : List Int} (Pp : PtOk (2 * (w + h)) ports) (Pg : PtOk (2 * (w + h)) goals) {vs : List Int} (Pv : PtOk (w * h) vs) (s0 s4 s5 s6 s7 s8 s11 s12 s13 s14 s15 s17 s18 s19 s20 s21 s22 s23 : SV) :
    sIf (dTst (dOp oIsNotB (daC (dCall f_is_blocking (daApp (daC (dV 1) (daC (dV 9) (daC (dV 10) daN))) (daC (dV 16) daN))) (daC (dCall f__law_shut (daC (dV 1) (daC (dV 9) (daC (dV 10) (daC (dV 16) daN))))) daN)))) (sRet (dC (.bool false))) sNil [s0, .val (brd w h cs), .val (.int (2 * (w + h))), .val (.int (w * h)), s4, s5, s6, s7, s8, .val (tpD ports), .val (tpD goals), s11, s12, s13, s14, s15, .val (tpD vs), s17, s18, s19, s20, s21, s22, s23] = .nx [s0, .val (brd w h cs), .val (.int (2 * (w + h))), .val (.int (w * h)), s4, s5, s6, s7, s8, .val (tpD ports), .val (tpD goals), s11, s12, s13, s14, s15, .val (tpD vs), s17, s18, s19, s20, s21, s22, s23] := by
  have e1 := is_blocking_ok B hc Pp Pg Pv
  have e2 := law_shut_t B wh (pd := tpD ports) (gd := tpD goals) (sd := tpD vs) (ports := ports) (goals := goals) (some := vs) Pp.rng Pp.len (.inl rfl) (.inl rfl) (.inl rfl)
  cases hz : shutB w h (blk cs vs) ports goals with
  | true => rw [hz] at e1 e2; simp [e1, e2, oIsNotB]
  | false => rw [hz] at e1 e2; simp [e1, e2, oIsNotB]
theorem u_four (sc : List Int) {a b c : Int} (ok : RowOk a b c) (B : Gb w h cs) (hc : cnt cs ≤ 8) (wh : w * h ≤ 6) {ports goals : List Int} (Pp : PtOk (2 * (w + h)) ports) (Pg : PtOk (2 * (w + h)) goals) (s4 s5 s6 s7 s8 s11 s12 s13 s14 s15 s16 s17 s18 s19 s20 s21 s22 s23 : SV) :
    ∃ a' b' c' s15' s16', RowOk a' b' c' ∧ sFor (dRg1 (daC (dC (.int 4)) daN)) (gN 15) lb__law_case_6 [.own (rowD sc a b c), .val (brd w h cs), .val (.int (2 * (w + h))), .val (.int (w * h)), s4, s5, s6, s7, s8, .val (tpD ports), .val (tpD goals), s11, s12, s13, s14, s15, s16, s17, s18, s19, s20, s21, s22, s23] = .nx [.own (rowD sc a' b' c'), .val (brd w h cs), .val (.int (2 * (w + h))), .val (.int (w * h)), s4, s5, s6, s7, s8, .val (tpD ports), .val (tpD goals), s11, s12, s13, s14, s15', s16', s17, s18, s19, s20, s21, s22, s23] := by
  obtain ⟨ρ', l1, a', b', c', y15, y16, ok', rfl⟩ := forL_ind (dg := gN 15) (b := lb__law_case_6)
    (fun _ ρ => ∃ a b c y15 y16, RowOk a b c ∧ ρ = [.own (rowD sc a b c), .val (brd w h cs), .val (.int (2 * (w + h))), .val (.int (w * h)), s4, s5, s6, s7, s8, .val (tpD ports), .val (tpD goals), s11, s12, s13, s14, y15, y16, s17, s18, s19, s20, s21, s22, s23])
    (rangeD 0 4) 0 [.own (rowD sc a b c), .val (brd w h cs), .val (.int (2 * (w + h))), .val (.int (w * h)), s4, s5, s6, s7, s8, .val (tpD ports), .val (tpD goals), s11, s12, s13, s14, s15, s16, s17, s18, s19, s20, s21, s22, s23] ⟨a, b, c, s15, s16, ok, rfl⟩ (by
      rintro i d ρ hd ⟨a, b, c, y15, y16, ok, rfl⟩
      obtain ⟨a1, b1, c1, vs, ok1, Pv, e1⟩ := u_value sc ok B wh s4 s5 s6 s7 s8 (.val (tpD ports)) (.val (tpD goals)) s11 s12 s13 s14 (.val d) y16 s17 s18 s19 s20 s21 s22 s23
      have e2 := u_block B hc wh Pp Pg Pv (.own (rowD sc a1 b1 c1)) s4 s5 s6 s7 s8 s11 s12 s13 s14 (.val d) s17 s18 s19 s20 s21 s22 s23
      refine ⟨[.own (rowD sc a b c), .val (brd w h cs), .val (.int (2 * (w + h))), .val (.int (w * h)), s4, s5, s6, s7, s8, .val (tpD ports), .val (tpD goals), s11, s12, s13, s14, .val d, y16, s17, s18, s19, s20, s21, s22, s23], [.own (rowD sc a1 b1 c1), .val (brd w h cs), .val (.int (2 * (w + h))), .val (.int (w * h)), s4, s5, s6, s7, s8, .val (tpD ports), .val (tpD goals), s11, s12, s13, s14, .val d, .val (tpD vs), s17, s18, s19, s20, s21, s22, s23], rfl, .inl ?_, a1, b1, c1, _, _, ok1, rfl⟩
      unfold lb__law_case_6
      rw [e_sSeq, e1, SO.seq_e1, e2])
  have sm : small 4 = true := by decide
  exact ⟨a', b', c', y15, y16, ok', by simp [sm, l1]⟩
theorem u_turn (sc : List Int) {a b c : Int} (ok : RowOk a b c) (B : Gb w h cs) (hc : cnt cs ≤ 8) (wh : w * h ≤ 6) (s4 s5 s6 s7 s8 s9 s10 s11 s12 s13 s14 s15 s16 s17 s18 s19 s20 s21 s22 s23 : SV) :
    ∃ ρ', lb__law_case_7 [.own (rowD sc a b c), .val (brd w h cs), .val (.int (2 * (w + h))), .val (.int (w * h)), s4, s5, s6, s7, s8, s9, s10, s11, s12, s13, s14, s15, s16, s17, s18, s19, s20, s21, s22, s23] = .nx ρ' ∧ (fun ρ => ∃ a b c s5 s6 s7 s8 s9 s10 s11 s12 s13 s14 s15 s16, RowOk a b c ∧ ρ = [.own (rowD sc a b c), .val (brd w h cs), .val (.int (2 * (w + h))), .val (.int (w * h)), s4, s5, s6, s7, s8, s9, s10, s11, s12, s13, s14, s15, s16, s17, s18, s19, s20, s21, s22, s23]) ρ' := by
  obtain ⟨a1, b1, c1, p, g, ok1, p0, p1, g0, g1, q1⟩ := u_pg sc ok B s4 s5 s6 s7 s8 s9 s10 s11 s12 s13 s14 s15 s16 s17 s18 s19 s20 s21 s22 s23
  obtain ⟨a2, b2, c2, ports, ok2, Pp, q6⟩ := u_ports sc ok1 B wh s4 (.val (.int p)) (.val (.int g)) (.val (.bool (decide (g ∈ outL w h cs [p])))) (.val (if g ∈ outL w h cs [p] then .tuple ((needL w h cs p g).map .int) else .none)) s9 s10 s11 s12 s13 s14 s15 s16 s17 s18 s19 s20 s21 s22 s23
  obtain ⟨a3, b3, c3, goals, ok3, Pg, q7⟩ := u_goals sc ok2 B wh s4 (.val (.int p)) (.val (.int g)) (.val (.bool (decide (g ∈ outL w h cs [p])))) (.val (if g ∈ outL w h cs [p] then .tuple ((needL w h cs p g).map .int) else .none)) (.val (tpD ports)) s10 s11 s12 s13 s14 s15 s16 s17 s18 s19 s20 s21 s22 s23
  obtain ⟨a4, b4, c4, m, ok4, hm, q8⟩ := u_most (w := w) (h := h) (cs := cs) sc ok3 s4 (.val (.int p)) (.val (.int g)) (.val (.bool (decide (g ∈ outL w h cs [p])))) (.val (if g ∈ outL w h cs [p] then .tuple ((needL w h cs p g).map .int) else .none)) (.val (tpD ports)) (.val (tpD goals)) s11 s12 s13 s14 s15 s16 s17 s18 s19 s20 s21 s22 s23
  obtain ⟨a5, b5, c5, y15, y16, ok5, q13⟩ := u_four sc ok4 B hc wh Pp Pg s4 (.val (.int p)) (.val (.int g)) (.val (.bool (decide (g ∈ outL w h cs [p])))) (.val (if g ∈ outL w h cs [p] then .tuple ((needL w h cs p g).map .int) else .none)) (.val (.int (m : Int))) (.val (.list ((List.range (m + 1)).map fun k : Nat => .int (k : Int)))) (.val (.list ((allR w h m).map tpD))) (.val (.list (((allR w h m).filter fun r => shutB w h (blk cs r) ports goals).map tpD))) s15 s16 s17 s18 s19 s20 s21 s22 s23
  unfold lb__law_case_7
  exact seq_nx q1 (seq_nx (u_fits B hc wh p0 p1 g0 g1 _ _ _ _ _ _ _ _ _ _ _ _ _ _ _ _ _ _ _) (seq_nx (u_chk1 B hc wh p0 p1 g0 g1 _ _ _ _ _ _ _ _ _ _ _ _ _ _ _ _ _ _) (seq_nx (u_due B hc wh p0 p1 g0 g1 _ _ _ _ _ _ _ _ _ _ _ _ _ _ _ _ _ _) (seq_nx (u_chk2 B hc wh p0 p1 g0 g1 _ _ _ _ _ _ _ _ _ _ _ _ _ _ _ _ _) (seq_nx q6 (seq_nx q7 (seq_nx q8 (seq_nx (u_some m hm _ _ _ _ _ _ _ _ _ _ _ _ _ _ _ _ _ _ _ _) (seq_nx (u_rows B wh m hm _ _ _ _ _ _ _ _ _ _ _ _ _ _ _ _ _ _ _ _) (seq_nx (u_fine B hc wh Pp Pg m hm _ _ _ _ _ _ _ _ _ _ _ _ _ _ _ _ _ _) (seq_nx (u_chk3 B hc wh Pp Pg m hm _ _ _ _ _ _ _ _ _ _ _ _ _ _ _ _ _) ⟨_, q13, a5, b5, c5, _, _, _, _, _, _, _, _, _, _, _, _, ok5, rfl⟩)))))))))))
end
end G

set_option Elab.async false
set_option linter.all false
set_option maxRecDepth 100000
set_option maxHeartbeats 4000000
/-! PuIc: law k23, what is shut off; refusals (printed by mk23.py). -/
namespace G
open PySem PySem.Spec PyProof.Rows L2 PD Bm
section
variable {w h : Int} {cs : List Int}
theorem v_cells (B : Gb w h cs) (c0 : Int) (s0 s4 s5 s6 s7 s8 s9 s10 s11 s12 s13 s14 s15 s16 s18 s19 s20 s21 s22 s23 : SV) :
    sSet 18 (dOp oTuple (daC (dLc (dEn (daC (dOp oIx (daC (dV 1) (daC (dC (.int 2)) daN))) daN)) [23, 22] (gT (gsC (gN 23) (gsC (gN 22) gsN)) 2) dYes ce__law_case_8) daN)) [s0, .val (brd w h cs), .val (.int (2 * (w + h))), .val (.int (w * h)), s4, s5, s6, s7, s8, s9, s10, s11, s12, s13, s14, s15, s16, .val (.int c0), s18, s19, s20, s21, s22, s23] = .nx [s0, .val (brd w h cs), .val (.int (2 * (w + h))), .val (.int (w * h)), s4, s5, s6, s7, s8, s9, s10, s11, s12, s13, s14, s15, s16, .val (.int c0), .val (tpD (blk cs [c0])), s19, s20, s21, s22, s23] := by
  have hl := B.len
  have ha := B.area
  have b2 : oIx [brd w h cs, .int 2] = .v (.tuple (cs.map .int)) := rfl
  have e := dLc2 (di := dEn (daC (dOp oIx (daC (dV 1) (daC (dC (.int 2)) daN))) daN)) (v := 23) (u := 22) (dt := dYes) (de := ce__law_case_8) (ρ := [s0, .val (brd w h cs), .val (.int (2 * (w + h))), .val (.int (w * h)), s4, s5, s6, s7, s8, s9, s10, s11, s12, s13, s14, s15, s16, .val (.int c0), s18, s19, s20, s21, s22, s23]) (ρ1 := [s0, .val (brd w h cs), .val (.int (2 * (w + h))), .val (.int (w * h)), s4, s5, s6, s7, s8, s9, s10, s11, s12, s13, s14, s15, s16, .val (.int c0), s18, s19, s20, s21, s22, s23]) (x := .tuple (cs.map .int)) (ds := (cs.map .int).mapIdx fun i d => (.int (i : Nat), d)) (p := fun _ _ => true) (g := blkD [c0])
    (by rw [← enum_pairs]; simp [b2, itemsD]) (by simp) (by simp) (by decide) (by simp; omega) (fun _ _ => rfl)
    (fun d hd _ => by
      rw [List.mem_mapIdx] at hd
      obtain ⟨i, hi, rfl⟩ := hd
      simp only [blkD, List.mem_singleton]
      by_cases hz : (i : Int) = c0
      · rw [if_pos hz]
        exact ⟨.t (.val (.int 3)), by simp [ce__law_case_8, hz], rfl⟩
      · rw [if_neg hz]
        exact ⟨.t (.val _), by simp [ce__law_case_8, hz], rfl⟩)
  rw [blk_map] at e
  simp [e, oTuple, tpD]
theorem v_port (B : Gb w h cs) (hc : cnt cs ≤ 8) (wh : w * h ≤ 6) (c0 : Int) {p : Int} (p0 : 0 ≤ p) (p1 : p < 2 * (w + h)) (acc : List D) (ha : acc.length ≤ 4000) (s0 s4 s6 s7 s9 s10 s11 s12 s13 s14 s15 s16 s19 s20 s21 s22 s23 : SV) :
    ∃ s19', lb__law_case_11 [s0, .val (brd w h cs), .val (.int (2 * (w + h))), .val (.int (w * h)), s4, .val (.int p), s6, s7, .val (.list acc), s9, s10, s11, s12, s13, s14, s15, s16, .val (.int c0), .val (tpD (blk cs [c0])), s19, s20, s21, s22, s23] = .nx [s0, .val (brd w h cs), .val (.int (2 * (w + h))), .val (.int (w * h)), s4, .val (.int p), s6, s7, .val (.list (acc ++ soL w h cs c0 p)), s9, s10, s11, s12, s13, s14, s15, s16, .val (.int c0), .val (tpD (blk cs [c0])), s19', s20, s21, s22, s23] := by
  have hp : ∀ q ∈ [p], 0 ≤ q ∧ q < 2 * (w + h) := fun q hq => by rw [List.mem_singleton.mp hq]; exact ⟨p0, p1⟩
  have w2 := B.w2; have h2 := B.h2
  have e1 := law_outs_t B wh hp (by simp) (.list ([p].map .int)) (.inl rfl)
  have e2 := law_outs_t (blk_gb B [c0]) wh hp (by simp) (.list ([p].map .int)) (.inl rfl)
  have b0 : oIx [brd w h cs, .int 0] = .v (.int w) := rfl
  have b1 : oIx [brd w h cs, .int 1] = .v (.int h) := rfl
  have hol := outL_len w h cs [p]
  simp only [List.map_cons, List.map_nil] at e1 e2
  have e2' : fo (f__law_outs [.tuple [.int w, .int h, tpD (blk cs [c0])], .list [.int p]]) = .ret (.list ((outL w h (blk cs [c0]) [p]).map .int)) := e2
  have e := dLc1 (di := dIt (dCall f__law_outs (daC (dV 1) (daC (dLst (daC (dV 5) daN)) daN)))) (v := 6) (dt := ct__law_case_9) (de := ce__law_case_10) (ρ := [s0, .val (brd w h cs), .val (.int (2 * (w + h))), .val (.int (w * h)), s4, .val (.int p), s6, s7, .val (.list acc), s9, s10, s11, s12, s13, s14, s15, s16, .val (.int c0), .val (tpD (blk cs [c0])), .val (.list ((outL w h (blk cs [c0]) [p]).map .int)), s20, s21, s22, s23]) (ρ1 := [s0, .val (brd w h cs), .val (.int (2 * (w + h))), .val (.int (w * h)), s4, .val (.int p), s6, s7, .val (.list acc), s9, s10, s11, s12, s13, s14, s15, s16, .val (.int c0), .val (tpD (blk cs [c0])), .val (.list ((outL w h (blk cs [c0]) [p]).map .int)), s20, s21, s22, s23]) (x := .list ((outL w h cs [p]).map .int)) (ds := (outL w h cs [p]).map .int) (p := niB (outL w h (blk cs [c0]) [p])) (g := prE p)
    (by simp [e1]) (by simp) (by simp; omega) (fun d hd => by
      obtain ⟨g, _, rfl⟩ := List.mem_map.mp hd
      have q : oNotIn [.int g, .list ((outL w h (blk cs [c0]) [p]).map .int)] = .v (.bool (!decide (g ∈ outL w h (blk cs [c0]) [p]))) := by
        rw [oNotIn_l (n := 0) rfl (okIs_intsG 0 _) (by decide)]
        congr 3
        exact decide_eq_decide.mpr mem_intsG
      simp [ct__law_case_9, q, niB]) (fun d hd hp => by
      obtain ⟨g, _, rfl⟩ := List.mem_map.mp hd
      exact ⟨.t (.val (prD p g)), by simp [ce__law_case_10, prD], rfl⟩)
  have eL : (((outL w h cs [p]).map (PyData.int : Int → D)).filter (niB (outL w h (blk cs [c0]) [p]))).map (prE p) = soL w h cs c0 p := by
    rw [List.filter_map, List.map_map, soL]
    rfl
  rw [eL] at e
  have hsl := soL_len w h cs c0 p
  have ad := oAdd_ls acc (soL w h cs c0 p) (by omega)
  refine ⟨.val (.list ((outL w h (blk cs [c0]) [p]).map .int)), ?_⟩
  simp [lb__law_case_11, b0, b1, e2', e, ad]
theorem v_ports (B : Gb w h cs) (hc : cnt cs ≤ 8) (wh : w * h ≤ 6) (c0 : Int) (s0 s4 s5 s6 s7 s9 s10 s11 s12 s13 s14 s15 s16 s19 s20 s21 s22 s23 : SV) :
    ∃ s5' s19', sFor (dRg1 (daC (dV 2) daN)) (gN 5) lb__law_case_11 [s0, .val (brd w h cs), .val (.int (2 * (w + h))), .val (.int (w * h)), s4, s5, s6, s7, .val (.list []), s9, s10, s11, s12, s13, s14, s15, s16, .val (.int c0), .val (tpD (blk cs [c0])), s19, s20, s21, s22, s23] = .nx [s0, .val (brd w h cs), .val (.int (2 * (w + h))), .val (.int (w * h)), s4, s5', s6, s7, .val (.list (soAll w h cs c0 (2 * (w + h)).toNat)), s9, s10, s11, s12, s13, s14, s15, s16, .val (.int c0), .val (tpD (blk cs [c0])), s19', s20, s21, s22, s23] := by
  have w1 := B.w1; have w2 := B.w2; have h1 := B.h1; have h2 := B.h2
  have sm : small (2 * (w + h)) = true := small_i (by omega) (by omega)
  have hN : (2 * (w + h)).toNat ≤ 32 := by omega
  obtain ⟨ρ', q1, q2⟩ := forL_ind (dg := gN 5) (b := lb__law_case_11)
    (fun i ρ => ∃ y5 y19, ρ = [s0, .val (brd w h cs), .val (.int (2 * (w + h))), .val (.int (w * h)), s4, y5, s6, s7, .val (.list (soAll w h cs c0 i)), s9, s10, s11, s12, s13, s14, s15, s16, .val (.int c0), .val (tpD (blk cs [c0])), y19, s20, s21, s22, s23])
    ((List.range (2 * (w + h)).toNat).map fun k : Nat => .int (k : Int)) 0 [s0, .val (brd w h cs), .val (.int (2 * (w + h))), .val (.int (w * h)), s4, s5, s6, s7, .val (.list []), s9, s10, s11, s12, s13, s14, s15, s16, .val (.int c0), .val (tpD (blk cs [c0])), s19, s20, s21, s22, s23] ⟨s5, s19, rfl⟩ (by
      rintro i d ρ hd ⟨y5, y19, rfl⟩
      have hi : i < (2 * (w + h)).toNat := by
        have := (List.getElem?_eq_some_iff.mp hd).1
        simpa using this
      rw [List.getElem?_map, List.getElem?_range hi] at hd
      cases hd
      rw [Nat.zero_add]
      have hsl := soAll_len w h cs c0 i
      have hm : i * (2 * (w + h)).toNat ≤ 32 * 32 := Nat.mul_le_mul (by omega) hN
      obtain ⟨z19, e⟩ := v_port B hc wh c0 (p := (i : Int)) (by omega) (by omega) (soAll w h cs c0 i) (by omega) s0 s4 s6 s7 s9 s10 s11 s12 s13 s14 s15 s16 y19 s20 s21 s22 s23
      rw [← soAll_succ] at e
      exact ⟨_, _, rfl, .inl e, _, _, rfl⟩)
  obtain ⟨y5, y19, rfl⟩ := q2
  refine ⟨y5, y19, ?_⟩
  rw [Nat.zero_add, List.length_map, List.length_range] at q1
  simp [sm, rangeD0, q1]
theorem v_chk (B : Gb w h cs) (hc : cnt cs ≤ 8) (wh : w * h ≤ 6) {c0 : Int} (c1 : 0 ≤ c0) (c2 : c0 < w * h) (s0 s4 s5 s6 s7 s9 s10 s11 s12 s13 s14 s15 s16 s18 s19 s20 s21 s22 s23 : SV) :
    sIf (dNot (dTru (dCall (f__law_alike 8) (daC (dCall f_shut_off (daC (dV 1) (daC (dV 17) daN))) (daC (dOp oTuple (daC (dV 8) daN)) daN))))) (sRet (dC (.bool false))) sNil [s0, .val (brd w h cs), .val (.int (2 * (w + h))), .val (.int (w * h)), s4, s5, s6, s7, .val (.list (soAll w h cs c0 (2 * (w + h)).toNat)), s9, s10, s11, s12, s13, s14, s15, s16, .val (.int c0), s18, s19, s20, s21, s22, s23] = .nx [s0, .val (brd w h cs), .val (.int (2 * (w + h))), .val (.int (w * h)), s4, s5, s6, s7, .val (.list (soAll w h cs c0 (2 * (w + h)).toNat)), s9, s10, s11, s12, s13, s14, s15, s16, .val (.int c0), s18, s19, s20, s21, s22, s23] := by
  have w2 := B.w2; have h2 := B.h2
  have e1 := shut_off_t B hc c1 c2
  have hsl := soAll_len w h cs c0 (2 * (w + h)).toNat
  have hm : (2 * (w + h)).toNat * (2 * (w + h)).toNat ≤ 32 * 32 := Nat.mul_le_mul (by omega) (by omega)
  have e2 := alike_refl 8 (.tuple (soAll w h cs c0 (2 * (w + h)).toNat)) (by
    simp only [okA, Bool.and_eq_true, decide_eq_true_eq, List.all_eq_true]
    refine ⟨by omega, fun d hd => ?_⟩
    unfold soAll at hd
    obtain ⟨p, _, hd⟩ := List.mem_flatMap.mp hd
    obtain ⟨g, _, rfl⟩ := List.mem_map.mp hd
    rfl)
  simp [e1, e2, oTuple]
end
end G

set_option Elab.async false
set_option linter.all false
set_option maxRecDepth 100000
set_option maxHeartbeats 4000000
/-! PuId: law k23, refusals, the case, the law (printed by mk23.py). -/
namespace G
open PySem PySem.Spec PyProof.Rows L2 PD Bm
def dueL : List D := [.str "ports", .str "goals", .str "most", .str "ports", .str "goal", .str "cell", .str "board"]
theorem eq_due : oEq [.list dueL, .list dueL] = .v (.bool true) := by
  have s1 : PyData.strOk (Str.ofString "ports") = true := by decide +kernel
  have s2 : PyData.strOk (Str.ofString "goals") = true := by decide +kernel
  have s3 : PyData.strOk (Str.ofString "most") = true := by decide +kernel
  have s4 : PyData.strOk (Str.ofString "goal") = true := by decide +kernel
  have s5 : PyData.strOk (Str.ofString "cell") = true := by decide +kernel
  have s6 : PyData.strOk (Str.ofString "board") = true := by decide +kernel
  simp [dueL, oEq, vOr, oEqS, oEqD, SeqAt.shaped, PyData.canLay0, PyData.canLayAll0, PyData.depth, PyData.depthAll, PyData.eqv, PyData.eqvAll, s1, s2, s3, s4, s5, s6]
section
variable {w h : Int} {cs : List Int}
theorem pt_nil : PtOk (2 * (w + h)) [] := ⟨.nil, by simp, by simp⟩
theorem pt_0 (B : Gb w h cs) : PtOk (2 * (w + h)) [0] := ⟨by simp, fun p hp => by
  have w1 := B.w1; have h1 := B.h1
  rw [List.mem_singleton.mp hp]; omega, by simp⟩
theorem ps_of {ps qs : List Int} (e : (.tuple (ps.map .int) : D) = .tuple (qs.map .int)) : ps = qs := by
  injection e with e
  have := congrArg intsOf e
  rw [intsOf_map, intsOf_map] at this
  exact Option.some.inj this
theorem ports_bad {d : D} (hd : d ∈ ([.none, .list [.int 0], .tuple [.int (2 * (w + h))], .tuple [.int 0, .int 0], .tuple [.bool true], .tuple [.int 1, .int 0]] : List D)) (n : Str) : fo (f_need_ports [brd w h cs, d, .str n]) = .exc (bad n) := by
  have key := fun hD hds hok hno hno2 => need_ports_t (w := w) (h := h) (cs := cs) d hD hds n false hok hno hno2
  simp only [List.mem_cons, List.not_mem_nil, or_false] at hd
  have fin : fo (f_need_ports [brd w h cs, d, .str n]) = (if false = true then .ret .none else .exc (bad n)) → fo (f_need_ports [brd w h cs, d, .str n]) = .exc (bad n) := fun e => by rw [e, if_neg (by decide)]
  refine fin ?_
  rcases hd with rfl | rfl | rfl | rfl | rfl | rfl
  · exact key rfl (fun ds e => by cases e) (fun ps e => by cases e) (fun _ => rfl) (fun ds e => by cases e)
  · exact key rfl (fun ds e => by cases e) (fun ps e => by cases e) (fun _ => rfl) (fun ds e => by cases e)
  · refine key rfl (fun ds e => by cases e; exact ⟨by simp, fun x hx => by rw [List.mem_singleton.mp hx]; rfl⟩) (fun ps e hr => ?_) (fun _ => rfl) (fun _ _ _ => rfl)
    have := ps_of (ps := [2 * (w + h)]) e
    subst this
    have := hr (2 * (w + h)) (by simp)
    omega
  · refine key rfl (fun ds e => by cases e; exact ⟨by simp, fun x hx => by simp at hx; subst hx; rfl⟩) (fun ps e hr => ?_) (fun _ => rfl) (fun _ _ _ => rfl)
    have := ps_of (ps := [0, 0]) e
    subst this
    decide
  · refine key rfl (fun ds e => by cases e; exact ⟨by simp, fun x hx => by rw [List.mem_singleton.mp hx]; rfl⟩) (fun ps e hr => ?_) (fun _ => rfl) (fun _ _ _ => rfl)
    injection e with e
    cases ps with
    | nil => cases e
    | cons p ps => injection e with e _; cases e
  · refine key rfl (fun ds e => by cases e; exact ⟨by simp, fun x hx => by simp at hx; rcases hx with rfl | rfl <;> rfl⟩) (fun ps e hr => ?_) (fun _ => rfl) (fun _ _ _ => rfl)
    have := ps_of (ps := [1, 0]) e
    subst this
    decide
theorem w_odd (B : Gb w h cs) (hc : cnt cs ≤ 8) (wh : w * h ≤ 6) (s0 s4 s5 s6 s7 s8 s9 s10 s11 s12 s13 s14 s15 s16 s17 s18 s19 s20 s21 s22 s23 : SV) :
    sIf (dTst (dOp oNe (daC (dLc (dIt (dLst (daC (dTup (daC (dV 3) daN)) (daC (dTup (daC (dC (.bool true)) daN)) (daC (dC .none) (daC (dLst daN) (daC (dTup (daC (dC (.int 0)) (daC (dC (.int 0)) daN))) (daC (dTup (daC (dOp oNeg (daC (dC (.int 1)) daN)) daN)) daN)))))))) [22] (gN 22) ct__law_case_12 (dV 22)) (daC (dLst daN) daN)))) (sRet (dC (.bool false))) sNil [s0, .val (brd w h cs), .val (.int (2 * (w + h))), .val (.int (w * h)), s4, s5, s6, s7, s8, s9, s10, s11, s12, s13, s14, s15, s16, s17, s18, s19, s20, s21, s22, s23] = .nx [s0, .val (brd w h cs), .val (.int (2 * (w + h))), .val (.int (w * h)), s4, s5, s6, s7, s8, s9, s10, s11, s12, s13, s14, s15, s16, s17, s18, s19, s20, s21, s22, s23] := by
  have P0 := pt_0 B
  have PN := pt_nil (w := w) (h := h)
  have o1 := is_blocking_one B hc P0 PN (d := .int (w * h)) rfl (by simp [wholeB]; omega)
  have o2 := is_blocking_one B hc P0 PN (d := .bool true) rfl rfl
  have o3 := is_blocking_nt B hc P0 PN (d := .none) rfl (fun ds e => by cases e)
  have o4 := is_blocking_nt B hc P0 PN (d := .list []) rfl (fun ds e => by cases e)
  have o5 := is_blocking_two B hc P0 PN
  have o6 := is_blocking_one B hc P0 PN (d := .int (-1)) rfl (by simp [wholeB])
  simp only [tpD, List.map_cons, List.map_nil] at o1 o2 o3 o4 o5 o6
  have e := dLc1 (di := dIt (dLst (daC (dTup (daC (dV 3) daN)) (daC (dTup (daC (dC (.bool true)) daN)) (daC (dC .none) (daC (dLst daN) (daC (dTup (daC (dC (.int 0)) (daC (dC (.int 0)) daN))) (daC (dTup (daC (dOp oNeg (daC (dC (.int 1)) daN)) daN)) daN)))))))) (v := 22) (dt := ct__law_case_12) (de := dV 22) (ρ := [s0, .val (brd w h cs), .val (.int (2 * (w + h))), .val (.int (w * h)), s4, s5, s6, s7, s8, s9, s10, s11, s12, s13, s14, s15, s16, s17, s18, s19, s20, s21, s22, s23]) (ρ1 := [s0, .val (brd w h cs), .val (.int (2 * (w + h))), .val (.int (w * h)), s4, s5, s6, s7, s8, s9, s10, s11, s12, s13, s14, s15, s16, s17, s18, s19, s20, s21, s22, s23]) (x := .list [.tuple [.int (w * h)], .tuple [.bool true], .none, .list [], .tuple [.int 0, .int 0], .tuple [.int (-1)]]) (ds := [.tuple [.int (w * h)], .tuple [.bool true], .none, .list [], .tuple [.int 0, .int 0], .tuple [.int (-1)]]) (p := fun _ => false) (g := fun d => d)
    (by simp) (by simp) (by simp) (fun d hd => by
      simp only [List.mem_cons, List.not_mem_nil, or_false] at hd
      rcases hd with rfl | rfl | rfl | rfl | rfl | rfl <;> simp [ct__law_case_12, o1, o2, o3, o4, o5, o6]) (fun d hd hp => by cases hp)
  rw [List.filter_eq_nil_iff.mpr (fun _ _ => by simp), List.map_nil] at e
  have en := oNe_nilG [] rfl
  simp [e, en]
end
end G

set_option Elab.async false
set_option linter.all false
set_option maxRecDepth 100000
set_option maxHeartbeats 4000000
/-! PuIe: law k23, the case, the law (printed by mk23.py). -/
namespace G
open PySem PySem.Spec PyProof.Rows L2 PD Bm
theorem case_ok (sc : List Int) {a b c : Int} (ok : RowOk a b c) : ∃ a' b' c', f__law_case [rowD sc a b c] = .rt (.bool true) (.own (rowD sc a' b' c')) ∧ RowOk a' b' c' := by
  obtain ⟨v1, a1, b1, c1, e1, p1, p1', ok1⟩ := taken_ok sc ok (many := 3) (by decide) (by decide)
  obtain ⟨v2, a2, b2, c2, e2, p2, p2', ok2⟩ := taken_ok sc ok1 (many := 2) (by decide) (by decide)
  obtain ⟨v3, a3, b3, c3, e3, p3, p3', ok3⟩ := taken_ok sc ok2 (many := 6) (by decide) (by decide)
  obtain ⟨cs, a4, b4, c4, e4, len, cel, hcnt, ok4⟩ := board_ok sc ok3 (w := 1 + v1) (h := 1 + v2) (m := v3) (by omega) (by omega) (by omega) (by omega) p3
  have q1 : sSet 1 (dCallIo f__law_board 0 (daC (dOp oAdd (daC (dC (.int 1)) (daC (dCallIo f__law_taken 0 (daC (dC (.int 3)) daN)) daN))) (daC (dOp oAdd (daC (dC (.int 1)) (daC (dCallIo f__law_taken 0 (daC (dC (.int 2)) daN)) daN))) (daC (dCallIo f__law_taken 0 (daC (dC (.int 6)) daN)) daN)))) [.own (rowD sc a b c), .no, .no, .no, .no, .no, .no, .no, .no, .no, .no, .no, .no, .no, .no, .no, .no, .no, .no, .no, .no, .no, .no, .no] = .nx [.own (rowD sc a4 b4 c4), .val (brd (1 + v1) (1 + v2) cs), .no, .no, .no, .no, .no, .no, .no, .no, .no, .no, .no, .no, .no, .no, .no, .no, .no, .no, .no, .no, .no, .no] := by
    simp [e1, e2, e3, e4]
  have wl : 1 ≤ 1 + v1 ∧ 1 + v1 ≤ 3 ∧ 1 ≤ 1 + v2 ∧ 1 + v2 ≤ 2 := by omega
  generalize 1 + v1 = w at *
  generalize 1 + v2 = h at *
  obtain ⟨w1, w2, h1, h2⟩ := wl
  have B : Gb w h cs := ⟨w1, by omega, h1, by omega, len, cel.lo⟩
  have hc : cnt cs ≤ 8 := by omega
  have wh : w * h ≤ 6 := by
    have := Int.mul_le_mul w2 h2 (by omega) (by decide)
    omega
  have wp := B.pos
  have main : ∃ ρ', den__law_case (startR true 24 [rowD sc a b c]) = .rt (.bool true) ρ' ∧ ∃ a b c, RowOk a b c ∧ ρ'.getD 0 .no = .own (rowD sc a b c) := by
    unfold den__law_case
    have st : startR true 24 [rowD sc a b c] = [.own (rowD sc a b c), .no, .no, .no, .no, .no, .no, .no, .no, .no, .no, .no, .no, .no, .no, .no, .no, .no, .no, .no, .no, .no, .no, .no] := rfl
    rw [st]
    refine seq_rt q1 ?_
    have em : oMul [.int 2, .int (w + h)] = .v (.int (2 * (w + h))) := oMul_s (by decide) (by decide)
    have b0 : oIx [brd w h cs, .int 0] = .v (.int w) := rfl
    have b1 : oIx [brd w h cs, .int 1] = .v (.int h) := rfl
    have b2 : oIx [brd w h cs, .int 2] = .v (.tuple (cs.map .int)) := rfl
    refine seq_rt (ρ1 := [.own (rowD sc a4 b4 c4), .val (brd w h cs), .val (.int (2 * (w + h))), .val (.int (w * h)), .no, .no, .no, .no, .no, .no, .no, .no, .no, .no, .no, .no, .no, .no, .no, .no, .no, .no, .no, .no]) (by simp [b0, b1, b2, em, len]) ?_
    obtain ⟨ρ3, l3, a5, b5, c5, s4, s5, s6, s7, s8, s9, s10, s11, s12, s13, s14, s15, s16, ok5, rfl⟩ := forL_ind (dg := gN 4) (b := lb__law_case_7)
      (fun _ ρ => ∃ a b c s4 s5 s6 s7 s8 s9 s10 s11 s12 s13 s14 s15 s16, RowOk a b c ∧ ρ = [.own (rowD sc a b c), .val (brd w h cs), .val (.int (2 * (w + h))), .val (.int (w * h)), s4, s5, s6, s7, s8, s9, s10, s11, s12, s13, s14, s15, s16, .no, .no, .no, .no, .no, .no, .no])
      (rangeD 0 3) 0 [.own (rowD sc a4 b4 c4), .val (brd w h cs), .val (.int (2 * (w + h))), .val (.int (w * h)), .no, .no, .no, .no, .no, .no, .no, .no, .no, .no, .no, .no, .no, .no, .no, .no, .no, .no, .no, .no] ⟨a4, b4, c4, .no, .no, .no, .no, .no, .no, .no, .no, .no, .no, .no, .no, .no, ok4, rfl⟩ (by
        rintro i d ρ hd ⟨a, b, c, s4, s5, s6, s7, s8, s9, s10, s11, s12, s13, s14, s15, s16, ok, rfl⟩
        obtain ⟨ρ', e, a', b', c', z5, z6, z7, z8, z9, z10, z11, z12, z13, z14, z15, z16, ok', hρ⟩ := u_turn sc ok B hc wh (.val d) s5 s6 s7 s8 s9 s10 s11 s12 s13 s14 s15 s16 .no .no .no .no .no .no .no
        exact ⟨_, _, rfl, .inl e, a', b', c', _, z5, z6, z7, z8, z9, z10, z11, z12, z13, z14, z15, z16, ok', hρ⟩)
    have sm3 : small 3 = true := by decide
    refine seq_rt (ρ1 := [.own (rowD sc a5 b5 c5), .val (brd w h cs), .val (.int (2 * (w + h))), .val (.int (w * h)), s4, s5, s6, s7, s8, s9, s10, s11, s12, s13, s14, s15, s16, .no, .no, .no, .no, .no, .no, .no]) (by simp [sm3, l3]) ?_
    obtain ⟨c0, a6, b6, c6, e6, k0, k1, ok6⟩ := taken_ok sc ok5 (many := w * h) (by omega) (by omega)
    refine seq_rt (ρ1 := [.own (rowD sc a6 b6 c6), .val (brd w h cs), .val (.int (2 * (w + h))), .val (.int (w * h)), s4, s5, s6, s7, s8, s9, s10, s11, s12, s13, s14, s15, s16, .val (.int c0), .no, .no, .no, .no, .no, .no]) (by simp [e6]) ?_
    refine seq_rt (v_cells B c0 _ _ _ _ _ _ _ _ _ _ _ _ _ _ _ _ _ _ _ _) ?_
    refine seq_rt (ρ1 := [.own (rowD sc a6 b6 c6), .val (brd w h cs), .val (.int (2 * (w + h))), .val (.int (w * h)), s4, s5, s6, s7, .val (.list []), s9, s10, s11, s12, s13, s14, s15, s16, .val (.int c0), .val (tpD (blk cs [c0])), .no, .no, .no, .no, .no]) (by simp) ?_
    obtain ⟨y5, y19, q7⟩ := v_ports B hc wh c0 (.own (rowD sc a6 b6 c6)) s4 s5 s6 s7 s9 s10 s11 s12 s13 s14 s15 s16 .no .no .no .no .no
    refine seq_rt q7 ?_
    refine seq_rt (v_chk B hc wh k0 k1 _ _ _ _ _ _ _ _ _ _ _ _ _ _ _ _ _ _ _) ?_
    refine seq_rt (w_odd B hc wh _ _ _ _ _ _ _ _ _ _ _ _ _ _ _ _ _ _ _ _ _) ?_
    obtain ⟨d2, a7, b7, c7, m7, e7, ok7⟩ := pick_ok sc (ds := [.none, .list [.int 0], .tuple [.int (2 * (w + h))], .tuple [.int 0, .int 0], .tuple [.bool true], .tuple [.int 1, .int 0]]) ok6 (by simp) (by simp)
    refine seq_rt (ρ1 := [.own (rowD sc a7 b7 c7), .val (brd w h cs), .val (.int (2 * (w + h))), .val (.int (w * h)), s4, y5, s6, s7, .val (.list (soAll w h cs c0 (2 * (w + h)).toNat)), s9, s10, s11, s12, s13, s14, s15, s16, .val (.int c0), .val (tpD (blk cs [c0])), y19, .val d2, .no, .no, .no]) (by simp [e7]) ?_
    have nb := need_board_g B hc "board"
    have np := need_ports_ok (w := w) (h := h) (cs := cs) (pt_nil (w := w) (h := h))
    have np1 : fo (f_need_ports [brd w h cs, .tuple [], .str "ports"]) = .ret .none := np "ports"
    have np2 : fo (f_need_ports [brd w h cs, .tuple [], .str "goals"]) = .ret .none := np "goals"
    have pb1 := ports_bad (cs := cs) m7 "ports"
    have pb2 := ports_bad (cs := cs) m7 "goals"
    have x1 : fo (f_fewest_blocks [brd w h cs, d2, .tuple [], .int 0]) = .exc (bad "ports") := by simp [f_fewest_blocks, fo_run, den_fewest_blocks, nb, pb1]
    have x2 : fo (f_fewest_blocks [brd w h cs, .tuple [], d2, .int 0]) = .exc (bad "goals") := by simp [f_fewest_blocks, fo_run, den_fewest_blocks, nb, np1, pb2]
    have w4 : fo (f_is_whole [.int 4, .int 0, .int 3]) = .ret (.bool false) := by rw [is_whole_int]; rfl
    have x3 : fo (f_fewest_blocks [brd w h cs, .tuple [], .tuple [], .int 4]) = .exc (bad "most") := by simp [f_fewest_blocks, fo_run, den_fewest_blocks, g_MOST_BLOCKS, nb, np1, np2, w4, need_f, bad]
    have x4 : fo (f_is_blocking [brd w h cs, d2, .tuple [], .tuple []]) = .exc (bad "ports") := by simp [f_is_blocking, fo_run, den_is_blocking, nb, pb1]
    have x5 := needed_bad B hc
    have x6 := shut_off_bad B hc
    rw [len] at x6
    have x7 := reaches_bad
    have lk : ∀ x : D, List.lookup (Str.ofString "name") [(Str.ofString "name", x)] = some x := fun x => by simp [List.lookup]
    refine seq_rt (ρ1 := [.own (rowD sc a7 b7 c7), .val (brd w h cs), .val (.int (2 * (w + h))), .val (.int (w * h)), s4, y5, s6, s7, .val (.list (soAll w h cs c0 (2 * (w + h)).toNat)), s9, s10, s11, s12, s13, s14, s15, s16, .val (.int c0), .val (tpD (blk cs [c0])), y19, .val d2, .val (.list dueL), .no, .no]) (by
      simp [x1, x2, x3, x4, x5, x6, x7, bad, lk, dueL]) ?_
    have ed := eq_due
    refine ⟨[.own (rowD sc a7 b7 c7), .val (brd w h cs), .val (.int (2 * (w + h))), .val (.int (w * h)), s4, y5, s6, s7, .val (.list (soAll w h cs c0 (2 * (w + h)).toNat)), s9, s10, s11, s12, s13, s14, s15, s16, .val (.int c0), .val (tpD (blk cs [c0])), y19, .val d2, .val (.list dueL), .no, .no], ?_, a7, b7, c7, ok7, rfl⟩
    unfold dueL at ed ⊢
    simp [ed]
  obtain ⟨ρ', e, a', b', c', ok', hg⟩ := main
  refine ⟨a', b', c', ?_, ok'⟩
  rw [f__law_case, runD, e]
  simp only
  rw [hg]
theorem law_true (ns : List Int) (_ : ns.length ≤ 63) (_ : ∀ z ∈ ns, Builtin.Int.intBits z ≤ 1048576) : ∃ ρ, den_law (startR false N_law.length [.list (ns.map .int)]) = .rt (.bool true) ρ := by
  obtain ⟨ρ', l1, a, b, c, s2, ok, rfl⟩ := forL_ind (dg := gN 2) (b := lb_law_1)
    (fun _ ρ => ∃ a b c s2, RowOk a b c ∧ ρ = [.val (.list (ns.map PyData.int)), .own (rowD ns a b c), s2])
    (rangeD 0 2) 0 [.val (.list (ns.map PyData.int)), .own (rowD ns 0 92003 0), .no] ⟨0, 92003, 0, .no, ⟨by decide, by decide, by decide, by decide⟩, rfl⟩ (by
      rintro i d ρ hd ⟨a, b, c, s2, ok, rfl⟩
      obtain ⟨a', b', c', e, ok'⟩ := case_ok ns ok
      exact ⟨_, _, rfl, .inl (by simp [lb_law_1, e]), a', b', c', .val d, ok', rfl⟩)
  have sm : small 2 = true := by decide
  refine ⟨[.val (.list (ns.map PyData.int)), .own (rowD ns a b c), s2], ?_⟩
  simp only [rowD] at l1 ⊢
  simp [den_law, N_law, sm]
  rw [l1]
  rfl
end G

set_option Elab.async false
set_option linter.all false
open PySem PySem.W PyProof.Rows
set_option maxRecDepth 100000 in
set_option maxHeartbeats 0 in
theorem PySem.Challenge.cw_beamboards_k23_whole_blocked_cells_holds : PySem.Challenge.rw_beamboards_k23_whole_blocked_cells.Holds := by
  w_on; o_law; k_head; (case hw => w_witness2)
  k_fill
  refine PD.walk_own (l := PySem.Challenge.rw_beamboards_k23_whole_blocked_cells) (n := 63) (k := 10) (CX := fun w => L2.CX (PySem.Challenge.rw_beamboards_k23_whole_blocked_cells).prog w) (x := "script") rfl (by decide) rfl ⟨rfl, by decide, by decide⟩ (fun w h Y => PySem.W.km_in_of Y) ?F (fun _ _ _ _ _ z => by obtain ⟨_, _, _, _, _, _, _, _, _, _, _, _, z⟩ := z; exact z)
  case F =>
    intro w mg fa h Y KX GN hmg own
    refine' G.all_mk KX GN hmg (fun fy hm => own "_law_case" fy (by decide +kernel) hm) G.law_true ?a__law_taken ?l__law_taken ?c__law_taken ?k__law_taken ?a__law_pick ?l__law_pick ?c__law_pick ?k__law_pick ?a__law_board ?l__law_board ?c__law_board ?k__law_board ?a__law_entry ?l__law_entry ?c__law_entry ?k__law_entry ?a__law_start ?l__law_start ?c__law_start ?k__law_start ?a__law_turn ?l__law_turn ?c__law_turn ?k__law_turn ?a__law_out ?l__law_out ?c__law_out ?k__law_out ?a__law_goals ?l__law_goals ?c__law_goals ?k__law_goals ?a__law_reached ?l__law_reached ?c__law_reached ?k__law_reached ?a__law_outs ?l__law_outs ?c__law_outs ?k__law_outs ?a__law_alike ?l__law_alike ?c__law_alike ?k__law_alike ?a_need ?l_need ?c_need ?k_need ?a_is_whole ?l_is_whole ?c_is_whole ?k_is_whole ?a_parters ?l_parters ?c_parters ?k_parters ?a_is_board ?l_is_board ?c_is_board ?k_is_board ?a_need_board ?l_need_board ?c_need_board ?k_need_board ?a_port_count ?l_port_count ?c_port_count ?k_port_count ?a_entry ?l_entry ?c_entry ?k_entry ?a_headings ?l_headings ?c_headings ?k_headings ?a_onward ?l_onward ?c_onward ?k_onward ?a_outs ?l_outs ?c_outs ?k_outs ?a_blocked ?l_blocked ?c_blocked ?k_blocked ?a_shut_off ?l_shut_off ?c_shut_off ?k_shut_off ?a_need_port ?l_need_port ?c_need_port ?k_need_port ?a_reaches ?l_reaches ?c_reaches ?k_reaches ?a_is_shut ?l_is_shut ?c_is_shut ?k_is_shut ?a_needed ?l_needed ?c_needed ?k_needed ?a__law_rows ?l__law_rows ?c__law_rows ?k__law_rows ?a__law_shut ?l__law_shut ?c__law_shut ?k__law_shut ?a_need_ports ?l_need_ports ?c_need_ports ?k_need_ports ?a_choices ?l_choices ?c_choices ?k_choices ?a_fewest_blocks ?l_fewest_blocks ?c_fewest_blocks ?k_fewest_blocks ?a_is_blocking ?l_is_blocking ?c_is_blocking ?k_is_blocking ?a__law_case ?l__law_case ?c__law_case ?k__law_case ?lc__law_case ?l11__law_case ?hcd__law_case ?nP__law_case ?a__law_refused ?l__law_refused ?c__law_refused ?k__law_refused ?al ?ll ?cl ?hnl ?z_int ?z_len ?z_range ?z_tuple ?z_isinstance ?z_sorted ?z_set ?z_str ?z_bool ?z_all ?z_enumerate ?z_list ?z_any ?g_END_ ?r_END ?g_MOST_SIDE_ ?r_MOST_SIDE ?g_EMPTY_ ?r_EMPTY ?g_PART_BACKSLASH_ ?r_PART_BACKSLASH ?g_MOST_PARTERS_ ?r_MOST_PARTERS ?g_DOWN_ ?r_DOWN ?g_LEFT_ ?r_LEFT ?g_UP_ ?r_UP ?g_RIGHT_ ?r_RIGHT ?g_SLASH_ ?r_SLASH ?g_PART_SLASH_ ?r_PART_SLASH ?g_MOST_BLOCKS_ ?r_MOST_BLOCKS ?gT_BY_SLASH ?lT_BY_SLASH ?eT_BY_SLASH ?zT_BY_SLASH ?vT_BY_SLASH ?gT_BY_BACKSLASH ?lT_BY_BACKSLASH ?eT_BY_BACKSLASH ?zT_BY_BACKSLASH ?vT_BY_BACKSLASH ?aCBadArgument ?xLBadArgument ?saBadArgument ?gaBadArgument ?ggBadArgument ?nbBadArgumentname ?iIBadArgument ?lI_BadArgument ?cI_BadArgument ?kI_BadArgument ?tIBadArgument ?kCBadArgument ?eCBadArgument ?tCBadArgument ?hCBadArgument ?iCBadArgument ?sCBadArgument
    (case a__law_taken => first | k_is | rfl)
    (case l__law_taken => first | k_is | rfl)
    (case c__law_taken => first | k_is | rfl)
    (case k__law_taken => first | k_is | rfl)
    (case a__law_pick => first | k_is | rfl)
    (case l__law_pick => first | k_is | rfl)
    (case c__law_pick => first | k_is | rfl)
    (case k__law_pick => first | k_is | rfl)
    (case a__law_board => first | k_is | rfl)
    (case l__law_board => first | k_is | rfl)
    (case c__law_board => first | k_is | rfl)
    (case k__law_board => first | k_is | rfl)
    (case a__law_entry => first | k_is | rfl)
    (case l__law_entry => first | k_is | rfl)
    (case c__law_entry => first | k_is | rfl)
    (case k__law_entry => first | k_is | rfl)
    (case a__law_start => first | k_is | rfl)
    (case l__law_start => first | k_is | rfl)
    (case c__law_start => first | k_is | rfl)
    (case k__law_start => first | k_is | rfl)
    (case a__law_turn => first | k_is | rfl)
    (case l__law_turn => first | k_is | rfl)
    (case c__law_turn => first | k_is | rfl)
    (case k__law_turn => first | k_is | rfl)
    (case a__law_out => first | k_is | rfl)
    (case l__law_out => first | k_is | rfl)
    (case c__law_out => first | k_is | rfl)
    (case k__law_out => first | k_is | rfl)
    (case a__law_goals => first | k_is | rfl)
    (case l__law_goals => first | k_is | rfl)
    (case c__law_goals => first | k_is | rfl)
    (case k__law_goals => first | k_is | rfl)
    (case a__law_reached => first | k_is | rfl)
    (case l__law_reached => first | k_is | rfl)
    (case c__law_reached => first | k_is | rfl)
    (case k__law_reached => first | k_is | rfl)
    (case a__law_outs => first | k_is | rfl)
    (case l__law_outs => first | k_is | rfl)
    (case c__law_outs => first | k_is | rfl)
    (case k__law_outs => first | k_is | rfl)
    (case a__law_alike => first | k_is | rfl)
    (case l__law_alike => first | k_is | rfl)
    (case c__law_alike => first | k_is | rfl)
    (case k__law_alike => first | k_is | rfl)
    (case a_need => first | k_is | rfl)
    (case l_need => first | k_is | rfl)
    (case c_need => first | k_is | rfl)
    (case k_need => first | k_is | rfl)
    (case a_is_whole => first | k_is | rfl)
    (case l_is_whole => first | k_is | rfl)
    (case c_is_whole => first | k_is | rfl)
    (case k_is_whole => first | k_is | rfl)
    (case a_parters => first | k_is | rfl)
    (case l_parters => first | k_is | rfl)
    (case c_parters => first | k_is | rfl)
    (case k_parters => first | k_is | rfl)
    (case a_is_board => first | k_is | rfl)
    (case l_is_board => first | k_is | rfl)
    (case c_is_board => first | k_is | rfl)
    (case k_is_board => first | k_is | rfl)
    (case a_need_board => first | k_is | rfl)
    (case l_need_board => first | k_is | rfl)
    (case c_need_board => first | k_is | rfl)
    (case k_need_board => first | k_is | rfl)
    (case a_port_count => first | k_is | rfl)
    (case l_port_count => first | k_is | rfl)
    (case c_port_count => first | k_is | rfl)
    (case k_port_count => first | k_is | rfl)
    (case a_entry => first | k_is | rfl)
    (case l_entry => first | k_is | rfl)
    (case c_entry => first | k_is | rfl)
    (case k_entry => first | k_is | rfl)
    (case a_headings => first | k_is | rfl)
    (case l_headings => first | k_is | rfl)
    (case c_headings => first | k_is | rfl)
    (case k_headings => first | k_is | rfl)
    (case a_onward => first | k_is | rfl)
    (case l_onward => first | k_is | rfl)
    (case c_onward => first | k_is | rfl)
    (case k_onward => first | k_is | rfl)
    (case a_outs => first | k_is | rfl)
    (case l_outs => first | k_is | rfl)
    (case c_outs => first | k_is | rfl)
    (case k_outs => first | k_is | rfl)
    (case a_blocked => first | k_is | rfl)
    (case l_blocked => first | k_is | rfl)
    (case c_blocked => first | k_is | rfl)
    (case k_blocked => first | k_is | rfl)
    (case a_shut_off => first | k_is | rfl)
    (case l_shut_off => first | k_is | rfl)
    (case c_shut_off => first | k_is | rfl)
    (case k_shut_off => first | k_is | rfl)
    (case a_need_port => first | k_is | rfl)
    (case l_need_port => first | k_is | rfl)
    (case c_need_port => first | k_is | rfl)
    (case k_need_port => first | k_is | rfl)
    (case a_reaches => first | k_is | rfl)
    (case l_reaches => first | k_is | rfl)
    (case c_reaches => first | k_is | rfl)
    (case k_reaches => first | k_is | rfl)
    (case a_is_shut => first | k_is | rfl)
    (case l_is_shut => first | k_is | rfl)
    (case c_is_shut => first | k_is | rfl)
    (case k_is_shut => first | k_is | rfl)
    (case a_needed => first | k_is | rfl)
    (case l_needed => first | k_is | rfl)
    (case c_needed => first | k_is | rfl)
    (case k_needed => first | k_is | rfl)
    (case a__law_rows => first | k_is | rfl)
    (case l__law_rows => first | k_is | rfl)
    (case c__law_rows => first | k_is | rfl)
    (case k__law_rows => first | k_is | rfl)
    (case a__law_shut => first | k_is | rfl)
    (case l__law_shut => first | k_is | rfl)
    (case c__law_shut => first | k_is | rfl)
    (case k__law_shut => first | k_is | rfl)
    (case a_need_ports => first | k_is | rfl)
    (case l_need_ports => first | k_is | rfl)
    (case c_need_ports => first | k_is | rfl)
    (case k_need_ports => first | k_is | rfl)
    (case a_choices => first | k_is | rfl)
    (case l_choices => first | k_is | rfl)
    (case c_choices => first | k_is | rfl)
    (case k_choices => first | k_is | rfl)
    (case a_fewest_blocks => first | k_is | rfl)
    (case l_fewest_blocks => first | k_is | rfl)
    (case c_fewest_blocks => first | k_is | rfl)
    (case k_fewest_blocks => first | k_is | rfl)
    (case a_is_blocking => first | k_is | rfl)
    (case l_is_blocking => first | k_is | rfl)
    (case c_is_blocking => first | k_is | rfl)
    (case k_is_blocking => first | k_is | rfl)
    (case a__law_case => first | k_is | rfl)
    (case l__law_case => first | k_is | rfl)
    (case c__law_case => first | k_is | rfl)
    (case k__law_case => first | k_is | rfl)
    (case lc__law_case => first | k_is | rfl)
    (case l11__law_case => first | rfl | k_is)
    (case hcd__law_case => first | k_is | rfl)
    (case nP__law_case => first | k_is | rfl)
    (case a__law_refused => first | k_is | rfl)
    (case l__law_refused => first | k_is | rfl)
    (case c__law_refused => first | k_is | rfl)
    (case k__law_refused => first | k_is | rfl)
    (case al => first | k_is | rfl)
    (case ll => first | k_is | rfl)
    (case cl => first | k_is | rfl)
    (case hnl => first | rfl | k_is)
    (case z_int => first | k_is | rfl)
    (case z_len => first | k_is | rfl)
    (case z_range => first | k_is | rfl)
    (case z_tuple => first | k_is | rfl)
    (case z_isinstance => first | k_is | rfl)
    (case z_sorted => first | k_is | rfl)
    (case z_set => first | k_is | rfl)
    (case z_str => first | k_is | rfl)
    (case z_bool => first | k_is | rfl)
    (case z_all => first | k_is | rfl)
    (case z_enumerate => first | k_is | rfl)
    (case z_list => first | k_is | rfl)
    (case z_any => first | k_is | rfl)
    (case g_END_ => first | k_is | rfl)
    (case r_END => first | exact ⟨_, rfl⟩ | rfl)
    (case g_MOST_SIDE_ => first | k_is | rfl)
    (case r_MOST_SIDE => first | exact ⟨_, rfl⟩ | rfl)
    (case g_EMPTY_ => first | k_is | rfl)
    (case r_EMPTY => first | exact ⟨_, rfl⟩ | rfl)
    (case g_PART_BACKSLASH_ => first | k_is | rfl)
    (case r_PART_BACKSLASH => first | exact ⟨_, rfl⟩ | rfl)
    (case g_MOST_PARTERS_ => first | k_is | rfl)
    (case r_MOST_PARTERS => first | exact ⟨_, rfl⟩ | rfl)
    (case g_DOWN_ => first | k_is | rfl)
    (case r_DOWN => first | exact ⟨_, rfl⟩ | rfl)
    (case g_LEFT_ => first | k_is | rfl)
    (case r_LEFT => first | exact ⟨_, rfl⟩ | rfl)
    (case g_UP_ => first | k_is | rfl)
    (case r_UP => first | exact ⟨_, rfl⟩ | rfl)
    (case g_RIGHT_ => first | k_is | rfl)
    (case r_RIGHT => first | exact ⟨_, rfl⟩ | rfl)
    (case g_SLASH_ => first | k_is | rfl)
    (case r_SLASH => first | exact ⟨_, rfl⟩ | rfl)
    (case g_PART_SLASH_ => first | k_is | rfl)
    (case r_PART_SLASH => first | exact ⟨_, rfl⟩ | rfl)
    (case g_MOST_BLOCKS_ => first | k_is | rfl)
    (case r_MOST_BLOCKS => first | exact ⟨_, rfl⟩ | rfl)
    (case gT_BY_SLASH => first | k_is | rfl)
    (case lT_BY_SLASH => first | k_is | rfl)
    (case eT_BY_SLASH => rfl)
    (case zT_BY_SLASH => decide)
    (case vT_BY_SLASH => exact (Paired.cons ⟨_, rfl⟩ (Paired.cons ⟨_, rfl⟩ (Paired.cons ⟨_, rfl⟩ (Paired.cons ⟨_, rfl⟩ Paired.nil)))))
    (case gT_BY_BACKSLASH => first | k_is | rfl)
    (case lT_BY_BACKSLASH => first | k_is | rfl)
    (case eT_BY_BACKSLASH => rfl)
    (case zT_BY_BACKSLASH => decide)
    (case vT_BY_BACKSLASH => exact (Paired.cons ⟨_, rfl⟩ (Paired.cons ⟨_, rfl⟩ (Paired.cons ⟨_, rfl⟩ (Paired.cons ⟨_, rfl⟩ Paired.nil)))))
    (case aCBadArgument => first | k_is | rfl)
    (case xLBadArgument => first | k_is | rfl)
    (case saBadArgument => first | k_is | rfl)
    (case gaBadArgument => first | k_is | rfl)
    (case ggBadArgument => first | k_is | rfl)
    (case nbBadArgumentname => first | k_is | rfl)
    (case iIBadArgument => first | k_is | rfl)
    (case lI_BadArgument => first | k_is | rfl)
    (case cI_BadArgument => first | k_is | rfl)
    (case kI_BadArgument => first | k_is | rfl)
    (case tIBadArgument => first | k_is | rfl)
    (case kCBadArgument => first | k_is | rfl)
    (case eCBadArgument => first | k_is | rfl)
    (case tCBadArgument => first | k_is | rfl)
    (case hCBadArgument => first | k_is | rfl)
    (case iCBadArgument => first | k_is | rfl)
    (case sCBadArgument => first | k_is | rfl)
