import PyProof.Rows.All
import Wide.All
import OpenK.AllK
import Wide.FinOn
import HandS.ForMost
import HandS.Exc
import HandS.WordsExc
import HandS.Lambda
import HandS.Flow
import HandS.Style
import HandS.IsInst
import HandS.Deep
import HandS.TupAny
import HandS.TupMul
import HandS.Wide
import HandS.Replace
import HandS.Walk
import HandS.ExcInit
import HandS.ExcField
import HandS.TryOnly
import KE.GoesMore
import KE.GoesEnum
import HandS.EndOwn
import HandS.CallSlots
import PySem.Challenge.RW_beamboards_k00_whole_boards_drawn_and_re
set_option Elab.async false
set_option linter.all false
set_option maxRecDepth 100000
set_option Elab.async false
set_option linter.all false
set_option maxRecDepth 100000
set_option maxHeartbeats 2000000
/-! PdA: deep data over the hand layer: what a value is (Rp), slots (SV), the state of a body (R). -/
namespace PD
open PySem L2

abbrev D := PyData
/-- what a slot (or a value held on the way) has: nothing known, data that nobody changes, an object of the body's own -/
inductive SV where
  | no
  | val (d : D)
  | own (d : D)
abbrev Sl := List SV

def kD : Key → D
  | .inl i => .int i
  | .inr x => .str x
def kT (k : List Key) : D := .tuple (k.map kD)

mutual
inductive Rp (K : PySem.W.Frag) (F : Hp) : V → D → Prop
  | non : Rp K F .non .none
  | bl (b : Bool) : Rp K F (.bl b) (.bool b)
  | int (i : Int) : Rp K F (.int i) (.int i)
  | str (x : Str) : Rp K F (.str x) (.str x)
  | lst {a : Addr} {xs : List V} {ds : List D} : Rd F a (.lst xs) → RpA K F xs ds → Rp K F (.ref a) (.list ds)
  | tup {a : Addr} {xs : List V} {ds : List D} : SqT K F a xs → RpA K F xs ds → Rp K F (.ref a) (.tuple ds)
  | dK {a : Addr} {kvs : List (Key × V)} {es : List (D × D)} : Rd F a (.dK kvs) → es.map (·.1) = kvs.map (fun p => kD p.1) → RpA K F (kvs.map (·.2)) (es.map (·.2)) → Rp K F (.ref a) (.dict es)
  | dT {a : Addr} {kvs : List (List Key × V)} {es : List (D × D)} : Rd F a (.dT kvs) → es.map (·.1) = kvs.map (fun p => kT p.1) → RpA K F (kvs.map (·.2)) (es.map (·.2)) → Rp K F (.ref a) (.dict es)
inductive RpA (K : PySem.W.Frag) (F : Hp) : List V → List D → Prop
  | nil : RpA K F [] []
  | cons {v : V} {vs : List V} {d : D} {ds : List D} : Rp K F v d → RpA K F vs ds → RpA K F (v :: vs) (d :: ds)
end

theorem rd_mono {F F' : Hp} {a : Addr} {u : HO} (e : Same F F') (h : Rd F a u) : Rd F' a u := by
  rcases h with h | ⟨o, h⟩
  · exact .inl (e _ _ h)
  · exact .inr ⟨o, e _ _ h⟩
theorem sqt_mono {K : PySem.W.Frag} {F F' : Hp} {a : Addr} {xs : List V} (e : Same F F') (h : SqT K F a xs) : SqT K F' a xs := by
  rcases h with h | h
  · exact .inl (rd_mono e h)
  · exact .inr h
mutual
theorem Rp.mono {K : PySem.W.Frag} {F F' : Hp} (e : Same F F') : ∀ (d : D) (v : V), Rp K F v d → Rp K F' v d
  | .none, _, h => by cases h; exact .non
  | .bool b, _, h => by cases h; exact .bl b
  | .int i, _, h => by cases h; exact .int i
  | .str x, _, h => by cases h; exact .str x
  | .list ds, _, h => by
    cases h with
    | lst h1 h2 => exact .lst (rd_mono e h1) (RpA.mono e ds _ h2)
  | .tuple ds, _, h => by
    cases h with
    | tup h1 h2 => exact .tup (sqt_mono e h1) (RpA.mono e ds _ h2)
  | .dict es, _, h => by
    cases h with
    | dK h1 h2 h3 => exact .dK (rd_mono e h1) h2 (RpE.mono e es _ h3)
    | dT h1 h2 h3 => exact .dT (rd_mono e h1) h2 (RpE.mono e es _ h3)
theorem RpA.mono {K : PySem.W.Frag} {F F' : Hp} (e : Same F F') : ∀ (ds : List D) (vs : List V), RpA K F vs ds → RpA K F' vs ds
  | [], _, h => by cases h; exact .nil
  | d :: ds, _, h => by
    cases h with
    | cons h1 h2 => exact .cons (Rp.mono e d _ h1) (RpA.mono e ds _ h2)
theorem RpE.mono {K : PySem.W.Frag} {F F' : Hp} (e : Same F F') : ∀ (es : List (D × D)) (vs : List V), RpA K F vs (es.map (·.2)) → RpA K F' vs (es.map (·.2))
  | [], _, h => by
    cases h; exact .nil
  | (a, b) :: es, _, h => by
    cases h with
    | cons h1 h2 => exact .cons (Rp.mono e b _ h1) (RpE.mono e es _ h2)
end
theorem RpA.len {K : PySem.W.Frag} {F : Hp} : ∀ {vs : List V} {ds : List D}, RpA K F vs ds → vs.length = ds.length
  | [], _, h => by cases h; rfl
  | v :: vs, _, h => by
    cases h with
    | cons _ h2 => simp [RpA.len h2]
theorem RpA.get {K : PySem.W.Frag} {F : Hp} : ∀ {vs : List V} {ds : List D} {i : Nat} {d : D}, RpA K F vs ds → ds[i]? = some d → ∃ v, vs[i]? = some v ∧ Rp K F v d
  | [], _, i, d, h, e => by cases h; simp at e
  | v :: vs, _, 0, d, h, e => by
    cases h with
    | cons h1 _ => simp at e; subst e; exact ⟨v, rfl, h1⟩
  | v :: vs, _, i + 1, d, h, e => by
    cases h with
    | cons _ h2 =>
      obtain ⟨u, e1, e2⟩ := RpA.get (i := i) h2 (by simpa using e)
      exact ⟨u, by simpa using e1, e2⟩
theorem RpA.getV {K : PySem.W.Frag} {F : Hp} : ∀ {vs : List V} {ds : List D} {i : Nat} {v : V}, RpA K F vs ds → vs[i]? = some v → ∃ d, ds[i]? = some d ∧ Rp K F v d
  | [], _, i, d, h, e => by simp at e
  | v :: vs, _, 0, d, h, e => by
    cases h with
    | cons h1 _ => simp at e; subst e; exact ⟨_, rfl, h1⟩
  | v :: vs, _, i + 1, d, h, e => by
    cases h with
    | cons _ h2 =>
      obtain ⟨u, e1, e2⟩ := RpA.getV (i := i) h2 (by simpa using e)
      exact ⟨u, by simpa using e1, e2⟩
theorem RpA.app {K : PySem.W.Frag} {F : Hp} : ∀ {vs ws : List V} {ds es : List D}, RpA K F vs ds → RpA K F ws es → RpA K F (vs ++ ws) (ds ++ es)
  | [], _, _, _, h, k => by cases h; exact k
  | v :: vs, _, _, _, h, k => by
    cases h with
    | cons h1 h2 => exact .cons h1 (h2.app k)
theorem RpA.take {K : PySem.W.Frag} {F : Hp} : ∀ {vs : List V} {ds : List D} (n : Nat), RpA K F vs ds → RpA K F (vs.take n) (ds.take n)
  | _, _, 0, _ => .nil
  | [], _, _ + 1, h => by cases h; exact .nil
  | v :: vs, _, n + 1, h => by
    cases h with
    | cons h1 h2 => exact .cons h1 (h2.take n)
theorem RpA.drop {K : PySem.W.Frag} {F : Hp} : ∀ {vs : List V} {ds : List D} (n : Nat), RpA K F vs ds → RpA K F (vs.drop n) (ds.drop n)
  | _, _, 0, h => h
  | [], _, _ + 1, h => by cases h; exact .nil
  | v :: vs, _, n + 1, h => by
    cases h with
    | cons h1 h2 => exact h2.drop n
theorem RpA.set {K : PySem.W.Frag} {F : Hp} : ∀ {vs : List V} {ds : List D} (i : Nat) {v : V} {d : D}, RpA K F vs ds → Rp K F v d → RpA K F (vs.set i v) (ds.set i d)
  | [], _, _, _, _, h, _ => by cases h; exact .nil
  | x :: vs, _, 0, _, _, h, k => by
    cases h with
    | cons h1 h2 => exact .cons k h2
  | x :: vs, _, i + 1, _, _, h, k => by
    cases h with
    | cons h1 h2 => exact .cons h1 (h2.set i k)
theorem RpA.mk {K : PySem.W.Frag} {F : Hp} : ∀ {vs : List V} {ds : List D}, vs.length = ds.length → (∀ (i : Nat) v d, vs[i]? = some v → ds[i]? = some d → Rp K F v d) → RpA K F vs ds
  | [], [], _, _ => .nil
  | v :: vs, d :: ds, h, k => .cons (k 0 v d rfl rfl) (RpA.mk (by simpa using h) fun i v d e1 e2 => k (i + 1) v d (by simpa using e1) (by simpa using e2))
  | [], _ :: _, h, _ => by simp at h
  | _ :: _, [], h, _ => by simp at h
theorem RpA.rev {K : PySem.W.Frag} {F : Hp} : ∀ {vs : List V} {ds : List D}, RpA K F vs ds → RpA K F vs.reverse ds.reverse
  | [], _, h => by cases h; exact .nil
  | v :: vs, _, h => by
    cases h with
    | cons h1 h2 => simp only [List.reverse_cons]; exact (h2.rev).app (.cons h1 .nil)
theorem RpA.ints {K : PySem.W.Frag} {F : Hp} : ∀ ns : List Int, RpA K F (ns.map V.int) (ns.map PyData.int)
  | [] => .nil
  | n :: ns => .cons (.int n) (RpA.ints ns)

/- no dict in it: it can be compared -/
mutual
theorem Rp.dp {K : PySem.W.Frag} {F : Hp} : ∀ (d : D) (v : V), d.canLay0 = true → Rp K F v d → Dp K F v d
  | .none, _, _, h => by cases h; exact .non
  | .bool b, _, _, h => by cases h; exact .bl b
  | .int i, _, _, h => by cases h; exact .int i
  | .str x, _, _, h => by cases h; exact .str x
  | .list ds, _, c, h => by
    cases h with
    | lst h1 h2 => exact .lst (.inl h1) (RpA.dp ds _ (by simpa [PyData.canLay0] using c) h2)
  | .tuple ds, _, c, h => by
    cases h with
    | tup h1 h2 => exact .tup h1 (RpA.dp ds _ (by simpa [PyData.canLay0] using c) h2)
  | .dict es, _, c, h => by simp [PyData.canLay0] at c
theorem RpA.dp {K : PySem.W.Frag} {F : Hp} : ∀ (ds : List D) (vs : List V), PyData.canLayAll0 ds = true → RpA K F vs ds → DpAll K F vs ds
  | [], _, _, h => by cases h; exact .nil
  | d :: ds, _, c, h => by
    have c' : d.canLay0 = true ∧ PyData.canLayAll0 ds = true := by simpa [PyData.canLayAll0] using c
    cases h with
    | cons h1 h2 => exact .cons (Rp.dp d _ c'.1 h1) (RpA.dp ds _ c'.2 h2)
end

/-- the object o, its parts frozen in F, is d -/
inductive Own (K : PySem.W.Frag) (F : Hp) : HO → D → Prop
  | lst {xs : List V} {ds : List D} : RpA K F xs ds → Own K F (.lst xs) (.list ds)
  | dK {kvs : List (Key × V)} {es : List (D × D)} : es.map (·.1) = kvs.map (fun p => kD p.1) → RpA K F (kvs.map (·.2)) (es.map (·.2)) → Own K F (.dK kvs) (.dict es)
  | dT {kvs : List (List Key × V)} {es : List (D × D)} : es.map (·.1) = kvs.map (fun p => kT p.1) → RpA K F (kvs.map (·.2)) (es.map (·.2)) → Own K F (.dT kvs) (.dict es)
theorem Own.mono {K : PySem.W.Frag} {F F' : Hp} {o : HO} {d : D} (e : Same F F') (h : Own K F o d) : Own K F' o d := by
  cases h with
  | lst h => exact .lst (RpA.mono e _ _ h)
  | dK h1 h2 => exact .dK h1 (RpA.mono e _ _ h2)
  | dT h1 h2 => exact .dT h1 (RpA.mono e _ _ h2)
theorem Own.rp {K : PySem.W.Frag} {F : Hp} {a : Addr} {o : HO} {d : D} (h : Own K F o d) (ha : F a = some o) : Rp K F (.ref a) d := by
  cases h with
  | lst h => exact .lst (.of ha) h
  | dK h1 h2 => exact .dK (.of ha) h1 h2
  | dT h1 h2 => exact .dT (.of ha) h1 h2
theorem Own.ntbl {K : PySem.W.Frag} {F : Hp} {o : HO} {d : D} (h : Own K F o d) : ∀ ps, o ≠ .tbl ps := by
  cases h <;> intro ps e <;> cases e

/-- what may be read now: frozen data, or an own object -/
def Rr (K : PySem.W.Frag) (F H : Hp) (v : V) (d : D) : Prop := Rp K F v d ∨ ∃ a o, v = .ref a ∧ H a = some o ∧ Own K F o d
theorem Rr.rp {K : PySem.W.Frag} {F H : Hp} {v : V} {d : D} (e : Same F H) (h : Rr K F H v d) : Rp K H v d := by
  rcases h with h | ⟨a, o, rfl, ha, h⟩
  · exact Rp.mono e _ _ h
  · exact (h.mono e).rp ha
theorem Rr.lst {K : PySem.W.Frag} {F H : Hp} {v : V} {ds : List D} (e : Same F H) (h : Rr K F H v (.list ds)) : ∃ a xs, v = .ref a ∧ Rd H a (.lst xs) ∧ RpA K F xs ds := by
  rcases h with h | ⟨a, o, rfl, ha, h⟩
  · cases h with
    | lst h1 h2 => exact ⟨_, _, rfl, rd_mono e h1, h2⟩
  · cases h with
    | lst h => exact ⟨a, _, rfl, .of ha, h⟩
theorem Rr.tup {K : PySem.W.Frag} {F H : Hp} {v : V} {ds : List D} (e : Same F H) (h : Rr K F H v (.tuple ds)) : ∃ a xs, v = .ref a ∧ SqT K H a xs ∧ RpA K F xs ds := by
  rcases h with h | ⟨a, o, rfl, ha, h⟩
  · cases h with
    | tup h1 h2 => exact ⟨_, _, rfl, sqt_mono e h1, h2⟩
  · cases h
theorem Rr.int {K : PySem.W.Frag} {F H : Hp} {v : V} {i : Int} (h : Rr K F H v (.int i)) : v = .int i := by
  rcases h with h | ⟨a, o, rfl, ha, h⟩ <;> cases h <;> rfl
theorem Rr.str {K : PySem.W.Frag} {F H : Hp} {v : V} {x : Str} (h : Rr K F H v (.str x)) : v = .str x := by
  rcases h with h | ⟨a, o, rfl, ha, h⟩ <;> cases h <;> rfl
theorem Rr.bl {K : PySem.W.Frag} {F H : Hp} {v : V} {b : Bool} (h : Rr K F H v (.bool b)) : v = .bl b := by
  rcases h with h | ⟨a, o, rfl, ha, h⟩ <;> cases h <;> rfl
theorem Rr.non {K : PySem.W.Frag} {F H : Hp} {v : V} (h : Rr K F H v .none) : v = .non := by
  rcases h with h | ⟨a, o, rfl, ha, h⟩ <;> cases h <;> rfl
inductive RrA (K : PySem.W.Frag) (F H : Hp) : List V → List D → Prop
  | nil : RrA K F H [] []
  | cons {v : V} {vs : List V} {d : D} {ds : List D} : Rr K F H v d → RrA K F H vs ds → RrA K F H (v :: vs) (d :: ds)

/-- an exception: its class's name, its fields -/
structure Exn where
  cls : Str
  fs : List (Str × D)

/-- what a body starts from: the frozen heap, the heap, the object that it may change, the tables of code objects -/
structure Cfg where
  K : PySem.W.Frag
  mg : Str → Option Value
  F0 : Hp
  H0 : Hp
  io : List Addr
  T : List (Addr × Str)
  /-- the object that was handed in to be changed stands in slot 0 -/
  pin : Option V

abbrev Cells := List (Option V × SV)
def CellOk (K : PySem.W.Frag) (F H : Hp) : Option V × SV → Prop
  | (_, .no) => True
  | (some v, .val d) => Rp K F v d
  | (some (.ref a), .own d) => F a = none ∧ ∃ o, H a = some o ∧ Own K F o d
  | _ => False
def ownA : Option V × SV → Option Addr
  | (some (.ref a), .own _) => some a
  | _ => none

structure R (c : Cfg) (F : Hp) (cs : Cells) (H : Hp) : Prop where
  sub : Same F H
  grow0 : Same c.F0 F
  growN : ∀ b, c.F0 b = none → F b ≠ none → c.H0 b = none ∨ b ∈ c.io
  kept : ∀ b o, c.H0 b = some o → b ∉ c.io → H b = some o
  tabs : LamX.Tabs c.T H
  ntb : ∀ b ps, F b = some (.tbl ps) → c.F0 b = some (.tbl ps)
  ok : ∀ x ∈ cs, CellOk c.K F H x
  dis : (cs.filterMap ownA).Nodup
  own : ∀ a ∈ cs.filterMap ownA, c.H0 a = none ∨ a ∈ c.io

/-- both heaps grow by new objects -/
structure Grow (F H F' H' : Hp) : Prop where
  f : Same F F'
  h : Same H H'
  sub : Same F' H'
  new : ∀ b, F' b ≠ none → F b = none → H b = none
  ntb : ∀ b ps, F' b = some (.tbl ps) → F b = some (.tbl ps)
theorem Grow.refl {F H : Hp} (s : Same F H) : Grow F H F H := ⟨Same.refl _, Same.refl _, s, fun b h n => absurd n h, fun _ _ h => h⟩
theorem Grow.trans {F H F1 H1 F2 H2 : Hp} (a : Grow F H F1 H1) (b : Grow F1 H1 F2 H2) : Grow F H F2 H2 :=
  ⟨a.f.trans b.f, a.h.trans b.h, b.sub, fun x h n => by
    cases e : F1 x with
    | none => exact a.h.free (b.new x h e)
    | some o => exact a.new x (by rw [e]; simp) n, fun x ps h => a.ntb x ps (b.ntb x ps h)⟩
/-- a new frozen object -/
theorem Grow.lay {F H : Hp} {p : Addr} {o : HO} (s : Same F H) (hp : H p = none) (ho : ∀ ps, o ≠ .tbl ps := by intro ps z; cases z) : Grow F H (upd F p o) (upd H p o) := by
  have fp : F p = none := s.free hp
  refine ⟨fun b u e => ?_, fun b u e => ?_, fun b u e => ?_, fun b h n => ?_, fun b ps h => ?_⟩
  · rw [upd_ne (ne_of_none e fp)]; exact e
  · rw [upd_ne (ne_of_none e hp)]; exact e
  · by_cases hb : b = p
    · subst hb; rw [upd_same] at e ⊢; exact e
    · rw [upd_ne hb] at e ⊢; exact s _ _ e
  · by_cases hb : b = p
    · rw [hb]; exact hp
    · rw [upd_ne hb] at h; exact absurd n h
  · by_cases hb : b = p
    · subst hb; rw [upd_same] at h; exact absurd (Option.some.inj h) (ho ps)
    · rw [upd_ne hb] at h; exact h
/-- a new object that is not frozen -/
theorem Grow.new1 {F H : Hp} {p : Addr} {o : HO} (s : Same F H) (hp : H p = none) : Grow F H F (upd H p o) := by
  refine ⟨Same.refl _, fun b u e => ?_, fun b u e => ?_, fun b h n => absurd n h, fun _ _ h => h⟩
  · rw [upd_ne (ne_of_none e hp)]; exact e
  · rw [upd_ne (ne_of_none (s _ _ e) hp)]; exact s _ _ e

theorem CellOk.grow {K : PySem.W.Frag} {F H F' H' : Hp} {x : Option V × SV} (g : Grow F H F' H') (h : CellOk K F H x) : CellOk K F' H' x := by
  obtain ⟨v, s⟩ := x
  cases s with
  | no => trivial
  | val d =>
    cases v with
    | none => exact h.elim
    | some v => exact Rp.mono g.f _ _ h
  | own d =>
    cases v with
    | none => exact h.elim
    | some v =>
      cases v with
      | ref a =>
        obtain ⟨h1, o, h2, h3⟩ := h
        refine ⟨?_, o, g.h _ _ h2, h3.mono g.f⟩
        cases e : F' a with
        | none => rfl
        | some u =>
          have := g.new a (by rw [e]; simp) h1
          rw [h2] at this; cases this
      | _ => exact h.elim
theorem R.grow {c : Cfg} {F H F' H' : Hp} {cs : Cells} (r : R c F cs H) (g : Grow F H F' H') : R c F' cs H' where
  sub := g.sub
  grow0 := r.grow0.trans g.f
  growN := fun b h n => by
    cases e : F b with
    | some o => exact r.growN b h (by rw [e]; simp)
    | none =>
      have hb := g.new b n e
      by_cases hi : b ∈ c.io
      · exact .inr hi
      · refine .inl ?_
        cases q : c.H0 b with
        | none => rfl
        | some u => rw [r.kept b u q hi] at hb; cases hb
  kept := fun b o h hi => g.h _ _ (r.kept b o h hi)
  tabs := r.tabs.ext g.h
  ntb := fun b ps h => r.ntb b ps (g.ntb b ps h)
  ok := fun x hx => (r.ok x hx).grow g
  dis := r.dis
  own := r.own
theorem R.fresh {c : Cfg} {F H : Hp} {cs : Cells} (r : R c F cs H) {p : Addr} (hp : H p = none) : c.H0 p = none ∨ p ∈ c.io := by
  by_cases hi : p ∈ c.io
  · exact .inr hi
  · refine .inl ?_
    cases q : c.H0 p with
    | none => rfl
    | some u => rw [r.kept p u q hi] at hp; cases hp
theorem ownA_mem {cs : Cells} {a : Addr} (h : a ∈ cs.filterMap ownA) : ∃ d, (some (V.ref a), SV.own d) ∈ cs := by
  obtain ⟨x, hx, e⟩ := List.mem_filterMap.mp h
  obtain ⟨v, s⟩ := x
  cases s with
  | own d =>
    cases v with
    | none => cases e
    | some v =>
      cases v with
      | ref b => cases e; exact ⟨d, hx⟩
      | _ => cases e
  | _ => cases v <;> (try (rename_i v; cases v)) <;> cases e
/-- own objects stand in the heap -/
theorem R.ownThere {c : Cfg} {F H : Hp} {cs : Cells} (r : R c F cs H) {a : Addr} (h : a ∈ cs.filterMap ownA) : F a = none ∧ ∃ o d, H a = some o ∧ Own c.K F o d := by
  obtain ⟨d, hd⟩ := ownA_mem h
  obtain ⟨h1, o, h2, h3⟩ := r.ok _ hd
  exact ⟨h1, o, d, h2, h3⟩
theorem R.nil {c : Cfg} {F H : Hp} {cs : Cells} (r : R c F cs H) : R c F [] H :=
  ⟨r.sub, r.grow0, r.growN, r.kept, r.tabs, r.ntb, (by simp), (by simp), (by simp)⟩
/-- fewer cells, or in another order -/
theorem R.perm {c : Cfg} {F H : Hp} {cs cs' : Cells} (r : R c F cs H) (h : ∀ x ∈ cs', x ∈ cs) (hd : (cs'.filterMap ownA).Nodup) : R c F cs' H :=
  ⟨r.sub, r.grow0, r.growN, r.kept, r.tabs, r.ntb, fun x hx => r.ok x (h x hx), hd, fun a ha => by
    obtain ⟨x, hx, e⟩ := List.mem_filterMap.mp ha
    exact r.own a (List.mem_filterMap.mpr ⟨x, h x hx, e⟩)⟩
theorem R.subl {c : Cfg} {F H : Hp} {cs cs' : Cells} (r : R c F cs H) (h : cs'.Sublist cs) : R c F cs' H :=
  r.perm (fun x hx => h.subset hx) (List.Nodup.sublist (h.filterMap ownA) r.dis)
theorem R.drop {c : Cfg} {F H : Hp} {x : Option V × SV} {cs : Cells} (r : R c F (x :: cs) H) : R c F cs H := r.subl (List.sublist_cons_self x cs)
/-- frozen data as a further cell -/
theorem R.addV {c : Cfg} {F H : Hp} {cs : Cells} {v : V} {d : D} (r : R c F cs H) (h : Rp c.K F v d) : R c F ((some v, .val d) :: cs) H := by
  have e : ownA (some v, SV.val d) = none := by cases v <;> rfl
  refine ⟨r.sub, r.grow0, r.growN, r.kept, r.tabs, r.ntb, fun x hx => ?_, ?_, ?_⟩
  · rcases List.mem_cons.mp hx with rfl | hx
    · exact h
    · exact r.ok x hx
  · rw [List.filterMap_cons, e]; exact r.dis
  · rw [List.filterMap_cons, e]; exact r.own
theorem R.addN {c : Cfg} {F H : Hp} {cs : Cells} {v : Option V} (r : R c F cs H) : R c F ((v, .no) :: cs) H := by
  have e : ownA (v, SV.no) = none := by rcases v with _ | v <;> (try cases v) <;> rfl
  refine ⟨r.sub, r.grow0, r.growN, r.kept, r.tabs, r.ntb, fun x hx => ?_, ?_, ?_⟩
  · rcases List.mem_cons.mp hx with rfl | hx
    · trivial
    · exact r.ok x hx
  · rw [List.filterMap_cons, e]; exact r.dis
  · rw [List.filterMap_cons, e]; exact r.own
/-- a new own object as a further cell -/
theorem R.addO {c : Cfg} {F H F' H' : Hp} {cs : Cells} {p : Addr} {o : HO} {d : D} (r : R c F cs H) (g : Grow F H F' H') (hp : H p = none) (fp : F' p = none) (ho : H' p = some o) (h : Own c.K F' o d) : R c F' ((some (.ref p), .own d) :: cs) H' := by
  have r' := r.grow g
  have np : p ∉ cs.filterMap ownA := fun z => by
    obtain ⟨_, u, _, e, _⟩ := r.ownThere z
    rw [hp] at e; cases e
  refine ⟨r'.sub, r'.grow0, r'.growN, r'.kept, r'.tabs, r'.ntb, fun x hx => ?_, ?_, ?_⟩
  · rcases List.mem_cons.mp hx with rfl | hx
    · exact ⟨fp, o, ho, h⟩
    · exact r'.ok x hx
  · show (p :: cs.filterMap ownA).Nodup
    exact List.nodup_cons.mpr ⟨np, r.dis⟩
  · intro a ha
    rcases List.mem_cons.mp (show a ∈ p :: cs.filterMap ownA from ha) with rfl | ha
    · exact r.fresh hp
    · exact r.own a ha
/-- an own object is frozen: from the front -/
theorem R.freeze {c : Cfg} {F H : Hp} {cs : Cells} {v : Option V} {d : D} (r : R c F ((v, .own d) :: cs) H) : ∃ F', Same F F' ∧ R c F' ((v, .val d) :: cs) H := by
  have h0 := r.ok _ List.mem_cons_self
  rcases v with _ | v
  · exact h0.elim
  cases v with
  | ref a =>
    obtain ⟨h1, o, h2, h3⟩ := h0
    have ss : Same F (upd F a o) := fun b u e => by rw [upd_ne (ne_of_none e h1)]; exact e
    have nd : (a :: cs.filterMap ownA).Nodup := r.dis
    have na := (List.nodup_cons.mp nd).1
    have ss' : Same (upd F a o) H := fun b u e => by
      by_cases hb : b = a
      · subst hb; rw [upd_same] at e; rw [h2]; exact e
      · rw [upd_ne hb] at e; exact r.sub _ _ e
    have ownc : ∀ b ∈ cs.filterMap ownA, c.H0 b = none ∨ b ∈ c.io := fun b hb => r.own b (List.mem_cons_of_mem _ hb)
    have hv : Rp c.K (upd F a o) (.ref a) d := (h3.mono ss).rp upd_same
    refine ⟨upd F a o, ss, R.addV ⟨ss', r.grow0.trans ss, fun b hb n => ?_, r.kept, r.tabs, fun b ps hb => ?_, fun x hx => ?_, (List.nodup_cons.mp nd).2, ownc⟩ hv⟩
    · by_cases e : b = a
      · subst e; exact r.own b List.mem_cons_self
      · rw [upd_ne e] at n; exact r.growN b hb n
    · by_cases e : b = a
      · subst e; rw [upd_same] at hb; exact absurd (Option.some.inj hb) (h3.ntbl ps)
      · rw [upd_ne e] at hb; exact r.ntb b ps hb
    · have q := r.ok x (List.mem_cons_of_mem _ hx)
      obtain ⟨v, s⟩ := x
      cases s with
      | no => trivial
      | val d' =>
        cases v with
        | none => exact q.elim
        | some v => exact Rp.mono ss _ _ q
      | own d' =>
        cases v with
        | none => exact q.elim
        | some v =>
          cases v with
          | ref b =>
            obtain ⟨q1, u, q2, q3⟩ := q
            have hb : b ≠ a := fun z => na (by rw [← z]; exact List.mem_filterMap.mpr ⟨_, hx, rfl⟩)
            exact ⟨by rw [upd_ne hb]; exact q1, u, q2, q3.mono ss⟩
          | _ => exact q.elim
  | _ => exact h0.elim
/-- an own object is changed: from the front -/
theorem R.change {c : Cfg} {F H : Hp} {cs : Cells} {a : Addr} {d d' : D} {o' : HO} (r : R c F ((some (.ref a), .own d) :: cs) H) (h : Own c.K F o' d') : R c F ((some (.ref a), .own d') :: cs) (upd H a o') := by
  obtain ⟨h1, o, h2, h3⟩ := r.ok _ List.mem_cons_self
  have nd : (a :: cs.filterMap ownA).Nodup := r.dis
  have na := (List.nodup_cons.mp nd).1
  refine ⟨fun b u e => ?_, r.grow0, r.growN, fun b u e hi => ?_, ?_, r.ntb, fun x hx => ?_, r.dis, r.own⟩
  · rw [upd_ne (ne_of_none e h1)]; exact r.sub _ _ e
  · have hb : b ≠ a := fun z => by
      rcases r.own a List.mem_cons_self with q | q
      · rw [z, q] at e; cases e
      · exact hi (z ▸ q)
    rw [upd_ne hb]; exact r.kept b u e hi
  · intro p hp
    obtain ⟨ps, e1, e2, e3⟩ := r.tabs p hp
    have hb : p.1 ≠ a := fun z => by rw [z, h2] at e1; exact h3.ntbl ps (Option.some.inj e1)
    refine ⟨ps, by rw [upd_ne hb]; exact e1, e2, fun pos cv hc => ?_⟩
    obtain ⟨c', e4, e5⟩ := e3 pos cv hc
    refine ⟨c', e4, ?_⟩
    have hb' : c' ≠ a := fun z => by
      rw [z, h2] at e5
      have e6 := Option.some.inj e5
      rw [e6] at h3
      unfold LamX.CodeO at h3
      cases h3
    rw [upd_ne hb']; exact e5
  · rcases List.mem_cons.mp hx with rfl | hx
    · exact ⟨h1, o', upd_same, h⟩
    · have q := r.ok x (List.mem_cons_of_mem _ hx)
      obtain ⟨v, s⟩ := x
      cases s with
      | no => trivial
      | val d' =>
        cases v with
        | none => exact q.elim
        | some v => exact q
      | own d' =>
        cases v with
        | none => exact q.elim
        | some v =>
          cases v with
          | ref b =>
            obtain ⟨q1, u, q2, q3⟩ := q
            have hb : b ≠ a := fun z => na (by rw [← z]; exact List.mem_filterMap.mpr ⟨_, hx, rfl⟩)
            exact ⟨q1, u, by rw [upd_ne hb]; exact q2, q3⟩
          | _ => exact q.elim
theorem R.rr {c : Cfg} {F H : Hp} {cs : Cells} {v : V} {s : SV} {d : D} (r : R c F cs H) (h : (some v, s) ∈ cs) (hs : s = .val d ∨ s = .own d) : Rr c.K F H v d := by
  have q := r.ok _ h
  rcases hs with rfl | rfl
  · exact .inl q
  · cases v with
    | ref a =>
      obtain ⟨_, o, h2, h3⟩ := q
      exact .inr ⟨a, o, rfl, h2, h3⟩
    | _ => exact q.elim
end PD

set_option Elab.async false
set_option linter.all false
set_option maxRecDepth 100000
set_option maxHeartbeats 2000000
/-! PdB: what an expression denotes (DX), a test (DT), arguments (DA'): names, constants, operators, displays. -/
namespace PD
open PySem L2

/-- an operand: a value held, or the own object of a slot -/
inductive Od where
  | t (s : SV)
  | p (i : Nat)
inductive EO where
  | ok (o : Od) (ρ : Sl)
  | ex (x : Exn) (ρ : Sl)
  | no
inductive AO where
  | ok (os : List Od) (ρ : Sl)
  | ex (x : Exn) (ρ : Sl)
  | no
inductive BO where
  | ok (b : Bool) (ρ : Sl)
  | ex (x : Exn) (ρ : Sl)
  | no
/-- what an operation gives: data, or a new object -/
inductive VO where
  | v (d : D)
  | n (d : D)
  | no
abbrev DE := Sl → EO
abbrev DAs := Sl → AO
abbrev DB := Sl → BO

def XRel (c : Cfg) (F H : Hp) (x : Exn) (cls : Value) (dd : Option Addr) : Prop :=
  c.mg x.cls = some cls ∧ ∃ (a : Addr) (fs : List (Str × V)), dd = some a ∧ H a = some (.xd fs) ∧ fs.map (·.1) = x.fs.map (·.1) ∧ RpA c.K F (fs.map (·.2)) (x.fs.map (·.2))
def PostX (c : Cfg) (W : XK) (τ : Cells) (σ : St) (x : Exn) (ρ : Sl) : Prop :=
  ∀ cls dd F H, σ.length = ρ.length → XRel c F H x cls dd → R c F (τ ++ σ.zip ρ) H → W cls dd H
def PostE (c : Cfg) (W : XK) (τ : Cells) (σ : St) (Q : VK) : EO → Prop
  | .ok (.t s) ρ => ∀ v F H, σ.length = ρ.length → R c F ((some v, s) :: (τ ++ σ.zip ρ)) H → Q v H
  | .ok (.p i) ρ => ∀ v F H, σ.length = ρ.length → σ[i]? = some (some v) → R c F (τ ++ σ.zip ρ) H → Q v H
  | .ex x ρ => PostX c W τ σ x ρ
  | .no => False
def PostB (c : Cfg) (W : XK) (τ : Cells) (σ : St) (Q : Bool → Hp → Prop) : BO → Prop
  | .ok b ρ => ∀ F H, σ.length = ρ.length → R c F (τ ++ σ.zip ρ) H → Q b H
  | .ex x ρ => PostX c W τ σ x ρ
  | .no => False
/-- the operands that are held -/
def temps : List Od → List V → Cells
  | .t s :: os, v :: vs => (some v, s) :: temps os vs
  | .p _ :: os, _ :: vs => temps os vs
  | _, _ => []
def Held (σ : St) : List Od → List V → Prop
  | .t _ :: os, _ :: vs => Held σ os vs
  | .p i :: os, v :: vs => σ[i]? = some (some v) ∧ Held σ os vs
  | [], [] => True
  | _, _ => False
def PostA (c : Cfg) (W : XK) (τ : Cells) (σ : St) (Q : List V → Hp → Prop) : AO → Prop
  | .ok os ρ => ∀ vs F H, σ.length = ρ.length → Held σ os vs → R c F (temps os vs ++ (τ ++ σ.zip ρ)) H → Q vs H
  | .ex x ρ => PostX c W τ σ x ρ
  | .no => False

def RE (c : Cfg) (W : XK) (t : TE) (d : DE) : Prop := ∀ τ σ ρ F H Q, σ.length = ρ.length → R c F (τ ++ σ.zip ρ) H → PostE c W τ σ Q (d ρ) → t σ H Q
def RB (c : Cfg) (W : XK) (t : TT) (d : DB) : Prop := ∀ τ σ ρ F H Q, σ.length = ρ.length → R c F (τ ++ σ.zip ρ) H → PostB c W τ σ Q (d ρ) → t σ H Q
def RA (c : Cfg) (W : XK) (t : TA) (d : DAs) : Prop := ∀ τ σ ρ F H Q, σ.length = ρ.length → R c F (τ ++ σ.zip ρ) H → PostA c W τ σ Q (d ρ) → t σ H Q

def DX (X : Cx) (c : Cfg) (W : XK) (e : Expr) (d : DE) : Prop := ∃ t, PE X e t ∧ RE c W t d
def DT (X : Cx) (c : Cfg) (W : XK) (e : Expr) (d : DB) : Prop := ∃ t, PT X e t ∧ RB c W t d
def DTW (X : Cx) (c : Cfg) (W : XK) (e : Expr) (d : DB) : Prop := ∃ t, PW X e t ∧ RB c W t d
def DXA (X : Cx) (c : Cfg) (W : XK) (es : List Expr) (d : DAs) : Prop := ∃ t, PA X es t ∧ RA c W t d

/-! ### names, constants -/
def dV (i : Nat) : DE := fun ρ => match ρ[i]? with
  | some (.val d) => .ok (.t (.val d)) ρ
  | some (.own _) => .ok (.p i) ρ
  | _ => .no
def dC (d : D) : DE := fun ρ => .ok (.t (.val d)) ρ

theorem zip_get {σ : St} {ρ : Sl} {i : Nat} {s : SV} (hl : σ.length = ρ.length) (h : ρ[i]? = some s) : ∃ o, σ[i]? = some o ∧ (o, s) ∈ σ.zip ρ := by
  have hi : i < ρ.length := (List.getElem?_eq_some_iff.mp h).1
  have hi2 : i < σ.length := by omega
  refine ⟨σ[i], by simp [hi2], ?_⟩
  have e : (σ.zip ρ)[i]? = some (σ[i], s) := by
    rw [List.getElem?_zip_eq_some]
    exact ⟨by simp [hi2], h⟩
  exact List.mem_of_getElem? e
theorem R.slot {c : Cfg} {F H : Hp} {τ : Cells} {σ : St} {ρ : Sl} {i : Nat} {s : SV} (r : R c F (τ ++ σ.zip ρ) H) (hl : σ.length = ρ.length) (h : ρ[i]? = some s) (hs : s ≠ .no) : ∃ v, σ[i]? = some (some v) ∧ (some v, s) ∈ τ ++ σ.zip ρ := by
  obtain ⟨o, e, m⟩ := zip_get hl h
  have q := r.ok _ (List.mem_append_right τ m)
  cases o with
  | some v => exact ⟨v, e, List.mem_append_right τ m⟩
  | none => cases s <;> first | exact absurd rfl hs | exact q.elim
theorem R.rpSlot {c : Cfg} {F H : Hp} {τ : Cells} {σ : St} {ρ : Sl} {i : Nat} {d : D} (r : R c F (τ ++ σ.zip ρ) H) (hl : σ.length = ρ.length) (h : ρ[i]? = some (.val d)) : ∃ v, σ[i]? = some (some v) ∧ Rp c.K F v d := by
  obtain ⟨v, e, m⟩ := r.slot hl h (by intro z; cases z)
  exact ⟨v, e, r.ok _ m⟩

section
variable {X : Cx} {c : Cfg} {W : XK}
theorem re_var {i : Nat} : RE c W (tVar i) (dV i) := by
  intro τ σ ρ F H Q hl r h
  unfold dV at h
  cases e : ρ[i]? with
  | none => rw [e] at h; exact h.elim
  | some s =>
    rw [e] at h
    cases s with
    | no => exact h.elim
    | val d =>
      obtain ⟨v, e1, hv⟩ := r.rpSlot hl e
      exact ⟨v, e1, h v F H hl (r.addV hv)⟩
    | own d =>
      obtain ⟨v, e1, _⟩ := r.slot hl e (by intro z; cases z)
      exact ⟨v, e1, h v F H hl e1 r⟩
theorem dx_var (i : Nat) {x : Str} {pos : Pos} (hN : X.N[i]? = some x := by rfl) (hv : Vis X.env.scope x := by first | exact Or.inl rfl | exact Or.inr (Or.inl rfl) | exact Or.inr (Or.inr rfl)) (hd : (x == ("__debug__" : Str)) = false := by decide)
    (hcd : (x == ("__classdict__" : Str)) = false := by decide) : DX X c W (.Name x pos) (dV i) := ⟨_, pe_var hN hv hd hcd, re_var⟩
theorem re_c {v : V} {d : D} (h : ∀ F, Rp c.K F v d) : RE c W (tC v) (dC d) := by
  intro τ σ ρ F H Q hl r q
  exact q v F H hl (r.addV (h F))
theorem dx_int {i j pos} : DX X c W (.Constant (.int i) j pos) (dC (.int i)) := ⟨_, pe_int, re_c fun _ => .int i⟩
theorem dx_bl {b j pos} : DX X c W (.Constant (.bool b) j pos) (dC (.bool b)) := ⟨_, pe_bl, re_c fun _ => .bl b⟩
theorem dx_non {j pos} : DX X c W (.Constant .none j pos) (dC .none) := ⟨_, pe_non, re_c fun _ => .non⟩
theorem dx_str {x j pos} : DX X c W (.Constant (.str x) j pos) (dC (.str x)) := ⟨_, pe_str, re_c fun _ => .str x⟩
/-- a module's constant -/
structure Glb (K : PySem.W.Frag) (mg : Str → Option Value) (x : Str) (d : D) : Prop where
  ex : ∃ (v : V) (u : Value), mg x = some u ∧ RelV v u ∧ ∀ F, Rp K F v d
theorem dx_glob {x : Str} {d : D} {pos : Pos} (g : Glb X.K X.mg x d) (hK : c.K = X.K) (hg : Gl X x := by rfl) (hd : (x == ("__debug__" : Str)) = false := by decide) : DX X c W (.Name x pos) (dC d) := by
  obtain ⟨v, u, hm, r, h⟩ := g.ex
  exact ⟨_, pe_glob hg hm r hd, re_c fun F => by rw [hK]; exact h F⟩

/-! ### arguments -/
def daN : DAs := fun ρ => .ok [] ρ
def daC (d : DE) (da : DAs) : DAs := fun ρ => match d ρ with
  | .ok o ρ1 => (match da ρ1 with
    | .ok os ρ2 => .ok (o :: os) ρ2
    | .ex x ρ2 => .ex x ρ2
    | .no => .no)
  | .ex x ρ1 => .ex x ρ1
  | .no => .no
theorem ra_nil : RA c W tNil daN := fun τ σ ρ F H Q hl r h => h [] F H hl trivial r
theorem filterMap_perm {cs cs' : Cells} (h : cs.Perm cs') : (cs.filterMap ownA).Perm (cs'.filterMap ownA) := h.filterMap ownA
theorem R.permL {F H : Hp} {cs cs' : Cells} (r : R c F cs H) (h : cs.Perm cs') : R c F cs' H :=
  r.perm (fun x hx => h.mem_iff.mpr hx) ((filterMap_perm h).nodup_iff.mp r.dis)
theorem PostX.drop {τ : Cells} {σ : St} {x : Exn} {ρ : Sl} {y : Option V × SV} (h : PostX c W τ σ x ρ) : PostX c W (y :: τ) σ x ρ := fun cls dd F H hl xr r => h cls dd F H hl xr r.drop
theorem ra_cons {te : TE} {ta : TA} {d : DE} {da : DAs} (he : RE c W te d) (ha : RA c W ta da) : RA c W (tCons te ta) (daC d da) := by
  intro τ σ ρ F H Q hl r h
  unfold daC at h
  cases e : d ρ with
  | no => rw [e] at h; exact h.elim
  | ex x ρ1 =>
    rw [e] at h
    exact he τ σ ρ F H _ hl r (by rw [e]; exact h)
  | ok o ρ1 =>
    rw [e] at h
    simp only at h
    cases o with
    | t s =>
      refine he τ σ ρ F H _ hl r ?_
      rw [e]
      intro v F1 H1 hl1 r1
      refine ha ((some v, s) :: τ) σ ρ1 F1 H1 _ hl1 r1 ?_
      cases e2 : da ρ1 with
      | no => rw [e2] at h; exact h.elim
      | ex x ρ2 => rw [e2] at h; exact PostX.drop h
      | ok os ρ2 =>
        rw [e2] at h
        intro vs F2 H2 hl2 hh r2
        refine h (v :: vs) F2 H2 hl2 hh (r2.permL ?_)
        show (temps os vs ++ ((some v, s) :: (τ ++ σ.zip ρ2))).Perm ((some v, s) :: (temps os vs ++ (τ ++ σ.zip ρ2)))
        exact List.perm_middle
    | p i =>
      refine he τ σ ρ F H _ hl r ?_
      rw [e]
      intro v F1 H1 hl1 hv r1
      refine ha τ σ ρ1 F1 H1 _ hl1 r1 ?_
      cases e2 : da ρ1 with
      | no => rw [e2] at h; exact h.elim
      | ex x ρ2 => rw [e2] at h; exact h
      | ok os ρ2 =>
        rw [e2] at h
        intro vs F2 H2 hl2 hh r2
        exact h (v :: vs) F2 H2 hl2 ⟨hv, hh⟩ r2
theorem da_nil : DXA X c W [] daN := ⟨_, pa_nil, ra_nil⟩
theorem da_cons {e : Expr} {es : List Expr} {d : DE} {da : DAs} (he : DX X c W e d) (ha : DXA X c W es da) (hs : starEach (e :: es) X.env = (false, eval e X.env) :: starEach es X.env := by rfl) : DXA X c W (e :: es) (daC d da) := by
  obtain ⟨t, p, r⟩ := he
  obtain ⟨t2, p2, r2⟩ := ha
  exact ⟨_, pa_cons p p2 hs, ra_cons r r2⟩

/-! ### operations by values -/
/-- an operand's data as it is now -/
def res (ρ : Sl) : Od → Option D
  | .t (.val d) => some d
  | .t (.own d) => some d
  | .t .no => none
  | .p i => match ρ[i]? with
    | some (.val d) => some d
    | some (.own d) => some d
    | _ => none
def resA (ρ : Sl) : List Od → Option (List D)
  | [] => some []
  | o :: os => match res ρ o with
    | some d => (match resA ρ os with
      | some ds => some (d :: ds)
      | none => none)
    | none => none
theorem R.resA {F H : Hp} {τ : Cells} {σ : St} {ρ : Sl} (hl : σ.length = ρ.length) {cs : Cells} (r : R c F (cs ++ (τ ++ σ.zip ρ)) H) : ∀ (os : List Od) (vs : List V) (ds : List D), (∀ x ∈ temps os vs, x ∈ cs) → Held σ os vs → PD.resA ρ os = some ds → RrA c.K F H vs ds
  | [], [], ds, _, _, e => by
    cases e; exact .nil
  | [], _ :: _, _, _, h, _ => h.elim
  | .t s :: os, [], _, _, h, _ => h.elim
  | .p i :: os, [], _, _, h, _ => h.elim
  | .t s :: os, v :: vs, ds, hm, h, e => by
    unfold PD.resA at e
    cases e1 : res ρ (.t s) with
    | none => rw [e1] at e; cases e
    | some d =>
      rw [e1] at e
      cases e2 : PD.resA ρ os with
      | none => rw [e2] at e; cases e
      | some ds' =>
        rw [e2] at e
        cases e
        refine .cons ?_ (R.resA hl r os vs ds' (fun x hx => hm x (List.mem_cons_of_mem _ hx)) h e2)
        refine r.rr (List.mem_append_left _ (hm _ List.mem_cons_self)) ?_
        cases s with
        | no => cases e1
        | val d' => cases e1; exact .inl rfl
        | own d' => cases e1; exact .inr rfl
  | .p i :: os, v :: vs, ds, hm, h, e => by
    unfold PD.resA at e
    cases e1 : res ρ (.p i) with
    | none => rw [e1] at e; cases e
    | some d =>
      rw [e1] at e
      cases e2 : PD.resA ρ os with
      | none => rw [e2] at e; cases e
      | some ds' =>
        rw [e2] at e
        cases e
        refine .cons ?_ (R.resA hl r os vs ds' hm h.2 e2)
        simp only [res] at e1
        cases e3 : ρ[i]? with
        | none => rw [e3] at e1; cases e1
        | some s =>
          rw [e3] at e1
          have ns : s ≠ .no := by intro z; subst z; cases e1
          obtain ⟨v', e4, m⟩ := R.slot (r.subl (List.sublist_append_right _ _)) hl e3 ns
          have ev : v' = v := by have := h.1; rw [e4] at this; exact Option.some.inj (Option.some.inj this)
          subst ev
          refine r.rr (List.mem_append_right _ m) ?_
          cases s with
          | no => exact absurd rfl ns
          | val d' => cases e1; exact .inl rfl
          | own d' => cases e1; exact .inr rfl
theorem R.dropTemps {F H : Hp} {cs cs' : Cells} (r : R c F (cs ++ cs') H) : R c F cs' H := r.subl (List.sublist_append_right _ _)

def PostV (K : PySem.W.Frag) (F H : Hp) (Q : VK) : VO → Prop
  | .v d => ∀ z F' H', Grow F H F' H' → Rp K F' z d → Q z H'
  | .n d => ∀ p o F' H', Grow F H F' H' → H p = none → F' p = none → H' p = some o → Own K F' o d → Q (.ref p) H'
  | .no => False
def VOk (K : PySem.W.Frag) (r : List V → Hp → VK → Prop) (f : List D → VO) : Prop := ∀ F H vs ds Q, Same F H → RrA K F H vs ds → PostV K F H Q (f ds) → r vs H Q
def dOp (f : List D → VO) (da : DAs) : DE := fun ρ => match da ρ with
  | .ok os ρ1 => (match resA ρ1 os with
    | some ds => (match f ds with
      | .v d => .ok (.t (.val d)) ρ1
      | .n d => .ok (.t (.own d)) ρ1
      | .no => .no)
    | none => .no)
  | .ex x ρ1 => .ex x ρ1
  | .no => .no
theorem re_op {r : List V → Hp → VK → Prop} {f : List D → VO} {ta : TA} {da : DAs} (hv : VOk c.K r f) (ha : RA c W ta da) : RE c W (tCB r ta) (dOp f da) := by
  intro τ σ ρ F H Q hl rr h
  unfold dOp at h
  refine ha τ σ ρ F H _ hl rr ?_
  cases e : da ρ with
  | no => rw [e] at h; exact h.elim
  | ex x ρ1 => rw [e] at h; exact h
  | ok os ρ1 =>
    rw [e] at h
    intro vs F1 H1 hl1 hh r1
    simp only at h
    cases e1 : resA ρ1 os with
    | none => rw [e1] at h; exact h.elim
    | some ds =>
      rw [e1] at h
      simp only at h
      refine hv F1 H1 vs ds Q r1.sub (R.resA hl1 r1 os vs ds (fun _ x => x) hh e1) ?_
      cases e2 : f ds with
      | no => rw [e2] at h; exact h.elim
      | v d =>
        rw [e2] at h
        intro z F' H' g hz
        exact h z F' H' hl1 ((r1.dropTemps.grow g).addV hz)
      | n d =>
        rw [e2] at h
        intro p o F' H' g hp fp ho hown
        exact h (.ref p) F' H' hl1 (r1.dropTemps.addO g hp fp ho hown)
/-- two operands, one -/
def r2 (r : R2) : List V → Hp → VK → Prop := fun vs H Q => match vs with
  | [x, y] => r x y H Q
  | _ => False
def r1 (r : V → Hp → VK → Prop) : List V → Hp → VK → Prop := fun vs H Q => match vs with
  | [x] => r x H Q
  | _ => False
theorem re_op2 {r : R2} {f : List D → VO} {ta tb : TE} {a b : DE} (hv : VOk c.K (r2 r) f) (ha : RE c W ta a) (hb : RE c W tb b) : RE c W (tOp r ta tb) (dOp f (daC a (daC b daN))) := re_op (r := r2 r) hv (ra_cons ha (ra_cons hb ra_nil))
theorem re_op1 {r : V → Hp → VK → Prop} {f : List D → VO} {ta : TE} {a : DE} (hv : VOk c.K (r1 r) f) (ha : RE c W ta a) : RE c W (tUn r ta) (dOp f (daC a daN)) := re_op (r := r1 r) hv (ra_cons ha ra_nil)

theorem dx_bin {op : Operator} {r : R2} {f : List D → VO} {a b : Expr} {da db : DE} {pos : Pos} (ho : OpR X (binaryOp op) r) (hv : VOk c.K (r2 r) f) (ha : DX X c W a da) (hb : DX X c W b db) : DX X c W (.BinOp a op b pos) (dOp f (daC da (daC db daN))) := by
  obtain ⟨ta, pa, ra⟩ := ha
  obtain ⟨tb, pb, rb⟩ := hb
  exact ⟨_, pe_op ho pa pb, re_op2 hv ra rb⟩
theorem dx_un {op : UnaryOp} {r : V → Hp → VK → Prop} {f : List D → VO} {a : Expr} {da : DE} {pos : Pos} (ho : UnR X (unaryOp op) r) (hv : VOk c.K (r1 r) f) (ha : DX X c W a da) : DX X c W (.UnaryOp op a pos) (dOp f (daC da daN)) := by
  obtain ⟨ta, pa, ra⟩ := ha
  exact ⟨_, pe_un ho pa, re_op1 hv ra⟩
theorem dx_cmp {op : CmpOp} {r : R2} {f : List D → VO} {a b : Expr} {da db : DE} {pos : Pos} (ho : OpR X (compareOp op) r) (hv : VOk c.K (r2 r) f) (ha : DX X c W a da) (hb : DX X c W b db) (hm : behindInMarks op b = false := by first | exact nomark _ | rfl) : DX X c W (.Compare a [op] [b] pos) (dOp f (daC da (daC db daN))) := by
  obtain ⟨ta, pa, ra⟩ := ha
  obtain ⟨tb, pb, rb⟩ := hb
  exact ⟨_, pe_cmpR ho pa pb hm, re_op2 hv ra rb⟩
theorem dx_ix {r : R2} {f : List D → VO} {a b : Expr} {da db : DE} {pos : Pos} (ho : IxR X r) (hv : VOk c.K (r2 r) f) (ha : DX X c W a da) (hb : DX X c W b db) (hs : PlainIx b := by exact fun _ _ => rfl) : DX X c W (.Subscript a b pos) (dOp f (daC da (daC db daN))) := by
  obtain ⟨ta, pa, ra⟩ := ha
  obtain ⟨tb, pb, rb⟩ := hb
  exact ⟨_, pe_ix ho pa pb hs, re_op2 hv ra rb⟩
/-- a built-in function, a built-in class -/
theorem dx_callB {id : String} {x : Str} {r : List V → Hp → VK → Prop} {f : List D → VO} {e : Expr} {es : List Expr} {da : DAs} {p pos : Pos} (hc : CallR X (.builtin id) r) (hv : VOk c.K r f) (hm : X.mg x = none) (ha : DXA X c W (e :: es) da) (hg : Gl X x := by rfl) (hb : bootBuiltins x = some (.builtin id) := by decide +kernel) (hn : x ≠ "__name__" := by decide) (hdb : (x == ("__debug__" : Str)) = false := by decide)
    (he : starEach (e :: es) X.env = (false, eval e X.env) :: starEach es X.env := by rfl) (hpl : (backTo pos (starEach es X.env)).any (·.1) = false := by rfl) : DX X c W (.Call (.Name x p) (e :: es) [] pos) (dOp f da) := by
  obtain ⟨t, pa, ra⟩ := ha
  exact ⟨_, pe_callB hc hg hm hb pa hn hdb he hpl, re_op hv ra⟩
theorem dx_callTy {T : String} {x : Str} {r : List V → Hp → VK → Prop} {f : List D → VO} {e : Expr} {es : List Expr} {da : DAs} {p pos : Pos} (hc : CallR X (.type T) r) (hv : VOk c.K r f) (hm : X.mg x = none) (ha : DXA X c W (e :: es) da) (hg : Gl X x := by rfl) (hb : bootBuiltins x = some (.type T) := by decide +kernel) (hn : x ≠ "__name__" := by decide) (hdb : (x == ("__debug__" : Str)) = false := by decide)
    (he : starEach (e :: es) X.env = (false, eval e X.env) :: starEach es X.env := by rfl) (hpl : (backTo pos (starEach es X.env)).any (·.1) = false := by rfl) : DX X c W (.Call (.Name x p) (e :: es) [] pos) (dOp f da) := by
  obtain ⟨t, pa, ra⟩ := ha
  exact ⟨_, pe_callTy hc hg hm hb pa hn hdb he hpl, re_op hv ra⟩

/-! ### displays -/
/-- an operand is frozen: a new object is the body's no more; a slot's neither -/
def frz1 (ρ : Sl) : Od → Option (D × Sl)
  | .t (.val d) => some (d, ρ)
  | .t (.own d) => some (d, ρ)
  | .t .no => none
  | .p i => match ρ[i]? with
    | some (.val d) => some (d, ρ)
    | some (.own d) => some (d, ρ.set i (.val d))
    | _ => none
def frzA (ρ : Sl) : List Od → Option (List D × Sl)
  | [] => some ([], ρ)
  | o :: os => match frz1 ρ o with
    | some (d, ρ1) => (match frzA ρ1 os with
      | some (ds, ρ2) => some (d :: ds, ρ2)
      | none => none)
    | none => none
theorem zip_set {σ : St} {ρ : Sl} {i : Nat} {s s' : SV} {v : Option V} (hs : σ[i]? = some v) (hr : ρ[i]? = some s) :
    ∃ rest, (σ.zip ρ).Perm ((v, s) :: rest) ∧ (σ.zip (ρ.set i s')).Perm ((v, s') :: rest) := by
  induction σ generalizing ρ i with
  | nil => simp at hs
  | cons x σ ih =>
    cases ρ with
    | nil => simp at hr
    | cons y ρ =>
      cases i with
      | zero =>
        simp at hs hr
        subst hs; subst hr
        exact ⟨σ.zip ρ, .refl _, .refl _⟩
      | succ i =>
        obtain ⟨rest, p1, p2⟩ := ih (by simpa using hs) (by simpa using hr)
        refine ⟨(x, y) :: rest, ?_, ?_⟩
        · exact (p1.cons (x, y)).trans (.swap _ _ _)
        · exact (p2.cons (x, y)).trans (.swap _ _ _)
/-- the own object of a slot to the front, and back -/
theorem R.front {F H : Hp} {τ : Cells} {σ : St} {ρ : Sl} {i : Nat} {s s' : SV} {v : Option V} (hs : σ[i]? = some v) (hr : ρ[i]? = some s) (r : R c F (τ ++ σ.zip ρ) H) :
    ∃ rest, R c F ((v, s) :: rest) H ∧ ∀ F' H', R c F' ((v, s') :: rest) H' → R c F' (τ ++ σ.zip (ρ.set i s')) H' := by
  obtain ⟨rest, p1, p2⟩ := zip_set (s' := s') hs hr
  refine ⟨τ ++ rest, r.permL ((p1.append_left τ).trans List.perm_middle), fun F' H' q => q.permL ?_⟩
  exact ((p2.append_left τ).trans List.perm_middle).symm
theorem R.frz1 {F H : Hp} {τ : Cells} {σ : St} {ρ ρ' : Sl} {o : Od} {v : V} {d : D} (hl : σ.length = ρ.length) (hh : Held σ [o] [v]) (r : R c F (temps [o] [v] ++ (τ ++ σ.zip ρ)) H) (e : PD.frz1 ρ o = some (d, ρ')) :
    ∃ F', Same F F' ∧ σ.length = ρ'.length ∧ R c F' ((some v, .val d) :: (τ ++ σ.zip ρ')) H := by
  cases o with
  | t s =>
    cases s with
    | no => cases e
    | val d' => cases e; exact ⟨F, Same.refl _, hl, r⟩
    | own d' =>
      cases e
      obtain ⟨F', s', r'⟩ := R.freeze (show R c F ((some v, .own d) :: (τ ++ σ.zip ρ)) H from r)
      exact ⟨F', s', hl, r'⟩
  | p i =>
    have r : R c F (τ ++ σ.zip ρ) H := r
    have hv : σ[i]? = some (some v) := hh.1
    simp only [PD.frz1] at e
    cases e3 : ρ[i]? with
    | none => rw [e3] at e; cases e
    | some s =>
      rw [e3] at e
      cases s with
      | no => cases e
      | val d' =>
        cases e
        obtain ⟨v', e4, q⟩ := r.rpSlot hl e3
        have ev : v' = v := by rw [hv] at e4; exact (Option.some.inj (Option.some.inj e4)).symm
        subst ev
        exact ⟨F, Same.refl _, hl, r.addV q⟩
      | own d' =>
        cases e
        obtain ⟨rest, q1, q2⟩ := R.front (s' := .val d) hv e3 r
        obtain ⟨F', s', r'⟩ := q1.freeze
        have r2 := q2 F' H r'
        have hl2 : σ.length = (ρ.set i (.val d)).length := by simpa using hl
        obtain ⟨v', e4, q⟩ := r2.rpSlot hl2 (i := i) (d := d) (by rw [List.getElem?_set_self (List.getElem?_eq_some_iff.mp e3).1])
        have ev : v' = v := by rw [hv] at e4; exact (Option.some.inj (Option.some.inj e4)).symm
        subst ev
        exact ⟨F', s', hl2, r2.addV q⟩
def vals : List V → List D → Cells
  | v :: vs, d :: ds => (some v, .val d) :: vals vs ds
  | _, _ => []
theorem R.frzA {H : Hp} {σ : St} : ∀ {os : List Od} {vs : List V} {ds : List D} {τ : Cells} {ρ ρ' : Sl} {F : Hp}, σ.length = ρ.length → Held σ os vs → R c F (temps os vs ++ (τ ++ σ.zip ρ)) H → PD.frzA ρ os = some (ds, ρ') →
    ∃ F', Same F F' ∧ σ.length = ρ'.length ∧ RpA c.K F' vs ds ∧ R c F' (τ ++ σ.zip ρ') H
  | [], [], ds, τ, ρ, ρ', F, hl, hh, r, e => by
    cases e
    exact ⟨F, Same.refl _, hl, .nil, r⟩
  | [], _ :: _, _, _, _, _, _, _, h, _, _ => h.elim
  | .t s :: os, [], _, _, _, _, _, _, h, _, _ => h.elim
  | .p i :: os, [], _, _, _, _, _, _, h, _, _ => h.elim
  | o :: os, v :: vs, ds, τ, ρ, ρ', F, hl, hh, r, e => by
    unfold PD.frzA at e
    cases e1 : PD.frz1 ρ o with
    | none => rw [e1] at e; cases e
    | some p =>
      obtain ⟨d, ρ1⟩ := p
      rw [e1] at e
      simp only at e
      cases e2 : PD.frzA ρ1 os with
      | none => rw [e2] at e; cases e
      | some p2 =>
        obtain ⟨ds2, ρ2⟩ := p2
        rw [e2] at e
        cases e
        have hh1 : Held σ [o] [v] := by cases o with
          | t s => trivial
          | p i => exact ⟨hh.1, trivial⟩
        have hh2 : Held σ os vs := by cases o with
          | t s => exact hh
          | p i => exact hh.2
        have r' : R c F (temps [o] [v] ++ ((temps os vs ++ τ) ++ σ.zip ρ)) H := by
          cases o with
          | t s =>
            have r : R c F ((some v, s) :: (temps os vs ++ (τ ++ σ.zip ρ))) H := r
            show R c F ((some v, s) :: ((temps os vs ++ τ) ++ σ.zip ρ)) H
            rw [List.append_assoc]; exact r
          | p i =>
            have r : R c F (temps os vs ++ (τ ++ σ.zip ρ)) H := r
            show R c F ((temps os vs ++ τ) ++ σ.zip ρ) H
            rw [List.append_assoc]; exact r
        obtain ⟨F1, s1, hl1, r1⟩ := R.frz1 hl hh1 r' e1
        have r1' : R c F1 (temps os vs ++ (((some v, .val d) :: τ) ++ σ.zip ρ1)) H := by
          rw [List.append_assoc] at r1
          exact r1.permL List.perm_middle.symm
        obtain ⟨F2, s2, hl2, q2, r2⟩ := R.frzA (ds := ds2) hl1 hh2 r1' e2
        have r2' : R c F2 ((some v, .val d) :: (τ ++ σ.zip ρ')) H := r2
        exact ⟨F2, s1.trans s2, hl2, .cons (r2'.ok _ List.mem_cons_self) q2, r2'.drop⟩
end
section
variable {X : Cx} {c : Cfg} {W : XK}
/-- operands frozen, then a new frozen object (a tuple) or a new own one (a list) -/
def dTup (da : DAs) : DE := fun ρ => match da ρ with
  | .ok os ρ1 => (match frzA ρ1 os with
    | some (ds, ρ2) => if ds.length ≤ 100000 then .ok (.t (.val (.tuple ds))) ρ2 else .no
    | none => .no)
  | .ex x ρ1 => .ex x ρ1
  | .no => .no
def dLst (da : DAs) : DE := fun ρ => match da ρ with
  | .ok os ρ1 => (match frzA ρ1 os with
    | some (ds, ρ2) => if ds.length ≤ 100000 then .ok (.t (.own (.list ds))) ρ2 else .no
    | none => .no)
  | .ex x ρ1 => .ex x ρ1
  | .no => .no
theorem szl {n : Nat} (h : n ≤ 100000) : n ≤ sizeLine := Nat.le_trans h (by rw [sizeLine_eq]; decide)
theorem Same.sub_grow {F F' H : Hp} (s : Same F F') (s' : Same F' H) : Same F' H := s'
theorem re_tup {ta : TA} {da : DAs} (ha : RA c W ta da) : RE c W (tTup ta) (dTup da) := by
  intro τ σ ρ F H Q hl rr h
  unfold dTup at h
  refine ha τ σ ρ F H _ hl rr ?_
  cases e : da ρ with
  | no => rw [e] at h; exact h.elim
  | ex x ρ1 => rw [e] at h; exact h
  | ok os ρ1 =>
    rw [e] at h
    intro vs F1 H1 hl1 hh r1
    simp only at h
    cases e1 : frzA ρ1 os with
    | none => rw [e1] at h; exact h.elim
    | some p =>
      obtain ⟨ds, ρ2⟩ := p
      rw [e1] at h
      simp only at h
      obtain ⟨F2, s2, hl2, q, r2⟩ := R.frzA hl1 hh r1 e1
      by_cases hz : ds.length ≤ 100000
      · rw [if_pos hz] at h
        refine ⟨szl (by rw [q.len]; exact hz), fun p hp => ?_⟩
        have g := Grow.lay (o := .tup vs) r2.sub hp
        exact h (.ref p) _ _ hl2 ((r2.grow g).addV (.tup (.of upd_same) (RpA.mono g.f _ _ q)))
      · rw [if_neg hz] at h; exact h.elim
theorem re_lst {ta : TA} {da : DAs} (ha : RA c W ta da) : RE c W (tLst ta) (dLst da) := by
  intro τ σ ρ F H Q hl rr h
  unfold dLst at h
  refine ha τ σ ρ F H _ hl rr ?_
  cases e : da ρ with
  | no => rw [e] at h; exact h.elim
  | ex x ρ1 => rw [e] at h; exact h
  | ok os ρ1 =>
    rw [e] at h
    intro vs F1 H1 hl1 hh r1
    simp only at h
    cases e1 : frzA ρ1 os with
    | none => rw [e1] at h; exact h.elim
    | some p =>
      obtain ⟨ds, ρ2⟩ := p
      rw [e1] at h
      simp only at h
      obtain ⟨F2, s2, hl2, q, r2⟩ := R.frzA hl1 hh r1 e1
      by_cases hz : ds.length ≤ 100000
      · rw [if_pos hz] at h
        refine ⟨szl (by rw [q.len]; exact hz), fun p hp => ?_⟩
        have g := Grow.new1 (o := .lst vs) r2.sub hp
        exact h (.ref p) _ _ hl2 (r2.addO g hp (r2.sub.free hp) upd_same (.lst q))
      · rw [if_neg hz] at h; exact h.elim
theorem dx_tup {es : List Expr} {da : DAs} {k : Nat} {pos : Pos} (ha : DXA X c W es da) : DX X c W (.Tuple es k pos) (dTup da) := by
  obtain ⟨t, p, r⟩ := ha
  exact ⟨_, pe_tup p, re_tup r⟩
theorem dx_lst {es : List Expr} {da : DAs} {pos : Pos} (ha : DXA X c W es da) : DX X c W (.List es pos) (dLst da) := by
  obtain ⟨t, p, r⟩ := ha
  exact ⟨_, pe_lst p, re_lst r⟩

/-! ### tests -/
/-- an expression's truth -/
def truth : D → Option Bool
  | .none => some false
  | .bool b => some b
  | .int i => some (i != 0)
  | .str x => if x.length ≤ 100000 then some ((x.length : Int) != 0) else none
  | .list ds => some (!ds.isEmpty)
  | .tuple ds => some (!ds.isEmpty)
  | .dict _ => none
def dTru (d : DE) : DB := fun ρ => match d ρ with
  | .ok o ρ1 => (match res ρ1 o with
    | some x => (match truth x with
      | some b => .ok b ρ1
      | none => .no)
    | none => .no)
  | .ex x ρ1 => .ex x ρ1
  | .no => .no
theorem RpA.emp {K : PySem.W.Frag} {F : Hp} {vs : List V} {ds : List D} (h : RpA K F vs ds) : vs.isEmpty = ds.isEmpty := by cases h <;> rfl
theorem truth_ok {F H : Hp} {v : V} {d : D} {b : Bool} {K : PySem.W.Frag} (s : Same F H) (h : Rr K F H v d) (e : truth d = some b) : TruV K v H b := by
  cases d with
  | none => cases h.non; cases e; exact rfl
  | bool k => cases h.bl; cases e; exact rfl
  | int i => cases h.int; cases e; exact rfl
  | str x =>
    cases h.str
    simp only [truth] at e
    split at e
    · rename_i hz
      cases e
      exact ⟨szl hz, rfl⟩
    · cases e
  | list ds =>
    obtain ⟨a, xs, rfl, h1, h2⟩ := h.lst s
    cases e
    exact .inl ⟨xs, .inl h1, by rw [h2.emp]⟩
  | tuple ds =>
    obtain ⟨a, xs, rfl, h1, h2⟩ := h.tup s
    cases e
    exact .inr (.inl ⟨xs, h1, by rw [h2.emp]⟩)
  | dict _ => cases e
/-- an operand's value, as it is -/
theorem R.res1 {F H : Hp} {τ : Cells} {σ : St} {ρ : Sl} {o : Od} {v : V} {d : D} (hl : σ.length = ρ.length) (hh : Held σ [o] [v]) (r : R c F (temps [o] [v] ++ (τ ++ σ.zip ρ)) H) (e : res ρ o = some d) : Rr c.K F H v d := by
  have := R.resA hl r [o] [v] [d] (fun _ x => x) hh (by unfold PD.resA; rw [e]; rfl)
  cases this with
  | cons h _ => exact h
theorem re_run {te : TE} {d : DE} (he : RE c W te d) {τ : Cells} {σ : St} {ρ : Sl} {F H : Hp} {Q : VK} (hl : σ.length = ρ.length) (r : R c F (τ ++ σ.zip ρ) H)
    (ok : ∀ o ρ1, d ρ = .ok o ρ1 → ∀ v F1 H1, σ.length = ρ1.length → Held σ [o] [v] → R c F1 (temps [o] [v] ++ (τ ++ σ.zip ρ1)) H1 → Q v H1) (ex : ∀ x ρ1, d ρ = .ex x ρ1 → PostX c W τ σ x ρ1) (no : d ρ ≠ .no) : te σ H Q := by
  refine he τ σ ρ F H Q hl r ?_
  cases e : d ρ with
  | no => exact absurd e no
  | ex x ρ1 => exact ex x ρ1 e
  | ok o ρ1 =>
    cases o with
    | t s => exact fun v F1 H1 hl1 r1 => ok _ ρ1 e v F1 H1 hl1 trivial r1
    | p i => exact fun v F1 H1 hl1 hv r1 => ok _ ρ1 e v F1 H1 hl1 ⟨hv, trivial⟩ r1
theorem rb_tru {te : TE} {d : DE} (he : RE c W te d) : RB c W (fun σ H Q => te σ H fun x H' => ∃ k, TruV c.K x H' k ∧ Q k H') (dTru d) := by
  intro τ σ ρ F H Q hl r h
  unfold dTru at h
  refine re_run he hl r (fun o ρ1 e v F1 H1 hl1 hh r1 => ?_) (fun x ρ1 e => ?_) fun e => ?_
  · rw [e] at h
    simp only at h
    cases e1 : res ρ1 o with
    | none => rw [e1] at h; exact h.elim
    | some x =>
      rw [e1] at h
      simp only at h
      cases e2 : truth x with
      | none => rw [e2] at h; exact h.elim
      | some b =>
        rw [e2] at h
        exact ⟨b, truth_ok r1.sub (R.res1 hl1 hh r1 e1) e2, h F1 H1 hl1 r1.dropTemps⟩
  · rw [e] at h; exact h
  · rw [e] at h; exact h.elim
theorem dt_tru {e : Expr} {d : DE} (he : DX X c W e d) (hK : c.K = X.K) (hw : ∀ whole, isTrue e X.env whole = (do let v ← whole; standAt e.pos; holding [v] (truthy v)) := by exact fun _ => rfl) : DT X c W e (dTru d) := by
  obtain ⟨t, p, r⟩ := he
  have q := rb_tru (c := c) r
  rw [hK] at q
  exact ⟨_, pt_truth p hw, q⟩
/-- a comparison as a test -/
def dTst (d : DE) : DB := fun ρ => match d ρ with
  | .ok (.t (.val (.bool b))) ρ1 => .ok b ρ1
  | .ex x ρ1 => .ex x ρ1
  | _ => .no
theorem rb_tst {te : TE} {d : DE} (he : RE c W te d) : RB c W (tTest te) (dTst d) := by
  intro τ σ ρ F H Q hl r h
  unfold dTst at h
  refine he τ σ ρ F H _ hl r ?_
  cases e : d ρ with
  | no => rw [e] at h; exact h.elim
  | ex x ρ1 => rw [e] at h; exact h
  | ok o ρ1 =>
    rw [e] at h
    cases o with
    | p i => exact h.elim
    | t s =>
      cases s with
      | no => exact h.elim
      | own d' => exact h.elim
      | val d' =>
        cases d' with
        | bool b =>
          intro v F1 H1 hl1 r1
          have q := r1.ok _ List.mem_cons_self
          have q : Rp c.K F1 v (.bool b) := q
          cases q
          exact ⟨b, rfl, h F1 H1 hl1 r1.drop⟩
        | _ => exact h.elim
theorem dt_cmp {op : CmpOp} {r : R2} {f : List D → VO} {a b : Expr} {da db : DE} {pos : Pos} (ho : OpR X (compareOp op) r) (hv : VOk c.K (r2 r) f) (ha : DX X c W a da) (hb : DX X c W b db) (hm : behindInMarks op b = false := by first | exact nomark _ | rfl) : DT X c W (.Compare a [op] [b] pos) (dTst (dOp f (daC da (daC db daN)))) := by
  obtain ⟨ta, pa, ra⟩ := ha
  obtain ⟨tb, pb, rb⟩ := hb
  exact ⟨_, pt_cmpR ho pa pb hm, rb_tst (re_op2 hv ra rb)⟩
def dAnd (a b : DB) : DB := fun ρ => match a ρ with
  | .ok true ρ1 => b ρ1
  | .ok false ρ1 => .ok false ρ1
  | .ex x ρ1 => .ex x ρ1
  | .no => .no
def dOr (a b : DB) : DB := fun ρ => match a ρ with
  | .ok true ρ1 => .ok true ρ1
  | .ok false ρ1 => b ρ1
  | .ex x ρ1 => .ex x ρ1
  | .no => .no
def dNot (a : DB) : DB := fun ρ => match a ρ with
  | .ok b ρ1 => .ok (!b) ρ1
  | .ex x ρ1 => .ex x ρ1
  | .no => .no
theorem rb_and {t u : TT} {a b : DB} (ha : RB c W t a) (hb : RB c W u b) : RB c W (tAnd t u) (dAnd a b) := by
  intro τ σ ρ F H Q hl r h
  unfold dAnd at h
  refine ha τ σ ρ F H _ hl r ?_
  cases e : a ρ with
  | no => rw [e] at h; exact h.elim
  | ex x ρ1 => rw [e] at h; exact h
  | ok k ρ1 =>
    rw [e] at h
    intro F1 H1 hl1 r1
    cases k with
    | true => exact iteT (hb τ σ ρ1 F1 H1 Q hl1 r1 h)
    | false => exact iteF (h F1 H1 hl1 r1)
theorem rb_or {t u : TT} {a b : DB} (ha : RB c W t a) (hb : RB c W u b) : RB c W (tOr t u) (dOr a b) := by
  intro τ σ ρ F H Q hl r h
  unfold dOr at h
  refine ha τ σ ρ F H _ hl r ?_
  cases e : a ρ with
  | no => rw [e] at h; exact h.elim
  | ex x ρ1 => rw [e] at h; exact h
  | ok k ρ1 =>
    rw [e] at h
    intro F1 H1 hl1 r1
    cases k with
    | true => exact iteT (h F1 H1 hl1 r1)
    | false => exact iteF (hb τ σ ρ1 F1 H1 Q hl1 r1 h)
theorem rb_not {t : TT} {a : DB} (ha : RB c W t a) : RB c W (tNot t) (dNot a) := by
  intro τ σ ρ F H Q hl r h
  unfold dNot at h
  refine ha τ σ ρ F H _ hl r ?_
  cases e : a ρ with
  | no => rw [e] at h; exact h.elim
  | ex x ρ1 => rw [e] at h; exact h
  | ok k ρ1 =>
    rw [e] at h
    exact h
variable {a b : Expr} {rest : List Expr} {pos : Pos} {da db : DB}
theorem DTW.t (h : DTW X c W a da) : DT X c W a da := by
  obtain ⟨t, p, r⟩ := h
  exact ⟨t, p.pt, r⟩
theorem dw_and1 (ha : DT X c W a da) : DTW X c W (.BoolOp .And [a] pos) da := by
  obtain ⟨t, p, r⟩ := ha
  exact ⟨t, pw_and1 p, r⟩
theorem dw_or1 (ha : DT X c W a da) : DTW X c W (.BoolOp .Or [a] pos) da := by
  obtain ⟨t, p, r⟩ := ha
  exact ⟨t, pw_or1 p, r⟩
theorem dw_and (ha : DT X c W a da) (hb : DTW X c W (.BoolOp .And (b :: rest) pos) db) : DTW X c W (.BoolOp .And (a :: b :: rest) pos) (dAnd da db) := by
  obtain ⟨t, p, r⟩ := ha
  obtain ⟨t2, p2, r2⟩ := hb
  exact ⟨_, pw_and p p2, rb_and r r2⟩
theorem dw_or (ha : DT X c W a da) (hb : DTW X c W (.BoolOp .Or (b :: rest) pos) db) : DTW X c W (.BoolOp .Or (a :: b :: rest) pos) (dOr da db) := by
  obtain ⟨t, p, r⟩ := ha
  obtain ⟨t2, p2, r2⟩ := hb
  exact ⟨_, pw_or p p2, rb_or r r2⟩
theorem dt_not (ha : DT X c W a da) : DT X c W (.UnaryOp .Not a pos) (dNot da) := by
  obtain ⟨t, p, r⟩ := ha
  exact ⟨_, pt_not p, rb_not r⟩
/-! .. as values -/
def dAndV (a b : DE) : DE := fun ρ => match a ρ with
  | .ok (.t (.val (.bool true))) ρ1 => b ρ1
  | .ok (.t (.val (.bool false))) ρ1 => .ok (.t (.val (.bool false))) ρ1
  | .ex x ρ1 => .ex x ρ1
  | _ => .no
def dOrV (a b : DE) : DE := fun ρ => match a ρ with
  | .ok (.t (.val (.bool true))) ρ1 => .ok (.t (.val (.bool true))) ρ1
  | .ok (.t (.val (.bool false))) ρ1 => b ρ1
  | .ex x ρ1 => .ex x ρ1
  | _ => .no
def dNotV (a : DE) : DE := fun ρ => match a ρ with
  | .ok (.t (.val (.bool b))) ρ1 => .ok (.t (.val (.bool (!b)))) ρ1
  | .ex x ρ1 => .ex x ρ1
  | _ => .no
theorem re_andV {t u : TE} {a b : DE} (ha : RE c W t a) (hb : RE c W u b) : RE c W (tAndV t u) (dAndV a b) := by
  intro τ σ ρ F H Q hl r h
  unfold dAndV at h
  refine ha τ σ ρ F H _ hl r ?_
  cases e : a ρ with
  | no => rw [e] at h; exact h.elim
  | ex x ρ1 => rw [e] at h; exact h
  | ok o ρ1 =>
    rw [e] at h
    cases o with
    | p i => exact h.elim
    | t s =>
      cases s with
      | no => exact h.elim
      | own d' => exact h.elim
      | val d' =>
        cases d' with
        | bool k =>
          intro v F1 H1 hl1 r1
          have q : Rp c.K F1 v (.bool k) := r1.ok _ List.mem_cons_self
          cases q
          refine ⟨k, rfl, ?_⟩
          cases k with
          | true => exact iteT (hb τ σ ρ1 F1 H1 Q hl1 r1.drop h)
          | false => exact iteF (h (.bl false) F1 H1 hl1 r1)
        | _ => exact h.elim
theorem re_orV {t u : TE} {a b : DE} (ha : RE c W t a) (hb : RE c W u b) : RE c W (tOrV t u) (dOrV a b) := by
  intro τ σ ρ F H Q hl r h
  unfold dOrV at h
  refine ha τ σ ρ F H _ hl r ?_
  cases e : a ρ with
  | no => rw [e] at h; exact h.elim
  | ex x ρ1 => rw [e] at h; exact h
  | ok o ρ1 =>
    rw [e] at h
    cases o with
    | p i => exact h.elim
    | t s =>
      cases s with
      | no => exact h.elim
      | own d' => exact h.elim
      | val d' =>
        cases d' with
        | bool k =>
          intro v F1 H1 hl1 r1
          have q : Rp c.K F1 v (.bool k) := r1.ok _ List.mem_cons_self
          cases q
          refine ⟨k, rfl, ?_⟩
          cases k with
          | true => exact iteT (h (.bl true) F1 H1 hl1 r1)
          | false => exact iteF (hb τ σ ρ1 F1 H1 Q hl1 r1.drop h)
        | _ => exact h.elim
theorem re_notV {t : TE} {a : DE} (ha : RE c W t a) : RE c W (tNotV t) (dNotV a) := by
  intro τ σ ρ F H Q hl r h
  unfold dNotV at h
  refine ha τ σ ρ F H _ hl r ?_
  cases e : a ρ with
  | no => rw [e] at h; exact h.elim
  | ex x ρ1 => rw [e] at h; exact h
  | ok o ρ1 =>
    rw [e] at h
    cases o with
    | p i => exact h.elim
    | t s =>
      cases s with
      | no => exact h.elim
      | own d' => exact h.elim
      | val d' =>
        cases d' with
        | bool k =>
          intro v F1 H1 hl1 r1
          have q : Rp c.K F1 v (.bool k) := r1.ok _ List.mem_cons_self
          cases q
          exact ⟨k, rfl, h (.bl (!k)) F1 H1 hl1 (r1.drop.addV (.bl _))⟩
        | _ => exact h.elim
variable {ea eb : DE}
theorem dx_one {op} (h : DX X c W a ea) : DX X c W (.BoolOp op [a] pos) ea := by
  obtain ⟨t, p, r⟩ := h
  exact ⟨t, pe_one p, r⟩
theorem dx_and (ha : DX X c W a ea) (hb : DX X c W (.BoolOp .And (b :: rest) pos) eb) : DX X c W (.BoolOp .And (a :: b :: rest) pos) (dAndV ea eb) := by
  obtain ⟨t, p, r⟩ := ha
  obtain ⟨t2, p2, r2⟩ := hb
  exact ⟨_, pe_and p p2, re_andV r r2⟩
theorem dx_or (ha : DX X c W a ea) (hb : DX X c W (.BoolOp .Or (b :: rest) pos) eb) : DX X c W (.BoolOp .Or (a :: b :: rest) pos) (dOrV ea eb) := by
  obtain ⟨t, p, r⟩ := ha
  obtain ⟨t2, p2, r2⟩ := hb
  exact ⟨_, pe_or p p2, re_orV r r2⟩
theorem dx_not (ha : DX X c W a ea) : DX X c W (.UnaryOp .Not a pos) (dNotV ea) := by
  obtain ⟨t, p, r⟩ := ha
  exact ⟨_, pe_not p, re_notV r⟩
/-- a if t else b -/
def dIf (t : DB) (a b : DE) : DE := fun ρ => match t ρ with
  | .ok true ρ1 => a ρ1
  | .ok false ρ1 => b ρ1
  | .ex x ρ1 => .ex x ρ1
  | .no => .no
theorem re_if {tc : TT} {t u : TE} {dc : DB} {a b : DE} (hc : RB c W tc dc) (ha : RE c W t a) (hb : RE c W u b) : RE c W (tIf tc t u) (dIf dc a b) := by
  intro τ σ ρ F H Q hl r h
  unfold dIf at h
  refine hc τ σ ρ F H _ hl r ?_
  cases e : dc ρ with
  | no => rw [e] at h; exact h.elim
  | ex x ρ1 => rw [e] at h; exact h
  | ok k ρ1 =>
    rw [e] at h
    intro F1 H1 hl1 r1
    cases k with
    | true => exact iteT (ha τ σ ρ1 F1 H1 Q hl1 r1 h)
    | false => exact iteF (hb τ σ ρ1 F1 H1 Q hl1 r1 h)
theorem dx_if {t : Expr} (hc : DT X c W t da) (ha : DX X c W a ea) (hb : DX X c W b eb) : DX X c W (.IfExp t a b pos) (dIf da ea eb) := by
  obtain ⟨t, p, r⟩ := ha
  obtain ⟨t2, p2, r2⟩ := hb
  obtain ⟨t3, p3, r3⟩ := hc
  exact ⟨_, pe_ifExp p3 p p2, re_if r3 r r2⟩
end
end PD

set_option Elab.async false
set_option linter.all false
set_option maxRecDepth 100000
set_option maxHeartbeats 2000000
/-! PdC: the operations over data, each with the rule that it keeps. -/
namespace PD
open PySem L2
section
variable {K : PySem.W.Frag} {F H : Hp} {X : Cx}
theorem PostV.here {Q : VK} {d : D} {z : V} (s : Same F H) (h : PostV K F H Q (.v d)) (q : Rp K F z d) : Q z H := h z F H (Grow.refl s) q
/-- a new frozen tuple, a new own list -/
theorem PostV.tup {Q : VK} {ds : List D} {vs : List V} {p : Addr} (s : Same F H) (h : PostV K F H Q (.v (.tuple ds))) (q : RpA K F vs ds) (hp : H p = none) : Q (.ref p) (upd H p (.tup vs)) := by
  have g := Grow.lay (o := .tup vs) s hp
  exact h (.ref p) _ _ g (.tup (.of upd_same) (RpA.mono g.f _ _ q))
theorem PostV.lst {Q : VK} {ds : List D} {vs : List V} {p : Addr} (s : Same F H) (h : PostV K F H Q (.n (.list ds))) (q : RpA K F vs ds) (hp : H p = none) : Q (.ref p) (upd H p (.lst vs)) := by
  have g := Grow.new1 (o := .lst vs) s hp
  exact h p _ _ _ g hp (s.free hp) upd_same (.lst q)
def vOr (f g : List D → VO) : List D → VO := fun ds => match f ds with
  | .no => g ds
  | x => x
theorem VOk.or {r r' : List V → Hp → VK → Prop} {f f' : List D → VO} (h : VOk K r f) (h' : VOk K r' f') : VOk K (fun vs H Q => r vs H Q ∨ r' vs H Q) (vOr f f') := by
  intro F H vs ds Q s rr hp
  unfold vOr at hp
  cases e : f ds with
  | no => rw [e] at hp; exact .inr (h' F H vs ds Q s rr hp)
  | v d => rw [e] at hp; exact .inl (h F H vs ds Q s rr (by rw [e]; exact hp))
  | n d => rw [e] at hp; exact .inl (h F H vs ds Q s rr (by rw [e]; exact hp))
theorem VOk.or2 {r r' : R2} {f f' : List D → VO} (h : VOk K (r2 r) f) (h' : VOk K (r2 r') f') : VOk K (r2 fun x y H Q => r x y H Q ∨ r' x y H Q) (vOr f f') := by
  intro F H vs ds Q s rr hp
  have q := VOk.or h h' F H vs ds Q s rr hp
  match vs, q with
  | [x, y], q => exact q
  | [], q => exact q.elim id id
  | [_], q => exact q.elim id id
  | _ :: _ :: _ :: _, q => exact q.elim id id

/-! ### ints -/
def oI (b : Int → Int → Bool) (g : Int → Int → Int) : List D → VO
  | [.int i, .int j] => if b i j = true then .v (.int (g i j)) else .no
  | _ => .no
theorem vok_I {C : Int → Int → Prop} {b : Int → Int → Bool} {g : Int → Int → Int} (hC : ∀ i j, b i j = true → C i j) : VOk K (r2 (rI C fun i j => .int (g i j))) (oI b g) := by
  intro F H vs ds Q s rr hp
  unfold oI at hp
  split at hp
  · rename_i i j
    cases rr with
    | cons h1 h2 =>
      cases h2 with
      | cons h2 h3 =>
        cases h3
        cases h1.int
        cases h2.int
        split at hp
        · rename_i hb
          exact ⟨i, j, rfl, rfl, hC i j hb, PostV.here s hp (.int _)⟩
        · exact hp.elim
  · exact hp.elim
def oI0 (g : Int → Int → Int) : List D → VO
  | [.int i, .int j] => .v (.int (g i j))
  | _ => .no
theorem vok_I0 {g : Int → Int → Int} : VOk K (r2 (rI0 fun i j => .int (g i j))) (oI0 g) := by
  intro F H vs ds Q s rr hp
  unfold oI0 at hp
  split at hp
  · rename_i i j
    cases rr with
    | cons h1 h2 =>
      cases h2 with
      | cons h2 h3 =>
        cases h3
        cases h1.int
        cases h2.int
        exact ⟨i, j, rfl, rfl, PostV.here s hp (.int _)⟩
  · exact hp.elim
def oB0 (g : Int → Int → Bool) : List D → VO
  | [.int i, .int j] => .v (.bool (g i j))
  | _ => .no
theorem vok_B0 {g : Int → Int → Bool} : VOk K (r2 (rI0 fun i j => .bl (g i j))) (oB0 g) := by
  intro F H vs ds Q s rr hp
  unfold oB0 at hp
  split at hp
  · rename_i i j
    cases rr with
    | cons h1 h2 =>
      cases h2 with
      | cons h2 h3 =>
        cases h3
        cases h1.int
        cases h2.int
        exact ⟨i, j, rfl, rfl, PostV.here s hp (.bl _)⟩
  · exact hp.elim
def oU (g : Int → Int) : List D → VO
  | [.int i] => .v (.int (g i))
  | _ => .no
theorem vok_U {g : Int → Int} : VOk K (r1 (rU fun i => .int (g i))) (oU g) := by
  intro F H vs ds Q s rr hp
  unfold oU at hp
  split at hp
  · rename_i i
    cases rr with
    | cons h1 h2 =>
      cases h2
      cases h1.int
      exact ⟨i, rfl, PostV.here s hp (.int _)⟩
  · exact hp.elim

/-! ### + -/
def oAddS : List D → VO
  | [.str a, .str b] => if a.length + b.length ≤ 100000 then .v (.str (a ++ b)) else .no
  | _ => .no
theorem vok_addS : VOk K (r2 fun x y H Q => ∃ i j, x = .str i ∧ y = .str j ∧ i.length + j.length ≤ sizeLine ∧ Q (.str (i ++ j)) H) oAddS := by
  intro F H vs ds Q s rr hp
  unfold oAddS at hp
  split at hp
  · rename_i a b
    cases rr with
    | cons h1 h2 =>
      cases h2 with
      | cons h2 h3 =>
        cases h3
        cases h1.str
        cases h2.str
        split at hp
        · rename_i hz
          exact ⟨a, b, rfl, rfl, szl hz, PostV.here s hp (.str _)⟩
        · exact hp.elim
  · exact hp.elim
def oAddT : List D → VO
  | [.tuple a, .tuple b] => if a.length + b.length ≤ 100000 then .v (.tuple (a ++ b)) else .no
  | _ => .no
theorem vok_addT : VOk K (r2 (rCatA K)) oAddT := by
  intro F H vs ds Q s rr hp
  unfold oAddT at hp
  split at hp
  · rename_i a b
    cases rr with
    | cons h1 h2 =>
      cases h2 with
      | cons h2 h3 =>
        cases h3
        split at hp
        · rename_i hz
          have k1 := h1
          have k2 := h2
          obtain ⟨p, xs, rfl, h1, q1⟩ := h1.tup s
          obtain ⟨p2, ys, rfl, h2, q2⟩ := h2.tup s
          have l1 := q1.len
          have l2 := q2.len
          refine ⟨p, p2, xs, ys, rfl, rfl, h1, h2, szl (by omega), fun e => ?_, fun e1 e => ?_, fun _ _ p hp' => PostV.tup s hp (q1.app q2) hp'⟩
          · subst e
            cases q1
            rcases k2 with k2 | ⟨_, _, _, _, k2⟩
            · exact PostV.here s hp k2
            · cases k2
          · subst e
            cases q2
            rw [List.append_nil] at hp
            rcases k1 with k1 | ⟨_, _, _, _, k1⟩
            · exact PostV.here s hp k1
            · cases k1
        · exact hp.elim
  · exact hp.elim
/-- list + list, lists that may be read -/
def rCatR : R2 := fun x y H Q => ∃ l b xs zs, x = .ref l ∧ y = .ref b ∧ Rd H l (.lst xs) ∧ Rd H b (.lst zs) ∧ xs.length + zs.length ≤ sizeLine ∧ ∀ p, H p = none → Q (.ref p) (upd H p (.lst (xs ++ zs)))
theorem Inv.lstR {pins : List (Addr × Obj)} {σ : St} {s : Shared} {l : Addr} {xs : List V} (I : Inv X pins σ H s) (hH : Rd H l (.lst xs)) : xs.length ≤ sizeLine ∧ ∃ (its : List Value) (n : Nat), Vals xs its ∧ xs.length = its.length ∧ s.heap.get? l = some { cls := .type "list", data := .seq its.toArray n } := by
  obtain ⟨z, its, n, r, e⟩ : ObjOk X.prog X.w H s.heap l (.lst xs) := hH.ok I.hok
  exact ⟨z, its, n, r, r.length, e⟩
theorem op_catR : OpR X (binaryOp .Add) rCatR := by
  intro pins s σ H x y v u Q I rx ry h
  obtain ⟨l, b, xs, zs, rfl, rfl, hH, hB, hz, q⟩ := h
  cases rx
  cases ry
  obtain ⟨z, its, n, r, hl, e⟩ := Inv.lstR I hH
  obtain ⟨z2, its2, n2, r2, hl2, e2⟩ := Inv.lstR I hB
  refine PySem.P.add_list e e2 ?_ (by rw [List.size_toArray, List.size_toArray]; omega)
  have ea : its.toArray ++ its2.toArray = (its ++ its2).toArray := by simp
  rw [ea]
  exact ⟨.ref _, _, I.lnew (t' := s.toks) (r.append r2) (by rw [List.length_append]; omega), rfl, q _ I.fresh⟩
def oAddL : List D → VO
  | [.list a, .list b] => if a.length + b.length ≤ 100000 then .n (.list (a ++ b)) else .no
  | _ => .no
theorem vok_addL : VOk K (r2 rCatR) oAddL := by
  intro F H vs ds Q s rr hp
  unfold oAddL at hp
  split at hp
  · rename_i a b
    cases rr with
    | cons h1 h2 =>
      cases h2 with
      | cons h2 h3 =>
        cases h3
        split at hp
        · rename_i hz
          obtain ⟨p, xs, rfl, h1, q1⟩ := h1.lst s
          obtain ⟨p2, ys, rfl, h2, q2⟩ := h2.lst s
          have l1 := q1.len
          have l2 := q2.len
          exact ⟨p, p2, xs, ys, rfl, rfl, h1, h2, szl (by omega), fun p hp' => PostV.lst s hp (q1.app q2) hp'⟩
        · exact hp.elim
  · exact hp.elim
def oAdd : List D → VO := vOr (oI0 fun i j => i + j) (vOr oAddS (vOr oAddT oAddL))
theorem op_addA : OpR X (binaryOp .Add) (fun x y H Q => (rI0 fun i j => .int (i + j)) x y H Q ∨ (fun x y H Q => (fun x y H Q => ∃ i j, x = .str i ∧ y = .str j ∧ i.length + j.length ≤ sizeLine ∧ Q (.str (i ++ j)) H) x y H Q ∨ (fun x y H Q => rCatA X.K x y H Q ∨ rCatR x y H Q) x y H Q) x y H Q) :=
  op_add.or (op_add_str.or (op_catA.or op_catR))
theorem vok_add : VOk K (r2 (fun x y H Q => (rI0 fun i j => .int (i + j)) x y H Q ∨ (fun x y H Q => (fun x y H Q => ∃ i j, x = .str i ∧ y = .str j ∧ i.length + j.length ≤ sizeLine ∧ Q (.str (i ++ j)) H) x y H Q ∨ (fun x y H Q => rCatA K x y H Q ∨ rCatR x y H Q) x y H Q) x y H Q)) oAdd :=
  vok_I0.or2 (vok_addS.or2 (vok_addT.or2 vok_addL))
/-! ### - * // % ** -/
def oSub : List D → VO := oI0 fun i j => i - j
def bMul (i j : Int) : Bool := (decide (-(2 ^ 64) < i) && decide (i < 2 ^ 64)) || (decide (-(2 ^ 64) < j) && decide (j < 2 ^ 64))
theorem bMul_ok (i j : Int) (h : bMul i j = true) : CMul i j := by
  simpa [bMul, CMul, Bool.or_eq_true, Bool.and_eq_true] using h
instance (i j : Int) : Decidable (CMulW i j) := by unfold CMulW; exact inferInstance
def oMulW : List D → VO := oI (fun i j => decide (CMulW i j)) fun i j => i * j
/-- text * int -/
def rMulS : R2 := fun x y H Q => ∃ z n, x = .str z ∧ y = .int n ∧ 0 ≤ n ∧ n ≤ 100000 ∧ z.length = 1 ∧ Q (.str ⟨(List.replicate n.toNat (z.cps.getD 0 0)).toArray⟩) H
theorem fold_one (c : Nat) : ∀ (n : Nat) (acc : Array Nat), (List.replicate n (#[c] : Array Nat)).foldl (· ++ ·) acc = acc ++ (List.replicate n c).toArray
  | 0, acc => by simp
  | n + 1, acc => by
    rw [List.replicate_succ, List.foldl_cons, fold_one c n]
    apply Array.toList_inj.mp
    simp [List.replicate_succ]
theorem op_mulS : OpR X (binaryOp .Mult) rMulS := by
  intro pins s σ H x y v u Q I rx ry h
  obtain ⟨z, n, rfl, rfl, h0, h1, hz, q⟩ := h
  obtain ⟨t, rfl⟩ := rx
  obtain ⟨t', rfl⟩ := ry
  have ez : z.cps = #[z.cps.getD 0 0] := by
    obtain ⟨a⟩ := z
    have hz : a.size = 1 := hz
    apply Array.ext
    · simpa using hz
    · intro i h1 h2
      have h1' : i < a.size := h1
      have : i = 0 := by omega
      subst this
      simp [Array.getD, hz]
  have hc : (List.replicate n.toNat (z.cps.getD 0 0)).toArray.size ≤ sizeLine := by
    rw [List.size_toArray, List.length_replicate]; exact szl (by omega)
  refine PySem.P.mul_str ?_ ?_ ?_ ?_
  · rw [decide_eq_false (by omega), decide_eq_false (by omega)]; rfl
  · intro a b c
    have hb : (n == 1 || z.length == 0) = false := b
    have : z.length = 1 := hz
    rw [this] at c
    have hn : n ≤ (2 ^ 63 - 1) / n ∨ True := .inr trivial
    have k : (1 : Int) ≤ (2 ^ 63 - 1) / n := by
      rw [Int.le_ediv_iff_mul_le (by omega)]
      omega
    have c' : ((1 : Nat) : Int) > (2 ^ 63 - 1) / n := c
    omega
  · intro a b
    unfold Builtin.Str.tooLong
    rw [hz]
    have := sizeLine_eq
    simp only [Nat.one_mul]
    exact decide_eq_false (by omega)
  · by_cases hn : n < 1
    · rw [if_pos hn]
      have : n = 0 := by omega
      subst this
      exact ⟨by decide, .str _, H, I.tok _, ⟨_, rfl⟩, q⟩
    · rw [if_neg hn]
      by_cases h11 : (n == 1 || z.length == 0) = true
      · rw [if_pos h11]
        have hn1 : n = 1 := by
          rw [hz] at h11
          simpa using h11
        subst hn1
        refine ⟨.str z, H, I, ⟨t, rfl⟩, ?_⟩
        have : (⟨(List.replicate (1 : Int).toNat (z.cps.getD 0 0)).toArray⟩ : Str) = z := by
          obtain ⟨a⟩ := z
          exact congrArg Str.mk ez.symm
        rw [this] at q
        exact q
      · rw [if_neg h11]
        have e : (List.replicate n.toNat z.cps).foldl (· ++ ·) #[] = (List.replicate n.toNat (z.cps.getD 0 0)).toArray := by
          rw [ez, fold_one]
          simp
        rw [e]
        exact ⟨hc, .str _, H, I.tok _, ⟨_, rfl⟩, q⟩
def oMulS : List D → VO
  | [.str z, .int n] => if 0 ≤ n ∧ n ≤ 100000 ∧ z.length = 1 then .v (.str ⟨(List.replicate n.toNat (z.cps.getD 0 0)).toArray⟩) else .no
  | _ => .no
theorem vok_mulS : VOk K (r2 rMulS) oMulS := by
  intro F H vs ds Q s rr hp
  unfold oMulS at hp
  split at hp
  · rename_i z n
    cases rr with
    | cons h1 h2 =>
      cases h2 with
      | cons h2 h3 =>
        cases h3
        cases h1.str
        cases h2.int
        split at hp
        · rename_i hz
          exact ⟨z, n, rfl, rfl, hz.1, hz.2.1, hz.2.2, PostV.here s hp (.str _)⟩
        · exact hp.elim
  · exact hp.elim
def oMulT : List D → VO
  | [.tuple ds, .int k] => if ds ≠ [] ∧ 2 ≤ k ∧ k ≤ 1000 ∧ ds.length ≤ 1000 then .v (.tuple (List.replicate k.toNat ds).flatten) else .no
  | _ => .no
theorem RpA.rep {vs : List V} {ds : List D} (h : RpA K F vs ds) : ∀ n : Nat, RpA K F (List.replicate n vs).flatten (List.replicate n ds).flatten
  | 0 => .nil
  | n + 1 => by
    rw [List.replicate_succ, List.replicate_succ, List.flatten_cons, List.flatten_cons]
    exact h.app (h.rep n)
theorem vok_mulT : VOk K (r2 (rRepT K)) oMulT := by
  intro F H vs ds Q s rr hp
  unfold oMulT at hp
  split at hp
  · rename_i ds k
    cases rr with
    | cons h1 h2 =>
      cases h2 with
      | cons h2 h3 =>
        cases h3
        cases h2.int
        split at hp
        · rename_i hz
          obtain ⟨p, xs, rfl, h1, q1⟩ := h1.tup s
          have l1 := q1.len
          refine ⟨p, k, xs, rfl, rfl, h1, fun e => hz.1 ?_, hz.2.1, hz.2.2.1, by rw [l1]; exact hz.2.2.2, fun p hp' => PostV.tup s hp (q1.rep _) hp'⟩
          subst e; cases q1; rfl
        · exact hp.elim
  · exact hp.elim
def oMul : List D → VO := vOr (oI bMul fun i j => i * j) (vOr oMulW (vOr oMulS oMulT))
theorem op_mulA : OpR X (binaryOp .Mult) (fun x y H Q => rI CMul (fun i j => .int (i * j)) x y H Q ∨ (fun x y H Q => rI CMulW (fun i j => .int (i * j)) x y H Q ∨ (fun x y H Q => rMulS x y H Q ∨ rRepT X.K x y H Q) x y H Q) x y H Q) := op_mul.or (op_mulW.or (op_mulS.or op_repT))
theorem vok_mul : VOk K (r2 (fun x y H Q => rI CMul (fun i j => .int (i * j)) x y H Q ∨ (fun x y H Q => rI CMulW (fun i j => .int (i * j)) x y H Q ∨ (fun x y H Q => rMulS x y H Q ∨ rRepT K x y H Q) x y H Q) x y H Q)) oMul :=
  (vok_I bMul_ok).or2 ((show VOk K (r2 (rI CMulW fun i j => .int (i * j))) oMulW from vok_I fun _ _ h => of_decide_eq_true h).or2 (vok_mulS.or2 vok_mulT))
def bDiv (_ j : Int) : Bool := decide (j ≠ 0) && decide (j.natAbs < 1073741824)
theorem bDiv_ok (i j : Int) (h : bDiv i j = true) : CDivN i j := by
  simpa [bDiv, CDivN, Bool.and_eq_true] using h
instance (i j : Int) : Decidable (CDivW i j) := by unfold CDivW; exact inferInstance
def oDiv : List D → VO := vOr (oI bDiv fun i j => i.fdiv j) (oI (fun i j => decide (CDivW i j)) fun i j => i / j)
theorem op_divA : OpR X (binaryOp .FloorDiv) (fun x y H Q => rI CDivN (fun i j => .int (i.fdiv j)) x y H Q ∨ rI CDivW (fun i j => .int (i / j)) x y H Q) := op_fdivN.or op_fdivW
theorem vok_div : VOk K (r2 (fun x y H Q => rI CDivN (fun i j => .int (i.fdiv j)) x y H Q ∨ rI CDivW (fun i j => .int (i / j)) x y H Q)) oDiv := (vok_I bDiv_ok).or2 (vok_I fun _ _ h => of_decide_eq_true h)
def oMod : List D → VO := oI (fun _ j => decide (j ≠ 0)) fun i j => i.fmod j
theorem vok_mod : VOk K (r2 (rI (fun _ j => j ≠ 0) fun i j => .int (i.fmod j))) oMod := vok_I fun _ _ h => of_decide_eq_true h
def bPow (i j : Int) : Bool := decide (0 ≤ j) && decide (j ≤ 1000000) && decide (i.natAbs < 2 ^ 64)
theorem bPow_ok (i j : Int) (h : bPow i j = true) : CPow i j := by
  have h : (0 ≤ j ∧ j ≤ 1000000) ∧ i.natAbs < 2 ^ 64 := by simpa [bPow, Bool.and_eq_true] using h
  exact ⟨h.1.1, h.1.2, h.2⟩
def oPow : List D → VO := oI bPow fun i j => i ^ j.toNat
theorem vok_pow : VOk K (r2 (rI CPow fun i j => .int (i ^ j.toNat))) oPow := vok_I bPow_ok
def oShl : List D → VO := oI bPow fun i j => i * 2 ^ j.toNat
def oShr : List D → VO := oI (fun _ j => decide (0 ≤ j)) fun i j => i / 2 ^ j.toNat
theorem vok_shr : VOk K (r2 (rI (fun _ j => 0 ≤ j) fun i j => .int (i / 2 ^ j.toNat))) oShr := vok_I fun _ _ h => of_decide_eq_true h
def oAndB : List D → VO := oI0 Builtin.bitAnd
def oXorB : List D → VO := oI0 Builtin.bitXor
def oNeg : List D → VO := oU fun i => -i
def oLt : List D → VO := oB0 fun i j => decide (i < j)
def oLe : List D → VO := oB0 fun i j => decide (i ≤ j)
def oGt : List D → VO := oB0 fun i j => decide (j < i)
def oGe : List D → VO := oB0 fun i j => decide (j ≤ i)

/-! ### ==, is None, in -/
def oEqD : List D → VO
  | [a, b] => if (SeqAt.shaped a && SeqAt.shaped b) = true then .v (.bool (PyData.eqv a b)) else .no
  | _ => .no
def oNeD : List D → VO
  | [a, b] => if (SeqAt.shaped a && SeqAt.shaped b) = true then .v (.bool (!PyData.eqv a b)) else .no
  | _ => .no
theorem Rr.dp {v : V} {d : D} (s : Same F H) (h : Rr K F H v d) (hs : SeqAt.shaped d = true) : Dp K H v d := Rp.dp _ _ (SeqAt.canLay_of_shaped hs) (h.rp s)
theorem vok_eqD : VOk K (r2 (rEqD K)) oEqD := by
  intro F H vs ds Q s rr hp
  unfold oEqD at hp
  split at hp
  · rename_i a b
    cases rr with
    | cons h1 h2 =>
      cases h2 with
      | cons h2 h3 =>
        cases h3
        split at hp
        · rename_i hz
          obtain ⟨z1, z2⟩ := Bool.and_eq_true_iff.mp hz
          exact ⟨a, b, h1.dp s z1, h2.dp s z2, z1, z2, PostV.here s hp (.bl _)⟩
        · exact hp.elim
  · exact hp.elim
theorem vok_neD : VOk K (r2 (rNeD K)) oNeD := by
  intro F H vs ds Q s rr hp
  unfold oNeD at hp
  split at hp
  · rename_i a b
    cases rr with
    | cons h1 h2 =>
      cases h2 with
      | cons h2 h3 =>
        cases h3
        split at hp
        · rename_i hz
          obtain ⟨z1, z2⟩ := Bool.and_eq_true_iff.mp hz
          exact ⟨a, b, h1.dp s z1, h2.dp s z2, z1, z2, PostV.here s hp (.bl _)⟩
        · exact hp.elim
  · exact hp.elim
/-- texts are compared as they are -/
def oEqS : List D → VO
  | [.str a, .str b] => .v (.bool (decide (a = b)))
  | _ => .no
def oNeS : List D → VO
  | [.str a, .str b] => .v (.bool (!decide (a = b)))
  | _ => .no
theorem vok_eqS : VOk K (r2 rEq) oEqS := by
  intro F H vs ds Q s rr hp
  unfold oEqS at hp
  split at hp
  · rename_i a b
    cases rr with
    | cons h1 h2 =>
      cases h2 with
      | cons h2 h3 =>
        cases h3
        cases h1.str
        cases h2.str
        have e : decide (V.str a = V.str b) = decide (a = b) := by simp
        exact ⟨rfl, by rw [e]; exact PostV.here s hp (.bl _)⟩
  · exact hp.elim
theorem vok_neS : VOk K (r2 rNe) oNeS := by
  intro F H vs ds Q s rr hp
  unfold oNeS at hp
  split at hp
  · rename_i a b
    cases rr with
    | cons h1 h2 =>
      cases h2 with
      | cons h2 h3 =>
        cases h3
        cases h1.str
        cases h2.str
        have e : decide (V.str a = V.str b) = decide (a = b) := by simp
        exact ⟨rfl, by rw [e]; exact PostV.here s hp (.bl _)⟩
  · exact hp.elim
def oEq : List D → VO := vOr oEqS oEqD
def oNe : List D → VO := vOr oNeS oNeD
theorem op_eqA (hu : X.A.units + 64 < cLine) : OpR X (compareOp .Eq) (fun x y H Q => rEq x y H Q ∨ rEqD X.K x y H Q) := op_eq.or (op_eqD hu)
theorem op_neA (hu : X.A.units + 64 < cLine) : OpR X (compareOp .NotEq) (fun x y H Q => rNe x y H Q ∨ rNeD X.K x y H Q) := op_ne.or (op_neD hu)
theorem vok_eq : VOk K (r2 (fun x y H Q => rEq x y H Q ∨ rEqD K x y H Q)) oEq := vok_eqS.or2 vok_eqD
theorem vok_ne : VOk K (r2 (fun x y H Q => rNe x y H Q ∨ rNeD K x y H Q)) oNe := vok_neS.or2 vok_neD

def isNone : D → Bool
  | .none => true
  | _ => false
theorem isNone_ok {v : V} {d : D} (h : Rr K F H v d) : decide (v = .non) = isNone d := by
  rcases h with h | ⟨a, o, rfl, _, h⟩
  · cases h <;> rfl
  · cases h <;> rfl
def oIsN : List D → VO
  | [a, .none] => .v (.bool (isNone a))
  | _ => .no
def oNotN : List D → VO
  | [a, .none] => .v (.bool (!isNone a))
  | _ => .no
theorem vok_isN : VOk K (r2 fun x y H Q => y = .non ∧ Q (.bl (decide (x = .non))) H) oIsN := by
  intro F H vs ds Q s rr hp
  unfold oIsN at hp
  split at hp
  · rename_i a
    cases rr with
    | cons h1 h2 =>
      cases h2 with
      | cons h2 h3 =>
        cases h3
        cases h2.non
        refine ⟨rfl, ?_⟩
        rw [isNone_ok h1]
        exact PostV.here s hp (.bl _)
  · exact hp.elim
theorem vok_notN : VOk K (r2 fun x y H Q => y = .non ∧ Q (.bl (!decide (x = .non))) H) oNotN := by
  intro F H vs ds Q s rr hp
  unfold oNotN at hp
  split at hp
  · rename_i a
    cases rr with
    | cons h1 h2 =>
      cases h2 with
      | cons h2 h3 =>
        cases h3
        cases h2.non
        refine ⟨rfl, ?_⟩
        rw [isNone_ok h1]
        exact PostV.here s hp (.bl _)
  · exact hp.elim
def rInT (K : PySem.W.Frag) : R2 := fun x y H Q => ∃ d ds, Dp K H x d ∧ Dp K H y (.tuple ds) ∧ SeqAt.shaped d = true ∧ SeqAt.shaped (.tuple ds) = true ∧ Q (.bl (ds.any fun z => PyData.eqv z d)) H
def rNotInT (K : PySem.W.Frag) : R2 := fun x y H Q => ∃ d ds, Dp K H x d ∧ Dp K H y (.tuple ds) ∧ SeqAt.shaped d = true ∧ SeqAt.shaped (.tuple ds) = true ∧ Q (.bl (!ds.any fun z => PyData.eqv z d)) H
theorem op_inT (hu : X.A.units + 65 < cLine) : OpR X (compareOp .In) (rInT X.K) := by
  intro pins s σ H x y v u Q I rx ry h
  obtain ⟨d, ds, hd, he, sd, se, q⟩ := h
  obtain ⟨as, r1⟩ := Dp.reads I d x v hd rx
  obtain ⟨bs, r2⟩ := Dp.reads I (.tuple ds) y u he ry
  exact SeqAt.in_tuple_reads r2 r1 (SeqAt.canLay_of_shaped se) (SeqAt.canLay_of_shaped sd) (PyProof.Rows.room_in_shaped sd hu) ⟨.bl _, H, I, rfl, q⟩
theorem op_notInT (hu : X.A.units + 65 < cLine) : OpR X (compareOp .NotIn) (rNotInT X.K) := by
  intro pins s σ H x y v u Q I rx ry h
  obtain ⟨d, ds, hd, he, sd, se, q⟩ := h
  obtain ⟨as, r1⟩ := Dp.reads I d x v hd rx
  obtain ⟨bs, r2⟩ := Dp.reads I (.tuple ds) y u he ry
  exact SeqAt.notIn_tuple_reads r2 r1 (SeqAt.canLay_of_shaped se) (SeqAt.canLay_of_shaped sd) (PyProof.Rows.room_in_shaped sd hu) ⟨.bl _, H, I, rfl, q⟩
def inD (d : D) (ds : List D) : Bool := ds.any fun z => PyData.eqv z d
def oInL : List D → VO
  | [d, .list ds] => if (SeqAt.shaped d && SeqAt.shaped (.list ds)) = true then .v (.bool (inD d ds)) else .no
  | _ => .no
def oInT : List D → VO
  | [d, .tuple ds] => if (SeqAt.shaped d && SeqAt.shaped (.tuple ds)) = true then .v (.bool (inD d ds)) else .no
  | _ => .no
def oInS : List D → VO
  | [.str x, .str z] => if x.length = 1 then .v (.bool (decide (x.cps.getD 0 0 ∈ z.cps.toList))) else .no
  | _ => .no
def oNotInL : List D → VO
  | [d, .list ds] => if (SeqAt.shaped d && SeqAt.shaped (.list ds)) = true then .v (.bool (!inD d ds)) else .no
  | _ => .no
def oNotInT : List D → VO
  | [d, .tuple ds] => if (SeqAt.shaped d && SeqAt.shaped (.tuple ds)) = true then .v (.bool (!inD d ds)) else .no
  | _ => .no
def oNotInS : List D → VO
  | [.str x, .str z] => if x.length = 1 then .v (.bool (!decide (x.cps.getD 0 0 ∈ z.cps.toList))) else .no
  | _ => .no
theorem vok_inL : VOk K (r2 (rInD K)) oInL := by
  intro F H vs ds Q s rr hp
  unfold oInL at hp
  split at hp
  · rename_i d ds
    cases rr with
    | cons h1 h2 =>
      cases h2 with
      | cons h2 h3 =>
        cases h3
        split at hp
        · rename_i hz
          obtain ⟨z1, z2⟩ := Bool.and_eq_true_iff.mp hz
          exact ⟨d, ds, h1.dp s z1, h2.dp s z2, z1, z2, PostV.here s hp (.bl _)⟩
        · exact hp.elim
  · exact hp.elim
theorem vok_notInL : VOk K (r2 (rNotInD K)) oNotInL := by
  intro F H vs ds Q s rr hp
  unfold oNotInL at hp
  split at hp
  · rename_i d ds
    cases rr with
    | cons h1 h2 =>
      cases h2 with
      | cons h2 h3 =>
        cases h3
        split at hp
        · rename_i hz
          obtain ⟨z1, z2⟩ := Bool.and_eq_true_iff.mp hz
          exact ⟨d, ds, h1.dp s z1, h2.dp s z2, z1, z2, PostV.here s hp (.bl _)⟩
        · exact hp.elim
  · exact hp.elim
theorem vok_inT : VOk K (r2 (rInT K)) oInT := by
  intro F H vs ds Q s rr hp
  unfold oInT at hp
  split at hp
  · rename_i d ds
    cases rr with
    | cons h1 h2 =>
      cases h2 with
      | cons h2 h3 =>
        cases h3
        split at hp
        · rename_i hz
          obtain ⟨z1, z2⟩ := Bool.and_eq_true_iff.mp hz
          exact ⟨d, ds, h1.dp s z1, h2.dp s z2, z1, z2, PostV.here s hp (.bl _)⟩
        · exact hp.elim
  · exact hp.elim
theorem vok_notInT : VOk K (r2 (rNotInT K)) oNotInT := by
  intro F H vs ds Q s rr hp
  unfold oNotInT at hp
  split at hp
  · rename_i d ds
    cases rr with
    | cons h1 h2 =>
      cases h2 with
      | cons h2 h3 =>
        cases h3
        split at hp
        · rename_i hz
          obtain ⟨z1, z2⟩ := Bool.and_eq_true_iff.mp hz
          exact ⟨d, ds, h1.dp s z1, h2.dp s z2, z1, z2, PostV.here s hp (.bl _)⟩
        · exact hp.elim
  · exact hp.elim
theorem one_sign {x : Str} (h : x.length = 1) : x = ⟨#[x.cps.getD 0 0]⟩ := by
  obtain ⟨a⟩ := x
  have hz : a.size = 1 := h
  refine congrArg Str.mk (Array.ext (by simpa using hz) fun i h1 h2 => ?_)
  have h1' : i < a.size := h1
  have : i = 0 := by omega
  subst this
  simp [Array.getD, hz]
theorem vok_inS : VOk K (r2 fun x y H Q => ∃ (c : Nat) (z : Str), x = .str ⟨#[c]⟩ ∧ y = .str z ∧ Q (.bl (decide (c ∈ z.cps.toList))) H) oInS := by
  intro F H vs ds Q s rr hp
  unfold oInS at hp
  split at hp
  · rename_i x z
    cases rr with
    | cons h1 h2 =>
      cases h2 with
      | cons h2 h3 =>
        cases h3
        cases h1.str
        cases h2.str
        split at hp
        · rename_i hz
          exact ⟨_, z, congrArg V.str (one_sign hz), rfl, PostV.here s hp (.bl _)⟩
        · exact hp.elim
  · exact hp.elim
theorem vok_notInS : VOk K (r2 fun x y H Q => ∃ (c : Nat) (z : Str), x = .str ⟨#[c]⟩ ∧ y = .str z ∧ Q (.bl (!decide (c ∈ z.cps.toList))) H) oNotInS := by
  intro F H vs ds Q s rr hp
  unfold oNotInS at hp
  split at hp
  · rename_i x z
    cases rr with
    | cons h1 h2 =>
      cases h2 with
      | cons h2 h3 =>
        cases h3
        cases h1.str
        cases h2.str
        split at hp
        · rename_i hz
          exact ⟨_, z, congrArg V.str (one_sign hz), rfl, PostV.here s hp (.bl _)⟩
        · exact hp.elim
  · exact hp.elim
def rInA (K : PySem.W.Frag) : R2 := fun x y H Q => rInD K x y H Q ∨ (fun x y H Q => rInT K x y H Q ∨ (fun x y H Q => ∃ (c : Nat) (z : Str), x = .str ⟨#[c]⟩ ∧ y = .str z ∧ Q (.bl (decide (c ∈ z.cps.toList))) H) x y H Q) x y H Q
def rNotInA (K : PySem.W.Frag) : R2 := fun x y H Q => rNotInD K x y H Q ∨ (fun x y H Q => rNotInT K x y H Q ∨ (fun x y H Q => ∃ (c : Nat) (z : Str), x = .str ⟨#[c]⟩ ∧ y = .str z ∧ Q (.bl (!decide (c ∈ z.cps.toList))) H) x y H Q) x y H Q
def oIn : List D → VO := vOr oInL (vOr oInT oInS)
def oNotIn : List D → VO := vOr oNotInL (vOr oNotInT oNotInS)
theorem op_inA (hu : X.A.units + 65 < cLine) : OpR X (compareOp .In) (rInA X.K) := (op_inD hu).or ((op_inT hu).or op_in_sign)
theorem op_notInA (hu : X.A.units + 65 < cLine) : OpR X (compareOp .NotIn) (rNotInA X.K) := (op_notInD hu).or ((op_notInT hu).or op_notIn_sign)
theorem vok_in : VOk K (r2 (rInA K)) oIn := vok_inL.or2 (vok_inT.or2 vok_inS)
theorem vok_notIn : VOk K (r2 (rNotInA K)) oNotIn := vok_notInL.or2 (vok_notInT.or2 vok_notInS)
/-! ### a[i] -/
def oIxL : List D → VO
  | [.list ds, .int i] => (match atI ds i with
    | some d => .v d
    | none => .no)
  | _ => .no
def oIxT : List D → VO
  | [.tuple ds, .int i] => (match atI ds i with
    | some d => .v d
    | none => .no)
  | _ => .no
def oIxS : List D → VO
  | [.str z, .int i] => if z.length ≤ 100000 then (match atI z.cps.toList i with
    | some c => .v (.str ⟨#[c]⟩)
    | none => .no) else .no
  | _ => .no
theorem RpA.atI {vs : List V} {ds : List D} {i : Int} {d : D} (h : RpA K F vs ds) (e : atI ds i = some d) : ∃ v, L2.atI vs i = some v ∧ Rp K F v d := by
  unfold L2.atI at e ⊢
  rw [h.len]
  cases e1 : ixN ds.length i with
  | none => rw [e1] at e; cases e
  | some j =>
    rw [e1] at e
    exact h.get (i := j) e
theorem vok_ixL : VOk K (r2 (rIxL K)) oIxL := by
  intro F H vs ds Q s rr hp
  unfold oIxL at hp
  split at hp
  · rename_i ds i
    cases rr with
    | cons h1 h2 =>
      cases h2 with
      | cons h2 h3 =>
        cases h3
        cases h2.int
        obtain ⟨p, xs, rfl, h1, q1⟩ := h1.lst s
        cases e : atI ds i with
        | none => rw [e] at hp; exact hp.elim
        | some d =>
          rw [e] at hp
          obtain ⟨v, e1, q⟩ := q1.atI e
          exact ⟨p, xs, i, v, rfl, rfl, .inl h1, e1, PostV.here s hp q⟩
  · exact hp.elim
theorem vok_ixT : VOk K (r2 (rIxT K)) oIxT := by
  intro F H vs ds Q s rr hp
  unfold oIxT at hp
  split at hp
  · rename_i ds i
    cases rr with
    | cons h1 h2 =>
      cases h2 with
      | cons h2 h3 =>
        cases h3
        cases h2.int
        obtain ⟨p, xs, rfl, h1, q1⟩ := h1.tup s
        cases e : atI ds i with
        | none => rw [e] at hp; exact hp.elim
        | some d =>
          rw [e] at hp
          obtain ⟨v, e1, q⟩ := q1.atI e
          exact ⟨p, xs, i, v, rfl, rfl, h1, e1, PostV.here s hp q⟩
  · exact hp.elim
theorem vok_ixS : VOk K (r2 rIxS) oIxS := by
  intro F H vs ds Q s rr hp
  unfold oIxS at hp
  split at hp
  · rename_i z i
    cases rr with
    | cons h1 h2 =>
      cases h2 with
      | cons h2 h3 =>
        cases h3
        cases h1.str
        cases h2.int
        split at hp
        · rename_i hz
          cases e : atI z.cps.toList i with
          | none => rw [e] at hp; exact hp.elim
          | some c =>
            rw [e] at hp
            exact ⟨z, i, c, rfl, rfl, szl hz, e, PostV.here s hp (.str _)⟩
        · exact hp.elim
  · exact hp.elim
def oIx : List D → VO := vOr oIxL (vOr oIxT oIxS)
theorem vok_ix : VOk K (r2 (rIx K)) oIx := vok_ixL.or2 (vok_ixT.or2 vok_ixS)
/-! ### a[lo:hi] -/
def cutL {α : Type} (xs : List α) (lo hi : Option Int) : List α := (xs.drop (HT.sIx xs.length 0 lo)).take (HT.sIx xs.length xs.length hi - HT.sIx xs.length 0 lo)
def cutD (d : D) (lo hi : Option Int) : VO := match d with
  | .list ds => .n (.list (cutL ds lo hi))
  | .tuple ds => .v (.tuple (cutL ds lo hi))
  | .str z => if z.length ≤ 100000 then .v (.str (cutS z lo hi)) else .no
  | _ => .no
def rSlR : V → Option Int → Option Int → Hp → VK → Prop := fun x lo hi H Q => ∃ a xs, x = .ref a ∧ Rd H a (.lst xs) ∧ ∀ p, H p = none → Q (.ref p) (upd H p (.lst (cutV xs lo hi)))
def rSl (K : PySem.W.Frag) : V → Option Int → Option Int → Hp → VK → Prop := fun x lo hi H Q => rSlL K x lo hi H Q ∨ (fun x lo hi H Q => rSlA K x lo hi H Q ∨ rSlS x lo hi H Q) x lo hi H Q
theorem sl_any : SlR X (rSl X.K) := sl_list.or (sl_tupA.or sl_str)
theorem RpA.cut {vs : List V} {ds : List D} (h : RpA K F vs ds) (lo hi : Option Int) : RpA K F (cutV vs lo hi) (cutL ds lo hi) := by
  unfold cutV cutL
  rw [h.len]
  exact (h.drop _).take _
theorem cut_ok {v : V} {d : D} {lo hi : Option Int} {Q : VK} (s : Same F H) (h : Rr K F H v d) (hp : PostV K F H Q (cutD d lo hi)) : rSl K v lo hi H Q := by
  cases d with
  | list ds =>
    obtain ⟨p, xs, rfl, h1, q1⟩ := h.lst s
    exact .inl ⟨p, xs, rfl, .inl h1, fun p hp' => PostV.lst s hp (q1.cut lo hi) hp'⟩
  | tuple ds =>
    have h0 := h
    obtain ⟨p, xs, rfl, h1, q1⟩ := h.tup s
    refine .inr (.inl ⟨p, xs, rfl, h1, fun e => ?_, fun _ p hp' => PostV.tup s hp (q1.cut lo hi) hp'⟩)
    have l := q1.len
    have e2 : cutL ds lo hi = ds := by
      unfold cutL
      rw [← l, e.1, e.2]
      simp [l]
    have hp : PostV K F H Q (.v (.tuple (cutL ds lo hi))) := hp
    rw [e2] at hp
    rcases h0 with h0 | ⟨_, _, _, _, h0⟩
    · exact PostV.here s hp h0
    · cases h0
  | str z =>
    cases h.str
    unfold cutD at hp
    simp only at hp
    split at hp
    · rename_i hz
      exact .inr (.inr ⟨z, rfl, szl hz, PostV.here s hp (.str _)⟩)
    · exact hp.elim
  | _ => exact hp.elim
def oSl00 : List D → VO
  | [d] => cutD d none none
  | _ => .no
def oSl01 : List D → VO
  | [d, .int j] => cutD d none (some j)
  | _ => .no
def oSl10 : List D → VO
  | [d, .int i] => cutD d (some i) none
  | _ => .no
def oSl11 : List D → VO
  | [d, .int i, .int j] => cutD d (some i) (some j)
  | _ => .no
def rSl01 (K : PySem.W.Frag) : List V → Hp → VK → Prop := fun vs H Q => match vs with
  | [x, y] => ∃ j, y = .int j ∧ rSl K x none (some j) H Q
  | _ => False
def rSl10 (K : PySem.W.Frag) : List V → Hp → VK → Prop := fun vs H Q => match vs with
  | [x, y] => ∃ j, y = .int j ∧ rSl K x (some j) none H Q
  | _ => False
def rSl11 (K : PySem.W.Frag) : List V → Hp → VK → Prop := fun vs H Q => match vs with
  | [x, y, z] => ∃ i, y = .int i ∧ ∃ j, z = .int j ∧ rSl K x (some i) (some j) H Q
  | _ => False
/-- the part's int is asked where it is reckoned -/
def rInt1 (r : List V → Hp → VK → Prop) : List V → Hp → VK → Prop := r
theorem vok_sl01 : VOk K (rSl01 K) oSl01 := by
  intro F H vs ds Q s rr hp
  unfold oSl01 at hp
  split at hp
  · rename_i d j
    cases rr with
    | cons h1 h2 =>
      cases h2 with
      | cons h2 h3 =>
        cases h3
        cases h2.int
        exact ⟨j, rfl, cut_ok s h1 hp⟩
  · exact hp.elim
theorem vok_sl10 : VOk K (rSl10 K) oSl10 := by
  intro F H vs ds Q s rr hp
  unfold oSl10 at hp
  split at hp
  · rename_i d j
    cases rr with
    | cons h1 h2 =>
      cases h2 with
      | cons h2 h3 =>
        cases h3
        cases h2.int
        exact ⟨j, rfl, cut_ok s h1 hp⟩
  · exact hp.elim
end
section
variable {X : Cx} {c : Cfg} {W : XK}
theorem dx_sl01 {e hi : Expr} {de dh : DE} {p2 pos : Pos} (hK : c.K = X.K) (he : DX X c W e de) (hh : DX X c W hi dh) : DX X c W (.Subscript e (.Slice none (some hi) none p2) pos) (dOp oSl01 (daC de (daC dh daN))) := by
  obtain ⟨t, p, r⟩ := he
  obtain ⟨t2, p2, r2⟩ := hh
  have q := re_op (c := c) (W := W) (vok_sl01 (K := c.K)) (ra_cons r (ra_cons r2 ra_nil))
  rw [hK] at q
  exact ⟨_, pe_slice sl_any p po_none (po_some p2), q⟩
theorem dx_sl10 {e lo : Expr} {de dl : DE} {p2 pos : Pos} (hK : c.K = X.K) (he : DX X c W e de) (hh : DX X c W lo dl) : DX X c W (.Subscript e (.Slice (some lo) none none p2) pos) (dOp oSl10 (daC de (daC dl daN))) := by
  obtain ⟨t, p, r⟩ := he
  obtain ⟨t2, p2, r2⟩ := hh
  have q := re_op (c := c) (W := W) (vok_sl10 (K := c.K)) (ra_cons r (ra_cons r2 ra_nil))
  rw [hK] at q
  exact ⟨_, pe_slice sl_any p (po_some p2) po_none, q⟩
/-- both parts: each is an int as soon as it is reckoned -/
def dInt (d : DE) : DE := fun ρ => match d ρ with
  | .ok (.t (.val (.int i))) ρ1 => .ok (.t (.val (.int i))) ρ1
  | .ex x ρ1 => .ex x ρ1
  | _ => .no
theorem re_int {te : TE} {d : DE} (he : RE c W te d) : RE c W (fun σ H Q => te σ H fun x H1 => ∃ i, x = .int i ∧ Q (.int i) H1) (dInt d) := by
  intro τ σ ρ F H Q hl r h
  unfold dInt at h
  refine he τ σ ρ F H _ hl r ?_
  cases e : d ρ with
  | no => rw [e] at h; exact h.elim
  | ex x ρ1 => rw [e] at h; exact h
  | ok o ρ1 =>
    rw [e] at h
    cases o with
    | p i => exact h.elim
    | t s =>
      cases s with
      | no => exact h.elim
      | own d' => exact h.elim
      | val d' =>
        cases d' with
        | int i =>
          intro v F1 H1 hl1 r1
          have q : Rp c.K F1 v (.int i) := r1.ok _ List.mem_cons_self
          cases q
          exact ⟨i, rfl, h (.int i) F1 H1 hl1 r1⟩
        | _ => exact h.elim
def rSl3 (K : PySem.W.Frag) : List V → Hp → VK → Prop := fun vs H Q => match vs with
  | [x, .int i, .int j] => rSl K x (some i) (some j) H Q
  | _ => False
theorem vok_sl3 {K : PySem.W.Frag} : VOk K (rSl3 K) oSl11 := by
  intro F H vs ds Q s rr hp
  unfold oSl11 at hp
  split at hp
  · rename_i d i j
    cases rr with
    | cons h1 h2 =>
      cases h2 with
      | cons h2 h3 =>
        cases h3 with
        | cons h3 h4 =>
          cases h4
          cases h2.int
          cases h3.int
          exact cut_ok s h1 hp
  · exact hp.elim
theorem dx_sl11 {e lo hi : Expr} {de dl dh : DE} {p2 pos : Pos} (hK : c.K = X.K) (he : DX X c W e de) (hl : DX X c W lo dl) (hh : DX X c W hi dh) : DX X c W (.Subscript e (.Slice (some lo) (some hi) none p2) pos) (dOp oSl11 (daC de (daC (dInt dl) (daC (dInt dh) daN)))) := by
  obtain ⟨t, p, r⟩ := he
  obtain ⟨t2, p2, r2⟩ := hl
  obtain ⟨t3, p3, r3⟩ := hh
  have q := re_op (c := c) (W := W) (vok_sl3 (K := c.K)) (ra_cons r (ra_cons (re_int r2) (ra_cons (re_int r3) ra_nil)))
  rw [hK] at q
  refine ⟨_, pe_slice sl_any p (po_some p2) (po_some p3), fun τ σ ρ F H Q hl r h => ?_⟩
  have q' := q τ σ ρ F H Q hl r h
  exact q'
end
end PD

set_option Elab.async false
set_option linter.all false
set_option maxRecDepth 100000
set_option maxHeartbeats 2000000
/-! PdD: statements (DSt, DSs), targets, what is walked, for, while. -/
namespace PD
open PySem L2

inductive SO where
  | nx (ρ : Sl)
  | rt (d : D) (ρ : Sl)
  | bk (ρ : Sl)
  | ct (ρ : Sl)
  | ex (x : Exn) (ρ : Sl)
  | no
abbrev DS := Sl → SO
def Pin (c : Cfg) (σ : St) : Prop := ∀ v, c.pin = some v → σ[0]? = some (some v)
/-- slot 0 is not stored to, or nothing is pinned there -/
def Np (c : Cfg) (is : List Nat) : Prop := 0 ∉ is ∨ c.pin = none

def PostX' (c : Cfg) (W : XK) (τ : Cells) (x : Exn) (ρ : Sl) : Prop :=
  ∀ cls dd (σ : St) F H, σ.length = ρ.length → Pin c σ → XRel c F H x cls dd → R c F (τ ++ σ.zip ρ) H → W cls dd H
def PostS (c : Cfg) (W : XK) (τ : Cells) (Dn : Ends) : SO → Prop
  | .nx ρ => ∀ (σ : St) F H, σ.length = ρ.length → Pin c σ → R c F (τ ++ σ.zip ρ) H → Dn.nx σ H
  | .rt d ρ => ∀ v (σ : St) F H, σ.length = ρ.length → Pin c σ → R c F ((some v, .val d) :: (τ ++ σ.zip ρ)) H → Dn.rt v H
  | .bk ρ => ∀ (σ : St) F H, σ.length = ρ.length → Pin c σ → R c F (τ ++ σ.zip ρ) H → Dn.bk σ H
  | .ct ρ => ∀ (σ : St) F H, σ.length = ρ.length → Pin c σ → R c F (τ ++ σ.zip ρ) H → Dn.ct σ H
  | .ex x ρ => PostX' c W τ x ρ
  | .no => False
def RS (c : Cfg) (W : XK) (t : TS) (d : DS) : Prop := ∀ τ σ ρ F H Dn, σ.length = ρ.length → Pin c σ → R c F (τ ++ σ.zip ρ) H → PostS c W τ Dn (d ρ) → t Dn σ H
def DSt (X : Cx) (c : Cfg) (W : XK) (s : Stmt) (d : DS) : Prop := ∃ t, PS X s t ∧ RS c W t d
def DSs (X : Cx) (c : Cfg) (W : XK) (s : List Stmt) (d : DS) : Prop := ∃ t, PSs X s t ∧ RS c W t d

section
variable {X : Cx} {c : Cfg} {W : XK}
theorem PostX'.of {τ : Cells} {σ : St} {x : Exn} {ρ : Sl} (hp : Pin c σ) (h : PostX' c W τ x ρ) : PostX c W τ σ x ρ := fun cls dd F H hl xr r => h cls dd σ F H hl hp xr r
def sNil : DS := fun ρ => .nx ρ
def sSeq (a b : DS) : DS := fun ρ => match a ρ with
  | .nx ρ1 => b ρ1
  | x => x
theorem rs_nil : RS c W tNext sNil := fun τ σ ρ F H Dn hl hp r h => h σ F H hl hp r
theorem rs_seq {t u : TS} {a b : DS} (ha : RS c W t a) (hb : RS c W u b) : RS c W (tSeq t u) (sSeq a b) := by
  intro τ σ ρ F H Dn hl hp r h
  unfold sSeq at h
  refine ha τ σ ρ F H { Dn with nx := u Dn } hl hp r ?_
  cases e : a ρ with
  | nx ρ1 =>
    rw [e] at h
    exact fun σ1 F1 H1 hl1 hp1 r1 => hb τ σ1 ρ1 F1 H1 Dn hl1 hp1 r1 h
  | rt d ρ1 => rw [e] at h; exact h
  | bk ρ1 => rw [e] at h; exact h
  | ct ρ1 => rw [e] at h; exact h
  | ex x ρ1 => rw [e] at h; exact h
  | no => rw [e] at h; exact h
theorem ds_nil : DSs X c W [] sNil := ⟨_, pss_nil, rs_nil⟩
theorem ds_cons {s : Stmt} {ss : List Stmt} {a b : DS} (h1 : DSt X c W s a) (h2 : DSs X c W ss b) : DSs X c W (s :: ss) (sSeq a b) := by
  obtain ⟨t, p, r⟩ := h1
  obtain ⟨t2, p2, r2⟩ := h2
  exact ⟨_, pss_cons p p2, rs_seq r r2⟩
theorem ds_one {s : Stmt} {a : DS} (h1 : DSt X c W s a) : DSs X c W [s] a := by
  obtain ⟨t, p, r⟩ := h1
  exact ⟨_, pss_one p, r⟩
theorem ds_pass {pos : Pos} : DSt X c W (.Pass pos) sNil := ⟨_, ps_pass, rs_nil⟩
def sBrk : DS := fun ρ => .bk ρ
def sCnt : DS := fun ρ => .ct ρ
theorem ds_break {pos : Pos} : DSt X c W (.Break pos) sBrk := ⟨_, ps_break, fun τ σ ρ F H Dn hl hp r h => h σ F H hl hp r⟩
theorem ds_continue {pos : Pos} : DSt X c W (.Continue pos) sCnt := ⟨_, ps_continue, fun τ σ ρ F H Dn hl hp r h => h σ F H hl hp r⟩

/-! ### storing to a slot -/
theorem zip_set2 {σ : St} {ρ : Sl} {i : Nat} {s s' : SV} {v v' : Option V} (hs : σ[i]? = some v) (hr : ρ[i]? = some s) :
    ∃ rest, (σ.zip ρ).Perm ((v, s) :: rest) ∧ ((σ.set i v').zip (ρ.set i s')).Perm ((v', s') :: rest) := by
  induction σ generalizing ρ i with
  | nil => simp at hs
  | cons x σ ih =>
    cases ρ with
    | nil => simp at hr
    | cons y ρ =>
      cases i with
      | zero =>
        simp at hs hr
        subst hs; subst hr
        exact ⟨σ.zip ρ, .refl _, .refl _⟩
      | succ i =>
        obtain ⟨rest, p1, p2⟩ := ih (by simpa using hs) (by simpa using hr)
        refine ⟨(x, y) :: rest, ?_, ?_⟩
        · exact (p1.cons (x, y)).trans (.swap _ _ _)
        · exact (p2.cons (x, y)).trans (.swap _ _ _)
theorem R.store {F H : Hp} {τ : Cells} {σ : St} {ρ : Sl} {i : Nat} {s : SV} {v : V} (hl : σ.length = ρ.length) (r : R c F ((some v, s) :: (τ ++ σ.zip ρ)) H) : R c F (τ ++ (σ.set i (some v)).zip (ρ.set i s)) H := by
  by_cases hi : i < σ.length
  · have hi2 : i < ρ.length := by omega
    obtain ⟨rest, p1, p2⟩ := zip_set2 (σ := σ) (ρ := ρ) (i := i) (s := ρ[i]) (s' := s) (v := σ[i]) (v' := some v) (by simp [hi]) (by simp [hi2])
    have r1 : R c F ((some v, s) :: (τ ++ ((σ[i], ρ[i]) :: rest))) H := r.permL ((p1.append_left τ).cons _)
    have r2 : R c F ((some v, s) :: (τ ++ rest)) H := r1.subl (((List.sublist_cons_self _ rest).append_left τ).cons_cons _)
    exact r2.permL (List.perm_middle.symm.trans ((p2.symm).append_left τ))
  · rw [List.set_eq_of_length_le (by omega), List.set_eq_of_length_le (by omega)]
    exact r.drop
theorem Pin.set {σ : St} {i : Nat} {v : V} (hp : Pin c σ) (hn : Np c [i]) : Pin c (σ.set i (some v)) := by
  intro w hw
  rcases hn with hn | hn
  · have : i ≠ 0 := fun z => hn (by simp [z])
    rw [List.getElem?_set_ne this]
    exact hp w hw
  · rw [hn] at hw; cases hw
/-- name = e, a new object stays the body's own -/
def sSet (i : Nat) (d : DE) : DS := fun ρ => match d ρ with
  | .ok (.t s) ρ1 => .nx (ρ1.set i s)
  | .ok (.p j) ρ1 => (match ρ1[j]? with
    | some (.val x) => .nx (ρ1.set i (.val x))
    | some (.own x) => .nx ((ρ1.set j (.val x)).set i (.val x))
    | _ => .no)
  | .ex x ρ1 => .ex x ρ1
  | .no => .no
theorem rs_set {i : Nat} {te : TE} {d : DE} (hn : Np c [i]) (he : RE c W te d) : RS c W (tAsg te (gName i)) (sSet i d) := by
  intro τ σ ρ F H Dn hl hp r h
  unfold sSet at h
  refine he τ σ ρ F H _ hl r ?_
  cases e : d ρ with
  | no => rw [e] at h; exact h.elim
  | ex x ρ1 => rw [e] at h; exact PostX'.of hp h
  | ok o ρ1 =>
    rw [e] at h
    cases o with
    | t s =>
      intro v F1 H1 hl1 r1
      exact h _ F1 H1 (by simpa using hl1) (hp.set hn) (r1.store hl1)
    | p j =>
      intro v F1 H1 hl1 hv r1
      simp only at h
      cases e1 : ρ1[j]? with
      | none => rw [e1] at h; exact h.elim
      | some s =>
        rw [e1] at h
        cases s with
        | no => exact h.elim
        | val x =>
          obtain ⟨F2, s2, hl2, r2⟩ := R.frz1 (o := .p j) (d := x) (ρ' := ρ1) hl1 (show Held σ [.p j] [v] from ⟨hv, trivial⟩) r1 (by simp only [PD.frz1]; rw [e1])
          exact h _ F2 H1 (by simpa using hl2) (hp.set hn) (r2.store hl2)
        | own x =>
          obtain ⟨F2, s2, hl2, r2⟩ := R.frz1 (o := .p j) (d := x) (ρ' := ρ1.set j (.val x)) hl1 (show Held σ [.p j] [v] from ⟨hv, trivial⟩) r1 (by simp only [PD.frz1]; rw [e1])
          exact h _ F2 H1 (by simpa using hl2) (hp.set hn) (r2.store hl2)
/-- an operand is frozen -/
def dFz (d : DE) : DE := fun ρ => match d ρ with
  | .ok o ρ1 => (match frz1 ρ1 o with
    | some (x, ρ2) => .ok (.t (.val x)) ρ2
    | none => .no)
  | .ex x ρ1 => .ex x ρ1
  | .no => .no
theorem re_fz {te : TE} {d : DE} (he : RE c W te d) : RE c W te (dFz d) := by
  intro τ σ ρ F H Q hl r h
  unfold dFz at h
  refine re_run he hl r (fun o ρ1 e v F1 H1 hl1 hh r1 => ?_) (fun x ρ1 e => by rw [e] at h; exact h) fun e => by rw [e] at h; exact h.elim
  rw [e] at h
  simp only at h
  cases e1 : frz1 ρ1 o with
  | none => rw [e1] at h; exact h.elim
  | some p =>
    obtain ⟨x, ρ2⟩ := p
    rw [e1] at h
    obtain ⟨F2, s2, hl2, r2⟩ := R.frz1 hl1 hh r1 e1
    exact h v F2 H1 hl2 r2
theorem dx_fz {e : Expr} {d : DE} (he : DX X c W e d) : DX X c W e (dFz d) := by
  obtain ⟨t, p, r⟩ := he
  exact ⟨t, p, re_fz r⟩
theorem ds_set {i : Nat} {x : Str} {e : Expr} {d : DE} {pos pos' : Pos} (hn : Np c [i]) (hN : X.N.Nodup) (he : DX X c W e d) (hi : X.N[i]? = some x := by rfl) (hx : Loc X.env.scope x := by first | exact Or.inl rfl | exact Or.inr rfl) (hs : swapsWith e (some (.Name x pos')) pos.line X.env = pure false := by rfl)
    (hf : X.fn x = true ∨ X.env.scope.names.lookup x = some .local := by first | exact .inl rfl | exact .inr rfl) : DSt X c W (.Assign [.Name x pos'] e pos) (sSet i d) := by
  obtain ⟨t, p, r⟩ := he
  exact ⟨_, ps_set hN hi hx p hs hf, rs_set hn r⟩
/-! ### targets -/
abbrev DG := D → Sl → Option Sl
def Out (σ σ' : St) (is : List Nat) : Prop := σ'.length = σ.length ∧ ∀ j, j ∉ is → σ'[j]? = σ[j]?
def PostG (c : Cfg) (τ : Cells) (σ : St) (is : List Nat) (Q : St → Hp → Prop) : Option Sl → Prop
  | some ρ => ∀ σ' F H, σ'.length = ρ.length → Out σ σ' is → R c F (τ ++ σ'.zip ρ) H → Q σ' H
  | none => False
def RG (c : Cfg) (g : TG) (dg : DG) (is : List Nat) : Prop := ∀ τ σ ρ F H v d Q, σ.length = ρ.length → R c F ((some v, .val d) :: (τ ++ σ.zip ρ)) H → PostG c τ σ is Q (dg d ρ) → g v σ H Q
def RGs (c : Cfg) (g : TGs) (dg : List D → Sl → Option Sl) (is : List Nat) : Prop := ∀ τ σ ρ F H vs ds Q, σ.length = ρ.length → R c F (τ ++ σ.zip ρ) H → RpA c.K F vs ds → PostG c τ σ is Q (dg ds ρ) → g vs σ H Q
def DXG (X : Cx) (c : Cfg) (tg : Expr) (dg : DG) (is : List Nat) : Prop := ∃ g, PG X tg g ∧ RG c g dg is
def DXGs (X : Cx) (c : Cfg) (tgs : List Expr) (dg : List D → Sl → Option Sl) (is : List Nat) : Prop := ∃ g, PGs X tgs g ∧ RGs c g dg is
def gN (i : Nat) : DG := fun d ρ => some (ρ.set i (.val d))
def gsN : List D → Sl → Option Sl := fun ds ρ => match ds with
  | [] => some ρ
  | _ => none
def gsC (g : DG) (gs : List D → Sl → Option Sl) : List D → Sl → Option Sl := fun ds ρ => match ds with
  | d :: ds => (match g d ρ with
    | some ρ1 => gs ds ρ1
    | none => none)
  | [] => none
def gT (gs : List D → Sl → Option Sl) (n : Nat) : DG := fun d ρ => match d with
  | .tuple ds => if ds.length = n then gs ds ρ else none
  | _ => none
theorem Out.refl {σ : St} {is : List Nat} : Out σ σ is := ⟨rfl, fun _ _ => rfl⟩
theorem Out.trans {σ σ1 σ2 : St} {is js : List Nat} (a : Out σ σ1 is) (b : Out σ1 σ2 js) : Out σ σ2 (is ++ js) :=
  ⟨b.1.trans a.1, fun j hj => (b.2 j fun z => hj (List.mem_append_right _ z)).trans (a.2 j fun z => hj (List.mem_append_left _ z))⟩
theorem rg_name {i : Nat} : RG c (gName i) (gN i) [i] := by
  intro τ σ ρ F H v d Q hl r h
  exact h _ F H (by simpa using hl) ⟨by simp, fun j hj => List.getElem?_set_ne (fun z => hj (by simp [z]))⟩ (r.store hl)
theorem rgs_nil : RGs c gNil gsN [] := by
  intro τ σ ρ F H vs ds Q hl r q h
  cases q with
  | nil => exact ⟨rfl, h σ F H hl Out.refl r⟩
  | cons _ _ => exact h.elim
theorem rgs_cons {g : TG} {gs : TGs} {dg : DG} {dgs : List D → Sl → Option Sl} {is js : List Nat} (h1 : RG c g dg is) (h2 : RGs c gs dgs js) : RGs c (gCons g gs) (gsC dg dgs) (is ++ js) := by
  intro τ σ ρ F H vs ds Q hl r q h
  cases q with
  | nil => exact h.elim
  | @cons v vs d ds q1 q2 =>
    unfold gsC at h
    simp only at h
    refine ⟨v, vs, rfl, ?_⟩
    have r1 : R c F ((some v, .val d) :: (τ ++ σ.zip ρ)) H := r.addV q1
    -- the further items are held meanwhile
    have hold : ∀ (vs : List V) (ds : List D) (τ : Cells), RpA c.K F vs ds → R c F (τ ++ σ.zip ρ) H → R c F ((vals vs ds ++ τ) ++ σ.zip ρ) H := by
      intro vs
      induction vs with
      | nil => intro ds τ q r; cases q; exact r
      | cons v vs ih =>
        intro ds τ q r
        cases q with
        | cons q1 q2 => exact (ih _ τ q2 r).addV q1
    have back : ∀ (vs : List V) (ds : List D) (F' : Hp) (H' : Hp) (cs : Cells), vs.length = ds.length → R c F' (vals vs ds ++ cs) H' → RpA c.K F' vs ds ∧ R c F' cs H' := by
      intro vs
      induction vs with
      | nil => intro ds F' H' cs hl r; cases ds with
        | nil => exact ⟨.nil, r⟩
        | cons _ _ => simp at hl
      | cons v vs ih =>
        intro ds F' H' cs hl r
        cases ds with
        | nil => simp at hl
        | cons d ds =>
          have r : R c F' ((some v, .val d) :: (vals vs ds ++ cs)) H' := r
          obtain ⟨a, b⟩ := ih ds F' H' cs (by simpa using hl) r.drop
          exact ⟨.cons (r.ok _ List.mem_cons_self) a, b⟩
    have r2 : R c F ((some v, .val d) :: ((vals vs ds ++ τ) ++ σ.zip ρ)) H := (hold vs ds τ q2 r).addV q1
    refine h1 (vals vs ds ++ τ) σ ρ F H v d _ hl r2 ?_
    cases e : dg d ρ with
    | none => rw [e] at h; exact h.elim
    | some ρ1 =>
      rw [e] at h
      intro σ1 F1 H1 hl1 o1 r3
      rw [List.append_assoc] at r3
      obtain ⟨k1, k2⟩ := back vs ds F1 H1 _ q2.len r3
      refine h2 τ σ1 ρ1 F1 H1 vs ds Q hl1 k2 k1 ?_
      cases e2 : dgs ds ρ1 with
      | none => simp only at h; rw [e2] at h; exact h.elim
      | some ρ2 =>
        simp only at h
        rw [e2] at h
        exact fun σ2 F2 H2 hl2 o2 r4 => h σ2 F2 H2 hl2 (o1.trans o2) r4
theorem rg_tup {gs : TGs} {dgs : List D → Sl → Option Sl} {n : Nat} {is : List Nat} (h1 : RGs c gs dgs is) : RG c (gTup c.K n gs) (gT dgs n) is := by
  intro τ σ ρ F H v d Q hl r h
  cases d with
  | tuple ds =>
    unfold gT at h
    simp only at h
    have q : Rp c.K F v (.tuple ds) := r.ok _ List.mem_cons_self
    cases q with
    | @tup a xs _ q1 q2 =>
      split at h
      · rename_i hn
        exact ⟨a, xs, rfl, sqt_mono r.sub q1, by rw [q2.len]; exact hn, h1 τ σ ρ F H xs ds Q hl r.drop q2 h⟩
      · exact h.elim
  | _ => exact h.elim
theorem dg_name {i : Nat} {x : Str} {pos : Pos} (hN : X.N.Nodup) (hi : X.N[i]? = some x := by rfl) (hx : Loc X.env.scope x := by first | exact Or.inl rfl | exact Or.inr rfl) (hf : X.fn x = true ∨ X.env.scope.names.lookup x = some .local := by first | exact .inl rfl | exact .inr rfl) : DXG X c (.Name x pos) (gN i) [i] :=
  ⟨_, pg_name hN hi hx hf, rg_name⟩
theorem dgs_nil : DXGs X c [] gsN [] := ⟨_, pgs_nil, rgs_nil⟩
theorem dgs_cons {e : Expr} {es : List Expr} {dg : DG} {dgs : List D → Sl → Option Sl} {is js : List Nat} (h1 : DXG X c e dg is) (h2 : DXGs X c es dgs js) (hs : (assignEach (e :: es) X.env).map (·.2) = assign e X.env :: (assignEach es X.env).map (·.2) := by rfl) :
    DXGs X c (e :: es) (gsC dg dgs) (is ++ js) := by
  obtain ⟨g, p, r⟩ := h1
  obtain ⟨g2, p2, r2⟩ := h2
  exact ⟨_, pgs_cons p p2 hs, rgs_cons r r2⟩
theorem dg_tup {es : List Expr} {k n : Nat} {dgs : List D → Sl → Option Sl} {is : List Nat} {pos : Pos} (hK : c.K = X.K) (hc : X.calm = true) (h : DXGs X c es dgs is) (hn : (assignEach es X.env).length = n := by rfl) (hst : (assignEach es X.env).findIdx? (·.1) = none := by rfl) :
    DXG X c (.Tuple es k pos) (gT dgs n) is := by
  obtain ⟨g, p, r⟩ := h
  have q := rg_tup (n := n) r
  rw [hK] at q
  exact ⟨_, pg_tup hc p hn hst, q⟩
theorem Pin.out {σ σ' : St} {is : List Nat} (hp : Pin c σ) (hn : Np c is) (o : Out σ σ' is) : Pin c σ' := by
  intro v hv
  rcases hn with hn | hn
  · rw [o.2 0 hn]; exact hp v hv
  · rw [hn] at hv; cases hv
/-- target = e, frozen -/
def sAsg (dg : DG) (d : DE) : DS := fun ρ => match d ρ with
  | .ok o ρ1 => (match frz1 ρ1 o with
    | some (x, ρ2) => (match dg x ρ2 with
      | some ρ3 => .nx ρ3
      | none => .no)
    | none => .no)
  | .ex x ρ1 => .ex x ρ1
  | .no => .no
theorem rs_asg {te : TE} {g : TG} {d : DE} {dg : DG} {is : List Nat} (hn : Np c is) (he : RE c W te d) (hg : RG c g dg is) : RS c W (tAsg te g) (sAsg dg d) := by
  intro τ σ ρ F H Dn hl hp r h
  unfold sAsg at h
  refine re_run he hl r (fun o ρ1 e v F1 H1 hl1 hh r1 => ?_) (fun x ρ1 e => by rw [e] at h; exact PostX'.of hp h) fun e => by rw [e] at h; exact h.elim
  rw [e] at h
  simp only at h
  cases e1 : frz1 ρ1 o with
  | none => rw [e1] at h; exact h.elim
  | some p =>
    obtain ⟨x, ρ2⟩ := p
    rw [e1] at h
    simp only at h
    obtain ⟨F2, s2, hl2, r2⟩ := R.frz1 hl1 hh r1 e1
    refine hg τ σ ρ2 F2 H1 v x _ hl2 r2 ?_
    cases e2 : dg x ρ2 with
    | none => rw [e2] at h; exact h.elim
    | some ρ3 =>
      rw [e2] at h
      exact fun σ' F' H' hl' o' r' => h σ' F' H' hl' (hp.out hn o') r'
theorem ds_asg {tg e : Expr} {d : DE} {dg : DG} {is : List Nat} {pos : Pos} (hn : Np c is) (he : DX X c W e d) (hg : DXG X c tg dg is) (hs : swapsWithSole [tg] e pos.line X.env = pure false := by rfl) (hw : swappedStores [tg] e X.env = pure none := by rfl)
    (h1 : (assignEach [tg] X.env).map (·.2) = [assign tg X.env] := by rfl) : DSt X c W (.Assign [tg] e pos) (sAsg dg d) := by
  obtain ⟨t, p, r⟩ := he
  obtain ⟨g, p2, r2⟩ := hg
  exact ⟨_, ps_asg p p2 hs hw h1, rs_asg hn r r2⟩

/-! ### a, b = x, y -/
/-- an operand to a slot's content -/
def sv1 (ρ : Sl) : Od → Option (SV × Sl)
  | .t s => some (s, ρ)
  | .p i => match ρ[i]? with
    | some (.val d) => some (.val d, ρ)
    | some (.own d) => some (.val d, ρ.set i (.val d))
    | _ => none
def svA (ρ : Sl) : List Od → Option (List SV × Sl)
  | [] => some ([], ρ)
  | o :: os => match sv1 ρ o with
    | some (s, ρ1) => (match svA ρ1 os with
      | some (ss, ρ2) => some (s :: ss, ρ2)
      | none => none)
    | none => none
def cells : List V → List SV → Cells
  | v :: vs, s :: ss => (some v, s) :: cells vs ss
  | _, _ => []
theorem R.sv1 {F H : Hp} {τ : Cells} {σ : St} {ρ ρ' : Sl} {o : Od} {v : V} {s : SV} (hl : σ.length = ρ.length) (hh : Held σ [o] [v]) (r : R c F (temps [o] [v] ++ (τ ++ σ.zip ρ)) H) (e : PD.sv1 ρ o = some (s, ρ')) :
    ∃ F', σ.length = ρ'.length ∧ R c F' ((some v, s) :: (τ ++ σ.zip ρ')) H := by
  cases o with
  | t s' => cases e; exact ⟨F, hl, r⟩
  | p i =>
    simp only [PD.sv1] at e
    cases e3 : ρ[i]? with
    | none => rw [e3] at e; cases e
    | some s' =>
      rw [e3] at e
      cases s' with
      | no => cases e
      | val d =>
        cases e
        obtain ⟨F2, _, hl2, r2⟩ := R.frz1 (d := d) (ρ' := ρ) hl hh r (by simp only [PD.frz1]; rw [e3])
        exact ⟨F2, hl2, r2⟩
      | own d =>
        cases e
        obtain ⟨F2, _, hl2, r2⟩ := R.frz1 (d := d) (ρ' := ρ.set i (.val d)) hl hh r (by simp only [PD.frz1]; rw [e3])
        exact ⟨F2, hl2, r2⟩
theorem R.svA {H : Hp} {σ : St} : ∀ {os : List Od} {vs : List V} {ss : List SV} {τ : Cells} {ρ ρ' : Sl} {F : Hp}, σ.length = ρ.length → Held σ os vs → R c F (temps os vs ++ (τ ++ σ.zip ρ)) H → PD.svA ρ os = some (ss, ρ') →
    ∃ F', σ.length = ρ'.length ∧ ss.length = vs.length ∧ os.length = vs.length ∧ R c F' (cells vs ss ++ (τ ++ σ.zip ρ')) H
  | [], [], ss, τ, ρ, ρ', F, hl, hh, r, e => by
    cases e
    exact ⟨F, hl, rfl, rfl, r⟩
  | [], _ :: _, _, _, _, _, _, _, h, _, _ => h.elim
  | .t s :: os, [], _, _, _, _, _, _, h, _, _ => h.elim
  | .p i :: os, [], _, _, _, _, _, _, h, _, _ => h.elim
  | o :: os, v :: vs, ss, τ, ρ, ρ', F, hl, hh, r, e => by
    unfold PD.svA at e
    cases e1 : PD.sv1 ρ o with
    | none => rw [e1] at e; cases e
    | some p =>
      obtain ⟨s, ρ1⟩ := p
      rw [e1] at e
      simp only at e
      cases e2 : PD.svA ρ1 os with
      | none => rw [e2] at e; cases e
      | some p2 =>
        obtain ⟨ss2, ρ2⟩ := p2
        rw [e2] at e
        cases e
        have hh1 : Held σ [o] [v] := by cases o with
          | t s => trivial
          | p i => exact ⟨hh.1, trivial⟩
        have hh2 : Held σ os vs := by cases o with
          | t s => exact hh
          | p i => exact hh.2
        have r' : R c F (temps [o] [v] ++ ((temps os vs ++ τ) ++ σ.zip ρ)) H := by
          cases o with
          | t s =>
            have r : R c F ((some v, s) :: (temps os vs ++ (τ ++ σ.zip ρ))) H := r
            show R c F ((some v, s) :: ((temps os vs ++ τ) ++ σ.zip ρ)) H
            rw [List.append_assoc]; exact r
          | p i =>
            have r : R c F (temps os vs ++ (τ ++ σ.zip ρ)) H := r
            show R c F ((temps os vs ++ τ) ++ σ.zip ρ) H
            rw [List.append_assoc]; exact r
        obtain ⟨F1, hl1, r1⟩ := R.sv1 hl hh1 r' e1
        have r1' : R c F1 (temps os vs ++ (((some v, s) :: τ) ++ σ.zip ρ1)) H := by
          rw [List.append_assoc] at r1
          exact r1.permL List.perm_middle.symm
        obtain ⟨F2, hl2, z1, z2, r2⟩ := R.svA (ss := ss2) hl1 hh2 r1' e2
        refine ⟨F2, hl2, by simp [z1], by simp [z2], ?_⟩
        have r2 : R c F2 (cells vs ss2 ++ ((some v, s) :: (τ ++ σ.zip ρ'))) H := r2
        exact r2.permL List.perm_middle
/-- several slots at once -/
def setAll (ρ : Sl) : List Nat → List SV → Sl
  | i :: is, s :: ss => setAll (ρ.set i s) is ss
  | _, _ => ρ
def setAllV (σ : St) : List Nat → List V → St
  | i :: is, v :: vs => setAllV (σ.set i (some v)) is vs
  | _, _ => σ
theorem R.storeAll {H F : Hp} {τ : Cells} : ∀ (is : List Nat) (vs : List V) (ss : List SV) (σ : St) (ρ : Sl), σ.length = ρ.length → ss.length = vs.length → is.length = vs.length → R c F (cells vs ss ++ (τ ++ σ.zip ρ)) H →
    (setAllV σ is vs).length = (setAll ρ is ss).length ∧ R c F (τ ++ (setAllV σ is vs).zip (setAll ρ is ss)) H ∧ Out σ (setAllV σ is vs) is
  | [], [], [], σ, ρ, hl, _, _, r => ⟨hl, r, Out.refl⟩
  | i :: is, v :: vs, s :: ss, σ, ρ, hl, h1, h2, r => by
    have r1 : R c F ((some v, s) :: ((cells vs ss ++ τ) ++ σ.zip ρ)) H := by
      rw [List.append_assoc]; exact r
    have r2 := r1.store (i := i) hl
    rw [List.append_assoc] at r2
    obtain ⟨a, b, o⟩ := R.storeAll is vs ss (σ.set i (some v)) (ρ.set i s) (by simpa using hl) (by simpa using h1) (by simpa using h2) r2
    refine ⟨a, b, ?_⟩
    have o1 : Out σ (σ.set i (some v)) [i] := ⟨by simp, fun j hj => List.getElem?_set_ne (fun z => hj (by simp [z]))⟩
    exact o1.trans o
  | [], _ :: _, _, _, _, _, _, h, _ => by simp at h
  | _ :: _, [], _, _, _, _, _, h, _ => by simp at h
  | [], [], _ :: _, _, _, _, h, _, _ => by simp at h
  | _ :: _, _ :: _, [], _, _, _, h, _, _ => by simp at h
def sPar (is : List Nat) (da : DAs) : DS := fun ρ => match da ρ with
  | .ok os ρ1 => (match svA ρ1 os with
    | some (ss, ρ2) => .nx (setAll ρ2 is ss)
    | none => .no)
  | .ex x ρ1 => .ex x ρ1
  | .no => .no
theorem rs_parK {t : TS} {ta : TA} {da : DAs} {is : List Nat} {k : Ends → St → List V → Hp → Prop} (hn : Np c is) (hlen : ∀ ρ os ρ1, da ρ = .ok os ρ1 → os.length = is.length) (ht : ∀ Dn σ H, ta σ H (k Dn σ) → t Dn σ H)
    (hk : ∀ Dn σ vs H1, vs.length = is.length → (∀ H2, (H2 = H1 ∨ ∃ p, H1 p = none ∧ H2 = upd H1 p (.tup vs)) → Dn.nx (setAllV σ is vs) H2) → k Dn σ vs H1) (ha : RA c W ta da) : RS c W t (sPar is da) := by
  intro τ σ ρ F H Dn hl hpn r h
  unfold sPar at h
  refine ht Dn σ H (ha τ σ ρ F H _ hl r ?_)
  cases e : da ρ with
  | no => rw [e] at h; exact h.elim
  | ex x ρ1 => rw [e] at h; exact PostX'.of hpn h
  | ok os ρ1 =>
    rw [e] at h
    intro vs F1 H1 hl1 hh r1
    simp only at h
    cases e1 : svA ρ1 os with
    | none => rw [e1] at h; exact h.elim
    | some p =>
      obtain ⟨ss, ρ2⟩ := p
      rw [e1] at h
      obtain ⟨F2, hl2, z1, z2, r2⟩ := R.svA hl1 hh r1 e1
      have hv : is.length = vs.length := by rw [← hlen ρ os ρ1 e, z2]
      refine hk Dn σ vs H1 hv.symm fun H2 hH2 => ?_
      have r3 : R c F2 (cells vs ss ++ (τ ++ σ.zip ρ2)) H2 := by
        rcases hH2 with rfl | ⟨p, hp, rfl⟩
        · exact r2
        · exact r2.grow (Grow.new1 r2.sub hp)
      obtain ⟨a, b, o⟩ := R.storeAll is vs ss σ ρ2 hl2 z1 hv r3
      exact h _ F2 H2 a (hpn.out hn o) b
def daLen : DAs → Nat → Prop := fun da n => ∀ ρ os ρ1, da ρ = .ok os ρ1 → os.length = n
theorem daLen_nil : daLen daN 0 := fun ρ os ρ1 e => by cases e; rfl
theorem daLen_cons {d : DE} {da : DAs} {n : Nat} (h : daLen da n) : daLen (daC d da) (n + 1) := fun ρ os ρ1 e => by
  unfold daC at e
  cases e1 : d ρ with
  | no => rw [e1] at e; cases e
  | ex x ρ2 => rw [e1] at e; cases e
  | ok o ρ2 =>
    rw [e1] at e
    simp only at e
    cases e2 : da ρ2 with
    | no => rw [e2] at e; cases e
    | ex x ρ3 => rw [e2] at e; cases e
    | ok os' ρ3 =>
      rw [e2] at e
      cases e
      simp [h ρ2 os' _ e2]
theorem rs_par2 {i j : Nat} {ta : TA} {da : DAs} (hn : Np c [i, j]) (hlen : daLen da 2) (ha : RA c W ta da) : RS c W (tPar i j ta) (sPar [i, j] da) :=
  rs_parK (k := fun Dn σ vs H1 => ∃ v w, vs = [v, w] ∧ Dn.nx ((σ.set i (some v)).set j (some w)) H1) hn hlen (fun _ _ _ h => h) (fun Dn σ vs H1 hv h => by
    match vs, hv with
    | [v, w], _ => exact ⟨v, w, rfl, h H1 (.inl rfl)⟩) ha
theorem rs_par3 {i j l : Nat} {ta : TA} {da : DAs} (hn : Np c [i, j, l]) (hlen : daLen da 3) (ha : RA c W ta da) : RS c W (tPar3 i j l ta) (sPar [i, j, l] da) :=
  rs_parK (k := fun Dn σ vs H1 => ∃ v w u, vs = [v, w, u] ∧ Dn.nx (((σ.set i (some v)).set j (some w)).set l (some u)) H1) hn hlen (fun _ _ _ h => h) (fun Dn σ vs H1 hv h => by
    match vs, hv with
    | [v, w, u], _ => exact ⟨v, w, u, rfl, h H1 (.inl rfl)⟩) ha
/-- names, one behind another -/
def gAll : List Nat → TGs
  | [] => gNil
  | i :: is => gCons (gName i) (gAll is)
theorem gAll_ok {Q : St → Hp → Prop} {H : Hp} : ∀ (is : List Nat) (vs : List V) (σ : St), vs.length = is.length → Q (setAllV σ is vs) H → gAll is vs σ H Q
  | [], [], σ, _, h => ⟨rfl, h⟩
  | i :: is, v :: vs, σ, hl, h => ⟨v, vs, rfl, gAll_ok is vs (σ.set i (some v)) (by simpa using hl) h⟩
  | [], _ :: _, _, h, _ => by simp at h
  | _ :: _, [], _, h, _ => by simp at h
theorem rs_parT {n : Nat} {is : List Nat} {ta : TA} {da : DAs} (hn : Np c is) (hi : is.length = n) (hz : n ≤ 100000) (hlen : daLen da n) (ha : RA c W ta da) : RS c W (tAsg (tTup ta) (gTup c.K n (gAll is))) (sPar is da) :=
  rs_parK (k := fun Dn σ vs H1 => vs.length ≤ sizeLine ∧ ∀ p, H1 p = none → gTup c.K n (gAll is) (.ref p) σ (upd H1 p (.tup vs)) Dn.nx) hn (by rw [hi]; exact hlen) (fun _ _ _ h => h) (fun Dn σ vs H1 hv h => by
    refine ⟨szl (by omega), fun p hp => ⟨p, vs, rfl, .of upd_same, by omega, gAll_ok is vs σ hv (h _ (.inr ⟨p, hp, rfl⟩))⟩⟩) ha
def PGsAll (X : Cx) (tgs : List Expr) (is : List Nat) : Prop := PGs X tgs (gAll is)
theorem pga_nil : PGsAll X [] [] := pgs_nil
theorem pga_cons {x : Str} {pos : Pos} {es : List Expr} {i : Nat} {is : List Nat} (hN : X.N.Nodup) (h2 : PGsAll X es is) (hi : X.N[i]? = some x := by rfl) (hx : Loc X.env.scope x := by first | exact Or.inl rfl | exact Or.inr rfl) (hf : X.fn x = true ∨ X.env.scope.names.lookup x = some .local := by first | exact .inl rfl | exact .inr rfl)
    (hs : (assignEach (.Name x pos :: es) X.env).map (·.2) = assign (.Name x pos) X.env :: (assignEach es X.env).map (·.2) := by rfl) : PGsAll X (.Name x pos :: es) (i :: is) := pgs_cons (pg_name hN hi hx hf) h2 hs
theorem ds_parT {es ts : List Expr} {k kt n : Nat} {is : List Nat} {da : DAs} {pos pt pv' : Pos} (hn : Np c is) (hK : c.K = X.K) (hc : X.calm = true) (hg : PGsAll X ts is) (ha : DXA X c W es da) (hlen : daLen da n) (hi : is.length = n := by rfl) (hz : n ≤ 100000 := by decide)
    (hs : swapsWithSole [.Tuple ts kt pt] (.Tuple es k pv') pos.line X.env = pure false := by rfl) (hw : swappedStores [.Tuple ts kt pt] (.Tuple es k pv') X.env = pure none := by rfl) (h1 : (assignEach [.Tuple ts kt pt] X.env).map (·.2) = [assign (.Tuple ts kt pt) X.env] := by rfl)
    (hn' : (assignEach ts X.env).length = n := by rfl) (hst : (assignEach ts X.env).findIdx? (·.1) = none := by rfl) : DSt X c W (.Assign [.Tuple ts kt pt] (.Tuple es k pv') pos) (sPar is da) := by
  obtain ⟨t, p, r⟩ := ha
  have q := rs_parT hn hi hz hlen r
  rw [hK] at q
  exact ⟨_, ps_asg (pe_tup p) (pg_tup hc hg hn' hst) hs hw h1, q⟩
theorem ds_par2 {i j : Nat} {x y : Str} {a b : Expr} {da : DAs} {px py pt pos : Pos} {kt k2 pt2} (hn : Np c [i, j]) (hc : X.calm = true) (hN : X.N.Nodup) (ha : DXA X c W [a, b] da) (hlen : daLen da 2) (hi : X.N[i]? = some x := by rfl) (hj : X.N[j]? = some y := by rfl) (hij : i ≠ j := by decide)
    (hx : X.env.scope.names.lookup x = some .local := by rfl) (hy : X.env.scope.names.lookup y = some .local := by rfl)
    (hw : swappedStores [.Tuple [.Name x px, .Name y py] kt pt] (.Tuple [a, b] k2 pt2) X.env = pure (some [x, y]) := by rfl)
    (hs : swapsWithSole [.Tuple [.Name x px, .Name y py] kt pt] (.Tuple [a, b] k2 pt2) pos.line X.env = pure false := by rfl) :
    DSt X c W (.Assign [.Tuple [.Name x px, .Name y py] kt pt] (.Tuple [a, b] k2 pt2) pos) (sPar [i, j] da) := by
  obtain ⟨t, p, r⟩ := ha
  exact ⟨_, ps_par hc hN hi hj hij hx hy p hw hs, rs_par2 hn hlen r⟩
theorem ds_par3 {i j l : Nat} {x y z : Str} {a b c' : Expr} {da : DAs} {px py pz pt pos : Pos} {kt k2 pt2} (hn : Np c [i, j, l]) (hc : X.calm = true) (hN : X.N.Nodup) (ha : DXA X c W [a, b, c'] da) (hlen : daLen da 3) (hi : X.N[i]? = some x := by rfl) (hj : X.N[j]? = some y := by rfl) (hl : X.N[l]? = some z := by rfl)
    (hij : i ≠ j := by decide) (hil : i ≠ l := by decide) (hjl : j ≠ l := by decide)
    (hx : X.env.scope.names.lookup x = some .local := by rfl) (hy : X.env.scope.names.lookup y = some .local := by rfl) (hz : X.env.scope.names.lookup z = some .local := by rfl)
    (hw : swappedStores [.Tuple [.Name x px, .Name y py, .Name z pz] kt pt] (.Tuple [a, b, c'] k2 pt2) X.env = pure (some [x, y, z]) := by rfl)
    (hs : swapsWithSole [.Tuple [.Name x px, .Name y py, .Name z pz] kt pt] (.Tuple [a, b, c'] k2 pt2) pos.line X.env = pure false := by rfl) :
    DSt X c W (.Assign [.Tuple [.Name x px, .Name y py, .Name z pz] kt pt] (.Tuple [a, b, c'] k2 pt2) pos) (sPar [i, j, l] da) := by
  obtain ⟨t, p, r⟩ := ha
  exact ⟨_, ps_par3 hc hN hi hj hl hij hil hjl hx hy hz p hw hs, rs_par3 hn hlen r⟩
end
end PD

set_option Elab.async false
set_option linter.all false
set_option maxRecDepth 100000
set_option maxHeartbeats 2000000
/-! PdE: further statements: an expression alone, methods that change an own object, xs[i] = e, x += e, if, return, while, for. -/
namespace PD
open PySem L2
section
variable {X : Cx} {c : Cfg} {W : XK}
def sDrop (d : DE) : DS := fun ρ => match d ρ with
  | .ok _ ρ1 => .nx ρ1
  | .ex x ρ1 => .ex x ρ1
  | .no => .no
theorem rs_drop {te : TE} {d : DE} (he : RE c W te d) : RS c W (tDrop te) (sDrop d) := by
  intro τ σ ρ F H Dn hl hp r h
  unfold sDrop at h
  refine re_run he hl r (fun o ρ1 e v F1 H1 hl1 hh r1 => ?_) (fun x ρ1 e => by rw [e] at h; exact PostX'.of hp h) fun e => by rw [e] at h; exact h.elim
  rw [e] at h
  exact h σ F1 H1 hl1 hp r1.dropTemps
theorem ds_expr {e : Expr} {d : DE} {pos : Pos} (he : DX X c W e d) (hs : swapsWith e none pos.line X.env = pure false := by rfl) : DSt X c W (.Expr e pos) (sDrop d) := by
  obtain ⟨t, p, r⟩ := he
  exact ⟨_, ps_expr p hs, rs_drop r⟩
theorem ds_doc {x j pos pos'} : DSt X c W (.Expr (.Constant (.str x) j pos) pos') sNil := ⟨_, ps_doc, rs_nil⟩

/-! ### methods that change an own object -/
def tyOk (T : String) : D → Bool
  | .list _ => T == "list"
  | .dict _ => T == "dict"
  | _ => false
theorem tyOk_ok {K : PySem.W.Frag} {F H : Hp} {T : String} {d : D} {o : HO} {a : Addr} (h : tyOk T d = true) (q : Own K F o d) (ha : H a = some o) : tyV K T (.ref a) H := by
  cases q with
  | lst q => exact .inl ⟨by simpa [tyOk] using h, _, .of ha⟩
  | dK _ _ => exact .inr (.inr (.inl ⟨by simpa [tyOk] using h, .inl ⟨_, ha⟩⟩))
  | dT _ _ => exact .inr (.inr (.inl ⟨by simpa [tyOk] using h, .inr ⟨_, ha⟩⟩))
def MOk (K : PySem.W.Frag) (r : V → List V → Hp → VK → Prop) (f : D → List D → Option (D × D)) : Prop :=
  ∀ F H a o d0 vs ds (Q : VK) z d1, Same F H → H a = some o → F a = none → Own K F o d0 → RpA K F vs ds → f d0 ds = some (z, d1) → (∀ zv o', Rp K F zv z → Own K F o' d1 → Q zv (upd H a o')) → r (.ref a) vs H Q
def dMut (T : String) (k : Nat) (f : D → List D → Option (D × D)) (da : DAs) : DE := fun ρ => match ρ[k]? with
  | some (.own d00) => if tyOk T d00 = true then (match da ρ with
    | .ok os ρ1 => (match frzA ρ1 os with
      | some (ds, ρ2) => (match ρ2[k]? with
        | some (.own d0) => (match f d0 ds with
          | some (z, d1) => .ok (.t (.val z)) (ρ2.set k (.own d1))
          | none => .no)
        | _ => .no)
      | none => .no)
    | .ex x ρ1 => .ex x ρ1
    | .no => .no) else .no
  | _ => .no
theorem R.ownSlot {F H : Hp} {τ : Cells} {σ : St} {ρ : Sl} {i : Nat} {d : D} (r : R c F (τ ++ σ.zip ρ) H) (hl : σ.length = ρ.length) (h : ρ[i]? = some (.own d)) : ∃ a o, σ[i]? = some (some (.ref a)) ∧ F a = none ∧ H a = some o ∧ Own c.K F o d := by
  obtain ⟨v, e, m⟩ := r.slot hl h (by intro z; cases z)
  have q := r.ok _ m
  cases v with
  | ref a =>
    obtain ⟨h1, o, h2, h3⟩ := q
    exact ⟨a, o, e, h1, h2, h3⟩
  | _ => exact q.elim
/-- an own object of a slot is changed -/
theorem R.changeSlot {F H : Hp} {τ : Cells} {σ : St} {ρ : Sl} {i : Nat} {a : Addr} {d d' : D} {o' : HO} (r : R c F (τ ++ σ.zip ρ) H) (hv : σ[i]? = some (some (.ref a))) (h : ρ[i]? = some (.own d)) (ho : Own c.K F o' d') : R c F (τ ++ σ.zip (ρ.set i (.own d'))) (upd H a o') := by
  obtain ⟨rest, q1, q2⟩ := R.front (s' := .own d') hv h r
  exact q2 F _ (q1.change ho)
theorem re_mut {T : String} {k : Nat} {r : V → List V → Hp → VK → Prop} {f : D → List D → Option (D × D)} {ta : TA} {da : DAs} (hm : MOk c.K r f) (ha : RA c W ta da) : RE c W (tBM c.K T r (tVar k) ta) (dMut T k f da) := by
  intro τ σ ρ F H Q hl rr h
  unfold dMut at h
  cases e : ρ[k]? with
  | none => rw [e] at h; exact h.elim
  | some s =>
    rw [e] at h
    cases s with
    | no => exact h.elim
    | val _ => exact h.elim
    | own d00 =>
      simp only at h
      split at h
      · rename_i ht
        obtain ⟨a, o, e1, _, e3, e4⟩ := rr.ownSlot hl e
        refine ⟨.ref a, e1, tyOk_ok ht e4 e3, ha τ σ ρ F H _ hl rr ?_⟩
        cases e5 : da ρ with
        | no => rw [e5] at h; exact h.elim
        | ex x ρ1 => rw [e5] at h; exact h
        | ok os ρ1 =>
          rw [e5] at h
          intro vs F1 H1 hl1 hh r1
          simp only at h
          cases e6 : frzA ρ1 os with
          | none => rw [e6] at h; exact h.elim
          | some p =>
            obtain ⟨ds, ρ2⟩ := p
            rw [e6] at h
            simp only at h
            obtain ⟨F2, s2, hl2, q2, r2⟩ := R.frzA hl1 hh r1 e6
            cases e7 : ρ2[k]? with
            | none => rw [e7] at h; exact h.elim
            | some s =>
              rw [e7] at h
              cases s with
              | no => exact h.elim
              | val _ => exact h.elim
              | own d0 =>
                simp only at h
                cases e8 : f d0 ds with
                | none => rw [e8] at h; exact h.elim
                | some zd =>
                  obtain ⟨z, d1⟩ := zd
                  rw [e8] at h
                  obtain ⟨a', o', f1, f2, f3, f4⟩ := r2.ownSlot hl2 e7
                  have ea : a' = a := by rw [e1] at f1; cases f1; rfl
                  subst ea
                  refine hm F2 H1 a' o' d0 vs ds Q z d1 r2.sub f3 f2 f4 q2 e8 fun zv o2 hz ho => ?_
                  exact h zv F2 _ (by simpa using hl2) ((r2.changeSlot e1 e7 ho).addV hz)
      · exact h.elim
theorem re_mut0 {T : String} {k : Nat} {r : V → List V → Hp → VK → Prop} {f : D → List D → Option (D × D)} (hm : MOk c.K r f) : RE c W (tBM0 c.K T r (tVar k)) (dMut T k f daN) := by
  intro τ σ ρ F H Q hl rr h
  have q := re_mut (T := T) (k := k) (W := W) hm ra_nil τ σ ρ F H Q hl rr h
  exact q
theorem dx_mut {T id : String} {k : Nat} {r : V → List V → Hp → VK → Prop} {f : D → List D → Option (D × D)} {x name : Str} {e : Expr} {es : List Expr} {da : DAs} {px apos cpos : Pos} (hm : MOk c.K r f) (hK : c.K = X.K) (mt : MtR X id r) (pa : PlainAttrs T) (slot : Slot T name id) (hty : typeOf (.builtin id) = pure (.type "method_descriptor"))
    (ha : DXA X c W (e :: es) da) (hN : X.N[k]? = some x := by rfl) (hv : Vis X.env.scope x := by first | exact Or.inl rfl | exact Or.inr (Or.inl rfl) | exact Or.inr (Or.inr rfl)) (hd : (x == ("__debug__" : Str)) = false := by decide) (hcd : (x == ("__classdict__" : Str)) = false := by decide)
    (hbase : attributeBase (.Name x px) name X.env (eval (.Name x px) X.env) = eval (.Name x px) X.env := by rfl)
    (hfew : ((backTo cpos (starEach (e :: es) X.env)).all (fun x => !x.1) && (backToKw cpos (keywordEach [] X.env)).all (fun x => x.1.isSome)
      && decide ((e :: es).length + ([] : List Keyword).length + (if ([] : List Keyword).isEmpty then 0 else 1) < 30)) = true := by rfl)
    (hline : (apos.endLine == cpos.line) = true := by rfl) (hs : starEach (e :: es) X.env = (false, eval e X.env) :: starEach es X.env := by rfl) (hplain : (backTo cpos (starEach es X.env)).any (·.1) = false := by rfl) :
    DX X c W (.Call (.Attribute (.Name x px) name apos) (e :: es) [] cpos) (dMut T k f da) := by
  obtain ⟨t, p, r⟩ := ha
  have q := re_mut (T := T) (k := k) hm r
  rw [hK] at q
  exact ⟨_, pe_bm pa slot hty mt (pe_var hN hv hd hcd) p hbase hfew hline hs hplain, q⟩
theorem dx_mut0 {T id : String} {k : Nat} {r : V → List V → Hp → VK → Prop} {f : D → List D → Option (D × D)} {x name : Str} {px apos cpos : Pos} (hm : MOk c.K r f) (hK : c.K = X.K) (mt : MtR X id r) (pa : PlainAttrs T) (slot : Slot T name id) (hty : typeOf (.builtin id) = pure (.type "method_descriptor"))
    (hN : X.N[k]? = some x := by rfl) (hv : Vis X.env.scope x := by first | exact Or.inl rfl | exact Or.inr (Or.inl rfl) | exact Or.inr (Or.inr rfl)) (hd : (x == ("__debug__" : Str)) = false := by decide) (hcd : (x == ("__classdict__" : Str)) = false := by decide)
    (hbase : attributeBase (.Name x px) name X.env (eval (.Name x px) X.env) = eval (.Name x px) X.env := by rfl) (hline : (apos.endLine == cpos.line) = true := by rfl) :
    DX X c W (.Call (.Attribute (.Name x px) name apos) [] [] cpos) (dMut T k f daN) := by
  have q := re_mut0 (c := c) (W := W) (T := T) (k := k) hm
  rw [hK] at q
  exact ⟨_, pe_bm0 pa slot hty mt (pe_var hN hv hd hcd) hbase hline, q⟩
def mAppend : D → List D → Option (D × D)
  | .list ds, [x] => if ds.length < 100000 then some (.none, .list (ds ++ [x])) else none
  | _, _ => none
theorem mok_append {K : PySem.W.Frag} : MOk K rAppend mAppend := by
  intro F H a o d0 vs ds Q z d1 s ha fa ho q e h
  unfold mAppend at e
  split at e
  · rename_i ds x
    cases ho with
    | lst ho =>
      cases q with
      | cons q1 q2 =>
        cases q2
        split at e
        · rename_i hz
          cases e
          exact ⟨a, _, _, rfl, rfl, ha, by rw [ho.len]; exact Nat.lt_of_lt_of_le hz (szl (Nat.le_refl _)), h _ _ .non (.lst (ho.app (.cons q1 .nil)))⟩
        · cases e
  · cases e
def mPop : D → List D → Option (D × D)
  | .list ds, [] => (match ds[ds.length - 1]? with
    | some x => some (x, .list ds.dropLast)
    | none => none)
  | _, _ => none
theorem RpA.dropLast {K : PySem.W.Frag} {F : Hp} {vs : List V} {ds : List D} (h : RpA K F vs ds) : RpA K F vs.dropLast ds.dropLast := by
  rw [List.dropLast_eq_take, List.dropLast_eq_take, h.len]
  exact h.take _
theorem RpA.erase {K : PySem.W.Frag} {F : Hp} : ∀ {vs : List V} {ds : List D} (k : Nat), RpA K F vs ds → RpA K F (vs.eraseIdx k) (ds.eraseIdx k)
  | [], _, k, h => by cases h; exact .nil
  | v :: vs, _, 0, h => by
    cases h with
    | cons h1 h2 => exact h2
  | v :: vs, _, k + 1, h => by
    cases h with
    | cons h1 h2 => exact .cons h1 (h2.erase k)
theorem mok_pop {K : PySem.W.Frag} : MOk K rPop mPop := by
  intro F H a o d0 vs ds Q z d1 s ha fa ho q e h
  unfold mPop at e
  split at e
  · rename_i ds
    cases ho with
    | @lst xs _ ho =>
      cases q
      cases e1 : ds[ds.length - 1]? with
      | none => rw [e1] at e; cases e
      | some x =>
        rw [e1] at e
        cases e
        obtain ⟨v, e2, q2⟩ := ho.get e1
        exact ⟨a, xs, v, rfl, rfl, ha, by rw [ho.len]; exact e2, h _ _ q2 (.lst ho.dropLast)⟩
  · cases e
def mPopAt : D → List D → Option (D × D)
  | .list ds, [.int i] => if 0 ≤ i ∧ i < 100000 then (match ds[i.toNat]? with
    | some x => some (x, .list (ds.eraseIdx i.toNat))
    | none => none) else none
  | _, _ => none
theorem mok_popAt {K : PySem.W.Frag} : MOk K rPopAt mPopAt := by
  intro F H a o d0 vs ds Q z d1 s ha fa ho q e h
  unfold mPopAt at e
  split at e
  · rename_i ds i
    cases ho with
    | @lst xs _ ho =>
      cases q with
      | cons q1 q2 =>
        cases q2
        cases q1
        split at e
        · rename_i hi
          cases e1 : ds[i.toNat]? with
          | none => rw [e1] at e; cases e
          | some x =>
            rw [e1] at e
            cases e
            obtain ⟨v, e2, q2⟩ := ho.get e1
            have hlt := (List.getElem?_eq_some_iff.mp e2).1
            have hix : ixN xs.length i = some i.toNat := by
              unfold ixN
              rw [if_pos hi.1, if_pos (by omega)]
            exact ⟨a, xs, i, i.toNat, v, rfl, rfl, ha, by omega, by omega, (ixN_seq hix).1, e2, h _ _ q2 (.lst (ho.erase _))⟩
        · cases e
  · cases e

/-! ### xs[i] = e -/
def sIxL (k : Nat) (d di : DE) : DS := fun ρ => match d ρ with
  | .ok o ρ0 => (match frz1 ρ0 o with
    | some (x, ρ1) => (match ρ1[k]? with
      | some (.own _) => (match di ρ1 with
        | .ok (.t (.val (.int i))) ρ2 => (match ρ2[k]? with
          | some (.own (.list ds)) => (match ixN ds.length i with
            | some j => .nx (ρ2.set k (.own (.list (ds.set j x))))
            | none => .no)
          | _ => .no)
        | .ex x ρ2 => .ex x ρ2
        | _ => .no)
      | _ => .no)
    | none => .no)
  | .ex x ρ1 => .ex x ρ1
  | .no => .no
theorem PostX.drop1 {τ : Cells} {σ : St} {x : Exn} {ρ : Sl} {y : Option V × SV} (h : PostX c W τ σ x ρ) : PostX c W (y :: τ) σ x ρ := fun cls dd F H hl xr r => h cls dd F H hl xr r.drop
theorem rs_ixL {k : Nat} {te ti : TE} {d di : DE} (he : RE c W te d) (hi : RE c W ti di) : RS c W (tAsg te (gSub (tVar k) ti rSetL)) (sIxL k d di) := by
  intro τ σ ρ F H Dn hl hp r h
  unfold sIxL at h
  refine re_run he hl r (fun o ρ0 e v F1 H1 hl1 hh r1 => ?_) (fun x ρ1 e => by rw [e] at h; exact PostX'.of hp h) fun e => by rw [e] at h; exact h.elim
  rw [e] at h
  simp only at h
  cases e1 : frz1 ρ0 o with
  | none => rw [e1] at h; exact h.elim
  | some p =>
    obtain ⟨x, ρ1⟩ := p
    rw [e1] at h
    simp only at h
    obtain ⟨F2, s2, hl2, r2⟩ := R.frz1 hl1 hh r1 e1
    cases e2 : ρ1[k]? with
    | none => rw [e2] at h; exact h.elim
    | some s =>
      rw [e2] at h
      cases s with
      | no => exact h.elim
      | val _ => exact h.elim
      | own d00 =>
        simp only at h
        obtain ⟨a, o', f1, _, _, _⟩ := R.ownSlot (r2.drop) hl2 e2
        refine ⟨.ref a, f1, hi ((some v, .val x) :: τ) σ ρ1 F2 H1 _ hl2 r2 ?_⟩
        cases e3 : di ρ1 with
        | no => rw [e3] at h; exact h.elim
        | ex y ρ2 => rw [e3] at h; exact (PostX'.of hp h).drop1
        | ok oi ρ2 =>
          rw [e3] at h
          cases oi with
          | p _ => exact h.elim
          | t si =>
            cases si with
            | no => exact h.elim
            | own _ => exact h.elim
            | val di' =>
              cases di' with
              | int i =>
                simp only at h
                intro iv F3 H3 hl3 r3
                have qi : Rp c.K F3 iv (.int i) := r3.ok _ List.mem_cons_self
                cases qi
                have r4 := r3.drop
                have qx : Rp c.K F3 v x := r4.ok _ List.mem_cons_self
                have r5 : R c F3 (τ ++ σ.zip ρ2) H3 := r4.drop
                cases e4 : ρ2[k]? with
                | none => rw [e4] at h; exact h.elim
                | some s =>
                  rw [e4] at h
                  cases s with
                  | no => exact h.elim
                  | val _ => exact h.elim
                  | own d0 =>
                    cases d0 with
                    | list ds =>
                      simp only at h
                      cases e5 : ixN ds.length i with
                      | none => rw [e5] at h; exact h.elim
                      | some j =>
                        rw [e5] at h
                        obtain ⟨a', o2, g1, g2, g3, g4⟩ := r5.ownSlot hl3 e4
                        have ea : a' = a := by rw [f1] at g1; cases g1; rfl
                        subst ea
                        cases g4 with
                        | @lst xs _ g4 =>
                          exact ⟨a', xs, i, j, rfl, rfl, g3, by rw [g4.len]; exact e5, h σ F3 _ (by simpa using hl3) hp (r5.changeSlot f1 e4 (.lst (g4.set j qx)))⟩
                    | _ => exact h.elim
              | _ => exact h.elim
theorem ds_ixL {k : Nat} {x : Str} {e i : Expr} {d di : DE} {px tpos pos : Pos} (he : DX X c W e d) (hi : DX X c W i di) (hN : X.N[k]? = some x := by rfl) (hv : Vis X.env.scope x := by first | exact Or.inl rfl | exact Or.inr (Or.inl rfl) | exact Or.inr (Or.inr rfl)) (hd : (x == ("__debug__" : Str)) = false := by decide) (hcd : (x == ("__classdict__" : Str)) = false := by decide)
    (ha : ∀ v, assign (.Subscript (.Name x px) i tpos) X.env v = (do
      let ov ← holding [v] (eval (.Name x px) X.env)
      let iv ← holding [v, ov] (eval i X.env)
      standAt tpos
      holding [v, ov, iv] (setItem ov iv v)
      release [v, ov, iv] []) := by exact fun _ => rfl)
    (hs : swapsWithSole [.Subscript (.Name x px) i tpos] e pos.line X.env = pure false := by rfl) (hw : swappedStores [.Subscript (.Name x px) i tpos] e X.env = pure none := by rfl)
    (h1 : (assignEach [.Subscript (.Name x px) i tpos] X.env).map (·.2) = [assign (.Subscript (.Name x px) i tpos) X.env] := by rfl) :
    DSt X c W (.Assign [.Subscript (.Name x px) i tpos] e pos) (sIxL k d di) := by
  obtain ⟨t, p, r⟩ := he
  obtain ⟨t2, p2, r2⟩ := hi
  exact ⟨_, ps_asg p (pg_sub (pe_var hN hv hd hcd) p2 set_list ha) hs hw h1, rs_ixL r r2⟩

/-! ### x op= e -/
def sAug (i : Nat) (f : List D → VO) (d : DE) : DS := fun ρ => match ρ[i]? with
  | some (.val a) => (match d ρ with
    | .ok o ρ1 => (match res ρ1 o with
      | some b => (match f [a, b] with
        | .v z => .nx (ρ1.set i (.val z))
        | _ => .no)
      | none => .no)
    | .ex x ρ1 => .ex x ρ1
    | .no => .no)
  | _ => .no
theorem rs_aug {i : Nat} {te : TE} {d : DE} {r : R2} {f : List D → VO} (hn : Np c [i]) (hv : VOk c.K (r2 r) f) (he : RE c W te d) : RS c W (tAug i te r) (sAug i f d) := by
  intro τ σ ρ F H Dn hl hp rr h
  unfold sAug at h
  cases e : ρ[i]? with
  | none => rw [e] at h; exact h.elim
  | some s =>
    rw [e] at h
    cases s with
    | no => exact h.elim
    | own _ => exact h.elim
    | val a =>
      simp only at h
      obtain ⟨v, e1, q1⟩ := rr.rpSlot hl e
      refine ⟨v, e1, ?_⟩
      have rr1 : R c F (((some v, .val a) :: τ) ++ σ.zip ρ) H := rr.addV q1
      refine re_run he hl rr1 (fun o ρ1 e2 y F1 H1 hl1 hh r1 => ?_) (fun x ρ1 e => by rw [e] at h; exact (PostX'.of hp h).drop1) fun e => by rw [e] at h; exact h.elim
      rw [e2] at h
      simp only at h
      cases e3 : res ρ1 o with
      | none => rw [e3] at h; exact h.elim
      | some b =>
        rw [e3] at h
        simp only at h
        have qb := R.res1 hl1 hh r1 e3
        have r1' := r1.dropTemps
        have qa : Rp c.K F1 v a := r1'.ok _ List.mem_cons_self
        refine hv F1 H1 [v, y] [a, b] _ r1.sub (.cons (.inl qa) (.cons qb .nil)) ?_
        cases e4 : f [a, b] with
        | no => rw [e4] at h; exact h.elim
        | n _ => rw [e4] at h; exact h.elim
        | v z =>
          rw [e4] at h
          intro zv F2 H2 g qz
          have r2 : R c F2 (τ ++ σ.zip ρ1) H2 := R.grow (show R c F1 (τ ++ σ.zip ρ1) H1 from r1'.drop) g
          exact h _ F2 H2 (by simpa using hl1) (hp.set hn) (R.store hl1 (r2.addV qz))
theorem ds_aug {i : Nat} {x : Str} {e : Expr} {op : Operator} {r : R2} {f : List D → VO} {d : DE} {pos pos' : Pos} (hn : Np c [i]) (hN : X.N.Nodup) (ho : OpR X (inplaceOp op) r) (hv : VOk c.K (r2 r) f) (he : DX X c W e d) (hi : X.N[i]? = some x := by rfl) (hx : Loc X.env.scope x := by first | exact Or.inl rfl | exact Or.inr rfl)
    (hf : X.fn x = true ∨ X.env.scope.names.lookup x = some .local := by first | exact .inl rfl | exact .inr rfl) : DSt X c W (.AugAssign (.Name x pos') op e pos) (sAug i f d) := by
  obtain ⟨t, p, q⟩ := he
  exact ⟨_, ps_aug hN hi hx p ho hf, rs_aug hn hv q⟩

/-! ### if, return, while -/
def sIf (t : DB) (a b : DS) : DS := fun ρ => match t ρ with
  | .ok true ρ1 => a ρ1
  | .ok false ρ1 => b ρ1
  | .ex x ρ1 => .ex x ρ1
  | .no => .no
theorem rs_if {tc : TT} {t u : TS} {dc : DB} {a b : DS} (hc : RB c W tc dc) (ha : RS c W t a) (hb : RS c W u b) : RS c W (tIfS tc t u) (sIf dc a b) := by
  intro τ σ ρ F H Dn hl hp r h
  unfold sIf at h
  refine hc τ σ ρ F H _ hl r ?_
  cases e : dc ρ with
  | no => rw [e] at h; exact h.elim
  | ex x ρ1 => rw [e] at h; exact PostX'.of hp h
  | ok k ρ1 =>
    rw [e] at h
    intro F1 H1 hl1 r1
    cases k with
    | true => exact iteT (ha τ σ ρ1 F1 H1 Dn hl1 hp r1 h)
    | false => exact iteF (hb τ σ ρ1 F1 H1 Dn hl1 hp r1 h)
theorem ds_if {t : Expr} {a b : List Stmt} {dc : DB} {da db : DS} {pos : Pos} (hc : DT X c W t dc) (ha : DSs X c W a da) (hb : DSs X c W b db) : DSt X c W (.If t a b pos) (sIf dc da db) := by
  obtain ⟨t1, p1, r1⟩ := hc
  obtain ⟨t2, p2, r2⟩ := ha
  obtain ⟨t3, p3, r3⟩ := hb
  exact ⟨_, ps_if p1 p2 p3, rs_if r1 r2 r3⟩
def sRet (d : DE) : DS := fun ρ => match d ρ with
  | .ok o ρ1 => (match frz1 ρ1 o with
    | some (x, ρ2) => .rt x ρ2
    | none => .no)
  | .ex x ρ1 => .ex x ρ1
  | .no => .no
theorem rs_ret {te : TE} {d : DE} (he : RE c W te d) : RS c W (tRet te) (sRet d) := by
  intro τ σ ρ F H Dn hl hp r h
  unfold sRet at h
  refine re_run he hl r (fun o ρ1 e v F1 H1 hl1 hh r1 => ?_) (fun x ρ1 e => by rw [e] at h; exact PostX'.of hp h) fun e => by rw [e] at h; exact h.elim
  rw [e] at h
  simp only at h
  cases e1 : frz1 ρ1 o with
  | none => rw [e1] at h; exact h.elim
  | some p =>
    obtain ⟨x, ρ2⟩ := p
    rw [e1] at h
    obtain ⟨F2, s2, hl2, r2⟩ := R.frz1 hl1 hh r1 e1
    exact h v σ F2 H1 hl2 hp r2
theorem ds_ret {e : Expr} {d : DE} {pos : Pos} (he : DX X c W e d) : DSt X c W (.Return (some e) pos) (sRet d) := by
  obtain ⟨t, p, r⟩ := he
  exact ⟨_, ps_ret p, rs_ret r⟩
def sRetN : DS := fun ρ => .rt .none ρ
theorem ds_retN {pos : Pos} : DSt X c W (.Return none pos) sRetN := ⟨_, ps_retN, fun τ σ ρ F H Dn hl hp r h => h .non σ F H hl hp (r.addV .non)⟩

/-- while, by fuel -/
def whF (t : DB) (b : DS) : Nat → DS
  | 0, _ => .no
  | n + 1, ρ => match t ρ with
    | .ok true ρ1 => (match b ρ1 with
      | .nx ρ2 => whF t b n ρ2
      | .ct ρ2 => whF t b n ρ2
      | .bk ρ2 => .nx ρ2
      | .rt d ρ2 => .rt d ρ2
      | .ex x ρ2 => .ex x ρ2
      | .no => .no)
    | .ok false ρ1 => .nx ρ1
    | .ex x ρ1 => .ex x ρ1
    | .no => .no
open Classical in
noncomputable def sWh (t : DB) (b : DS) : DS := fun ρ => if h : ∃ n, whF t b n ρ ≠ .no then whF t b (Classical.choose h) ρ else .no
theorem whF_mono {t : DB} {b : DS} : ∀ (n : Nat) (ρ : Sl) (m : Nat), whF t b n ρ ≠ .no → n ≤ m → whF t b m ρ = whF t b n ρ
  | 0, ρ, m, h, _ => absurd rfl h
  | n + 1, ρ, 0, h, hm => absurd hm (by omega)
  | n + 1, ρ, m + 1, h, hm => by
    unfold whF at h ⊢
    cases e : t ρ with
    | no => rfl
    | ex x ρ1 => rfl
    | ok k ρ1 =>
      rw [e] at h
      cases k with
      | false => rfl
      | true =>
        simp only at h ⊢
        cases e2 : b ρ1 with
        | nx ρ2 => rw [e2] at h; exact whF_mono n ρ2 m h (by omega)
        | ct ρ2 => rw [e2] at h; exact whF_mono n ρ2 m h (by omega)
        | _ => rfl
theorem sWh_of {t : DB} {b : DS} {n : Nat} {ρ : Sl} (h : whF t b n ρ ≠ .no) : sWh t b ρ = whF t b n ρ := by
  have hx : ∃ n, whF t b n ρ ≠ .no := ⟨n, h⟩
  unfold sWh
  rw [dif_pos hx]
  have hc := Classical.choose_spec hx
  rcases Nat.le_total n (Classical.choose hx) with z | z
  · exact whF_mono n ρ _ h z
  · exact (whF_mono _ ρ n hc z).symm
theorem sWh_ex {t : DB} {b : DS} {ρ : Sl} (h : sWh t b ρ ≠ .no) : ∃ n, sWh t b ρ = whF t b n ρ := by
  by_cases hx : ∃ n, whF t b n ρ ≠ .no
  · obtain ⟨n, hn⟩ := hx
    exact ⟨n, sWh_of hn⟩
  · unfold sWh at h
    rw [dif_neg hx] at h
    exact absurd rfl h
/-- one turn -/
theorem sWh_eq (t : DB) (b : DS) (ρ : Sl) : sWh t b ρ = (match t ρ with
    | .ok true ρ1 => (match b ρ1 with
      | .nx ρ2 => sWh t b ρ2
      | .ct ρ2 => sWh t b ρ2
      | .bk ρ2 => .nx ρ2
      | .rt d ρ2 => .rt d ρ2
      | .ex x ρ2 => .ex x ρ2
      | .no => .no)
    | .ok false ρ1 => .nx ρ1
    | .ex x ρ1 => .ex x ρ1
    | .no => .no) := by
  have go : ∀ ρ2, (∀ n, whF t b (n + 1) ρ = whF t b n ρ2) → sWh t b ρ = sWh t b ρ2 := fun ρ2 hn => by
    by_cases hx : ∃ n, whF t b n ρ2 ≠ .no
    · obtain ⟨n, h⟩ := hx
      rw [sWh_of h, sWh_of (n := n + 1) (by rw [hn]; exact h), hn]
    · have hy : ¬ ∃ n, whF t b n ρ ≠ .no := fun ⟨n, h⟩ => by
        cases n with
        | zero => exact h rfl
        | succ n => exact hx ⟨n, by rw [← hn]; exact h⟩
      unfold sWh
      rw [dif_neg hx, dif_neg hy]
  have fin : ∀ o, (∀ n, whF t b (n + 1) ρ = o) → sWh t b ρ = o := fun o hn => by
    by_cases ho : o = .no
    · subst ho
      have hy : ¬ ∃ n, whF t b n ρ ≠ .no := fun ⟨n, h⟩ => by
        cases n with
        | zero => exact h rfl
        | succ n => exact h (hn n)
      unfold sWh
      rw [dif_neg hy]
    · rw [sWh_of (n := 1) (by rw [hn]; exact ho), hn]
  cases e : t ρ with
  | no => exact fin _ fun n => by unfold whF; rw [e]
  | ex x ρ1 => exact fin _ fun n => by unfold whF; rw [e]
  | ok k ρ1 =>
    cases k with
    | false => exact fin _ fun n => by unfold whF; rw [e]
    | true =>
      cases e2 : b ρ1 with
      | nx ρ2 => simp only; rw [e2]; exact go ρ2 fun n => by rw [whF, e]; simp only; rw [e2]
      | ct ρ2 => simp only; rw [e2]; exact go ρ2 fun n => by rw [whF, e]; simp only; rw [e2]
      | _ => simp only; rw [e2]; exact fin _ fun n => by rw [whF, e]; simp only; rw [e2]
theorem rs_while {tc : TT} {tb : TS} {t : DB} {b : DS} (hc : RB c W tc t) (hb : RS c W tb b) : RS c W (tWhile tc tb) (sWh t b) := by
  intro τ σ ρ F H Dn hl hp r h
  have hne : sWh t b ρ ≠ .no := fun e => by rw [e] at h; exact h.elim
  obtain ⟨n, hn⟩ := sWh_ex hne
  rw [hn] at h
  refine ⟨fun m σ H => ∃ ρ F, σ.length = ρ.length ∧ Pin c σ ∧ R c F (τ ++ σ.zip ρ) H ∧ PostS c W τ Dn (whF t b m ρ), ⟨n, ρ, F, hl, hp, r, h⟩, ?_⟩
  rintro m σ H ⟨ρ, F, hl, hp, r, h⟩
  cases m with
  | zero => exact h.elim
  | succ m =>
    rw [whF] at h
    refine hc τ σ ρ F H _ hl r ?_
    cases e : t ρ with
    | no => rw [e] at h; exact h.elim
    | ex x ρ1 => rw [e] at h; exact PostX'.of hp h
    | ok k ρ1 =>
      rw [e] at h
      intro F1 H1 hl1 r1
      cases k with
      | false => exact iteF (h σ F1 H1 hl1 hp r1)
      | true =>
        refine iteT ⟨fun σ H => ∃ ρ F, σ.length = ρ.length ∧ Pin c σ ∧ R c F (τ ++ σ.zip ρ) H ∧ PostS c W τ Dn (whF t b m ρ), fun σ' H' q => ⟨m, Nat.lt_succ_self m, q⟩, hb τ σ ρ1 F1 H1 _ hl1 hp r1 ?_⟩
        simp only at h
        cases e2 : b ρ1 with
        | nx ρ2 => rw [e2] at h; exact fun σ2 F2 H2 hl2 hp2 r2 => ⟨ρ2, F2, hl2, hp2, r2, h⟩
        | ct ρ2 => rw [e2] at h; exact fun σ2 F2 H2 hl2 hp2 r2 => ⟨ρ2, F2, hl2, hp2, r2, h⟩
        | bk ρ2 => rw [e2] at h; exact h
        | rt d ρ2 => rw [e2] at h; exact h
        | ex x ρ2 => rw [e2] at h; exact h
        | no => rw [e2] at h; exact h.elim
theorem ds_while {t : Expr} {body : List Stmt} {dt : DB} {db : DS} {pos : Pos} (hp : PassesOwn (model X.prog X.w) X.A X.env X.xe) (hc : DT X c W t dt) (hb : DSs X c W body db) : DSt X c W (.While t body [] pos) (sWh dt db) := by
  obtain ⟨t1, p1, r1⟩ := hc
  obtain ⟨t2, p2, r2⟩ := hb
  exact ⟨_, ps_while hp p1 p2, rs_while r1 r2⟩

/-! ### what is walked -/
def JOk (K : PySem.W.Frag) (J : It) (v : V) (d0 : D) (ds : List D) : Prop :=
  ∀ F H, Same F H → Rp K F v d0 → (∀ (i : Nat) (d : D), ds[i]? = some d → J.go i H ∧ ∀ x H', J.yld i H x H' → ∃ F', Grow F H F' H' ∧ Rp K F' x d) ∧ J.stop ds.length H
inductive IO where
  | ok (d0 : D) (ds : List D) (ρ : Sl)
  | ex (x : Exn) (ρ : Sl)
  | no
abbrev DI := Sl → IO
def PostI (c : Cfg) (W : XK) (τ : Cells) (σ : St) (Q : It → Hp → Prop) : IO → Prop
  | .ok d0 ds ρ => ∀ J v F H, σ.length = ρ.length → R c F ((some v, .val d0) :: (τ ++ σ.zip ρ)) H → JOk c.K J v d0 ds → Q J H
  | .ex x ρ => PostX c W τ σ x ρ
  | .no => False
def RI (c : Cfg) (W : XK) (wi : TI) (d : DI) : Prop := ∀ τ σ ρ F H Q, σ.length = ρ.length → R c F (τ ++ σ.zip ρ) H → PostI c W τ σ Q (d ρ) → wi σ H Q
def DXI (X : Cx) (c : Cfg) (W : XK) (tg iter : Expr) (d : DI) : Prop := ∃ wi, PI X tg iter wi ∧ RI c W wi d
/-- a list, a tuple, a text -/
def itemsD : D → Option (List D)
  | .list ds => some ds
  | .tuple ds => some ds
  | .str z => some (z.cps.toList.map fun c => .str ⟨#[c]⟩)
  | _ => none
def iAny (K : PySem.W.Frag) (te : TE) : TI := fun σ H R => te σ H fun x H1 => (∃ a, x = .ref a ∧ (∃ xs, SqL K H1 a xs) ∧ R (Itl K a) H1) ∨ (∃ a, x = .ref a ∧ (∃ xs, SqT K H1 a xs) ∧ R (Itt K a) H1) ∨ ∃ z, x = .str z ∧ R (Its z) H1
theorem pi_any {tg e : Expr} {te : TE} (he : PE X e te) : PI X tg e (iAny X.K te) := by
  refine ⟨fun pins s σ H R I h => ?_⟩
  refine thn (he.run pins s σ H _ I h) fun v s1 ⟨x, H1, I1, r1, q1⟩ => ?_
  rcases q1 with ⟨a, e, ⟨xs, hq⟩, q⟩ | ⟨a, e, ⟨xs, hq⟩, q⟩ | ⟨z, e, q⟩
  · subst e
    cases r1
    obtain ⟨its, rv, p, hz⟩ := I1.list hq
    refine wpAny_pyIter_list p.isList ?_
    refine ⟨s1.heap.objs.size, [s1.heap.objs.size], _, _, H1, rfl, I1.kept (t' := s1.toks) fun b o e => Heap.get?_push_of_some _ e, turn_list a _, ⟨_, Heap.get?_push_size _ rfl, rfl, rfl⟩, fun b hb => ?_, q⟩
    have e : b = s1.heap.objs.size := by simpa using hb
    subst e
    exact I1.fpOk (Nat.le_refl _) (I1.hok.fresh (Nat.le_refl _))
  · subst e
    cases r1
    obtain ⟨its, rv, p, hz⟩ := I1.tuple hq
    refine wpAny_pyIter_tuple (show s1.heap.IsTuple a its.toArray from p) ?_
    refine ⟨s1.heap.objs.size, [s1.heap.objs.size], _, _, H1, rfl, I1.kept (t' := s1.toks) fun b o e => Heap.get?_push_of_some _ e, turn_tuple a _, ⟨_, Heap.get?_push_size _ rfl, rfl, rfl⟩, fun b hb => ?_, q⟩
    have e : b = s1.heap.objs.size := by simpa using hb
    subst e
    exact I1.fpOk (Nat.le_refl _) (I1.hok.fresh (Nat.le_refl _))
  · subst e
    obtain ⟨t, rfl⟩ := r1
    cases ha : z.cps.all (· < 128)
    · exact wpAny_pyIter_wide ha (pi_one (tk := s1.toks) I1 _ (turn_str _ z t "str_iterator" (.inr rfl)) ⟨_, Heap.get?_push_size _ rfl, rfl, rfl⟩ q)
    · exact wpAny_pyIter_ascii ha (pi_one (tk := s1.toks) I1 _ (turn_str _ z t "str_ascii_iterator" (.inl rfl)) ⟨_, Heap.get?_push_size _ rfl, rfl, rfl⟩ q)
def dIt (d : DE) : DI := fun ρ => match d ρ with
  | .ok o ρ1 => (match frz1 ρ1 o with
    | some (x, ρ2) => (match itemsD x with
      | some ds => .ok x ds ρ2
      | none => .no)
    | none => .no)
  | .ex x ρ1 => .ex x ρ1
  | .no => .no
theorem jok_list {K : PySem.W.Frag} {a : Addr} {ds : List D} : JOk K (Itl K a) (.ref a) (.list ds) ds := by
  intro F H s rr
  obtain ⟨a', xs, e, h1, q⟩ := Rr.lst s (.inl rr)
  cases e
  refine ⟨fun i d hd => ?_, xs, .inl h1, by rw [q.len]; exact Nat.le_refl _⟩
  obtain ⟨v, e1, q1⟩ := q.get hd
  refine ⟨⟨xs, v, .inl h1, e1⟩, fun x H' y => ?_⟩
  obtain ⟨rfl, y⟩ := y
  have e2 := y xs (.inl h1)
  rw [e1] at e2
  cases e2
  exact ⟨F, Grow.refl s, q1⟩
theorem jok_tup {K : PySem.W.Frag} {a : Addr} {ds : List D} : JOk K (Itt K a) (.ref a) (.tuple ds) ds := by
  intro F H s rr
  obtain ⟨a', xs, e, h1, q⟩ := Rr.tup s (.inl rr)
  cases e
  refine ⟨fun i d hd => ?_, xs, h1, by rw [q.len]; exact Nat.le_refl _⟩
  obtain ⟨v, e1, q1⟩ := q.get hd
  refine ⟨⟨xs, v, h1, e1⟩, fun x H' y => ?_⟩
  obtain ⟨rfl, y⟩ := y
  have e2 := y xs h1
  rw [e1] at e2
  cases e2
  exact ⟨F, Grow.refl s, q1⟩
theorem jok_str {K : PySem.W.Frag} {z : Str} {v : V} {d0 : D} : JOk K (Its z) v d0 (z.cps.toList.map fun c => .str ⟨#[c]⟩) := by
  intro F H s rr
  refine ⟨fun i d hd => ?_, ?_⟩
  · rw [List.getElem?_map] at hd
    cases e : z.cps.toList[i]? with
    | none => rw [e] at hd; cases hd
    | some ch =>
      rw [e] at hd
      cases hd
      have e' : z.cps[i]? = some ch := by simpa using e
      refine ⟨(Array.getElem?_eq_some_iff.mp e').1, fun x H' y => ?_⟩
      obtain ⟨rfl, ch', y1, rfl⟩ := y
      rw [e'] at y1
      cases y1
      exact ⟨F, Grow.refl s, .str _⟩
  · show z.cps.size ≤ _
    simp
theorem ri_any {te : TE} {d : DE} (he : RE c W te d) : RI c W (iAny c.K te) (dIt d) := by
  intro τ σ ρ F H Q hl r h
  unfold dIt at h
  refine re_run he hl r (fun o ρ1 e v F1 H1 hl1 hh r1 => ?_) (fun x ρ1 e => by rw [e] at h; exact h) fun e => by rw [e] at h; exact h.elim
  rw [e] at h
  simp only at h
  cases e1 : frz1 ρ1 o with
  | none => rw [e1] at h; exact h.elim
  | some p =>
    obtain ⟨x, ρ2⟩ := p
    rw [e1] at h
    simp only at h
    obtain ⟨F2, s2, hl2, r2⟩ := R.frz1 hl1 hh r1 e1
    have q : Rp c.K F2 v x := r2.ok _ List.mem_cons_self
    have q : Rr c.K F2 H1 v x := .inl q
    cases x with
    | list ds =>
      obtain ⟨a, xs, rfl, h1, q1⟩ := q.lst r2.sub
      exact .inl ⟨a, rfl, ⟨xs, .inl h1⟩, h _ _ F2 H1 hl2 r2 jok_list⟩
    | tuple ds =>
      obtain ⟨a, xs, rfl, h1, q1⟩ := q.tup r2.sub
      exact .inr (.inl ⟨a, rfl, ⟨xs, h1⟩, h _ _ F2 H1 hl2 r2 jok_tup⟩)
    | str z =>
      cases q.str
      exact .inr (.inr ⟨z, rfl, h _ _ F2 H1 hl2 r2 jok_str⟩)
    | _ => exact h.elim
theorem di_any {tg e : Expr} {d : DE} (hK : c.K = X.K) (he : DX X c W e d) : DXI X c W tg e (dIt d) := by
  obtain ⟨t, p, r⟩ := he
  have q := ri_any r
  rw [hK] at q
  exact ⟨_, pi_any p, q⟩
/-- range(n), range(a, b) -/
def rangeD (a b : Int) : List D := (List.range (b - a).toNat).map fun k => .int (a + (k : Nat))
def small (i : Int) : Bool := decide (-100000 ≤ i) && decide (i ≤ 100000)
theorem small_le {i : Int} (h : small i = true) : -100000 ≤ i ∧ i ≤ 100000 := by simpa [small, Bool.and_eq_true] using h
theorem jok_range {K : PySem.W.Frag} {a b : Int} {v : V} {d0 : D} : JOk K (Itr a (b - a).toNat) v d0 (rangeD a b) := by
  intro F H s rr
  refine ⟨fun i d hd => ?_, ?_⟩
  · unfold rangeD at hd
    rw [List.getElem?_map] at hd
    cases e : (List.range (b - a).toNat)[i]? with
    | none => rw [e] at hd; cases hd
    | some k =>
      rw [e] at hd
      cases hd
      have hk := List.getElem?_eq_some_iff.mp e
      obtain ⟨h1, h2⟩ := hk
      rw [List.getElem_range] at h2
      subst h2
      refine ⟨(by rw [List.length_range] at h1; exact h1), fun x H' y => ?_⟩
      obtain ⟨rfl, rfl⟩ := y
      exact ⟨F, Grow.refl s, .int _⟩
  · show (b - a).toNat ≤ _
    simp [rangeD]
def dRg1 (da : DAs) : DI := fun ρ => match da ρ with
  | .ok os ρ1 => (match resA ρ1 os with
    | some [.int n] => if small n = true then .ok .none (rangeD 0 n) ρ1 else .no
    | _ => .no)
  | .ex x ρ1 => .ex x ρ1
  | .no => .no
def dRg2 (da : DAs) : DI := fun ρ => match da ρ with
  | .ok os ρ1 => (match resA ρ1 os with
    | some [.int a, .int b] => if (small a && small b) = true then .ok .none (rangeD a b) ρ1 else .no
    | _ => .no)
  | .ex x ρ1 => .ex x ρ1
  | .no => .no
theorem ri_rg1 {ta : TA} {da : DAs} (ha : RA c W ta da) : RI c W (iRng1 ta) (dRg1 da) := by
  intro τ σ ρ F H Q hl r h
  unfold dRg1 at h
  refine ha τ σ ρ F H _ hl r ?_
  cases e : da ρ with
  | no => rw [e] at h; exact h.elim
  | ex x ρ1 => rw [e] at h; exact h
  | ok os ρ1 =>
    rw [e] at h
    intro vs F1 H1 hl1 hh r1
    simp only at h
    cases e1 : resA ρ1 os with
    | none => rw [e1] at h; exact h.elim
    | some ds =>
      have q := R.resA hl1 r1 os vs ds (fun _ x => x) hh e1
      rw [e1] at h
      match ds, h, q with
      | [.int n], h, .cons q1 .nil =>
        cases q1.int
        simp only at h
        split at h
        · rename_i hz
          have hz := small_le hz
          refine ⟨n, rfl, by omega, by omega, ?_⟩
          have j : JOk c.K (Itr 0 n.toNat) .non .none (rangeD 0 n) := by
            have := jok_range (K := c.K) (a := 0) (b := n) (v := .non) (d0 := .none)
            rwa [Int.sub_zero] at this
          exact h _ .non F1 H1 hl1 (r1.dropTemps.addV .non) j
        · exact h.elim
theorem ri_rg2 {ta : TA} {da : DAs} (ha : RA c W ta da) : RI c W (iRng2 ta) (dRg2 da) := by
  intro τ σ ρ F H Q hl r h
  unfold dRg2 at h
  refine ha τ σ ρ F H _ hl r ?_
  cases e : da ρ with
  | no => rw [e] at h; exact h.elim
  | ex x ρ1 => rw [e] at h; exact h
  | ok os ρ1 =>
    rw [e] at h
    intro vs F1 H1 hl1 hh r1
    simp only at h
    cases e1 : resA ρ1 os with
    | none => rw [e1] at h; exact h.elim
    | some ds =>
      have q := R.resA hl1 r1 os vs ds (fun _ x => x) hh e1
      rw [e1] at h
      match ds, h, q with
      | [.int a, .int b], h, .cons q1 (.cons q2 .nil) =>
        cases q1.int
        cases q2.int
        simp only at h
        split at h
        · rename_i hz
          obtain ⟨z1, z2⟩ := Bool.and_eq_true_iff.mp hz
          have z1 := small_le z1
          have z2 := small_le z2
          exact ⟨a, b, rfl, ⟨by omega, by omega, by omega, by omega⟩, h _ .non F1 H1 hl1 (r1.dropTemps.addV .non) jok_range⟩
        · exact h.elim
theorem di_rg1 {tg a : Expr} {da : DAs} {p pos : Pos} (hm : X.mg "range" = none) (ha : DXA X c W [a] da) (hg : Gl X "range" := by rfl) (hs : starEach [a] X.env = [(false, eval a X.env)] := by rfl) : DXI X c W tg (.Call (.Name "range" p) [a] [] pos) (dRg1 da) := by
  obtain ⟨t, q, r⟩ := ha
  exact ⟨_, pi_range1 hg hm q hs, ri_rg1 r⟩
theorem di_rg2 {tg a b : Expr} {da : DAs} {p pos : Pos} (hm : X.mg "range" = none) (ha : DXA X c W [a, b] da) (hg : Gl X "range" := by rfl) (hs : starEach [a, b] X.env = [(false, eval a X.env), (false, eval b X.env)] := by rfl) (hs2 : starEach [b] X.env = [(false, eval b X.env)] := by rfl) : DXI X c W tg (.Call (.Name "range" p) [a, b] [] pos) (dRg2 da) := by
  obtain ⟨t, q, r⟩ := ha
  exact ⟨_, pi_range2 hg hm q hs hs2, ri_rg2 r⟩

/-! ### for -/
def forL (dg : DG) (b : DS) : List D → DS
  | [], ρ => .nx ρ
  | d :: ds, ρ => match dg d ρ with
    | some ρ1 => (match b ρ1 with
      | .nx ρ2 => forL dg b ds ρ2
      | .ct ρ2 => forL dg b ds ρ2
      | .bk ρ2 => .nx ρ2
      | .rt d ρ2 => .rt d ρ2
      | .ex x ρ2 => .ex x ρ2
      | .no => .no)
    | none => .no
def sFor (di : DI) (dg : DG) (b : DS) : DS := fun ρ => match di ρ with
  | .ok _ ds ρ1 => forL dg b ds ρ1
  | .ex x ρ1 => .ex x ρ1
  | .no => .no
theorem PostS.held {τ : Cells} {Dn Dn' : Ends} {y : Option V × SV} {o : SO} (h : PostS c W τ Dn o)
    (h1 : ∀ ρ (σ : St) F H, o = .nx ρ ∨ o = .ct ρ → σ.length = ρ.length → Pin c σ → R c F ((y :: τ) ++ σ.zip ρ) H → (o = .nx ρ → Dn'.nx σ H) ∧ (o = .ct ρ → Dn'.ct σ H)) (h2 : ∀ σ H, Dn.bk σ H → Dn'.bk σ H) (h3 : ∀ v H, Dn.rt v H → Dn'.rt v H) : PostS c W (y :: τ) Dn' o := by
  cases o with
  | nx ρ => exact fun σ F H hl hp r => (h1 ρ σ F H (.inl rfl) hl hp r).1 rfl
  | ct ρ => exact fun σ F H hl hp r => (h1 ρ σ F H (.inr rfl) hl hp r).2 rfl
  | bk ρ => exact fun σ F H hl hp r => h2 _ _ (h σ F H hl hp (show R c F (y :: (τ ++ σ.zip ρ)) H from r).drop)
  | rt d ρ => exact fun v σ F H hl hp r => h3 _ _ (h v σ F H hl hp (R.drop (R.permL (show R c F ((some v, .val d) :: (y :: (τ ++ σ.zip ρ))) H from r) (.swap _ _ _))))
  | ex x ρ => exact fun cls dd σ F H hl hp xr r => h cls dd σ F H hl hp xr (show R c F (y :: (τ ++ σ.zip ρ)) H from r).drop
  | no => exact h
theorem rs_for {wi : TI} {g : TG} {tb : TS} {di : DI} {dg : DG} {b : DS} {is : List Nat} (hn : Np c is) (hi : RI c W wi di) (hg : RG c g dg is) (hb : RS c W tb b) : RS c W (tFor wi g tb) (sFor di dg b) := by
  intro τ σ ρ F H Dn hl hp r h
  unfold sFor at h
  refine hi τ σ ρ F H _ hl r ?_
  cases e : di ρ with
  | no => rw [e] at h; exact h.elim
  | ex x ρ1 => rw [e] at h; exact PostX'.of hp h
  | ok d0 ds ρ1 =>
    rw [e] at h
    intro J v F1 H1 hl1 r1 hj
    simp only at h
    refine ⟨fun i m σ' H' => ∃ ρ' F' rest, σ'.length = ρ'.length ∧ Pin c σ' ∧ R c F' (((some v, .val d0) :: τ) ++ σ'.zip ρ') H' ∧ rest = ds.drop i ∧ i ≤ ds.length ∧ m = ds.length - i ∧ PostS c W τ Dn (forL dg b rest ρ'),
      ⟨ds.length, ρ1, F1, ds, hl1, hp, r1, by simp, Nat.zero_le _, by simp, h⟩, ?_⟩
    rintro i m σ' H' ⟨ρ', F', rest, hl', hp', r', hr, hile, hm, h'⟩
    have qv : Rp c.K F' v d0 := r'.ok _ List.mem_cons_self
    cases rest with
    | nil =>
      have hi : i = ds.length := by
        have : (ds.drop i).length = 0 := by rw [← hr]; rfl
        simp at this
        omega
      subst hi
      exact .inl ⟨(hj F' H' r'.sub qv).2, h' σ' F' H' hl' hp' (show R c F' ((some v, .val d0) :: (τ ++ σ'.zip ρ')) H' from r').drop⟩
    | cons d rest =>
      have hdi : ds[i]? = some d := by
        have : (ds.drop i)[0]? = some d := by rw [← hr]; rfl
        simpa using this
      have hilt : i < ds.length := (List.getElem?_eq_some_iff.mp hdi).1
      have hr2 : rest = ds.drop (i + 1) := by
        have : (ds.drop i).tail = rest := by rw [← hr]; rfl
        rw [← this, List.tail_drop]
      unfold forL at h'
      obtain ⟨go, yl⟩ := (hj F' H' r'.sub qv).1 i d hdi
      refine .inr ⟨go, fun σ2 H2 => ∃ ρ2 F2, σ2.length = ρ2.length ∧ Pin c σ2 ∧ R c F2 (((some v, .val d0) :: τ) ++ σ2.zip ρ2) H2 ∧ PostS c W τ Dn (forL dg b rest ρ2),
        fun σ2 H2 ⟨ρ2, F2, a1, a2, a3, a5⟩ => ⟨ds.length - (i + 1), by omega, ρ2, F2, rest, a1, a2, a3, hr2, by omega, rfl, a5⟩, fun x H2 y => ?_⟩
      obtain ⟨F2, g2, qx⟩ := yl x H2 y
      have r2 := (r'.grow g2).addV qx
      refine hg ((some v, .val d0) :: τ) σ' ρ' F2 H2 x d _ hl' r2 ?_
      cases e2 : dg d ρ' with
      | none => rw [e2] at h'; exact h'.elim
      | some ρ2 =>
        rw [e2] at h'
        intro σ3 F3 H3 hl3 o3 r3
        simp only at h'
        refine hb ((some v, .val d0) :: τ) σ3 ρ2 F3 H3 _ hl3 (hp'.out hn o3) r3 ?_
        cases e3 : b ρ2 with
        | nx ρ3 =>
          rw [e3] at h'
          exact fun σ4 F4 H4 hl4 hp4 r4 => ⟨ρ3, F4, hl4, hp4, r4, h'⟩
        | ct ρ3 =>
          rw [e3] at h'
          exact fun σ4 F4 H4 hl4 hp4 r4 => ⟨ρ3, F4, hl4, hp4, r4, h'⟩
        | bk ρ3 =>
          rw [e3] at h'
          exact fun σ4 F4 H4 hl4 hp4 r4 => h' σ4 F4 H4 hl4 hp4 (show R c F4 ((some v, .val d0) :: (τ ++ σ4.zip ρ3)) H4 from r4).drop
        | rt d' ρ3 =>
          rw [e3] at h'
          exact fun u σ4 F4 H4 hl4 hp4 r4 => h' u σ4 F4 H4 hl4 hp4 (R.drop (R.permL (show R c F4 ((some u, .val d') :: ((some v, .val d0) :: (τ ++ σ4.zip ρ3))) H4 from r4) (.swap _ _ _)))
        | ex x' ρ3 =>
          rw [e3] at h'
          exact fun cls dd σ4 F4 H4 hl4 hp4 xr r4 => h' cls dd σ4 F4 H4 hl4 hp4 xr (show R c F4 ((some v, .val d0) :: (τ ++ σ4.zip ρ3)) H4 from r4).drop
        | no => rw [e3] at h'; exact h'.elim
theorem ds_for {tg iter : Expr} {body : List Stmt} {di : DI} {dg : DG} {db : DS} {is : List Nat} {pos : Pos} (hn : Np c is) (hp : PassesOwn (model X.prog X.w) X.A X.env X.xe) (hc : X.calm = true) (hi : DXI X c W tg iter di) (hg : DXG X c tg dg is) (hb : DSs X c W body db)
    (hs : ∀ x, foldedSetIterable iter X.env x = pure x := by exact fun _ => rfl) : DSt X c W (.For tg iter body [] pos) (sFor di dg db) := by
  obtain ⟨wi, p1, r1⟩ := hi
  obtain ⟨g, p2, r2⟩ := hg
  obtain ⟨t, p3, r3⟩ := hb
  exact ⟨_, ps_for hp hc p1 p2 p3 hs, rs_for hn r1 r2 r3⟩
end
end PD

set_option Elab.async false
set_option linter.all false
set_option maxRecDepth 100000
set_option maxHeartbeats 2000000
/-! PdF: list comprehensions. -/
namespace PD
open PySem L2
/-- in a comprehension no exception leaves -/
abbrev WF : XK := fun _ _ _ => False
def wipeR (ρ : Sl) : List Nat → Sl
  | [] => ρ
  | v :: vs => (wipeR ρ vs).set v .no
def holdC (σ : St) (ρ : Sl) : List Nat → Cells
  | [] => []
  | v :: vs => ((wipe σ vs).getD v none, (wipeR ρ vs).getD v .no) :: holdC σ ρ vs
def restR (ρ : Sl) (ρ' : Sl) : List Nat → Sl
  | [] => ρ'
  | v :: vs => restR ρ (ρ'.set v ((wipeR ρ vs).getD v .no)) vs
theorem wipeR_length (ρ : Sl) : ∀ vs : List Nat, (wipeR ρ vs).length = ρ.length
  | [] => rfl
  | v :: vs => by unfold wipeR; rw [List.length_set, wipeR_length ρ vs]
theorem restR_length (ρ : Sl) : ∀ (vs : List Nat) (ρ' : Sl), (restR ρ ρ' vs).length = ρ'.length
  | [], _ => rfl
  | v :: vs, ρ' => by unfold restR; rw [restR_length ρ vs]; simp
section
variable {X : Cx} {c : Cfg} {W : XK} {F H : Hp}
theorem R.wipe1 {τ : Cells} {σ : St} {ρ : Sl} {v : Nat} (hl : σ.length = ρ.length) (r : R c F (τ ++ σ.zip ρ) H) : R c F (((σ.getD v none, ρ.getD v .no) :: τ) ++ (σ.set v none).zip (ρ.set v .no)) H := by
  by_cases hv : v < σ.length
  · have hv2 : v < ρ.length := by omega
    obtain ⟨rest, p1, p2⟩ := zip_set2 (σ := σ) (ρ := ρ) (i := v) (s := ρ[v]) (s' := .no) (v := σ[v]) (v' := none) (by simp [hv]) (by simp [hv2])
    have e1 : σ.getD v none = σ[v] := by simp [List.getD, hv]
    have e2 : ρ.getD v .no = ρ[v] := by simp [List.getD, hv2]
    rw [e1, e2]
    have r1 : R c F (τ ++ ((σ[v], ρ[v]) :: rest)) H := r.permL (p1.append_left τ)
    have r2 : R c F ((none, .no) :: (τ ++ ((σ[v], ρ[v]) :: rest))) H := r1.addN
    refine r2.permL ?_
    have q1 : (τ ++ ((σ[v], ρ[v]) :: rest)).Perm ((σ[v], ρ[v]) :: (τ ++ rest)) := List.perm_middle
    have q2 : ((none, SV.no) :: (τ ++ ((σ[v], ρ[v]) :: rest))).Perm ((σ[v], ρ[v]) :: ((none, SV.no) :: (τ ++ rest))) := (q1.cons _).trans (.swap _ _ _)
    have q3 : (τ ++ (σ.set v none).zip (ρ.set v .no)).Perm ((none, SV.no) :: (τ ++ rest)) := (p2.append_left τ).trans List.perm_middle
    exact q2.trans (q3.symm.cons _)
  · have e1 : σ.getD v none = none := by simp [List.getD, List.getElem?_eq_none (show σ.length ≤ v by omega)]
    have e2 : ρ.getD v .no = .no := by simp [List.getD, List.getElem?_eq_none (show ρ.length ≤ v by omega)]
    rw [e1, e2, List.set_eq_of_length_le (by omega), List.set_eq_of_length_le (by omega)]
    exact r.addN
theorem R.unwipe1 {τ : Cells} {σ : St} {ρ : Sl} {v : Nat} {s : SV} (hl : σ.length = ρ.length) (r : R c F (((σ.getD v none, s) :: τ) ++ (σ.set v none).zip ρ) H) : R c F (τ ++ σ.zip (ρ.set v s)) H := by
  by_cases hv : v < σ.length
  · have hv2 : v < ρ.length := by omega
    have e1 : σ.getD v none = σ[v] := by simp [List.getD, hv]
    rw [e1] at r
    obtain ⟨rest, p1, p2⟩ := zip_set2 (σ := σ.set v none) (ρ := ρ) (i := v) (s := ρ[v]) (s' := s) (v := none) (v' := σ[v]) (by simp [hv]) (by simp [hv2])
    have e3 : (σ.set v none).set v σ[v] = σ := by
      rw [List.set_set]; exact List.set_getElem_self hv
    rw [e3] at p2
    have r1 : R c F ((σ[v], s) :: (τ ++ ((none, ρ[v]) :: rest))) H := r.permL ((p1.append_left τ).cons _)
    have r2 : R c F ((σ[v], s) :: (τ ++ rest)) H := r1.subl (((List.sublist_cons_self _ rest).append_left τ).cons_cons _)
    exact r2.permL (List.perm_middle.symm.trans ((p2.symm).append_left τ))
  · rw [List.set_eq_of_length_le (by omega)] at r
    rw [List.set_eq_of_length_le (by omega)]
    exact R.drop r
theorem R.wipeAll {σ : St} {ρ : Sl} (hl : σ.length = ρ.length) : ∀ (vs : List Nat) (τ : Cells), R c F (τ ++ σ.zip ρ) H → R c F ((holdC σ ρ vs ++ τ) ++ (wipe σ vs).zip (wipeR ρ vs)) H
  | [], τ, r => r
  | v :: vs, τ, r => by
    have r1 := R.wipeAll hl vs τ r
    exact R.wipe1 (v := v) (by rw [wipe_length, wipeR_length]; exact hl) r1
theorem R.unwipeAll {σ : St} {ρ : Sl} (hl : σ.length = ρ.length) : ∀ (vs : List Nat) (τ : Cells) (ρ' : Sl), σ.length = ρ'.length → R c F ((holdC σ ρ vs ++ τ) ++ (wipe σ vs).zip ρ') H → R c F (τ ++ σ.zip (restR ρ ρ' vs)) H
  | [], τ, ρ', _, r => r
  | v :: vs, τ, ρ', hl', r => by
    have r1 : R c F ((((wipe σ vs).getD v none, (wipeR ρ vs).getD v .no) :: (holdC σ ρ vs ++ τ)) ++ ((wipe σ vs).set v none).zip ρ') H := r
    exact R.unwipeAll hl vs τ _ (by simpa using hl') (R.unwipe1 (by rw [wipe_length]; exact hl') r1)
theorem R.forget {σ : St} {ρ : Sl} (hl : σ.length = ρ.length) (vs : List Nat) (τ : Cells) (r : R c F (τ ++ σ.zip ρ) H) : R c F (τ ++ (wipe σ vs).zip (wipeR ρ vs)) H := by
  have q := R.wipeAll hl vs τ r
  rw [List.append_assoc] at q
  exact q.dropTemps
theorem wipe_in {σ : St} {j : Nat} : ∀ {vs : List Nat}, j ∈ vs → (wipe σ vs)[j]? = if j < σ.length then some none else none
  | v :: vs, h => by
    show ((wipe σ vs).set v none)[j]? = _
    by_cases e : v = j
    · subst e
      by_cases hv : v < σ.length
      · rw [List.getElem?_set_self (by rw [wipe_length]; exact hv), if_pos hv]
      · rw [List.getElem?_eq_none (by rw [List.length_set, wipe_length]; omega), if_neg hv]
    · rw [List.getElem?_set_ne e]
      exact wipe_in ((List.mem_cons.mp h).resolve_left (Ne.symm e))
theorem wipe_of_out {σ σ' : St} {vs is : List Nat} (o : Out (wipe σ vs) σ' is) (hs : ∀ i ∈ is, i ∈ vs) : wipe σ' vs = wipe σ vs := by
  have hl : σ'.length = σ.length := by rw [o.1, wipe_length]
  refine List.ext_getElem? fun j => ?_
  by_cases hj : j ∈ vs
  · rw [wipe_in hj, wipe_in hj, hl]
  · rw [L2.wipe_out hj, o.2 j fun z => hj (hs j z)]

/-! ### [e for target in iter if t] -/
def lcL (dg : DG) (dt : DB) (de : DE) (vs : List Nat) : List D → List D → Sl → Option (List D × Sl)
  | [], acc, ρ => some (acc, ρ)
  | d :: ds, acc, ρ => match dg d ρ with
    | some ρ1 => (match dt ρ1 with
      | .ok true ρ2 => (match de ρ2 with
        | .ok o ρ3 => (match frz1 ρ3 o with
          | some (x, ρ4) => if acc.length < 100000 then lcL dg dt de vs ds (acc ++ [x]) (wipeR ρ4 vs) else none
          | none => none)
        | _ => none)
      | .ok false ρ2 => lcL dg dt de vs ds acc (wipeR ρ2 vs)
      | _ => none)
    | none => none
def dLc (di : DI) (vs : List Nat) (dg : DG) (dt : DB) (de : DE) : DE := fun ρ => match di ρ with
  | .ok _ ds ρ1 => (match lcL dg dt de vs ds [] (wipeR ρ1 vs) with
    | some (acc, ρ2) => .ok (.t (.own (.list acc))) (restR ρ1 ρ2 vs)
    | none => .no)
  | .ex x ρ1 => .ex x ρ1
  | .no => .no
theorem re_lc {wi : TI} {g : TG} {tt : TT} {te : TE} {vs is : List Nat} {di : DI} {dg : DG} {dt : DB} {de : DE} (hs : ∀ i ∈ is, i ∈ vs) (hi : RI c W wi di) (hg : RG c g dg is) (ht : RB c WF tt dt) (he : RE c WF te de) : RE c W (tLc wi g tt te vs) (dLc di vs dg dt de) := by
  intro τ σ ρ F H Q hl r h
  unfold dLc at h
  refine hi τ σ ρ F H _ hl r ?_
  cases e : di ρ with
  | no => rw [e] at h; exact h.elim
  | ex x ρ1 => rw [e] at h; exact h
  | ok d0 ds ρ1 =>
    rw [e] at h
    intro J v F1 H1 hl1 r1 hj Dl hD
    simp only at h
    cases e1 : lcL dg dt de vs ds [] (wipeR ρ1 vs) with
    | none => rw [e1] at h; exact h.elim
    | some p =>
      obtain ⟨accF, ρF⟩ := p
      rw [e1] at h
      simp only at h
      have r2 : R c F1 ((some (.ref Dl), .own (.list [])) :: (((some v, .val d0) :: τ) ++ σ.zip ρ1)) (upd H1 Dl (.lst [])) :=
        r1.addO (Grow.new1 r1.sub hD) hD (r1.sub.free hD) upd_same (.lst .nil)
      have r3 := R.wipeAll hl1 vs ((some (.ref Dl), .own (.list [])) :: ((some v, .val d0) :: τ)) r2
      refine ⟨fun i m H' => ∃ ρ' F' acc rest, σ.length = ρ'.length ∧ R c F' ((holdC σ ρ1 vs ++ ((some (.ref Dl), .own (.list acc)) :: ((some v, .val d0) :: τ))) ++ (wipe σ vs).zip ρ') H' ∧ rest = ds.drop i ∧ i ≤ ds.length ∧ m = ds.length - i ∧ lcL dg dt de vs rest acc ρ' = some (accF, ρF),
        ⟨ds.length, wipeR ρ1 vs, F1, [], ds, by rw [wipeR_length]; exact hl1, r3, by simp, Nat.zero_le _, by simp, e1⟩, ?_⟩
      rintro i m H' ⟨ρ', F', acc, rest, hl', r', hr, hile, hm, h'⟩
      have qv : Rp c.K F' v d0 := r'.ok (some v, .val d0) (by simp)
      cases rest with
      | nil =>
        have hi : i = ds.length := by
          have : (ds.drop i).length = 0 := by rw [← hr]; rfl
          simp at this
          omega
        subst hi
        cases h'
        refine .inl ⟨(hj F' H' r'.sub qv).2, ?_⟩
        have r4 := R.unwipeAll hl1 vs _ _ hl' r'
        have r5 : R c F' ((some (.ref Dl), .own (.list accF)) :: ((some v, .val d0) :: (τ ++ σ.zip (restR ρ1 ρF vs)))) H' := r4
        exact h (.ref Dl) F' H' (by rw [restR_length]; exact hl') (r5.permL (.swap _ _ _)).drop
      | cons d rest =>
        have hdi : ds[i]? = some d := by
          have : (ds.drop i)[0]? = some d := by rw [← hr]; rfl
          simpa using this
        have hilt : i < ds.length := (List.getElem?_eq_some_iff.mp hdi).1
        have hr2 : rest = ds.drop (i + 1) := by
          have : (ds.drop i).tail = rest := by rw [← hr]; rfl
          rw [← this, List.tail_drop]
        unfold lcL at h'
        obtain ⟨go, yl⟩ := (hj F' H' r'.sub qv).1 i d hdi
        refine .inr ⟨go, fun H2 => ∃ ρ2 F2 acc2, σ.length = ρ2.length ∧ R c F2 ((holdC σ ρ1 vs ++ ((some (.ref Dl), .own (.list acc2)) :: ((some v, .val d0) :: τ))) ++ (wipe σ vs).zip ρ2) H2 ∧ lcL dg dt de vs rest acc2 ρ2 = some (accF, ρF),
          fun H2 ⟨ρ2, F2, acc2, a1, a2, a3⟩ => ⟨ds.length - (i + 1), by omega, ρ2, F2, acc2, rest, a1, a2, hr2, by omega, rfl, a3⟩, fun x H2 y => ?_⟩
        obtain ⟨F2, g2, qx⟩ := yl x H2 y
        have r2 := (r'.grow g2).addV qx
        refine hg _ (wipe σ vs) ρ' F2 H2 x d _ (by rw [wipe_length]; exact hl') r2 ?_
        cases e2 : dg d ρ' with
        | none => rw [e2] at h'; cases h'
        | some ρ2 =>
          rw [e2] at h'
          simp only at h'
          intro σ3 F3 H3 hl3 o3 r3
          have hw := wipe_of_out o3 hs
          refine ⟨hw, ht _ σ3 ρ2 F3 H3 _ hl3 r3 ?_⟩
          cases e3 : dt ρ2 with
          | no => rw [e3] at h'; cases h'
          | ex x' ρ3 => rw [e3] at h'; cases h'
          | ok k ρ3 =>
            rw [e3] at h'
            intro F4 H4 hl4 r4
            cases k with
            | false =>
              refine iteF ⟨wipeR ρ3 vs, F4, acc, by rw [wipeR_length, ← hl4, o3.1, wipe_length], ?_, h'⟩
              have r5 := R.forget hl4 vs _ r4
              rw [hw] at r5
              exact r5
            | true =>
              simp only at h'
              refine iteT (re_run he hl4 r4 (fun o ρ4 e4 y F5 H5 hl5 hh r5 => ?_) (fun x' ρ4 e4 => by rw [e4] at h'; cases h') fun e4 => by rw [e4] at h'; cases h')
              rw [e4] at h'
              simp only at h'
              cases e5 : frz1 ρ4 o with
              | none => rw [e5] at h'; cases h'
              | some p =>
                obtain ⟨xd, ρ5⟩ := p
                rw [e5] at h'
                simp only at h'
                split at h'
                · rename_i hz
                  obtain ⟨F6, s6, hl6, r6⟩ := R.frz1 hl5 hh r5 e5
                  have qy : Rp c.K F6 y xd := r6.ok _ List.mem_cons_self
                  -- the new list to the front
                  have r7 : R c F6 ((some (.ref Dl), .own (.list acc)) :: ((holdC σ ρ1 vs ++ ((some v, .val d0) :: τ)) ++ σ3.zip ρ5)) H5 := by
                    refine r6.drop.permL ?_
                    have : (holdC σ ρ1 vs ++ ((some (.ref Dl), SV.own (.list acc)) :: ((some v, SV.val d0) :: τ))).Perm ((some (.ref Dl), SV.own (.list acc)) :: (holdC σ ρ1 vs ++ ((some v, SV.val d0) :: τ))) := List.perm_middle
                    exact this.append_right _
                  obtain ⟨f1, ob, f2, f3⟩ := r7.ok _ List.mem_cons_self
                  cases f3 with
                  | @lst xs _ f3 =>
                    have r8 := r7.change (o' := .lst (xs ++ [y])) (d' := .list (acc ++ [xd])) (.lst (f3.app (.cons qy .nil)))
                    refine ⟨xs, f2, by rw [f3.len]; exact Nat.lt_of_lt_of_le hz (szl (Nat.le_refl _)), wipeR ρ5 vs, F6, acc ++ [xd], by rw [wipeR_length, ← hl6, o3.1, wipe_length], ?_, h'⟩
                    have r9 : R c F6 ((holdC σ ρ1 vs ++ ((some (.ref Dl), .own (.list (acc ++ [xd]))) :: ((some v, .val d0) :: τ))) ++ σ3.zip ρ5) (upd H5 Dl (.lst (xs ++ [y]))) := by
                      refine r8.permL ?_
                      have : (holdC σ ρ1 vs ++ ((some (.ref Dl), SV.own (.list (acc ++ [xd]))) :: ((some v, SV.val d0) :: τ))).Perm ((some (.ref Dl), SV.own (.list (acc ++ [xd]))) :: (holdC σ ρ1 vs ++ ((some v, SV.val d0) :: τ))) := List.perm_middle
                      exact (this.append_right _).symm
                    have r10 := R.forget hl6 vs _ r9
                    rw [hw] at r10
                    exact r10
                · cases h'
/-! the parts of a comprehension stand in the block's context, whichever it is -/
abbrev Blk (X : Cx) (scope : Scope) (s : Shared) (H : Hp) (C : Addr) (cl : List (Str × Addr)) (fp : List Addr) : Cx := X.blk s H scope (compEnvC scope cl C X.env) fp
def BX (X : Cx) (scope : Scope) (c : Cfg) (e : Expr) (d : DE) : Prop := ∀ s H C cl fp, DX (Blk X scope s H C cl fp) c WF e d
def BTs (X : Cx) (scope : Scope) (c : Cfg) (es : List Expr) (d : DB) : Prop := ∀ s H C cl fp, ∃ t, PTs (Blk X scope s H C cl fp) es t ∧ RB c WF t d
def BG (X : Cx) (scope : Scope) (c : Cfg) (tg : Expr) (d : DG) (is : List Nat) : Prop := ∀ s H C cl fp, DXG (Blk X scope s H C cl fp) c tg d is
theorem PE.anti {X : Cx} {e : Expr} {t t' : TE} (h : PE X e t) (a : ∀ σ H Q, t' σ H Q → t σ H Q) : PE X e t' := ⟨fun pins s σ H Q I q => h.run pins s σ H Q I (a σ H Q q)⟩
theorem BX.one {scope : Scope} {e : Expr} {d : DE} (h : BX X scope c e d) : ∃ te, (∀ s H C cl fp, PE (Blk X scope s H C cl fp) e te) ∧ RE c WF te d := by
  refine ⟨fun σ H' Q => ∀ s H C cl fp, Classical.choose (h s H C cl fp) σ H' Q, fun s H C cl fp => ?_, fun τ σ ρ F H' Q hl r q s H C cl fp => ?_⟩
  · exact PE.anti (Classical.choose_spec (h s H C cl fp)).1 fun σ H' Q q => q s H C cl fp
  · exact (Classical.choose_spec (h s H C cl fp)).2 τ σ ρ F H' Q hl r q
theorem BTs.one {scope : Scope} {es : List Expr} {d : DB} (h : BTs X scope c es d) : ∃ te, (∀ s H C cl fp, PTs (Blk X scope s H C cl fp) es te) ∧ RB c WF te d := by
  refine ⟨fun σ H' Q => ∀ s H C cl fp, Classical.choose (h s H C cl fp) σ H' Q, fun s H C cl fp => ?_, fun τ σ ρ F H' Q hl r q s H C cl fp => ?_⟩
  · exact ⟨fun pins s' σ H' Q I q => (Classical.choose_spec (h s H C cl fp)).1.run pins s' σ H' Q I (q s H C cl fp)⟩
  · exact (Classical.choose_spec (h s H C cl fp)).2 τ σ ρ F H' Q hl r q
theorem BG.one {scope : Scope} {tg : Expr} {d : DG} {is : List Nat} (h : BG X scope c tg d is) : ∃ g, (∀ s H C cl fp, PG (Blk X scope s H C cl fp) tg g) ∧ RG c g d is := by
  refine ⟨fun v σ H' Q => ∀ s H C cl fp, Classical.choose (h s H C cl fp) v σ H' Q, fun s H C cl fp => ?_, fun τ σ ρ F H' v d Q hl r q s H C cl fp => ?_⟩
  · exact ⟨fun pins s' σ H' v u Q I rv q => (Classical.choose_spec (h s H C cl fp)).1.run pins s' σ H' v u Q I rv (q s H C cl fp)⟩
  · exact (Classical.choose_spec (h s H C cl fp)).2 τ σ ρ F H' v d Q hl r q
def dYes : DB := fun ρ => .ok true ρ
theorem bt_nil {scope : Scope} : BTs X scope c [] dYes := fun _ _ _ _ _ => ⟨_, pts_nil, fun τ σ ρ F H Q hl r h => h F H hl r⟩
theorem bt_one {scope : Scope} {t : Expr} {d : DB} (h : ∀ s H C cl fp, DT (Blk X scope s H C cl fp) c WF t d) : BTs X scope c [t] d := fun s H C cl fp => by
  obtain ⟨t, p, r⟩ := h s H C cl fp
  exact ⟨_, pts_one p, r⟩
theorem dx_lc {elt tg iter : Expr} {ifs : List Expr} {scope : Scope} {own : List (Str × Nat)} {is : List Nat} {pos : Pos} {di : DI} {dg : DG} {dt : DB} {de : DE} (hc : X.calm = true) (hN : X.N.Nodup) (hi : DXI X c W tg iter di) (hg : BG X scope c tg dg is) (ht : BTs X scope c ifs dt) (he : BX X scope c elt de)
    (ok : BlkOk X.N X.env.scope scope own) (hs : ∀ i ∈ is, i ∈ own.map (·.2) := by decide) (hf : ∀ x, foldedSetIterable iter X.env x = pure x := by exact fun _ => rfl) : DX X c W (.ListComp elt [⟨tg, iter, ifs, 0⟩] scope pos) (dLc di (own.map (·.2)) dg dt de) := by
  obtain ⟨wi, p1, r1⟩ := hi
  obtain ⟨g, p2, r2⟩ := hg.one
  obtain ⟨tt, p3, r3⟩ := ht.one
  obtain ⟨te, p4, r4⟩ := he.one
  exact ⟨_, pe_lc hc hN p1 ok p2 p3 p4 hf, re_lc hs r1 r2 r3 r4⟩
theorem ds_setLc {i : Nat} {y : Str} {py : Pos} {elt tg iter : Expr} {ifs : List Expr} {scope : Scope} {own : List (Str × Nat)} {is : List Nat} {pos spos : Pos} {di : DI} {dg : DG} {dt : DB} {de : DE} (fz : Bool) (hn : Np c [i]) (hc : X.calm = true) (hN : X.N.Nodup) (hi : DXI X c W tg iter di) (hg : BG X scope c tg dg is) (ht : BTs X scope c ifs dt) (he : BX X scope c elt de)
    (ok : BlkOk X.N X.env.scope scope own) (hy : X.N[i]? = some y := by rfl) (hyl : X.env.scope.names.lookup y = some .local := by rfl) (hsw : swapsWith (.ListComp elt [⟨tg, iter, ifs, 0⟩] scope pos) (some (.Name y py)) spos.line X.env = pure true := by exact (sw_true rfl rfl rfl (by decide +kernel)))
    (hs : ∀ i ∈ is, i ∈ own.map (·.2) := by decide) (hf : ∀ x, foldedSetIterable iter X.env x = pure x := by exact fun _ => rfl) : DSt X c W (.Assign [.Name y py] (.ListComp elt [⟨tg, iter, ifs, 0⟩] scope pos) spos) (sSet i (if fz = true then dFz (dLc di (own.map (·.2)) dg dt de) else dLc di (own.map (·.2)) dg dt de)) := by
  obtain ⟨wi, p1, r1⟩ := hi
  obtain ⟨g, p2, r2⟩ := hg.one
  obtain ⟨tt, p3, r3⟩ := ht.one
  obtain ⟨te, p4, r4⟩ := he.one
  refine ⟨_, ps_setLc hc hN hy hyl hsw p1 ok p2 p3 p4 hf, rs_set hn ?_⟩
  cases fz with
  | true => exact re_fz (re_lc hs r1 r2 r3 r4)
  | false => exact re_lc hs r1 r2 r3 r4
end
end PD

set_option Elab.async false
set_option linter.all false
set_option maxRecDepth 100000
set_option maxHeartbeats 2000000
/-! PdG: what a def promises, its call, its body; raise. -/
namespace PD
open PySem PySem.Spec PyProof.Rows L2
/-- a def's end: what it returns and what became of the object handed in | the exception -/
inductive FO where
  | rt (d : D) (s : SV)
  | ex (x : Exn) (s : SV)
  | no
def XR (K : PySem.W.Frag) (mg : Str → Option Value) (F H : Hp) (x : Exn) (cls : Value) (dd : Option Addr) : Prop :=
  mg x.cls = some cls ∧ ∃ (a : Addr) (fs : List (Str × V)), dd = some a ∧ H a = some (.xd fs) ∧ fs.map (·.1) = x.fs.map (·.1) ∧ RpA K F (fs.map (·.2)) (x.fs.map (·.2))
theorem xr_eq {c : Cfg} {F H : Hp} {x : Exn} {cls : Value} {dd : Option Addr} : XR c.K c.mg F H x cls dd = XRel c F H x cls dd := rfl
structure Fin (ia : List Addr) (F H F' H' : Hp) : Prop where
  f : Same F F'
  sub : Same F' H'
  kept : ∀ b o, H b = some o → b ∉ ia → H' b = some o
  new : ∀ b, F' b ≠ none → F b = none → H b = none ∨ b ∈ ia
  ntb : ∀ b ps, F' b = some (.tbl ps) → F b = some (.tbl ps)
def IoOk (K : PySem.W.Frag) (F H : Hp) (ia : List Addr) (s : SV) : Prop := match ia with
  | [] => True
  | a :: _ => CellOk K F H (some (.ref a), s)
def ArgsOk (K : PySem.W.Frag) (F H : Hp) (ia : List Addr) (vs : List V) (ds : List D) : Prop := match ia with
  | [] => RpA K F vs ds
  | a :: _ => ∃ vs' d0 ds' o, vs = .ref a :: vs' ∧ ds = d0 :: ds' ∧ F a = none ∧ H a = some o ∧ Own K F o d0 ∧ RpA K F vs' ds'
def FPost (K : PySem.W.Frag) (mg : Str → Option Value) (F H : Hp) (ia : List Addr) (Q : VK) (E : XK) : FO → Prop
  | .rt d s => ∀ v F' H', Fin ia F H F' H' → IoOk K F' H' ia s → Rp K F' v d → Q v H'
  | .ex x s => ∀ cls dd F' H', Fin ia F H F' H' → IoOk K F' H' ia s → XR K mg F' H' x cls dd → E cls dd H'
  | .no => False
/-- the promise of a def of np parameters; io: its first one is an object that it changes -/
def spP (K : PySem.W.Frag) (mg : Str → Option Value) (io : Bool) (np : Nat) (f : List D → FO) : Sp := fun vs H Q E =>
  ∃ F ia ds, vs.length = np ∧ (if io = true then ∃ a, ia = [a] else ia = []) ∧ Same F H ∧ ArgsOk K F H ia vs ds ∧ FPost K mg F H ia Q E (f ds)
section
variable {X : Cx} {c : Cfg} {W : XK} {F H F' H' : Hp}
theorem Fin.grow (g : Fin [] F H F' H') : Grow F H F' H' :=
  ⟨g.f, fun b o e => g.kept b o e (by simp), g.sub, fun b h n => (g.new b h n).resolve_right (by simp), g.ntb⟩
/-- behind a call that may have changed the object at a -/
theorem R.fin {cs : Cells} {a : Addr} {d0 : D} {s : SV} (r : R c F ((some (.ref a), .own d0) :: cs) H) (g : Fin [a] F H F' H') (ok : CellOk c.K F' H' (some (.ref a), s)) : R c F' ((some (.ref a), s) :: cs) H' := by
  obtain ⟨fa, o, ha, how⟩ := r.ok _ List.mem_cons_self
  have nd : (a :: cs.filterMap ownA).Nodup := r.dis
  have na := (List.nodup_cons.mp nd).1
  have oa := r.own a List.mem_cons_self
  have hd : ∀ l : List Addr, ((ownA (some (.ref a), s)).toList ++ l) = ((some (V.ref a), s) :: cs).filterMap ownA → True := fun _ _ => trivial
  refine ⟨g.sub, r.grow0.trans g.f, fun b h n => ?_, fun b u e hi => ?_, fun p hp => ?_, fun b ps h => r.ntb b ps (g.ntb b ps h), fun x hx => ?_, ?_, ?_⟩
  · cases e : F b with
    | some u => exact r.growN b h (by rw [e]; simp)
    | none =>
      rcases g.new b n e with hb | hb
      · exact r.fresh hb
      · have : b = a := by simpa using hb
        rw [this]; exact oa
  · have hb : b ≠ a := fun z => by
      rcases oa with q | q
      · rw [z, q] at e; cases e
      · exact hi (z ▸ q)
    exact g.kept b u (r.kept b u e hi) (by simpa using hb)
  · obtain ⟨ps, e1, e2, e3⟩ := r.tabs p hp
    have hb : p.1 ≠ a := fun z => by rw [z, ha] at e1; exact how.ntbl ps (Option.some.inj e1)
    refine ⟨ps, g.kept _ _ e1 (by simpa using hb), e2, fun pos cv hc => ?_⟩
    obtain ⟨c', e4, e5⟩ := e3 pos cv hc
    refine ⟨c', e4, g.kept _ _ e5 ?_⟩
    have hb' : c' ≠ a := fun z => by
      rw [z, ha] at e5
      have e6 := Option.some.inj e5
      rw [e6] at how
      unfold LamX.CodeO at how
      cases how
    simpa using hb'
  · rcases List.mem_cons.mp hx with rfl | hx
    · exact ok
    · have q := r.ok x (List.mem_cons_of_mem _ hx)
      obtain ⟨v, s'⟩ := x
      cases s' with
      | no => trivial
      | val d' =>
        cases v with
        | none => exact q.elim
        | some v => exact Rp.mono g.f _ _ q
      | own d' =>
        cases v with
        | none => exact q.elim
        | some v =>
          cases v with
          | ref b =>
            obtain ⟨q1, u, q2, q3⟩ := q
            have hb : b ≠ a := fun z => na (by rw [← z]; exact List.mem_filterMap.mpr ⟨_, hx, rfl⟩)
            refine ⟨?_, u, g.kept b u q2 (by simpa using hb), q3.mono g.f⟩
            cases e : F' b with
            | none => rfl
            | some w =>
              rcases g.new b (by rw [e]; simp) q1 with z | z
              · rw [q2] at z; cases z
              · exact absurd (by simpa using z) hb
          | _ => exact q.elim
  · cases s with
    | own d => exact r.dis
    | no => exact (List.nodup_cons.mp nd).2
    | val d => exact (List.nodup_cons.mp nd).2
  · cases s with
    | own d => exact r.own
    | no => exact fun b hb => r.own b (List.mem_cons_of_mem _ hb)
    | val d => exact fun b hb => r.own b (List.mem_cons_of_mem _ hb)

/-! ### the call -/
def dCall (f : List D → FO) (da : DAs) : DE := fun ρ => match da ρ with
  | .ok os ρ1 => (match frzA ρ1 os with
    | some (ds, ρ2) => (match f ds with
      | .rt d _ => .ok (.t (.val d)) ρ2
      | .ex x _ => .ex x ρ2
      | .no => .no)
    | none => .no)
  | .ex x ρ1 => .ex x ρ1
  | .no => .no
theorem re_call {np : Nat} {f : List D → FO} {ta : TA} {da : DAs} (hl' : daLen da np) (ha : RA c W ta da) : RE c W (tCall (spP c.K c.mg false np f) [] W ta) (dCall f da) := by
  intro τ σ ρ F H Q hl r h
  unfold dCall at h
  refine ha τ σ ρ F H _ hl r ?_
  cases e : da ρ with
  | no => rw [e] at h; exact h.elim
  | ex x ρ1 => rw [e] at h; exact h
  | ok os ρ1 =>
    rw [e] at h
    intro vs F1 H1 hl1 hh r1
    simp only at h
    cases e1 : frzA ρ1 os with
    | none => rw [e1] at h; exact h.elim
    | some p =>
      obtain ⟨ds, ρ2⟩ := p
      rw [e1] at h
      simp only at h
      obtain ⟨F2, s2, hl2, q, r2⟩ := R.frzA hl1 hh r1 e1
      have hlen : ∀ (os : List Od) (vs : List V), Held σ os vs → os.length = vs.length := by
        intro os
        induction os with
        | nil => intro vs h; cases vs with
          | nil => rfl
          | cons _ _ => exact h.elim
        | cons o os ih => intro vs h; cases vs with
          | nil => cases o <;> exact h.elim
          | cons v vs => cases o with
            | t s => simp [ih vs h]
            | p i => simp [ih vs h.2]
      refine ⟨F2, [], ds, ?_, by simp, r2.sub, by rw [List.append_nil]; exact q, ?_⟩
      · rw [List.append_nil, ← hlen os vs hh]; exact hl' _ _ _ e
      · cases e2 : f ds with
        | no => rw [e2] at h; exact h.elim
        | ex x s =>
          rw [e2] at h
          exact fun cls dd F' H' g _ xr => h cls dd F' H' hl2 xr (r2.grow g.grow)
        | rt d s =>
          rw [e2] at h
          exact fun v F' H' g _ qv => h v F' H' hl2 ((r2.grow g.grow).addV qv)
/-- the first argument: the own object of a slot, which the def may change -/
def dCallIo (f : List D → FO) (k : Nat) (da : DAs) : DE := fun ρ => match ρ[k]? with
  | some (.own _) => (match da ρ with
    | .ok os ρ1 => (match frzA ρ1 os with
      | some (ds, ρ2) => (match ρ2[k]? with
        | some (.own d0) => (match f (d0 :: ds) with
          | .rt d s => .ok (.t (.val d)) (ρ2.set k s)
          | .ex x s => .ex x (ρ2.set k s)
          | .no => .no)
        | _ => .no)
      | none => .no)
    | .ex x ρ1 => .ex x ρ1
    | .no => .no)
  | _ => .no
theorem Held.len {σ : L2.St} : ∀ (os : List Od) (vs : List V), Held σ os vs → os.length = vs.length
  | [], [], _ => rfl
  | .t s :: os, v :: vs, h => by simp [Held.len os vs h]
  | .p i :: os, v :: vs, h => by simp [Held.len os vs h.2]
  | [], _ :: _, h => h.elim
  | .t s :: os, [], h => h.elim
  | .p i :: os, [], h => h.elim
theorem re_callIo {np k : Nat} {f : List D → FO} {ta : TA} {da : DAs} (hl' : daLen da np) (ha : RA c W ta da) : RE c W (tCall (spP c.K c.mg true (np + 1) f) [] W (tCons (tVar k) ta)) (dCallIo f k da) := by
  intro τ σ ρ F H Q hl r h
  unfold dCallIo at h
  cases e0 : ρ[k]? with
  | none => rw [e0] at h; exact h.elim
  | some s0 =>
    rw [e0] at h
    cases s0 with
    | no => exact h.elim
    | val _ => exact h.elim
    | own d00 =>
      simp only at h
      obtain ⟨a, o, e1, _, _, _⟩ := r.ownSlot hl e0
      refine ⟨.ref a, e1, ha τ σ ρ F H _ hl r ?_⟩
      cases e : da ρ with
      | no => rw [e] at h; exact h.elim
      | ex x ρ1 => rw [e] at h; exact h
      | ok os ρ1 =>
        rw [e] at h
        intro vs F1 H1 hl1 hh r1
        simp only at h
        cases e2 : frzA ρ1 os with
        | none => rw [e2] at h; exact h.elim
        | some p =>
          obtain ⟨ds, ρ2⟩ := p
          rw [e2] at h
          simp only at h
          obtain ⟨F2, s2, hl2, q, r2⟩ := R.frzA hl1 hh r1 e2
          cases e3 : ρ2[k]? with
          | none => rw [e3] at h; exact h.elim
          | some s3 =>
            rw [e3] at h
            cases s3 with
            | no => exact h.elim
            | val _ => exact h.elim
            | own d0 =>
              simp only at h
              obtain ⟨a', o', f1, f2, f3, f4⟩ := r2.ownSlot hl2 e3
              have ea : a' = a := by rw [e1] at f1; cases f1; rfl
              subst ea
              refine ⟨F2, [a'], d0 :: ds, ?_, ⟨a', rfl⟩, r2.sub, ?_, ?_⟩
              · rw [List.append_nil, List.length_cons, ← Held.len os vs hh, hl' _ _ _ e]
              · rw [List.append_nil]
                exact ⟨vs, d0, ds, o', rfl, rfl, f2, f3, f4, q⟩
              · cases e4 : f (d0 :: ds) with
                | no => rw [e4] at h; exact h.elim
                | ex x s =>
                  rw [e4] at h
                  intro cls dd F' H' g io xr
                  obtain ⟨rest, q1, q2⟩ := R.front (s' := s) e1 e3 r2
                  exact h cls dd F' H' (by simpa using hl2) xr (q2 F' H' (q1.fin g io))
                | rt d s =>
                  rw [e4] at h
                  intro v F' H' g io qv
                  obtain ⟨rest, q1, q2⟩ := R.front (s' := s) e1 e3 r2
                  exact h v F' H' (by simpa using hl2) ((q2 F' H' (q1.fin g io)).addV qv)
/-- a def of the text, as it is called -/
structure Cal (X : Cx) (x : Str) (k : Nat) (ps : List Str) (sp : Sp) : Prop where
  ex : ∃ (f : Addr) (fd : FuncData), FnOk X.prog X.w X.K X.mg X.base (L2.CX X.prog X.w) k f fd ps sp ∧ X.mg x = some (.ref f) ∧ PySem.W.keepIn X.K (.ref f) = true ∧ Binds X.K fd ps []
theorem dx_call {x : Str} {k np : Nat} {ps : List Str} {f : List D → FO} {e : Expr} {es : List Expr} {da : DAs} {p pos : Pos} (G : Cal X x k ps (spP X.K X.mg false np f)) (hK : c.K = X.K) (hmg : c.mg = X.mg) (hr : Room k X.A) (hx : Passes (L2.CX X.prog X.w) X W) (ha : DXA X c W (e :: es) da) (hl : daLen da np) (hg : Gl X x := by rfl)
    (hdb : (x == ("__debug__" : Str)) = false := by decide) (he : starEach (e :: es) X.env = (false, eval e X.env) :: starEach es X.env := by rfl) (hpl : (backTo pos (starEach es X.env)).any (·.1) = false := by rfl) : DX X c W (.Call (.Name x p) (e :: es) [] pos) (dCall f da) := by
  obtain ⟨t, pa, ra⟩ := ha
  obtain ⟨fa, fd, h1, h2, h3, h4⟩ := G.ex
  have q := re_call (f := f) hl ra
  rw [hK, hmg] at q
  exact ⟨_, pe_call h1 hr hg h2 h3 h4 .nil hx pa hdb he hpl, q⟩
theorem dx_callIo {x : Str} {k np j : Nat} {ps : List Str} {f : List D → FO} {y : Str} {es : List Expr} {da : DAs} {p pos py : Pos} (G : Cal X x k ps (spP X.K X.mg true (np + 1) f)) (hK : c.K = X.K) (hmg : c.mg = X.mg) (hr : Room k X.A) (hx : Passes (L2.CX X.prog X.w) X W) (ha : DXA X c W es da) (hl : daLen da np)
    (hN : X.N[j]? = some y := by rfl) (hv : Vis X.env.scope y := by first | exact Or.inl rfl | exact Or.inr (Or.inl rfl) | exact Or.inr (Or.inr rfl)) (hd : (y == ("__debug__" : Str)) = false := by decide) (hcd : (y == ("__classdict__" : Str)) = false := by decide) (hg : Gl X x := by rfl)
    (hdb : (x == ("__debug__" : Str)) = false := by decide) (he : starEach (.Name y py :: es) X.env = (false, eval (.Name y py) X.env) :: starEach es X.env := by rfl) (hpl : (backTo pos (starEach es X.env)).any (·.1) = false := by rfl) : DX X c W (.Call (.Name x p) (.Name y py :: es) [] pos) (dCallIo f j da) := by
  obtain ⟨t, pa, ra⟩ := ha
  obtain ⟨fa, fd, h1, h2, h3, h4⟩ := G.ex
  have q := re_callIo (f := f) (k := j) hl ra
  rw [hK, hmg] at q
  exact ⟨_, pe_call h1 hr hg h2 h3 h4 .nil hx (pa_cons (pe_var hN hv hd hcd) pa he) hdb he hpl, q⟩
/-! keywords: the positional ones, then those by name in the parameters' order -/
def DXK (X : Cx) (c : Cfg) (W : XK) (kws : List Keyword) (d : DAs) : Prop := ∃ t, PK X kws t ∧ RA c W t d
theorem dk_nil : DXK X c W [] daN := ⟨_, pk_nil, ra_nil⟩
theorem dk_cons {nm : Option Str} {e : Expr} {kpos : Pos} {kws : List Keyword} {d : DE} {da : DAs} (he : DX X c W e d) (ha : DXK X c W kws da) : DXK X c W (⟨nm, e, kpos⟩ :: kws) (daC d da) := by
  obtain ⟨t, p, r⟩ := he
  obtain ⟨t2, p2, r2⟩ := ha
  exact ⟨_, pk_cons p p2, ra_cons r r2⟩

/-! ### the body -/
def startR (io : Bool) (n : Nat) (ds : List D) : Sl := (if io = true then (match ds with
    | d :: ds => .own d :: ds.map .val
    | [] => []) else ds.map .val) ++ List.replicate (n - ds.length) .no
def runD (io : Bool) (n : Nat) (body : DS) : List D → FO := fun ds => match body (startR io n ds) with
  | .rt d ρ => .rt d (ρ.getD 0 .no)
  | .nx ρ => .rt .none (ρ.getD 0 .no)
  | .ex x ρ => .ex x (ρ.getD 0 .no)
  | _ => .no
theorem startR_len {io : Bool} {n : Nat} {ds : List D} (h : ds.length ≤ n) : (startR io n ds).length = n := by
  unfold startR
  cases io with
  | false => simp; omega
  | true => cases ds with
    | nil => simp
    | cons d ds => simp at h ⊢; omega
theorem vals_cells {K : PySem.W.Frag} {F H : Hp} : ∀ (vs : List V) (ds : List D) (n m : Nat), RpA K F vs ds → (∀ x ∈ (vs.map some ++ List.replicate n none).zip (ds.map SV.val ++ List.replicate m SV.no), CellOk K F H x) ∧ ((vs.map some ++ List.replicate n none).zip (ds.map SV.val ++ List.replicate m SV.no)).filterMap ownA = []
  | [], [], n, m, _ => by
    have key : ∀ (n m : Nat), (∀ x ∈ (List.replicate n (none : Option V)).zip (List.replicate m SV.no), CellOk K F H x) ∧ ((List.replicate n (none : Option V)).zip (List.replicate m SV.no)).filterMap ownA = [] := by
      intro n
      induction n with
      | zero => intro m; simp
      | succ n ih =>
        intro m
        cases m with
        | zero => simp
        | succ m =>
          rw [List.replicate_succ, List.replicate_succ, List.zip_cons_cons]
          obtain ⟨a, b⟩ := ih m
          refine ⟨fun x hx => ?_, ?_⟩
          · rcases List.mem_cons.mp hx with rfl | hx
            · trivial
            · exact a x hx
          · rw [List.filterMap_cons]; exact b
    simpa using key n m
  | v :: vs, d :: ds, n, m, h => by
    cases h with
    | cons h1 h2 =>
      obtain ⟨a, b⟩ := vals_cells vs ds n m h2
      refine ⟨fun x hx => ?_, ?_⟩
      · have hx' : x ∈ (some v, SV.val d) :: (vs.map some ++ List.replicate n (none : Option V)).zip (ds.map SV.val ++ List.replicate m SV.no) := hx
        rcases List.mem_cons.mp hx' with rfl | hx
        · exact h1
        · exact a x hx
      · have e : ownA (some v, SV.val d) = none := by cases v <;> rfl
        show ((some v, SV.val d) :: (vs.map some ++ List.replicate n none).zip (ds.map SV.val ++ List.replicate m SV.no)).filterMap ownA = []
        rw [List.filterMap_cons, e]; exact b
  | [], _ :: _, _, _, h => by cases h
  | _ :: _, [], _, _, h => by cases h
/-- THE RULE for a def -/
theorem fn_den {P : Program} {w : World} {K : PySem.W.Frag} {mg : Str → Option Value} {base : Heap} {x qual : Str} {st : Stmt} {f : Addr} {fd : FuncData} {N ps : List Str} {k : Nat} (io : Bool) (body : DS) (Fu : Fun K x qual st f fd) (S : FnScope N ps (defScope st)) (hio : io = true → ps ≠ [])
    (hbody : ∀ (cdv : Value) (A : Around) (outer : List Env) (s : Shared) (H : Hp) (E : XK) (c : Cfg), Room k (A.deeper (envOfC qual (defScope st) s.heap.objs.size f cdv)) → c.K = K → c.mg = mg → c.T = [] → (io = false → c.pin = none) →
      DSs (cxOf (L2.CX P w) P w K mg base N qual (defScope st) f cdv A outer s H E) c E (defBody st) body) :
    FnOk P w K mg base (L2.CX P w) (k + 1) f fd ps (spP K mg io ps.length (runD io N.length body)) := by
  have hNp : ps.length ≤ N.length := by
    have := congrArg List.length S.pre
    rw [List.length_take] at this
    omega
  refine Fu.okX S (fun vs H Q E h => ?_) (fun cdv A outer s H vs Q E hr h => ?_)
  · obtain ⟨_, _, _, h1, _⟩ := h
    exact h1
  · obtain ⟨F, ia, ds, h1, h2, sub, args, post⟩ := h
    have fin : ∀ (c : Cfg), c.K = K → c.mg = mg → c.T = [] → c.F0 = F → c.H0 = H → c.io = ia → (c.pin = match ia with | [] => none | a :: _ => some (.ref a)) → (io = false → c.pin = none) → ds.length = vs.length →
        R c F ([] ++ (L2.start N vs).zip (startR io N.length ds)) H → Pin c (L2.start N vs) →
        ∃ t, PSs (cxOf (L2.CX P w) P w K mg base N qual (defScope st) f cdv A outer s H E) (defBody st) t ∧ t { nx := fun _ H' => Q .non H', rt := Q } (L2.start N vs) H := by
      intro c hK hmg hT hF0 hH0 hio' hpin hpn hlen r hp
      obtain ⟨t, p, q⟩ := hbody cdv A outer s H E c hr hK hmg hT hpn
      refine ⟨t, p, q [] (L2.start N vs) (startR io N.length ds) F H _ ?_ hp r ?_⟩
      · rw [startR_len (by omega)]
        unfold L2.start
        rw [List.length_append, List.length_map, List.length_replicate]
        omega
      · have fin1 : ∀ {F' H'} {cs : Cells}, R c F' cs H' → Fin ia F H F' H' := fun {F' H' cs} r' =>
          ⟨hF0 ▸ r'.grow0, r'.sub, fun b o e hi => r'.kept b o (by rw [hH0]; exact e) (by rw [hio']; exact hi), fun b n e => by
            have := r'.growN b (by rw [hF0]; exact e) n
            rw [hH0, hio'] at this
            exact this, fun b ps h => hF0 ▸ r'.ntb b ps h⟩
        have io1 : ∀ {F' H'} {σ' : L2.St} {ρ' : Sl} {cs : Cells}, R c F' (cs ++ σ'.zip ρ') H' → σ'.length = ρ'.length → Pin c σ' → IoOk K F' H' ia (ρ'.getD 0 .no) := fun {F' H' σ' ρ' cs} r' hl' hp' => by
          cases ia with
          | nil => trivial
          | cons a l =>
            have e0 : σ'[0]? = some (some (.ref a)) := hp' (.ref a) hpin
            show CellOk K F' H' (some (.ref a), ρ'.getD 0 .no)
            cases e : ρ'[0]? with
            | none =>
              have z1 := List.getElem?_eq_none_iff.mp e
              have z2 := (List.getElem?_eq_some_iff.mp e0).1
              omega
            | some s' =>
              have e2 : ρ'.getD 0 .no = s' := by simp [List.getD, e]
              rw [e2]
              cases s' with
              | no => trivial
              | val d =>
                obtain ⟨v, f1, m⟩ := R.slot r' hl' e (by intro z; cases z)
                rw [e0] at f1; cases f1
                have q := r'.ok _ m
                rw [hK] at q
                exact q
              | own d =>
                obtain ⟨v, f1, m⟩ := R.slot r' hl' e (by intro z; cases z)
                rw [e0] at f1; cases f1
                have q := r'.ok _ m
                rw [hK] at q
                exact q
        unfold runD at post
        cases e : body (startR io N.length ds) with
        | no => rw [e] at post; exact post.elim
        | bk ρ => rw [e] at post; exact post.elim
        | ct ρ => rw [e] at post; exact post.elim
        | nx ρ =>
          rw [e] at post
          exact fun σ' F' H' hl' hp' r' => post .non F' H' (fin1 r') (io1 r' hl' hp') .non
        | rt d ρ =>
          rw [e] at post
          intro v σ' F' H' hl' hp' r'
          have q := r'.ok _ List.mem_cons_self
          rw [hK] at q
          exact post v F' H' (fin1 r') (io1 (cs := [(some v, .val d)]) r' hl' hp') q
        | ex x ρ =>
          rw [e] at post
          intro cls dd σ' F' H' hl' hp' xr r'
          have xr' : XR c.K c.mg F' H' x cls dd := xr
          rw [hK, hmg] at xr'
          exact post cls dd F' H' (fin1 r') (io1 (cs := []) r' hl' hp') xr'
    cases io with
    | false =>
      have hia : ia = [] := by simpa using h2
      subst hia
      have args : RpA K F vs ds := args
      have hlen := args.len
      refine fin ⟨K, mg, F, H, [], [], none⟩ rfl rfl rfl rfl rfl rfl rfl (fun _ => rfl) hlen.symm ?_ (fun v hv => by cases hv)
      obtain ⟨a, b⟩ := vals_cells (H := H) vs ds (N.length - vs.length) (N.length - ds.length) args
      refine ⟨sub, Same.refl _, fun b h n => absurd h n, fun b o e _ => e, fun p hp => (by cases hp), fun b ps h => h, a, ?_, ?_⟩
      · show ((L2.start N vs).zip (startR false N.length ds)).filterMap ownA |>.Nodup
        rw [show ((L2.start N vs).zip (startR false N.length ds)).filterMap ownA = [] from b]
        exact List.nodup_nil
      · intro z hz
        rw [show (([] : Cells) ++ (L2.start N vs).zip (startR false N.length ds)).filterMap ownA = [] from b] at hz
        cases hz
    | true =>
      have hia : ∃ a, ia = [a] := by simpa using h2
      obtain ⟨a, rfl⟩ := hia
      obtain ⟨vs', d0, ds', o, rfl, rfl, fa, ha, how, args'⟩ := args
      have hlen := args'.len
      have hl1 : (d0 :: ds').length = (V.ref a :: vs').length := by simp [hlen]
      refine fin ⟨K, mg, F, H, [a], [], some (.ref a)⟩ rfl rfl rfl rfl rfl rfl rfl (fun z => by cases z) hl1 ?_ (fun v hv => by cases hv; rfl)
      obtain ⟨p, q⟩ := vals_cells (H := H) vs' ds' (N.length - (V.ref a :: vs').length) (N.length - (d0 :: ds').length) args'
      have ez : ([] ++ (L2.start N (V.ref a :: vs')).zip (startR true N.length (d0 :: ds'))) = (some (.ref a), .own d0) :: (vs'.map some ++ List.replicate (N.length - (V.ref a :: vs').length) none).zip (ds'.map SV.val ++ List.replicate (N.length - (d0 :: ds').length) SV.no) := rfl
      rw [ez]
      refine ⟨sub, Same.refl _, fun b h n => absurd h n, fun b o e _ => e, fun p hp => (by cases hp), fun b ps h => h, fun y hy => ?_, ?_, ?_⟩
      · rcases List.mem_cons.mp hy with rfl | hy
        · exact ⟨fa, o, ha, how⟩
        · exact p y hy
      · show (a :: _).Nodup
        rw [q]
        exact List.nodup_cons.mpr ⟨by simp, List.nodup_nil⟩
      · intro z hz
        rcases List.mem_cons.mp (show z ∈ a :: _ from hz) with rfl | hz
        · exact .inr List.mem_cons_self
        · rw [q] at hz; cases hz
end
end PD

set_option Elab.async false
set_option linter.all false
set_option maxRecDepth 100000
set_option maxHeartbeats 2000000
/-! PdH: enumerate over a list, a tuple, a text. -/
namespace PySem
set_option maxHeartbeats 1000000 in
theorem PdE.meets_enumerate_new1 {v : Value} {o : Obj} {H : Heap → Prop} (B : Begins v o H) :
    Meets (Builtin.«enumerate.__new__» ⟨[.type "enumerate", v], []⟩) (fun _ R s => H s.heap ∧
      R (.ok (.ret (.ref (s.heap.push o).objs.size))) { s with heap := (s.heap.push o).push { cls := .type "enumerate", data := .fields #[.none, .bool false, .ref s.heap.objs.size, rawInt 0, .none, .none] } }) :=
  .of_wp fun prog w A R s h => by
    obtain ⟨hp, g, d, tk, os⟩ := s; obtain ⟨h1, h⟩ := h
    have hsub := sub_enumerate
    have q1 : ∀ {A' : Around} {E : Value → Shared → Prop} {Q : Value → Shared → Prop}, Q (.ref hp.objs.size) ⟨hp.push o, g, d, tk, os⟩ → wpAny (model prog w) A' (pyIter v) Q E ⟨hp, g, d, tk, os⟩ :=
      fun q => B.iter prog w _ _ ⟨hp, g, d, tk, os⟩ _ h1 q
    wp_walk using q1
    refine wpAny_stack_any fun st => wpAny_pure ?_
    split
    · rename_i c _ _ _ _ _
      cases (c == Value.type "enumerate")
      · wp_walk using q1
        exact ⟨_, rfl, h⟩
      · wp_walk using q1
        exact ⟨_, rfl, h⟩
    · wp_walk using q1
      exact ⟨_, rfl, h⟩
section
variable {prog : Program} {w : World} {A : Around} {E : Value → Shared → Prop} {s : Shared}
theorem PdE.call_enumerate_any {v : Value} {o : Obj} {H : Heap → Prop} {Q : Value → Shared → Prop} (B : Begins v o H) (h1 : H s.heap)
    (h : ∀ h', IsEnum h' (s.heap.objs.size + 1) s.heap.objs.size 0 .none → h'.get? s.heap.objs.size = some o → h'.objs.size = s.heap.objs.size + 2 →
      (∀ b o, s.heap.get? b = some o → h'.get? b = some o) → Q (.ref (s.heap.objs.size + 1)) { s with heap := h' }) :
    wpAny (model prog w) A (call (.type "enumerate") [v]) Q E s := by
  refine callType_new F.called_enumerate (by decide) (F.typeCall_enumerate_1 _) (F.newCall_enumerate_1 _) (fun obj => F.args_object_init_2 obj _) F.entry_enumerate_new
    (PdE.meets_enumerate_new1 B) ⟨h1, ?_⟩
  have hz : (s.heap.push o).objs.size = s.heap.objs.size + 1 := Heap.size_push ..
  show _ ∧ _
  rw [hz]
  have he : IsEnum ((s.heap.push o).push { cls := .type "enumerate", data := .fields #[.none, .bool false, .ref s.heap.objs.size, rawInt 0, .none, .none] }) (s.heap.objs.size + 1) s.heap.objs.size 0 .none := by
    have := Heap.get?_push_size (s.heap.push o) (o := { cls := .type "enumerate", data := .fields #[.none, .bool false, .ref s.heap.objs.size, rawInt 0, .none, .none] }) rfl
    rw [hz] at this; exact this
  refine ⟨⟨_, he, rfl⟩, h _ he (Heap.get?_push_of_some _ (Heap.get?_push_size _ B.free)) (by rw [Heap.size_push, hz]) fun b o x => Heap.get?_push_of_some _ (Heap.get?_push_of_some _ x)⟩
end
end PySem
namespace PD
open PySem PySem.Spec PyProof.Rows L2
/-- enumerate over anything that is drawn: x i is the i-th item, as the state tells it; n of them -/
def IteX (rd : Hp → List V → Prop) : It :=
  ⟨fun i H => ∃ (xs : List V) (x : V), rd H xs ∧ xs[i]? = some x, fun i H v H' => ∃ T x, v = .ref T ∧ H T = none ∧ H' = upd H T (.tup [.int (i : Nat), x]) ∧ ∀ xs, rd H xs → xs[i]? = some x, fun i H => ∃ xs : List V, rd H xs ∧ xs.length = i⟩
theorem turn_enumT {P : Program} {w : World} {K : PySem.W.Frag} {elts : List Expr} {kk : Nat} {tpos : Pos} (a e it : Addr) :
    Turn P w K (.Tuple elts kk tpos) (IteX fun H xs => SqT K H a xs) [e, it] e (fun i h => (∃ old, IsEnum h e it ((i : Nat) : Int) old) ∧ h.IsTupleIter it a i ∧ e ≠ it) where
  mem := by simp
  obj := fun i h st b hb => by
    obtain ⟨⟨old, he⟩, ⟨o, ho, hc, hd⟩, _⟩ := st
    have e' : b = e ∨ b = it := by simpa using hb
    rcases e' with z | z
    · rw [z]; exact ⟨_, he, fun v q => nomatch q⟩
    · rw [z]; exact ⟨o, ho, fun v q => by rw [hd] at q; cases q⟩
  keep := fun i h h' st k => let ⟨⟨old, he⟩, hi, hne⟩ := st; ⟨⟨old, k e (by simp) _ he⟩, hi.at fun o q => k it (by simp) o q, hne⟩
  item := by
    intro X hP hw hK hc i pins s σ H E I hf st hg
    subst hP hw hK
    obtain ⟨⟨old, he⟩, hit, hne⟩ := st
    obtain ⟨xs, x, hq, hx⟩ := hg
    obtain ⟨its, rv, p, hz⟩ := I.tuple hq
    obtain ⟨u, hu, ru⟩ := rv.get hx
    have hel : e < s.heap.objs.size := Heap.lt_size he
    have hil : it < s.heap.objs.size := by obtain ⟨_, q, _⟩ := hit; exact Heap.lt_size q
    have pt : s.heap.IsTuple a its.toArray := p
    have hae : a ≠ e := fun z => by
      obtain ⟨o, h1, h2, _⟩ := pt
      have he2 := he
      unfold IsEnum at he2
      rw [← z, h1] at he2
      cases he2
      exact absurd (show Value.type "enumerate" = Value.type "tuple" from h2) (by decide)
    have hai : a ≠ it := fun z => by
      obtain ⟨o, h1, h2, _⟩ := pt
      obtain ⟨o', h3, h4, _⟩ := hit
      rw [← z, h1] at h3
      cases h3
      rw [h2] at h4
      exact absurd h4 (by decide)
    have D := Draws.tuple (prog := X.prog) (w := X.w) (A := X.A.in1) (I.ok.hd hc) it a hai its.toArray
    have hi : i < its.toArray.size := by
      have := (List.getElem?_eq_some_iff.mp hu).1
      simpa using this
    refine wpAny_pyNext_enum_itemD D he ⟨hit, pt⟩ hi hne (by simp [hne, Ne.symm hae]) fun y h' tk hy ho hst' hT hsz hk => ?_
    have hyu : y = u := by
      have : its[i]? = some y := by simpa using hy
      rw [hu] at this
      exact (Option.some.inj this).symm
    subst hyu
    refine ⟨_, rfl, wpAny_letOwnedTupleGo_enum (s := { s with heap := h', toks := tk + 1 }) ho fun h'' he' sb => ?_⟩
    have hT2 : h''.get? s.heap.objs.size = some { cls := .type "tuple", data := .seq #[.int i tk, y] } := (sb.2 _ (Nat.ne_of_gt hel)).trans hT
    have new : ObjOk X.prog X.w (upd H s.heap.objs.size (.tup [.int (i : Nat), x])) h'' s.heap.objs.size (.tup [.int (i : Nat), x]) :=
      ⟨by show 2 ≤ sizeLine; decide, [.int i tk, y], .cons ⟨_, rfl⟩ (.cons ru .nil), ⟨_, hT2, rfl, _, rfl⟩⟩
    have I1 : Inv X pins σ (upd H s.heap.objs.size (.tup [.int (i : Nat), x])) { s with heap := h'', toks := tk + 1 } :=
      I.turnedNew (ch := [e, it]) (fun b ob hb q => (sb.2 b (fun z => hb (by simp [z]))).trans (hk b ob (fun z => hb (by simp [z])) (fun z => hb (by simp [z])) q)) hf (Nat.le_refl _) new
    refine ⟨.ref s.heap.objs.size, _, I1, rfl, ⟨_, x, rfl, I.hok.fresh (Nat.le_refl _), rfl, fun ys hy => by rw [I.tuple_inj hy hq]; exact hx⟩, ⟨⟨y, ?_⟩, hst'.1.at fun o q => (sb.2 it (Ne.symm hne)).trans q, hne⟩, fun b hb => ?_⟩
    · have e1 : ((i + 1 : Nat) : Int) = (i : Int) + 1 := by omega
      rw [e1]; exact he'
    · have hb' : b < s.heap.objs.size := by
        have e' : b = e ∨ b = it := by simpa using hb
        rcases e' with z | z
        · rw [z]; exact hel
        · rw [z]; exact hil
      rw [upd_ne (Nat.ne_of_lt hb')]
      exact (hf b hb).1
  done := by
    intro X hP hw hK hc i pins s σ H E I hf st hg
    subst hP hw hK
    obtain ⟨⟨old, he⟩, hit, hne⟩ := st
    obtain ⟨xs, hq, hx⟩ := hg
    obtain ⟨its, rv, p, hz⟩ := I.tuple hq
    obtain ⟨f0, f1, f2, f3, f4, f5⟩ := hf it (by simp)
    have hl := rv.length
    have pt : s.heap.IsTuple a its.toArray := p
    have hai : a ≠ it := fun z => by
      obtain ⟨o, h1, h2, _⟩ := pt
      obtain ⟨o', h3, h4, _⟩ := hit
      rw [← z, h1] at h3
      cases h3
      rw [h2] at h4
      exact absurd h4 (by decide)
    have D := Draws.tuple (prog := X.prog) (w := X.w) (A := X.A.in1) (I.ok.hd hc) it a hai its.toArray
    have hi : i = its.toArray.size := by simp; omega
    subst hi
    exact wpAny_pyNext_enum_endD D he ⟨hit, pt⟩ fun h' eb => ⟨rfl, I.turned (t' := s.toks) (fun b o hb q => eb b o hb q) f0 f1 f3 f4 f5⟩
  self := fun A i s Q E st h => let ⟨⟨_, he⟩, _⟩ := st; wpAny_pyIter_enum he h
def chrs (z : Str) : List V := z.cps.toList.map fun c => .str ⟨#[c]⟩
theorem turn_enumS {P : Program} {w : World} {K : PySem.W.Frag} {elts : List Expr} {kk : Nat} {tpos : Pos} (z : Str) (t : Tok) (e it : Addr) :
    Turn P w K (.Tuple elts kk tpos) (IteX fun _ xs => xs = chrs z) [e, it] e (fun i h => (∃ old, IsEnum h e it ((i : Nat) : Int) old) ∧ h.IsStrIter it (strIterType z) z t i ∧ e ≠ it) where
  mem := by simp
  obj := fun i h st b hb => by
    obtain ⟨⟨old, he⟩, ⟨o, ho, hc, hd⟩, _⟩ := st
    have e' : b = e ∨ b = it := by simpa using hb
    rcases e' with z | z
    · rw [z]; exact ⟨_, he, fun v q => nomatch q⟩
    · rw [z]; exact ⟨o, ho, fun v q => by rw [hd] at q; cases q⟩
  keep := fun i h h' st k => let ⟨⟨old, he⟩, ⟨o, ho, r⟩, hne⟩ := st; ⟨⟨old, k e (by simp) _ he⟩, ⟨o, k it (by simp) o ho, r⟩, hne⟩
  item := by
    intro X hP hw hK hc i pins s σ H E I hf st hg
    subst hP hw hK
    obtain ⟨⟨old, he⟩, hit, hne⟩ := st
    obtain ⟨xs, x, rfl, hx⟩ := hg
    have hel : e < s.heap.objs.size := Heap.lt_size he
    have hil : it < s.heap.objs.size := by obtain ⟨_, q, _⟩ := hit; exact Heap.lt_size q
    have D := Draws.text (prog := X.prog) (w := X.w) (A := X.A.in1) (I.ok.hd hc) it z t
    have hi : i < z.cps.size := by
      have := (List.getElem?_eq_some_iff.mp hx).1
      simpa [chrs] using this
    refine wpAny_pyNext_enum_itemD D he hit hi hne (by simp [hne]) fun y h' tk hy ho hst' hT hsz hk => ?_
    obtain ⟨ch, u, hch, rfl⟩ := hy
    have hxe : x = .str ⟨#[ch]⟩ := by
      have h3 : z.cps.toList[i]? = some ch := by simpa using hch
      unfold chrs at hx
      rw [List.getElem?_map, h3] at hx
      exact (Option.some.inj hx).symm
    subst hxe
    refine ⟨_, rfl, wpAny_letOwnedTupleGo_enum (s := { s with heap := h', toks := tk + 1 }) ho fun h'' he' sb => ?_⟩
    have hT2 : h''.get? s.heap.objs.size = some { cls := .type "tuple", data := .seq #[.int i tk, .str ⟨#[ch]⟩ u] } := (sb.2 _ (Nat.ne_of_gt hel)).trans hT
    have new : ObjOk X.prog X.w (upd H s.heap.objs.size (.tup [.int (i : Nat), .str ⟨#[ch]⟩])) h'' s.heap.objs.size (.tup [.int (i : Nat), .str ⟨#[ch]⟩]) :=
      ⟨by show 2 ≤ sizeLine; decide, [.int i tk, .str ⟨#[ch]⟩ u], .cons ⟨_, rfl⟩ (.cons ⟨_, rfl⟩ .nil), ⟨_, hT2, rfl, _, rfl⟩⟩
    have I1 : Inv X pins σ (upd H s.heap.objs.size (.tup [.int (i : Nat), .str ⟨#[ch]⟩])) { s with heap := h'', toks := tk + 1 } :=
      I.turnedNew (ch := [e, it]) (fun b ob hb q => (sb.2 b (fun z => hb (by simp [z]))).trans (hk b ob (fun z => hb (by simp [z])) (fun z => hb (by simp [z])) q)) hf (Nat.le_refl _) new
    refine ⟨.ref s.heap.objs.size, _, I1, rfl, ⟨_, .str ⟨#[ch]⟩, rfl, I.hok.fresh (Nat.le_refl _), rfl, fun ys hy => by rw [hy]; exact hx⟩, ⟨⟨.str ⟨#[ch]⟩ u, ?_⟩, ?_, hne⟩, fun b hb => ?_⟩
    · have e1 : ((i + 1 : Nat) : Int) = (i : Int) + 1 := by omega
      rw [e1]; exact he'
    · obtain ⟨o, h1, r⟩ := hst'
      exact ⟨o, (sb.2 it (Ne.symm hne)).trans h1, r⟩
    · have hb' : b < s.heap.objs.size := by
        have e' : b = e ∨ b = it := by simpa using hb
        rcases e' with z | z
        · rw [z]; exact hel
        · rw [z]; exact hil
      rw [upd_ne (Nat.ne_of_lt hb')]
      exact (hf b hb).1
  done := by
    intro X hP hw hK hc i pins s σ H E I hf st hg
    subst hP hw hK
    obtain ⟨⟨old, he⟩, hit, hne⟩ := st
    obtain ⟨xs, rfl, hx⟩ := hg
    obtain ⟨f0, f1, f2, f3, f4, f5⟩ := hf it (by simp)
    have D := Draws.text (prog := X.prog) (w := X.w) (A := X.A.in1) (I.ok.hd hc) it z t
    have hi : i = z.cps.size := by rw [← hx]; simp [chrs]
    subst hi
    exact wpAny_pyNext_enum_endD D he hit fun h' eb => ⟨rfl, I.turned (t' := s.toks) (fun b o hb q => eb b o hb q) f0 f1 f3 f4 f5⟩
  self := fun A i s Q E st h => let ⟨⟨_, he⟩, _⟩ := st; wpAny_pyIter_enum he h
def iEnumA (K : PySem.W.Frag) (ta : TA) : TI := fun σ H R => ta σ H fun vs H1 => (∃ a xs, vs = [.ref a] ∧ SqL K H1 a xs ∧ R (Ite K a) H1) ∨ (∃ a xs, vs = [.ref a] ∧ SqT K H1 a xs ∧ R (IteX fun H xs => SqT K H a xs) H1) ∨ ∃ z, vs = [.str z] ∧ R (IteX fun _ xs => xs = chrs z) H1
theorem pi_enumA {X : Cx} {e : Expr} {ta : TA} {p pos tpos : Pos} {elts : List Expr} {kk : Nat} (hg : Gl X "enumerate") (hm : X.mg "enumerate" = none) (ha : PA X [e] ta) (hs : starEach [e] X.env = [(false, eval e X.env)] := by rfl) :
    PI X (.Tuple elts kk tpos) (.Call (.Name "enumerate" p) [e] [] pos) (iEnumA X.K ta) := by
  refine ⟨fun pins s σ H R I h => ?_⟩
  refine Call_ (ld_blt I hg hm boot_enumerate (PyProof.Rows.callWith_type1 (thn (ha.run pos pins s σ H _ I h) fun us s1 ⟨vs, H1, I1, r1, q1⟩ => ?_) hs rfl))
  have fpok : ∀ b ∈ [s1.heap.objs.size + 1, s1.heap.objs.size], FpOk X pins H1 b := fun b hb => by
    have e' : b = s1.heap.objs.size + 1 ∨ b = s1.heap.objs.size := by simpa using hb
    have hle : s1.heap.objs.size ≤ b := by
      rcases e' with z | z
      · rw [z]; exact Nat.le_add_right _ _
      · rw [z]; exact Nat.le_refl _
    exact I1.fpOk hle (I1.hok.fresh hle)
  rcases q1 with ⟨a, xs, ex, hq, q⟩ | ⟨a, xs, ex, hq, q⟩ | ⟨z, ex, q⟩
  · subst ex
    cases r1 with
    | cons r rr =>
      cases rr
      cases r
      obtain ⟨its, rv, p', hz⟩ := I1.list hq
      refine call_enumerate_list p'.isList fun h' he hit hsz hk => wpAny_pyIter_enum he ?_
      have I2 : Inv X pins σ H1 { s1 with heap := h' } := I1.kept (t' := s1.toks) hk
      exact ⟨s1.heap.objs.size + 1, [s1.heap.objs.size + 1, s1.heap.objs.size], _, _, H1, rfl, I2, turn_enum a (s1.heap.objs.size + 1) s1.heap.objs.size, ⟨⟨.none, he⟩, hit, Nat.succ_ne_self _⟩, fpok, q⟩
  · subst ex
    cases r1 with
    | cons r rr =>
      cases rr
      cases r
      obtain ⟨its, rv, p', hz⟩ := I1.tuple hq
      refine PdE.call_enumerate_any (begins_tuple a its.toArray) p' fun h' he hit hsz hk => wpAny_pyIter_enum he ?_
      have I2 : Inv X pins σ H1 { s1 with heap := h' } := I1.kept (t' := s1.toks) hk
      exact ⟨s1.heap.objs.size + 1, [s1.heap.objs.size + 1, s1.heap.objs.size], _, _, H1, rfl, I2, turn_enumT a (s1.heap.objs.size + 1) s1.heap.objs.size, ⟨⟨.none, he⟩, ⟨_, hit, rfl, rfl⟩, Nat.succ_ne_self _⟩, fpok, q⟩
  · subst ex
    cases r1 with
    | cons r rr =>
      cases rr
      obtain ⟨t, rfl⟩ := r
      refine call_enumerate_str fun h' he hit hsz hk => wpAny_pyIter_enum he ?_
      have I2 : Inv X pins σ H1 { s1 with heap := h' } := I1.kept (t' := s1.toks) hk
      exact ⟨s1.heap.objs.size + 1, [s1.heap.objs.size + 1, s1.heap.objs.size], _, _, H1, rfl, I2, turn_enumS z t (s1.heap.objs.size + 1) s1.heap.objs.size, ⟨⟨.none, he⟩, hit, Nat.succ_ne_self _⟩, fpok, q⟩
def enumD (ds : List D) : List D := ds.mapIdx fun i d => .tuple [.int (i : Nat), d]
section
variable {X : Cx} {c : Cfg} {W : XK}
theorem jok_pair {K : PySem.W.Frag} {J : It} {v : V} {d0 : D} {ds : List D} (h : ∀ F H, Same F H → Rp K F v d0 → ∃ xs : List V, RpA K F xs ds ∧ (∀ (i : Nat) x, xs[i]? = some x → J.go i H ∧ ∀ y H', J.yld i H y H' → ∃ T, y = .ref T ∧ H T = none ∧ H' = upd H T (.tup [.int (i : Nat), x])) ∧ J.stop xs.length H) : JOk K J v d0 (enumD ds) := by
  intro F H s q
  obtain ⟨xs, q1, q2, q3⟩ := h F H s q
  refine ⟨fun i d hd => ?_, ?_⟩
  · unfold enumD at hd
    rw [List.getElem?_mapIdx] at hd
    cases e : ds[i]? with
    | none => rw [e] at hd; cases hd
    | some d' =>
      rw [e] at hd
      cases hd
      obtain ⟨x, e1, qx⟩ := q1.get e
      obtain ⟨go, yl⟩ := q2 i x e1
      refine ⟨go, fun y H' hy => ?_⟩
      obtain ⟨T, rfl, hT, rfl⟩ := yl y H' hy
      have g := Grow.lay (o := .tup [.int (i : Nat), x]) s hT
      exact ⟨_, g, .tup (.of upd_same) (.cons (.int _) (.cons (Rp.mono g.f _ _ qx) .nil))⟩
  · have : (enumD ds).length = xs.length := by unfold enumD; rw [List.length_mapIdx, q1.len]
    rw [this]; exact q3
def dEn (da : DAs) : DI := fun ρ => match da ρ with
  | .ok os ρ1 => (match frzA ρ1 os with
    | some ([x], ρ2) => (match itemsD x with
      | some ds => .ok x (enumD ds) ρ2
      | none => .no)
    | _ => .no)
  | .ex x ρ1 => .ex x ρ1
  | .no => .no
theorem ri_enum {ta : TA} {da : DAs} (ha : RA c W ta da) : RI c W (iEnumA c.K ta) (dEn da) := by
  intro τ σ ρ F H Q hl r h
  unfold dEn at h
  refine ha τ σ ρ F H _ hl r ?_
  cases e : da ρ with
  | no => rw [e] at h; exact h.elim
  | ex x ρ1 => rw [e] at h; exact h
  | ok os ρ1 =>
    rw [e] at h
    intro vs F1 H1 hl1 hh r1
    simp only at h
    cases e1 : frzA ρ1 os with
    | none => rw [e1] at h; exact h.elim
    | some p =>
      obtain ⟨ds, ρ2⟩ := p
      obtain ⟨F2, s2, hl2, q, r2⟩ := R.frzA hl1 hh r1 e1
      rw [e1] at h
      match ds, h, q with
      | [x], h, q =>
        cases q with
        | @cons v _ _ _ q qn =>
          cases qn
          simp only at h
          cases x with
          | list ds =>
            obtain ⟨a, xs, rfl, h1, q1⟩ := Rr.lst r2.sub (.inl q)
            refine .inl ⟨a, xs, rfl, .inl h1, h _ _ F2 H1 hl2 (r2.addV q) (jok_pair fun F H s q => ?_)⟩
            obtain ⟨a', xs, e, h1, q1⟩ := Rr.lst s (.inl q)
            cases e
            refine ⟨xs, q1, fun i x hx => ⟨⟨xs, x, .inl h1, hx⟩, fun y H' hy => ?_⟩, xs, .inl h1, Nat.le_refl _⟩
            obtain ⟨T, x', rfl, hT, rfl, hx'⟩ := hy
            have := hx' xs (.inl h1)
            rw [hx] at this
            cases this
            exact ⟨T, rfl, hT, rfl⟩
          | tuple ds =>
            obtain ⟨a, xs, rfl, h1, q1⟩ := Rr.tup r2.sub (.inl q)
            refine .inr (.inl ⟨a, xs, rfl, h1, h _ _ F2 H1 hl2 (r2.addV q) (jok_pair fun F H s q => ?_)⟩)
            obtain ⟨a', xs, e, h1, q1⟩ := Rr.tup s (.inl q)
            cases e
            refine ⟨xs, q1, fun i x hx => ⟨⟨xs, x, h1, hx⟩, fun y H' hy => ?_⟩, xs, h1, rfl⟩
            obtain ⟨T, x', rfl, hT, rfl, hx'⟩ := hy
            have := hx' xs h1
            rw [hx] at this
            cases this
            exact ⟨T, rfl, hT, rfl⟩
          | str z =>
            have qq : Rr c.K F2 H1 v (.str z) := .inl q
            cases qq.str
            refine .inr (.inr ⟨z, rfl, h _ _ F2 H1 hl2 (r2.addV q) (jok_pair fun F H s q => ?_)⟩)
            refine ⟨chrs z, ?_, fun i x hx => ⟨⟨_, x, rfl, hx⟩, fun y H' hy => ?_⟩, _, rfl, rfl⟩
            · refine RpA.mk (by simp [chrs]) fun i v d h1 h2 => ?_
              unfold chrs at h1
              rw [List.getElem?_map] at h1 h2
              cases e : z.cps.toList[i]? with
              | none => rw [e] at h1; cases h1
              | some ch => rw [e] at h1 h2; cases h1; cases h2; exact .str _
            · obtain ⟨T, x', rfl, hT, rfl, hx'⟩ := hy
              have := hx' _ rfl
              rw [hx] at this
              cases this
              exact ⟨T, rfl, hT, rfl⟩
          | _ => exact h.elim
theorem di_enum {e : Expr} {da : DAs} {p pos tpos : Pos} {elts : List Expr} {kk : Nat} (hK : c.K = X.K) (hm : X.mg "enumerate" = none) (ha : DXA X c W [e] da) (hg : Gl X "enumerate" := by rfl) (hs : starEach [e] X.env = [(false, eval e X.env)] := by rfl) : DXI X c W (.Tuple elts kk tpos) (.Call (.Name "enumerate" p) [e] [] pos) (dEn da) := by
  obtain ⟨t, q, r⟩ := ha
  have k := ri_enum r
  rw [hK] at k
  exact ⟨_, pi_enumA hg hm q hs, k⟩
end
end PD

set_option Elab.async false
set_option linter.all false
set_option maxRecDepth 100000
set_option maxHeartbeats 2000000
/-! PdI: built-in functions and classes, methods of texts, isinstance; raise. -/
namespace PD
open PySem PySem.Spec PyProof.Rows L2
section
variable {K : PySem.W.Frag} {F H : Hp} {X : Cx}
/-! ### len, list, tuple, int, abs, all, any, sum -/
def oLen : List D → VO
  | [.list ds] => .v (.int (ds.length : Nat))
  | [.tuple ds] => .v (.int (ds.length : Nat))
  | [.str z] => if z.length ≤ 100000 then .v (.int (z.length : Nat)) else .no
  | _ => .no
theorem vok_len : VOk K (fun xs H Q => ∃ x n, xs = [x] ∧ LenV K x H n ∧ Q (.int (n : Nat)) H) oLen := by
  intro F H vs ds Q s rr hp
  unfold oLen at hp
  split at hp
  · rename_i ds
    cases rr with
    | cons h1 h2 =>
      cases h2
      obtain ⟨a, xs, rfl, h1, q⟩ := h1.lst s
      exact ⟨_, ds.length, rfl, .inl ⟨xs, .inl h1, q.len.symm⟩, PostV.here s hp (.int _)⟩
  · rename_i ds
    cases rr with
    | cons h1 h2 =>
      cases h2
      obtain ⟨a, xs, rfl, h1, q⟩ := h1.tup s
      exact ⟨_, ds.length, rfl, .inr ⟨xs, h1, q.len.symm⟩, PostV.here s hp (.int _)⟩
  · rename_i z
    cases rr with
    | cons h1 h2 =>
      cases h2
      cases h1.str
      split at hp
      · rename_i hz
        exact ⟨_, z.length, rfl, ⟨szl hz, rfl⟩, PostV.here s hp (.int _)⟩
      · exact hp.elim
  · exact hp.elim
def oList : List D → VO
  | [.list ds] => .n (.list ds)
  | [.tuple ds] => .n (.list ds)
  | _ => .no
theorem vok_list : VOk K (fun xs H Q => ∃ p ys, xs = [.ref p] ∧ (SqL K H p ys ∨ SqT K H p ys) ∧ ∀ l, H l = none → Q (.ref l) (upd H l (.lst ys))) oList := by
  intro F H vs ds Q s rr hp
  unfold oList at hp
  split at hp
  · rename_i ds
    cases rr with
    | cons h1 h2 =>
      cases h2
      obtain ⟨a, xs, rfl, h1, q⟩ := h1.lst s
      exact ⟨a, xs, rfl, .inl (.inl h1), fun l hl => PostV.lst s hp q hl⟩
  · rename_i ds
    cases rr with
    | cons h1 h2 =>
      cases h2
      obtain ⟨a, xs, rfl, h1, q⟩ := h1.tup s
      exact ⟨a, xs, rfl, .inr h1, fun l hl => PostV.lst s hp q hl⟩
  · exact hp.elim
def oTuple : List D → VO
  | [.list ds] => .v (.tuple ds)
  | [.tuple ds] => .v (.tuple ds)
  | _ => .no
theorem vok_tuple : VOk K (fun xs H Q => ∃ p ys, xs = [.ref p] ∧ ((SqL K H p ys ∧ ∀ l, H l = none → Q (.ref l) (upd H l (.tup ys))) ∨ (SqT K H p ys ∧ Q (.ref p) H))) oTuple := by
  intro F H vs ds Q s rr hp
  unfold oTuple at hp
  split at hp
  · rename_i ds
    cases rr with
    | cons h1 h2 =>
      cases h2
      obtain ⟨a, xs, rfl, h1, q⟩ := h1.lst s
      exact ⟨a, xs, rfl, .inl ⟨.inl h1, fun l hl => PostV.tup s hp q hl⟩⟩
  · rename_i ds
    cases rr with
    | cons h1 h2 =>
      cases h2
      have h0 := h1
      obtain ⟨a, xs, rfl, h1, q⟩ := h1.tup s
      refine ⟨a, xs, rfl, .inr ⟨h1, ?_⟩⟩
      rcases h0 with h0 | ⟨_, _, _, _, h0⟩
      · exact PostV.here s hp h0
      · cases h0
  · exact hp.elim
def oInt : List D → VO
  | [.int i] => .v (.int i)
  | [.bool b] => .v (.int (if b then 1 else 0))
  | _ => .no
theorem vok_int : VOk K (fun xs H Q => (∃ i, xs = [.int i] ∧ Q (.int i) H) ∨ ∃ k : Bool, xs = [.bl k] ∧ Q (.int (if k then 1 else 0)) H) oInt := by
  intro F H vs ds Q s rr hp
  unfold oInt at hp
  split at hp
  · rename_i i
    cases rr with
    | cons h1 h2 =>
      cases h2
      cases h1.int
      exact .inl ⟨i, rfl, PostV.here s hp (.int _)⟩
  · rename_i b
    cases rr with
    | cons h1 h2 =>
      cases h2
      cases h1.bl
      exact .inr ⟨b, rfl, PostV.here s hp (.int _)⟩
  · exact hp.elim
def oAbs : List D → VO
  | [.int i] => .v (.int (if i < 0 then -i else i))
  | _ => .no
theorem vok_abs : VOk K (fun xs H Q => ∃ i, xs = [.int i] ∧ Q (.int (if i < 0 then -i else i)) H) oAbs := by
  intro F H vs ds Q s rr hp
  unfold oAbs at hp
  split at hp
  · rename_i i
    cases rr with
    | cons h1 h2 =>
      cases h2
      cases h1.int
      exact ⟨i, rfl, PostV.here s hp (.int _)⟩
  · exact hp.elim
/-- all bools, all ints, all texts -/
def blsOf : List D → Option (List Bool)
  | [] => some []
  | .bool b :: ds => (match blsOf ds with
    | some bs => some (b :: bs)
    | none => none)
  | _ => none
theorem blsOf_ok : ∀ {vs : List V} {ds : List D} {bs : List Bool}, RpA K F vs ds → blsOf ds = some bs → vs = bs.map V.bl
  | [], _, bs, h, e => by cases h; cases e; rfl
  | v :: vs, d :: ds, bs, h, e => by
    cases h with
    | cons h1 h2 =>
      cases d with
      | bool b =>
        simp only [blsOf] at e
        cases e2 : blsOf ds with
        | none => rw [e2] at e; cases e
        | some bs' =>
          rw [e2] at e
          cases e
          cases h1
          rw [blsOf_ok h2 e2]; rfl
      | _ => simp [blsOf] at e
def intsOf : List D → Option (List Int)
  | [] => some []
  | .int i :: ds => (match intsOf ds with
    | some bs => some (i :: bs)
    | none => none)
  | _ => none
theorem intsOf_ok : ∀ {vs : List V} {ds : List D} {bs : List Int}, RpA K F vs ds → intsOf ds = some bs → vs = bs.map V.int
  | [], _, bs, h, e => by cases h; cases e; rfl
  | v :: vs, d :: ds, bs, h, e => by
    cases h with
    | cons h1 h2 =>
      cases d with
      | int b =>
        simp only [intsOf] at e
        cases e2 : intsOf ds with
        | none => rw [e2] at e; cases e
        | some bs' =>
          rw [e2] at e
          cases e
          cases h1
          rw [intsOf_ok h2 e2]; rfl
      | _ => simp [intsOf] at e
def strsOf : List D → Option (List Str)
  | [] => some []
  | .str x :: ds => (match strsOf ds with
    | some bs => some (x :: bs)
    | none => none)
  | _ => none
theorem strsOf_ok : ∀ {vs : List V} {ds : List D} {bs : List Str}, RpA K F vs ds → strsOf ds = some bs → vs = bs.map V.str
  | [], _, bs, h, e => by cases h; cases e; rfl
  | v :: vs, d :: ds, bs, h, e => by
    cases h with
    | cons h1 h2 =>
      cases d with
      | str b =>
        simp only [strsOf] at e
        cases e2 : strsOf ds with
        | none => rw [e2] at e; cases e
        | some bs' =>
          rw [e2] at e
          cases e
          cases h1
          rw [strsOf_ok h2 e2]; rfl
      | _ => simp [strsOf] at e
theorem blsOf_map (bs : List Bool) : blsOf (bs.map .bool) = some bs := by
  induction bs with
  | nil => rfl
  | cons b bs ih => simp [blsOf, ih]
theorem intsOf_map (bs : List Int) : intsOf (bs.map .int) = some bs := by
  induction bs with
  | nil => rfl
  | cons b bs ih => simp [intsOf, ih]
theorem strsOf_map (bs : List Str) : strsOf (bs.map .str) = some bs := by
  induction bs with
  | nil => rfl
  | cons b bs ih => simp [strsOf, ih]
def oAll : List D → VO
  | [.list ds] => (match blsOf ds with
    | some bs => .v (.bool (bs.all id))
    | none => .no)
  | _ => .no
theorem vok_all : VOk K (rAll K) oAll := by
  intro F H vs ds Q s rr hp
  unfold oAll at hp
  split at hp
  · rename_i ds
    cases rr with
    | cons h1 h2 =>
      cases h2
      obtain ⟨a, xs, rfl, h1, q⟩ := h1.lst s
      cases e : blsOf ds with
      | none => rw [e] at hp; exact hp.elim
      | some bs =>
        rw [e] at hp
        have := blsOf_ok q e
        subst this
        exact ⟨a, bs, rfl, .inl h1, PostV.here s hp (.bl _)⟩
  · exact hp.elim
def oAny : List D → VO
  | [.list ds] => (match blsOf ds with
    | some bs => .v (.bool (bs.any id))
    | none => .no)
  | _ => .no
theorem vok_any : VOk K (rAny K) oAny := by
  intro F H vs ds Q s rr hp
  unfold oAny at hp
  split at hp
  · rename_i ds
    cases rr with
    | cons h1 h2 =>
      cases h2
      obtain ⟨a, xs, rfl, h1, q⟩ := h1.lst s
      cases e : blsOf ds with
      | none => rw [e] at hp; exact hp.elim
      | some bs =>
        rw [e] at hp
        have := blsOf_ok q e
        subst this
        exact ⟨a, bs, rfl, .inl h1, PostV.here s hp (.bl _)⟩
  · exact hp.elim
def oSum : List D → VO
  | [.list ds] => (match intsOf ds with
    | some bs => .v (.int bs.sum)
    | none => .no)
  | _ => .no
theorem vok_sum : VOk K (rSum K) oSum := by
  intro F H vs ds Q s rr hp
  unfold oSum at hp
  split at hp
  · rename_i ds
    cases rr with
    | cons h1 h2 =>
      cases h2
      obtain ⟨a, xs, rfl, h1, q⟩ := h1.lst s
      cases e : intsOf ds with
      | none => rw [e] at hp; exact hp.elim
      | some bs =>
        rw [e] at hp
        have := intsOf_ok q e
        subst this
        exact ⟨a, bs, rfl, .inl h1, PostV.here s hp (.int _)⟩
  · exact hp.elim

/-! ### isinstance -/
def tyN : D → String
  | .none => "NoneType"
  | .bool _ => "bool"
  | .int _ => "int"
  | .str _ => "str"
  | .list _ => "list"
  | .tuple _ => "tuple"
  | .dict _ => "dict"
def isD : D → Bool
  | .dict _ => true
  | _ => false
theorem tyN_ok {v : V} {d : D} (s : Same F H) (h : Rr K F H v d) (hd : isD d = false) : TyX K H v (.type (tyN d)) := by
  cases d with
  | none => cases h.non; exact .base .non
  | bool b => cases h.bl; exact .base (.bl _)
  | int i => cases h.int; exact .base (.int _)
  | str x => cases h.str; exact .base (.str _)
  | list ds =>
    obtain ⟨a, xs, rfl, h1, q⟩ := h.lst s
    rcases h1 with h1 | ⟨o, h1⟩
    · exact .base (.lst h1)
    · exact .base (.frz h1)
  | tuple ds =>
    obtain ⟨a, xs, rfl, h1, q⟩ := h.tup s
    rcases h1 with (h1 | ⟨o, h1⟩) | ⟨o, _, _, h1, h2, _⟩
    · exact .base (.tup h1)
    · exact .fTuple h1
    · exact .kTuple h1 h2
  | dict es => cases hd
def rIsi1 (K : PySem.W.Frag) (T : String) : List V → Hp → VK → Prop := fun vs H Q => match vs with
  | [x] => rIsi K [x, .ty T] H Q
  | _ => False
def oIsi (T : String) : List D → VO
  | [d] => if isD d = true then .no else (match kitB (tyN d) T with
    | some b => .v (.bool b)
    | none => .no)
  | _ => .no
theorem vok_isi {T : String} : VOk K (rIsi1 K T) (oIsi T) := by
  intro F H vs ds Q s rr hp
  unfold oIsi at hp
  split at hp
  · rename_i d
    cases rr with
    | cons h1 h2 =>
      cases h2
      split at hp
      · exact hp.elim
      · rename_i hd
        cases e : kitB (tyN d) T with
        | none => rw [e] at hp; exact hp.elim
        | some b =>
          rw [e] at hp
          exact ⟨_, .ty T, .type (tyN d), .type T, b, rfl, .ty T, tyN_ok s h1 (by simpa using hd), kit_ty e, PostV.here s hp (.bl _)⟩
  · exact hp.elim
end
section
variable {X : Cx} {c : Cfg} {W : XK}
theorem dx_isi {T : String} {x : Str} {e : Expr} {d : DE} {p pt pos : Pos} (hK : c.K = X.K) (hm : X.mg "isinstance" = none) (hm2 : X.mg x = none) (he : DX X c W e d) (hg : Gl X "isinstance" := by rfl) (hg2 : Gl X x := by rfl) (hb : bootBuiltins x = some (.type T) := by decide +kernel)
    (hn : x ≠ "__name__" := by decide) (hdb : (x == ("__debug__" : Str)) = false := by decide)
    (hs1 : starEach [e, .Name x pt] X.env = (false, eval e X.env) :: starEach [.Name x pt] X.env := by rfl) (hs2 : starEach [.Name x pt] X.env = (false, eval (.Name x pt) X.env) :: starEach [] X.env := by rfl) (hpl : (backTo pos (starEach [.Name x pt] X.env)).any (·.1) = false := by rfl) :
    DX X c W (.Call (.Name "isinstance" p) [e, .Name x pt] [] pos) (dOp (oIsi T) (daC d daN)) := by
  obtain ⟨t, pe, re⟩ := he
  have q := re_op (c := c) (W := W) (vok_isi (K := c.K) (T := T)) (ra_cons re ra_nil)
  rw [hK] at q
  refine ⟨_, pe_callB call_isi hg hm (by decide +kernel) (pa_cons pe (pa_cons (pe_bltn (v := .ty T) hg2 hm2 hb rfl hn hdb) pa_nil hs2) hs1) (by decide) (by decide) hs1 hpl, fun τ σ ρ F H Q hl r h => ?_⟩
  exact q τ σ ρ F H Q hl r h

/-! ### methods of texts -/
def rM (r : V → List V → Hp → VK → Prop) : List V → Hp → VK → Prop := fun vs H Q => match vs with
  | x :: xs => r x xs H Q
  | [] => False
def isStr : D → Bool
  | .str _ => true
  | _ => false
/-- the receiver is a text as soon as it is reckoned -/
def dStr (d : DE) : DE := fun ρ => match d ρ with
  | .ok (.t (.val (.str x))) ρ1 => .ok (.t (.val (.str x))) ρ1
  | .ex x ρ1 => .ex x ρ1
  | _ => .no
theorem re_str {te : TE} {d : DE} (he : RE c W te d) : RE c W (fun σ H Q => te σ H fun x H1 => (∃ a, x = .str a) ∧ Q x H1) (dStr d) := by
  intro τ σ ρ F H Q hl r h
  unfold dStr at h
  refine he τ σ ρ F H _ hl r ?_
  cases e : d ρ with
  | no => rw [e] at h; exact h.elim
  | ex x ρ1 => rw [e] at h; exact h
  | ok o ρ1 =>
    rw [e] at h
    cases o with
    | p i => exact h.elim
    | t s =>
      cases s with
      | no => exact h.elim
      | own d' => exact h.elim
      | val d' =>
        cases d' with
        | str i =>
          intro v F1 H1 hl1 r1
          have q : Rp c.K F1 v (.str i) := r1.ok _ List.mem_cons_self
          cases q
          exact ⟨⟨i, rfl⟩, h (.str i) F1 H1 hl1 r1⟩
        | _ => exact h.elim
theorem dx_m1 {id : String} {name : Str} {o e : Expr} {d de : DE} {r : V → List V → Hp → VK → Prop} {f : List D → VO} {apos pos : Pos} (slot : Slot "str" name id) (ty : typeOf (.builtin id) = pure (.type "method_descriptor")) (rule : MtR X id r) (hv : VOk c.K (rM r) f) (ho : DX X c W o d) (he : DX X c W e de)
    (hs : starEach [e] X.env = [(false, eval e X.env)] := by rfl) (hbase : attributeBase o name X.env (eval o X.env) = eval o X.env := by rfl) (hline : (apos.endLine == pos.line) = true := by rfl) :
    DX X c W (.Call (.Attribute o name apos) [e] [] pos) (dOp f (daC (dStr d) (daC de daN))) := by
  obtain ⟨t, p, q⟩ := ho
  obtain ⟨t2, p2, q2⟩ := he
  have k := re_op (c := c) (W := W) hv (ra_cons (re_str q) (ra_cons q2 ra_nil))
  refine ⟨_, pe_m1 slot ty rule p p2 hs hbase hline, fun τ σ ρ F H Q hl r h => ?_⟩
  have k' := k τ σ ρ F H Q hl r h
  exact k'
def oJoin : List D → VO
  | [.str a, .list ds] => (match strsOf ds with
    | some ys => if (ys.map (·.length)).sum + ys.length * a.length ≤ 100000 then .v (.str (Txt.join a ys)) else .no
    | none => .no)
  | _ => .no
theorem vok_join {K : PySem.W.Frag} : VOk K (rM fun x xs H Q => ∃ a p, ∃ ys : List Str, x = .str a ∧ xs = [.ref p] ∧ (SqL K H p (ys.map V.str) ∨ SqT K H p (ys.map V.str)) ∧
    (ys.map (·.length)).sum + ys.length * a.length ≤ 16777216 ∧ Q (.str (Txt.join a ys)) H) oJoin := by
  intro F H vs ds Q s rr hp
  unfold oJoin at hp
  split at hp
  · rename_i a ds
    cases rr with
    | cons h1 h2 =>
      cases h2 with
      | cons h2 h3 =>
        cases h3
        cases h1.str
        obtain ⟨p, xs, rfl, h1, q⟩ := h2.lst s
        cases e : strsOf ds with
        | none => rw [e] at hp; exact hp.elim
        | some ys =>
          rw [e] at hp
          simp only at hp
          split at hp
          · rename_i hz
            have := strsOf_ok q e
            subst this
            exact ⟨a, p, ys, rfl, rfl, .inl (.inl h1), by omega, PostV.here s hp (.str _)⟩
          · exact hp.elim
  · exact hp.elim
def oSplit : List D → VO
  | [.str a, .str b] => if b.length ≠ 0 ∧ a.length ≤ 100000 then .n (.list ((Txt.split a b).map .str)) else .no
  | _ => .no
theorem RpA.strs {K : PySem.W.Frag} {F : Hp} : ∀ xs : List Str, RpA K F (xs.map V.str) (xs.map PyData.str)
  | [] => .nil
  | x :: xs => .cons (.str x) (RpA.strs xs)
theorem vok_split {K : PySem.W.Frag} : VOk K (rM fun x xs H Q => ∃ a b, x = .str a ∧ xs = [.str b] ∧ (b.length == 0) = false ∧ a.length + 2 ≤ sizeLine ∧ rNewStrs (Txt.split a b) H Q) oSplit := by
  intro F H vs ds Q s rr hp
  unfold oSplit at hp
  split at hp
  · rename_i a b
    cases rr with
    | cons h1 h2 =>
      cases h2 with
      | cons h2 h3 =>
        cases h3
        cases h1.str
        cases h2.str
        split at hp
        · rename_i hz
          refine ⟨a, b, rfl, rfl, by simpa using hz.1, by rw [sizeLine_eq]; omega, fun p hp' => PostV.lst s hp (RpA.strs _) hp'⟩
        · exact hp.elim
  · exact hp.elim
def oSIndex : List D → VO
  | [.str a, .str b] => (match Builtin.Str.occurrences a b 0 a.length 1 with
    | i :: _ => .v (.int (i : Nat))
    | [] => .no)
  | _ => .no
theorem vok_sindex {K : PySem.W.Frag} : VOk K (rM fun x xs H Q => ∃ a b i rest, x = .str a ∧ xs = [.str b] ∧ Builtin.Str.occurrences a b 0 a.length 1 = i :: rest ∧ Q (.int (i : Nat)) H) oSIndex := by
  intro F H vs ds Q s rr hp
  unfold oSIndex at hp
  split at hp
  · rename_i a b
    cases rr with
    | cons h1 h2 =>
      cases h2 with
      | cons h2 h3 =>
        cases h3
        cases h1.str
        cases h2.str
        cases e : Builtin.Str.occurrences a b 0 a.length 1 with
        | nil => rw [e] at hp; exact hp.elim
        | cons i rest =>
          rw [e] at hp
          exact ⟨a, b, i, rest, rfl, rfl, e, PostV.here s hp (.int _)⟩
  · exact hp.elim

/-! ### an own exception class whose __init__ keeps its arguments; raise -/
def spI (K : PySem.W.Frag) (C : Addr) (fns : List Str) : Sp := fun vs H Q _ => ∃ (a : Addr) (ys : List V), vs = .ref a :: ys ∧ ys.length = fns.length ∧ H a = some (exo a C none) ∧
  ∀ (dx : Addr) (H2 : Hp), H dx = none → dx ≠ a → H2 a = some (exo a C (some dx)) → H2 dx = some (exd dx (fns.zip ys).reverse) → (∀ b, b ≠ a → b ≠ dx → H2 b = H b) → Q .non H2
structure ExcK (X : Cx) (x : Str) (C : Addr) (k : Nat) (fns : List Str) : Prop where
  ex : ∃ (fI : Addr) (fd : FuncData) (ps : List Str), OexC X.K C ∧ PySem.W.findIn X.K (.ref C) "__init__" = some (some (.ref fI)) ∧ PySem.W.typeIn X.K (.ref fI) = some (.type "function") ∧ FnOk X.prog X.w X.K X.mg X.base (L2.CX X.prog X.w) k fI fd ps (spI X.K C fns) ∧ Binds X.K fd ps [] ∧ X.mg x = some (.ref C)
def sRaise (x : Str) (fns : List Str) (da : DAs) : DS := fun ρ => match da ρ with
  | .ok os ρ1 => (match frzA ρ1 os with
    | some (ds, ρ2) => .ex ⟨x, (fns.zip ds).reverse⟩ ρ2
    | none => .no)
  | .ex x ρ1 => .ex x ρ1
  | .no => .no
theorem zip_fst {α β : Type} : ∀ (xs : List α) (ys : List β), xs.length = ys.length → (xs.zip ys).map (·.1) = xs
  | [], [], _ => rfl
  | x :: xs, y :: ys, h => by simp [zip_fst xs ys (by simpa using h)]
  | [], _ :: _, h => by simp at h
  | _ :: _, [], h => by simp at h
theorem zip_snd {α β : Type} : ∀ (xs : List α) (ys : List β), xs.length = ys.length → (xs.zip ys).map (·.2) = ys
  | [], [], _ => rfl
  | x :: xs, y :: ys, h => by simp [zip_snd xs ys (by simpa using h)]
  | [], _ :: _, h => by simp at h
  | _ :: _, [], h => by simp at h
theorem rs_raise {x : Str} {C : Addr} {fns : List Str} {ta : TA} {da : DAs} (hm : c.mg x = some (.ref C)) (hl' : daLen da fns.length) (hz : fns.length ≤ 1000) (ha : RA c W ta da) : RS c W (fun _ σ H => tMkO C (spI c.K C fns) [] ta σ H fun cls d H' => W cls d H') (sRaise x fns da) := by
  intro τ σ ρ F H Dn hl hp r h
  unfold sRaise at h
  refine ha τ σ ρ F H _ hl r ?_
  cases e : da ρ with
  | no => rw [e] at h; exact h.elim
  | ex x ρ1 => rw [e] at h; exact PostX'.of hp h
  | ok os ρ1 =>
    rw [e] at h
    intro vs F1 H1 hl1 hh r1
    simp only at h
    cases e1 : frzA ρ1 os with
    | none => rw [e1] at h; exact h.elim
    | some p =>
      obtain ⟨ds, ρ2⟩ := p
      rw [e1] at h
      obtain ⟨F2, s2, hl2, q, r2⟩ := R.frzA hl1 hh r1 e1
      have hv : vs.length = fns.length := by rw [← Held.len os vs hh]; exact hl' _ _ _ e
      refine ⟨by omega, fun a hna => ⟨a, vs, by rw [List.append_nil], hv, upd_same, fun dx H2 hdx ne ea ed ho => ⟨rfl, dx, _, ea, ed, ?_, ?_⟩⟩⟩
      · rw [upd_ne ne] at hdx; exact hdx
      · have hd1 : H1 dx = none := by rw [upd_ne ne] at hdx; exact hdx
        have eH : upd (del H2 a) dx (.xd (fns.zip vs).reverse) = upd H1 dx (.xd (fns.zip vs).reverse) := by
          funext b
          by_cases hb : b = dx
          · subst hb; rw [upd_same, upd_same]
          · rw [upd_ne hb, upd_ne hb]
            by_cases hba : b = a
            · subst hba; rw [del_same]; exact hna.symm
            · rw [del_ne hba, ho b hba hb, upd_ne hba]
        rw [eH]
        have g := Grow.new1 (o := .xd (fns.zip vs).reverse) r2.sub hd1
        have hl2' := q.len
        refine h (.ref C) (some dx) σ F2 _ hl2 hp ⟨hm, dx, _, rfl, upd_same, ?_, ?_⟩ (r2.grow g)
        · rw [List.map_reverse, List.map_reverse, zip_fst _ _ hv.symm, zip_fst _ _ (by omega)]
        · rw [List.map_reverse, List.map_reverse, zip_snd _ _ hv.symm, zip_snd _ _ (by omega)]
          exact q.rev
theorem ds_raise {x : Str} {C : Addr} {k : Nat} {fns : List Str} {e : Expr} {es : List Expr} {da : DAs} {p pos pos2 : Pos} (T : ExcK X x C k fns) (hK : c.K = X.K) (hmg : c.mg = X.mg) (hr : Room (k + 1) X.A) (hx : Passes (L2.CX X.prog X.w) X WF) (tk : Takes X (fun cls d _ H => W cls d H)) (hc : X.calm = true) (ha : DXA X c W (e :: es) da) (hl : daLen da fns.length) (hz : fns.length ≤ 1000 := by decide) (hg : Gl X x := by rfl)
    (hdb : (x == ("__debug__" : Str)) = false := by decide) (he : starEach (e :: es) X.env = (false, eval e X.env) :: starEach es X.env := by rfl) (hpl : (backTo pos (starEach es X.env)).any (·.1) = false := by rfl) :
    DSt X c W (.Raise (some (.Call (.Name x p) (e :: es) [] pos)) none pos2) (sRaise x fns da) := by
  obtain ⟨t, pa, ra⟩ := ha
  obtain ⟨fI, fd, ps, h1, h2, h3, h4, h5, h6⟩ := T.ex
  have q := rs_raise (x := x) (C := C) (fns := fns) (by rw [hmg]; exact h6) hl hz ra
  rw [hK] at q
  exact ⟨_, ps_raise hc tk (pmk_oex h1 h2 h3 h4 hr h5 .nil hx hg h6 pa hdb he hpl), q⟩
end
end PD

set_option Elab.async false
set_option linter.all false
set_option maxRecDepth 100000
set_option maxHeartbeats 2000000
/-! PdJ: calls with keywords; an exception's class; try; the lambda that is refused; the law itself. -/
namespace PD
open PySem PySem.Spec PyProof.Rows L2
section
variable {X : Cx} {c : Cfg} {W : XK} {F H : Hp}
/-! ### keywords -/
def kb {α : Type} (n m : Nat) (us ws : List α) : List α := if us.length = n ∧ ws.length = m then us ++ ws else []
theorem kb_eq {α : Type} {n m : Nat} {us ws : List α} (h1 : us.length = n) (h2 : ws.length = m) : kb n m us ws = us ++ ws := if_pos ⟨h1, h2⟩
theorem kbinds_mk {K : PySem.W.Frag} {fd : FuncData} {ps ks : List Str} {n m : Nat} (hp : ps ≠ []) (h : ∀ (s : Shared) (us ws : List Value), us.length = n → ws.length = m → BindsTo s fd ⟨us, ks.zip ws⟩ (ps.zip (us ++ ws))) : KBinds K fd ps ks (kb n m) (kb n m) where
  to := fun s us ws _ hl => by
    by_cases hz : us.length = n ∧ ws.length = m
    · rw [kb_eq hz.1 hz.2]; exact h s us ws hz.1 hz.2
    · unfold kb at hl
      rw [if_neg hz] at hl
      cases ps with
      | nil => exact absurd rfl hp
      | cons p ps => cases hl
  rel := fun {vs us zs ws} r1 r2 => by
    unfold kb
    rw [r1.length, r2.length]
    by_cases hz : us.length = n ∧ ws.length = m
    · rw [if_pos hz, if_pos hz]; exact r1.append r2
    · rw [if_neg hz, if_neg hz]; exact .nil
structure CalK (X : Cx) (x : Str) (k : Nat) (ps : List Str) (sp : Sp) (n m : Nat) (ks : List Str) : Prop where
  ex : ∃ (f : Addr) (fd : FuncData), FnOk X.prog X.w X.K X.mg X.base (L2.CX X.prog X.w) k f fd ps sp ∧ X.mg x = some (.ref f) ∧ PySem.W.keepIn X.K (.ref f) = true ∧ KBinds X.K fd ps ks (kb n m) (kb n m)
def daApp (da dk : DAs) : DAs := fun ρ => match da ρ with
  | .ok os ρ1 => (match dk ρ1 with
    | .ok os' ρ2 => .ok (os ++ os') ρ2
    | .ex x ρ2 => .ex x ρ2
    | .no => .no)
  | .ex x ρ1 => .ex x ρ1
  | .no => .no
theorem daLen_app {da dk : DAs} {n m : Nat} (h1 : daLen da n) (h2 : daLen dk m) : daLen (daApp da dk) (n + m) := fun ρ os ρ1 e => by
  unfold daApp at e
  cases e1 : da ρ with
  | no => rw [e1] at e; cases e
  | ex x ρ2 => rw [e1] at e; cases e
  | ok os1 ρ2 =>
    rw [e1] at e
    simp only at e
    cases e2 : dk ρ2 with
    | no => rw [e2] at e; cases e
    | ex x ρ3 => rw [e2] at e; cases e
    | ok os2 ρ3 =>
      rw [e2] at e
      cases e
      rw [List.length_append, h1 _ _ _ e1, h2 _ _ _ e2]
theorem Held.app {σ : L2.St} : ∀ {os os' : List Od} {vs vs' : List V}, Held σ os vs → Held σ os' vs' → Held σ (os ++ os') (vs ++ vs')
  | [], _, [], _, _, k => k
  | .t s :: os, _, v :: vs, _, h, k => by
    have h' : Held σ os vs := h
    exact Held.app (os := os) (vs := vs) h' k
  | .p i :: os, _, v :: vs, _, h, k => ⟨h.1, Held.app (os := os) (vs := vs) h.2 k⟩
  | [], _, _ :: _, _, h, _ => h.elim
  | .t s :: os, _, [], _, h, _ => h.elim
  | .p i :: os, _, [], _, h, _ => h.elim
theorem temps_app {σ : L2.St} : ∀ {os os' : List Od} {vs vs' : List V}, Held σ os vs → temps (os ++ os') (vs ++ vs') = temps os vs ++ temps os' vs'
  | [], _, [], _, _ => rfl
  | .t s :: os, _, v :: vs, _, h => by
    have h' : Held σ os vs := h
    show _ :: temps (os ++ _) (vs ++ _) = _ :: (temps os vs ++ _)
    rw [temps_app h']
  | .p i :: os, _, v :: vs, _, h => by
    show temps (os ++ _) (vs ++ _) = temps os vs ++ _
    exact temps_app h.2
  | [], _, _ :: _, _, h => h.elim
  | .t s :: os, _, [], _, h => h.elim
  | .p i :: os, _, [], _, h => h.elim
theorem ra_app {n m : Nat} {ta tk : TA} {da dk : DAs} (h1 : daLen da n) (h2 : daLen dk m) (ha : RA c W ta da) (hk : RA c W tk dk) : RA c W (fun σ H Q => ta σ H fun vs H1 => tk σ H1 fun zs H2 => Q (kb n m vs zs) H2) (daApp da dk) := by
  intro τ σ ρ F H Q hl r h
  unfold daApp at h
  refine ha τ σ ρ F H _ hl r ?_
  cases e : da ρ with
  | no => rw [e] at h; exact h.elim
  | ex x ρ1 => rw [e] at h; exact h
  | ok os ρ1 =>
    rw [e] at h
    simp only at h
    intro vs F1 H1 hl1 hh r1
    refine hk (temps os vs ++ τ) σ ρ1 F1 H1 _ hl1 (by rw [List.append_assoc]; exact r1) ?_
    cases e2 : dk ρ1 with
    | no => rw [e2] at h; exact h.elim
    | ex x ρ2 =>
      rw [e2] at h
      exact fun cls dd F' H' hl' xr r' => h cls dd F' H' hl' xr (by rw [List.append_assoc] at r'; exact r'.dropTemps)
    | ok os2 ρ2 =>
      rw [e2] at h
      intro zs F2 H2 hl2 hh2 r2
      have k := h (vs ++ zs) F2 H2 hl2 (hh.app hh2) (by
        rw [temps_app hh]
        refine r2.permL ?_
        rw [List.append_assoc, List.append_assoc, ← List.append_assoc, ← List.append_assoc (temps os vs)]
        exact List.perm_append_comm.append_right _)
      show Q (kb n m vs zs) H2
      rw [kb_eq (by rw [← Held.len os vs hh]; exact h1 _ _ _ e) (by rw [← Held.len os2 zs hh2]; exact h2 _ _ _ e2)]
      exact k
theorem re_callK {n m : Nat} {f : List D → FO} {ta tk : TA} {da dk : DAs} (h1 : daLen da n) (h2 : daLen dk m) (ha : RA c W ta da) (hk : RA c W tk dk) : RE c W (tCallK (spP c.K c.mg false (n + m) f) (kb n m) W ta tk) (dCall f (daApp da dk)) := by
  intro τ σ ρ F H Q hl r h
  have q := re_call (f := f) (daLen_app h1 h2) (ra_app h1 h2 ha hk) τ σ ρ F H Q hl r h
  unfold tCallK
  unfold tCall at q
  simpa only [List.append_nil] using q
theorem dx_callK {x : Str} {k n m : Nat} {ps ks : List Str} {f : List D → FO} {e : Expr} {es : List Expr} {kws : List Keyword} {da dk : DAs} {p pos : Pos} (G : CalK X x k ps (spP X.K X.mg false (n + m) f) n m ks) (hK : c.K = X.K) (hmg : c.mg = X.mg) (hr : Room k X.A) (hx : Passes (L2.CX X.prog X.w) X W) (ha : DXA X c W (e :: es) da) (hl : daLen da n)
    (hk : DXK X c W kws dk) (hl2 : daLen dk m) (hg : Gl X x := by rfl) (hall : (backToKw pos (keywordEach kws X.env)).all (·.1.isSome) = true := by rfl) (hks : (backToKw pos (keywordEach kws X.env)).filterMap (·.1) = ks := by rfl)
    (hdb : (x == ("__debug__" : Str)) = false := by decide) (he : starEach (e :: es) X.env = (false, eval e X.env) :: starEach es X.env := by rfl)
    (hpl : ((backTo pos (starEach (e :: es) X.env)).any (·.1) || (backToKw pos (keywordEach kws X.env)).any (·.1.isNone)) = false := by rfl) : DX X c W (.Call (.Name x p) (e :: es) kws pos) (dCall f (daApp da dk)) := by
  obtain ⟨t, pa, ra⟩ := ha
  obtain ⟨t2, pk, rk⟩ := hk
  obtain ⟨fa, fd, h1, h2, h3, h4⟩ := G.ex
  have q := re_callK (f := f) hl hl2 ra rk
  rw [hK, hmg] at q
  exact ⟨_, pe_callK h1 hr hg h2 h3 h4 hx pa pk hall hks hdb he hpl, q⟩
theorem pe_callK0 {CX : CXT} {k : Nat} {f : Addr} {fd : FuncData} {ps ks : List Str} {sp : Sp} {E : XK} {x : Str} {p pos : Pos} {kws : List Keyword} {tk : TA} {g : List Value → List Value → List Value} {gV : List V → List V → List V} (F : FnOk X.prog X.w X.K X.mg X.base CX k f fd ps sp) (hr : Room k X.A) (hg : Gl X x) (hm : X.mg x = some (.ref f)) (hk : PySem.W.keepIn X.K (.ref f) = true) (hb : KBinds X.K fd ps ks g gV) (hx : Passes CX X E)
    (hkw : PK X kws tk) (hall : (backToKw pos (keywordEach kws X.env)).all (·.1.isSome) = true := by rfl) (hks : (backToKw pos (keywordEach kws X.env)).filterMap (·.1) = ks := by rfl)
    (hdb : (x == ("__debug__" : Str)) = false := by decide)
    (hpl : ((backTo pos (starEach [] X.env)).any (·.1) || (backToKw pos (keywordEach kws X.env)).any (·.1.isNone)) = false := by rfl) :
    PE X (.Call (.Name x p) [] kws pos) (tCallK sp gV E tNil tk) := by
  refine ⟨fun pins s σ H Q I h => ?_⟩
  refine wpAny_Call_Name_kw (ld_glob I hg hm ?_ hdb)
  refine PySem.W.callWith_KW0 (h₀ := X.base) I.ok.mod.kin hk hall ?_ hpl
  refine thn (hkw.run pos pins s σ H _ I h) fun ws s2 ⟨zs, H2, I2, rz, q2⟩ => ⟨I2.kIn, ?_⟩
  rw [hks]
  exact run_fnk (us := []) (vs := []) F hr hb hx I2 .nil rz q2
theorem dx_callK0 {x : Str} {k m : Nat} {ps ks : List Str} {f : List D → FO} {kws : List Keyword} {dk : DAs} {p pos : Pos} (G : CalK X x k ps (spP X.K X.mg false (0 + m) f) 0 m ks) (hK : c.K = X.K) (hmg : c.mg = X.mg) (hr : Room k X.A) (hx : Passes (L2.CX X.prog X.w) X W)
    (hk : DXK X c W kws dk) (hl2 : daLen dk m) (hg : Gl X x := by rfl) (hall : (backToKw pos (keywordEach kws X.env)).all (·.1.isSome) = true := by rfl) (hks : (backToKw pos (keywordEach kws X.env)).filterMap (·.1) = ks := by rfl)
    (hdb : (x == ("__debug__" : Str)) = false := by decide)
    (hpl : ((backTo pos (starEach [] X.env)).any (·.1) || (backToKw pos (keywordEach kws X.env)).any (·.1.isNone)) = false := by rfl) : DX X c W (.Call (.Name x p) [] kws pos) (dCall f (daApp daN dk)) := by
  obtain ⟨t2, pk, rk⟩ := hk
  obtain ⟨fa, fd, h1, h2, h3, h4⟩ := G.ex
  have q := re_callK (f := f) (c := c) (W := W) daLen_nil hl2 ra_nil rk
  rw [hK, hmg] at q
  exact ⟨_, pe_callK0 h1 hr hg h2 h3 h4 hx pk hall hks hdb hpl, q⟩

/-! ### one reading for all contexts -/
def tCan (c : Cfg) (W : XK) (d : DE) : TE := fun σ H Q => ∃ τ ρ F, σ.length = ρ.length ∧ R c F (τ ++ σ.zip ρ) H ∧ PostE c W τ σ Q (d ρ)
theorem DX.can {e : Expr} {d : DE} (h : DX X c W e d) : PE X e (tCan c W d) := by
  obtain ⟨t, p, q⟩ := h
  exact PD.PE.anti p fun σ H Q ⟨τ, ρ, F, hl, r, k⟩ => q τ σ ρ F H Q hl r k
def tCanA (c : Cfg) (W : XK) (d : DAs) : TA := fun σ H Q => ∃ τ ρ F, σ.length = ρ.length ∧ R c F (τ ++ σ.zip ρ) H ∧ PostA c W τ σ Q (d ρ)
theorem ra_can {d : DAs} : RA c W (tCanA c W d) d := fun τ σ ρ F H Q hl r h => ⟨τ, ρ, F, hl, r, h⟩
theorem DXA.can {es : List Expr} {d : DAs} (h : DXA X c W es d) : PA X es (tCanA c W d) := by
  obtain ⟨t, p, q⟩ := h
  exact ⟨fun pos pins s σ H Q I ⟨τ, ρ, F, hl, r, k⟩ => p.run pos pins s σ H Q I (q τ σ ρ F H Q hl r k)⟩

/-! ### an exception's fields -/
theorem lookup_rel {K : PySem.W.Frag} {f : Str} {dv : D} : ∀ {fs : List (Str × V)} {ds : List (Str × D)}, fs.map (·.1) = ds.map (·.1) → RpA K F (fs.map (·.2)) (ds.map (·.2)) → ds.lookup f = some dv → ∃ v, fs.lookup f = some v ∧ Rp K F v dv
  | [], [], _, _, h => by cases h
  | (a, v) :: fs, (b, d) :: ds, e, r, h => by
    simp only [List.map_cons, List.cons.injEq] at e
    obtain ⟨e1, e2⟩ := e
    subst e1
    cases r with
    | cons r1 r2 =>
      by_cases hf : (f == a) = true
      · have h' : some d = some dv := by simpa only [List.lookup, hf] using h
        cases h'
        exact ⟨v, by simp only [List.lookup, hf], r1⟩
      · have hf' : (f == a) = false := by simpa using hf
        have h' : ds.lookup f = some dv := by simpa only [List.lookup, hf'] using h
        obtain ⟨u, e3, e4⟩ := lookup_rel e2 r2 h'
        exact ⟨u, by simp only [List.lookup, hf']; exact e3, e4⟩
  | [], _ :: _, e, _, _ => by cases e
  | _ :: _, [], e, _, _ => by cases e
/-- what the written part says of an own class of exceptions, the names of its fields fns -/
structure ExcF (K : PySem.W.Frag) (mg : Str → Option Value) (cn : Str) (C : Addr) (fns : List Str) : Prop where
  gC : mg cn = some (.ref C)
  te : PySem.W.exmOne K (.ref C) (.ref C) = some true
  xf : XfC K C
  no : ∀ f ∈ fns, PySem.W.findIn K (.ref C) f = some none
end

/-! ### _law_refused -/
def TTr (CS : Addr) (f ret : Str) : (XK → Hp → VK → Prop) → Hp → VK → Prop := fun tl H Q =>
  tl (fun cls d H' => cls = .ref CS ∧ ∃ (dd : Addr) (fs : List (Str × V)) (v : V), d = some dd ∧ H' dd = some (.xd fs) ∧ fs.lookup f = some v ∧ Q v H') H (fun _ H' => Q (.str ret) H')
def refBody (a e n f ret : Str) (j : Nat) (p1 p2 p3 p4 p5 p6 p7 p8 p9 p10 p11 : Pos) : List Stmt :=
  [.Try [.Expr (.Call (.Name a p1) [] [] p2) p3] [.ExceptHandler (some (.Name e p4)) (some n) [.Return (some (.Attribute (.Name n p5) f p6)) p7] p8] [] [] p9, .Return (some (.Constant (.str ret) j p10)) p11]
section
variable {X : Cx}
theorem ref_gives {Ng : List Str} {x a e n f q ret : Str} {fns : List Str} {sg : Scope} {g CS : Addr} {cdg : Value} {j : Nat} {p1 p2 p3 p4 p5 p6 p7 p8 p9 p10 p11 : Pos} (T : ExcF X.K X.mg e CS fns) (hf : f ∈ fns) (nd : Ng.Nodup) (hN1 : Ng[1]? = some n) (hln : sg.names.lookup n = some .local) (hge : sg.names.lookup e = some .globalImplicit)
    (hde : (e == ("__debug__" : Str)) = false) (hdn : (n == ("__debug__" : Str)) = false) (hcn : (n == ("__classdict__" : Str)) = false) (h0 : ∀ f : Addr, (L2.start Ng [V.ref f])[0]? = some (some (V.ref f)))
    (hb : ∀ (X' : Cx) (p5 : Pos), X'.N = Ng → attributeBase (.Name n p5) f X'.env (eval (.Name n p5) X'.env) = eval (.Name n p5) X'.env) :
    LamX.GivesTo X Ng x sg g cdg (refBody a e n f ret j p1 p2 p3 p4 p5 p6 p7 p8 p9 p10 p11) a q (TTr CS f ret) := by
  intro f' c' s H Q tl act hc h
  have hgl : Gl (cxOf C8.CX0 X.prog X.w X.K X.mg X.base Ng x sg g cdg X.A X.stack s H C8.E0).nox e := hge
  refine ⟨_, pss_cons (ps_try_as (X := (cxOf C8.CX0 X.prog X.w X.K X.mg X.base Ng x sg g cdg X.A X.stack s H C8.E0).nox) (c := .ref CS) (i := 1)
      (tb := fun W D σ H => ∃ Ech : XK, (∀ cls d σ' H', σ'.length = Ng.length → Ech cls d H' → W cls d σ' H') ∧ σ[0]? = some (some (.ref f')) ∧ H c' = some (LamX.CodeO c' q) ∧ tl Ech H fun _ H' => D.nx σ H')
      (ts := fun a cls d => tRet (tXf a cls d CS f (tVar 1)))
      rfl rfl nd hN1 hln ⟨hgl, hde, .inl T.gC⟩ LamX.takes0 (fun W pn xe tk _ => ?_) (fun a oe cls d pn hz hfl => pss_one (ps_ret (pe_xf T.xf (T.no f hf) hz hfl (pe_var hN1 (.inl hln) hdn hcn) (hb _ _ rfl))))) (pss_one (ps_ret pe_str)), ?_⟩
  · refine ⟨fun pins s' σ H' D I h' => ?_⟩
    obtain ⟨Ech, hW, h1, h2, h3⟩ := h'
    have tk' : Takes ((cxOf C8.CX0 X.prog X.w X.K X.mg X.base Ng x sg g cdg X.A X.stack s H C8.E0).tr pn xe) (fun cls d _ H => Ech cls d H) := fun u s1 ⟨a, B, sI, pins, σ, H, cls, d, eu, I, nb, up, sky, na, os, ag, w⟩ =>
      tk u s1 ⟨a, B, sI, pins, σ, H, cls, d, eu, I, nb, up, sky, na, os, ag, hW _ _ _ _ I.len w⟩
    have hp := act (fun cls d _ H => Ech cls d H) pn xe Ech p1 p2 tk' (fun _ _ _ _ h => h)
    have hq := pss_one (ps_expr (pos := p3) hp)
    exact hq.run pins s' σ H' D I ⟨h1, h2, h3⟩
  · refine ⟨_, fun cls d σ' H' hl ⟨e1, dd, fs, v, e2, e3, e4, e5⟩ => ⟨true, by rw [e1]; exact T.te, fun _ a na => ?_, fun hz => by cases hz⟩, h0 f', hc, h⟩
    refine ⟨.ref a, ?_, rfl, e1, dd, fs, v, e2, e3, e4, e5⟩
    have : 1 < Ng.length := (List.getElem?_eq_some_iff.mp hN1).1
    simp [hl, this]
end
def dRef (cn f ret : Str) (d : DE) : DE := fun ρ => match d ρ with
  | .ok (.t _) ρ1 => .ok (.t (.val (.str ret))) ρ1
  | .ex x ρ1 => if x.cls = cn then (match x.fs.lookup f with
    | some v => .ok (.t (.val v)) ρ1
    | none => .no) else .no
  | _ => .no
section
variable {X : Cx} {c : Cfg} {W : XK} {F H : Hp}
theorem R.extN {cs : Cells} {H1 : Hp} (n0 : ∀ b ps, c.F0 b ≠ some (.tbl ps)) (nH : ∀ b ps, c.H0 b ≠ some (.tbl ps)) (r : R c F cs H) (e : LamX.ExtN H H1) (ht : LamX.Tabs c.T H1) : R c F cs H1 where
  sub := fun b o h => e b o (r.sub b o h) fun ps z => n0 b ps (r.ntb b ps (by rw [h, z]))
  grow0 := r.grow0
  growN := r.growN
  kept := fun b o h hi => e b o (r.kept b o h hi) fun ps z => nH b ps (by rw [h, z])
  tabs := ht
  ntb := r.ntb
  ok := fun x hx => by
    have q := r.ok x hx
    obtain ⟨v, s⟩ := x
    cases s with
    | no => trivial
    | val d =>
      cases v with
      | none => exact q.elim
      | some v => exact q
    | own d =>
      cases v with
      | none => exact q.elim
      | some v =>
        cases v with
        | ref a =>
          obtain ⟨h1, o, h2, h3⟩ := q
          exact ⟨h1, o, e a o h2 h3.ntbl, h3⟩
        | _ => exact q.elim
  dis := r.dis
  own := r.own
theorem re_ref {CS : Addr} {cn f ret : Str} {fns : List Str} {d : DE} (T : ExcF c.K c.mg cn CS fns) (n0 : ∀ b ps, c.F0 b ≠ some (.tbl ps)) (nH : ∀ b ps, c.H0 b ≠ some (.tbl ps)) : RE c W (LamX.tLam c.T (TTr CS f ret) fun E => tCan c E d) (dRef cn f ret d) := by
  intro τ σ ρ F H Q hl r h
  unfold dRef at h
  refine ⟨r.tabs, fun H1 eN ht => ?_⟩
  refine ⟨τ, ρ, F, hl, r.extN n0 nH eN ht, ?_⟩
  cases e : d ρ with
  | no => rw [e] at h; exact h.elim
  | ex x ρ1 =>
    rw [e] at h
    simp only at h
    by_cases hx : x.cls = cn
    · rw [if_pos hx] at h
      cases e1 : x.fs.lookup f with
      | none => rw [e1] at h; exact h.elim
      | some v =>
        rw [e1] at h
        intro cls dd F' H' hl' xr r'
        obtain ⟨x1, a, fs, x2, x3, x4, x5⟩ := xr
        rw [hx, T.gC] at x1
        cases x1
        obtain ⟨v', e2, e3⟩ := lookup_rel x4 x5 e1
        exact ⟨rfl, a, fs, v', x2, x3, e2, h v' F' H' hl' (r'.addV e3)⟩
    · rw [if_neg hx] at h; exact h.elim
  | ok o ρ1 =>
    rw [e] at h
    cases o with
    | p i => exact h.elim
    | t s => exact fun v F' H' hl' r' => h (.str ret) F' H' hl' (r'.drop.addV (.str ret))
/-- _law_refused(lambda: body) -/
theorem dx_ref {P cc : Addr} {x a e n f ret : Str} {fns : List Str} {Ng : List Str} {st : Stmt} {g CS : Addr} {fd : FuncData} {k j : Nat} {params : Arguments} {body : Expr} {scope : Scope} {d : DE} {p lpos pos p1 p2 p3 p4 p5 p6 p7 p8 p9 p10 p11 : Pos}
    (Fu : Fun X.K x x st g fd) (hb : Binds X.K fd [a] []) (hm : X.mg x = some (.ref g)) (Sg : FnScope Ng [a] (defScope st)) (hst : defBody st = refBody a e n f ret j p1 p2 p3 p4 p5 p6 p7 p8 p9 p10 p11) (T : ExcF X.K X.mg e CS fns) (hK : c.K = X.K) (hmg : c.mg = X.mg) (n0 : ∀ b ps, c.F0 b ≠ some (.tbl ps)) (nH : ∀ b ps, c.H0 b ≠ some (.tbl ps))
    (hT : c.T = [(P, X.env.qual ++ "<lambda>")]) (TB : LamX.TabB X.base X.mg cc P) (hcode : X.env.code = .ref cc) (hr : Room (k + 2) X.A)
    (hbody : ∀ (A : Around) (outer : List Env) (s : Shared) (H : Hp) (E : XK) (f c' : Addr), Room k (A.deeper (LamX.lamEnv X scope s.heap.objs.size f c')) → DX (LamX.lamCx X A outer s H E scope f c') c E body d)
    (hf : f ∈ fns := by decide) (hN0 : Ng[0]? = some a := by rfl) (hN1 : Ng[1]? = some n := by rfl) (hva : Vis (defScope st) a := by exact Or.inl rfl) (hln : (defScope st).names.lookup n = some .local := by rfl) (hge : (defScope st).names.lookup e = some .globalImplicit := by rfl)
    (L : LamX.LamS X.env.scope scope := by exact LamX.lamS_by rfl) (hdef : defaultsOf params X.env = ([], []) := by rfl)
    (hbind : ∀ (q : Str) (cl : List (Str × Addr)) (pm cv ctv : Value), bindArgs (PySem.W.kla_fn "<lambda>" q params body scope cl pm cv ctv) ⟨[], []⟩ = pure [] := by intros; rfl)
    (hba : ∀ (X' : Cx) (p5 : Pos), X'.N = Ng → attributeBase (.Name n p5) f X'.env (eval (.Name n p5) X'.env) = eval (.Name n p5) X'.env := by intros; rfl)
    (hg : Gl X x := by rfl) (h0 : ∀ f : Addr, (L2.start Ng [V.ref f])[0]? = some (some (V.ref f)) := by intro f; rfl)
    (hde : (e == ("__debug__" : Str)) = false := by decide) (hdn : (n == ("__debug__" : Str)) = false := by decide) (hcn : (n == ("__classdict__" : Str)) = false := by decide)
    (hdb : (x == ("__debug__" : Str)) = false := by decide) (hd : (a == ("__debug__" : Str)) = false := by decide) (hcd : (a == ("__classdict__" : Str)) = false := by decide) :
    DX X c W (.Call (.Name x p) [.Lambda params body scope lpos] [] pos) (dRef e f ret d) := by
  obtain ⟨⟨oc, od, kV, doc, pm, an, cdv, ct, osl, rfl, lk, hcg⟩, kp⟩ := Fu
  have q := re_ref (c := c) (W := W) (f := f) (ret := ret) (d := d) (fns := fns) (by rw [hK, hmg]; exact T) n0 nH
  refine ⟨_, LamX.pe_lamcall (T := c.T) (TT := TTr CS f ret) (t := fun E => tCan c E d) (k := k) hg hm kp lk hcg hb Sg hN0 hva (by rw [hst]; exact ref_gives T hf Sg.nd hN1 hln hge hde hdn hcn h0 hba) TB hcode (by rw [hT]; exact List.mem_singleton.mpr rfl)
    (fun p hp _ => by rw [hT] at hp; rw [List.mem_singleton.mp hp]) hr L hdef hbind (fun A outer s H E f c' hr' => (hbody A outer s H E f c' hr').can) hdb hd hcd, q⟩

/-! ### try: g(..) except C as n: return (n.f, ..) -/
def dTry (cn : Str) (hf : Exn → Option D) (i : Nat) (d : DE) : DS := fun ρ => match d ρ with
  | .ok (.t _) ρ1 => .nx ρ1
  | .ex x ρ1 => if x.cls = cn ∧ i < ρ1.length then (match hf x with
    | some v => .rt v (ρ1.set i .no)
    | none => .no) else .no
  | _ => .no
/-- return (n.f1, n.f2) -/
def hx2 (f1 f2 : Str) : Exn → Option D := fun x => match x.fs.lookup f1, x.fs.lookup f2 with
  | some a, some b => some (.tuple [a, b])
  | _, _ => none
theorem DXA.canS {X : Cx} {es : List Expr} {d : DAs} (V : L2.St → XK) (h : ∀ W', DXA X c W' es d) : PA X es (fun σ H Q => tCanA c (V σ) d σ H Q) :=
  ⟨fun pos pins s σ H Q I k => (h (V σ)).can.run pos pins s σ H Q I k⟩
theorem ds_try2 {i k np : Nat} {x cn n f1 f2 : Str} {C : Addr} {fns ps : List Str} {f : List D → FO} {e : Expr} {es : List Expr} {da : DAs} {p pos p1 p2 p3 p4 p5 p6 p7 p8 p9 p10 : Pos} {k2 : Nat} (T : ExcF X.K X.mg cn C fns) (G : Cal X x k ps (spP X.K X.mg false np f)) (hK : c.K = X.K) (hmg : c.mg = X.mg) (hr : Room k X.A) (hni : Np c [i])
    (hN : X.N.Nodup) (hs : X.stack = X.env :: X.outer) (hfr : X.env.frame = some X.env.locals) (ha : ∀ pn xe W', DXA (X.tr pn xe) c W' (e :: es) da) (hl : daLen da np) (hi : X.N[i]? = some n := by rfl) (hln : X.env.kindOf n = some .local := by rfl) (hgc : Gl X cn := by rfl) (hg : Gl X x := by rfl)
    (hf1 : f1 ∈ fns := by decide) (hf2 : f2 ∈ fns := by decide) (hdb : (x == ("__debug__" : Str)) = false := by decide) (hdc : (cn == ("__debug__" : Str)) = false := by decide) (hdn : (n == ("__debug__" : Str)) = false := by decide) (hcn : (n == ("__classdict__" : Str)) = false := by decide)
    (hb1 : ∀ (a : Addr) (pn : List (Addr × Obj)), attributeBase (.Name n p2) f1 (X.suite a pn).env (eval (.Name n p2) (X.suite a pn).env) = eval (.Name n p2) (X.suite a pn).env := by intros; rfl)
    (hb2 : ∀ (a : Addr) (pn : List (Addr × Obj)), attributeBase (.Name n p4) f2 (X.suite a pn).env (eval (.Name n p4) (X.suite a pn).env) = eval (.Name n p4) (X.suite a pn).env := by intros; rfl)
    (hst : ∀ (a : Addr) (pn : List (Addr × Obj)), starEach [.Attribute (.Name n p2) f1 p3, .Attribute (.Name n p4) f2 p5] (X.suite a pn).env = (false, eval (.Attribute (.Name n p2) f1 p3) (X.suite a pn).env) :: starEach [.Attribute (.Name n p4) f2 p5] (X.suite a pn).env := by intros; rfl)
    (hst2 : ∀ (a : Addr) (pn : List (Addr × Obj)), starEach [.Attribute (.Name n p4) f2 p5] (X.suite a pn).env = (false, eval (.Attribute (.Name n p4) f2 p5) (X.suite a pn).env) :: starEach [] (X.suite a pn).env := by intros; rfl)
    (he : ∀ pn xe, starEach (e :: es) (X.tr pn xe).env = (false, eval e (X.tr pn xe).env) :: starEach es (X.tr pn xe).env := by intros; rfl) (hpl : ∀ pn xe, (backTo pos (starEach es (X.tr pn xe).env)).any (·.1) = false := by intros; rfl) (hsw : ∀ pn xe, swapsWith (.Call (.Name x p) (e :: es) [] pos) none p10.line (X.tr pn xe).env = pure false := by intros; rfl) :
    DSt X c W (.Try [.Expr (.Call (.Name x p) (e :: es) [] pos) p10] [.ExceptHandler (some (.Name cn p1)) (some n) [.Return (some (.Tuple [.Attribute (.Name n p2) f1 p3, .Attribute (.Name n p4) f2 p5] k2 p6)) p7] p8] [] [] p9) (dTry cn (hx2 f1 f2) i (dCall f da)) := by
  obtain ⟨fa, fd, g1, g2, g3, g4⟩ := G.ex
  refine ⟨_, ps_try_as (i := i) (c := .ref C) (tb := fun W => tDrop (tCallSD (spP X.K X.mg false np f) [] (WE W) (fun σ H Q => tCanA c (WE W σ) da σ H Q))) (ts := fun a cls d => tRet (tTup (tCons (tXf a cls d C f1 (tVar i)) (tCons (tXf a cls d C f2 (tVar i)) tNil)))) (Wout := fun _ _ _ _ => False)
    hs hfr hN hi hln ⟨hgc, hdc, .inl T.gC⟩ LamX.takes0 (fun W pn xe tk _ => pss_one (ps_expr (pe_callSD (X := X.tr pn xe) g1 hr hg g2 g3 g4 .nil (fun σ => passAt tk σ) (DXA.canS (WE W) (ha pn xe)) hdb (he pn xe) (hpl pn xe)) (hsw pn xe)))
    (fun a oe cls d pn hz hfl => pss_one (ps_ret (pe_tup (pa_cons (pe_xf T.xf (T.no f1 hf1) hz hfl (pe_var hi (.inl hln) hdn hcn) (hb1 a ((a, oe) :: pn))) (pa_cons (pe_xf T.xf (T.no f2 hf2) hz hfl (pe_var hi (.inl hln) hdn hcn) (hb2 a ((a, oe) :: pn))) pa_nil (hst2 a ((a, oe) :: pn))) (hst a ((a, oe) :: pn)))))), ?_⟩
  intro τ σ ρ F H Dn hl1 hp r h
  unfold dTry at h
  have q := re_call (c := c) (W := WE (wAs X.K (.ref C) i (fun a cls d => tRet (tTup (tCons (tXf a cls d C f1 (tVar i)) (tCons (tXf a cls d C f2 (tVar i)) tNil)))) (fun _ _ _ _ => False) Dn) σ) (f := f) hl ra_can τ σ ρ F H (fun _ H2 => Dn.nx σ H2) hl1 r
  rw [hK, hmg] at q
  refine q ?_
  cases e : dCall f da ρ with
  | no => rw [e] at h; exact h.elim
  | ok o ρ1 =>
    rw [e] at h
    cases o with
    | p i => exact h.elim
    | t s => exact fun v F' H' hl' r' => h σ F' H' hl' hp r'.drop
  | ex x ρ1 =>
    rw [e] at h
    simp only at h
    by_cases hx : x.cls = cn ∧ i < ρ1.length
    · rw [if_pos hx] at h
      unfold hx2 at h
      cases e1 : x.fs.lookup f1 with
      | none => rw [e1] at h; exact h.elim
      | some v1 =>
        cases e2 : x.fs.lookup f2 with
        | none => rw [e1, e2] at h; exact h.elim
        | some v2 =>
          rw [e1, e2] at h
          simp only at h
          intro cls dd F' H' hl' xr r'
          obtain ⟨x1, a, fs, x2, x3, x4, x5⟩ := xr
          rw [hx.1, hmg, T.gC] at x1
          cases x1
          obtain ⟨w1, y1, z1⟩ := lookup_rel x4 x5 e1
          obtain ⟨w2, y2, z2⟩ := lookup_rel x4 x5 e2
          refine ⟨true, T.te, fun _ b nb => ?_, fun hz => by cases hz⟩
          have hi2 : i < σ.length := by
            rw [hl']
            exact hx.2
          have get : (σ.set i (some (V.ref b)))[i]? = some (some (V.ref b)) := by simp [hi2]
          refine ⟨.ref b, get, rfl, rfl, a, fs, w1, x2, x3, y1, .ref b, get, rfl, rfl, a, fs, w2, x2, x3, y2, by show 2 ≤ sizeLine; decide, fun p' hp' => ?_⟩
          have r1 : R c F' (τ ++ (σ.set i (some (V.ref b))).zip (ρ1.set i .no)) H' := R.store hl' r'.addN
          have g := Grow.lay (o := .tup [w1, w2]) r1.sub hp'
          refine h (.ref p') (σ.set i (some (.ref b))) _ _ (by simpa using hl') (hp.set hni) ((r1.grow g).addV (.tup (.inl (.of upd_same)) (.cons (Rp.mono g.f _ _ z1) (.cons (Rp.mono g.f _ _ z2) .nil))))
    · rw [if_neg hx] at h; exact h.elim
end
end PD

set_option Elab.async false
set_option linter.all false
set_option maxRecDepth 100000
set_option maxHeartbeats 2000000
/-! PdK: __init__ of an own class of exceptions; the law itself. -/
namespace PD
open PySem PySem.Spec PyProof.Rows L2
section
variable {P : Program} {w : World} {K : PySem.W.Frag} {mg : Str → Option Value} {base : Heap}
theorem init1 {qual a : Str} {st : Stmt} {f C : Addr} {fd : FuncData} {q1 q2 q3 q4 : Pos} (Fu : Fun K "__init__" qual st f fd) (S : FnScope ["self", a] ["self", a] (defScope st)) (hst : defBody st = [.Assign [.Attribute (.Name "self" q1) a q2] (.Name a q3) q4]) (T : OexC K C) (no : PySem.W.findIn K (.ref C) a = some none)
    (v0 : Vis (defScope st) "self" := by exact Or.inl rfl) (v1 : Vis (defScope st) a := by exact Or.inl rfl) (hd : (a == ("__debug__" : Str)) = false := by decide) (hcd : (a == ("__classdict__" : Str)) = false := by decide)
    (hs : ∀ env : Env, swapsWith (.Name a q3) (some (.Attribute (.Name "self" q1) a q2)) q4.line env = pure false := by intros; rfl) :
    FnOk P w K mg base (L2.CX P w) 1 f fd ["self", a] (spI K C [a]) := by
  refine Fu.okX S (fun vs H Q E h => ?_) (fun cdv A outer s H vs Q E hr h => ?_)
  · obtain ⟨x, ys, rfl, h1, _⟩ := h
    simp only [List.length_cons, List.length_nil] at h1 ⊢; omega
  · obtain ⟨x, ys, rfl, h1, h2, h3⟩ := h
    rw [hst]
    refine ⟨_, pss_one (ps_ost (pe_var (i := 0) rfl v0 (by decide) (by decide)) (pe_var (i := 1) rfl v1 hd hcd) (hs _)), ?_⟩
    match ys, h1 with
    | [y], _ =>
      refine ⟨y, rfl, .ref x, rfl, x, C, rfl, T, no, .inl ⟨h2, fun dx hdx ne => ?_⟩⟩
      refine h3 dx _ hdx ne upd_same (by rw [upd_ne ne, upd_same]; rfl) (fun b hb hb2 => by rw [upd_ne hb, upd_ne hb2])
theorem init2 {qual a b : Str} {st : Stmt} {f C : Addr} {fd : FuncData} {q1 q2 q3 q4 p1 p2 p3 p4 : Pos} (Fu : Fun K "__init__" qual st f fd) (S : FnScope ["self", a, b] ["self", a, b] (defScope st)) (hst : defBody st = [.Assign [.Attribute (.Name "self" q1) a q2] (.Name a q3) q4, .Assign [.Attribute (.Name "self" p1) b p2] (.Name b p3) p4]) (T : OexC K C) (no : PySem.W.findIn K (.ref C) a = some none) (no2 : PySem.W.findIn K (.ref C) b = some none)
    (v0 : Vis (defScope st) "self" := by exact Or.inl rfl) (v1 : Vis (defScope st) a := by exact Or.inl rfl) (v2 : Vis (defScope st) b := by exact Or.inl rfl) (hd : (a == ("__debug__" : Str)) = false := by decide) (hcd : (a == ("__classdict__" : Str)) = false := by decide) (hd2 : (b == ("__debug__" : Str)) = false := by decide) (hcd2 : (b == ("__classdict__" : Str)) = false := by decide)
    (hs : ∀ env : Env, swapsWith (.Name a q3) (some (.Attribute (.Name "self" q1) a q2)) q4.line env = pure false := by intros; rfl)
    (hs2 : ∀ env : Env, swapsWith (.Name b p3) (some (.Attribute (.Name "self" p1) b p2)) p4.line env = pure false := by intros; rfl) :
    FnOk P w K mg base (L2.CX P w) 1 f fd ["self", a, b] (spI K C [a, b]) := by
  refine Fu.okX S (fun vs H Q E h => ?_) (fun cdv A outer s H vs Q E hr h => ?_)
  · obtain ⟨x, ys, rfl, h1, _⟩ := h
    simp only [List.length_cons, List.length_nil] at h1 ⊢; omega
  · obtain ⟨x, ys, rfl, h1, h2, h3⟩ := h
    rw [hst]
    refine ⟨_, pss_cons (ps_ost (pe_var (i := 0) rfl v0 (by decide) (by decide)) (pe_var (i := 1) rfl v1 hd hcd) (hs _)) (pss_one (ps_ost (pe_var (i := 0) rfl v0 (by decide) (by decide)) (pe_var (i := 2) rfl v2 hd2 hcd2) (hs2 _))), ?_⟩
    match ys, h1 with
    | [y, z], _ =>
      refine ⟨y, rfl, .ref x, rfl, x, C, rfl, T, no, .inl ⟨h2, fun dx hdx ne => ?_⟩⟩
      refine ⟨z, rfl, .ref x, rfl, x, C, rfl, T, no2, .inr ⟨dx, [(a, y)], upd_same, by rw [upd_ne ne, upd_same], by simp, ?_⟩⟩
      refine h3 dx _ hdx ne (by rw [upd_ne (Ne.symm ne), upd_same]) (by rw [upd_same]; rfl) (fun c hb hb2 => by rw [upd_ne hb2, upd_ne hb, upd_ne hb2])

/-! ### the law -/
def noListB (K : PySem.W.Frag) : Bool := K.all fun p => match p.2.cls with
  | .type n => !(n == ("list" : Str))
  | _ => true
theorem mem_lookN : ∀ {K : PySem.W.Frag} {a : Addr} {o : Obj}, K.lookup a = some o → (a, o) ∈ K
  | [], _, _, e => by cases e
  | (b, u) :: K, a, o, e => by
    simp only [List.lookup] at e
    split at e
    · rename_i h
      cases e
      rw [beq_iff_eq.mp h]
      exact List.mem_cons_self
    · exact List.mem_cons_of_mem _ (mem_lookN e)
theorem noList_ok {K : PySem.W.Frag} (h : noListB K = true) {a : Addr} {o : Obj} (e : K.lookup a = some o) : o.cls ≠ .type "list" := by
  intro z
  have hm : (a, o) ∈ K := mem_lookN e
  have q := List.all_eq_true.mp h _ hm
  rw [z] at q
  exact absurd q (by decide)
def spLaw (K : PySem.W.Frag) (Pt : Addr) : Sp := fun vs H Q E => ∃ (a : Addr) (ns : List Int), vs = [.ref a] ∧ ns.length ≤ 63 ∧ (∀ z ∈ ns, Builtin.Int.intBits z ≤ 1048576) ∧ H Pt = some (.tbl #[]) ∧ SqL K H a (ns.map V.int) ∧ ∀ H', Q (.bl true) H'
def hide (H : Hp) : Hp := fun b => match H b with
  | some (.tbl _) => none
  | x => x
theorem hide_same (H : Hp) : Same (hide H) H := fun b o e => by
  unfold hide at e
  split at e
  · cases e
  · exact e
theorem hide_ntb (H : Hp) (b : Addr) (ps : Array Value) : hide H b ≠ some (.tbl ps) := fun e => by
  unfold hide at e
  split at e
  · cases e
  · rename_i h; exact h _ e
theorem hide_get {H : Hp} {b : Addr} {o : HO} (e : H b = some o) (n : ∀ ps, o ≠ .tbl ps) : hide H b = some o := by
  unfold hide
  split
  · rename_i ps h
    rw [h] at e; cases e
    exact absurd rfl (n ps)
  · exact e
theorem law_den {x qual : Str} {st : Stmt} {f cc Pt : Addr} {N : List Str} {p : Str} {k : Nat} {oc kV doc pm ct : Value} {od an : Option Addr} {osl : Array (Option Value)} (body : DS)
    (lk : K.lookup f = some ⟨oc, od, .func (PySem.W.fnOf x qual (defArgs st) (defBody st) (defScope st) .none kV doc pm an (.ref cc) ct), osl⟩) (hcd : PySem.W.codeIn K (.ref cc) qual = true) (S : FnScope N [p] (defScope st)) (hnl : noListB K = true)
    (hden : ∀ ns : List Int, ns.length ≤ 63 → (∀ z ∈ ns, Builtin.Int.intBits z ≤ 1048576) → ∃ ρ, body (startR false N.length [.list (ns.map .int)]) = .rt (.bool true) ρ)
    (hbody : ∀ (A : Around) (outer : List Env) (s : Shared) (H : Hp) (E : XK) (c : Cfg), Room k (A.deeper (envOfC qual (defScope st) s.heap.objs.size f (.ref cc))) → c.K = K → c.mg = mg → c.T = [(Pt, (envOfC qual (defScope st) s.heap.objs.size f (.ref cc)).qual ++ "<lambda>")] → c.pin = none →
      (∀ b ps, c.F0 b ≠ some (.tbl ps)) → (∀ b ps, c.H0 b ≠ some (.tbl ps)) → DSs (cxOf (L2.CX P w) P w K mg base N qual (defScope st) f (.ref cc) A outer s H E) c E (defBody st) body) :
    FnOk P w K mg base (L2.CX P w) (k + 1) f (PySem.W.fnOf x qual (defArgs st) (defBody st) (defScope st) .none kV doc pm an (.ref cc) ct) [p] (spLaw K Pt) := by
  refine fn_of lk hcd S (fun vs H Q E h => ?_) (fun A outer s H vs Q E hr h => ?_)
  · obtain ⟨a, ns, rfl, _⟩ := h
    rfl
  · obtain ⟨a, ns, rfl, h1, h2, h3, h4, h5⟩ := h
    have hNp : 1 ≤ N.length := by
      have := congrArg List.length S.pre
      rw [List.length_take] at this
      simp at this
      omega
    obtain ⟨ρ, e⟩ := hden ns h1 h2
    have rd : Rd (hide H) a (.lst (ns.map V.int)) := by
      rcases h4 with h4 | ⟨o, _, _, h4, h5, _⟩
      · rcases h4 with h4 | ⟨o, h4⟩
        · exact .inl (hide_get h4 fun ps z => by cases z)
        · exact .inr ⟨o, hide_get h4 fun ps z => by cases z⟩
      · exact absurd h5 (noList_ok hnl h4)
    obtain ⟨t, pt, q⟩ := hbody A outer s H E ⟨K, mg, hide H, hide H, [], [(Pt, (envOfC qual (defScope st) s.heap.objs.size f (.ref cc)).qual ++ "<lambda>")], none⟩ hr rfl rfl rfl rfl (hide_ntb H) (hide_ntb H)
    refine ⟨t, pt, q [] (L2.start N [.ref a]) (startR false N.length [.list (ns.map .int)]) (hide H) H _ ?_ (fun v hv => by cases hv) ?_ ?_⟩
    · rw [startR_len (by simpa using hNp)]
      unfold L2.start
      rw [List.length_append, List.length_map, List.length_replicate]
      simp; omega
    · obtain ⟨u, v⟩ := vals_cells (F := hide H) (H := H) [.ref a] [.list (ns.map .int)] (N.length - 1) (N.length - 1) (.cons (.lst rd (RpA.ints ns)) .nil)
      refine ⟨hide_same H, Same.refl _, fun b h n => absurd h n, fun b o e _ => hide_same H b o e, fun p hp => ?_, fun b ps h => h, u, ?_, ?_⟩
      · rw [List.mem_singleton.mp hp]
        exact LamX.TabS.nil h3
      · show (((L2.start N [.ref a]).zip (startR false N.length [.list (ns.map .int)])).filterMap ownA).Nodup
        rw [show ((L2.start N [.ref a]).zip (startR false N.length [.list (ns.map .int)])).filterMap ownA = [] from v]
        exact List.nodup_nil
      · intro z hz
        rw [show (([] : Cells) ++ (L2.start N [.ref a]).zip (startR false N.length [.list (ns.map .int)])).filterMap ownA = [] from v] at hz
        cases hz
    · rw [e]
      intro v σ' F' H' hl' hp' r'
      have q : Rp K F' v (.bool true) := r'.ok _ List.mem_cons_self
      cases q
      exact h5 H'
end
end PD

set_option Elab.async false
set_option linter.all false
set_option maxRecDepth 100000
set_option maxHeartbeats 2000000
/-! PdL: chains of two comparisons; not as a value, by truth. -/
namespace PD
open PySem PySem.Spec PyProof.Rows L2
section
variable {X : Cx} {c : Cfg} {W : XK} {F H : Hp}
def dChain (f f' : List D → VO) (a b e : DE) : DE := fun ρ => match daC a (daC b daN) ρ with
  | .ok [o1, .t (.val y)] ρ1 => (match resA ρ1 [o1, .t (.val y)] with
    | some ds => (match f ds with
      | .v (.bool false) => .ok (.t (.val (.bool false))) ρ1
      | .v (.bool true) => (match daC e daN ρ1 with
        | .ok [o3] ρ2 => (match resA ρ2 [o3] with
          | some [z] => (match f' [y, z] with
            | .v d => .ok (.t (.val d)) ρ2
            | _ => .no)
          | _ => .no)
        | .ex x ρ2 => .ex x ρ2
        | _ => .no)
      | _ => .no)
    | none => .no)
  | .ex x ρ1 => .ex x ρ1
  | _ => .no
theorem re_chain {r r' : R2} {f f' : List D → VO} {ta tb tc : TE} {a b e : DE} (hv : VOk c.K (r2 r) f) (hv' : VOk c.K (r2 r') f') (ha : RE c W ta a) (hb : RE c W tb b) (hc : RE c W tc e) : RE c W (tChain r r' ta tb tc) (dChain f f' a b e) := by
  intro τ σ ρ F H Q hl rr h
  unfold dChain at h
  refine (ra_cons ha (ra_cons hb ra_nil)) τ σ ρ F H (fun vs H2 => r2 (fun x y H2 (Q : VK) => r x y H2 fun z H3 => ∃ k, z = .bl k ∧ (if k = true then tc σ H3 fun w' H4 => r' y w' H4 Q else Q (.bl false) H3)) vs H2 Q) hl rr ?_
  cases e1 : daC a (daC b daN) ρ with
  | no => rw [e1] at h; exact h.elim
  | ex x ρ1 => rw [e1] at h; exact h
  | ok os ρ1 =>
    rw [e1] at h
    match os, h with
    | [], h => exact h.elim
    | [_], h => exact h.elim
    | _ :: _ :: _ :: _, h => simp only at h; exact h.elim
    | [_, .p _], h => exact h.elim
    | [_, .t .no], h => exact h.elim
    | [_, .t (.own _)], h => exact h.elim
    | [o1, .t (.val y)], h =>
      simp only at h
      intro vs F1 H1 hl1 hh r1
      cases e2 : resA ρ1 [o1, .t (.val y)] with
      | none => rw [e2] at h; exact h.elim
      | some ds =>
        rw [e2] at h
        simp only at h
        have rra := R.resA hl1 r1 [o1, .t (.val y)] vs ds (fun _ x => x) hh e2
        obtain ⟨v1, v2, rfl, r2'⟩ : ∃ v1 v2, vs = [v1, v2] ∧ R c F1 ((some v2, .val y) :: (τ ++ σ.zip ρ1)) H1 := by
          have hlen := Held.len _ _ hh
          match vs, hlen with
          | [v1, v2], _ =>
            refine ⟨v1, v2, rfl, ?_⟩
            cases o1 with
            | t s => exact R.drop (x := (some v1, s)) r1
            | p i => exact r1
        have post : PostV c.K F1 H1 (fun z H3 => ∃ k, z = .bl k ∧ (if k = true then tc σ H3 fun w' H4 => r' v2 w' H4 Q else Q (.bl false) H3)) (f ds) := by
          cases e3 : f ds with
          | no => rw [e3] at h; exact h.elim
          | n d => rw [e3] at h; exact h.elim
          | v d =>
            rw [e3] at h
            cases d with
            | bool k =>
              intro z F2 H2 g hz
              cases hz
              refine ⟨k, rfl, ?_⟩
              cases k with
              | false => exact iteF (h (.bl false) F2 H2 hl1 ((r2'.drop.grow g).addV (.bl false)))
              | true =>
                simp only at h
                refine iteT ?_
                refine (ra_cons hc ra_nil) ((some v2, .val y) :: τ) σ ρ1 F2 H2 (fun vs H4 => r2 (fun x w' H4 (Q : VK) => r' x w' H4 Q) (v2 :: vs) H4 Q) hl1 (r2'.grow g) ?_
                cases e4 : daC e daN ρ1 with
                | no => rw [e4] at h; exact h.elim
                | ex x ρ2 =>
                  rw [e4] at h
                  exact PostX.drop h
                | ok os2 ρ2 =>
                  rw [e4] at h
                  match os2, h with
                  | [], h => exact h.elim
                  | _ :: _ :: _, h => exact h.elim
                  | [o3], h =>
                    simp only at h
                    intro ws F3 H3 hl3 hh3 r3
                    cases e5 : resA ρ2 [o3] with
                    | none => rw [e5] at h; exact h.elim
                    | some zs =>
                      rw [e5] at h
                      match zs, h with
                      | [], h => exact h.elim
                      | _ :: _ :: _, h => exact h.elim
                      | [z], h =>
                        simp only at h
                        have rr3 := R.resA hl3 r3 [o3] ws [z] (fun _ x => x) hh3 e5
                        have rd := r3.dropTemps
                        have hy : Rp c.K F3 v2 y := rd.ok _ List.mem_cons_self
                        refine hv' F3 H3 (v2 :: ws) [y, z] Q r3.sub (.cons (.inl hy) rr3) ?_
                        cases e6 : f' [y, z] with
                        | no => rw [e6] at h; exact h.elim
                        | n d => rw [e6] at h; exact h.elim
                        | v d =>
                          rw [e6] at h
                          exact fun z' F' H' g' hz' => h z' F' H' hl3 ((R.grow (R.drop (x := (some v2, .val y)) rd) g').addV hz')
            | _ => exact h.elim
        exact hv F1 H1 [v1, v2] ds _ r1.sub rra post
theorem dx_chain {op op' : CmpOp} {r r' : R2} {f f' : List D → VO} {a b e : Expr} {da db de : DE} {pos : Pos} (ho : OpR X (compareOp op) r) (hv : VOk c.K (r2 r) f) (ho' : OpR X (compareOp op') r') (hv' : VOk c.K (r2 r') f') (ha : DX X c W a da) (hb : DX X c W b db) (hc : DX X c W e de)
    (hm : lastMarks [op, op'] [b, e] = false := by with_unfolding_all rfl) : DX X c W (.Compare a [op, op'] [b, e] pos) (dChain f f' da db de) := by
  obtain ⟨ta, pa, ra⟩ := ha
  obtain ⟨tb, pb, rb⟩ := hb
  obtain ⟨tc, pc, rc⟩ := hc
  exact ⟨_, pe_chain ho ho' pa pb pc hm, re_chain hv hv' ra rb rc⟩
theorem dt_chain {op op' : CmpOp} {r r' : R2} {f f' : List D → VO} {a b e : Expr} {da db de : DE} {pos : Pos} (ho : OpR X (compareOp op) r) (hv : VOk c.K (r2 r) f) (ho' : OpR X (compareOp op') r') (hv' : VOk c.K (r2 r') f') (ha : DX X c W a da) (hb : DX X c W b db) (hc : DX X c W e de)
    (hm : lastMarks [op, op'] [b, e] = false := by with_unfolding_all rfl) : DT X c W (.Compare a [op, op'] [b, e] pos) (dTst (dChain f f' da db de)) := by
  obtain ⟨ta, pa, ra⟩ := ha
  obtain ⟨tb, pb, rb⟩ := hb
  obtain ⟨tc, pc, rc⟩ := hc
  exact ⟨_, pt_chain ho ho' pa pb pc hm, rb_tst (re_chain hv hv' ra rb rc)⟩
def dNotT (d : DE) : DE := fun ρ => match dTru d ρ with
  | .ok b ρ1 => .ok (.t (.val (.bool (!b)))) ρ1
  | .ex x ρ1 => .ex x ρ1
  | .no => .no
theorem dx_notT {a : Expr} {da : DE} {pos : Pos} (ha : DX X c W a da) (hK : c.K = X.K) : DX X c W (.UnaryOp .Not a pos) (dNotT da) := by
  obtain ⟨ta, pa, ra⟩ := ha
  have q := rb_tru (c := c) ra
  rw [hK] at q
  refine ⟨_, pe_notT pa, ?_⟩
  intro τ σ ρ F H Q hl r h
  unfold dNotT at h
  refine q τ σ ρ F H (fun k H1 => Q (.bl (!k)) H1) hl r ?_
  cases e : dTru da ρ with
  | no => rw [e] at h; exact h.elim
  | ex x ρ1 => rw [e] at h; exact h
  | ok b ρ1 =>
    rw [e] at h
    exact fun F1 H1 hl1 r1 => h (.bl (!b)) F1 H1 hl1 (r1.addV (.bl _))
end
end PD
namespace PD
open PySem PySem.Spec PyProof.Rows L2
def Cq (P : Program) (w : World) (K : PySem.W.Frag) (mg : Str → Option Value) (base : Heap) (x : Str) (k : Nat) (ps : List Str) (sp : Sp) : Prop :=
  ∃ (f : Addr) (fd : FuncData), FnOk P w K mg base (L2.CX P w) k f fd ps sp ∧ mg x = some (.ref f) ∧ PySem.W.keepIn K (.ref f) = true ∧ Binds K fd ps []
def CKq (P : Program) (w : World) (K : PySem.W.Frag) (mg : Str → Option Value) (base : Heap) (x : Str) (k : Nat) (ps : List Str) (sp : Sp) (n m : Nat) (ks : List Str) : Prop :=
  ∃ (f : Addr) (fd : FuncData), FnOk P w K mg base (L2.CX P w) k f fd ps sp ∧ mg x = some (.ref f) ∧ PySem.W.keepIn K (.ref f) = true ∧ KBinds K fd ps ks (kb n m) (kb n m)
def Xq (P : Program) (w : World) (K : PySem.W.Frag) (mg : Str → Option Value) (base : Heap) (x : Str) (C : Addr) (k : Nat) (fns : List Str) : Prop :=
  ∃ (fI : Addr) (fd : FuncData) (ps : List Str), OexC K C ∧ PySem.W.findIn K (.ref C) "__init__" = some (some (.ref fI)) ∧ PySem.W.typeIn K (.ref fI) = some (.type "function") ∧ FnOk P w K mg base (L2.CX P w) k fI fd ps (spI K C fns) ∧ Binds K fd ps [] ∧ mg x = some (.ref C)
end PD
namespace PD
open PySem PySem.Spec PyProof.Rows L2
theorem fn_den2 {P : Program} {w : World} {K : PySem.W.Frag} {mg : Str → Option Value} {base : Heap} {x qual : Str} {st : Stmt} {f : Addr} {fd : FuncData} {N ps : List Str} {k : Nat} (io : Bool) (body : DS) (Fu : Fun K x qual st f fd) (S : FnScope N ps (defScope st)) (hio : io = true → ps ≠ [])
    (hbody : ∀ (cdv : Value) (A : Around) (outer : List Env) (s : Shared) (H : Hp) (E : XK) (F0 H0 : Hp) (ia : List Addr) (T : List (Addr × Str)) (pin : Option V), Room k (A.deeper (envOfC qual (defScope st) s.heap.objs.size f cdv)) → (io = false → pin = none) →
      DSs (cxOf (L2.CX P w) P w K mg base N qual (defScope st) f cdv A outer s H E) ⟨K, mg, F0, H0, ia, T, pin⟩ E (defBody st) body) :
    FnOk P w K mg base (L2.CX P w) (k + 1) f fd ps (spP K mg io ps.length (runD io N.length body)) :=
  fn_den io body Fu S hio fun cdv A outer s H E c hr hK hmg _ hpn => by
    obtain ⟨K', mg', F0, H0, ia, T, pin⟩ := c
    have hK' : K' = K := hK
    have hmg' : mg' = mg := hmg
    subst hK'
    subst hmg'
    exact hbody cdv A outer s H E F0 H0 ia T pin hr hpn
theorem law_den2 {P : Program} {w : World} {K : PySem.W.Frag} {mg : Str → Option Value} {base : Heap} {x qual : Str} {st : Stmt} {f cc Pt : Addr} {N : List Str} {p : Str} {k : Nat} {oc kV doc pm ct : Value} {od an : Option Addr} {osl : Array (Option Value)} (body : DS)
    (lk : K.lookup f = some ⟨oc, od, .func (PySem.W.fnOf x qual (defArgs st) (defBody st) (defScope st) .none kV doc pm an (.ref cc) ct), osl⟩) (hcd : PySem.W.codeIn K (.ref cc) qual = true) (S : FnScope N [p] (defScope st)) (hnl : noListB K = true)
    (hden : ∀ ns : List Int, ns.length ≤ 63 → (∀ z ∈ ns, Builtin.Int.intBits z ≤ 1048576) → ∃ ρ, body (startR false N.length [.list (ns.map .int)]) = .rt (.bool true) ρ)
    (hbody : ∀ (A : Around) (outer : List Env) (s : Shared) (H : Hp) (E : XK) (F0 H0 : Hp) (ia : List Addr), Room k (A.deeper (envOfC qual (defScope st) s.heap.objs.size f (.ref cc))) →
      (∀ b ps, F0 b ≠ some (.tbl ps)) → (∀ b ps, H0 b ≠ some (.tbl ps)) → DSs (cxOf (L2.CX P w) P w K mg base N qual (defScope st) f (.ref cc) A outer s H E) ⟨K, mg, F0, H0, ia, [(Pt, (envOfC qual (defScope st) s.heap.objs.size f (.ref cc)).qual ++ "<lambda>")], none⟩ E (defBody st) body) :
    FnOk P w K mg base (L2.CX P w) (k + 1) f (PySem.W.fnOf x qual (defArgs st) (defBody st) (defScope st) .none kV doc pm an (.ref cc) ct) [p] (spLaw K Pt) :=
  law_den body lk hcd S hnl hden fun A outer s H E c hr hK hmg hT hpn n0 nH => by
    obtain ⟨K', mg', F0, H0, ia, T, pin⟩ := c
    have hK' : K' = K := hK
    have hmg' : mg' = mg := hmg
    have hT' : T = _ := hT
    have hp' : pin = none := hpn
    subst hK'
    subst hmg'
    subst hT'
    subst hp'
    exact hbody A outer s H E F0 H0 ia hr n0 nH
end PD
namespace PD
open PySem PySem.Spec PyProof.Rows L2
theorem fnOk_no {P : Program} {w : World} {K : PySem.W.Frag} {mg : Str → Option Value} {base : Heap} {CX : CXT} {k np : Nat} {f : Addr} {fd : FuncData} {ps : List Str} {io : Bool} : FnOk P w K mg base CX k f fd ps (spP K mg io np fun _ => .no) :=
  ⟨fun _ _ _ _ h => by obtain ⟨_, _, _, _, _, _, _, h⟩ := h; exact h.elim, fun _ _ _ _ _ _ _ _ _ _ _ _ _ h => by obtain ⟨_, _, _, _, _, _, _, h⟩ := h; exact h.elim⟩
end PD
namespace PD
open PySem PySem.Spec PyProof.Rows L2
/-- an error of the class at S is what «except S» names (as in the worked proof of an own error) -/
theorem exm_self {K : PySem.W.Frag} {S : Addr} (h1 : PySem.W.subIn K (.ref S) (.type "BaseException") = some true) (h2 : PySem.W.isClsIn K S = true) (h3 : PySem.W.typeIn K (.ref S) = some (.type "type")) (h4 : PySem.W.subIn K (.ref S) (.ref S) = some true) :
    PySem.W.exmOne K (.ref S) (.ref S) = some true := by
  have e1 : (PySem.W.subIn K (.ref S) (.type "BaseException") == some true) = true := by rw [h1] <;> rfl
  have e2 : ((PySem.W.clsIn K S).isSome && PySem.W.typeIn K (.ref S) == some (.type "type")) = true := by
    have h2' : (PySem.W.clsIn K S).isSome = true := h2
    rw [h2', h3] <;> rfl
  show (if (PySem.W.subIn K (.ref S) (.type "BaseException") == some true) = true then (if ((PySem.W.clsIn K S).isSome && PySem.W.typeIn K (.ref S) == some (.type "type")) = true then PySem.W.subIn K (.ref S) (.ref S) else none) else none) = some true
  rw [if_pos e1, if_pos e2]
  exact h4
end PD

set_option Elab.async false
set_option linter.all false
set_option maxRecDepth 100000
set_option maxHeartbeats 2000000
/-! PdP: evaluation of denotations: what a def gives (fo), calls, loops and comprehensions as plain lists. -/
namespace PD
open PySem PySem.Spec PyProof.Rows L2
/-- what a def gives, its first slot forgotten -/
inductive RO where
  | ret (d : D)
  | exc (x : Exn)
  | no
def fo : FO → RO
  | .rt d _ => .ret d
  | .ex x _ => .exc x
  | .no => .no
abbrev MF := D → List D → Option (D × D)
/-! ### evaluation by steps: each combinator by what its first part gives -/
def AO.push (o : Od) : AO → AO
  | .ok os ρ => .ok (o :: os) ρ
  | .ex x ρ => .ex x ρ
  | .no => .no
@[simp] theorem AO.push_e1 (o : Od) : AO.push o (.ok oz ρ) = .ok (o :: oz) ρ := rfl
@[simp] theorem AO.push_e2 (o : Od) : AO.push o (.ex x ρ) = .ex x ρ := rfl
@[simp] theorem AO.push_e3 (o : Od) : AO.push o (.no) = .no := rfl
def EO.cons : EO → DAs → AO
  | .ok o ρ1, da => AO.push o (da ρ1)
  | .ex x ρ1, _ => .ex x ρ1
  | .no, _ => .no
@[simp] theorem EO.cons_e1 : EO.cons  (.ok o ρ1) da = AO.push o (da ρ1) := rfl
@[simp] theorem EO.cons_e2 : EO.cons  (.ex x ρ1) w1 = .ex x ρ1 := rfl
@[simp] theorem EO.cons_e3 : EO.cons  (.no) w1 = .no := rfl
@[simp] theorem e_daC (d : DE) (da : DAs) (ρ : Sl) : daC d da ρ = (d ρ).cons da := by
  unfold daC
  cases d ρ with
  | ok o ρ1 =>
    simp only [EO.cons]
    cases da ρ1 <;> rfl
  | ex x ρ1 => rfl
  | no => rfl
@[simp] theorem e_daN (ρ : Sl) : daN ρ = .ok [] ρ := rfl
def AO.appA : AO → DAs → AO
  | .ok os ρ1, da => (match da ρ1 with
    | .ok os' ρ2 => .ok (os ++ os') ρ2
    | .ex x ρ2 => .ex x ρ2
    | .no => .no)
  | .ex x ρ1, _ => .ex x ρ1
  | .no, _ => .no
@[simp] theorem AO.appA_e1 : AO.appA  (.ok oz ρ1) da = (match da ρ1 with
    | .ok oz' ρ2 => .ok (oz ++ oz') ρ2
    | .ex x ρ2 => .ex x ρ2
    | .no => .no) := rfl
@[simp] theorem AO.appA_e2 : AO.appA  (.ex x ρ1) w1 = .ex x ρ1 := rfl
@[simp] theorem AO.appA_e3 : AO.appA  (.no) w1 = .no := rfl
@[simp] theorem e_daApp (da dk : DAs) (ρ : Sl) : daApp da dk ρ = (da ρ).appA dk := by
  unfold daApp
  cases da ρ <;> rfl
def rdV : Nat → Option SV → Sl → EO
  | _, some (.val d), ρ => .ok (.t (.val d)) ρ
  | i, some (.own _), ρ => .ok (.p i) ρ
  | _, some .no, _ => .no
  | _, none, _ => .no
@[simp] theorem rdV_e1 : rdV  w1 (some (.val d)) ρ = .ok (.t (.val d)) ρ := rfl
@[simp] theorem rdV_e2 : rdV  i (some (.own w1)) ρ = .ok (.p i) ρ := rfl
@[simp] theorem rdV_e3 : rdV  w1 (some .no) w2 = .no := rfl
@[simp] theorem rdV_e4 : rdV  w1 none w2 = .no := rfl
@[simp] theorem e_dV (i : Nat) (ρ : Sl) : dV i ρ = rdV i ρ[i]? ρ := by
  unfold dV
  cases ρ[i]? with
  | none => rfl
  | some s => cases s <;> rfl
@[simp] theorem e_dC (d : D) (ρ : Sl) : dC d ρ = .ok (.t (.val d)) ρ := rfl
def resP : Option SV → Option D
  | some (.val d) => some d
  | some (.own d) => some d
  | some .no => none
  | none => none
@[simp] theorem resP_e1 : resP  (some (.val d)) = some d := rfl
@[simp] theorem resP_e2 : resP  (some (.own d)) = some d := rfl
@[simp] theorem resP_e3 : resP  (some .no) = none := rfl
@[simp] theorem resP_e4 : resP  none = none := rfl
@[simp] theorem e_res1 (ρ : Sl) (d : D) : res ρ (.t (.val d)) = some d := rfl
@[simp] theorem e_res2 (ρ : Sl) (d : D) : res ρ (.t (.own d)) = some d := rfl
@[simp] theorem e_res3 (ρ : Sl) (i : Nat) : res ρ (.p i) = resP ρ[i]? := by
  show (match ρ[i]? with | some (.val d) => some d | some (.own d) => some d | _ => none) = _
  cases ρ[i]? with
  | none => rfl
  | some s => cases s <;> rfl
def optC : Option D → Option (List D) → Option (List D)
  | some d, some ds => some (d :: ds)
  | some _, none => none
  | none, _ => none
@[simp] theorem optC_e1 : optC  (some d) (some ds) = some (d :: ds) := rfl
@[simp] theorem optC_e2 : optC  (some w1) none = none := rfl
@[simp] theorem optC_e3 : optC  none w1 = none := rfl
@[simp] theorem e_resN (ρ : Sl) : resA ρ [] = some [] := rfl
@[simp] theorem e_resC (ρ : Sl) (o : Od) (os : List Od) : resA ρ (o :: os) = optC (res ρ o) (resA ρ os) := by
  rw [resA]
  cases res ρ o with
  | none => rfl
  | some d => cases resA ρ os <;> rfl
def VO.eo : VO → Sl → EO
  | .v d, ρ => .ok (.t (.val d)) ρ
  | .n d, ρ => .ok (.t (.own d)) ρ
  | .no, _ => .no
@[simp] theorem VO.eo_e1 : VO.eo  (.v d) ρ = .ok (.t (.val d)) ρ := rfl
@[simp] theorem VO.eo_e2 : VO.eo  (.n d) ρ = .ok (.t (.own d)) ρ := rfl
@[simp] theorem VO.eo_e3 : VO.eo  (.no) w1 = .no := rfl
def appO : Option (List D) → (List D → VO) → Sl → EO
  | some ds, f, ρ => (f ds).eo ρ
  | none, _, _ => .no
@[simp] theorem appO_e1 : appO  (some ds) f ρ = (f ds).eo ρ := rfl
@[simp] theorem appO_e2 : appO  none w1 w2 = .no := rfl
def AO.app : AO → (List D → VO) → EO
  | .ok os ρ, f => appO (resA ρ os) f ρ
  | .ex x ρ, _ => .ex x ρ
  | .no, _ => .no
@[simp] theorem AO.app_e1 : AO.app  (.ok oz ρ) f = appO (resA ρ oz) f ρ := rfl
@[simp] theorem AO.app_e2 : AO.app  (.ex x ρ) w1 = .ex x ρ := rfl
@[simp] theorem AO.app_e3 : AO.app  (.no) w1 = .no := rfl
@[simp] theorem e_dOp (f : List D → VO) (da : DAs) (ρ : Sl) : dOp f da ρ = (da ρ).app f := by
  unfold dOp
  cases da ρ with
  | ok os ρ1 =>
    simp only [AO.app]
    cases resA ρ1 os with
    | none => rfl
    | some ds =>
      simp only [appO]
      cases f ds <;> rfl
  | ex x ρ1 => rfl
  | no => rfl
def frP (i : Nat) (ρ : Sl) : Option SV → Option (D × Sl)
  | some (.val d) => some (d, ρ)
  | some (.own d) => some (d, ρ.set i (.val d))
  | some .no => none
  | none => none
@[simp] theorem frP_e1 (i : Nat) (ρ : Sl) : frP i ρ (some (.val d)) = some (d, ρ) := rfl
@[simp] theorem frP_e2 (i : Nat) (ρ : Sl) : frP i ρ (some (.own d)) = some (d, ρ.set i (.val d)) := rfl
@[simp] theorem frP_e3 (i : Nat) (ρ : Sl) : frP i ρ (some .no) = none := rfl
@[simp] theorem frP_e4 (i : Nat) (ρ : Sl) : frP i ρ none = none := rfl
@[simp] theorem e_frz1 (ρ : Sl) (d : D) : frz1 ρ (.t (.val d)) = some (d, ρ) := rfl
@[simp] theorem e_frz2 (ρ : Sl) (d : D) : frz1 ρ (.t (.own d)) = some (d, ρ) := rfl
@[simp] theorem e_frz3 (ρ : Sl) (i : Nat) : frz1 ρ (.p i) = frP i ρ ρ[i]? := by
  show (match ρ[i]? with | some (.val d) => some (d, ρ) | some (.own d) => some (d, ρ.set i (.val d)) | _ => none) = _
  cases ρ[i]? with
  | none => rfl
  | some s => cases s <;> rfl
@[simp] theorem e_frzN (ρ : Sl) : frzA ρ [] = some ([], ρ) := rfl
def frC1 (d : D) : Option (List D × Sl) → Option (List D × Sl)
  | some (ds, ρ) => some (d :: ds, ρ)
  | none => none
@[simp] theorem frC1_e1 (d : D) : frC1 d (some (ds, ρ)) = some (d :: ds, ρ) := rfl
@[simp] theorem frC1_e2 (d : D) : frC1 d none = none := rfl
def frC : Option (D × Sl) → List Od → Option (List D × Sl)
  | some (d, ρ1), os => frC1 d (frzA ρ1 os)
  | none, _ => none
@[simp] theorem frC_e1 : frC  (some (d, ρ1)) oz = frC1 d (frzA ρ1 oz) := rfl
@[simp] theorem frC_e2 : frC  none w1 = none := rfl
@[simp] theorem e_frzC (ρ : Sl) (o : Od) (os : List Od) : frzA ρ (o :: os) = frC (frz1 ρ o) os := by
  rw [frzA]
  cases frz1 ρ o with
  | none => rfl
  | some p =>
    obtain ⟨d, ρ1⟩ := p
    simp only [frC]
    cases frzA ρ1 os with
    | none => rfl
    | some q => rfl
def RO.eo : RO → Sl → EO
  | .ret d, ρ => .ok (.t (.val d)) ρ
  | .exc x, ρ => .ex x ρ
  | .no, _ => .no
@[simp] theorem RO.eo_e1 : RO.eo  (.ret d) ρ = .ok (.t (.val d)) ρ := rfl
@[simp] theorem RO.eo_e2 : RO.eo  (.exc x) ρ = .ex x ρ := rfl
@[simp] theorem RO.eo_e3 : RO.eo  (.no) w1 = .no := rfl
def callO (f : List D → FO) : Option (List D × Sl) → EO
  | some (ds, ρ) => (fo (f ds)).eo ρ
  | none => .no
@[simp] theorem callO_e1 (f : List D → FO) : callO f (some (ds, ρ)) = (fo (f ds)).eo ρ := rfl
@[simp] theorem callO_e2 (f : List D → FO) : callO f none = .no := rfl
def AO.call (f : List D → FO) : AO → EO
  | .ok os ρ => callO f (frzA ρ os)
  | .ex x ρ => .ex x ρ
  | .no => .no
@[simp] theorem AO.call_e1 (f : List D → FO) : AO.call f (.ok oz ρ) = callO f (frzA ρ oz) := rfl
@[simp] theorem AO.call_e2 (f : List D → FO) : AO.call f (.ex x ρ) = .ex x ρ := rfl
@[simp] theorem AO.call_e3 (f : List D → FO) : AO.call f (.no) = .no := rfl
@[simp] theorem e_dCall (f : List D → FO) (da : DAs) (ρ : Sl) : dCall f da ρ = (da ρ).call f := by
  unfold dCall
  cases da ρ with
  | ok os ρ1 =>
    simp only [AO.call]
    cases frzA ρ1 os with
    | none => rfl
    | some p =>
      obtain ⟨ds, ρ2⟩ := p
      simp only [callO]
      cases f ds <;> rfl
  | ex x ρ1 => rfl
  | no => rfl
def FO.io (k : Nat) (ρ : Sl) : FO → EO
  | .rt d s => .ok (.t (.val d)) (ρ.set k s)
  | .ex x s => .ex x (ρ.set k s)
  | .no => .no
@[simp] theorem FO.io_e1 (k : Nat) (ρ : Sl) : FO.io k ρ (.rt d s) = .ok (.t (.val d)) (ρ.set k s) := rfl
@[simp] theorem FO.io_e2 (k : Nat) (ρ : Sl) : FO.io k ρ (.ex x s) = .ex x (ρ.set k s) := rfl
@[simp] theorem FO.io_e3 (k : Nat) (ρ : Sl) : FO.io k ρ (.no) = .no := rfl
def ioF (f : List D → FO) (k : Nat) (ds : List D) (ρ : Sl) : Option SV → EO
  | some (.own d0) => (f (d0 :: ds)).io k ρ
  | some (.val _) => .no
  | some .no => .no
  | none => .no
@[simp] theorem ioF_e1 (f : List D → FO) (k : Nat) (ds : List D) (ρ : Sl) : ioF f k ds ρ (some (.own d0)) = (f (d0 :: ds)).io k ρ := rfl
@[simp] theorem ioF_e2 (f : List D → FO) (k : Nat) (ds : List D) (ρ : Sl) : ioF f k ds ρ (some (.val w1)) = .no := rfl
@[simp] theorem ioF_e3 (f : List D → FO) (k : Nat) (ds : List D) (ρ : Sl) : ioF f k ds ρ (some .no) = .no := rfl
@[simp] theorem ioF_e4 (f : List D → FO) (k : Nat) (ds : List D) (ρ : Sl) : ioF f k ds ρ none = .no := rfl
def ioO (f : List D → FO) (k : Nat) : Option (List D × Sl) → EO
  | some (ds, ρ) => ioF f k ds ρ ρ[k]?
  | none => .no
@[simp] theorem ioO_e1 (f : List D → FO) (k : Nat) : ioO f k (some (ds, ρ)) = ioF f k ds ρ ρ[k]? := rfl
@[simp] theorem ioO_e2 (f : List D → FO) (k : Nat) : ioO f k none = .no := rfl
def AO.io (f : List D → FO) (k : Nat) : AO → EO
  | .ok os ρ => ioO f k (frzA ρ os)
  | .ex x ρ => .ex x ρ
  | .no => .no
@[simp] theorem AO.io_e1 (f : List D → FO) (k : Nat) : AO.io f k (.ok oz ρ) = ioO f k (frzA ρ oz) := rfl
@[simp] theorem AO.io_e2 (f : List D → FO) (k : Nat) : AO.io f k (.ex x ρ) = .ex x ρ := rfl
@[simp] theorem AO.io_e3 (f : List D → FO) (k : Nat) : AO.io f k (.no) = .no := rfl
def ioS (f : List D → FO) (k : Nat) (da : DAs) (ρ : Sl) : Option SV → EO
  | some (.own _) => (da ρ).io f k
  | some (.val _) => .no
  | some .no => .no
  | none => .no
@[simp] theorem ioS_e1 (f : List D → FO) (k : Nat) (da : DAs) (ρ : Sl) : ioS f k da ρ (some (.own w1)) = (da ρ).io f k := rfl
@[simp] theorem ioS_e2 (f : List D → FO) (k : Nat) (da : DAs) (ρ : Sl) : ioS f k da ρ (some (.val w1)) = .no := rfl
@[simp] theorem ioS_e3 (f : List D → FO) (k : Nat) (da : DAs) (ρ : Sl) : ioS f k da ρ (some .no) = .no := rfl
@[simp] theorem ioS_e4 (f : List D → FO) (k : Nat) (da : DAs) (ρ : Sl) : ioS f k da ρ none = .no := rfl
@[simp] theorem e_dCallIo (f : List D → FO) (k : Nat) (da : DAs) (ρ : Sl) : dCallIo f k da ρ = ioS f k da ρ ρ[k]? := by
  unfold dCallIo
  cases ρ[k]? with
  | none => rfl
  | some s =>
    cases s with
    | no => rfl
    | val _ => rfl
    | own d =>
      simp only [ioS]
      cases da ρ with
      | ok os ρ1 =>
        simp only [AO.io]
        cases frzA ρ1 os with
        | none => rfl
        | some p =>
          obtain ⟨ds, ρ2⟩ := p
          simp only [ioO]
          cases ρ2[k]? with
          | none => rfl
          | some s2 =>
            cases s2 with
            | no => rfl
            | val _ => rfl
            | own d0 =>
              simp only [ioF]
              cases f (d0 :: ds) <;> rfl
      | ex x ρ1 => rfl
      | no => rfl
def tupO : Option (List D × Sl) → EO
  | some (ds, ρ) => if ds.length ≤ 100000 then .ok (.t (.val (.tuple ds))) ρ else .no
  | none => .no
@[simp] theorem tupO_e1 : tupO  (some (ds, ρ)) = if ds.length ≤ 100000 then .ok (.t (.val (.tuple ds))) ρ else .no := rfl
@[simp] theorem tupO_e2 : tupO  none = .no := rfl
def AO.tup : AO → EO
  | .ok os ρ => tupO (frzA ρ os)
  | .ex x ρ => .ex x ρ
  | .no => .no
@[simp] theorem AO.tup_e1 : AO.tup  (.ok oz ρ) = tupO (frzA ρ oz) := rfl
@[simp] theorem AO.tup_e2 : AO.tup  (.ex x ρ) = .ex x ρ := rfl
@[simp] theorem AO.tup_e3 : AO.tup  (.no) = .no := rfl
@[simp] theorem e_dTup (da : DAs) (ρ : Sl) : dTup da ρ = (da ρ).tup := by
  unfold dTup
  cases da ρ with
  | ok os ρ1 =>
    simp only [AO.tup]
    cases frzA ρ1 os <;> rfl
  | ex x ρ1 => rfl
  | no => rfl
def lstO : Option (List D × Sl) → EO
  | some (ds, ρ) => if ds.length ≤ 100000 then .ok (.t (.own (.list ds))) ρ else .no
  | none => .no
@[simp] theorem lstO_e1 : lstO  (some (ds, ρ)) = if ds.length ≤ 100000 then .ok (.t (.own (.list ds))) ρ else .no := rfl
@[simp] theorem lstO_e2 : lstO  none = .no := rfl
def AO.lst : AO → EO
  | .ok os ρ => lstO (frzA ρ os)
  | .ex x ρ => .ex x ρ
  | .no => .no
@[simp] theorem AO.lst_e1 : AO.lst  (.ok oz ρ) = lstO (frzA ρ oz) := rfl
@[simp] theorem AO.lst_e2 : AO.lst  (.ex x ρ) = .ex x ρ := rfl
@[simp] theorem AO.lst_e3 : AO.lst  (.no) = .no := rfl
@[simp] theorem e_dLst (da : DAs) (ρ : Sl) : dLst da ρ = (da ρ).lst := by
  unfold dLst
  cases da ρ with
  | ok os ρ1 =>
    simp only [AO.lst]
    cases frzA ρ1 os <;> rfl
  | ex x ρ1 => rfl
  | no => rfl
def truO (ρ : Sl) : Option Bool → BO
  | some b => .ok b ρ
  | none => .no
@[simp] theorem truO_e1 (ρ : Sl) : truO ρ (some b) = .ok b ρ := rfl
@[simp] theorem truO_e2 (ρ : Sl) : truO ρ none = .no := rfl
def truD (ρ : Sl) : Option D → BO
  | some x => truO ρ (truth x)
  | none => .no
@[simp] theorem truD_e1 (ρ : Sl) : truD ρ (some x) = truO ρ (truth x) := rfl
@[simp] theorem truD_e2 (ρ : Sl) : truD ρ none = .no := rfl
def EO.tru : EO → BO
  | .ok o ρ => truD ρ (res ρ o)
  | .ex x ρ => .ex x ρ
  | .no => .no
@[simp] theorem EO.tru_e1 : EO.tru  (.ok o ρ) = truD ρ (res ρ o) := rfl
@[simp] theorem EO.tru_e2 : EO.tru  (.ex x ρ) = .ex x ρ := rfl
@[simp] theorem EO.tru_e3 : EO.tru  (.no) = .no := rfl
@[simp] theorem e_dTru (d : DE) (ρ : Sl) : dTru d ρ = (d ρ).tru := by
  unfold dTru
  cases d ρ with
  | ok o ρ1 =>
    simp only [EO.tru]
    cases res ρ1 o with
    | none => rfl
    | some x =>
      simp only [truD]
      cases truth x <;> rfl
  | ex x ρ1 => rfl
  | no => rfl
@[simp] theorem truth_none : truth .none = some false := rfl
@[simp] theorem truth_bool (b : Bool) : truth (.bool b) = some b := rfl
@[simp] theorem truth_int (i : Int) : truth (.int i) = some (i != 0) := rfl
@[simp] theorem truth_list (ds : List D) : truth (.list ds) = some (!ds.isEmpty) := rfl
@[simp] theorem truth_tuple (ds : List D) : truth (.tuple ds) = some (!ds.isEmpty) := rfl
def tstO (ρ : Sl) : Od → BO
  | .t (.val (.bool b)) => .ok b ρ
  | _ => .no
@[simp] theorem tstO_e1 (ρ : Sl) : tstO ρ (.t (.val (.bool b))) = .ok b ρ := rfl
def EO.tst : EO → BO
  | .ok o ρ => tstO ρ o
  | .ex x ρ => .ex x ρ
  | .no => .no
@[simp] theorem EO.tst_e1 : EO.tst  (.ok o ρ) = tstO ρ o := rfl
@[simp] theorem EO.tst_e2 : EO.tst  (.ex x ρ) = .ex x ρ := rfl
@[simp] theorem EO.tst_e3 : EO.tst  (.no) = .no := rfl
@[simp] theorem e_dTst (d : DE) (ρ : Sl) : dTst d ρ = (d ρ).tst := by
  unfold dTst
  cases d ρ with
  | ok o ρ1 =>
    simp only [EO.tst]
    cases o with
    | p i => rfl
    | t s => cases s with
      | no => rfl
      | own d => rfl
      | val d => cases d <;> rfl
  | ex x ρ1 => rfl
  | no => rfl
def BO.notB : BO → BO
  | .ok b ρ => .ok (!b) ρ
  | .ex x ρ => .ex x ρ
  | .no => .no
@[simp] theorem BO.notB_e1 : BO.notB  (.ok b ρ) = .ok (!b) ρ := rfl
@[simp] theorem BO.notB_e2 : BO.notB  (.ex x ρ) = .ex x ρ := rfl
@[simp] theorem BO.notB_e3 : BO.notB  (.no) = .no := rfl
@[simp] theorem e_dNot (d : DB) (ρ : Sl) : dNot d ρ = (d ρ).notB := by
  unfold dNot
  cases d ρ <;> rfl
def BO.andB (b : DB) : BO → BO
  | .ok c ρ => if c = true then b ρ else .ok false ρ
  | .ex x ρ => .ex x ρ
  | .no => .no
@[simp] theorem BO.andB_e1 (b : DB) : BO.andB b (.ok c ρ) = if c = true then b ρ else .ok false ρ := rfl
@[simp] theorem BO.andB_e2 (b : DB) : BO.andB b (.ex x ρ) = .ex x ρ := rfl
@[simp] theorem BO.andB_e3 (b : DB) : BO.andB b (.no) = .no := rfl
@[simp] theorem e_dAnd (a b : DB) (ρ : Sl) : dAnd a b ρ = (a ρ).andB b := by
  unfold dAnd
  cases a ρ with
  | ok c ρ1 => cases c <;> rfl
  | ex x ρ1 => rfl
  | no => rfl
def BO.orB (b : DB) : BO → BO
  | .ok c ρ => if c = true then .ok true ρ else b ρ
  | .ex x ρ => .ex x ρ
  | .no => .no
@[simp] theorem BO.orB_e1 (b : DB) : BO.orB b (.ok c ρ) = if c = true then .ok true ρ else b ρ := rfl
@[simp] theorem BO.orB_e2 (b : DB) : BO.orB b (.ex x ρ) = .ex x ρ := rfl
@[simp] theorem BO.orB_e3 (b : DB) : BO.orB b (.no) = .no := rfl
@[simp] theorem e_dOr (a b : DB) (ρ : Sl) : dOr a b ρ = (a ρ).orB b := by
  unfold dOr
  cases a ρ with
  | ok c ρ1 => cases c <;> rfl
  | ex x ρ1 => rfl
  | no => rfl
def BO.ifE (a b : DE) : BO → EO
  | .ok c ρ => if c = true then a ρ else b ρ
  | .ex x ρ => .ex x ρ
  | .no => .no
@[simp] theorem BO.ifE_e1 (a b : DE) : BO.ifE a b (.ok c ρ) = if c = true then a ρ else b ρ := rfl
@[simp] theorem BO.ifE_e2 (a b : DE) : BO.ifE a b (.ex x ρ) = .ex x ρ := rfl
@[simp] theorem BO.ifE_e3 (a b : DE) : BO.ifE a b (.no) = .no := rfl
@[simp] theorem e_dIf (t : DB) (a b : DE) (ρ : Sl) : dIf t a b ρ = (t ρ).ifE a b := by
  unfold dIf
  cases t ρ with
  | ok c ρ1 => cases c <;> rfl
  | ex x ρ1 => rfl
  | no => rfl
def BO.ifS (a b : DS) : BO → SO
  | .ok c ρ => if c = true then a ρ else b ρ
  | .ex x ρ => .ex x ρ
  | .no => .no
@[simp] theorem BO.ifS_e1 (a b : DS) : BO.ifS a b (.ok c ρ) = if c = true then a ρ else b ρ := rfl
@[simp] theorem BO.ifS_e2 (a b : DS) : BO.ifS a b (.ex x ρ) = .ex x ρ := rfl
@[simp] theorem BO.ifS_e3 (a b : DS) : BO.ifS a b (.no) = .no := rfl
@[simp] theorem e_sIf (t : DB) (a b : DS) (ρ : Sl) : sIf t a b ρ = (t ρ).ifS a b := by
  unfold sIf
  cases t ρ with
  | ok c ρ1 => cases c <;> rfl
  | ex x ρ1 => rfl
  | no => rfl
def andO (b : DE) (ρ : Sl) : Od → EO
  | .t (.val (.bool c)) => if c = true then b ρ else .ok (.t (.val (.bool false))) ρ
  | _ => .no
@[simp] theorem andO_e1 (b : DE) (ρ : Sl) : andO b ρ (.t (.val (.bool c))) = if c = true then b ρ else .ok (.t (.val (.bool false))) ρ := rfl
def EO.andE (b : DE) : EO → EO
  | .ok o ρ => andO b ρ o
  | .ex x ρ => .ex x ρ
  | .no => .no
@[simp] theorem EO.andE_e1 (b : DE) : EO.andE b (.ok o ρ) = andO b ρ o := rfl
@[simp] theorem EO.andE_e2 (b : DE) : EO.andE b (.ex x ρ) = .ex x ρ := rfl
@[simp] theorem EO.andE_e3 (b : DE) : EO.andE b (.no) = .no := rfl
@[simp] theorem e_dAndV (a b : DE) (ρ : Sl) : dAndV a b ρ = (a ρ).andE b := by
  unfold dAndV
  cases a ρ with
  | ok o ρ1 =>
    simp only [EO.andE]
    cases o with
    | p i => rfl
    | t s => cases s with
      | no => rfl
      | own d => rfl
      | val d => cases d with
        | bool c => cases c <;> rfl
        | _ => rfl
  | ex x ρ1 => rfl
  | no => rfl
def orO (b : DE) (ρ : Sl) : Od → EO
  | .t (.val (.bool c)) => if c = true then .ok (.t (.val (.bool true))) ρ else b ρ
  | _ => .no
@[simp] theorem orO_e1 (b : DE) (ρ : Sl) : orO b ρ (.t (.val (.bool c))) = if c = true then .ok (.t (.val (.bool true))) ρ else b ρ := rfl
def EO.orE (b : DE) : EO → EO
  | .ok o ρ => orO b ρ o
  | .ex x ρ => .ex x ρ
  | .no => .no
@[simp] theorem EO.orE_e1 (b : DE) : EO.orE b (.ok o ρ) = orO b ρ o := rfl
@[simp] theorem EO.orE_e2 (b : DE) : EO.orE b (.ex x ρ) = .ex x ρ := rfl
@[simp] theorem EO.orE_e3 (b : DE) : EO.orE b (.no) = .no := rfl
@[simp] theorem e_dOrV (a b : DE) (ρ : Sl) : dOrV a b ρ = (a ρ).orE b := by
  unfold dOrV
  cases a ρ with
  | ok o ρ1 =>
    simp only [EO.orE]
    cases o with
    | p i => rfl
    | t s => cases s with
      | no => rfl
      | own d => rfl
      | val d => cases d with
        | bool c => cases c <;> rfl
        | _ => rfl
  | ex x ρ1 => rfl
  | no => rfl
def BO.val : BO → EO
  | .ok b ρ => .ok (.t (.val (.bool (!b)))) ρ
  | .ex x ρ => .ex x ρ
  | .no => .no
@[simp] theorem BO.val_e1 : BO.val  (.ok b ρ) = .ok (.t (.val (.bool (!b)))) ρ := rfl
@[simp] theorem BO.val_e2 : BO.val  (.ex x ρ) = .ex x ρ := rfl
@[simp] theorem BO.val_e3 : BO.val  (.no) = .no := rfl
@[simp] theorem e_dNotT (d : DE) (ρ : Sl) : dNotT d ρ = ((d ρ).tru).val := by
  unfold dNotT
  rw [e_dTru]
  cases (d ρ).tru <;> rfl
def chnZ (f' : List D → VO) (y : D) (ρ : Sl) : Option (List D) → EO
  | some [z] => (match f' [y, z] with
    | .v d => .ok (.t (.val d)) ρ
    | _ => .no)
  | _ => .no
@[simp] theorem chnZ_e1 (f' : List D → VO) (y : D) (ρ : Sl) : chnZ f' y ρ (some [z]) = (match f' [y, z] with
    | .v d => .ok (.t (.val d)) ρ
    | _ => .no) := rfl
def chnE (f' : List D → VO) (y : D) : AO → EO
  | .ok [o] ρ => chnZ f' y ρ (resA ρ [o])
  | .ex x ρ => .ex x ρ
  | _ => .no
@[simp] theorem chnE_e1 (f' : List D → VO) (y : D) : chnE f' y (.ok [o] ρ) = chnZ f' y ρ (resA ρ [o]) := rfl
@[simp] theorem chnE_e2 (f' : List D → VO) (y : D) : chnE f' y (.ex x ρ) = .ex x ρ := rfl
def chnB (f' : List D → VO) (y : D) (e : DE) (ρ : Sl) : VO → EO
  | .v (.bool c) => if c = true then chnE f' y (daC e daN ρ) else .ok (.t (.val (.bool false))) ρ
  | _ => .no
@[simp] theorem chnB_e1 (f' : List D → VO) (y : D) (e : DE) (ρ : Sl) : chnB f' y e ρ (.v (.bool c)) = if c = true then chnE f' y (daC e daN ρ) else .ok (.t (.val (.bool false))) ρ := rfl
def chnO (f f' : List D → VO) (y : D) (e : DE) (ρ : Sl) : Option (List D) → EO
  | some ds => chnB f' y e ρ (f ds)
  | none => .no
@[simp] theorem chnO_e1 (f f' : List D → VO) (y : D) (e : DE) (ρ : Sl) : chnO f f' y e ρ (some ds) = chnB f' y e ρ (f ds) := rfl
@[simp] theorem chnO_e2 (f f' : List D → VO) (y : D) (e : DE) (ρ : Sl) : chnO f f' y e ρ none = .no := rfl
def chnA (f f' : List D → VO) (e : DE) : AO → EO
  | .ok [o1, .t (.val y)] ρ => chnO f f' y e ρ (resA ρ [o1, .t (.val y)])
  | .ex x ρ => .ex x ρ
  | _ => .no
@[simp] theorem chnA_e1 (f f' : List D → VO) (e : DE) : chnA f f' e (.ok [o1, .t (.val y)] ρ) = chnO f f' y e ρ (resA ρ [o1, .t (.val y)]) := rfl
@[simp] theorem chnA_e2 (f f' : List D → VO) (e : DE) : chnA f f' e (.ex x ρ) = .ex x ρ := rfl
@[simp] theorem e_dChain (f f' : List D → VO) (a b e : DE) (ρ : Sl) : dChain f f' a b e ρ = chnA f f' e (daC a (daC b daN) ρ) := by
  unfold dChain
  cases daC a (daC b daN) ρ with
  | no => rfl
  | ex x ρ1 => rfl
  | ok os ρ1 =>
    match os with
    | [] => rfl
    | [_] => rfl
    | _ :: b1 :: _ :: _ =>
      cases b1 with
      | p _ => rfl
      | t s => cases s <;> rfl
    | [_, .p _] => rfl
    | [_, .t .no] => rfl
    | [_, .t (.own _)] => rfl
    | [o1, .t (.val y)] =>
      simp only [chnA]
      cases resA ρ1 [o1, .t (.val y)] with
      | none => rfl
      | some ds =>
        simp only [chnO]
        cases f ds with
        | no => rfl
        | n _ => rfl
        | v d => cases d with
          | bool c =>
            cases c with
            | false => rfl
            | true =>
              simp only [chnB, if_true]
              cases daC e daN ρ1 with
              | no => rfl
              | ex x ρ2 => rfl
              | ok os2 ρ2 =>
                match os2 with
                | [] => rfl
                | _ :: _ :: _ => rfl
                | [o3] =>
                  simp only [chnE]
                  match resA ρ2 [o3] with
                  | none => rfl
                  | some [] => rfl
                  | some (_ :: _ :: _) => rfl
                  | some [z] => rfl
          | _ => rfl
def strO (ρ : Sl) : Od → EO
  | .t (.val (.str x)) => .ok (.t (.val (.str x))) ρ
  | _ => .no
@[simp] theorem strO_e1 (ρ : Sl) : strO ρ (.t (.val (.str x))) = .ok (.t (.val (.str x))) ρ := rfl
def EO.strE : EO → EO
  | .ok o ρ => strO ρ o
  | .ex x ρ => .ex x ρ
  | .no => .no
@[simp] theorem EO.strE_e1 : EO.strE  (.ok o ρ) = strO ρ o := rfl
@[simp] theorem EO.strE_e2 : EO.strE  (.ex x ρ) = .ex x ρ := rfl
@[simp] theorem EO.strE_e3 : EO.strE  (.no) = .no := rfl
@[simp] theorem e_dStr (d : DE) (ρ : Sl) : dStr d ρ = (d ρ).strE := by
  unfold dStr
  cases d ρ with
  | ok o ρ1 =>
    cases o with
    | p i => rfl
    | t s => cases s with
      | no => rfl
      | own d => rfl
      | val d => cases d <;> rfl
  | ex x ρ1 => rfl
  | no => rfl
def intO (ρ : Sl) : Od → EO
  | .t (.val (.int x)) => .ok (.t (.val (.int x))) ρ
  | _ => .no
@[simp] theorem intO_e1 (ρ : Sl) : intO ρ (.t (.val (.int x))) = .ok (.t (.val (.int x))) ρ := rfl
def EO.intE : EO → EO
  | .ok o ρ => intO ρ o
  | .ex x ρ => .ex x ρ
  | .no => .no
@[simp] theorem EO.intE_e1 : EO.intE  (.ok o ρ) = intO ρ o := rfl
@[simp] theorem EO.intE_e2 : EO.intE  (.ex x ρ) = .ex x ρ := rfl
@[simp] theorem EO.intE_e3 : EO.intE  (.no) = .no := rfl
@[simp] theorem e_dInt (d : DE) (ρ : Sl) : dInt d ρ = (d ρ).intE := by
  unfold dInt
  cases d ρ with
  | ok o ρ1 =>
    cases o with
    | p i => rfl
    | t s => cases s with
      | no => rfl
      | own d => rfl
      | val d => cases d <;> rfl
  | ex x ρ1 => rfl
  | no => rfl
def fzO : Option (D × Sl) → EO
  | some (x, ρ) => .ok (.t (.val x)) ρ
  | none => .no
@[simp] theorem fzO_e1 : fzO  (some (x, ρ)) = .ok (.t (.val x)) ρ := rfl
@[simp] theorem fzO_e2 : fzO  none = .no := rfl
def EO.fz : EO → EO
  | .ok o ρ => fzO (frz1 ρ o)
  | .ex x ρ => .ex x ρ
  | .no => .no
@[simp] theorem EO.fz_e1 : EO.fz  (.ok o ρ) = fzO (frz1 ρ o) := rfl
@[simp] theorem EO.fz_e2 : EO.fz  (.ex x ρ) = .ex x ρ := rfl
@[simp] theorem EO.fz_e3 : EO.fz  (.no) = .no := rfl
@[simp] theorem e_dFz (d : DE) (ρ : Sl) : dFz d ρ = (d ρ).fz := by
  unfold dFz
  cases d ρ with
  | ok o ρ1 =>
    simp only [EO.fz]
    cases frz1 ρ1 o <;> rfl
  | ex x ρ1 => rfl
  | no => rfl
/-! statements -/
def SO.seq (b : DS) : SO → SO
  | .nx ρ => b ρ
  | .rt d ρ => .rt d ρ
  | .bk ρ => .bk ρ
  | .ct ρ => .ct ρ
  | .ex x ρ => .ex x ρ
  | .no => .no
@[simp] theorem SO.seq_e1 (b : DS) : SO.seq b (.nx ρ) = b ρ := rfl
@[simp] theorem SO.seq_e2 (b : DS) : SO.seq b (.rt d ρ) = .rt d ρ := rfl
@[simp] theorem SO.seq_e3 (b : DS) : SO.seq b (.bk ρ) = .bk ρ := rfl
@[simp] theorem SO.seq_e4 (b : DS) : SO.seq b (.ct ρ) = .ct ρ := rfl
@[simp] theorem SO.seq_e5 (b : DS) : SO.seq b (.ex x ρ) = .ex x ρ := rfl
@[simp] theorem SO.seq_e6 (b : DS) : SO.seq b (.no) = .no := rfl
@[simp] theorem e_sSeq (a b : DS) (ρ : Sl) : sSeq a b ρ = (a ρ).seq b := by
  unfold sSeq
  cases a ρ <;> rfl
@[simp] theorem e_sNil (ρ : Sl) : sNil ρ = .nx ρ := rfl
@[simp] theorem e_sBrk (ρ : Sl) : sBrk ρ = .bk ρ := rfl
@[simp] theorem e_sCnt (ρ : Sl) : sCnt ρ = .ct ρ := rfl
@[simp] theorem e_sRetN (ρ : Sl) : sRetN ρ = .rt .none ρ := rfl
def retO : Option (D × Sl) → SO
  | some (x, ρ) => .rt x ρ
  | none => .no
@[simp] theorem retO_e1 : retO  (some (x, ρ)) = .rt x ρ := rfl
@[simp] theorem retO_e2 : retO  none = .no := rfl
def EO.ret : EO → SO
  | .ok o ρ => retO (frz1 ρ o)
  | .ex x ρ => .ex x ρ
  | .no => .no
@[simp] theorem EO.ret_e1 : EO.ret  (.ok o ρ) = retO (frz1 ρ o) := rfl
@[simp] theorem EO.ret_e2 : EO.ret  (.ex x ρ) = .ex x ρ := rfl
@[simp] theorem EO.ret_e3 : EO.ret  (.no) = .no := rfl
@[simp] theorem e_sRet (d : DE) (ρ : Sl) : sRet d ρ = (d ρ).ret := by
  unfold sRet
  cases d ρ with
  | ok o ρ1 =>
    simp only [EO.ret]
    cases frz1 ρ1 o <;> rfl
  | ex x ρ1 => rfl
  | no => rfl
def EO.drop : EO → SO
  | .ok _ ρ => .nx ρ
  | .ex x ρ => .ex x ρ
  | .no => .no
@[simp] theorem EO.drop_e1 : EO.drop  (.ok w1 ρ) = .nx ρ := rfl
@[simp] theorem EO.drop_e2 : EO.drop  (.ex x ρ) = .ex x ρ := rfl
@[simp] theorem EO.drop_e3 : EO.drop  (.no) = .no := rfl
@[simp] theorem e_sDrop (d : DE) (ρ : Sl) : sDrop d ρ = (d ρ).drop := by
  unfold sDrop
  cases d ρ <;> rfl
def setP (i j : Nat) (ρ : Sl) : Option SV → SO
  | some (.val x) => .nx (ρ.set i (.val x))
  | some (.own x) => .nx ((ρ.set j (.val x)).set i (.val x))
  | some .no => .no
  | none => .no
@[simp] theorem setP_e1 (i j : Nat) (ρ : Sl) : setP i j ρ (some (.val x)) = .nx (ρ.set i (.val x)) := rfl
@[simp] theorem setP_e2 (i j : Nat) (ρ : Sl) : setP i j ρ (some (.own x)) = .nx ((ρ.set j (.val x)).set i (.val x)) := rfl
@[simp] theorem setP_e3 (i j : Nat) (ρ : Sl) : setP i j ρ (some .no) = .no := rfl
@[simp] theorem setP_e4 (i j : Nat) (ρ : Sl) : setP i j ρ none = .no := rfl
def EO.set (i : Nat) : EO → SO
  | .ok (.t s) ρ => .nx (ρ.set i s)
  | .ok (.p j) ρ => setP i j ρ ρ[j]?
  | .ex x ρ => .ex x ρ
  | .no => .no
@[simp] theorem EO.set_e1 (i : Nat) : EO.set i (.ok (.t s) ρ) = .nx (ρ.set i s) := rfl
@[simp] theorem EO.set_e2 (i : Nat) : EO.set i (.ok (.p j) ρ) = setP i j ρ ρ[j]? := rfl
@[simp] theorem EO.set_e3 (i : Nat) : EO.set i (.ex x ρ) = .ex x ρ := rfl
@[simp] theorem EO.set_e4 (i : Nat) : EO.set i (.no) = .no := rfl
@[simp] theorem e_sSet (i : Nat) (d : DE) (ρ : Sl) : sSet i d ρ = (d ρ).set i := by
  unfold sSet
  cases d ρ with
  | ok o ρ1 =>
    cases o with
    | t s => rfl
    | p j =>
      simp only [EO.set]
      cases ρ1[j]? with
      | none => rfl
      | some s => cases s <;> rfl
  | ex x ρ1 => rfl
  | no => rfl
def nxO : Option Sl → SO
  | some ρ => .nx ρ
  | none => .no
@[simp] theorem nxO_e1 : nxO  (some ρ) = .nx ρ := rfl
@[simp] theorem nxO_e2 : nxO  none = .no := rfl
def asgO (dg : DG) : Option (D × Sl) → SO
  | some (x, ρ) => nxO (dg x ρ)
  | none => .no
@[simp] theorem asgO_e1 (dg : DG) : asgO dg (some (x, ρ)) = nxO (dg x ρ) := rfl
@[simp] theorem asgO_e2 (dg : DG) : asgO dg none = .no := rfl
def EO.asg (dg : DG) : EO → SO
  | .ok o ρ => asgO dg (frz1 ρ o)
  | .ex x ρ => .ex x ρ
  | .no => .no
@[simp] theorem EO.asg_e1 (dg : DG) : EO.asg dg (.ok o ρ) = asgO dg (frz1 ρ o) := rfl
@[simp] theorem EO.asg_e2 (dg : DG) : EO.asg dg (.ex x ρ) = .ex x ρ := rfl
@[simp] theorem EO.asg_e3 (dg : DG) : EO.asg dg (.no) = .no := rfl
@[simp] theorem e_sAsg (dg : DG) (d : DE) (ρ : Sl) : sAsg dg d ρ = (d ρ).asg dg := by
  unfold sAsg
  cases d ρ with
  | ok o ρ1 =>
    simp only [EO.asg]
    cases frz1 ρ1 o with
    | none => rfl
    | some p =>
      obtain ⟨x, ρ2⟩ := p
      simp only [asgO]
      cases dg x ρ2 <;> rfl
  | ex x ρ1 => rfl
  | no => rfl
@[simp] theorem e_gN (i : Nat) (d : D) (ρ : Sl) : gN i d ρ = some (ρ.set i (.val d)) := rfl
@[simp] theorem e_gsN (ρ : Sl) : gsN [] ρ = some ρ := rfl
def gsK (gs : List D → Sl → Option Sl) (ds : List D) : Option Sl → Option Sl
  | some ρ => gs ds ρ
  | none => none
@[simp] theorem gsK_e1 (gs : List D → Sl → Option Sl) (ds : List D) : gsK gs ds (some ρ) = gs ds ρ := rfl
@[simp] theorem gsK_e2 (gs : List D → Sl → Option Sl) (ds : List D) : gsK gs ds none = none := rfl
@[simp] theorem e_gsC (g : DG) (gs : List D → Sl → Option Sl) (d : D) (ds : List D) (ρ : Sl) : gsC g gs (d :: ds) ρ = gsK gs ds (g d ρ) := by
  unfold gsC
  simp only
  cases g d ρ <;> rfl
@[simp] theorem e_gT (gs : List D → Sl → Option Sl) (n : Nat) (ds : List D) (ρ : Sl) : gT gs n (.tuple ds) ρ = if ds.length = n then gs ds ρ else none := rfl
def svO (i : Nat) (ρ : Sl) : Option SV → Option (SV × Sl)
  | some (.val d) => some (.val d, ρ)
  | some (.own d) => some (.val d, ρ.set i (.val d))
  | some .no => none
  | none => none
@[simp] theorem svO_e1 (i : Nat) (ρ : Sl) : svO i ρ (some (.val d)) = some (.val d, ρ) := rfl
@[simp] theorem svO_e2 (i : Nat) (ρ : Sl) : svO i ρ (some (.own d)) = some (.val d, ρ.set i (.val d)) := rfl
@[simp] theorem svO_e3 (i : Nat) (ρ : Sl) : svO i ρ (some .no) = none := rfl
@[simp] theorem svO_e4 (i : Nat) (ρ : Sl) : svO i ρ none = none := rfl
@[simp] theorem e_sv1 (s : SV) (ρ : Sl) : sv1 ρ (.t s) = some (s, ρ) := rfl
@[simp] theorem e_sv2 (i : Nat) (ρ : Sl) : sv1 ρ (.p i) = svO i ρ ρ[i]? := by
  show (match ρ[i]? with | some (.val d) => some (SV.val d, ρ) | some (.own d) => some (SV.val d, ρ.set i (.val d)) | _ => none) = _
  cases ρ[i]? with
  | none => rfl
  | some s => cases s <;> rfl
def svC1 (s : SV) : Option (List SV × Sl) → Option (List SV × Sl)
  | some (ss, ρ) => some (s :: ss, ρ)
  | none => none
@[simp] theorem svC1_e1 (s : SV) : svC1 s (some (ss, ρ)) = some (s :: ss, ρ) := rfl
@[simp] theorem svC1_e2 (s : SV) : svC1 s none = none := rfl
def svC : Option (SV × Sl) → List Od → Option (List SV × Sl)
  | some (s, ρ1), os => svC1 s (svA ρ1 os)
  | none, _ => none
@[simp] theorem svC_e1 : svC  (some (s, ρ1)) oz = svC1 s (svA ρ1 oz) := rfl
@[simp] theorem svC_e2 : svC  none w1 = none := rfl
@[simp] theorem e_svN (ρ : Sl) : svA ρ [] = some ([], ρ) := rfl
@[simp] theorem e_svC (ρ : Sl) (o : Od) (os : List Od) : svA ρ (o :: os) = svC (sv1 ρ o) os := by
  rw [svA]
  cases sv1 ρ o with
  | none => rfl
  | some p =>
    obtain ⟨s, ρ1⟩ := p
    simp only [svC]
    cases svA ρ1 os with
    | none => rfl
    | some q => rfl
@[simp] theorem e_setN (ρ : Sl) : setAll ρ [] [] = ρ := rfl
@[simp] theorem e_setC (ρ : Sl) (i : Nat) (is : List Nat) (s : SV) (ss : List SV) : setAll ρ (i :: is) (s :: ss) = setAll (ρ.set i s) is ss := rfl
def parO (is : List Nat) : Option (List SV × Sl) → SO
  | some (ss, ρ) => .nx (setAll ρ is ss)
  | none => .no
@[simp] theorem parO_e1 (is : List Nat) : parO is (some (ss, ρ)) = .nx (setAll ρ is ss) := rfl
@[simp] theorem parO_e2 (is : List Nat) : parO is none = .no := rfl
def AO.par (is : List Nat) : AO → SO
  | .ok os ρ => parO is (svA ρ os)
  | .ex x ρ => .ex x ρ
  | .no => .no
@[simp] theorem AO.par_e1 (is : List Nat) : AO.par is (.ok oz ρ) = parO is (svA ρ oz) := rfl
@[simp] theorem AO.par_e2 (is : List Nat) : AO.par is (.ex x ρ) = .ex x ρ := rfl
@[simp] theorem AO.par_e3 (is : List Nat) : AO.par is (.no) = .no := rfl
@[simp] theorem e_sPar (is : List Nat) (da : DAs) (ρ : Sl) : sPar is da ρ = (da ρ).par is := by
  unfold sPar
  cases da ρ with
  | ok os ρ1 =>
    simp only [AO.par]
    cases svA ρ1 os <;> rfl
  | ex x ρ1 => rfl
  | no => rfl
def rsO (x : Str) (fns : List Str) : Option (List D × Sl) → SO
  | some (ds, ρ) => .ex ⟨x, (fns.zip ds).reverse⟩ ρ
  | none => .no
@[simp] theorem rsO_e1 (x : Str) (fns : List Str) : rsO x fns (some (ds, ρ)) = .ex ⟨x, (fns.zip ds).reverse⟩ ρ := rfl
@[simp] theorem rsO_e2 (x : Str) (fns : List Str) : rsO x fns none = .no := rfl
def AO.rs (x : Str) (fns : List Str) : AO → SO
  | .ok os ρ => rsO x fns (frzA ρ os)
  | .ex y ρ => .ex y ρ
  | .no => .no
@[simp] theorem AO.rs_e1 (x : Str) (fns : List Str) : AO.rs x fns (.ok oz ρ) = rsO x fns (frzA ρ oz) := rfl
@[simp] theorem AO.rs_e2 (x : Str) (fns : List Str) : AO.rs x fns (.ex y ρ) = .ex y ρ := rfl
@[simp] theorem AO.rs_e3 (x : Str) (fns : List Str) : AO.rs x fns (.no) = .no := rfl
@[simp] theorem e_sRaise (x : Str) (fns : List Str) (da : DAs) (ρ : Sl) : sRaise x fns da ρ = (da ρ).rs x fns := by
  unfold sRaise
  cases da ρ with
  | ok os ρ1 =>
    simp only [AO.rs]
    cases frzA ρ1 os <;> rfl
  | ex x ρ1 => rfl
  | no => rfl
def augV (i : Nat) (ρ : Sl) : VO → SO
  | .v z => .nx (ρ.set i (.val z))
  | .n _ => .no
  | .no => .no
@[simp] theorem augV_e1 (i : Nat) (ρ : Sl) : augV i ρ (.v z) = .nx (ρ.set i (.val z)) := rfl
@[simp] theorem augV_e2 (i : Nat) (ρ : Sl) : augV i ρ (.n w1) = .no := rfl
@[simp] theorem augV_e3 (i : Nat) (ρ : Sl) : augV i ρ (.no) = .no := rfl
def augO (i : Nat) (f : List D → VO) (a : D) (ρ : Sl) : Option D → SO
  | some b => augV i ρ (f [a, b])
  | none => .no
@[simp] theorem augO_e1 (i : Nat) (f : List D → VO) (a : D) (ρ : Sl) : augO i f a ρ (some b) = augV i ρ (f [a, b]) := rfl
@[simp] theorem augO_e2 (i : Nat) (f : List D → VO) (a : D) (ρ : Sl) : augO i f a ρ none = .no := rfl
def augE (i : Nat) (f : List D → VO) (a : D) : EO → SO
  | .ok o ρ => augO i f a ρ (res ρ o)
  | .ex x ρ => .ex x ρ
  | .no => .no
@[simp] theorem augE_e1 (i : Nat) (f : List D → VO) (a : D) : augE i f a (.ok o ρ) = augO i f a ρ (res ρ o) := rfl
@[simp] theorem augE_e2 (i : Nat) (f : List D → VO) (a : D) : augE i f a (.ex x ρ) = .ex x ρ := rfl
@[simp] theorem augE_e3 (i : Nat) (f : List D → VO) (a : D) : augE i f a (.no) = .no := rfl
def augS (i : Nat) (f : List D → VO) (d : DE) (ρ : Sl) : Option SV → SO
  | some (.val a) => augE i f a (d ρ)
  | some (.own _) => .no
  | some .no => .no
  | none => .no
@[simp] theorem augS_e1 (i : Nat) (f : List D → VO) (d : DE) (ρ : Sl) : augS i f d ρ (some (.val a)) = augE i f a (d ρ) := rfl
@[simp] theorem augS_e2 (i : Nat) (f : List D → VO) (d : DE) (ρ : Sl) : augS i f d ρ (some (.own w1)) = .no := rfl
@[simp] theorem augS_e3 (i : Nat) (f : List D → VO) (d : DE) (ρ : Sl) : augS i f d ρ (some .no) = .no := rfl
@[simp] theorem augS_e4 (i : Nat) (f : List D → VO) (d : DE) (ρ : Sl) : augS i f d ρ none = .no := rfl
@[simp] theorem e_sAug (i : Nat) (f : List D → VO) (d : DE) (ρ : Sl) : sAug i f d ρ = augS i f d ρ ρ[i]? := by
  unfold sAug
  cases ρ[i]? with
  | none => rfl
  | some s =>
    cases s with
    | no => rfl
    | own _ => rfl
    | val a =>
      simp only [augS]
      cases d ρ with
      | no => rfl
      | ex x ρ1 => rfl
      | ok o ρ1 =>
        simp only [augE]
        cases res ρ1 o with
        | none => rfl
        | some b =>
          simp only [augO]
          cases f [a, b] <;> rfl
def mutD (k : Nat) (ρ : Sl) : Option (D × D) → EO
  | some (z, d1) => .ok (.t (.val z)) (ρ.set k (.own d1))
  | none => .no
@[simp] theorem mutD_e1 (k : Nat) (ρ : Sl) : mutD k ρ (some (z, d1)) = .ok (.t (.val z)) (ρ.set k (.own d1)) := rfl
@[simp] theorem mutD_e2 (k : Nat) (ρ : Sl) : mutD k ρ none = .no := rfl
def mutF (k : Nat) (f : MF) (ds : List D) (ρ : Sl) : Option SV → EO
  | some (.own d0) => mutD k ρ (f d0 ds)
  | some (.val _) => .no
  | some .no => .no
  | none => .no
@[simp] theorem mutF_e1 (k : Nat) (f : MF) (ds : List D) (ρ : Sl) : mutF k f ds ρ (some (.own d0)) = mutD k ρ (f d0 ds) := rfl
@[simp] theorem mutF_e2 (k : Nat) (f : MF) (ds : List D) (ρ : Sl) : mutF k f ds ρ (some (.val w1)) = .no := rfl
@[simp] theorem mutF_e3 (k : Nat) (f : MF) (ds : List D) (ρ : Sl) : mutF k f ds ρ (some .no) = .no := rfl
@[simp] theorem mutF_e4 (k : Nat) (f : MF) (ds : List D) (ρ : Sl) : mutF k f ds ρ none = .no := rfl
def mutO (k : Nat) (f : MF) : Option (List D × Sl) → EO
  | some (ds, ρ) => mutF k f ds ρ ρ[k]?
  | none => .no
@[simp] theorem mutO_e1 (k : Nat) (f : MF) : mutO k f (some (ds, ρ)) = mutF k f ds ρ ρ[k]? := rfl
@[simp] theorem mutO_e2 (k : Nat) (f : MF) : mutO k f none = .no := rfl
def AO.mut (k : Nat) (f : MF) : AO → EO
  | .ok os ρ => mutO k f (frzA ρ os)
  | .ex x ρ => .ex x ρ
  | .no => .no
@[simp] theorem AO.mut_e1 (k : Nat) (f : MF) : AO.mut k f (.ok oz ρ) = mutO k f (frzA ρ oz) := rfl
@[simp] theorem AO.mut_e2 (k : Nat) (f : MF) : AO.mut k f (.ex x ρ) = .ex x ρ := rfl
@[simp] theorem AO.mut_e3 (k : Nat) (f : MF) : AO.mut k f (.no) = .no := rfl
def mutS (T : String) (k : Nat) (f : MF) (da : DAs) (ρ : Sl) : Option SV → EO
  | some (.own d) => if tyOk T d = true then (da ρ).mut k f else .no
  | some (.val _) => .no
  | some .no => .no
  | none => .no
@[simp] theorem mutS_e1 (T : String) (k : Nat) (f : MF) (da : DAs) (ρ : Sl) : mutS T k f da ρ (some (.own d)) = if tyOk T d = true then (da ρ).mut k f else .no := rfl
@[simp] theorem mutS_e2 (T : String) (k : Nat) (f : MF) (da : DAs) (ρ : Sl) : mutS T k f da ρ (some (.val w1)) = .no := rfl
@[simp] theorem mutS_e3 (T : String) (k : Nat) (f : MF) (da : DAs) (ρ : Sl) : mutS T k f da ρ (some .no) = .no := rfl
@[simp] theorem mutS_e4 (T : String) (k : Nat) (f : MF) (da : DAs) (ρ : Sl) : mutS T k f da ρ none = .no := rfl
@[simp] theorem e_dMut (T : String) (k : Nat) (f : MF) (da : DAs) (ρ : Sl) : dMut T k f da ρ = mutS T k f da ρ ρ[k]? := by
  unfold dMut
  cases ρ[k]? with
  | none => rfl
  | some s =>
    cases s with
    | no => rfl
    | val _ => rfl
    | own d =>
      simp only [mutS]
      by_cases h : tyOk T d = true
      · rw [if_pos h, if_pos h]
        cases da ρ with
        | ok os ρ1 =>
          simp only [AO.mut]
          cases frzA ρ1 os with
          | none => rfl
          | some p =>
            obtain ⟨ds, ρ2⟩ := p
            simp only [mutO]
            cases ρ2[k]? with
            | none => rfl
            | some s2 =>
              cases s2 with
              | no => rfl
              | val _ => rfl
              | own d0 =>
                simp only [mutF]
                cases f d0 ds <;> rfl
        | ex x ρ1 => rfl
        | no => rfl
      · rw [if_neg h, if_neg h]
def ixlD (k : Nat) (x : D) (ρ : Sl) : Option Nat → List D → SO
  | some j, ds => .nx (ρ.set k (.own (.list (ds.set j x))))
  | none, _ => .no
@[simp] theorem ixlD_e1 (k : Nat) (x : D) (ρ : Sl) : ixlD k x ρ (some j) ds = .nx (ρ.set k (.own (.list (ds.set j x)))) := rfl
@[simp] theorem ixlD_e2 (k : Nat) (x : D) (ρ : Sl) : ixlD k x ρ none w1 = .no := rfl
def ixlF (k : Nat) (x : D) (i : Int) (ρ : Sl) : Option SV → SO
  | some (.own (.list ds)) => ixlD k x ρ (ixN ds.length i) ds
  | _ => .no
@[simp] theorem ixlF_e1 (k : Nat) (x : D) (i : Int) (ρ : Sl) : ixlF k x i ρ (some (.own (.list ds))) = ixlD k x ρ (ixN ds.length i) ds := rfl
def ixlI (k : Nat) (x : D) : EO → SO
  | .ok (.t (.val (.int i))) ρ => ixlF k x i ρ ρ[k]?
  | .ex y ρ => .ex y ρ
  | _ => .no
@[simp] theorem ixlI_e1 (k : Nat) (x : D) : ixlI k x (.ok (.t (.val (.int i))) ρ) = ixlF k x i ρ ρ[k]? := rfl
@[simp] theorem ixlI_e2 (k : Nat) (x : D) : ixlI k x (.ex y ρ) = .ex y ρ := rfl
def ixlS (k : Nat) (x : D) (di : DE) (ρ : Sl) : Option SV → SO
  | some (.own _) => ixlI k x (di ρ)
  | some (.val _) => .no
  | some .no => .no
  | none => .no
@[simp] theorem ixlS_e1 (k : Nat) (x : D) (di : DE) (ρ : Sl) : ixlS k x di ρ (some (.own w1)) = ixlI k x (di ρ) := rfl
@[simp] theorem ixlS_e2 (k : Nat) (x : D) (di : DE) (ρ : Sl) : ixlS k x di ρ (some (.val w1)) = .no := rfl
@[simp] theorem ixlS_e3 (k : Nat) (x : D) (di : DE) (ρ : Sl) : ixlS k x di ρ (some .no) = .no := rfl
@[simp] theorem ixlS_e4 (k : Nat) (x : D) (di : DE) (ρ : Sl) : ixlS k x di ρ none = .no := rfl
def ixlO (k : Nat) (di : DE) : Option (D × Sl) → SO
  | some (x, ρ) => ixlS k x di ρ ρ[k]?
  | none => .no
@[simp] theorem ixlO_e1 (k : Nat) (di : DE) : ixlO k di (some (x, ρ)) = ixlS k x di ρ ρ[k]? := rfl
@[simp] theorem ixlO_e2 (k : Nat) (di : DE) : ixlO k di none = .no := rfl
def EO.ixl (k : Nat) (di : DE) : EO → SO
  | .ok o ρ => ixlO k di (frz1 ρ o)
  | .ex y ρ => .ex y ρ
  | .no => .no
@[simp] theorem EO.ixl_e1 (k : Nat) (di : DE) : EO.ixl k di (.ok o ρ) = ixlO k di (frz1 ρ o) := rfl
@[simp] theorem EO.ixl_e2 (k : Nat) (di : DE) : EO.ixl k di (.ex y ρ) = .ex y ρ := rfl
@[simp] theorem EO.ixl_e3 (k : Nat) (di : DE) : EO.ixl k di (.no) = .no := rfl
@[simp] theorem e_sIxL (k : Nat) (d di : DE) (ρ : Sl) : sIxL k d di ρ = (d ρ).ixl k di := by
  unfold sIxL
  cases d ρ with
  | ok o ρ0 =>
    simp only [EO.ixl]
    cases frz1 ρ0 o with
    | none => rfl
    | some p =>
      obtain ⟨x, ρ1⟩ := p
      simp only [ixlO]
      cases ρ1[k]? with
      | none => rfl
      | some s =>
        cases s with
        | no => rfl
        | val _ => rfl
        | own d0 =>
          simp only [ixlS]
          cases di ρ1 with
          | no => rfl
          | ex y ρ2 => rfl
          | ok o2 ρ2 =>
            cases o2 with
            | p _ => rfl
            | t s2 => cases s2 with
              | no => rfl
              | own _ => rfl
              | val d2 => cases d2 with
                | int i =>
                  simp only [ixlI]
                  cases ρ2[k]? with
                  | none => rfl
                  | some s3 => cases s3 with
                    | no => rfl
                    | val _ => rfl
                    | own d3 => cases d3 with
                      | list ds =>
                        simp only [ixlF]
                        cases ixN ds.length i <;> rfl
                      | _ => rfl
                | _ => rfl
  | ex x ρ1 => rfl
  | no => rfl
/-! what is walked -/
def itD (x : D) (ρ : Sl) : Option (List D) → IO
  | some ds => .ok x ds ρ
  | none => .no
@[simp] theorem itD_e1 (x : D) (ρ : Sl) : itD x ρ (some ds) = .ok x ds ρ := rfl
@[simp] theorem itD_e2 (x : D) (ρ : Sl) : itD x ρ none = .no := rfl
def itO : Option (D × Sl) → IO
  | some (x, ρ) => itD x ρ (itemsD x)
  | none => .no
@[simp] theorem itO_e1 : itO  (some (x, ρ)) = itD x ρ (itemsD x) := rfl
@[simp] theorem itO_e2 : itO  none = .no := rfl
def EO.it : EO → IO
  | .ok o ρ => itO (frz1 ρ o)
  | .ex y ρ => .ex y ρ
  | .no => .no
@[simp] theorem EO.it_e1 : EO.it  (.ok o ρ) = itO (frz1 ρ o) := rfl
@[simp] theorem EO.it_e2 : EO.it  (.ex y ρ) = .ex y ρ := rfl
@[simp] theorem EO.it_e3 : EO.it  (.no) = .no := rfl
@[simp] theorem e_dIt (d : DE) (ρ : Sl) : dIt d ρ = (d ρ).it := by
  unfold dIt
  cases d ρ with
  | ok o ρ1 =>
    simp only [EO.it]
    cases frz1 ρ1 o with
    | none => rfl
    | some p =>
      obtain ⟨x, ρ2⟩ := p
      simp only [itO]
      cases itemsD x <;> rfl
  | ex x ρ1 => rfl
  | no => rfl
@[simp] theorem items_l (ds : List D) : itemsD (.list ds) = some ds := rfl
@[simp] theorem items_t (ds : List D) : itemsD (.tuple ds) = some ds := rfl
@[simp] theorem items_s (z : Str) : itemsD (.str z) = some (z.cps.toList.map fun c => .str ⟨#[c]⟩) := rfl
def rg1O (ρ : Sl) : Option (List D) → IO
  | some [.int n] => if small n = true then .ok .none (rangeD 0 n) ρ else .no
  | _ => .no
@[simp] theorem rg1O_e1 (ρ : Sl) : rg1O ρ (some [.int n]) = if small n = true then .ok .none (rangeD 0 n) ρ else .no := rfl
def AO.rg1 : AO → IO
  | .ok os ρ => rg1O ρ (resA ρ os)
  | .ex y ρ => .ex y ρ
  | .no => .no
@[simp] theorem AO.rg1_e1 : AO.rg1  (.ok oz ρ) = rg1O ρ (resA ρ oz) := rfl
@[simp] theorem AO.rg1_e2 : AO.rg1  (.ex y ρ) = .ex y ρ := rfl
@[simp] theorem AO.rg1_e3 : AO.rg1  (.no) = .no := rfl
@[simp] theorem e_dRg1 (da : DAs) (ρ : Sl) : dRg1 da ρ = (da ρ).rg1 := by
  unfold dRg1
  cases da ρ <;> rfl
def rg2O (ρ : Sl) : Option (List D) → IO
  | some [.int a, .int b] => if (small a && small b) = true then .ok .none (rangeD a b) ρ else .no
  | _ => .no
@[simp] theorem rg2O_e1 (ρ : Sl) : rg2O ρ (some [.int a, .int b]) = if (small a && small b) = true then .ok .none (rangeD a b) ρ else .no := rfl
def AO.rg2 : AO → IO
  | .ok os ρ => rg2O ρ (resA ρ os)
  | .ex y ρ => .ex y ρ
  | .no => .no
@[simp] theorem AO.rg2_e1 : AO.rg2  (.ok oz ρ) = rg2O ρ (resA ρ oz) := rfl
@[simp] theorem AO.rg2_e2 : AO.rg2  (.ex y ρ) = .ex y ρ := rfl
@[simp] theorem AO.rg2_e3 : AO.rg2  (.no) = .no := rfl
@[simp] theorem e_dRg2 (da : DAs) (ρ : Sl) : dRg2 da ρ = (da ρ).rg2 := by
  unfold dRg2
  cases da ρ <;> rfl
def enD (x : D) (ρ : Sl) : Option (List D) → IO
  | some ds => .ok x (enumD ds) ρ
  | none => .no
@[simp] theorem enD_e1 (x : D) (ρ : Sl) : enD x ρ (some ds) = .ok x (enumD ds) ρ := rfl
@[simp] theorem enD_e2 (x : D) (ρ : Sl) : enD x ρ none = .no := rfl
def enO : Option (List D × Sl) → IO
  | some ([x], ρ) => enD x ρ (itemsD x)
  | _ => .no
@[simp] theorem enO_e1 : enO  (some ([x], ρ)) = enD x ρ (itemsD x) := rfl
def AO.en : AO → IO
  | .ok os ρ => enO (frzA ρ os)
  | .ex y ρ => .ex y ρ
  | .no => .no
@[simp] theorem AO.en_e1 : AO.en  (.ok oz ρ) = enO (frzA ρ oz) := rfl
@[simp] theorem AO.en_e2 : AO.en  (.ex y ρ) = .ex y ρ := rfl
@[simp] theorem AO.en_e3 : AO.en  (.no) = .no := rfl
@[simp] theorem e_dEn (da : DAs) (ρ : Sl) : dEn da ρ = (da ρ).en := by
  unfold dEn
  cases da ρ with
  | ok os ρ1 =>
    simp only [AO.en]
    match frzA ρ1 os with
    | none => rfl
    | some ([], ρ2) => rfl
    | some (_ :: _ :: _, ρ2) => rfl
    | some ([x], ρ2) =>
      simp only [enO]
      cases itemsD x <;> rfl
  | ex x ρ1 => rfl
  | no => rfl
def IO.for (dg : DG) (b : DS) : IO → SO
  | .ok _ ds ρ => forL dg b ds ρ
  | .ex y ρ => .ex y ρ
  | .no => .no
@[simp] theorem IO.for_e1 (dg : DG) (b : DS) : IO.for dg b (.ok w1 ds ρ) = forL dg b ds ρ := rfl
@[simp] theorem IO.for_e2 (dg : DG) (b : DS) : IO.for dg b (.ex y ρ) = .ex y ρ := rfl
@[simp] theorem IO.for_e3 (dg : DG) (b : DS) : IO.for dg b (.no) = .no := rfl
@[simp] theorem e_sFor (di : DI) (dg : DG) (b : DS) (ρ : Sl) : sFor di dg b ρ = (di ρ).for dg b := by
  unfold sFor
  cases di ρ <;> rfl
def lcO (vs : List Nat) (ρ1 : Sl) : Option (List D × Sl) → EO
  | some (acc, ρ2) => .ok (.t (.own (.list acc))) (restR ρ1 ρ2 vs)
  | none => .no
@[simp] theorem lcO_e1 (vs : List Nat) (ρ1 : Sl) : lcO vs ρ1 (some (acc, ρ2)) = .ok (.t (.own (.list acc))) (restR ρ1 ρ2 vs) := rfl
@[simp] theorem lcO_e2 (vs : List Nat) (ρ1 : Sl) : lcO vs ρ1 none = .no := rfl
def IO.lc (vs : List Nat) (dg : DG) (dt : DB) (de : DE) : IO → EO
  | .ok _ ds ρ => lcO vs ρ (lcL dg dt de vs ds [] (wipeR ρ vs))
  | .ex y ρ => .ex y ρ
  | .no => .no
@[simp] theorem IO.lc_e1 (vs : List Nat) (dg : DG) (dt : DB) (de : DE) : IO.lc vs dg dt de (.ok w1 ds ρ) = lcO vs ρ (lcL dg dt de vs ds [] (wipeR ρ vs)) := rfl
@[simp] theorem IO.lc_e2 (vs : List Nat) (dg : DG) (dt : DB) (de : DE) : IO.lc vs dg dt de (.ex y ρ) = .ex y ρ := rfl
@[simp] theorem IO.lc_e3 (vs : List Nat) (dg : DG) (dt : DB) (de : DE) : IO.lc vs dg dt de (.no) = .no := rfl
theorem e_dLc (di : DI) (vs : List Nat) (dg : DG) (dt : DB) (de : DE) (ρ : Sl) : dLc di vs dg dt de ρ = (di ρ).lc vs dg dt de := by
  unfold dLc
  cases di ρ with
  | ok x ds ρ1 =>
    simp only [IO.lc]
    cases lcL dg dt de vs ds [] (wipeR ρ1 vs) <;> rfl
  | ex x ρ1 => rfl
  | no => rfl
def tryO (cn : Str) (hf : Exn → Option D) (i : Nat) : EO → SO
  | .ok (.t _) ρ => .nx ρ
  | .ok (.p _) _ => .no
  | .ex x ρ => if x.cls = cn ∧ i < ρ.length then retO ((hf x).map fun v => (v, ρ.set i .no)) else .no
  | .no => .no
@[simp] theorem tryO_e1 (cn : Str) (hf : Exn → Option D) (i : Nat) : tryO cn hf i (.ok (.t w1) ρ) = .nx ρ := rfl
@[simp] theorem tryO_e2 (cn : Str) (hf : Exn → Option D) (i : Nat) : tryO cn hf i (.ok (.p w1) w2) = .no := rfl
@[simp] theorem tryO_e3 (cn : Str) (hf : Exn → Option D) (i : Nat) : tryO cn hf i (.ex x ρ) = if x.cls = cn ∧ i < ρ.length then retO ((hf x).map fun v => (v, ρ.set i .no)) else .no := rfl
@[simp] theorem tryO_e4 (cn : Str) (hf : Exn → Option D) (i : Nat) : tryO cn hf i (.no) = .no := rfl
@[simp] theorem e_dTry (cn : Str) (hf : Exn → Option D) (i : Nat) (d : DE) (ρ : Sl) : dTry cn hf i d ρ = tryO cn hf i (d ρ) := by
  unfold dTry
  cases d ρ with
  | ok o ρ1 => cases o <;> rfl
  | ex x ρ1 =>
    simp only [tryO]
    cases hf x <;> rfl
  | no => rfl
def EO.rf (cn f ret : Str) : EO → EO
  | .ok (.t _) ρ => .ok (.t (.val (.str ret))) ρ
  | .ok (.p _) _ => .no
  | .ex x ρ => if x.cls = cn then fzO ((x.fs.lookup f).map fun v => (v, ρ)) else .no
  | .no => .no
@[simp] theorem EO.rf_e1 (cn f ret : Str) : EO.rf cn f ret (.ok (.t w1) ρ) = .ok (.t (.val (.str ret))) ρ := rfl
@[simp] theorem EO.rf_e2 (cn f ret : Str) : EO.rf cn f ret (.ok (.p w1) w2) = .no := rfl
@[simp] theorem EO.rf_e3 (cn f ret : Str) : EO.rf cn f ret (.ex x ρ) = if x.cls = cn then fzO ((x.fs.lookup f).map fun v => (v, ρ)) else .no := rfl
@[simp] theorem EO.rf_e4 (cn f ret : Str) : EO.rf cn f ret (.no) = .no := rfl
@[simp] theorem e_dRef (cn f ret : Str) (d : DE) (ρ : Sl) : dRef cn f ret d ρ = (d ρ).rf cn f ret := by
  unfold dRef
  cases d ρ with
  | ok o ρ1 => cases o <;> rfl
  | ex x ρ1 =>
    simp only [EO.rf]
    cases x.fs.lookup f <;> rfl
  | no => rfl
def SO.ro : SO → RO
  | .rt d _ => .ret d
  | .nx _ => .ret .none
  | .ex x _ => .exc x
  | .bk _ => .no
  | .ct _ => .no
  | .no => .no
@[simp] theorem SO.ro_e1 : SO.ro  (.rt d w1) = .ret d := rfl
@[simp] theorem SO.ro_e2 : SO.ro  (.nx w1) = .ret .none := rfl
@[simp] theorem SO.ro_e3 : SO.ro  (.ex x w1) = .exc x := rfl
@[simp] theorem SO.ro_e4 : SO.ro  (.bk w1) = .no := rfl
@[simp] theorem SO.ro_e5 : SO.ro  (.ct w1) = .no := rfl
@[simp] theorem SO.ro_e6 : SO.ro  (.no) = .no := rfl
theorem fo_run {io : Bool} {n : Nat} {b : DS} {ds : List D} : fo (runD io n b ds) = (b (startR io n ds)).ro := by
  unfold runD
  cases b (startR io n ds) <;> rfl
def SO.fo : SO → FO
  | .rt d ρ => .rt d (ρ.getD 0 .no)
  | .nx ρ => .rt .none (ρ.getD 0 .no)
  | .ex x ρ => .ex x (ρ.getD 0 .no)
  | .bk _ => .no
  | .ct _ => .no
  | .no => .no
@[simp] theorem SO.fo_e1 : SO.fo  (.rt d ρ) = .rt d (ρ.getD 0 .no) := rfl
@[simp] theorem SO.fo_e2 : SO.fo  (.nx ρ) = .rt .none (ρ.getD 0 .no) := rfl
@[simp] theorem SO.fo_e3 : SO.fo  (.ex x ρ) = .ex x (ρ.getD 0 .no) := rfl
@[simp] theorem SO.fo_e4 : SO.fo  (.bk w1) = .no := rfl
@[simp] theorem SO.fo_e5 : SO.fo  (.ct w1) = .no := rfl
@[simp] theorem SO.fo_e6 : SO.fo  (.no) = .no := rfl
theorem io_run {io : Bool} {n : Nat} {b : DS} {ds : List D} : runD io n b ds = (b (startR io n ds)).fo := by
  unfold runD
  cases b (startR io n ds) <;> rfl
@[simp] theorem startR_f (n : Nat) (ds : List D) : startR false n ds = ds.map .val ++ List.replicate (n - ds.length) .no := rfl
@[simp] theorem startR_t (n : Nat) (d : D) (ds : List D) : startR true n (d :: ds) = .own d :: ds.map .val ++ List.replicate (n - (ds.length + 1)) .no := rfl
@[simp] theorem e_dYes (ρ : Sl) : dYes ρ = .ok true ρ := rfl
@[simp] theorem isD_none : isD .none = false := rfl
@[simp] theorem isD_bool (b : Bool) : isD (.bool b) = false := rfl
@[simp] theorem isD_int (b : Int) : isD (.int b) = false := rfl
@[simp] theorem isD_str (b : Str) : isD (.str b) = false := rfl
@[simp] theorem isD_list (b : List D) : isD (.list b) = false := rfl
@[simp] theorem isD_tuple (b : List D) : isD (.tuple b) = false := rfl
@[simp] theorem oIsi_none (T : String) : oIsi T [.none] = (match kitB "NoneType" T with | some b => .v (.bool b) | none => .no) := rfl
@[simp] theorem oIsi_bool (T : String) (b : Bool) : oIsi T [.bool b] = (match kitB "bool" T with | some b => .v (.bool b) | none => .no) := rfl
@[simp] theorem oIsi_int (T : String) (b : Int) : oIsi T [.int b] = (match kitB "int" T with | some b => .v (.bool b) | none => .no) := rfl
@[simp] theorem oIsi_str (T : String) (b : Str) : oIsi T [.str b] = (match kitB "str" T with | some b => .v (.bool b) | none => .no) := rfl
@[simp] theorem oIsi_list (T : String) (b : List D) : oIsi T [.list b] = (match kitB "list" T with | some b => .v (.bool b) | none => .no) := rfl
@[simp] theorem oIsi_tuple (T : String) (b : List D) : oIsi T [.tuple b] = (match kitB "tuple" T with | some b => .v (.bool b) | none => .no) := rfl
@[simp] theorem oLen_l (ds : List D) : oLen [.list ds] = .v (.int (ds.length : Nat)) := rfl
@[simp] theorem oLen_t (ds : List D) : oLen [.tuple ds] = .v (.int (ds.length : Nat)) := rfl
theorem oLen_s {z : Str} (h : z.length ≤ 100000) : oLen [.str z] = .v (.int (z.length : Nat)) := by simp [oLen, h]
@[simp] theorem oTuple_l (ds : List D) : oTuple [.list ds] = .v (.tuple ds) := rfl
@[simp] theorem oTuple_t (ds : List D) : oTuple [.tuple ds] = .v (.tuple ds) := rfl
@[simp] theorem oList_l (ds : List D) : oList [.list ds] = .n (.list ds) := rfl
@[simp] theorem oList_t (ds : List D) : oList [.tuple ds] = .n (.list ds) := rfl
@[simp] theorem oIsN_none : oIsN [.none, .none] = .v (.bool true) := rfl
@[simp] theorem oIsN_bool (b : Bool) : oIsN [.bool b, .none] = .v (.bool false) := rfl
@[simp] theorem oIsN_int (b : Int) : oIsN [.int b, .none] = .v (.bool false) := rfl
@[simp] theorem oIsN_str (b : Str) : oIsN [.str b, .none] = .v (.bool false) := rfl
@[simp] theorem oIsN_list (b : List D) : oIsN [.list b, .none] = .v (.bool false) := rfl
@[simp] theorem oIsN_tuple (b : List D) : oIsN [.tuple b, .none] = .v (.bool false) := rfl
@[simp] theorem oNotN_none : oNotN [.none, .none] = .v (.bool false) := rfl
@[simp] theorem oNotN_bool (b : Bool) : oNotN [.bool b, .none] = .v (.bool true) := rfl
@[simp] theorem oNotN_int (b : Int) : oNotN [.int b, .none] = .v (.bool true) := rfl
@[simp] theorem oNotN_str (b : Str) : oNotN [.str b, .none] = .v (.bool true) := rfl
@[simp] theorem oNotN_list (b : List D) : oNotN [.list b, .none] = .v (.bool true) := rfl
@[simp] theorem oNotN_tuple (b : List D) : oNotN [.tuple b, .none] = .v (.bool true) := rfl
@[simp] theorem tyOk_list (ds : List D) : tyOk "list" (.list ds) = true := rfl
/-! ### a comprehension over a list, one name, its parts changing nothing -/
theorem wipeR1 (ρ : Sl) (v : Nat) : wipeR ρ [v] = ρ.set v .no := rfl
theorem lcL1 {v : Nat} {dt : DB} {de : DE} {ρ0 : Sl} {p : D → Bool} {g : D → D} (hv : ρ0[v]? = some .no) : ∀ (ds acc : List D), acc.length + ds.length ≤ 100000 →
    (∀ d ∈ ds, dt (ρ0.set v (.val d)) = .ok (p d) (ρ0.set v (.val d))) → (∀ d ∈ ds, p d = true → ∃ o, de (ρ0.set v (.val d)) = .ok o (ρ0.set v (.val d)) ∧ frz1 (ρ0.set v (.val d)) o = some (g d, ρ0.set v (.val d))) →
    lcL (gN v) dt de [v] ds acc ρ0 = some (acc ++ (ds.filter p).map g, ρ0)
  | [], acc, _, _, _ => by simp [lcL]
  | d :: ds, acc, hl, h1, h2 => by
    have back : wipeR (ρ0.set v (.val d)) [v] = ρ0 := by
      rw [wipeR1, List.set_set]
      have hlt : v < ρ0.length := (List.getElem?_eq_some_iff.mp hv).1
      have e : ρ0[v] = .no := (List.getElem?_eq_some_iff.mp hv).2
      rw [← e, List.set_getElem_self]
    simp only [List.length_cons] at hl
    unfold lcL gN
    simp only
    rw [h1 d List.mem_cons_self]
    cases hp : p d with
    | false =>
      simp only
      rw [back, List.filter_cons_of_neg (by simp [hp])]
      exact lcL1 hv ds acc (by omega) (fun x hx => h1 x (List.mem_cons_of_mem _ hx)) (fun x hx => h2 x (List.mem_cons_of_mem _ hx))
    | true =>
      obtain ⟨o, e1, e2⟩ := h2 d List.mem_cons_self hp
      simp only
      rw [e1]
      simp only
      rw [e2]
      simp only
      rw [if_pos (show acc.length < 100000 by omega), back, List.filter_cons_of_pos (by simp [hp]), List.map_cons]
      have q := lcL1 hv ds (acc ++ [g d]) (by simp; omega) (fun x hx => h1 x (List.mem_cons_of_mem _ hx)) (fun x hx => h2 x (List.mem_cons_of_mem _ hx))
      rw [show lcL (fun d ρ => some (ρ.set v (.val d))) dt de [v] ds (acc ++ [g d]) ρ0 = lcL (gN v) dt de [v] ds (acc ++ [g d]) ρ0 from rfl, q, List.append_assoc]
      rfl
theorem dLc1 {di : DI} {v : Nat} {dt : DB} {de : DE} {ρ ρ1 : Sl} {x : D} {ds : List D} {p : D → Bool} {g : D → D} (hi : di ρ = .ok x ds ρ1) (hv : v < ρ1.length) (hl : ds.length ≤ 100000)
    (h1 : ∀ d ∈ ds, dt (ρ1.set v (.val d)) = .ok (p d) (ρ1.set v (.val d))) (h2 : ∀ d ∈ ds, p d = true → ∃ o, de (ρ1.set v (.val d)) = .ok o (ρ1.set v (.val d)) ∧ frz1 (ρ1.set v (.val d)) o = some (g d, ρ1.set v (.val d))) :
    dLc di [v] (gN v) dt de ρ = .ok (.t (.own (.list ((ds.filter p).map g)))) ρ1 := by
  unfold dLc
  rw [hi]
  simp only
  have hs : ∀ d, (ρ1.set v .no).set v (.val d) = ρ1.set v (.val d) := fun d => List.set_set ..
  rw [wipeR1, lcL1 (p := p) (g := g) (by simp [hv]) ds [] (by simpa using hl) (fun d hd => by rw [hs]; exact h1 d hd) (fun d hd hp => by rw [hs]; exact h2 d hd hp)]
  simp only [List.nil_append, restR, wipeR]
  rw [List.set_set]
  have e : ρ1.getD v .no = ρ1[v] := by simp [List.getD, hv]
  rw [e, List.set_getElem_self]
/-- no condition -/
theorem dLc1y {di : DI} {v : Nat} {de : DE} {ρ ρ1 : Sl} {x : D} {ds : List D} {g : D → D} (hi : di ρ = .ok x ds ρ1) (hv : v < ρ1.length) (hl : ds.length ≤ 100000)
    (h2 : ∀ d ∈ ds, ∃ o, de (ρ1.set v (.val d)) = .ok o (ρ1.set v (.val d)) ∧ frz1 (ρ1.set v (.val d)) o = some (g d, ρ1.set v (.val d))) :
    dLc di [v] (gN v) dYes de ρ = .ok (.t (.own (.list (ds.map g)))) ρ1 := by
  rw [dLc1 (dt := dYes) (p := fun _ => true) (g := g) hi hv hl (fun _ _ => rfl) (fun d hd _ => h2 d hd)]
  rw [List.filter_eq_self.mpr (fun _ _ => rfl)]
theorem blsOf_map' {α : Type} (l : List α) (f : α → Bool) : blsOf (l.map fun x => .bool (f x)) = some (l.map f) := by
  have := blsOf_map (l.map f)
  rwa [List.map_map] at this
theorem intsOf_map' {α : Type} (l : List α) (f : α → Int) : intsOf (l.map fun x => .int (f x)) = some (l.map f) := by
  have := intsOf_map (l.map f)
  rwa [List.map_map] at this
theorem strsOf_map' {α : Type} (l : List α) (f : α → Str) : strsOf (l.map fun x => .str (f x)) = some (l.map f) := by
  have := strsOf_map (l.map f)
  rwa [List.map_map] at this
/-! ### loops -/
theorem forL_nil (dg : DG) (b : DS) (ρ : Sl) : forL dg b [] ρ = .nx ρ := rfl
theorem forL_nx {dg : DG} {b : DS} {d : D} {ds : List D} {ρ ρ1 ρ2 : Sl} (h : dg d ρ = some ρ1) (hb : b ρ1 = .nx ρ2) : forL dg b (d :: ds) ρ = forL dg b ds ρ2 := by
  rw [forL, h]; simp only; rw [hb]
theorem forL_ct {dg : DG} {b : DS} {d : D} {ds : List D} {ρ ρ1 ρ2 : Sl} (h : dg d ρ = some ρ1) (hb : b ρ1 = .ct ρ2) : forL dg b (d :: ds) ρ = forL dg b ds ρ2 := by
  rw [forL, h]; simp only; rw [hb]
theorem forL_rt {dg : DG} {b : DS} {d x : D} {ds : List D} {ρ ρ1 ρ2 : Sl} (h : dg d ρ = some ρ1) (hb : b ρ1 = .rt x ρ2) : forL dg b (d :: ds) ρ = .rt x ρ2 := by
  rw [forL, h]; simp only; rw [hb]
theorem forL_ex {dg : DG} {b : DS} {d : D} {x : Exn} {ds : List D} {ρ ρ1 ρ2 : Sl} (h : dg d ρ = some ρ1) (hb : b ρ1 = .ex x ρ2) : forL dg b (d :: ds) ρ = .ex x ρ2 := by
  rw [forL, h]; simp only; rw [hb]
/-- a loop that never leaves: the state is told by i turns -/
theorem forL_inv {dg : DG} {b : DS} {β : Type} (I : β → Sl) (P : β → Prop) (step : β → D → β) : ∀ (ds : List D) (s : β), P s → (∀ s d, d ∈ ds → P s → ∃ ρ1, dg d (I s) = some ρ1 ∧ (b ρ1 = .nx (I (step s d)) ∨ b ρ1 = .ct (I (step s d))) ∧ P (step s d)) →
    forL dg b ds (I s) = .nx (I (ds.foldl step s)) ∧ P (ds.foldl step s)
  | [], s, hp, _ => ⟨rfl, hp⟩
  | d :: ds, s, hp, h => by
    obtain ⟨ρ1, e1, e2, e3⟩ := h s d List.mem_cons_self hp
    obtain ⟨q1, q2⟩ := forL_inv I P step ds (step s d) e3 (fun s d hd => h s d (List.mem_cons_of_mem _ hd))
    refine ⟨?_, q2⟩
    rcases e2 with e2 | e2
    · rw [forL_nx e1 e2]; exact q1
    · rw [forL_ct e1 e2]; exact q1
end PD
namespace PD
open PySem PySem.Spec PyProof.Rows L2
@[simp] theorem kit_NoneType_int : kitB "NoneType" "int" = some false := by decide +kernel
@[simp] theorem kit_NoneType_bool : kitB "NoneType" "bool" = some false := by decide +kernel
@[simp] theorem kit_NoneType_str : kitB "NoneType" "str" = some false := by decide +kernel
@[simp] theorem kit_NoneType_list : kitB "NoneType" "list" = some false := by decide +kernel
@[simp] theorem kit_NoneType_tuple : kitB "NoneType" "tuple" = some false := by decide +kernel
@[simp] theorem kit_bool_int : kitB "bool" "int" = some true := by decide +kernel
@[simp] theorem kit_bool_bool : kitB "bool" "bool" = some true := by decide +kernel
@[simp] theorem kit_bool_str : kitB "bool" "str" = some false := by decide +kernel
@[simp] theorem kit_bool_list : kitB "bool" "list" = some false := by decide +kernel
@[simp] theorem kit_bool_tuple : kitB "bool" "tuple" = some false := by decide +kernel
@[simp] theorem kit_int_int : kitB "int" "int" = some true := by decide +kernel
@[simp] theorem kit_int_bool : kitB "int" "bool" = some false := by decide +kernel
@[simp] theorem kit_int_str : kitB "int" "str" = some false := by decide +kernel
@[simp] theorem kit_int_list : kitB "int" "list" = some false := by decide +kernel
@[simp] theorem kit_int_tuple : kitB "int" "tuple" = some false := by decide +kernel
@[simp] theorem kit_str_int : kitB "str" "int" = some false := by decide +kernel
@[simp] theorem kit_str_bool : kitB "str" "bool" = some false := by decide +kernel
@[simp] theorem kit_str_str : kitB "str" "str" = some true := by decide +kernel
@[simp] theorem kit_str_list : kitB "str" "list" = some false := by decide +kernel
@[simp] theorem kit_str_tuple : kitB "str" "tuple" = some false := by decide +kernel
@[simp] theorem kit_list_int : kitB "list" "int" = some false := by decide +kernel
@[simp] theorem kit_list_bool : kitB "list" "bool" = some false := by decide +kernel
@[simp] theorem kit_list_str : kitB "list" "str" = some false := by decide +kernel
@[simp] theorem kit_list_list : kitB "list" "list" = some true := by decide +kernel
@[simp] theorem kit_list_tuple : kitB "list" "tuple" = some false := by decide +kernel
@[simp] theorem kit_tuple_int : kitB "tuple" "int" = some false := by decide +kernel
@[simp] theorem kit_tuple_bool : kitB "tuple" "bool" = some false := by decide +kernel
@[simp] theorem kit_tuple_str : kitB "tuple" "str" = some false := by decide +kernel
@[simp] theorem kit_tuple_list : kitB "tuple" "list" = some false := by decide +kernel
@[simp] theorem kit_tuple_tuple : kitB "tuple" "tuple" = some true := by decide +kernel
@[simp] theorem kit_dict_int : kitB "dict" "int" = some false := by decide +kernel
@[simp] theorem kit_dict_bool : kitB "dict" "bool" = some false := by decide +kernel
@[simp] theorem kit_dict_str : kitB "dict" "str" = some false := by decide +kernel
@[simp] theorem kit_dict_list : kitB "dict" "list" = some false := by decide +kernel
@[simp] theorem kit_dict_tuple : kitB "dict" "tuple" = some false := by decide +kernel
end PD
namespace PD
open PySem PySem.Spec PyProof.Rows L2
/-! ### operations on told data -/
@[simp] theorem oLt_i (a b : Int) : oLt [.int a, .int b] = .v (.bool (decide (a < b))) := rfl
@[simp] theorem oLe_i (a b : Int) : oLe [.int a, .int b] = .v (.bool (decide (a ≤ b))) := rfl
@[simp] theorem oGt_i (a b : Int) : oGt [.int a, .int b] = .v (.bool (decide (b < a))) := rfl
@[simp] theorem oGe_i (a b : Int) : oGe [.int a, .int b] = .v (.bool (decide (b ≤ a))) := rfl
@[simp] theorem oNeg_i (a : Int) : oNeg [.int a] = .v (.int (-a)) := rfl
@[simp] theorem oSub_i (a b : Int) : oSub [.int a, .int b] = .v (.int (a - b)) := rfl
@[simp] theorem oAdd_i (a b : Int) : oAdd [.int a, .int b] = .v (.int (a + b)) := rfl
@[simp] theorem oInt_i (a : Int) : oInt [.int a] = .v (.int a) := rfl
@[simp] theorem oMod_i (a b : Int) : oMod [.int a, .int b] = if b ≠ 0 then .v (.int (a.fmod b)) else .no := by
  by_cases h : b = 0 <;> simp [oMod, oI, h]
@[simp] theorem oAndB_i (a b : Int) : oAndB [.int a, .int b] = .v (.int (Builtin.bitAnd a b)) := rfl
theorem oMul_i {a b : Int} (h : bMul a b = true) : oMul [.int a, .int b] = .v (.int (a * b)) := by
  simp [oMul, vOr, oI, h]
theorem oMul_s {a b : Int} (h1 : -18446744073709551616 < a) (h2 : a < 18446744073709551616) : oMul [.int a, .int b] = .v (.int (a * b)) := oMul_i (by simp [bMul, h1, h2])
theorem oMul_r {a b : Int} (h1 : -18446744073709551616 < b) (h2 : b < 18446744073709551616) : oMul [.int a, .int b] = .v (.int (a * b)) := oMul_i (by simp [bMul, h1, h2])
theorem oDiv_i {a b : Int} (h1 : b ≠ 0) (h2 : b.natAbs < 1073741824) : oDiv [.int a, .int b] = .v (.int (a.fdiv b)) := by
  simp [oDiv, vOr, oI, bDiv, h1, h2]
theorem oPow_i {a b : Int} (h : bPow a b = true) : oPow [.int a, .int b] = .v (.int (a ^ b.toNat)) := by
  simp [oPow, oI, h]
theorem oIx_l {ds : List D} {i : Int} {d : D} (h : atI ds i = some d) : oIx [.list ds, .int i] = .v d := by
  simp [oIx, vOr, oIxL, h]
theorem oIx_t {ds : List D} {i : Int} {d : D} (h : atI ds i = some d) : oIx [.tuple ds, .int i] = .v d := by
  simp [oIx, vOr, oIxL, oIxT, h]
theorem atI_nat {α : Type} {xs : List α} {i : Nat} {x : α} (h : xs[i]? = some x) : atI xs (i : Int) = some x := by
  have hi : i < xs.length := (List.getElem?_eq_some_iff.mp h).1
  unfold atI L2.ixN
  simp only [Int.natCast_nonneg, if_true]
  rw [if_pos (by omega)]
  simpa using h
/-! ### equality -/
theorem shaped_int (a : Int) : SeqAt.shaped (.int a) = true := by simp [SeqAt.shaped, PyData.canLay0, PyData.depth]
theorem shaped_bool (a : Bool) : SeqAt.shaped (.bool a) = true := by simp [SeqAt.shaped, PyData.canLay0, PyData.depth]
theorem shaped_none : SeqAt.shaped .none = true := by simp [SeqAt.shaped, PyData.canLay0, PyData.depth]
@[simp] theorem oEq_i (a b : Int) : oEq [.int a, .int b] = .v (.bool (decide (a = b))) := by
  simp [oEq, vOr, oEqS, oEqD, shaped_int, PyData.eqv]; rfl
@[simp] theorem oNe_i (a b : Int) : oNe [.int a, .int b] = .v (.bool (!decide (a = b))) := by
  simp [oNe, vOr, oNeS, oNeD, shaped_int, PyData.eqv]; rfl
@[simp] theorem oEq_s (a b : Str) : oEq [.str a, .str b] = .v (.bool (decide (a = b))) := rfl
@[simp] theorem oNe_s (a b : Str) : oNe [.str a, .str b] = .v (.bool (!decide (a = b))) := rfl
@[simp] theorem oEq_b (a b : Bool) : oEq [.bool a, .bool b] = .v (.bool (a == b)) := by
  simp [oEq, vOr, oEqS, oEqD, shaped_bool, PyData.eqv]
end PD

set_option Elab.async false
set_option linter.all false
set_option maxRecDepth 100000
set_option maxHeartbeats 4000000
/-! G: the defs of the row (printed by gen.py). -/
namespace G
open PySem PySem.Spec PyProof.Rows L2 PD
def top (i : Nat) : Stmt := PySem.Challenge.pw_beamboards_k00_whole_boards_drawn_and_re.main.body.getD i (.Pass ⟨0, 0, 0, 0⟩)
def g_MOST_SIDE : D := (.int 8)
def g_MOST_PARTERS : D := (.int 8)
def g_EMPTY : D := (.int 0)
def g_END : D := (.int 3)
def g_PART_BACKSLASH : D := (.int 5)
def g_SIGNS : D := (.str "./\\#zs")
def g_MOST_TEXT : D := (.int 200)
/-! ### is_whole -/
def N_is_whole : List Str := ["value", "low", "high"]
def den_is_whole : DS :=
  (sRet (dAndV (dOp (oIsi "int") (daC (dV 0) daN)) (dAndV (dNotT (dOp (oIsi "bool") (daC (dV 0) daN))) (dChain oLe oLe (dV 1) (dV 0) (dV 2)))))
def f_is_whole : List D → FO := runD false 3 den_is_whole
theorem sc_is_whole : FnScope N_is_whole ["value", "low", "high"] (defScope (top 9)) := ⟨rfl, rfl, rfl, by decide +kernel, rfl, by decide +kernel, by decide +kernel⟩
theorem ok_is_whole {P : Program} {w : World} {K : PySem.W.Frag} {mg : Str → Option Value} {base : Heap} {f : Addr} {fd : FuncData} (Fu : Fun K "is_whole" "is_whole" (top 9) f fd)
    (m_isinstance : mg "isinstance" = none) (m_int : mg "int" = none) (m_bool : mg "bool" = none) :
    FnOk P w K mg base (L2.CX P w) 1 f fd ["value", "low", "high"] (spP K mg false 3 f_is_whole) := by
  refine fn_den2 (k := 0) (N := N_is_whole) false den_is_whole Fu sc_is_whole (by simp) fun cdv A outer s H E F0 H0 ia T pin hr hpn => ?_
  have hK : (Cfg.mk K mg F0 H0 ia T pin).K = K := rfl
  have hmg : (Cfg.mk K mg F0 H0 ia T pin).mg = mg := rfl
  have hpin := hpn rfl
  have tk := takes_of (X := cxOf (L2.CX P w) P w K mg base N_is_whole "is_whole" (defScope (top 9)) f cdv A outer s H E) rfl rfl rfl rfl
  have hx : Passes (L2.CX P w) (cxOf (L2.CX P w) P w K mg base N_is_whole "is_whole" (defScope (top 9)) f cdv A outer s H E) E := passes_call tk (fun _ _ _ _ h => h)
  have hp : PassesOwn (model P w) (cxOf (L2.CX P w) P w K mg base N_is_whole "is_whole" (defScope (top 9)) f cdv A outer s H E).A (cxOf (L2.CX P w) P w K mg base N_is_whole "is_whole" (defScope (top 9)) f cdv A outer s H E).env (cxOf (L2.CX P w) P w K mg base N_is_whole "is_whole" (defScope (top 9)) f cdv A outer s H E).xe := passes_of rfl
  have hu1 := hr.units
  have hu : (A.deeper (envOfC "is_whole" (defScope (top 9)) s.heap.objs.size f cdv)).units + 65 < cLine := by have := hr.un; omega
  exact (ds_one (ds_ret (dx_and (dx_isi (T := "int") hK m_isinstance m_int (dx_var 0)) (dx_and (dx_notT (dx_isi (T := "bool") hK m_isinstance m_bool (dx_var 0)) hK) (dx_one (dx_chain op_le vok_B0 op_le vok_B0 (dx_var 1) (dx_var 0) (dx_var 2)))))))
/-! ### parters -/
def N_parters : List Str := ["cells", "own"]
def ct_parters_1 : DB :=
  (dTst (dOp oGt (daC (dV 1) (daC (dC g_END) daN))))
def den_parters : DS :=
  (sRet (dOp oLen (daC (dLc (dIt (dV 0)) [1] (gN 1) ct_parters_1 (dV 1)) daN)))
def f_parters : List D → FO := runD false 2 den_parters
theorem sc_parters : FnScope N_parters ["cells"] (defScope (top 10)) := ⟨rfl, rfl, rfl, by decide +kernel, rfl, by decide +kernel, by decide +kernel⟩
theorem ok_parters {P : Program} {w : World} {K : PySem.W.Frag} {mg : Str → Option Value} {base : Heap} {f : Addr} {fd : FuncData} (Fu : Fun K "parters" "parters" (top 10) f fd)
    (gl_END : Glb K mg "END" g_END) (m_len : mg "len" = none) :
    FnOk P w K mg base (L2.CX P w) 1 f fd ["cells"] (spP K mg false 1 f_parters) := by
  refine fn_den2 (k := 0) (N := N_parters) false den_parters Fu sc_parters (by simp) fun cdv A outer s H E F0 H0 ia T pin hr hpn => ?_
  have hK : (Cfg.mk K mg F0 H0 ia T pin).K = K := rfl
  have hmg : (Cfg.mk K mg F0 H0 ia T pin).mg = mg := rfl
  have hpin := hpn rfl
  have tk := takes_of (X := cxOf (L2.CX P w) P w K mg base N_parters "parters" (defScope (top 10)) f cdv A outer s H E) rfl rfl rfl rfl
  have hx : Passes (L2.CX P w) (cxOf (L2.CX P w) P w K mg base N_parters "parters" (defScope (top 10)) f cdv A outer s H E) E := passes_call tk (fun _ _ _ _ h => h)
  have hp : PassesOwn (model P w) (cxOf (L2.CX P w) P w K mg base N_parters "parters" (defScope (top 10)) f cdv A outer s H E).A (cxOf (L2.CX P w) P w K mg base N_parters "parters" (defScope (top 10)) f cdv A outer s H E).env (cxOf (L2.CX P w) P w K mg base N_parters "parters" (defScope (top 10)) f cdv A outer s H E).xe := passes_of rfl
  have hu1 := hr.units
  have hu : (A.deeper (envOfC "parters" (defScope (top 10)) s.heap.objs.size f cdv)).units + 65 < cLine := by have := hr.un; omega
  exact (ds_one (ds_ret (dx_callB call_len vok_len m_len (da_cons (dx_lc (own := [("own", 1)]) rfl sc_parters.nd (di_any hK (dx_var 0)) (fun _ _ _ _ _ => (dg_name (i := 1) sc_parters.nd)) (bt_one fun _ _ _ _ _ => (dt_cmp op_gt vok_B0 (dx_var 1) (dx_glob gl_END hK))) (fun _ _ _ _ _ => (dx_var 1)) (blkOk_by (by kernel_rfl))) da_nil))))
/-! ### is_board -/
def N_is_board : List Str := ["value", "wide", "high", "cells", "own"]
def ce_is_board_1 : DE :=
  (dCall f_is_whole (daC (dV 4) (daC (dC g_EMPTY) (daC (dC g_PART_BACKSLASH) daN))))
def den_is_board : DS :=
  (sSeq (sIf (dOr (dNot (dTru (dOp (oIsi "tuple") (daC (dV 0) daN)))) (dTst (dOp oNe (daC (dOp oLen (daC (dV 0) daN)) (daC (dC (.int 3)) daN)))))
  (sRet (dC (.bool false)))
  sNil)
  (sSeq (sAsg (gT (gsC (gN 1) (gsC (gN 2) (gsC (gN 3) gsN))) 3) (dV 0))
  (sSeq (sIf (dOr (dNot (dTru (dCall f_is_whole (daC (dV 1) (daC (dC (.int 1)) (daC (dC g_MOST_SIDE) daN)))))) (dNot (dTru (dCall f_is_whole (daC (dV 2) (daC (dC (.int 1)) (daC (dC g_MOST_SIDE) daN)))))))
  (sRet (dC (.bool false)))
  sNil)
  (sSeq (sIf (dOr (dNot (dTru (dOp (oIsi "tuple") (daC (dV 3) daN)))) (dTst (dOp oNe (daC (dOp oLen (daC (dV 3) daN)) (daC (dOp oMul (daC (dV 1) (daC (dV 2) daN))) daN)))))
  (sRet (dC (.bool false)))
  sNil)
  (sRet (dAndV (dOp oAll (daC (dLc (dIt (dV 3)) [4] (gN 4) dYes ce_is_board_1) daN)) (dOp oLe (daC (dCall f_parters (daC (dV 3) daN)) (daC (dC g_MOST_PARTERS) daN)))))))))
def f_is_board : List D → FO := runD false 5 den_is_board
theorem sc_is_board : FnScope N_is_board ["value"] (defScope (top 11)) := ⟨rfl, rfl, rfl, by decide +kernel, rfl, by decide +kernel, by decide +kernel⟩
theorem ok_is_board {P : Program} {w : World} {K : PySem.W.Frag} {mg : Str → Option Value} {base : Heap} {f : Addr} {fd : FuncData} (Fu : Fun K "is_board" "is_board" (top 11) f fd)
    (c_is_whole : Cq P w K mg base "is_whole" 1 ["value", "low", "high"] (spP K mg false 3 f_is_whole)) (c_parters : Cq P w K mg base "parters" 1 ["cells"] (spP K mg false 1 f_parters)) (gl_MOST_SIDE : Glb K mg "MOST_SIDE" g_MOST_SIDE) (gl_EMPTY : Glb K mg "EMPTY" g_EMPTY) (gl_PART_BACKSLASH : Glb K mg "PART_BACKSLASH" g_PART_BACKSLASH) (gl_MOST_PARTERS : Glb K mg "MOST_PARTERS" g_MOST_PARTERS) (m_isinstance : mg "isinstance" = none) (m_tuple : mg "tuple" = none) (m_len : mg "len" = none) (m_all : mg "all" = none) :
    FnOk P w K mg base (L2.CX P w) 2 f fd ["value"] (spP K mg false 1 f_is_board) := by
  refine fn_den2 (k := 1) (N := N_is_board) false den_is_board Fu sc_is_board (by simp) fun cdv A outer s H E F0 H0 ia T pin hr hpn => ?_
  have hK : (Cfg.mk K mg F0 H0 ia T pin).K = K := rfl
  have hmg : (Cfg.mk K mg F0 H0 ia T pin).mg = mg := rfl
  have hpin := hpn rfl
  have tk := takes_of (X := cxOf (L2.CX P w) P w K mg base N_is_board "is_board" (defScope (top 11)) f cdv A outer s H E) rfl rfl rfl rfl
  have hx : Passes (L2.CX P w) (cxOf (L2.CX P w) P w K mg base N_is_board "is_board" (defScope (top 11)) f cdv A outer s H E) E := passes_call tk (fun _ _ _ _ h => h)
  have hp : PassesOwn (model P w) (cxOf (L2.CX P w) P w K mg base N_is_board "is_board" (defScope (top 11)) f cdv A outer s H E).A (cxOf (L2.CX P w) P w K mg base N_is_board "is_board" (defScope (top 11)) f cdv A outer s H E).env (cxOf (L2.CX P w) P w K mg base N_is_board "is_board" (defScope (top 11)) f cdv A outer s H E).xe := passes_of rfl
  have hu1 := hr.units
  have hu : (A.deeper (envOfC "is_board" (defScope (top 11)) s.heap.objs.size f cdv)).units + 65 < cLine := by have := hr.un; omega
  exact (ds_cons (ds_if (DTW.t (dw_or (dt_not (dt_tru (dx_isi (T := "tuple") hK m_isinstance m_tuple (dx_var 0)) hK)) (dw_or1 (dt_cmp (op_neA hu1) vok_ne (dx_callB call_len vok_len m_len (da_cons (dx_var 0) da_nil)) dx_int))))
  (ds_one (ds_ret dx_bl))
  ds_nil)
  (ds_cons (ds_asg (.inr hpin) (dx_var 0) (dg_tup hK rfl (dgs_cons (dg_name (i := 1) sc_is_board.nd) (dgs_cons (dg_name (i := 2) sc_is_board.nd) (dgs_cons (dg_name (i := 3) sc_is_board.nd) dgs_nil)))))
  (ds_cons (ds_if (DTW.t (dw_or (dt_not (dt_tru (dx_call ⟨c_is_whole⟩ hK hmg (hr.mono (by decide)) hx (da_cons (dx_var 1) (da_cons dx_int (da_cons (dx_glob gl_MOST_SIDE hK) da_nil))) (daLen_cons (daLen_cons (daLen_cons daLen_nil)))) hK)) (dw_or1 (dt_not (dt_tru (dx_call ⟨c_is_whole⟩ hK hmg (hr.mono (by decide)) hx (da_cons (dx_var 2) (da_cons dx_int (da_cons (dx_glob gl_MOST_SIDE hK) da_nil))) (daLen_cons (daLen_cons (daLen_cons daLen_nil)))) hK)))))
  (ds_one (ds_ret dx_bl))
  ds_nil)
  (ds_cons (ds_if (DTW.t (dw_or (dt_not (dt_tru (dx_isi (T := "tuple") hK m_isinstance m_tuple (dx_var 3)) hK)) (dw_or1 (dt_cmp (op_neA hu1) vok_ne (dx_callB call_len vok_len m_len (da_cons (dx_var 3) da_nil)) (dx_bin op_mulA vok_mul (dx_var 1) (dx_var 2))))))
  (ds_one (ds_ret dx_bl))
  ds_nil)
  (ds_one (ds_ret (dx_and (dx_callB (cr_all rfl) vok_all m_all (da_cons (dx_lc (own := [("own", 4)]) rfl sc_is_board.nd (di_any hK (dx_var 3)) (fun _ _ _ _ _ => (dg_name (i := 4) sc_is_board.nd)) bt_nil (fun _ _ _ _ _ => (dx_call ⟨c_is_whole⟩ hK hmg (hr.mono (by decide)) passL (da_cons (dx_var 4) (da_cons (dx_glob gl_EMPTY hK) (da_cons (dx_glob gl_PART_BACKSLASH hK) da_nil))) (daLen_cons (daLen_cons (daLen_cons daLen_nil))))) (blkOk_by (by kernel_rfl))) da_nil)) (dx_one (dx_cmp op_le vok_B0 (dx_call ⟨c_parters⟩ hK hmg (hr.mono (by decide)) hx (da_cons (dx_var 3) da_nil) (daLen_cons daLen_nil)) (dx_glob gl_MOST_PARTERS hK))))))))))
/-! ### need -/
def N_need : List Str := ["is_right", "name"]
def den_need : DS :=
  (sIf (dNot (dTru (dV 0)))
  (sRaise "BadArgument" ["name"] (daC (dV 1) daN))
  sNil)
def f_need : List D → FO := runD false 2 den_need
theorem sc_need : FnScope N_need ["is_right", "name"] (defScope (top 12)) := ⟨rfl, rfl, rfl, by decide +kernel, rfl, by decide +kernel, by decide +kernel⟩
theorem ok_need {P : Program} {w : World} {K : PySem.W.Frag} {mg : Str → Option Value} {base : Heap} {f : Addr} {fd : FuncData} (Fu : Fun K "need" "need" (top 12) f fd)
    {D_BadArgument : Addr} (x_BadArgument : Xq P w K mg base "BadArgument" D_BadArgument 1 ["name"]) :
    FnOk P w K mg base (L2.CX P w) 3 f fd ["is_right", "name"] (spP K mg false 2 f_need) := by
  refine fn_den2 (k := 2) (N := N_need) false den_need Fu sc_need (by simp) fun cdv A outer s H E F0 H0 ia T pin hr hpn => ?_
  have hK : (Cfg.mk K mg F0 H0 ia T pin).K = K := rfl
  have hmg : (Cfg.mk K mg F0 H0 ia T pin).mg = mg := rfl
  have hpin := hpn rfl
  have tk := takes_of (X := cxOf (L2.CX P w) P w K mg base N_need "need" (defScope (top 12)) f cdv A outer s H E) rfl rfl rfl rfl
  have hx : Passes (L2.CX P w) (cxOf (L2.CX P w) P w K mg base N_need "need" (defScope (top 12)) f cdv A outer s H E) E := passes_call tk (fun _ _ _ _ h => h)
  have hp : PassesOwn (model P w) (cxOf (L2.CX P w) P w K mg base N_need "need" (defScope (top 12)) f cdv A outer s H E).A (cxOf (L2.CX P w) P w K mg base N_need "need" (defScope (top 12)) f cdv A outer s H E).env (cxOf (L2.CX P w) P w K mg base N_need "need" (defScope (top 12)) f cdv A outer s H E).xe := passes_of rfl
  have hu1 := hr.units
  have hu : (A.deeper (envOfC "need" (defScope (top 12)) s.heap.objs.size f cdv)).units + 65 < cLine := by have := hr.un; omega
  exact (ds_one (ds_if (dt_not (dt_tru (dx_var 0) hK))
  (ds_one (ds_raise ⟨x_BadArgument⟩ hK hmg (hr.mono (by decide)) passL tk rfl (da_cons (dx_var 1) da_nil) (daLen_cons daLen_nil)))
  ds_nil))
/-! ### need_board -/
def N_need_board : List Str := ["value", "name"]
def den_need_board : DS :=
  (sDrop (dCall f_need (daC (dCall f_is_board (daC (dV 0) daN)) (daC (dV 1) daN))))
def f_need_board : List D → FO := runD false 2 den_need_board
theorem sc_need_board : FnScope N_need_board ["value", "name"] (defScope (top 13)) := ⟨rfl, rfl, rfl, by decide +kernel, rfl, by decide +kernel, by decide +kernel⟩
theorem ok_need_board {P : Program} {w : World} {K : PySem.W.Frag} {mg : Str → Option Value} {base : Heap} {f : Addr} {fd : FuncData} (Fu : Fun K "need_board" "need_board" (top 13) f fd)
    (c_need : Cq P w K mg base "need" 3 ["is_right", "name"] (spP K mg false 2 f_need)) (c_is_board : Cq P w K mg base "is_board" 2 ["value"] (spP K mg false 1 f_is_board)) :
    FnOk P w K mg base (L2.CX P w) 4 f fd ["value", "name"] (spP K mg false 2 f_need_board) := by
  refine fn_den2 (k := 3) (N := N_need_board) false den_need_board Fu sc_need_board (by simp) fun cdv A outer s H E F0 H0 ia T pin hr hpn => ?_
  have hK : (Cfg.mk K mg F0 H0 ia T pin).K = K := rfl
  have hmg : (Cfg.mk K mg F0 H0 ia T pin).mg = mg := rfl
  have hpin := hpn rfl
  have tk := takes_of (X := cxOf (L2.CX P w) P w K mg base N_need_board "need_board" (defScope (top 13)) f cdv A outer s H E) rfl rfl rfl rfl
  have hx : Passes (L2.CX P w) (cxOf (L2.CX P w) P w K mg base N_need_board "need_board" (defScope (top 13)) f cdv A outer s H E) E := passes_call tk (fun _ _ _ _ h => h)
  have hp : PassesOwn (model P w) (cxOf (L2.CX P w) P w K mg base N_need_board "need_board" (defScope (top 13)) f cdv A outer s H E).A (cxOf (L2.CX P w) P w K mg base N_need_board "need_board" (defScope (top 13)) f cdv A outer s H E).env (cxOf (L2.CX P w) P w K mg base N_need_board "need_board" (defScope (top 13)) f cdv A outer s H E).xe := passes_of rfl
  have hu1 := hr.units
  have hu : (A.deeper (envOfC "need_board" (defScope (top 13)) s.heap.objs.size f cdv)).units + 65 < cLine := by have := hr.un; omega
  exact (ds_one (ds_expr (dx_call ⟨c_need⟩ hK hmg (hr.mono (by decide)) hx (da_cons (dx_call ⟨c_is_board⟩ hK hmg (hr.mono (by decide)) hx (da_cons (dx_var 0) da_nil) (daLen_cons daLen_nil)) (da_cons (dx_var 1) da_nil)) (daLen_cons (daLen_cons daLen_nil)))))
/-! ### drawn -/
def N_drawn : List Str := ["board", "wide", "high", "cells", "at", "own"]
def ce_drawn_1 : DE :=
  (dOp oIx (daC (dC g_SIGNS) (daC (dV 5) daN)))
def ce_drawn_2 : DE :=
  (dOp oJoin (daC (dStr (dC (.str ""))) (daC (dLc (dIt (dOp oSl11 (daC (dV 3) (daC (dInt (dOp oMul (daC (dV 4) (daC (dV 1) daN)))) (daC (dInt (dOp oAdd (daC (dOp oMul (daC (dV 4) (daC (dV 1) daN))) (daC (dV 1) daN)))) daN))))) [5] (gN 5) dYes ce_drawn_1) daN)))
def den_drawn : DS :=
  (sSeq (sDrop (dCall f_need_board (daC (dV 0) (daC (dC (.str "board")) daN))))
  (sSeq (sAsg (gT (gsC (gN 1) (gsC (gN 2) (gsC (gN 3) gsN))) 3) (dV 0))
  (sRet (dOp oJoin (daC (dStr (dC (.str "\n"))) (daC (dLc (dRg1 (daC (dV 2) daN)) [4] (gN 4) dYes ce_drawn_2) daN))))))
def f_drawn : List D → FO := runD false 6 den_drawn
theorem sc_drawn : FnScope N_drawn ["board"] (defScope (top 17)) := ⟨rfl, rfl, rfl, by decide +kernel, rfl, by decide +kernel, by decide +kernel⟩
theorem ok_drawn {P : Program} {w : World} {K : PySem.W.Frag} {mg : Str → Option Value} {base : Heap} {f : Addr} {fd : FuncData} (Fu : Fun K "drawn" "drawn" (top 17) f fd)
    (c_need_board : Cq P w K mg base "need_board" 4 ["value", "name"] (spP K mg false 2 f_need_board)) (gl_SIGNS : Glb K mg "SIGNS" g_SIGNS) (m_range : mg "range" = none) :
    FnOk P w K mg base (L2.CX P w) 5 f fd ["board"] (spP K mg false 1 f_drawn) := by
  refine fn_den2 (k := 4) (N := N_drawn) false den_drawn Fu sc_drawn (by simp) fun cdv A outer s H E F0 H0 ia T pin hr hpn => ?_
  have hK : (Cfg.mk K mg F0 H0 ia T pin).K = K := rfl
  have hmg : (Cfg.mk K mg F0 H0 ia T pin).mg = mg := rfl
  have hpin := hpn rfl
  have tk := takes_of (X := cxOf (L2.CX P w) P w K mg base N_drawn "drawn" (defScope (top 17)) f cdv A outer s H E) rfl rfl rfl rfl
  have hx : Passes (L2.CX P w) (cxOf (L2.CX P w) P w K mg base N_drawn "drawn" (defScope (top 17)) f cdv A outer s H E) E := passes_call tk (fun _ _ _ _ h => h)
  have hp : PassesOwn (model P w) (cxOf (L2.CX P w) P w K mg base N_drawn "drawn" (defScope (top 17)) f cdv A outer s H E).A (cxOf (L2.CX P w) P w K mg base N_drawn "drawn" (defScope (top 17)) f cdv A outer s H E).env (cxOf (L2.CX P w) P w K mg base N_drawn "drawn" (defScope (top 17)) f cdv A outer s H E).xe := passes_of rfl
  have hu1 := hr.units
  have hu : (A.deeper (envOfC "drawn" (defScope (top 17)) s.heap.objs.size f cdv)).units + 65 < cLine := by have := hr.un; omega
  exact (ds_cons (ds_expr (dx_call ⟨c_need_board⟩ hK hmg (hr.mono (by decide)) hx (da_cons (dx_var 0) (da_cons dx_str da_nil)) (daLen_cons (daLen_cons daLen_nil))))
  (ds_cons (ds_asg (.inr hpin) (dx_var 0) (dg_tup hK rfl (dgs_cons (dg_name (i := 1) sc_drawn.nd) (dgs_cons (dg_name (i := 2) sc_drawn.nd) (dgs_cons (dg_name (i := 3) sc_drawn.nd) dgs_nil)))))
  (ds_one (ds_ret (dx_m1 PySem.F.slot_str_join PySem.F.type_str_join mt_join vok_join dx_str (dx_lc (own := [("at", 4)]) rfl sc_drawn.nd (di_rg1 m_range (da_cons (dx_var 2) da_nil)) (fun _ _ _ _ _ => (dg_name (i := 4) sc_drawn.nd)) bt_nil (fun _ _ _ _ _ => (dx_m1 PySem.F.slot_str_join PySem.F.type_str_join mt_join vok_join dx_str (dx_lc (own := [("own", 5)]) rfl sc_drawn.nd (di_any hK (dx_sl11 hK (dx_var 3) (dx_bin op_mulA vok_mul (dx_var 4) (dx_var 1)) (dx_bin op_addA vok_add (dx_bin op_mulA vok_mul (dx_var 4) (dx_var 1)) (dx_var 1)))) (fun _ _ _ _ _ => (dg_name (i := 5) sc_drawn.nd)) bt_nil (fun _ _ _ _ _ => (dx_ix ix_seq vok_ix (dx_glob gl_SIGNS hK) (dx_var 5))) (blkOk_by (by kernel_rfl))))) (blkOk_by (by kernel_rfl))))))))
/-! ### is_text -/
def N_is_text : List Str := ["value"]
def den_is_text : DS :=
  (sRet (dAndV (dOp (oIsi "str") (daC (dV 0) daN)) (dOp oLe (daC (dOp oLen (daC (dV 0) daN)) (daC (dC g_MOST_TEXT) daN)))))
def f_is_text : List D → FO := runD false 1 den_is_text
theorem sc_is_text : FnScope N_is_text ["value"] (defScope (top 18)) := ⟨rfl, rfl, rfl, by decide +kernel, rfl, by decide +kernel, by decide +kernel⟩
theorem ok_is_text {P : Program} {w : World} {K : PySem.W.Frag} {mg : Str → Option Value} {base : Heap} {f : Addr} {fd : FuncData} (Fu : Fun K "is_text" "is_text" (top 18) f fd)
    (gl_MOST_TEXT : Glb K mg "MOST_TEXT" g_MOST_TEXT) (m_isinstance : mg "isinstance" = none) (m_str : mg "str" = none) (m_len : mg "len" = none) :
    FnOk P w K mg base (L2.CX P w) 1 f fd ["value"] (spP K mg false 1 f_is_text) := by
  refine fn_den2 (k := 0) (N := N_is_text) false den_is_text Fu sc_is_text (by simp) fun cdv A outer s H E F0 H0 ia T pin hr hpn => ?_
  have hK : (Cfg.mk K mg F0 H0 ia T pin).K = K := rfl
  have hmg : (Cfg.mk K mg F0 H0 ia T pin).mg = mg := rfl
  have hpin := hpn rfl
  have tk := takes_of (X := cxOf (L2.CX P w) P w K mg base N_is_text "is_text" (defScope (top 18)) f cdv A outer s H E) rfl rfl rfl rfl
  have hx : Passes (L2.CX P w) (cxOf (L2.CX P w) P w K mg base N_is_text "is_text" (defScope (top 18)) f cdv A outer s H E) E := passes_call tk (fun _ _ _ _ h => h)
  have hp : PassesOwn (model P w) (cxOf (L2.CX P w) P w K mg base N_is_text "is_text" (defScope (top 18)) f cdv A outer s H E).A (cxOf (L2.CX P w) P w K mg base N_is_text "is_text" (defScope (top 18)) f cdv A outer s H E).env (cxOf (L2.CX P w) P w K mg base N_is_text "is_text" (defScope (top 18)) f cdv A outer s H E).xe := passes_of rfl
  have hu1 := hr.units
  have hu : (A.deeper (envOfC "is_text" (defScope (top 18)) s.heap.objs.size f cdv)).units + 65 < cLine := by have := hr.un; omega
  exact (ds_one (ds_ret (dx_and (dx_isi (T := "str") hK m_isinstance m_str (dx_var 0)) (dx_one (dx_cmp op_le vok_B0 (dx_callB call_len vok_len m_len (da_cons (dx_var 0) da_nil)) (dx_glob gl_MOST_TEXT hK))))))
/-! ### board_in -/
def N_board_in : List Str := ["text", "cells", "many", "row", "column", "wide", "at", "sign"]
def lb_board_in_1 : DS :=
  (sIf (dTst (dOp oEq (daC (dV 7) (daC (dC (.str "\n")) daN))))
  (sSeq (sIf (dOr (dTst (dOp oEq (daC (dV 4) (daC (dC (.int 0)) daN)))) (dAnd (dTst (dOp oNotN (daC (dV 5) (daC (dC .none) daN)))) (dTst (dOp oLt (daC (dV 4) (daC (dV 5) daN))))))
  (sRaise "Flaw" ["place", "message"] (daC (dV 6) (daC (dC (.str "the row is too short")) daN)))
  sNil)
  (sSeq (sPar [5, 3, 4] (daC (dV 4) (daC (dOp oAdd (daC (dV 3) (daC (dC (.int 1)) daN))) (daC (dC (.int 0)) daN))))
  (sIf (dAnd (dTst (dOp oEq (daC (dV 3) (daC (dC g_MOST_SIDE) daN)))) (dTst (dOp oLt (daC (dV 6) (daC (dOp oLen (daC (dV 0) daN)) daN)))))
  (sRaise "Flaw" ["place", "message"] (daC (dOp oAdd (daC (dV 6) (daC (dC (.int 1)) daN))) (daC (dC (.str "there are too many rows")) daN)))
  sNil)))
  (sSeq (sIf (dTst (dOp oNotIn (daC (dV 7) (daC (dC g_SIGNS) daN))))
  (sRaise "Flaw" ["place", "message"] (daC (dV 6) (daC (dC (.str "this sign cannot stand here")) daN)))
  sNil)
  (sSeq (sIf (dTst (dOp oEq (daC (dV 4) (daC (dIf (dTst (dOp oIsN (daC (dV 5) (daC (dC .none) daN)))) (dC g_MOST_SIDE) (dV 5)) daN))))
  (sRaise "Flaw" ["place", "message"] (daC (dV 6) (daC (dC (.str "the row is too long")) daN)))
  sNil)
  (sSeq (sAug 2 (oI0 fun i j => i + j) (dIf (dTst (dOp oGt (daC (dOp oSIndex (daC (dStr (dC g_SIGNS)) (daC (dV 7) daN))) (daC (dC g_END) daN)))) (dC (.int 1)) (dC (.int 0))))
  (sSeq (sIf (dTst (dOp oGt (daC (dV 2) (daC (dC g_MOST_PARTERS) daN))))
  (sRaise "Flaw" ["place", "message"] (daC (dV 6) (daC (dC (.str "there are too many parters")) daN)))
  sNil)
  (sSeq (sDrop (dMut "list" 1 mAppend (daC (dOp oSIndex (daC (dStr (dC g_SIGNS)) (daC (dV 7) daN))) daN)))
  (sAug 4 (oI0 fun i j => i + j) (dC (.int 1)))))))))
def den_board_in : DS :=
  (sSeq (sPar [1, 2, 3, 4, 5] (daC (dLst daN) (daC (dC (.int 0)) (daC (dC (.int 0)) (daC (dC (.int 0)) (daC (dC .none) daN))))))
  (sSeq (sFor (dEn (daC (dOp oAdd (daC (dV 0) (daC (dC (.str "\n")) daN))) daN)) (gT (gsC (gN 6) (gsC (gN 7) gsN)) 2) lb_board_in_1)
  (sRet (dTup (daC (dV 5) (daC (dV 3) (daC (dOp oTuple (daC (dV 1) daN)) daN)))))))
def f_board_in : List D → FO := runD false 8 den_board_in
theorem sc_board_in : FnScope N_board_in ["text"] (defScope (top 19)) := ⟨rfl, rfl, rfl, by decide +kernel, rfl, by decide +kernel, by decide +kernel⟩
theorem ok_board_in {P : Program} {w : World} {K : PySem.W.Frag} {mg : Str → Option Value} {base : Heap} {f : Addr} {fd : FuncData} (Fu : Fun K "board_in" "board_in" (top 19) f fd)
    (gl_MOST_SIDE : Glb K mg "MOST_SIDE" g_MOST_SIDE) (gl_SIGNS : Glb K mg "SIGNS" g_SIGNS) (gl_END : Glb K mg "END" g_END) (gl_MOST_PARTERS : Glb K mg "MOST_PARTERS" g_MOST_PARTERS) (m_enumerate : mg "enumerate" = none) (m_len : mg "len" = none) (m_tuple : mg "tuple" = none) {D_Flaw : Addr} (x_Flaw : Xq P w K mg base "Flaw" D_Flaw 1 ["place", "message"]) :
    FnOk P w K mg base (L2.CX P w) 3 f fd ["text"] (spP K mg false 1 f_board_in) := by
  refine fn_den2 (k := 2) (N := N_board_in) false den_board_in Fu sc_board_in (by simp) fun cdv A outer s H E F0 H0 ia T pin hr hpn => ?_
  have hK : (Cfg.mk K mg F0 H0 ia T pin).K = K := rfl
  have hmg : (Cfg.mk K mg F0 H0 ia T pin).mg = mg := rfl
  have hpin := hpn rfl
  have tk := takes_of (X := cxOf (L2.CX P w) P w K mg base N_board_in "board_in" (defScope (top 19)) f cdv A outer s H E) rfl rfl rfl rfl
  have hx : Passes (L2.CX P w) (cxOf (L2.CX P w) P w K mg base N_board_in "board_in" (defScope (top 19)) f cdv A outer s H E) E := passes_call tk (fun _ _ _ _ h => h)
  have hp : PassesOwn (model P w) (cxOf (L2.CX P w) P w K mg base N_board_in "board_in" (defScope (top 19)) f cdv A outer s H E).A (cxOf (L2.CX P w) P w K mg base N_board_in "board_in" (defScope (top 19)) f cdv A outer s H E).env (cxOf (L2.CX P w) P w K mg base N_board_in "board_in" (defScope (top 19)) f cdv A outer s H E).xe := passes_of rfl
  have hu1 := hr.units
  have hu : (A.deeper (envOfC "board_in" (defScope (top 19)) s.heap.objs.size f cdv)).units + 65 < cLine := by have := hr.un; omega
  exact (ds_cons (ds_parT (.inr hpin) hK rfl (pga_cons (i := 1) sc_board_in.nd (pga_cons (i := 2) sc_board_in.nd (pga_cons (i := 3) sc_board_in.nd (pga_cons (i := 4) sc_board_in.nd (pga_cons (i := 5) sc_board_in.nd pga_nil))))) (da_cons (dx_lst da_nil) (da_cons dx_int (da_cons dx_int (da_cons dx_int (da_cons dx_non da_nil))))) (daLen_cons (daLen_cons (daLen_cons (daLen_cons (daLen_cons daLen_nil))))))
  (ds_cons (ds_for (.inr hpin) hp rfl (di_enum hK m_enumerate (da_cons (dx_bin op_addA vok_add (dx_var 0) dx_str) da_nil)) (dg_tup hK rfl (dgs_cons (dg_name (i := 6) sc_board_in.nd) (dgs_cons (dg_name (i := 7) sc_board_in.nd) dgs_nil)))
  (ds_one (ds_if (dt_cmp (op_eqA hu1) vok_eq (dx_var 7) dx_str)
  (ds_cons (ds_if (DTW.t (dw_or (dt_cmp (op_eqA hu1) vok_eq (dx_var 4) dx_int) (dw_or1 (DTW.t (dw_and (dt_cmp op_notN vok_notN (dx_var 5) dx_non) (dw_and1 (dt_cmp op_lt vok_B0 (dx_var 4) (dx_var 5))))))))
  (ds_one (ds_raise ⟨x_Flaw⟩ hK hmg (hr.mono (by decide)) passL tk rfl (da_cons (dx_var 6) (da_cons dx_str da_nil)) (daLen_cons (daLen_cons daLen_nil))))
  ds_nil)
  (ds_cons (ds_par3 (.inr hpin) rfl sc_board_in.nd (da_cons (dx_var 4) (da_cons (dx_bin op_addA vok_add (dx_var 3) dx_int) (da_cons dx_int da_nil))) (daLen_cons (daLen_cons (daLen_cons daLen_nil))))
  (ds_one (ds_if (DTW.t (dw_and (dt_cmp (op_eqA hu1) vok_eq (dx_var 3) (dx_glob gl_MOST_SIDE hK)) (dw_and1 (dt_cmp op_lt vok_B0 (dx_var 6) (dx_callB call_len vok_len m_len (da_cons (dx_var 0) da_nil))))))
  (ds_one (ds_raise ⟨x_Flaw⟩ hK hmg (hr.mono (by decide)) passL tk rfl (da_cons (dx_bin op_addA vok_add (dx_var 6) dx_int) (da_cons dx_str da_nil)) (daLen_cons (daLen_cons daLen_nil))))
  ds_nil))))
  (ds_cons (ds_if (dt_cmp (op_notInA hu) vok_notIn (dx_var 7) (dx_glob gl_SIGNS hK))
  (ds_one (ds_raise ⟨x_Flaw⟩ hK hmg (hr.mono (by decide)) passL tk rfl (da_cons (dx_var 6) (da_cons dx_str da_nil)) (daLen_cons (daLen_cons daLen_nil))))
  ds_nil)
  (ds_cons (ds_if (dt_cmp (op_eqA hu1) vok_eq (dx_var 4) (dx_if (dt_cmp op_isN vok_isN (dx_var 5) dx_non) (dx_glob gl_MOST_SIDE hK) (dx_var 5)))
  (ds_one (ds_raise ⟨x_Flaw⟩ hK hmg (hr.mono (by decide)) passL tk rfl (da_cons (dx_var 6) (da_cons dx_str da_nil)) (daLen_cons (daLen_cons daLen_nil))))
  ds_nil)
  (ds_cons (ds_aug (i := 2) (.inr hpin) sc_board_in.nd iop_add vok_I0 (dx_if (dt_cmp op_gt vok_B0 (dx_m1 PySem.F.slot_str_index PySem.F.type_str_index mt_sindex vok_sindex (dx_glob gl_SIGNS hK) (dx_var 7)) (dx_glob gl_END hK)) dx_int dx_int))
  (ds_cons (ds_if (dt_cmp op_gt vok_B0 (dx_var 2) (dx_glob gl_MOST_PARTERS hK))
  (ds_one (ds_raise ⟨x_Flaw⟩ hK hmg (hr.mono (by decide)) passL tk rfl (da_cons (dx_var 6) (da_cons dx_str da_nil)) (daLen_cons (daLen_cons daLen_nil))))
  ds_nil)
  (ds_cons (ds_expr (dx_mut (k := 1) mok_append hK mt_append PySem.F.plainAttrs_list PySem.F.slot_list_append PySem.F.type_list_append (da_cons (dx_m1 PySem.F.slot_str_index PySem.F.type_str_index mt_sindex vok_sindex (dx_glob gl_SIGNS hK) (dx_var 7)) da_nil)))
  (ds_one (ds_aug (i := 4) (.inr hpin) sc_board_in.nd iop_add vok_I0 dx_int))))))))))
  (ds_one (ds_ret (dx_tup (da_cons (dx_var 5) (da_cons (dx_var 3) (da_cons (dx_callTy call_tuple_of vok_tuple m_tuple (da_cons (dx_var 1) da_nil)) da_nil))))))))
/-! ### flaw -/
def N_flaw : List Str := ["text", "e"]
def den_flaw : DS :=
  (sSeq (sDrop (dCall f_need (daC (dCall f_is_text (daC (dV 0) daN)) (daC (dC (.str "text")) daN))))
  (sSeq (dTry "Flaw" (hx2 "place" "message") 1 (dCall f_board_in (daC (dV 0) daN)))
  (sRet (dC .none))))
def f_flaw : List D → FO := runD false 2 den_flaw
theorem sc_flaw : FnScope N_flaw ["text"] (defScope (top 20)) := ⟨rfl, rfl, rfl, by decide +kernel, rfl, by decide +kernel, by decide +kernel⟩
theorem ok_flaw {P : Program} {w : World} {K : PySem.W.Frag} {mg : Str → Option Value} {base : Heap} {f : Addr} {fd : FuncData} (Fu : Fun K "flaw" "flaw" (top 20) f fd)
    (c_need : Cq P w K mg base "need" 3 ["is_right", "name"] (spP K mg false 2 f_need)) (c_is_text : Cq P w K mg base "is_text" 1 ["value"] (spP K mg false 1 f_is_text)) (c_board_in : Cq P w K mg base "board_in" 3 ["text"] (spP K mg false 1 f_board_in)) {C_Flaw : Addr} (e_Flaw : ExcF K mg "Flaw" C_Flaw ["place", "message"]) :
    FnOk P w K mg base (L2.CX P w) 4 f fd ["text"] (spP K mg false 1 f_flaw) := by
  refine fn_den2 (k := 3) (N := N_flaw) false den_flaw Fu sc_flaw (by simp) fun cdv A outer s H E F0 H0 ia T pin hr hpn => ?_
  have hK : (Cfg.mk K mg F0 H0 ia T pin).K = K := rfl
  have hmg : (Cfg.mk K mg F0 H0 ia T pin).mg = mg := rfl
  have hpin := hpn rfl
  have tk := takes_of (X := cxOf (L2.CX P w) P w K mg base N_flaw "flaw" (defScope (top 20)) f cdv A outer s H E) rfl rfl rfl rfl
  have hx : Passes (L2.CX P w) (cxOf (L2.CX P w) P w K mg base N_flaw "flaw" (defScope (top 20)) f cdv A outer s H E) E := passes_call tk (fun _ _ _ _ h => h)
  have hp : PassesOwn (model P w) (cxOf (L2.CX P w) P w K mg base N_flaw "flaw" (defScope (top 20)) f cdv A outer s H E).A (cxOf (L2.CX P w) P w K mg base N_flaw "flaw" (defScope (top 20)) f cdv A outer s H E).env (cxOf (L2.CX P w) P w K mg base N_flaw "flaw" (defScope (top 20)) f cdv A outer s H E).xe := passes_of rfl
  have hu1 := hr.units
  have hu : (A.deeper (envOfC "flaw" (defScope (top 20)) s.heap.objs.size f cdv)).units + 65 < cLine := by have := hr.un; omega
  exact (ds_cons (ds_expr (dx_call ⟨c_need⟩ hK hmg (hr.mono (by decide)) hx (da_cons (dx_call ⟨c_is_text⟩ hK hmg (hr.mono (by decide)) hx (da_cons (dx_var 0) da_nil) (daLen_cons daLen_nil)) (da_cons dx_str da_nil)) (daLen_cons (daLen_cons daLen_nil))))
  (ds_cons (ds_try2 (i := 1) e_Flaw ⟨c_board_in⟩ hK hmg (hr.mono (by decide)) (.inr hpin) sc_flaw.nd rfl rfl (fun _ _ _ => (da_cons (dx_var 0) da_nil)) (daLen_cons daLen_nil))
  (ds_one (ds_ret dx_non))))
/-! ### board_of -/
def N_board_of : List Str := ["text"]
def den_board_of : DS :=
  (sSeq (sDrop (dCall f_need (daC (dCall f_is_text (daC (dV 0) daN)) (daC (dC (.str "text")) daN))))
  (sRet (dIf (dTst (dOp oNotN (daC (dCall f_flaw (daC (dV 0) daN)) (daC (dC .none) daN)))) (dC .none) (dCall f_board_in (daC (dV 0) daN)))))
def f_board_of : List D → FO := runD false 1 den_board_of
theorem sc_board_of : FnScope N_board_of ["text"] (defScope (top 21)) := ⟨rfl, rfl, rfl, by decide +kernel, rfl, by decide +kernel, by decide +kernel⟩
theorem ok_board_of {P : Program} {w : World} {K : PySem.W.Frag} {mg : Str → Option Value} {base : Heap} {f : Addr} {fd : FuncData} (Fu : Fun K "board_of" "board_of" (top 21) f fd)
    (c_need : Cq P w K mg base "need" 3 ["is_right", "name"] (spP K mg false 2 f_need)) (c_is_text : Cq P w K mg base "is_text" 1 ["value"] (spP K mg false 1 f_is_text)) (c_flaw : Cq P w K mg base "flaw" 4 ["text"] (spP K mg false 1 f_flaw)) (c_board_in : Cq P w K mg base "board_in" 3 ["text"] (spP K mg false 1 f_board_in)) :
    FnOk P w K mg base (L2.CX P w) 5 f fd ["text"] (spP K mg false 1 f_board_of) := by
  refine fn_den2 (k := 4) (N := N_board_of) false den_board_of Fu sc_board_of (by simp) fun cdv A outer s H E F0 H0 ia T pin hr hpn => ?_
  have hK : (Cfg.mk K mg F0 H0 ia T pin).K = K := rfl
  have hmg : (Cfg.mk K mg F0 H0 ia T pin).mg = mg := rfl
  have hpin := hpn rfl
  have tk := takes_of (X := cxOf (L2.CX P w) P w K mg base N_board_of "board_of" (defScope (top 21)) f cdv A outer s H E) rfl rfl rfl rfl
  have hx : Passes (L2.CX P w) (cxOf (L2.CX P w) P w K mg base N_board_of "board_of" (defScope (top 21)) f cdv A outer s H E) E := passes_call tk (fun _ _ _ _ h => h)
  have hp : PassesOwn (model P w) (cxOf (L2.CX P w) P w K mg base N_board_of "board_of" (defScope (top 21)) f cdv A outer s H E).A (cxOf (L2.CX P w) P w K mg base N_board_of "board_of" (defScope (top 21)) f cdv A outer s H E).env (cxOf (L2.CX P w) P w K mg base N_board_of "board_of" (defScope (top 21)) f cdv A outer s H E).xe := passes_of rfl
  have hu1 := hr.units
  have hu : (A.deeper (envOfC "board_of" (defScope (top 21)) s.heap.objs.size f cdv)).units + 65 < cLine := by have := hr.un; omega
  exact (ds_cons (ds_expr (dx_call ⟨c_need⟩ hK hmg (hr.mono (by decide)) hx (da_cons (dx_call ⟨c_is_text⟩ hK hmg (hr.mono (by decide)) hx (da_cons (dx_var 0) da_nil) (daLen_cons daLen_nil)) (da_cons dx_str da_nil)) (daLen_cons (daLen_cons daLen_nil))))
  (ds_one (ds_ret (dx_if (dt_cmp op_notN vok_notN (dx_call ⟨c_flaw⟩ hK hmg (hr.mono (by decide)) hx (da_cons (dx_var 0) da_nil) (daLen_cons daLen_nil)) dx_non) dx_non (dx_call ⟨c_board_in⟩ hK hmg (hr.mono (by decide)) hx (da_cons (dx_var 0) da_nil) (daLen_cons daLen_nil))))))
/-! ### _law_taken -/
def N__law_taken : List Str := ["row", "many", "found", "cell"]
def den__law_taken : DS :=
  (sSeq (sIf (dTst (dOp oGt (daC (dOp oIx (daC (dV 0) (daC (dC (.int 3)) daN))) (daC (dC (.int 0)) daN))))
  (sSeq (sSet 2 (dOp oMod (daC (dOp oInt (daC (dOp oIx (daC (dV 0) (daC (dC (.int 3)) daN))) daN)) (daC (dV 1) daN))))
  (sSeq (sIxL 0 (dOp oDiv (daC (dOp oIx (daC (dV 0) (daC (dC (.int 3)) daN))) (daC (dV 1) daN))) (dC (.int 3)))
  (sRet (dV 2))))
  sNil)
  (sSeq (sIxL 0 (dOp oAdd (daC (dOp oIx (daC (dV 0) (daC (dC (.int 1)) daN))) (daC (dC (.int 1)) daN))) (dC (.int 1)))
  (sSeq (sIf (dTst (dOp oGt (daC (dOp oIx (daC (dV 0) (daC (dC (.int 1)) daN))) (daC (dOp oLen (daC (dOp oIx (daC (dV 0) (daC (dC (.int 0)) daN))) daN)) daN))))
  (sSeq (sIxL 0 (dOp oMod (daC (dOp oInt (daC (dOp oAdd (daC (dOp oMul (daC (dOp oIx (daC (dV 0) (daC (dC (.int 2)) daN))) (daC (dC (.int 48271)) daN))) (daC (dC (.int 11)) daN))) daN)) (daC (dC (.int 2147483647)) daN))) (dC (.int 2)))
  (sRet (dOp oMod (daC (dOp oInt (daC (dOp oDiv (daC (dOp oIx (daC (dV 0) (daC (dC (.int 2)) daN))) (daC (dC (.int 7)) daN))) daN)) (daC (dV 1) daN)))))
  sNil)
  (sSeq (sSet 3 (dOp oIx (daC (dOp oIx (daC (dV 0) (daC (dC (.int 0)) daN))) (daC (dOp oSub (daC (dOp oIx (daC (dV 0) (daC (dC (.int 1)) daN))) (daC (dC (.int 1)) daN))) daN))))
  (sSeq (sIxL 0 (dOp oMod (daC (dOp oInt (daC (dOp oAdd (daC (dOp oAdd (daC (dOp oMul (daC (dOp oIx (daC (dV 0) (daC (dC (.int 2)) daN))) (daC (dC (.int 48271)) daN))) (daC (dOp oInt (daC (dV 3) daN)) daN))) (daC (dC (.int 11)) daN))) daN)) (daC (dC (.int 2147483647)) daN))) (dC (.int 2)))
  (sSeq (sIf (dTst (dOp oGe (daC (dV 3) (daC (dOp oPow (daC (dC (.int 10)) (daC (dC (.int 18)) daN))) daN))))
  (sIxL 0 (dOp oDiv (daC (dOp oInt (daC (dOp oMod (daC (dOp oInt (daC (dV 3) daN)) (daC (dOp oPow (daC (dC (.int 10)) (daC (dC (.int 90)) daN))) daN))) daN)) (daC (dV 1) daN))) (dC (.int 3)))
  sNil)
  (sRet (dOp oMod (daC (dOp oInt (daC (dV 3) daN)) (daC (dV 1) daN))))))))))
def f__law_taken : List D → FO := runD true 4 den__law_taken
theorem sc__law_taken : FnScope N__law_taken ["row", "many"] (defScope (top 23)) := ⟨rfl, rfl, rfl, by decide +kernel, rfl, by decide +kernel, by decide +kernel⟩
theorem ok__law_taken {P : Program} {w : World} {K : PySem.W.Frag} {mg : Str → Option Value} {base : Heap} {f : Addr} {fd : FuncData} (Fu : Fun K "_law_taken" "_law_taken" (top 23) f fd)
    (m_int : mg "int" = none) (m_len : mg "len" = none) :
    FnOk P w K mg base (L2.CX P w) 1 f fd ["row", "many"] (spP K mg true 2 f__law_taken) := by
  refine fn_den2 (k := 0) (N := N__law_taken) true den__law_taken Fu sc__law_taken (by decide) fun cdv A outer s H E F0 H0 ia T pin hr hpn => ?_
  have hK : (Cfg.mk K mg F0 H0 ia T pin).K = K := rfl
  have hmg : (Cfg.mk K mg F0 H0 ia T pin).mg = mg := rfl
  
  have tk := takes_of (X := cxOf (L2.CX P w) P w K mg base N__law_taken "_law_taken" (defScope (top 23)) f cdv A outer s H E) rfl rfl rfl rfl
  have hx : Passes (L2.CX P w) (cxOf (L2.CX P w) P w K mg base N__law_taken "_law_taken" (defScope (top 23)) f cdv A outer s H E) E := passes_call tk (fun _ _ _ _ h => h)
  have hp : PassesOwn (model P w) (cxOf (L2.CX P w) P w K mg base N__law_taken "_law_taken" (defScope (top 23)) f cdv A outer s H E).A (cxOf (L2.CX P w) P w K mg base N__law_taken "_law_taken" (defScope (top 23)) f cdv A outer s H E).env (cxOf (L2.CX P w) P w K mg base N__law_taken "_law_taken" (defScope (top 23)) f cdv A outer s H E).xe := passes_of rfl
  have hu1 := hr.units
  have hu : (A.deeper (envOfC "_law_taken" (defScope (top 23)) s.heap.objs.size f cdv)).units + 65 < cLine := by have := hr.un; omega
  exact (ds_cons (ds_if (dt_cmp op_gt vok_B0 (dx_ix ix_seq vok_ix (dx_var 0) dx_int) dx_int)
  (ds_cons (ds_set (.inl (by decide)) sc__law_taken.nd (dx_bin op_modN vok_mod (dx_callTy call_int1 vok_int m_int (da_cons (dx_ix ix_seq vok_ix (dx_var 0) dx_int) da_nil)) (dx_var 1)))
  (ds_cons (ds_ixL (k := 0) (dx_bin op_divA vok_div (dx_ix ix_seq vok_ix (dx_var 0) dx_int) (dx_var 1)) dx_int)
  (ds_one (ds_ret (dx_var 2)))))
  ds_nil)
  (ds_cons (ds_ixL (k := 0) (dx_bin op_addA vok_add (dx_ix ix_seq vok_ix (dx_var 0) dx_int) dx_int) dx_int)
  (ds_cons (ds_if (dt_cmp op_gt vok_B0 (dx_ix ix_seq vok_ix (dx_var 0) dx_int) (dx_callB call_len vok_len m_len (da_cons (dx_ix ix_seq vok_ix (dx_var 0) dx_int) da_nil)))
  (ds_cons (ds_ixL (k := 0) (dx_bin op_modN vok_mod (dx_callTy call_int1 vok_int m_int (da_cons (dx_bin op_addA vok_add (dx_bin op_mulA vok_mul (dx_ix ix_seq vok_ix (dx_var 0) dx_int) dx_int) dx_int) da_nil)) dx_int) dx_int)
  (ds_one (ds_ret (dx_bin op_modN vok_mod (dx_callTy call_int1 vok_int m_int (da_cons (dx_bin op_divA vok_div (dx_ix ix_seq vok_ix (dx_var 0) dx_int) dx_int) da_nil)) (dx_var 1)))))
  ds_nil)
  (ds_cons (ds_set (.inl (by decide)) sc__law_taken.nd (dx_ix ix_seq vok_ix (dx_ix ix_seq vok_ix (dx_var 0) dx_int) (dx_bin op_sub vok_I0 (dx_ix ix_seq vok_ix (dx_var 0) dx_int) dx_int)))
  (ds_cons (ds_ixL (k := 0) (dx_bin op_modN vok_mod (dx_callTy call_int1 vok_int m_int (da_cons (dx_bin op_addA vok_add (dx_bin op_addA vok_add (dx_bin op_mulA vok_mul (dx_ix ix_seq vok_ix (dx_var 0) dx_int) dx_int) (dx_callTy call_int1 vok_int m_int (da_cons (dx_var 3) da_nil))) dx_int) da_nil)) dx_int) dx_int)
  (ds_cons (ds_if (dt_cmp op_ge vok_B0 (dx_var 3) (dx_bin op_pow vok_pow dx_int dx_int))
  (ds_one (ds_ixL (k := 0) (dx_bin op_divA vok_div (dx_callTy call_int1 vok_int m_int (da_cons (dx_bin op_modN vok_mod (dx_callTy call_int1 vok_int m_int (da_cons (dx_var 3) da_nil)) (dx_bin op_pow vok_pow dx_int dx_int)) da_nil)) (dx_var 1)) dx_int))
  ds_nil)
  (ds_one (ds_ret (dx_bin op_modN vok_mod (dx_callTy call_int1 vok_int m_int (da_cons (dx_var 3) da_nil)) (dx_var 1))))))))))
/-! ### _law_pick -/
def N__law_pick : List Str := ["row", "some"]
def den__law_pick : DS :=
  (sRet (dOp oIx (daC (dV 1) (daC (dCallIo f__law_taken 0 (daC (dOp oLen (daC (dV 1) daN)) daN)) daN))))
def f__law_pick : List D → FO := runD true 2 den__law_pick
theorem sc__law_pick : FnScope N__law_pick ["row", "some"] (defScope (top 24)) := ⟨rfl, rfl, rfl, by decide +kernel, rfl, by decide +kernel, by decide +kernel⟩
theorem ok__law_pick {P : Program} {w : World} {K : PySem.W.Frag} {mg : Str → Option Value} {base : Heap} {f : Addr} {fd : FuncData} (Fu : Fun K "_law_pick" "_law_pick" (top 24) f fd)
    (c__law_taken : Cq P w K mg base "_law_taken" 1 ["row", "many"] (spP K mg true 2 f__law_taken)) (m_len : mg "len" = none) :
    FnOk P w K mg base (L2.CX P w) 2 f fd ["row", "some"] (spP K mg true 2 f__law_pick) := by
  refine fn_den2 (k := 1) (N := N__law_pick) true den__law_pick Fu sc__law_pick (by decide) fun cdv A outer s H E F0 H0 ia T pin hr hpn => ?_
  have hK : (Cfg.mk K mg F0 H0 ia T pin).K = K := rfl
  have hmg : (Cfg.mk K mg F0 H0 ia T pin).mg = mg := rfl
  
  have tk := takes_of (X := cxOf (L2.CX P w) P w K mg base N__law_pick "_law_pick" (defScope (top 24)) f cdv A outer s H E) rfl rfl rfl rfl
  have hx : Passes (L2.CX P w) (cxOf (L2.CX P w) P w K mg base N__law_pick "_law_pick" (defScope (top 24)) f cdv A outer s H E) E := passes_call tk (fun _ _ _ _ h => h)
  have hp : PassesOwn (model P w) (cxOf (L2.CX P w) P w K mg base N__law_pick "_law_pick" (defScope (top 24)) f cdv A outer s H E).A (cxOf (L2.CX P w) P w K mg base N__law_pick "_law_pick" (defScope (top 24)) f cdv A outer s H E).env (cxOf (L2.CX P w) P w K mg base N__law_pick "_law_pick" (defScope (top 24)) f cdv A outer s H E).xe := passes_of rfl
  have hu1 := hr.units
  have hu : (A.deeper (envOfC "_law_pick" (defScope (top 24)) s.heap.objs.size f cdv)).units + 65 < cLine := by have := hr.un; omega
  exact (ds_one (ds_ret (dx_ix ix_seq vok_ix (dx_var 1) (dx_callIo (j := 0) ⟨c__law_taken⟩ hK hmg (hr.mono (by decide)) hx (da_cons (dx_callB call_len vok_len m_len (da_cons (dx_var 1) da_nil)) da_nil) (daLen_cons daLen_nil)))))
/-! ### _law_alike (recursive) -/
def N__law_alike : List Str := ["found", "due", "at"]
def ct__law_alike_1 (rec : List D → FO) : DB :=
  (dNot (dTru (dCall rec (daC (dOp oIx (daC (dV 0) (daC (dV 2) daN))) (daC (dOp oIx (daC (dV 1) (daC (dV 2) daN))) daN)))))
def den__law_alike (rec : List D → FO) : DS :=
  (sSeq (sIf (dTru (dOp (oIsi "tuple") (daC (dV 1) daN)))
  (sSeq (sIf (dOr (dNot (dTru (dOp (oIsi "tuple") (daC (dV 0) daN)))) (dTst (dOp oNe (daC (dOp oLen (daC (dV 0) daN)) (daC (dOp oLen (daC (dV 1) daN)) daN)))))
  (sRet (dC (.bool false)))
  sNil)
  (sRet (dOp oEq (daC (dLc (dRg1 (daC (dOp oLen (daC (dV 1) daN)) daN)) [2] (gN 2) (ct__law_alike_1 rec) (dV 2)) (daC (dLst daN) daN)))))
  sNil)
  (sSeq (sIf (dOr (dTst (dOp oIsN (daC (dV 1) (daC (dC .none) daN)))) (dTru (dOp (oIsi "str") (daC (dV 1) daN))))
  (sRet (dAndV (dOp oEq (daC (dV 0) (daC (dV 1) daN))) (dOp oEq (daC (dOp (oIsi "str") (daC (dV 0) daN)) (daC (dOp (oIsi "str") (daC (dV 1) daN)) daN)))))
  sNil)
  (sRet (dAndV (dOp (oIsi "int") (daC (dV 0) daN)) (dAndV (dOp oEq (daC (dOp (oIsi "bool") (daC (dV 0) daN)) (daC (dOp (oIsi "bool") (daC (dV 1) daN)) daN))) (dOp oEq (daC (dV 0) (daC (dV 1) daN))))))))
def f__law_alike : Nat → List D → FO
  | 0 => fun _ => .no
  | n + 1 => runD false 3 (den__law_alike (f__law_alike n))
theorem sc__law_alike : FnScope N__law_alike ["found", "due"] (defScope (top 26)) := ⟨rfl, rfl, rfl, by decide +kernel, rfl, by decide +kernel, by decide +kernel⟩
theorem ok__law_alike {P : Program} {w : World} {K : PySem.W.Frag} {mg : Str → Option Value} {base : Heap} {f : Addr} {fd : FuncData} (Fu : Fun K "_law_alike" "_law_alike" (top 26) f fd) (hm : mg "_law_alike" = some (.ref f)) (hb : Binds K fd ["found", "due"] [])
    (m_isinstance : mg "isinstance" = none) (m_tuple : mg "tuple" = none) (m_len : mg "len" = none) (m_range : mg "range" = none) (m_str : mg "str" = none) (m_int : mg "int" = none) (m_bool : mg "bool" = none) : ∀ n : Nat,
    FnOk P w K mg base (L2.CX P w) (0 + n) f fd ["found", "due"] (spP K mg false 2 (f__law_alike n))
  | 0 => fnOk_no
  | n + 1 => by
    have c_rec : Cq P w K mg base "_law_alike" (0 + n) ["found", "due"] (spP K mg false 2 (f__law_alike n)) := ⟨f, fd, ok__law_alike Fu hm hb m_isinstance m_tuple m_len m_range m_str m_int m_bool n, hm, Fu.kp, hb⟩
    refine fn_den2 (k := 0 + n) (N := N__law_alike) false (den__law_alike (f__law_alike n)) Fu sc__law_alike (by simp) fun cdv A outer s H E F0 H0 ia T pin hr hpn => ?_
    generalize f__law_alike n = rec at c_rec ⊢
    have hK : (Cfg.mk K mg F0 H0 ia T pin).K = K := rfl
    have hmg : (Cfg.mk K mg F0 H0 ia T pin).mg = mg := rfl
    have hpin := hpn rfl
    have tk := takes_of (X := cxOf (L2.CX P w) P w K mg base N__law_alike "_law_alike" (defScope (top 26)) f cdv A outer s H E) rfl rfl rfl rfl
    have hx : Passes (L2.CX P w) (cxOf (L2.CX P w) P w K mg base N__law_alike "_law_alike" (defScope (top 26)) f cdv A outer s H E) E := passes_call tk (fun _ _ _ _ h => h)
    have hp : PassesOwn (model P w) (cxOf (L2.CX P w) P w K mg base N__law_alike "_law_alike" (defScope (top 26)) f cdv A outer s H E).A (cxOf (L2.CX P w) P w K mg base N__law_alike "_law_alike" (defScope (top 26)) f cdv A outer s H E).env (cxOf (L2.CX P w) P w K mg base N__law_alike "_law_alike" (defScope (top 26)) f cdv A outer s H E).xe := passes_of rfl
    have hu1 := hr.units
    have hu : (A.deeper (envOfC "_law_alike" (defScope (top 26)) s.heap.objs.size f cdv)).units + 65 < cLine := by have := hr.un; omega
    exact (ds_cons (ds_if (dt_tru (dx_isi (T := "tuple") hK m_isinstance m_tuple (dx_var 1)) hK)
  (ds_cons (ds_if (DTW.t (dw_or (dt_not (dt_tru (dx_isi (T := "tuple") hK m_isinstance m_tuple (dx_var 0)) hK)) (dw_or1 (dt_cmp (op_neA hu1) vok_ne (dx_callB call_len vok_len m_len (da_cons (dx_var 0) da_nil)) (dx_callB call_len vok_len m_len (da_cons (dx_var 1) da_nil))))))
  (ds_one (ds_ret dx_bl))
  ds_nil)
  (ds_one (ds_ret (dx_cmp (op_eqA hu1) vok_eq (dx_lc (own := [("at", 2)]) rfl sc__law_alike.nd (di_rg1 m_range (da_cons (dx_callB call_len vok_len m_len (da_cons (dx_var 1) da_nil)) da_nil)) (fun _ _ _ _ _ => (dg_name (i := 2) sc__law_alike.nd)) (bt_one fun _ _ _ _ _ => (dt_not (dt_tru (dx_call ⟨c_rec⟩ hK hmg (hr.mono (by omega)) passL (da_cons (dx_ix ix_seq vok_ix (dx_var 0) (dx_var 2)) (da_cons (dx_ix ix_seq vok_ix (dx_var 1) (dx_var 2)) da_nil)) (daLen_cons (daLen_cons daLen_nil))) hK))) (fun _ _ _ _ _ => (dx_var 2)) (blkOk_by (by kernel_rfl))) (dx_lst da_nil)))))
  ds_nil)
  (ds_cons (ds_if (DTW.t (dw_or (dt_cmp op_isN vok_isN (dx_var 1) dx_non) (dw_or1 (dt_tru (dx_isi (T := "str") hK m_isinstance m_str (dx_var 1)) hK))))
  (ds_one (ds_ret (dx_and (dx_cmp (op_eqA hu1) vok_eq (dx_var 0) (dx_var 1)) (dx_one (dx_cmp (op_eqA hu1) vok_eq (dx_isi (T := "str") hK m_isinstance m_str (dx_var 0)) (dx_isi (T := "str") hK m_isinstance m_str (dx_var 1)))))))
  ds_nil)
  (ds_one (ds_ret (dx_and (dx_isi (T := "int") hK m_isinstance m_int (dx_var 0)) (dx_and (dx_cmp (op_eqA hu1) vok_eq (dx_isi (T := "bool") hK m_isinstance m_bool (dx_var 0)) (dx_isi (T := "bool") hK m_isinstance m_bool (dx_var 1))) (dx_one (dx_cmp (op_eqA hu1) vok_eq (dx_var 0) (dx_var 1)))))))))
/-! ### _law_board -/
def N__law_board : List Str := ["row", "wide", "high", "most", "cells", "left", "at", "own"]
def lb__law_board_1 : DS :=
  (sSeq (sSet 7 (dCallIo f__law_pick 0 (daC (dIf (dTst (dOp oGt (daC (dV 5) (daC (dC (.int 0)) daN)))) (dLst (daC (dC (.int 0)) (daC (dC (.int 0)) (daC (dC (.int 1)) (daC (dC (.int 1)) (daC (dC (.int 2)) (daC (dC (.int 2)) (daC (dC (.int 3)) (daC (dC (.int 4)) (daC (dC (.int 5)) (daC (dC (.int 4)) (daC (dC (.int 5)) daN)))))))))))) (dLst (daC (dC (.int 0)) (daC (dC (.int 0)) (daC (dC (.int 1)) (daC (dC (.int 2)) (daC (dC (.int 1)) (daC (dC (.int 2)) (daC (dC (.int 1)) (daC (dC (.int 2)) (daC (dC (.int 3)) daN))))))))))) daN)))
  (sSeq (sSet 7 (dIf (dAnd (dTst (dOp oEq (daC (dV 7) (daC (dC (.int 3)) daN)))) (dTst (dOp oGt (daC (dCallIo f__law_taken 0 (daC (dC (.int 3)) daN)) (daC (dC (.int 0)) daN))))) (dC (.int 0)) (dV 7)))
  (sSeq (sSet 5 (dOp oSub (daC (dV 5) (daC (dIf (dTst (dOp oGt (daC (dV 7) (daC (dC (.int 3)) daN)))) (dC (.int 1)) (dC (.int 0))) daN))))
  (sDrop (dMut "list" 4 mAppend (daC (dV 7) daN))))))
def den__law_board : DS :=
  (sSeq (sPar [4, 5] (daC (dLst daN) (daC (dV 3) daN)))
  (sSeq (sFor (dRg1 (daC (dOp oMul (daC (dV 1) (daC (dV 2) daN))) daN)) (gN 6) lb__law_board_1)
  (sRet (dTup (daC (dV 1) (daC (dV 2) (daC (dOp oTuple (daC (dV 4) daN)) daN)))))))
def f__law_board : List D → FO := runD true 8 den__law_board
theorem sc__law_board : FnScope N__law_board ["row", "wide", "high", "most"] (defScope (top 27)) := ⟨rfl, rfl, rfl, by decide +kernel, rfl, by decide +kernel, by decide +kernel⟩
theorem ok__law_board {P : Program} {w : World} {K : PySem.W.Frag} {mg : Str → Option Value} {base : Heap} {f : Addr} {fd : FuncData} (Fu : Fun K "_law_board" "_law_board" (top 27) f fd)
    (c__law_pick : Cq P w K mg base "_law_pick" 2 ["row", "some"] (spP K mg true 2 f__law_pick)) (c__law_taken : Cq P w K mg base "_law_taken" 1 ["row", "many"] (spP K mg true 2 f__law_taken)) (m_range : mg "range" = none) (m_tuple : mg "tuple" = none) :
    FnOk P w K mg base (L2.CX P w) 3 f fd ["row", "wide", "high", "most"] (spP K mg true 4 f__law_board) := by
  refine fn_den2 (k := 2) (N := N__law_board) true den__law_board Fu sc__law_board (by decide) fun cdv A outer s H E F0 H0 ia T pin hr hpn => ?_
  have hK : (Cfg.mk K mg F0 H0 ia T pin).K = K := rfl
  have hmg : (Cfg.mk K mg F0 H0 ia T pin).mg = mg := rfl
  
  have tk := takes_of (X := cxOf (L2.CX P w) P w K mg base N__law_board "_law_board" (defScope (top 27)) f cdv A outer s H E) rfl rfl rfl rfl
  have hx : Passes (L2.CX P w) (cxOf (L2.CX P w) P w K mg base N__law_board "_law_board" (defScope (top 27)) f cdv A outer s H E) E := passes_call tk (fun _ _ _ _ h => h)
  have hp : PassesOwn (model P w) (cxOf (L2.CX P w) P w K mg base N__law_board "_law_board" (defScope (top 27)) f cdv A outer s H E).A (cxOf (L2.CX P w) P w K mg base N__law_board "_law_board" (defScope (top 27)) f cdv A outer s H E).env (cxOf (L2.CX P w) P w K mg base N__law_board "_law_board" (defScope (top 27)) f cdv A outer s H E).xe := passes_of rfl
  have hu1 := hr.units
  have hu : (A.deeper (envOfC "_law_board" (defScope (top 27)) s.heap.objs.size f cdv)).units + 65 < cLine := by have := hr.un; omega
  exact (ds_cons (ds_par2 (.inl (by decide)) rfl sc__law_board.nd (da_cons (dx_lst da_nil) (da_cons (dx_var 3) da_nil)) (daLen_cons (daLen_cons daLen_nil)))
  (ds_cons (ds_for (.inl (by decide)) hp rfl (di_rg1 m_range (da_cons (dx_bin op_mulA vok_mul (dx_var 1) (dx_var 2)) da_nil)) (dg_name (i := 6) sc__law_board.nd)
  (ds_cons (ds_set (.inl (by decide)) sc__law_board.nd (dx_callIo (j := 0) ⟨c__law_pick⟩ hK hmg (hr.mono (by decide)) hx (da_cons (dx_if (dt_cmp op_gt vok_B0 (dx_var 5) dx_int) (dx_lst (da_cons dx_int (da_cons dx_int (da_cons dx_int (da_cons dx_int (da_cons dx_int (da_cons dx_int (da_cons dx_int (da_cons dx_int (da_cons dx_int (da_cons dx_int (da_cons dx_int da_nil)))))))))))) (dx_lst (da_cons dx_int (da_cons dx_int (da_cons dx_int (da_cons dx_int (da_cons dx_int (da_cons dx_int (da_cons dx_int (da_cons dx_int (da_cons dx_int da_nil))))))))))) da_nil) (daLen_cons daLen_nil)))
  (ds_cons (ds_set (.inl (by decide)) sc__law_board.nd (dx_if (DTW.t (dw_and (dt_cmp (op_eqA hu1) vok_eq (dx_var 7) dx_int) (dw_and1 (dt_cmp op_gt vok_B0 (dx_callIo (j := 0) ⟨c__law_taken⟩ hK hmg (hr.mono (by decide)) hx (da_cons dx_int da_nil) (daLen_cons daLen_nil)) dx_int)))) dx_int (dx_var 7)))
  (ds_cons (ds_set (.inl (by decide)) sc__law_board.nd (dx_bin op_sub vok_I0 (dx_var 5) (dx_if (dt_cmp op_gt vok_B0 (dx_var 7) dx_int) dx_int dx_int)))
  (ds_one (ds_expr (dx_mut (k := 4) mok_append hK mt_append PySem.F.plainAttrs_list PySem.F.slot_list_append PySem.F.type_list_append (da_cons (dx_var 7) da_nil))))))))
  (ds_one (ds_ret (dx_tup (da_cons (dx_var 1) (da_cons (dx_var 2) (da_cons (dx_callTy call_tuple_of vok_tuple m_tuple (da_cons (dx_var 4) da_nil)) da_nil))))))))
/-! ### _law_lines -/
def N__law_lines : List Str := ["board", "at", "own"]
def ce__law_lines_1 : DE :=
  (dOp oIx (daC (dC (.str "./\\#zs")) (daC (dV 2) daN)))
def ce__law_lines_2 : DE :=
  (dOp oJoin (daC (dStr (dC (.str ""))) (daC (dLc (dIt (dOp oSl11 (daC (dOp oIx (daC (dV 0) (daC (dC (.int 2)) daN))) (daC (dInt (dOp oMul (daC (dV 1) (daC (dOp oIx (daC (dV 0) (daC (dC (.int 0)) daN))) daN)))) (daC (dInt (dOp oAdd (daC (dOp oMul (daC (dV 1) (daC (dOp oIx (daC (dV 0) (daC (dC (.int 0)) daN))) daN))) (daC (dOp oIx (daC (dV 0) (daC (dC (.int 0)) daN))) daN)))) daN))))) [2] (gN 2) dYes ce__law_lines_1) daN)))
def den__law_lines : DS :=
  (sRet (dOp oJoin (daC (dStr (dC (.str "\n"))) (daC (dLc (dRg1 (daC (dOp oIx (daC (dV 0) (daC (dC (.int 1)) daN))) daN)) [1] (gN 1) dYes ce__law_lines_2) daN))))
def f__law_lines : List D → FO := runD false 3 den__law_lines
theorem sc__law_lines : FnScope N__law_lines ["board"] (defScope (top 28)) := ⟨rfl, rfl, rfl, by decide +kernel, rfl, by decide +kernel, by decide +kernel⟩
theorem ok__law_lines {P : Program} {w : World} {K : PySem.W.Frag} {mg : Str → Option Value} {base : Heap} {f : Addr} {fd : FuncData} (Fu : Fun K "_law_lines" "_law_lines" (top 28) f fd)
    (m_range : mg "range" = none) :
    FnOk P w K mg base (L2.CX P w) 1 f fd ["board"] (spP K mg false 1 f__law_lines) := by
  refine fn_den2 (k := 0) (N := N__law_lines) false den__law_lines Fu sc__law_lines (by simp) fun cdv A outer s H E F0 H0 ia T pin hr hpn => ?_
  have hK : (Cfg.mk K mg F0 H0 ia T pin).K = K := rfl
  have hmg : (Cfg.mk K mg F0 H0 ia T pin).mg = mg := rfl
  have hpin := hpn rfl
  have tk := takes_of (X := cxOf (L2.CX P w) P w K mg base N__law_lines "_law_lines" (defScope (top 28)) f cdv A outer s H E) rfl rfl rfl rfl
  have hx : Passes (L2.CX P w) (cxOf (L2.CX P w) P w K mg base N__law_lines "_law_lines" (defScope (top 28)) f cdv A outer s H E) E := passes_call tk (fun _ _ _ _ h => h)
  have hp : PassesOwn (model P w) (cxOf (L2.CX P w) P w K mg base N__law_lines "_law_lines" (defScope (top 28)) f cdv A outer s H E).A (cxOf (L2.CX P w) P w K mg base N__law_lines "_law_lines" (defScope (top 28)) f cdv A outer s H E).env (cxOf (L2.CX P w) P w K mg base N__law_lines "_law_lines" (defScope (top 28)) f cdv A outer s H E).xe := passes_of rfl
  have hu1 := hr.units
  have hu : (A.deeper (envOfC "_law_lines" (defScope (top 28)) s.heap.objs.size f cdv)).units + 65 < cLine := by have := hr.un; omega
  exact (ds_one (ds_ret (dx_m1 PySem.F.slot_str_join PySem.F.type_str_join mt_join vok_join dx_str (dx_lc (own := [("at", 1)]) rfl sc__law_lines.nd (di_rg1 m_range (da_cons (dx_ix ix_seq vok_ix (dx_var 0) dx_int) da_nil)) (fun _ _ _ _ _ => (dg_name (i := 1) sc__law_lines.nd)) bt_nil (fun _ _ _ _ _ => (dx_m1 PySem.F.slot_str_join PySem.F.type_str_join mt_join vok_join dx_str (dx_lc (own := [("own", 2)]) rfl sc__law_lines.nd (di_any hK (dx_sl11 hK (dx_ix ix_seq vok_ix (dx_var 0) dx_int) (dx_bin op_mulA vok_mul (dx_var 1) (dx_ix ix_seq vok_ix (dx_var 0) dx_int)) (dx_bin op_addA vok_add (dx_bin op_mulA vok_mul (dx_var 1) (dx_ix ix_seq vok_ix (dx_var 0) dx_int)) (dx_ix ix_seq vok_ix (dx_var 0) dx_int)))) (fun _ _ _ _ _ => (dg_name (i := 2) sc__law_lines.nd)) bt_nil (fun _ _ _ _ _ => (dx_ix ix_seq vok_ix dx_str (dx_var 2))) (blkOk_by (by kernel_rfl))))) (blkOk_by (by kernel_rfl))))))
/-! ### _law_flaw -/
def N__law_flaw : List Str := ["text", "at", "many", "wide", "number", "line", "place", "sign"]
def lb__law_flaw_1 : DS :=
  (sSeq (sIf (dTst (dOp oNotIn (daC (dV 7) (daC (dC (.str "./\\#zs")) daN))))
  (sRet (dTup (daC (dOp oAdd (daC (dV 1) (daC (dV 6) daN))) (daC (dC (.str "this sign cannot stand here")) daN))))
  sNil)
  (sSeq (sIf (dTst (dOp oEq (daC (dV 6) (daC (dV 3) daN))))
  (sRet (dTup (daC (dOp oAdd (daC (dV 1) (daC (dV 6) daN))) (daC (dC (.str "the row is too long")) daN))))
  sNil)
  (sSeq (sSet 2 (dOp oAdd (daC (dV 2) (daC (dIf (dTst (dOp oIn (daC (dV 7) (daC (dC (.str "zs")) daN)))) (dC (.int 1)) (dC (.int 0))) daN))))
  (sIf (dTst (dOp oEq (daC (dV 2) (daC (dC (.int 9)) daN))))
  (sRet (dTup (daC (dOp oAdd (daC (dV 1) (daC (dV 6) daN))) (daC (dC (.str "there are too many parters")) daN))))
  sNil))))
def lb__law_flaw_2 : DS :=
  (sSeq (sIf (dTst (dOp oEq (daC (dV 4) (daC (dC (.int 8)) daN))))
  (sRet (dTup (daC (dV 1) (daC (dC (.str "there are too many rows")) daN))))
  sNil)
  (sSeq (sFor (dEn (daC (dV 5) daN)) (gT (gsC (gN 6) (gsC (gN 7) gsN)) 2) lb__law_flaw_1)
  (sSeq (sIf (dOr (dTst (dOp oEq (daC (dV 5) (daC (dC (.str "")) daN)))) (dAnd (dTst (dOp oGt (daC (dV 4) (daC (dC (.int 0)) daN)))) (dTst (dOp oLt (daC (dOp oLen (daC (dV 5) daN)) (daC (dV 3) daN))))))
  (sRet (dTup (daC (dOp oAdd (daC (dV 1) (daC (dOp oLen (daC (dV 5) daN)) daN))) (daC (dC (.str "the row is too short")) daN))))
  sNil)
  (sPar [1, 3] (daC (dOp oAdd (daC (dOp oAdd (daC (dV 1) (daC (dOp oLen (daC (dV 5) daN)) daN))) (daC (dC (.int 1)) daN))) (daC (dOp oLen (daC (dV 5) daN)) daN))))))
def den__law_flaw : DS :=
  (sSeq (sAsg (gT (gsC (gN 1) (gsC (gN 2) (gsC (gN 3) gsN))) 3) (dTup (daC (dC (.int 0)) (daC (dC (.int 0)) (daC (dC (.int 8)) daN)))))
  (sSeq (sFor (dEn (daC (dOp oSplit (daC (dStr (dV 0)) (daC (dC (.str "\n")) daN))) daN)) (gT (gsC (gN 4) (gsC (gN 5) gsN)) 2) lb__law_flaw_2)
  (sRet (dC .none))))
def f__law_flaw : List D → FO := runD false 8 den__law_flaw
theorem sc__law_flaw : FnScope N__law_flaw ["text"] (defScope (top 29)) := ⟨rfl, rfl, rfl, by decide +kernel, rfl, by decide +kernel, by decide +kernel⟩
theorem ok__law_flaw {P : Program} {w : World} {K : PySem.W.Frag} {mg : Str → Option Value} {base : Heap} {f : Addr} {fd : FuncData} (Fu : Fun K "_law_flaw" "_law_flaw" (top 29) f fd)
    (m_enumerate : mg "enumerate" = none) (m_len : mg "len" = none) :
    FnOk P w K mg base (L2.CX P w) 1 f fd ["text"] (spP K mg false 1 f__law_flaw) := by
  refine fn_den2 (k := 0) (N := N__law_flaw) false den__law_flaw Fu sc__law_flaw (by simp) fun cdv A outer s H E F0 H0 ia T pin hr hpn => ?_
  have hK : (Cfg.mk K mg F0 H0 ia T pin).K = K := rfl
  have hmg : (Cfg.mk K mg F0 H0 ia T pin).mg = mg := rfl
  have hpin := hpn rfl
  have tk := takes_of (X := cxOf (L2.CX P w) P w K mg base N__law_flaw "_law_flaw" (defScope (top 29)) f cdv A outer s H E) rfl rfl rfl rfl
  have hx : Passes (L2.CX P w) (cxOf (L2.CX P w) P w K mg base N__law_flaw "_law_flaw" (defScope (top 29)) f cdv A outer s H E) E := passes_call tk (fun _ _ _ _ h => h)
  have hp : PassesOwn (model P w) (cxOf (L2.CX P w) P w K mg base N__law_flaw "_law_flaw" (defScope (top 29)) f cdv A outer s H E).A (cxOf (L2.CX P w) P w K mg base N__law_flaw "_law_flaw" (defScope (top 29)) f cdv A outer s H E).env (cxOf (L2.CX P w) P w K mg base N__law_flaw "_law_flaw" (defScope (top 29)) f cdv A outer s H E).xe := passes_of rfl
  have hu1 := hr.units
  have hu : (A.deeper (envOfC "_law_flaw" (defScope (top 29)) s.heap.objs.size f cdv)).units + 65 < cLine := by have := hr.un; omega
  exact (ds_cons (ds_asg (.inr hpin) (dx_tup (da_cons dx_int (da_cons dx_int (da_cons dx_int da_nil)))) (dg_tup hK rfl (dgs_cons (dg_name (i := 1) sc__law_flaw.nd) (dgs_cons (dg_name (i := 2) sc__law_flaw.nd) (dgs_cons (dg_name (i := 3) sc__law_flaw.nd) dgs_nil)))))
  (ds_cons (ds_for (.inr hpin) hp rfl (di_enum hK m_enumerate (da_cons (dx_m1 PySem.F.slot_str_split PySem.F.type_str_split mt_split vok_split (dx_var 0) dx_str) da_nil)) (dg_tup hK rfl (dgs_cons (dg_name (i := 4) sc__law_flaw.nd) (dgs_cons (dg_name (i := 5) sc__law_flaw.nd) dgs_nil)))
  (ds_cons (ds_if (dt_cmp (op_eqA hu1) vok_eq (dx_var 4) dx_int)
  (ds_one (ds_ret (dx_tup (da_cons (dx_var 1) (da_cons dx_str da_nil)))))
  ds_nil)
  (ds_cons (ds_for (.inr hpin) hp rfl (di_enum hK m_enumerate (da_cons (dx_var 5) da_nil)) (dg_tup hK rfl (dgs_cons (dg_name (i := 6) sc__law_flaw.nd) (dgs_cons (dg_name (i := 7) sc__law_flaw.nd) dgs_nil)))
  (ds_cons (ds_if (dt_cmp (op_notInA hu) vok_notIn (dx_var 7) dx_str)
  (ds_one (ds_ret (dx_tup (da_cons (dx_bin op_addA vok_add (dx_var 1) (dx_var 6)) (da_cons dx_str da_nil)))))
  ds_nil)
  (ds_cons (ds_if (dt_cmp (op_eqA hu1) vok_eq (dx_var 6) (dx_var 3))
  (ds_one (ds_ret (dx_tup (da_cons (dx_bin op_addA vok_add (dx_var 1) (dx_var 6)) (da_cons dx_str da_nil)))))
  ds_nil)
  (ds_cons (ds_set (.inr hpin) sc__law_flaw.nd (dx_bin op_addA vok_add (dx_var 2) (dx_if (dt_cmp (op_inA hu) vok_in (dx_var 7) dx_str) dx_int dx_int)))
  (ds_one (ds_if (dt_cmp (op_eqA hu1) vok_eq (dx_var 2) dx_int)
  (ds_one (ds_ret (dx_tup (da_cons (dx_bin op_addA vok_add (dx_var 1) (dx_var 6)) (da_cons dx_str da_nil)))))
  ds_nil))))))
  (ds_cons (ds_if (DTW.t (dw_or (dt_cmp (op_eqA hu1) vok_eq (dx_var 5) dx_str) (dw_or1 (DTW.t (dw_and (dt_cmp op_gt vok_B0 (dx_var 4) dx_int) (dw_and1 (dt_cmp op_lt vok_B0 (dx_callB call_len vok_len m_len (da_cons (dx_var 5) da_nil)) (dx_var 3))))))))
  (ds_one (ds_ret (dx_tup (da_cons (dx_bin op_addA vok_add (dx_var 1) (dx_callB call_len vok_len m_len (da_cons (dx_var 5) da_nil))) (da_cons dx_str da_nil)))))
  ds_nil)
  (ds_one (ds_par2 (.inr hpin) rfl sc__law_flaw.nd (da_cons (dx_bin op_addA vok_add (dx_bin op_addA vok_add (dx_var 1) (dx_callB call_len vok_len m_len (da_cons (dx_var 5) da_nil))) dx_int) (da_cons (dx_callB call_len vok_len m_len (da_cons (dx_var 5) da_nil)) da_nil)) (daLen_cons (daLen_cons daLen_nil))))))))
  (ds_one (ds_ret dx_non))))
/-! ### _law_spoiled -/
def N__law_spoiled : List Str := ["row", "text", "at", "sign"]
def den__law_spoiled : DS :=
  (sSeq (sSet 2 (dCallIo f__law_taken 0 (daC (dOp oAdd (daC (dOp oLen (daC (dV 1) daN)) (daC (dC (.int 1)) daN))) daN)))
  (sSeq (sSet 3 (dCallIo f__law_pick 0 (daC (dLst (daC (dC (.str "")) (daC (dC (.str ".")) (daC (dC (.str "/")) (daC (dC (.str "\\")) (daC (dC (.str "#")) (daC (dC (.str "z")) (daC (dC (.str "s")) (daC (dC (.str "x")) (daC (dC (.str " ")) (daC (dC (.str "\n")) (daC (dC (.str "\n\n")) (daC (dC (.str "zzzzz")) (daC (dC (.str "........")) (daC (dOp oAdd (daC (dC (.str "\n")) (daC (dV 1) daN))) daN))))))))))))))) daN)))
  (sRet (dOp oAdd (daC (dOp oAdd (daC (dOp oSl01 (daC (dV 1) (daC (dV 2) daN))) (daC (dV 3) daN))) (daC (dOp oSl10 (daC (dV 1) (daC (dOp oAdd (daC (dV 2) (daC (dCallIo f__law_taken 0 (daC (dC (.int 2)) daN)) daN))) daN))) daN))))))
def f__law_spoiled : List D → FO := runD true 4 den__law_spoiled
theorem sc__law_spoiled : FnScope N__law_spoiled ["row", "text"] (defScope (top 30)) := ⟨rfl, rfl, rfl, by decide +kernel, rfl, by decide +kernel, by decide +kernel⟩
theorem ok__law_spoiled {P : Program} {w : World} {K : PySem.W.Frag} {mg : Str → Option Value} {base : Heap} {f : Addr} {fd : FuncData} (Fu : Fun K "_law_spoiled" "_law_spoiled" (top 30) f fd)
    (c__law_taken : Cq P w K mg base "_law_taken" 1 ["row", "many"] (spP K mg true 2 f__law_taken)) (c__law_pick : Cq P w K mg base "_law_pick" 2 ["row", "some"] (spP K mg true 2 f__law_pick)) (m_len : mg "len" = none) :
    FnOk P w K mg base (L2.CX P w) 3 f fd ["row", "text"] (spP K mg true 2 f__law_spoiled) := by
  refine fn_den2 (k := 2) (N := N__law_spoiled) true den__law_spoiled Fu sc__law_spoiled (by decide) fun cdv A outer s H E F0 H0 ia T pin hr hpn => ?_
  have hK : (Cfg.mk K mg F0 H0 ia T pin).K = K := rfl
  have hmg : (Cfg.mk K mg F0 H0 ia T pin).mg = mg := rfl
  
  have tk := takes_of (X := cxOf (L2.CX P w) P w K mg base N__law_spoiled "_law_spoiled" (defScope (top 30)) f cdv A outer s H E) rfl rfl rfl rfl
  have hx : Passes (L2.CX P w) (cxOf (L2.CX P w) P w K mg base N__law_spoiled "_law_spoiled" (defScope (top 30)) f cdv A outer s H E) E := passes_call tk (fun _ _ _ _ h => h)
  have hp : PassesOwn (model P w) (cxOf (L2.CX P w) P w K mg base N__law_spoiled "_law_spoiled" (defScope (top 30)) f cdv A outer s H E).A (cxOf (L2.CX P w) P w K mg base N__law_spoiled "_law_spoiled" (defScope (top 30)) f cdv A outer s H E).env (cxOf (L2.CX P w) P w K mg base N__law_spoiled "_law_spoiled" (defScope (top 30)) f cdv A outer s H E).xe := passes_of rfl
  have hu1 := hr.units
  have hu : (A.deeper (envOfC "_law_spoiled" (defScope (top 30)) s.heap.objs.size f cdv)).units + 65 < cLine := by have := hr.un; omega
  exact (ds_cons (ds_set (.inl (by decide)) sc__law_spoiled.nd (dx_callIo (j := 0) ⟨c__law_taken⟩ hK hmg (hr.mono (by decide)) hx (da_cons (dx_bin op_addA vok_add (dx_callB call_len vok_len m_len (da_cons (dx_var 1) da_nil)) dx_int) da_nil) (daLen_cons daLen_nil)))
  (ds_cons (ds_set (.inl (by decide)) sc__law_spoiled.nd (dx_callIo (j := 0) ⟨c__law_pick⟩ hK hmg (hr.mono (by decide)) hx (da_cons (dx_lst (da_cons dx_str (da_cons dx_str (da_cons dx_str (da_cons dx_str (da_cons dx_str (da_cons dx_str (da_cons dx_str (da_cons dx_str (da_cons dx_str (da_cons dx_str (da_cons dx_str (da_cons dx_str (da_cons dx_str (da_cons (dx_bin op_addA vok_add dx_str (dx_var 1)) da_nil))))))))))))))) da_nil) (daLen_cons daLen_nil)))
  (ds_one (ds_ret (dx_bin op_addA vok_add (dx_bin op_addA vok_add (dx_sl01 hK (dx_var 1) (dx_var 2)) (dx_var 3)) (dx_sl10 hK (dx_var 1) (dx_bin op_addA vok_add (dx_var 2) (dx_callIo (j := 0) ⟨c__law_taken⟩ hK hmg (hr.mono (by decide)) hx (da_cons dx_int da_nil) (daLen_cons daLen_nil)))))))))
/-! ### _law_refused, law -/
theorem sc__law_refused : FnScope ["call", "e"] ["call"] (defScope (top 25)) := ⟨rfl, rfl, rfl, by decide +kernel, rfl, by decide +kernel, by decide +kernel⟩
def N_law : List Str := ["script", "row", "turn", "board", "text", "count", "other", "due", "wide", "high", "cells", "odd", "bad", "told", "own"]
def lb_law_1 : DS :=
  (sSeq (sSet 6 (dCallIo f__law_spoiled 1 (daC (dV 4) daN)))
  (sIf (dTst (dOp oLe (daC (dOp oLen (daC (dV 6) daN)) (daC (dC (.int 200)) daN))))
  (sSeq (sSet 7 (dCall f__law_flaw (daC (dV 6) daN)))
  (sSeq (sIf (dOr (dNot (dTru (dCall (f__law_alike 8) (daC (dCall f_flaw (daApp daN (daC (dV 6) daN))) (daC (dV 7) daN))))) (dTst (dOp oNe (daC (dOp oIsN (daC (dCall f_board_of (daC (dV 6) daN)) (daC (dC .none) daN))) (daC (dOp oNotN (daC (dV 7) (daC (dC .none) daN))) daN)))))
  (sRet (dC (.bool false)))
  sNil)
  (sIf (dAnd (dTst (dOp oIsN (daC (dV 7) (daC (dC .none) daN)))) (dTst (dOp oNe (daC (dCall f_drawn (daC (dCall f_board_of (daC (dV 6) daN)) daN)) (daC (dV 6) daN)))))
  (sRet (dC (.bool false)))
  sNil)))
  sNil))
def ct_law_2 : DB :=
  (dTru (dCall f_is_board (daC (dV 14) daN)))
def lb_law_3 : DS :=
  (sSeq (sSet 3 (dCallIo f__law_board 1 (daC (dOp oAdd (daC (dC (.int 1)) (daC (dCallIo f__law_taken 1 (daC (dC (.int 8)) daN)) daN))) (daC (dOp oAdd (daC (dC (.int 1)) (daC (dCallIo f__law_taken 1 (daC (dC (.int 8)) daN)) daN))) (daC (dCallIo f__law_taken 1 (daC (dC (.int 9)) daN)) daN)))))
  (sSeq (sSet 4 (dCall f__law_lines (daC (dV 3) daN)))
  (sSeq (sIf (dOr (dTst (dOp oNe (daC (dCall f_drawn (daApp daN (daC (dV 3) daN))) (daC (dV 4) daN)))) (dOr (dNot (dTru (dCall (f__law_alike 8) (daC (dCall f_board_of (daApp daN (daC (dV 4) daN))) (daC (dV 3) daN))))) (dNot (dTru (dCall f_is_board (daApp daN (daC (dV 3) daN)))))))
  (sRet (dC (.bool false)))
  sNil)
  (sSeq (sFor (dRg1 (daC (dC (.int 3)) daN)) (gN 5) lb_law_1)
  (sSeq (sAsg (gT (gsC (gN 8) (gsC (gN 9) (gsC (gN 10) gsN))) 3) (dV 3))
  (sSeq (sSet 11 (dFz (dLst (daC (dC .none) (daC (dTup (daC (dV 8) (daC (dV 9) daN))) (daC (dLst (daC (dV 8) (daC (dV 9) (daC (dV 10) daN)))) (daC (dTup (daC (dC (.int 0)) (daC (dV 9) (daC (dTup daN) daN)))) (daC (dTup (daC (dC (.int 9)) (daC (dC (.int 1)) (daC (dOp oMul (daC (dTup (daC (dC (.int 0)) daN)) (daC (dC (.int 9)) daN))) daN)))) (daC (dTup (daC (dC (.bool true)) (daC (dV 9) (daC (dV 10) daN)))) (daC (dTup (daC (dV 8) (daC (dV 9) (daC (dOp oAdd (daC (dV 10) (daC (dTup (daC (dC (.int 0)) daN)) daN))) daN)))) (daC (dTup (daC (dV 8) (daC (dV 9) (daC (dOp oList (daC (dV 10) daN)) daN)))) (daC (dTup (daC (dV 8) (daC (dV 9) (daC (dOp oAdd (daC (dOp oSl01 (daC (dV 10) (daC (dOp oNeg (daC (dC (.int 1)) daN)) daN))) (daC (dTup (daC (dC (.int 6)) daN)) daN))) daN)))) (daC (dTup (daC (dV 8) (daC (dV 9) (daC (dOp oAdd (daC (dOp oSl01 (daC (dV 10) (daC (dOp oNeg (daC (dC (.int 1)) daN)) daN))) (daC (dTup (daC (dC (.bool true)) daN)) daN))) daN)))) (daC (dTup (daC (dC (.int 3)) (daC (dC (.int 3)) (daC (dOp oMul (daC (dTup (daC (dC (.int 4)) daN)) (daC (dC (.int 9)) daN))) daN)))) daN))))))))))))))
  (sSeq (sSet 12 (dCallIo f__law_pick 1 (daC (dV 11) daN)))
  (sSeq (sSet 13 (dFz (dLst (daC (dRef "BadArgument" "name" "" (dCall f_drawn (daC (dV 12) daN))) (daC (dRef "BadArgument" "name" "" (dCall f_flaw (daC (dC (.int 5)) daN))) (daC (dRef "BadArgument" "name" "" (dCall f_board_of (daC (dOp oMul (daC (dC (.str ".")) (daC (dC (.int 201)) daN))) daN))) daN))))))
  (sIf (dOr (dTst (dOp oNe (daC (dV 13) (daC (dLst (daC (dC (.str "board")) (daC (dC (.str "text")) (daC (dC (.str "text")) daN)))) daN)))) (dTst (dOp oNe (daC (dLc (dIt (dV 11)) [14] (gN 14) ct_law_2 (dV 14)) (daC (dLst daN) daN)))))
  (sRet (dC (.bool false)))
  sNil)))))))))
def den_law : DS :=
  (sSeq (sSet 1 (dLst (daC (dV 0) (daC (dC (.int 0)) (daC (dC (.int 81017)) (daC (dC (.int 0)) daN))))))
  (sSeq (sFor (dRg1 (daC (dC (.int 40)) daN)) (gN 2) lb_law_3)
  (sRet (dC (.bool true)))))
theorem sc_law : FnScope N_law ["script"] (defScope (top 31)) := ⟨rfl, rfl, rfl, by decide +kernel, rfl, by decide +kernel, by decide +kernel⟩
theorem ok_law {P : Program} {w : World} {K : PySem.W.Frag} {mg : Str → Option Value} {base : Heap} {f cc Pt g : Addr} {fdR : FuncData} {oc kV doc pm ct : Value} {od an : Option Addr} {osl : Array (Option Value)}
    (lk : K.lookup f = some ⟨oc, od, .func (PySem.W.fnOf "law" "law" (defArgs (top 31)) (defBody (top 31)) (defScope (top 31)) .none kV doc pm an (.ref cc) ct), osl⟩) (hcd : PySem.W.codeIn K (.ref cc) "law" = true) (hnl : noListB K = true) (TB : LamX.TabB base mg cc Pt) (Fr : Fun K "_law_refused" "_law_refused" (top 25) g fdR) (br : Binds K fdR ["call"] []) (mr : mg "_law_refused" = some (.ref g))
    (c__law_board : Cq P w K mg base "_law_board" 3 ["row", "wide", "high", "most"] (spP K mg true 4 f__law_board)) (c__law_taken : Cq P w K mg base "_law_taken" 1 ["row", "many"] (spP K mg true 2 f__law_taken)) (c__law_lines : Cq P w K mg base "_law_lines" 1 ["board"] (spP K mg false 1 f__law_lines)) (c__law_alike : Cq P w K mg base "_law_alike" 8 ["found", "due"] (spP K mg false 2 (f__law_alike 8))) (c__law_spoiled : Cq P w K mg base "_law_spoiled" 3 ["row", "text"] (spP K mg true 2 f__law_spoiled)) (c__law_flaw : Cq P w K mg base "_law_flaw" 1 ["text"] (spP K mg false 1 f__law_flaw)) (c_board_of : Cq P w K mg base "board_of" 5 ["text"] (spP K mg false 1 f_board_of)) (c_drawn : Cq P w K mg base "drawn" 5 ["board"] (spP K mg false 1 f_drawn)) (c__law_pick : Cq P w K mg base "_law_pick" 2 ["row", "some"] (spP K mg true 2 f__law_pick)) (c_flaw : Cq P w K mg base "flaw" 4 ["text"] (spP K mg false 1 f_flaw)) (c_is_board : Cq P w K mg base "is_board" 2 ["value"] (spP K mg false 1 f_is_board)) (k_drawn_0 : CKq P w K mg base "drawn" 5 ["board"] (spP K mg false (0 + 1) f_drawn) 0 1 ["board"]) (k_board_of_0 : CKq P w K mg base "board_of" 5 ["text"] (spP K mg false (0 + 1) f_board_of) 0 1 ["text"]) (k_is_board_0 : CKq P w K mg base "is_board" 2 ["value"] (spP K mg false (0 + 1) f_is_board) 0 1 ["value"]) (k_flaw_0 : CKq P w K mg base "flaw" 4 ["text"] (spP K mg false (0 + 1) f_flaw) 0 1 ["text"]) (m_range : mg "range" = none) (m_len : mg "len" = none) (m_list : mg "list" = none) {C_BadArgument : Addr} (e_BadArgument : ExcF K mg "BadArgument" C_BadArgument ["name"])
    (hden : ∀ ns : List Int, ns.length ≤ 63 → (∀ z ∈ ns, Builtin.Int.intBits z ≤ 1048576) → ∃ ρ, den_law (startR false N_law.length [.list (ns.map .int)]) = .rt (.bool true) ρ) :
    FnOk P w K mg base (L2.CX P w) 9 f (PySem.W.fnOf "law" "law" (defArgs (top 31)) (defBody (top 31)) (defScope (top 31)) .none kV doc pm an (.ref cc) ct) ["script"] (spLaw K Pt) := by
  refine law_den2 (k := 8) (N := N_law) den_law lk hcd sc_law hnl hden fun A outer s H E F0 H0 ia hr n0 nH => ?_
  generalize hT : (Pt, (envOfC "law" (defScope (top 31)) s.heap.objs.size f (.ref cc)).qual ++ "<lambda>") = T1
  have hK : (Cfg.mk K mg F0 H0 ia [T1] none).K = K := rfl
  have hmg : (Cfg.mk K mg F0 H0 ia [T1] none).mg = mg := rfl
  have hpin : (Cfg.mk K mg F0 H0 ia [T1] none).pin = none := rfl
  subst hT
  have tk := takes_of (X := cxOf (L2.CX P w) P w K mg base N_law "law" (defScope (top 31)) f (.ref cc) A outer s H E) rfl rfl rfl rfl
  have hx : Passes (L2.CX P w) (cxOf (L2.CX P w) P w K mg base N_law "law" (defScope (top 31)) f (.ref cc) A outer s H E) E := passes_call tk (fun _ _ _ _ h => h)
  have hp : PassesOwn (model P w) (cxOf (L2.CX P w) P w K mg base N_law "law" (defScope (top 31)) f (.ref cc) A outer s H E).A (cxOf (L2.CX P w) P w K mg base N_law "law" (defScope (top 31)) f (.ref cc) A outer s H E).env (cxOf (L2.CX P w) P w K mg base N_law "law" (defScope (top 31)) f (.ref cc) A outer s H E).xe := passes_of rfl
  have hu1 := hr.units
  have hu : (A.deeper (envOfC "law" (defScope (top 31)) s.heap.objs.size f (.ref cc))).units + 65 < cLine := by have := hr.un; omega
  exact (ds_cons (ds_set (.inr hpin) sc_law.nd (dx_lst (da_cons (dx_var 0) (da_cons dx_int (da_cons dx_int (da_cons dx_int da_nil))))))
  (ds_cons (ds_for (.inr hpin) hp rfl (di_rg1 m_range (da_cons dx_int da_nil)) (dg_name (i := 2) sc_law.nd)
  (ds_cons (ds_set (.inr hpin) sc_law.nd (dx_callIo (j := 1) ⟨c__law_board⟩ hK hmg (hr.mono (by decide)) hx (da_cons (dx_bin op_addA vok_add dx_int (dx_callIo (j := 1) ⟨c__law_taken⟩ hK hmg (hr.mono (by decide)) hx (da_cons dx_int da_nil) (daLen_cons daLen_nil))) (da_cons (dx_bin op_addA vok_add dx_int (dx_callIo (j := 1) ⟨c__law_taken⟩ hK hmg (hr.mono (by decide)) hx (da_cons dx_int da_nil) (daLen_cons daLen_nil))) (da_cons (dx_callIo (j := 1) ⟨c__law_taken⟩ hK hmg (hr.mono (by decide)) hx (da_cons dx_int da_nil) (daLen_cons daLen_nil)) da_nil))) (daLen_cons (daLen_cons (daLen_cons daLen_nil)))))
  (ds_cons (ds_set (.inr hpin) sc_law.nd (dx_call ⟨c__law_lines⟩ hK hmg (hr.mono (by decide)) hx (da_cons (dx_var 3) da_nil) (daLen_cons daLen_nil)))
  (ds_cons (ds_if (DTW.t (dw_or (dt_cmp (op_neA hu1) vok_ne (dx_callK0 ⟨k_drawn_0⟩ hK hmg (hr.mono (by decide)) hx (dk_cons (dx_var 3) dk_nil) (daLen_cons daLen_nil)) (dx_var 4)) (dw_or (dt_not (dt_tru (dx_call ⟨c__law_alike⟩ hK hmg (hr.mono (by decide)) hx (da_cons (dx_callK0 ⟨k_board_of_0⟩ hK hmg (hr.mono (by decide)) hx (dk_cons (dx_var 4) dk_nil) (daLen_cons daLen_nil)) (da_cons (dx_var 3) da_nil)) (daLen_cons (daLen_cons daLen_nil))) hK)) (dw_or1 (dt_not (dt_tru (dx_callK0 ⟨k_is_board_0⟩ hK hmg (hr.mono (by decide)) hx (dk_cons (dx_var 3) dk_nil) (daLen_cons daLen_nil)) hK))))))
  (ds_one (ds_ret dx_bl))
  ds_nil)
  (ds_cons (ds_for (.inr hpin) hp rfl (di_rg1 m_range (da_cons dx_int da_nil)) (dg_name (i := 5) sc_law.nd)
  (ds_cons (ds_set (.inr hpin) sc_law.nd (dx_callIo (j := 1) ⟨c__law_spoiled⟩ hK hmg (hr.mono (by decide)) hx (da_cons (dx_var 4) da_nil) (daLen_cons daLen_nil)))
  (ds_one (ds_if (dt_cmp op_le vok_B0 (dx_callB call_len vok_len m_len (da_cons (dx_var 6) da_nil)) dx_int)
  (ds_cons (ds_set (.inr hpin) sc_law.nd (dx_call ⟨c__law_flaw⟩ hK hmg (hr.mono (by decide)) hx (da_cons (dx_var 6) da_nil) (daLen_cons daLen_nil)))
  (ds_cons (ds_if (DTW.t (dw_or (dt_not (dt_tru (dx_call ⟨c__law_alike⟩ hK hmg (hr.mono (by decide)) hx (da_cons (dx_callK0 ⟨k_flaw_0⟩ hK hmg (hr.mono (by decide)) hx (dk_cons (dx_var 6) dk_nil) (daLen_cons daLen_nil)) (da_cons (dx_var 7) da_nil)) (daLen_cons (daLen_cons daLen_nil))) hK)) (dw_or1 (dt_cmp (op_neA hu1) vok_ne (dx_cmp op_isN vok_isN (dx_call ⟨c_board_of⟩ hK hmg (hr.mono (by decide)) hx (da_cons (dx_var 6) da_nil) (daLen_cons daLen_nil)) dx_non) (dx_cmp op_notN vok_notN (dx_var 7) dx_non)))))
  (ds_one (ds_ret dx_bl))
  ds_nil)
  (ds_one (ds_if (DTW.t (dw_and (dt_cmp op_isN vok_isN (dx_var 7) dx_non) (dw_and1 (dt_cmp (op_neA hu1) vok_ne (dx_call ⟨c_drawn⟩ hK hmg (hr.mono (by decide)) hx (da_cons (dx_call ⟨c_board_of⟩ hK hmg (hr.mono (by decide)) hx (da_cons (dx_var 6) da_nil) (daLen_cons daLen_nil)) da_nil) (daLen_cons daLen_nil)) (dx_var 6)))))
  (ds_one (ds_ret dx_bl))
  ds_nil))))
  ds_nil))))
  (ds_cons (ds_asg (.inr hpin) (dx_var 3) (dg_tup hK rfl (dgs_cons (dg_name (i := 8) sc_law.nd) (dgs_cons (dg_name (i := 9) sc_law.nd) (dgs_cons (dg_name (i := 10) sc_law.nd) dgs_nil)))))
  (ds_cons (ds_set (.inr hpin) sc_law.nd (dx_fz (dx_lst (da_cons dx_non (da_cons (dx_tup (da_cons (dx_var 8) (da_cons (dx_var 9) da_nil))) (da_cons (dx_lst (da_cons (dx_var 8) (da_cons (dx_var 9) (da_cons (dx_var 10) da_nil)))) (da_cons (dx_tup (da_cons dx_int (da_cons (dx_var 9) (da_cons (dx_tup da_nil) da_nil)))) (da_cons (dx_tup (da_cons dx_int (da_cons dx_int (da_cons (dx_bin op_mulA vok_mul (dx_tup (da_cons dx_int da_nil)) dx_int) da_nil)))) (da_cons (dx_tup (da_cons dx_bl (da_cons (dx_var 9) (da_cons (dx_var 10) da_nil)))) (da_cons (dx_tup (da_cons (dx_var 8) (da_cons (dx_var 9) (da_cons (dx_bin op_addA vok_add (dx_var 10) (dx_tup (da_cons dx_int da_nil))) da_nil)))) (da_cons (dx_tup (da_cons (dx_var 8) (da_cons (dx_var 9) (da_cons (dx_callTy call_list_of vok_list m_list (da_cons (dx_var 10) da_nil)) da_nil)))) (da_cons (dx_tup (da_cons (dx_var 8) (da_cons (dx_var 9) (da_cons (dx_bin op_addA vok_add (dx_sl01 hK (dx_var 10) (dx_un un_neg vok_U dx_int)) (dx_tup (da_cons dx_int da_nil))) da_nil)))) (da_cons (dx_tup (da_cons (dx_var 8) (da_cons (dx_var 9) (da_cons (dx_bin op_addA vok_add (dx_sl01 hK (dx_var 10) (dx_un un_neg vok_U dx_int)) (dx_tup (da_cons dx_bl da_nil))) da_nil)))) (da_cons (dx_tup (da_cons dx_int (da_cons dx_int (da_cons (dx_bin op_mulA vok_mul (dx_tup (da_cons dx_int da_nil)) dx_int) da_nil)))) da_nil))))))))))))))
  (ds_cons (ds_set (.inr hpin) sc_law.nd (dx_callIo (j := 1) ⟨c__law_pick⟩ hK hmg (hr.mono (by decide)) hx (da_cons (dx_var 11) da_nil) (daLen_cons daLen_nil)))
  (ds_cons (ds_set (.inr hpin) sc_law.nd (dx_fz (dx_lst (da_cons (dx_ref (k := 5) Fr br mr sc__law_refused rfl e_BadArgument hK hmg n0 nH rfl TB rfl (hr.mono (by decide)) (fun A outer s H E f c' hrL => (dx_call ⟨c_drawn⟩ hK hmg (hrL.mono (by decide)) (passes_call (takes_of rfl rfl rfl rfl) (fun _ _ _ _ h => h)) (da_cons (dx_var 12) da_nil) (daLen_cons daLen_nil)))) (da_cons (dx_ref (k := 4) Fr br mr sc__law_refused rfl e_BadArgument hK hmg n0 nH rfl TB rfl (hr.mono (by decide)) (fun A outer s H E f c' hrL => (dx_call ⟨c_flaw⟩ hK hmg (hrL.mono (by decide)) (passes_call (takes_of rfl rfl rfl rfl) (fun _ _ _ _ h => h)) (da_cons dx_int da_nil) (daLen_cons daLen_nil)))) (da_cons (dx_ref (k := 5) Fr br mr sc__law_refused rfl e_BadArgument hK hmg n0 nH rfl TB rfl (hr.mono (by decide)) (fun A outer s H E f c' hrL => (dx_call ⟨c_board_of⟩ hK hmg (hrL.mono (by decide)) (passes_call (takes_of rfl rfl rfl rfl) (fun _ _ _ _ h => h)) (da_cons (dx_bin op_mulA vok_mul dx_str dx_int) da_nil) (daLen_cons daLen_nil)))) da_nil))))))
  (ds_one (ds_if (DTW.t (dw_or (dt_cmp (op_neA hu1) vok_ne (dx_var 13) (dx_lst (da_cons dx_str (da_cons dx_str (da_cons dx_str da_nil))))) (dw_or1 (dt_cmp (op_neA hu1) vok_ne (dx_lc (own := [("own", 14)]) rfl sc_law.nd (di_any hK (dx_var 11)) (fun _ _ _ _ _ => (dg_name (i := 14) sc_law.nd)) (bt_one fun _ _ _ _ _ => (dt_tru (dx_call ⟨c_is_board⟩ hK hmg (hr.mono (by decide)) passL (da_cons (dx_var 14) da_nil) (daLen_cons daLen_nil)) hK)) (fun _ _ _ _ _ => (dx_var 14)) (blkOk_by (by kernel_rfl))) (dx_lst da_nil)))))
  (ds_one (ds_ret dx_bl))
  ds_nil)))))))))))
  (ds_one (ds_ret dx_bl))))
theorem scI_BadArgument : FnScope ["self", "name"] ["self", "name"] (defScope (inClass (top 1) 0)) := ⟨rfl, rfl, rfl, by decide +kernel, rfl, by decide +kernel, by decide +kernel⟩
theorem scI_Flaw : FnScope ["self", "place", "message"] ["self", "place", "message"] (defScope (inClass (top 2) 0)) := ⟨rfl, rfl, rfl, by decide +kernel, rfl, by decide +kernel, by decide +kernel⟩
theorem all_mk {l : PySem.W.OpenLaw} {w : World} {K : PySem.W.Frag} {h : Heap} {mg : Str → Option Value} {fa : Addr} (X : K.In h) (G : h.Ns mainGlobals mg) (hfa : mg "law" = some (.ref fa)) (own : LamX.OwnTab K fa h)
    (hden : ∀ ns : List Int, ns.length ≤ 63 → (∀ z ∈ ns, Builtin.Int.intBits z ≤ 1048576) → ∃ ρ, den_law (startR false N_law.length [.list (ns.map .int)]) = .rt (.bool true) ρ)
    {qa_is_whole : Addr} {od_is_whole an_is_whole : Option Addr} {sl_is_whole : Array (Option Value)} {oc_is_whole kV_is_whole dc_is_whole pm_is_whole cd_is_whole ct_is_whole : Value}
    {qa_parters : Addr} {od_parters an_parters : Option Addr} {sl_parters : Array (Option Value)} {oc_parters kV_parters dc_parters pm_parters cd_parters ct_parters : Value}
    {qa_is_board : Addr} {od_is_board an_is_board : Option Addr} {sl_is_board : Array (Option Value)} {oc_is_board kV_is_board dc_is_board pm_is_board cd_is_board ct_is_board : Value}
    {qa_need : Addr} {od_need an_need : Option Addr} {sl_need : Array (Option Value)} {oc_need kV_need dc_need pm_need cd_need ct_need : Value}
    {qa_need_board : Addr} {od_need_board an_need_board : Option Addr} {sl_need_board : Array (Option Value)} {oc_need_board kV_need_board dc_need_board pm_need_board cd_need_board ct_need_board : Value}
    {qa_drawn : Addr} {od_drawn an_drawn : Option Addr} {sl_drawn : Array (Option Value)} {oc_drawn kV_drawn dc_drawn pm_drawn cd_drawn ct_drawn : Value}
    {qa_is_text : Addr} {od_is_text an_is_text : Option Addr} {sl_is_text : Array (Option Value)} {oc_is_text kV_is_text dc_is_text pm_is_text cd_is_text ct_is_text : Value}
    {qa_board_in : Addr} {od_board_in an_board_in : Option Addr} {sl_board_in : Array (Option Value)} {oc_board_in kV_board_in dc_board_in pm_board_in cd_board_in ct_board_in : Value}
    {qa_flaw : Addr} {od_flaw an_flaw : Option Addr} {sl_flaw : Array (Option Value)} {oc_flaw kV_flaw dc_flaw pm_flaw cd_flaw ct_flaw : Value}
    {qa_board_of : Addr} {od_board_of an_board_of : Option Addr} {sl_board_of : Array (Option Value)} {oc_board_of kV_board_of dc_board_of pm_board_of cd_board_of ct_board_of : Value}
    {qa__law_taken : Addr} {od__law_taken an__law_taken : Option Addr} {sl__law_taken : Array (Option Value)} {oc__law_taken kV__law_taken dc__law_taken pm__law_taken cd__law_taken ct__law_taken : Value}
    {qa__law_pick : Addr} {od__law_pick an__law_pick : Option Addr} {sl__law_pick : Array (Option Value)} {oc__law_pick kV__law_pick dc__law_pick pm__law_pick cd__law_pick ct__law_pick : Value}
    {qa__law_alike : Addr} {od__law_alike an__law_alike : Option Addr} {sl__law_alike : Array (Option Value)} {oc__law_alike kV__law_alike dc__law_alike pm__law_alike cd__law_alike ct__law_alike : Value}
    {qa__law_board : Addr} {od__law_board an__law_board : Option Addr} {sl__law_board : Array (Option Value)} {oc__law_board kV__law_board dc__law_board pm__law_board cd__law_board ct__law_board : Value}
    {qa__law_lines : Addr} {od__law_lines an__law_lines : Option Addr} {sl__law_lines : Array (Option Value)} {oc__law_lines kV__law_lines dc__law_lines pm__law_lines cd__law_lines ct__law_lines : Value}
    {qa__law_flaw : Addr} {od__law_flaw an__law_flaw : Option Addr} {sl__law_flaw : Array (Option Value)} {oc__law_flaw kV__law_flaw dc__law_flaw pm__law_flaw cd__law_flaw ct__law_flaw : Value}
    {qa__law_spoiled : Addr} {od__law_spoiled an__law_spoiled : Option Addr} {sl__law_spoiled : Array (Option Value)} {oc__law_spoiled kV__law_spoiled dc__law_spoiled pm__law_spoiled cd__law_spoiled ct__law_spoiled : Value}
    {qa__law_refused : Addr} {od__law_refused an__law_refused : Option Addr} {sl__law_refused : Array (Option Value)} {oc__law_refused kV__law_refused dc__law_refused pm__law_refused cd__law_refused ct__law_refused : Value}
    {fl cc Pt : Addr} {odl anl : Option Addr} {sll : Array (Option Value)} {ocl kVl dcl pml ctl ec : Value} {ddc : Option Addr} {vsc : Array Value} {slc : Array (Option Value)}
    {u_END : Value}
    {u_MOST_SIDE : Value}
    {u_EMPTY : Value}
    {u_PART_BACKSLASH : Value}
    {u_MOST_PARTERS : Value}
    {u_SIGNS : Value}
    {u_MOST_TEXT : Value}
    {CBadArgument NBadArgument : Addr} {nmBadArgument qBadArgument : Str} {bsBadArgument subBadArgument : List Value} {snBadArgument : List Str} {abBadArgument : Bool} {colBadArgument : Option Bool} {ddBadArgument : Option Addr} {m0BadArgument m1BadArgument m2BadArgument m3BadArgument m5BadArgument : Option Value}
    {qaI_BadArgument : Addr} {odI_BadArgument anI_BadArgument : Option Addr} {slI_BadArgument : Array (Option Value)} {ocI_BadArgument kVI_BadArgument dcI_BadArgument pmI_BadArgument cdI_BadArgument ctI_BadArgument : Value}
    {CFlaw NFlaw : Addr} {nmFlaw qFlaw : Str} {bsFlaw subFlaw : List Value} {snFlaw : List Str} {abFlaw : Bool} {colFlaw : Option Bool} {ddFlaw : Option Addr} {m0Flaw m1Flaw m2Flaw m3Flaw m5Flaw : Option Value}
    {qaI_Flaw : Addr} {odI_Flaw anI_Flaw : Option Addr} {slI_Flaw : Array (Option Value)} {ocI_Flaw kVI_Flaw dcI_Flaw pmI_Flaw cdI_Flaw ctI_Flaw : Value}
    (a_is_whole : PySem.W.nsIn K mainGlobals "is_whole" = some (some (.ref qa_is_whole)))
    (l_is_whole : K.lookup qa_is_whole = some ⟨oc_is_whole, od_is_whole, .func (PySem.W.fnOf "is_whole" "is_whole" (defArgs (top 9)) (defBody (top 9)) (defScope (top 9)) .none kV_is_whole dc_is_whole pm_is_whole an_is_whole cd_is_whole ct_is_whole), sl_is_whole⟩)
    (c_is_whole : PySem.W.codeIn K cd_is_whole "is_whole" = true)
    (k_is_whole : PySem.W.keepIn K (.ref qa_is_whole) = true)
    (a_parters : PySem.W.nsIn K mainGlobals "parters" = some (some (.ref qa_parters)))
    (l_parters : K.lookup qa_parters = some ⟨oc_parters, od_parters, .func (PySem.W.fnOf "parters" "parters" (defArgs (top 10)) (defBody (top 10)) (defScope (top 10)) .none kV_parters dc_parters pm_parters an_parters cd_parters ct_parters), sl_parters⟩)
    (c_parters : PySem.W.codeIn K cd_parters "parters" = true)
    (k_parters : PySem.W.keepIn K (.ref qa_parters) = true)
    (a_is_board : PySem.W.nsIn K mainGlobals "is_board" = some (some (.ref qa_is_board)))
    (l_is_board : K.lookup qa_is_board = some ⟨oc_is_board, od_is_board, .func (PySem.W.fnOf "is_board" "is_board" (defArgs (top 11)) (defBody (top 11)) (defScope (top 11)) .none kV_is_board dc_is_board pm_is_board an_is_board cd_is_board ct_is_board), sl_is_board⟩)
    (c_is_board : PySem.W.codeIn K cd_is_board "is_board" = true)
    (k_is_board : PySem.W.keepIn K (.ref qa_is_board) = true)
    (a_need : PySem.W.nsIn K mainGlobals "need" = some (some (.ref qa_need)))
    (l_need : K.lookup qa_need = some ⟨oc_need, od_need, .func (PySem.W.fnOf "need" "need" (defArgs (top 12)) (defBody (top 12)) (defScope (top 12)) .none kV_need dc_need pm_need an_need cd_need ct_need), sl_need⟩)
    (c_need : PySem.W.codeIn K cd_need "need" = true)
    (k_need : PySem.W.keepIn K (.ref qa_need) = true)
    (a_need_board : PySem.W.nsIn K mainGlobals "need_board" = some (some (.ref qa_need_board)))
    (l_need_board : K.lookup qa_need_board = some ⟨oc_need_board, od_need_board, .func (PySem.W.fnOf "need_board" "need_board" (defArgs (top 13)) (defBody (top 13)) (defScope (top 13)) .none kV_need_board dc_need_board pm_need_board an_need_board cd_need_board ct_need_board), sl_need_board⟩)
    (c_need_board : PySem.W.codeIn K cd_need_board "need_board" = true)
    (k_need_board : PySem.W.keepIn K (.ref qa_need_board) = true)
    (a_drawn : PySem.W.nsIn K mainGlobals "drawn" = some (some (.ref qa_drawn)))
    (l_drawn : K.lookup qa_drawn = some ⟨oc_drawn, od_drawn, .func (PySem.W.fnOf "drawn" "drawn" (defArgs (top 17)) (defBody (top 17)) (defScope (top 17)) .none kV_drawn dc_drawn pm_drawn an_drawn cd_drawn ct_drawn), sl_drawn⟩)
    (c_drawn : PySem.W.codeIn K cd_drawn "drawn" = true)
    (k_drawn : PySem.W.keepIn K (.ref qa_drawn) = true)
    (a_is_text : PySem.W.nsIn K mainGlobals "is_text" = some (some (.ref qa_is_text)))
    (l_is_text : K.lookup qa_is_text = some ⟨oc_is_text, od_is_text, .func (PySem.W.fnOf "is_text" "is_text" (defArgs (top 18)) (defBody (top 18)) (defScope (top 18)) .none kV_is_text dc_is_text pm_is_text an_is_text cd_is_text ct_is_text), sl_is_text⟩)
    (c_is_text : PySem.W.codeIn K cd_is_text "is_text" = true)
    (k_is_text : PySem.W.keepIn K (.ref qa_is_text) = true)
    (a_board_in : PySem.W.nsIn K mainGlobals "board_in" = some (some (.ref qa_board_in)))
    (l_board_in : K.lookup qa_board_in = some ⟨oc_board_in, od_board_in, .func (PySem.W.fnOf "board_in" "board_in" (defArgs (top 19)) (defBody (top 19)) (defScope (top 19)) .none kV_board_in dc_board_in pm_board_in an_board_in cd_board_in ct_board_in), sl_board_in⟩)
    (c_board_in : PySem.W.codeIn K cd_board_in "board_in" = true)
    (k_board_in : PySem.W.keepIn K (.ref qa_board_in) = true)
    (a_flaw : PySem.W.nsIn K mainGlobals "flaw" = some (some (.ref qa_flaw)))
    (l_flaw : K.lookup qa_flaw = some ⟨oc_flaw, od_flaw, .func (PySem.W.fnOf "flaw" "flaw" (defArgs (top 20)) (defBody (top 20)) (defScope (top 20)) .none kV_flaw dc_flaw pm_flaw an_flaw cd_flaw ct_flaw), sl_flaw⟩)
    (c_flaw : PySem.W.codeIn K cd_flaw "flaw" = true)
    (k_flaw : PySem.W.keepIn K (.ref qa_flaw) = true)
    (a_board_of : PySem.W.nsIn K mainGlobals "board_of" = some (some (.ref qa_board_of)))
    (l_board_of : K.lookup qa_board_of = some ⟨oc_board_of, od_board_of, .func (PySem.W.fnOf "board_of" "board_of" (defArgs (top 21)) (defBody (top 21)) (defScope (top 21)) .none kV_board_of dc_board_of pm_board_of an_board_of cd_board_of ct_board_of), sl_board_of⟩)
    (c_board_of : PySem.W.codeIn K cd_board_of "board_of" = true)
    (k_board_of : PySem.W.keepIn K (.ref qa_board_of) = true)
    (a__law_taken : PySem.W.nsIn K mainGlobals "_law_taken" = some (some (.ref qa__law_taken)))
    (l__law_taken : K.lookup qa__law_taken = some ⟨oc__law_taken, od__law_taken, .func (PySem.W.fnOf "_law_taken" "_law_taken" (defArgs (top 23)) (defBody (top 23)) (defScope (top 23)) .none kV__law_taken dc__law_taken pm__law_taken an__law_taken cd__law_taken ct__law_taken), sl__law_taken⟩)
    (c__law_taken : PySem.W.codeIn K cd__law_taken "_law_taken" = true)
    (k__law_taken : PySem.W.keepIn K (.ref qa__law_taken) = true)
    (a__law_pick : PySem.W.nsIn K mainGlobals "_law_pick" = some (some (.ref qa__law_pick)))
    (l__law_pick : K.lookup qa__law_pick = some ⟨oc__law_pick, od__law_pick, .func (PySem.W.fnOf "_law_pick" "_law_pick" (defArgs (top 24)) (defBody (top 24)) (defScope (top 24)) .none kV__law_pick dc__law_pick pm__law_pick an__law_pick cd__law_pick ct__law_pick), sl__law_pick⟩)
    (c__law_pick : PySem.W.codeIn K cd__law_pick "_law_pick" = true)
    (k__law_pick : PySem.W.keepIn K (.ref qa__law_pick) = true)
    (a__law_alike : PySem.W.nsIn K mainGlobals "_law_alike" = some (some (.ref qa__law_alike)))
    (l__law_alike : K.lookup qa__law_alike = some ⟨oc__law_alike, od__law_alike, .func (PySem.W.fnOf "_law_alike" "_law_alike" (defArgs (top 26)) (defBody (top 26)) (defScope (top 26)) .none kV__law_alike dc__law_alike pm__law_alike an__law_alike cd__law_alike ct__law_alike), sl__law_alike⟩)
    (c__law_alike : PySem.W.codeIn K cd__law_alike "_law_alike" = true)
    (k__law_alike : PySem.W.keepIn K (.ref qa__law_alike) = true)
    (a__law_board : PySem.W.nsIn K mainGlobals "_law_board" = some (some (.ref qa__law_board)))
    (l__law_board : K.lookup qa__law_board = some ⟨oc__law_board, od__law_board, .func (PySem.W.fnOf "_law_board" "_law_board" (defArgs (top 27)) (defBody (top 27)) (defScope (top 27)) .none kV__law_board dc__law_board pm__law_board an__law_board cd__law_board ct__law_board), sl__law_board⟩)
    (c__law_board : PySem.W.codeIn K cd__law_board "_law_board" = true)
    (k__law_board : PySem.W.keepIn K (.ref qa__law_board) = true)
    (a__law_lines : PySem.W.nsIn K mainGlobals "_law_lines" = some (some (.ref qa__law_lines)))
    (l__law_lines : K.lookup qa__law_lines = some ⟨oc__law_lines, od__law_lines, .func (PySem.W.fnOf "_law_lines" "_law_lines" (defArgs (top 28)) (defBody (top 28)) (defScope (top 28)) .none kV__law_lines dc__law_lines pm__law_lines an__law_lines cd__law_lines ct__law_lines), sl__law_lines⟩)
    (c__law_lines : PySem.W.codeIn K cd__law_lines "_law_lines" = true)
    (k__law_lines : PySem.W.keepIn K (.ref qa__law_lines) = true)
    (a__law_flaw : PySem.W.nsIn K mainGlobals "_law_flaw" = some (some (.ref qa__law_flaw)))
    (l__law_flaw : K.lookup qa__law_flaw = some ⟨oc__law_flaw, od__law_flaw, .func (PySem.W.fnOf "_law_flaw" "_law_flaw" (defArgs (top 29)) (defBody (top 29)) (defScope (top 29)) .none kV__law_flaw dc__law_flaw pm__law_flaw an__law_flaw cd__law_flaw ct__law_flaw), sl__law_flaw⟩)
    (c__law_flaw : PySem.W.codeIn K cd__law_flaw "_law_flaw" = true)
    (k__law_flaw : PySem.W.keepIn K (.ref qa__law_flaw) = true)
    (a__law_spoiled : PySem.W.nsIn K mainGlobals "_law_spoiled" = some (some (.ref qa__law_spoiled)))
    (l__law_spoiled : K.lookup qa__law_spoiled = some ⟨oc__law_spoiled, od__law_spoiled, .func (PySem.W.fnOf "_law_spoiled" "_law_spoiled" (defArgs (top 30)) (defBody (top 30)) (defScope (top 30)) .none kV__law_spoiled dc__law_spoiled pm__law_spoiled an__law_spoiled cd__law_spoiled ct__law_spoiled), sl__law_spoiled⟩)
    (c__law_spoiled : PySem.W.codeIn K cd__law_spoiled "_law_spoiled" = true)
    (k__law_spoiled : PySem.W.keepIn K (.ref qa__law_spoiled) = true)
    (a__law_refused : PySem.W.nsIn K mainGlobals "_law_refused" = some (some (.ref qa__law_refused)))
    (l__law_refused : K.lookup qa__law_refused = some ⟨oc__law_refused, od__law_refused, .func (PySem.W.fnOf "_law_refused" "_law_refused" (defArgs (top 25)) (defBody (top 25)) (defScope (top 25)) .none kV__law_refused dc__law_refused pm__law_refused an__law_refused cd__law_refused ct__law_refused), sl__law_refused⟩)
    (c__law_refused : PySem.W.codeIn K cd__law_refused "_law_refused" = true)
    (k__law_refused : PySem.W.keepIn K (.ref qa__law_refused) = true)
    (al : PySem.W.nsIn K mainGlobals "law" = some (some (.ref fl)))
    (ll : K.lookup fl = some ⟨ocl, odl, .func (PySem.W.fnOf "law" "law" (defArgs (top 31)) (defBody (top 31)) (defScope (top 31)) .none kVl dcl pml anl (.ref cc) ctl), sll⟩)
    (cl : PySem.W.codeIn K (.ref cc) "law" = true)
    (lc : K.lookup cc = some ⟨ec, ddc, .fields vsc, slc⟩)
    (l11 : vsc[11]? = some (.ref Pt))
    (hcd : PySem.W.codeHdIn K cc Pt = true)
    (nP : K.lookup Pt = none)
    (hnl : noListB K = true)
    (z_isinstance : PySem.W.nsIn K mainGlobals "isinstance" = some none)
    (z_int : PySem.W.nsIn K mainGlobals "int" = some none)
    (z_bool : PySem.W.nsIn K mainGlobals "bool" = some none)
    (z_len : PySem.W.nsIn K mainGlobals "len" = some none)
    (z_tuple : PySem.W.nsIn K mainGlobals "tuple" = some none)
    (z_all : PySem.W.nsIn K mainGlobals "all" = some none)
    (z_range : PySem.W.nsIn K mainGlobals "range" = some none)
    (z_str : PySem.W.nsIn K mainGlobals "str" = some none)
    (z_enumerate : PySem.W.nsIn K mainGlobals "enumerate" = some none)
    (z_list : PySem.W.nsIn K mainGlobals "list" = some none)
    (g_END_ : PySem.W.nsIn K mainGlobals "END" = some (some u_END))
    (r_END : RelV (.int (3)) u_END)
    (g_MOST_SIDE_ : PySem.W.nsIn K mainGlobals "MOST_SIDE" = some (some u_MOST_SIDE))
    (r_MOST_SIDE : RelV (.int (8)) u_MOST_SIDE)
    (g_EMPTY_ : PySem.W.nsIn K mainGlobals "EMPTY" = some (some u_EMPTY))
    (r_EMPTY : RelV (.int (0)) u_EMPTY)
    (g_PART_BACKSLASH_ : PySem.W.nsIn K mainGlobals "PART_BACKSLASH" = some (some u_PART_BACKSLASH))
    (r_PART_BACKSLASH : RelV (.int (5)) u_PART_BACKSLASH)
    (g_MOST_PARTERS_ : PySem.W.nsIn K mainGlobals "MOST_PARTERS" = some (some u_MOST_PARTERS))
    (r_MOST_PARTERS : RelV (.int (8)) u_MOST_PARTERS)
    (g_SIGNS_ : PySem.W.nsIn K mainGlobals "SIGNS" = some (some u_SIGNS))
    (r_SIGNS : RelV (.str "./\\#zs") u_SIGNS)
    (g_MOST_TEXT_ : PySem.W.nsIn K mainGlobals "MOST_TEXT" = some (some u_MOST_TEXT))
    (r_MOST_TEXT : RelV (.int (200)) u_MOST_TEXT)
    (aCBadArgument : PySem.W.nsIn K mainGlobals "BadArgument" = some (some (.ref CBadArgument)))
    (xLBadArgument : K.lookup CBadArgument = some (excClassObj nmBadArgument qBadArgument CBadArgument NBadArgument bsBadArgument [.type "ValueError", .type "Exception", .type "BaseException", .type "object"] true snBadArgument subBadArgument abBadArgument colBadArgument ddBadArgument m0BadArgument m1BadArgument m2BadArgument m3BadArgument m5BadArgument "ValueError.__new__"))
    (saBadArgument : PySem.W.findIn K (.ref CBadArgument) "__setattr__" = some (some (.builtin "object.__setattr__")))
    (gaBadArgument : PySem.W.findIn K (.ref CBadArgument) "__getattribute__" = some (some (.builtin "BaseException.__getattribute__")))
    (ggBadArgument : PySem.W.findIn K (.ref CBadArgument) "__getattr__" = some none)
    (nbBadArgumentname : PySem.W.findIn K (.ref CBadArgument) "name" = some none)
    (iIBadArgument : PySem.W.findIn K (.ref CBadArgument) "__init__" = some (some (.ref qaI_BadArgument)))
    (lI_BadArgument : K.lookup qaI_BadArgument = some ⟨ocI_BadArgument, odI_BadArgument, .func (PySem.W.fnOf "__init__" "BadArgument.__init__" (defArgs (inClass (top 1) 0)) (defBody (inClass (top 1) 0)) (defScope (inClass (top 1) 0)) .none kVI_BadArgument dcI_BadArgument pmI_BadArgument anI_BadArgument cdI_BadArgument ctI_BadArgument), slI_BadArgument⟩)
    (cI_BadArgument : PySem.W.codeIn K cdI_BadArgument "BadArgument.__init__" = true)
    (kI_BadArgument : PySem.W.keepIn K (.ref qaI_BadArgument) = true)
    (tIBadArgument : PySem.W.typeIn K (.ref qaI_BadArgument) = some (.type "function"))
    (kCBadArgument : PySem.W.keepIn K (.ref CBadArgument) = true)
    (eCBadArgument : PySem.W.subIn K (.ref CBadArgument) (.type "BaseException") = some true)
    (tCBadArgument : PySem.W.typeIn K (.ref CBadArgument) = some (.type "type"))
    (hCBadArgument : PySem.W.hasDictIn K CBadArgument = true)
    (iCBadArgument : PySem.W.isClsIn K CBadArgument = true)
    (sCBadArgument : PySem.W.subIn K (.ref CBadArgument) (.ref CBadArgument) = some true)
    (aCFlaw : PySem.W.nsIn K mainGlobals "Flaw" = some (some (.ref CFlaw)))
    (xLFlaw : K.lookup CFlaw = some (excClassObj nmFlaw qFlaw CFlaw NFlaw bsFlaw [.type "ValueError", .type "Exception", .type "BaseException", .type "object"] true snFlaw subFlaw abFlaw colFlaw ddFlaw m0Flaw m1Flaw m2Flaw m3Flaw m5Flaw "ValueError.__new__"))
    (saFlaw : PySem.W.findIn K (.ref CFlaw) "__setattr__" = some (some (.builtin "object.__setattr__")))
    (gaFlaw : PySem.W.findIn K (.ref CFlaw) "__getattribute__" = some (some (.builtin "BaseException.__getattribute__")))
    (ggFlaw : PySem.W.findIn K (.ref CFlaw) "__getattr__" = some none)
    (nbFlawplace : PySem.W.findIn K (.ref CFlaw) "place" = some none)
    (nbFlawmessage : PySem.W.findIn K (.ref CFlaw) "message" = some none)
    (iIFlaw : PySem.W.findIn K (.ref CFlaw) "__init__" = some (some (.ref qaI_Flaw)))
    (lI_Flaw : K.lookup qaI_Flaw = some ⟨ocI_Flaw, odI_Flaw, .func (PySem.W.fnOf "__init__" "Flaw.__init__" (defArgs (inClass (top 2) 0)) (defBody (inClass (top 2) 0)) (defScope (inClass (top 2) 0)) .none kVI_Flaw dcI_Flaw pmI_Flaw anI_Flaw cdI_Flaw ctI_Flaw), slI_Flaw⟩)
    (cI_Flaw : PySem.W.codeIn K cdI_Flaw "Flaw.__init__" = true)
    (kI_Flaw : PySem.W.keepIn K (.ref qaI_Flaw) = true)
    (tIFlaw : PySem.W.typeIn K (.ref qaI_Flaw) = some (.type "function"))
    (kCFlaw : PySem.W.keepIn K (.ref CFlaw) = true)
    (eCFlaw : PySem.W.subIn K (.ref CFlaw) (.type "BaseException") = some true)
    (tCFlaw : PySem.W.typeIn K (.ref CFlaw) = some (.type "type"))
    (hCFlaw : PySem.W.hasDictIn K CFlaw = true)
    (iCFlaw : PySem.W.isClsIn K CFlaw = true)
    (sCFlaw : PySem.W.subIn K (.ref CFlaw) (.ref CFlaw) = some true) :
    LamX.LawAtS l w K (L2.CX l.prog w) 9 63 "script" mg fa h := by
  have e := hfa.symm.trans (PySem.W.mg_of X G al)
  cases e
  have F_is_whole := fun_mk (st := top 9) l_is_whole c_is_whole k_is_whole
  have b_is_whole := F_is_whole.binds (ps := ["value", "low", "high"]) fun _ _ _ _ _ _ us hl => match us, hl with | [_, _, _], _ => rfl
  have M_is_whole := PySem.W.mg_of X G a_is_whole
  have F_parters := fun_mk (st := top 10) l_parters c_parters k_parters
  have b_parters := F_parters.binds (ps := ["cells"]) fun _ _ _ _ _ _ us hl => match us, hl with | [_], _ => rfl
  have M_parters := PySem.W.mg_of X G a_parters
  have F_is_board := fun_mk (st := top 11) l_is_board c_is_board k_is_board
  have b_is_board := F_is_board.binds (ps := ["value"]) fun _ _ _ _ _ _ us hl => match us, hl with | [_], _ => rfl
  have M_is_board := PySem.W.mg_of X G a_is_board
  have F_need := fun_mk (st := top 12) l_need c_need k_need
  have b_need := F_need.binds (ps := ["is_right", "name"]) fun _ _ _ _ _ _ us hl => match us, hl with | [_, _], _ => rfl
  have M_need := PySem.W.mg_of X G a_need
  have F_need_board := fun_mk (st := top 13) l_need_board c_need_board k_need_board
  have b_need_board := F_need_board.binds (ps := ["value", "name"]) fun _ _ _ _ _ _ us hl => match us, hl with | [_, _], _ => rfl
  have M_need_board := PySem.W.mg_of X G a_need_board
  have F_drawn := fun_mk (st := top 17) l_drawn c_drawn k_drawn
  have b_drawn := F_drawn.binds (ps := ["board"]) fun _ _ _ _ _ _ us hl => match us, hl with | [_], _ => rfl
  have M_drawn := PySem.W.mg_of X G a_drawn
  have F_is_text := fun_mk (st := top 18) l_is_text c_is_text k_is_text
  have b_is_text := F_is_text.binds (ps := ["value"]) fun _ _ _ _ _ _ us hl => match us, hl with | [_], _ => rfl
  have M_is_text := PySem.W.mg_of X G a_is_text
  have F_board_in := fun_mk (st := top 19) l_board_in c_board_in k_board_in
  have b_board_in := F_board_in.binds (ps := ["text"]) fun _ _ _ _ _ _ us hl => match us, hl with | [_], _ => rfl
  have M_board_in := PySem.W.mg_of X G a_board_in
  have F_flaw := fun_mk (st := top 20) l_flaw c_flaw k_flaw
  have b_flaw := F_flaw.binds (ps := ["text"]) fun _ _ _ _ _ _ us hl => match us, hl with | [_], _ => rfl
  have M_flaw := PySem.W.mg_of X G a_flaw
  have F_board_of := fun_mk (st := top 21) l_board_of c_board_of k_board_of
  have b_board_of := F_board_of.binds (ps := ["text"]) fun _ _ _ _ _ _ us hl => match us, hl with | [_], _ => rfl
  have M_board_of := PySem.W.mg_of X G a_board_of
  have F__law_taken := fun_mk (st := top 23) l__law_taken c__law_taken k__law_taken
  have b__law_taken := F__law_taken.binds (ps := ["row", "many"]) fun _ _ _ _ _ _ us hl => match us, hl with | [_, _], _ => rfl
  have M__law_taken := PySem.W.mg_of X G a__law_taken
  have F__law_pick := fun_mk (st := top 24) l__law_pick c__law_pick k__law_pick
  have b__law_pick := F__law_pick.binds (ps := ["row", "some"]) fun _ _ _ _ _ _ us hl => match us, hl with | [_, _], _ => rfl
  have M__law_pick := PySem.W.mg_of X G a__law_pick
  have F__law_alike := fun_mk (st := top 26) l__law_alike c__law_alike k__law_alike
  have b__law_alike := F__law_alike.binds (ps := ["found", "due"]) fun _ _ _ _ _ _ us hl => match us, hl with | [_, _], _ => rfl
  have M__law_alike := PySem.W.mg_of X G a__law_alike
  have F__law_board := fun_mk (st := top 27) l__law_board c__law_board k__law_board
  have b__law_board := F__law_board.binds (ps := ["row", "wide", "high", "most"]) fun _ _ _ _ _ _ us hl => match us, hl with | [_, _, _, _], _ => rfl
  have M__law_board := PySem.W.mg_of X G a__law_board
  have F__law_lines := fun_mk (st := top 28) l__law_lines c__law_lines k__law_lines
  have b__law_lines := F__law_lines.binds (ps := ["board"]) fun _ _ _ _ _ _ us hl => match us, hl with | [_], _ => rfl
  have M__law_lines := PySem.W.mg_of X G a__law_lines
  have F__law_flaw := fun_mk (st := top 29) l__law_flaw c__law_flaw k__law_flaw
  have b__law_flaw := F__law_flaw.binds (ps := ["text"]) fun _ _ _ _ _ _ us hl => match us, hl with | [_], _ => rfl
  have M__law_flaw := PySem.W.mg_of X G a__law_flaw
  have F__law_spoiled := fun_mk (st := top 30) l__law_spoiled c__law_spoiled k__law_spoiled
  have b__law_spoiled := F__law_spoiled.binds (ps := ["row", "text"]) fun _ _ _ _ _ _ us hl => match us, hl with | [_, _], _ => rfl
  have M__law_spoiled := PySem.W.mg_of X G a__law_spoiled
  have F__law_refused := fun_mk (st := top 25) l__law_refused c__law_refused k__law_refused
  have b__law_refused := F__law_refused.binds (ps := ["call"]) fun _ _ _ _ _ _ us hl => match us, hl with | [_], _ => rfl
  have M__law_refused := PySem.W.mg_of X G a__law_refused
  have Z_isinstance := PySem.W.mg_none_of X G z_isinstance
  have Z_int := PySem.W.mg_none_of X G z_int
  have Z_bool := PySem.W.mg_none_of X G z_bool
  have Z_len := PySem.W.mg_none_of X G z_len
  have Z_tuple := PySem.W.mg_none_of X G z_tuple
  have Z_all := PySem.W.mg_none_of X G z_all
  have Z_range := PySem.W.mg_none_of X G z_range
  have Z_str := PySem.W.mg_none_of X G z_str
  have Z_enumerate := PySem.W.mg_none_of X G z_enumerate
  have Z_list := PySem.W.mg_none_of X G z_list
  have G_END : Glb K mg "END" g_END := ⟨_, _, PySem.W.mg_of X G g_END_, r_END, fun _ => .int _⟩
  have G_MOST_SIDE : Glb K mg "MOST_SIDE" g_MOST_SIDE := ⟨_, _, PySem.W.mg_of X G g_MOST_SIDE_, r_MOST_SIDE, fun _ => .int _⟩
  have G_EMPTY : Glb K mg "EMPTY" g_EMPTY := ⟨_, _, PySem.W.mg_of X G g_EMPTY_, r_EMPTY, fun _ => .int _⟩
  have G_PART_BACKSLASH : Glb K mg "PART_BACKSLASH" g_PART_BACKSLASH := ⟨_, _, PySem.W.mg_of X G g_PART_BACKSLASH_, r_PART_BACKSLASH, fun _ => .int _⟩
  have G_MOST_PARTERS : Glb K mg "MOST_PARTERS" g_MOST_PARTERS := ⟨_, _, PySem.W.mg_of X G g_MOST_PARTERS_, r_MOST_PARTERS, fun _ => .int _⟩
  have G_SIGNS : Glb K mg "SIGNS" g_SIGNS := ⟨_, _, PySem.W.mg_of X G g_SIGNS_, r_SIGNS, fun _ => .str _⟩
  have G_MOST_TEXT : Glb K mg "MOST_TEXT" g_MOST_TEXT := ⟨_, _, PySem.W.mg_of X G g_MOST_TEXT_, r_MOST_TEXT, fun _ => .int _⟩
  have F_I_BadArgument := fun_mk (st := inClass (top 1) 0) lI_BadArgument cI_BadArgument kI_BadArgument
  have b_I_BadArgument := F_I_BadArgument.binds (ps := ["self", "name"]) fun _ _ _ _ _ _ us hl => match us, hl with | [_, _], _ => rfl
  have O_BadArgument : OexC K CBadArgument := ⟨⟨_, _, _, _, _, _, _, _, _, _, _, _, _, _, _, xLBadArgument, by decide +kernel⟩, saBadArgument, eCBadArgument, tCBadArgument, kCBadArgument⟩
  have E_BadArgument : ExcF K mg "BadArgument" CBadArgument ["name"] := ⟨PySem.W.mg_of X G aCBadArgument, exm_self eCBadArgument iCBadArgument tCBadArgument sCBadArgument, ⟨gaBadArgument, ggBadArgument, eCBadArgument, hCBadArgument⟩, List.forall_mem_cons.mpr ⟨nbBadArgumentname, fun _ h => nomatch h⟩⟩
  have F_I_Flaw := fun_mk (st := inClass (top 2) 0) lI_Flaw cI_Flaw kI_Flaw
  have b_I_Flaw := F_I_Flaw.binds (ps := ["self", "place", "message"]) fun _ _ _ _ _ _ us hl => match us, hl with | [_, _, _], _ => rfl
  have O_Flaw : OexC K CFlaw := ⟨⟨_, _, _, _, _, _, _, _, _, _, _, _, _, _, _, xLFlaw, by decide +kernel⟩, saFlaw, eCFlaw, tCFlaw, kCFlaw⟩
  have E_Flaw : ExcF K mg "Flaw" CFlaw ["place", "message"] := ⟨PySem.W.mg_of X G aCFlaw, exm_self eCFlaw iCFlaw tCFlaw sCFlaw, ⟨gaFlaw, ggFlaw, eCFlaw, hCFlaw⟩, List.forall_mem_cons.mpr ⟨nbFlawplace, List.forall_mem_cons.mpr ⟨nbFlawmessage, fun _ h => nomatch h⟩⟩⟩
  refine ⟨(PySem.W.fnOf "law" "law" (defArgs (top 31)) (defBody (top 31)) (defScope (top 31)) .none kVl dcl pml anl (.ref cc) ctl), [(cc, Pt)], spLaw K Pt, fun p hp => ?_, fun p hp => ?_, fun p hp => ?_, fun s u => .of_eq rfl, fun H a ns h1 h2 h3 h4 => ⟨a, ns, rfl, h1, h2, h3 (cc, Pt) List.mem_cons_self, h4, fun _ => rfl⟩, fun base hB hG hT => ?_⟩
  · rw [List.mem_singleton.mp hp]; exact own cc Pt _ _ _ _ _ _ ll rfl rfl lc l11
  · rw [List.mem_singleton.mp hp]; exact nP
  · rw [List.mem_singleton.mp hp]; exact PySem.W.codeHd_of_K X hcd
  · have X_BadArgument : Xq l.prog w K mg base "BadArgument" CBadArgument 1 ["name"] := ⟨qaI_BadArgument, _, _, O_BadArgument, iIBadArgument, tIBadArgument, init1 F_I_BadArgument scI_BadArgument rfl O_BadArgument nbBadArgumentname, b_I_BadArgument, PySem.W.mg_of X G aCBadArgument⟩
    have X_Flaw : Xq l.prog w K mg base "Flaw" CFlaw 1 ["place", "message"] := ⟨qaI_Flaw, _, _, O_Flaw, iIFlaw, tIFlaw, init2 F_I_Flaw scI_Flaw rfl O_Flaw nbFlawplace nbFlawmessage, b_I_Flaw, PySem.W.mg_of X G aCFlaw⟩
    have C_is_whole : Cq l.prog w K mg base "is_whole" 1 ["value", "low", "high"] (spP K mg false 3 f_is_whole) := ⟨_, _, ok_is_whole F_is_whole Z_isinstance Z_int Z_bool, M_is_whole, k_is_whole, b_is_whole⟩
    have C_parters : Cq l.prog w K mg base "parters" 1 ["cells"] (spP K mg false 1 f_parters) := ⟨_, _, ok_parters F_parters G_END Z_len, M_parters, k_parters, b_parters⟩
    have C_is_board : Cq l.prog w K mg base "is_board" 2 ["value"] (spP K mg false 1 f_is_board) := ⟨_, _, ok_is_board F_is_board C_is_whole C_parters G_MOST_SIDE G_EMPTY G_PART_BACKSLASH G_MOST_PARTERS Z_isinstance Z_tuple Z_len Z_all, M_is_board, k_is_board, b_is_board⟩
    have K_is_board_0 : CKq l.prog w K mg base "is_board" 2 ["value"] (spP K mg false (0 + 1) f_is_board) 0 1 ["value"] := by
      exact ⟨_, _, ok_is_board F_is_board C_is_whole C_parters G_MOST_SIDE G_EMPTY G_PART_BACKSLASH G_MOST_PARTERS Z_isinstance Z_tuple Z_len Z_all, M_is_board, k_is_board, kbinds_mk (by simp) fun s us ws h1 h2 => match us, ws, h1, h2 with | [], [_], _, _ => .of_eq rfl⟩
    have C_need : Cq l.prog w K mg base "need" 3 ["is_right", "name"] (spP K mg false 2 f_need) := ⟨_, _, ok_need F_need X_BadArgument, M_need, k_need, b_need⟩
    have C_need_board : Cq l.prog w K mg base "need_board" 4 ["value", "name"] (spP K mg false 2 f_need_board) := ⟨_, _, ok_need_board F_need_board C_need C_is_board, M_need_board, k_need_board, b_need_board⟩
    have C_drawn : Cq l.prog w K mg base "drawn" 5 ["board"] (spP K mg false 1 f_drawn) := ⟨_, _, ok_drawn F_drawn C_need_board G_SIGNS Z_range, M_drawn, k_drawn, b_drawn⟩
    have K_drawn_0 : CKq l.prog w K mg base "drawn" 5 ["board"] (spP K mg false (0 + 1) f_drawn) 0 1 ["board"] := by
      exact ⟨_, _, ok_drawn F_drawn C_need_board G_SIGNS Z_range, M_drawn, k_drawn, kbinds_mk (by simp) fun s us ws h1 h2 => match us, ws, h1, h2 with | [], [_], _, _ => .of_eq rfl⟩
    have C_is_text : Cq l.prog w K mg base "is_text" 1 ["value"] (spP K mg false 1 f_is_text) := ⟨_, _, ok_is_text F_is_text G_MOST_TEXT Z_isinstance Z_str Z_len, M_is_text, k_is_text, b_is_text⟩
    have C_board_in : Cq l.prog w K mg base "board_in" 3 ["text"] (spP K mg false 1 f_board_in) := ⟨_, _, ok_board_in F_board_in G_MOST_SIDE G_SIGNS G_END G_MOST_PARTERS Z_enumerate Z_len Z_tuple X_Flaw, M_board_in, k_board_in, b_board_in⟩
    have C_flaw : Cq l.prog w K mg base "flaw" 4 ["text"] (spP K mg false 1 f_flaw) := ⟨_, _, ok_flaw F_flaw C_need C_is_text C_board_in E_Flaw, M_flaw, k_flaw, b_flaw⟩
    have K_flaw_0 : CKq l.prog w K mg base "flaw" 4 ["text"] (spP K mg false (0 + 1) f_flaw) 0 1 ["text"] := by
      exact ⟨_, _, ok_flaw F_flaw C_need C_is_text C_board_in E_Flaw, M_flaw, k_flaw, kbinds_mk (by simp) fun s us ws h1 h2 => match us, ws, h1, h2 with | [], [_], _, _ => .of_eq rfl⟩
    have C_board_of : Cq l.prog w K mg base "board_of" 5 ["text"] (spP K mg false 1 f_board_of) := ⟨_, _, ok_board_of F_board_of C_need C_is_text C_flaw C_board_in, M_board_of, k_board_of, b_board_of⟩
    have K_board_of_0 : CKq l.prog w K mg base "board_of" 5 ["text"] (spP K mg false (0 + 1) f_board_of) 0 1 ["text"] := by
      exact ⟨_, _, ok_board_of F_board_of C_need C_is_text C_flaw C_board_in, M_board_of, k_board_of, kbinds_mk (by simp) fun s us ws h1 h2 => match us, ws, h1, h2 with | [], [_], _, _ => .of_eq rfl⟩
    have C__law_taken : Cq l.prog w K mg base "_law_taken" 1 ["row", "many"] (spP K mg true 2 f__law_taken) := ⟨_, _, ok__law_taken F__law_taken Z_int Z_len, M__law_taken, k__law_taken, b__law_taken⟩
    have C__law_pick : Cq l.prog w K mg base "_law_pick" 2 ["row", "some"] (spP K mg true 2 f__law_pick) := ⟨_, _, ok__law_pick F__law_pick C__law_taken Z_len, M__law_pick, k__law_pick, b__law_pick⟩
    have C__law_alike : Cq l.prog w K mg base "_law_alike" 8 ["found", "due"] (spP K mg false 2 (f__law_alike 8)) := ⟨_, _, ok__law_alike F__law_alike M__law_alike b__law_alike Z_isinstance Z_tuple Z_len Z_range Z_str Z_int Z_bool 8, M__law_alike, k__law_alike, b__law_alike⟩
    have C__law_board : Cq l.prog w K mg base "_law_board" 3 ["row", "wide", "high", "most"] (spP K mg true 4 f__law_board) := ⟨_, _, ok__law_board F__law_board C__law_pick C__law_taken Z_range Z_tuple, M__law_board, k__law_board, b__law_board⟩
    have C__law_lines : Cq l.prog w K mg base "_law_lines" 1 ["board"] (spP K mg false 1 f__law_lines) := ⟨_, _, ok__law_lines F__law_lines Z_range, M__law_lines, k__law_lines, b__law_lines⟩
    have C__law_flaw : Cq l.prog w K mg base "_law_flaw" 1 ["text"] (spP K mg false 1 f__law_flaw) := ⟨_, _, ok__law_flaw F__law_flaw Z_enumerate Z_len, M__law_flaw, k__law_flaw, b__law_flaw⟩
    have C__law_spoiled : Cq l.prog w K mg base "_law_spoiled" 3 ["row", "text"] (spP K mg true 2 f__law_spoiled) := ⟨_, _, ok__law_spoiled F__law_spoiled C__law_taken C__law_pick Z_len, M__law_spoiled, k__law_spoiled, b__law_spoiled⟩
    exact ok_law ll cl hnl (hT (cc, Pt) List.mem_cons_self) F__law_refused b__law_refused M__law_refused C__law_board C__law_taken C__law_lines C__law_alike C__law_spoiled C__law_flaw C_board_of C_drawn C__law_pick C_flaw C_is_board K_drawn_0 K_board_of_0 K_is_board_0 K_flaw_0 Z_range Z_len Z_list E_BadArgument hden
end G

set_option Elab.async false
set_option linter.all false
set_option maxRecDepth 100000
set_option maxHeartbeats 2000000
/-! PuA: plain facts on the defs that most laws share. -/
namespace G
open PySem PySem.Spec PyProof.Rows L2 PD
/-! ### is_whole -/
def notInt : D → Bool
  | .int _ => false
  | .bool _ => false
  | .dict _ => false
  | _ => true
theorem is_whole_int (v lo hi : Int) : fo (f_is_whole [.int v, .int lo, .int hi]) = .ret (.bool (decide (lo ≤ v) && decide (v ≤ hi))) := by
  by_cases h : lo ≤ v <;> simp [f_is_whole, fo_run, den_is_whole, h]
theorem is_whole_bool (b : Bool) (lo hi : Int) : fo (f_is_whole [.bool b, .int lo, .int hi]) = .ret (.bool false) := by
  simp [f_is_whole, fo_run, den_is_whole]
theorem is_whole_not {d : D} (lo hi : Int) (h : notInt d = true) : fo (f_is_whole [d, .int lo, .int hi]) = .ret (.bool false) := by
  cases d <;> first | (simp [notInt] at h; done) | (simp [f_is_whole, fo_run, den_is_whole])
/-! ### parters -/
theorem parters_ints (xs : List Int) (h : xs.length ≤ 100000) : fo (f_parters [.tuple (xs.map .int)]) = .ret (.int ((xs.filter fun x => decide (3 < x)).length : Nat)) := by
  simp only [f_parters, fo_run, den_parters, startR]
  have e := dLc1 (di := dIt (dV 0)) (v := 1) (dt := ct_parters_1) (de := dV 1) (ρ := [.val (.tuple (xs.map .int)), .no]) (ρ1 := [.val (.tuple (xs.map .int)), .no]) (x := .tuple (xs.map .int)) (ds := xs.map .int)
    (p := fun d => match d with | .int x => decide (3 < x) | _ => false) (g := fun d => d) rfl (by simp) (by simpa using h)
    (fun d hd => by
      obtain ⟨x, _, rfl⟩ := List.mem_map.mp hd
      simp [ct_parters_1, g_END])
    (fun d hd _ => ⟨_, rfl, rfl⟩)
  simp [e]
  rw [List.filter_map]
  simp
  rfl
/-! ### is_board -/
def wholeB (d : D) (lo hi : Int) : Bool := match d with
  | .int v => decide (lo ≤ v) && decide (v ≤ hi)
  | _ => false
theorem is_whole_any {d : D} (lo hi : Int) (h : isD d = false) : fo (f_is_whole [d, .int lo, .int hi]) = .ret (.bool (wholeB d lo hi)) := by
  cases d with
  | int v => exact is_whole_int v lo hi
  | bool b => exact is_whole_bool b lo hi
  | dict _ => simp [isD] at h
  | _ => exact is_whole_not lo hi rfl
def cntP (ds : List D) : Nat := (ds.filter fun d => match d with | .int x => decide (3 < x) | _ => false).length
theorem parters_any {ds : List D} (h : ds.length ≤ 100000) (hi : ∀ d ∈ ds, ∃ x, d = .int x) : fo (f_parters [.tuple ds]) = .ret (.int (cntP ds : Nat)) := by
  have e : ds = (ds.map fun d => match d with | .int x => x | _ => 0).map .int := by
    rw [List.map_map]
    refine (List.map_id ds).symm.trans (List.map_congr_left fun d hd => ?_)
    obtain ⟨x, rfl⟩ := hi d hd
    rfl
  have e2 := parters_ints (ds.map fun d => match d with | .int x => x | _ => 0) (by simpa using h)
  rw [← e] at e2
  rw [e2, cntP]
  conv => rhs; rw [e, List.filter_map, List.length_map]
  rfl
def boardB (a b c : D) : Bool := wholeB a 1 8 && (wholeB b 1 8 && (match a, b, c with
  | .int w, .int h, .tuple ds => decide ((ds.length : Int) = w * h) && (ds.all (fun d => wholeB d 0 5) && decide (cntP ds ≤ 8))
  | _, _, _ => false))
theorem is_board_t {a b c : D} (ha : isD a = false) (hb : isD b = false) (hc : isD c = false) (hcs : ∀ ds, c = .tuple ds → ds.length ≤ 100000 ∧ ∀ d ∈ ds, isD d = false) : fo (f_is_board [.tuple [a, b, c]]) = .ret (.bool (boardB a b c)) := by
  simp only [f_is_board, fo_run, den_is_board, g_MOST_SIDE, g_EMPTY, g_PART_BACKSLASH, g_MOST_PARTERS]
  simp [is_whole_any _ _ ha, is_whole_any _ _ hb]
  unfold boardB
  cases h1 : wholeB a 1 8 with
  | false => simp
  | true =>
    cases h2 : wholeB b 1 8 with
    | false => simp
    | true =>
      obtain ⟨w, rfl, w1, w2⟩ : ∃ w, a = .int w ∧ 1 ≤ w ∧ w ≤ 8 := by
        cases a with
        | int w => exact ⟨w, rfl, by simpa [wholeB] using h1⟩
        | _ => simp [wholeB] at h1
      obtain ⟨h, rfl, v1, v2⟩ : ∃ h, b = .int h ∧ 1 ≤ h ∧ h ≤ 8 := by
        cases b with
        | int w => exact ⟨w, rfl, by simpa [wholeB] using h2⟩
        | _ => simp [wholeB] at h2
      have em := oMul_s (a := w) (b := h) (by omega) (by omega)
      cases c with
      | tuple ds =>
        obtain ⟨hl, hd⟩ := hcs ds rfl
        simp [em]
        by_cases h3 : (ds.length : Int) = w * h
        case neg => simp [h3]
        case pos =>
          have e := dLc1y (di := dIt (dV 3)) (v := 4) (de := ce_is_board_1) (ρ := [.val (.tuple [.int w, .int h, .tuple ds]), .val (.int w), .val (.int h), .val (.tuple ds), .no]) (ρ1 := [.val (.tuple [.int w, .int h, .tuple ds]), .val (.int w), .val (.int h), .val (.tuple ds), .no])
            (x := .tuple ds) (ds := ds) (g := fun d => .bool (wholeB d 0 5)) rfl (by simp) hl (fun d hd' => by
              refine ⟨.t (.val (.bool (wholeB d 0 5))), ?_, rfl⟩
              simp [ce_is_board_1, g_EMPTY, g_PART_BACKSLASH, is_whole_any _ _ (hd d hd')])
          by_cases h4 : ∀ x ∈ ds, wholeB x 0 5 = true
          case neg => simp [h3, e, oAll, blsOf_map', h4]
          case pos =>
            have hi : ∀ d ∈ ds, ∃ x, d = .int x := fun d hd' => by
              have := h4 d hd'
              cases d with
              | int x => exact ⟨x, rfl⟩
              | _ => simp [wholeB] at this
            have h4' : (∀ x ∈ ds, wholeB x 0 5 = true) = True := eq_true h4
            simp [h3, e, oAll, blsOf_map', h4', parters_any hl hi]
            rw [List.all_eq_true.mpr h4, Bool.true_and]
            exact decide_eq_decide.mpr (by omega)
      | dict _ => simp [isD] at hc
      | _ => simp
/-! ### need, need_board -/
theorem need_t (n : Str) : fo (f_need [.bool true, .str n]) = .ret .none := by simp [f_need, fo_run, den_need]
theorem need_f (n : Str) : fo (f_need [.bool false, .str n]) = .exc ⟨"BadArgument", [("name", .str n)]⟩ := by simp [f_need, fo_run, den_need]
/-! ### _law_taken -/
def rowD (sc : List Int) (a b c : Int) : D := .list [.list (sc.map .int), .int a, .int b, .int c]
structure RowOk (a b c : Int) : Prop where
  a0 : 0 ≤ a
  b0 : 0 ≤ b
  b1 : b < 2147483647
  c0 : 0 ≤ c
@[simp] theorem ix40 (a b c d : D) : oIx [.list [a, b, c, d], .int 0] = .v a := rfl
@[simp] theorem ix41 (a b c d : D) : oIx [.list [a, b, c, d], .int 1] = .v b := rfl
@[simp] theorem ix42 (a b c d : D) : oIx [.list [a, b, c, d], .int 2] = .v c := rfl
@[simp] theorem ix43 (a b c d : D) : oIx [.list [a, b, c, d], .int 3] = .v d := rfl
@[simp] theorem ixN41 : ixN 4 1 = some 1 := rfl
@[simp] theorem ixN42 : ixN 4 2 = some 2 := rfl
@[simp] theorem ixN43 : ixN 4 3 = some 3 := rfl
@[simp] theorem mulM (x : Int) : oMul [.int x, .int 48271] = .v (.int (x * 48271)) := oMul_r (by decide) (by decide)
@[simp] theorem pow18 : oPow [.int 10, .int 18] = .v (.int (10 ^ 18)) := oPow_i (by decide)
@[simp] theorem pow90 : oPow [.int 10, .int 90] = .v (.int (10 ^ 90)) := oPow_i (by decide)
@[simp] theorem div7 (x : Int) : oDiv [.int x, .int 7] = .v (.int (x.fdiv 7)) := oDiv_i (by decide) (by decide)
theorem fdiv_nn {a b : Int} (ha : 0 ≤ a) (hb : 0 < b) : 0 ≤ a.fdiv b := by
  rw [Int.fdiv_eq_ediv_of_nonneg _ (by omega)]
  exact Int.ediv_nonneg ha (by omega)
theorem fmod_nn (a : Int) {b : Int} (hb : 0 < b) : 0 ≤ a.fmod b ∧ a.fmod b < b := ⟨Int.fmod_nonneg_of_pos a hb, Int.fmod_lt_of_pos a hb⟩
theorem taken_ok (sc : List Int) {a b c many : Int} (ok : RowOk a b c) (h1 : 1 ≤ many) (h2 : many < 1000000) :
    ∃ v a' b' c', f__law_taken [rowD sc a b c, .int many] = .rt (.int v) (.own (rowD sc a' b' c')) ∧ 0 ≤ v ∧ v < many ∧ RowOk a' b' c' := by
  have d1 : ∀ x : Int, oDiv [.int x, .int many] = .v (.int (x.fdiv many)) := fun x => oDiv_i (by omega) (by omega)
  have nz : many ≠ 0 := by omega
  by_cases hc : 0 < c
  · refine ⟨c.fmod many, a, b, c.fdiv many, ?_, (fmod_nn c (by omega)).1, (fmod_nn c (by omega)).2, ok.a0, ok.b0, ok.b1, fdiv_nn ok.c0 (by omega)⟩
    simp [f__law_taken, io_run, den__law_taken, rowD, hc, d1, nz]
  · by_cases ha : (sc.length : Int) < a + 1
    · have q := fmod_nn (b * 48271 + 11) (b := 2147483647) (by decide)
      refine ⟨((b * 48271 + 11).fmod 2147483647 |>.fdiv 7).fmod many, a + 1, (b * 48271 + 11).fmod 2147483647, c, ?_, (fmod_nn _ (by omega)).1, (fmod_nn _ (by omega)).2, by have := ok.a0; omega, q.1, q.2, ok.c0⟩
      simp [f__law_taken, io_run, den__law_taken, rowD, hc, d1, nz, ha]
    · have hi : a.toNat < sc.length := by have := ok.a0; omega
      have e : atI (sc.map PyData.int) a = some (.int sc[a.toNat]) := by
        have : a = (a.toNat : Int) := by have := ok.a0; omega
        conv => lhs; rw [this]
        exact PD.atI_nat (by simp [hi])
      have ex := oIx_l e
      have q := fmod_nn (b * 48271 + sc[a.toNat] + 11) (b := 2147483647) (by decide)
      by_cases hz : 1000000000000000000 ≤ sc[a.toNat]
      · refine ⟨sc[a.toNat].fmod many, a + 1, (b * 48271 + sc[a.toNat] + 11).fmod 2147483647, (sc[a.toNat].fmod (10 ^ 90)).fdiv many, ?_, (fmod_nn _ (by omega)).1, (fmod_nn _ (by omega)).2, by have := ok.a0; omega, q.1, q.2, fdiv_nn (fmod_nn _ (by decide)).1 (by omega)⟩
        simp [f__law_taken, io_run, den__law_taken, rowD, hc, d1, nz, ha, ex, hz]
      · refine ⟨sc[a.toNat].fmod many, a + 1, (b * 48271 + sc[a.toNat] + 11).fmod 2147483647, c, ?_, (fmod_nn _ (by omega)).1, (fmod_nn _ (by omega)).2, by have := ok.a0; omega, q.1, q.2, ok.c0⟩
        simp [f__law_taken, io_run, den__law_taken, rowD, hc, d1, nz, ha, ex, hz]
/-! ### loops told by an invariant -/
theorem forL_ind {dg : DG} {b : DS} (I : Nat → Sl → Prop) : ∀ (ds : List D) (n : Nat) (ρ : Sl), I n ρ → (∀ i d ρ, ds[i]? = some d → I (n + i) ρ → ∃ ρ1 ρ2, dg d ρ = some ρ1 ∧ (b ρ1 = .nx ρ2 ∨ b ρ1 = .ct ρ2) ∧ I (n + i + 1) ρ2) → ∃ ρ', forL dg b ds ρ = .nx ρ' ∧ I (n + ds.length) ρ'
  | [], n, ρ, h, _ => ⟨ρ, rfl, h⟩
  | d :: ds, n, ρ, h, k => by
    obtain ⟨ρ1, ρ2, e1, e2, e3⟩ := k 0 d ρ rfl h
    obtain ⟨ρ', q1, q2⟩ := forL_ind I ds (n + 1) ρ2 e3 (fun i d ρ hd hi => by
      have := k (i + 1) d ρ (by simpa using hd) (by rw [show n + (i + 1) = n + 1 + i by omega]; exact hi)
      rwa [show n + (i + 1) + 1 = n + 1 + i + 1 by omega] at this)
    refine ⟨ρ', ?_, by rw [List.length_cons, show n + (ds.length + 1) = n + 1 + ds.length by omega]; exact q2⟩
    rcases e2 with e2 | e2
    · rw [forL_nx e1 e2]; exact q1
    · rw [forL_ct e1 e2]; exact q1
/-! ### _law_pick, _law_board -/
theorem pick_ok (sc : List Int) {a b c : Int} {ds : List D} (ok : RowOk a b c) (h1 : 1 ≤ ds.length) (h2 : ds.length ≤ 1000) :
    ∃ d a' b' c', d ∈ ds ∧ f__law_pick [rowD sc a b c, .list ds] = .rt d (.own (rowD sc a' b' c')) ∧ RowOk a' b' c' := by
  obtain ⟨v, a', b', c', e, v0, v1, ok'⟩ := taken_ok sc ok (many := ds.length) (by omega) (by omega)
  have hi : v.toNat < ds.length := by omega
  refine ⟨ds[v.toNat], a', b', c', List.getElem_mem hi, ?_, ok'⟩
  have ex : oIx [.list ds, .int v] = .v ds[v.toNat] := oIx_l (by
    have : v = (v.toNat : Int) := by omega
    conv => lhs; rw [this]
    exact PD.atI_nat (by simp [hi]))
  simp [f__law_pick, io_run, den__law_pick, e, ex]
def brd (w h : Int) (cs : List Int) : D := .tuple [.int w, .int h, .tuple (cs.map .int)]
def cnt (cs : List Int) : Nat := (cs.filter fun x => decide (3 < x)).length
theorem cntP_ints (cs : List Int) : cntP (cs.map .int) = cnt cs := by
  unfold cntP cnt
  rw [List.filter_map, List.length_map]
  rfl
theorem cnt_snoc (cs : List Int) (k : Int) : cnt (cs ++ [k]) = cnt cs + if 3 < k then 1 else 0 := by
  unfold cnt
  by_cases h : 3 < k <;> simp [h, List.filter_append]
structure Cells (cs : List Int) : Prop where
  lo : ∀ x ∈ cs, 0 ≤ x ∧ x ≤ 5
theorem rangeD_len (n : Int) : (rangeD 0 n).length = n.toNat := by simp [rangeD]
theorem mAppend_l {ds : List D} (d : D) (h : ds.length < 100000) : mAppend (.list ds) [d] = some (.none, .list (ds ++ [d])) := by
  simp [mAppend, h]
theorem board_step (sc : List Int) {a b c w h m left : Int} {cs : List Int} {d s7 : D} (ok : RowOk a b c) (hl : cs.length < 100000) (hc : Cells cs) (h0 : 0 ≤ left) (s7 : SV) :
    ∃ a' b' c' k s7', lb__law_board_1 [.own (rowD sc a b c), .val (.int w), .val (.int h), .val (.int m), .own (.list (cs.map .int)), .val (.int left), .val d, s7] = .nx [.own (rowD sc a' b' c'), .val (.int w), .val (.int h), .val (.int m), .own (.list ((cs ++ [k]).map .int)), .val (.int (left - if 3 < k then 1 else 0)), .val d, s7'] ∧ RowOk a' b' c' ∧ 0 ≤ k ∧ k ≤ 5 ∧ (3 < k → 0 < left) := by
  have pk : ∃ k a' b' c' d0, f__law_pick [rowD sc a b c, d0] = .rt (.int k) (.own (rowD sc a' b' c')) ∧ RowOk a' b' c' ∧ 0 ≤ k ∧ k ≤ 5 ∧ (3 < k → 0 < left) ∧
      d0 = if 0 < left then .list [.int 0, .int 0, .int 1, .int 1, .int 2, .int 2, .int 3, .int 4, .int 5, .int 4, .int 5] else .list [.int 0, .int 0, .int 1, .int 2, .int 1, .int 2, .int 1, .int 2, .int 3] := by
    by_cases hp : 0 < left
    · obtain ⟨d1, a', b', c', hm, e, ok'⟩ := pick_ok sc (ds := [.int 0, .int 0, .int 1, .int 1, .int 2, .int 2, .int 3, .int 4, .int 5, .int 4, .int 5]) ok (by decide) (by decide)
      have : ∃ k, d1 = .int k ∧ 0 ≤ k ∧ k ≤ 5 := by
        simp only [List.mem_cons, List.not_mem_nil, or_false] at hm
        rcases hm with rfl | rfl | rfl | rfl | rfl | rfl | rfl | rfl | rfl | rfl | rfl <;> exact ⟨_, rfl, by decide, by decide⟩
      obtain ⟨k, rfl, k0, k1⟩ := this
      exact ⟨k, a', b', c', _, e, ok', k0, k1, fun _ => hp, by rw [if_pos hp]⟩
    · obtain ⟨d1, a', b', c', hm, e, ok'⟩ := pick_ok sc (ds := [.int 0, .int 0, .int 1, .int 2, .int 1, .int 2, .int 1, .int 2, .int 3]) ok (by decide) (by decide)
      have : ∃ k, d1 = .int k ∧ 0 ≤ k ∧ k ≤ 3 := by
        simp only [List.mem_cons, List.not_mem_nil, or_false] at hm
        rcases hm with rfl | rfl | rfl | rfl | rfl | rfl | rfl | rfl | rfl <;> exact ⟨_, rfl, by decide, by decide⟩
      obtain ⟨k, rfl, k0, k1⟩ := this
      exact ⟨k, a', b', c', _, e, ok', k0, by omega, fun z => by omega, by rw [if_neg hp]⟩
  obtain ⟨k, a1, b1, c1, d0, e1, ok1, k0, k1, k2, ed⟩ := pk
  subst ed
  have ap : ∀ k : Int, mAppend (.list (cs.map .int)) [.int k] = some (.none, .list ((cs ++ [k]).map .int)) := fun k => by
    rw [mAppend_l _ (by simpa using hl)]; simp
  have pre : (if 0 < left then (.list [.int 0, .int 0, .int 1, .int 1, .int 2, .int 2, .int 3, .int 4, .int 5, .int 4, .int 5] : D) else .list [.int 0, .int 0, .int 1, .int 2, .int 1, .int 2, .int 1, .int 2, .int 3]) = .list (if 0 < left then [.int 0, .int 0, .int 1, .int 1, .int 2, .int 2, .int 3, .int 4, .int 5, .int 4, .int 5] else [.int 0, .int 0, .int 1, .int 2, .int 1, .int 2, .int 1, .int 2, .int 3]) := by split <;> rfl
  by_cases h3 : k = 3
  · subst h3
    obtain ⟨v, a2, b2, c2, e2, v0, v1, ok2⟩ := taken_ok sc ok1 (many := 3) (by decide) (by decide)
    by_cases hv : 0 < v
    · refine ⟨a2, b2, c2, 0, .val (.int 0), ?_, ok2, by decide, by decide, fun z => by omega⟩
      by_cases hp : 0 < left <;> simp [hp] at e1 <;> simp [lb__law_board_1, hp, e1, e2, hv, ap]
    · refine ⟨a2, b2, c2, 3, .val (.int 3), ?_, ok2, by decide, by decide, fun z => by omega⟩
      by_cases hp : 0 < left <;> simp [hp] at e1 <;> simp [lb__law_board_1, hp, e1, e2, hv, ap]
  · refine ⟨a1, b1, c1, k, .val (.int k), ?_, ok1, k0, k1, k2⟩
    by_cases h4 : 3 < k <;> by_cases hp : 0 < left <;> simp [hp] at e1 <;> simp [lb__law_board_1, hp, e1, h3, h4, ap]
theorem board_ok (sc : List Int) {a b c w h m : Int} (ok : RowOk a b c) (w1 : 1 ≤ w) (w2 : w ≤ 100) (h1 : 1 ≤ h) (h2 : h ≤ 100) (m0 : 0 ≤ m) :
    ∃ cs a' b' c', f__law_board [rowD sc a b c, .int w, .int h, .int m] = .rt (brd w h cs) (.own (rowD sc a' b' c')) ∧ (cs.length : Int) = w * h ∧ Cells cs ∧ (cnt cs : Int) ≤ m ∧ RowOk a' b' c' := by
  have wh : w * h ≤ 10000 := by
    have : w * h ≤ 100 * 100 := Int.mul_le_mul w2 h2 (by omega) (by omega)
    omega
  have wh0 : 0 ≤ w * h := Int.mul_nonneg (by omega) (by omega)
  have em := oMul_s (a := w) (b := h) (by omega) (by omega)
  have sm : small (w * h) = true := by simp [small]; omega
  obtain ⟨ρ', q1, q2⟩ := forL_ind (dg := gN 6) (b := lb__law_board_1)
    (fun i ρ => ∃ a b c cs left s6 s7, ρ = [.own (rowD sc a b c), .val (.int w), .val (.int h), .val (.int m), .own (.list (cs.map .int)), .val (.int left), s6, s7] ∧ RowOk a b c ∧ cs.length = i ∧ Cells cs ∧ (cnt cs : Int) + left = m ∧ 0 ≤ left)
    (rangeD 0 (w * h)) 0 [.own (rowD sc a b c), .val (.int w), .val (.int h), .val (.int m), .own (.list []), .val (.int m), .no, .no]
    ⟨a, b, c, [], m, .no, .no, rfl, ok, rfl, ⟨by simp⟩, by simp [cnt], m0⟩ (by
      rintro i d ρ hd ⟨a, b, c, cs, left, s6, s7, rfl, ok, hl, hc, hs, h0⟩
      have hi : i < (rangeD 0 (w * h)).length := (List.getElem?_eq_some_iff.mp hd).1
      rw [rangeD_len] at hi
      obtain ⟨a', b', c', k, s7', e, ok', k0, k1, k2⟩ := board_step sc (w := w) (h := h) (m := m) (d := d) (s7 := d) ok (by omega) hc h0 s7
      refine ⟨_, _, rfl, .inl e, a', b', c', cs ++ [k], left - (if 3 < k then 1 else 0), .val d, s7', rfl, ok', by simp [hl], ⟨fun x hx => ?_⟩, ?_, ?_⟩
      · rcases List.mem_append.mp hx with hx | hx
        · exact hc.lo x hx
        · rw [List.mem_singleton.mp hx]; exact ⟨k0, k1⟩
      · rw [cnt_snoc]
        split <;> omega
      · split
        · have := k2 (by assumption); omega
        · omega)
  obtain ⟨a', b', c', cs, left, s6, s7, rfl, ok', hl, hc, hs, h0⟩ := q2
  refine ⟨cs, a', b', c', ?_, ?_, hc, by omega, ok'⟩
  · simp [f__law_board, io_run, den__law_board, em, sm, q1, brd]
  · rw [hl, rangeD_len]; omega
/-! ### _law_alike -/
def okA : Nat → D → Bool
  | 0, _ => false
  | n + 1, .tuple ds => decide (ds.length ≤ 100000) && ds.all (okA n)
  | _ + 1, .list _ => false
  | _ + 1, .dict _ => false
  | _ + 1, .none => true
  | _ + 1, .bool _ => true
  | _ + 1, .int _ => true
  | _ + 1, .str _ => true
@[simp] theorem oEq_nil : oEq [.list [], .list []] = .v (.bool true) := by simp [oEq, vOr, oEqS, oEqD, SeqAt.shaped, PyData.canLay0, PyData.canLayAll0, PyData.depth, PyData.depthAll, PyData.eqv, PyData.eqvAll]
@[simp] theorem oEq_none : oEq [.none, .none] = .v (.bool true) := by simp [oEq, vOr, oEqS, oEqD, shaped_none, PyData.eqv]
theorem alike_refl : ∀ (n : Nat) (d : D), okA n d = true → fo (f__law_alike n [d, d]) = .ret (.bool true)
  | 0, _, h => by simp [okA] at h
  | n + 1, .list _, h => by simp [okA] at h
  | n + 1, .dict _, h => by simp [okA] at h
  | n + 1, .none, _ => by simp [f__law_alike, fo_run, den__law_alike]
  | n + 1, .bool b, _ => by simp [f__law_alike, fo_run, den__law_alike]
  | n + 1, .int b, _ => by simp [f__law_alike, fo_run, den__law_alike]
  | n + 1, .str b, _ => by simp [f__law_alike, fo_run, den__law_alike]
  | n + 1, .tuple ds, h => by
    simp only [okA, Bool.and_eq_true, decide_eq_true_eq, List.all_eq_true] at h
    obtain ⟨hl, ha⟩ := h
    have sm : small (ds.length : Int) = true := by simp [small]; omega
    have e := dLc1 (di := dRg1 (daC (dOp oLen (daC (dV 1) daN)) daN)) (v := 2) (dt := ct__law_alike_1 (f__law_alike n)) (de := dV 2) (ρ := [.val (.tuple ds), .val (.tuple ds), .no]) (ρ1 := [.val (.tuple ds), .val (.tuple ds), .no]) (x := .none) (ds := rangeD 0 ds.length) (p := fun _ => false) (g := fun d => d)
      (by simp [sm]) (by simp) (by rw [rangeD_len]; omega)
      (fun d hd => by
        simp only [rangeD, List.mem_map, List.mem_range] at hd
        obtain ⟨k, hk, rfl⟩ := hd
        have hk' : k < ds.length := by omega
        have ex : oIx [.tuple ds, .int (0 + (k : Int))] = .v ds[k] := oIx_t (by rw [Int.zero_add]; exact PD.atI_nat (by simp [hk']))
        have ih := alike_refl n ds[k] (ha _ (List.getElem_mem hk'))
        rw [Int.zero_add] at ex
        simp [ct__law_alike_1, ex, ih])
      (fun d hd hp => by cases hp)
    have ef : List.filter (fun _ => false) (rangeD 0 ds.length) = [] := List.filter_eq_nil_iff.mpr (fun _ _ => by simp)
    rw [ef] at e
    simp [f__law_alike, fo_run, den__law_alike, e]
end G

set_option Elab.async false
set_option linter.all false
set_option maxRecDepth 100000
set_option maxHeartbeats 2000000
/-! Pu00: boards as lines, lines as boards. -/
namespace G
open PySem PySem.Spec PyProof.Rows L2 PD TL
abbrev Tx (l : List Nat) : Str := ⟨l.toArray⟩
abbrev S1 (c : Nat) : Str := ⟨#[c]⟩
def signs : List Nat := [46, 47, 92, 35, 122, 115]
def ixS (c : Nat) : Nat := signs.findIdx (· == c)
theorem nl_eq : (Str.ofString "\n") = Tx [10] := by decide +kernel
theorem signs_eq : (Str.ofString "./\\#zs") = Tx signs := by decide +kernel
theorem zs_eq : (Str.ofString "zs") = Tx [122, 115] := by decide +kernel
theorem empty_eq : (Str.ofString "") = Tx [] := by decide +kernel
theorem Tx_len (l : List Nat) : (Tx l).length = l.length := by simp [Str.length]
theorem Tx_app (a b : List Nat) : Tx a ++ Tx b = Tx (a ++ b) := ext_tl (by rw [tl_append])
theorem Tx_inj {a b : List Nat} : Tx a = Tx b ↔ a = b := ⟨fun h => congrArg tl h, fun h => by rw [h]⟩
theorem S1_inj {c : Nat} {a : Nat} : S1 c = Tx [a] ↔ c = a := by
  rw [show S1 c = Tx [c] from rfl, Tx_inj]; simp
/-! ### the operations on signs -/
theorem eq_nl (c : Nat) : oEq [.str (S1 c), .str (Str.ofString "\n")] = .v (.bool (decide (c = 10))) := by
  rw [nl_eq, oEq_s, decide_eq_decide.mpr S1_inj]
theorem notIn_signs (c : Nat) : oNotIn [.str (S1 c), .str (Str.ofString "./\\#zs")] = .v (.bool (!decide (c ∈ signs))) := by
  rw [signs_eq]
  simp [oNotIn, vOr, oNotInL, oNotInT, oNotInS, Str.length]
theorem in_zs (c : Nat) : oIn [.str (S1 c), .str (Str.ofString "zs")] = .v (.bool (decide (c = 122 ∨ c = 115))) := by
  rw [zs_eq]
  simp [oIn, vOr, oInL, oInT, oInS, Str.length]
theorem ix_signs {c : Nat} (h : c ∈ signs) : oSIndex [.str (Str.ofString "./\\#zs"), .str (S1 c)] = .v (.int (ixS c : Nat)) := by
  have key : ∀ c ∈ signs, Builtin.Str.occurrences (Tx signs) (S1 c) 0 (Tx signs).length 1 = [ixS c] := by decide +kernel
  rw [signs_eq]
  simp [oSIndex, key c h]
theorem zs_ix {c : Nat} (h : c ∈ signs) : (c = 122 ∨ c = 115) ↔ 3 < ixS c := by
  have key : ∀ c ∈ signs, (c = 122 ∨ c = 115) ↔ 3 < ixS c := by decide +kernel
  exact key c h
theorem ixS_le {c : Nat} (h : c ∈ signs) : ixS c ≤ 5 := by
  have key : ∀ c ∈ signs, ixS c ≤ 5 := by decide +kernel
  exact key c h
/-! ### the reading of lines -/
def mC : Str := Str.ofString "this sign cannot stand here"
def mL : Str := Str.ofString "the row is too long"
def mP : Str := Str.ofString "there are too many parters"
def mS : Str := Str.ofString "the row is too short"
def mR : Str := Str.ofString "there are too many rows"
def line (w : Nat) : List Nat → Nat → Nat → Nat → List Int → (Nat × Str) ⊕ (Nat × List Int)
  | [], _, _, many, cells => .inr (many, cells)
  | c :: cs, at', col, many, cells => if c ∉ signs then .inl (at', mC) else if col = w then .inl (at', mL) else
      if 8 < many + (if 3 < ixS c then 1 else 0) then .inl (at', mP) else line w cs (at' + 1) (col + 1) (many + (if 3 < ixS c then 1 else 0)) (cells ++ [(ixS c : Int)])
def lines : Nat → List (List Nat) → Nat → Nat → Nat → List Int → (Nat × Str) ⊕ (Nat × Nat × List Int)
  | w, [], _, n, _, cells => .inr (w, n, cells)
  | w, l :: ls, at', n, many, cells => if n = 8 then .inl (at', mR) else match line w l at' 0 many cells with
    | .inl e => .inl e
    | .inr (m, c) => if l = [] ∨ (0 < n ∧ l.length < w) then .inl (at' + l.length, mS) else lines l.length ls (at' + l.length + 1) (n + 1) m c
theorem line_many {w : Nat} : ∀ (cs : List Nat) (at' col many : Nat) (cells : List Int) (m : Nat) (c : List Int), many ≤ 8 → line w cs at' col many cells = .inr (m, c) → m ≤ 8
  | [], _, _, many, cells, m, c, h, e => by
    simp only [line, Sum.inr.injEq, Prod.mk.injEq] at e
    omega
  | x :: cs, at', col, many, cells, m, c, h, e => by
    rw [line] at e
    by_cases h1 : x ∉ signs
    · rw [if_pos h1] at e; cases e
    · rw [if_neg h1] at e
      by_cases h2 : col = w
      · rw [if_pos h2] at e; cases e
      · rw [if_neg h2] at e
        by_cases h3 : 8 < many + (if 3 < ixS x then 1 else 0)
        · rw [if_pos h3] at e; cases e
        · rw [if_neg h3] at e
          exact line_many cs _ _ _ _ m c (by omega) e
/-! ### enumerate -/
def enumK (k : Nat) (ds : List D) : List D := ds.mapIdx fun i d => .tuple [.int ((k + i : Nat) : Int), d]
theorem enumK_nil (k : Nat) : enumK k [] = [] := rfl
theorem enumK_cons (k : Nat) (d : D) (ds : List D) : enumK k (d :: ds) = .tuple [.int (k : Nat), d] :: enumK (k + 1) ds := by
  simp only [enumK, List.mapIdx_cons, Nat.add_zero]
  congr 1
  refine congrArg (fun f => List.mapIdx f ds) (funext fun i => funext fun d => ?_)
  rw [show k + (i + 1) = k + 1 + i by omega]
theorem enumK_app (k : Nat) (a b : List D) : enumK k (a ++ b) = enumK k a ++ enumK (k + a.length) b := by
  induction a generalizing k with
  | nil => simp [enumK_nil]
  | cons d a ih => rw [List.cons_append, enumK_cons, enumK_cons, ih, List.cons_append, List.length_cons, show k + (a.length + 1) = k + 1 + a.length by omega]
theorem enumD_K (ds : List D) : enumD ds = enumK 0 ds := by
  simp only [enumD, enumK, Nat.zero_add]
def chars (l : List Nat) : List D := l.map fun c => .str (S1 c)
/-! ### _law_flaw -/
abbrev gP : DG := gT (gsC (gN 6) (gsC (gN 7) gsN)) 2
theorem lf_step {t w a c k many : Nat} {x5 s6 s7 : SV} {t0 n0 : D} (hm : many ≤ 8) : lb__law_flaw_1 [.val t0, .val (.int (a : Nat)), .val (.int (many : Nat)), .val (.int (w : Nat)), .val n0, x5, .val (.int (k : Nat)), .val (.str (S1 c))] =
    if c ∉ signs then .rt (.tuple [.int ((a + k : Nat) : Int), .str mC]) [.val t0, .val (.int (a : Nat)), .val (.int (many : Nat)), .val (.int (w : Nat)), .val n0, x5, .val (.int (k : Nat)), .val (.str (S1 c))] else
    if k = w then .rt (.tuple [.int ((a + k : Nat) : Int), .str mL]) [.val t0, .val (.int (a : Nat)), .val (.int (many : Nat)), .val (.int (w : Nat)), .val n0, x5, .val (.int (k : Nat)), .val (.str (S1 c))] else
    if 8 < many + (if 3 < ixS c then 1 else 0) then .rt (.tuple [.int ((a + k : Nat) : Int), .str mP]) [.val t0, .val (.int (a : Nat)), .val (.int ((many + (if 3 < ixS c then 1 else 0) : Nat) : Int)), .val (.int (w : Nat)), .val n0, x5, .val (.int (k : Nat)), .val (.str (S1 c))] else
    .nx [.val t0, .val (.int (a : Nat)), .val (.int ((many + (if 3 < ixS c then 1 else 0) : Nat) : Int)), .val (.int (w : Nat)), .val n0, x5, .val (.int (k : Nat)), .val (.str (S1 c))] := by
  by_cases h1 : c ∈ signs
  · by_cases h2 : k = w
    · subst h2
      simp [lb__law_flaw_1, notIn_signs, h1, mL]
    · have h2' : ¬ (k : Int) = w := by omega
      have iz := zs_ix h1
      by_cases h3 : 3 < ixS c
      · have hz := iz.mpr h3
        by_cases h4 : 8 < many + 1
        · have h5 : (many : Int) + 1 = 9 := by omega
          simp [lb__law_flaw_1, notIn_signs, in_zs, h1, h2, h2', hz, h3, h4, h5, mP]
        · have h5 : ¬ (many : Int) + 1 = 9 := by omega
          simp [lb__law_flaw_1, notIn_signs, in_zs, h1, h2, h2', hz, h3, h4, h5, mP]
      · have hz : ¬ (c = 122 ∨ c = 115) := fun z => h3 (iz.mp z)
        have h5 : ¬ (many : Int) = 9 := by omega
        have h4 : ¬ 8 < many := by omega
        simp [lb__law_flaw_1, notIn_signs, in_zs, h1, h2, h2', hz, h3, h4, h5, mP]
  · simp [lb__law_flaw_1, notIn_signs, h1, mC]

theorem gP_eq {x0 x1 x2 x3 x4 x5 x6 x7 : SV} {k : Nat} {d : D} : gP (.tuple [.int (k : Nat), d]) [x0, x1, x2, x3, x4, x5, x6, x7] = some [x0, x1, x2, x3, x4, x5, .val (.int (k : Nat)), .val d] := by simp [gP]
theorem lf_line {t w a : Nat} {t0 n0 : D} {x5 : SV} : ∀ (cs : List Nat) (k many : Nat) (cells : List Int) (s6 s7 : SV), many ≤ 8 →
    (∀ p m, line w cs (a + k) k many cells = .inl (p, m) → ∃ ρ', forL gP lb__law_flaw_1 (enumK k (chars cs)) [.val t0, .val (.int (a : Nat)), .val (.int (many : Nat)), .val (.int (w : Nat)), .val n0, x5, s6, s7] = .rt (.tuple [.int (p : Nat), .str m]) ρ') ∧
    (∀ m' c', line w cs (a + k) k many cells = .inr (m', c') → ∃ s6' s7', forL gP lb__law_flaw_1 (enumK k (chars cs)) [.val t0, .val (.int (a : Nat)), .val (.int (many : Nat)), .val (.int (w : Nat)), .val n0, x5, s6, s7] = .nx [.val t0, .val (.int (a : Nat)), .val (.int (m' : Nat)), .val (.int (w : Nat)), .val n0, x5, s6', s7'])
  | [], k, many, cells, s6, s7, hm => by
    refine ⟨fun p m h => (by cases h), fun m' c' h => ?_⟩
    simp only [line, Sum.inr.injEq, Prod.mk.injEq] at h
    exact ⟨s6, s7, by rw [← h.1]; rfl⟩
  | c :: cs, k, many, cells, s6, s7, hm => by
    have st := @lf_step t w a c k many x5 s6 s7 t0 n0 hm
    rw [chars, List.map_cons, enumK_cons, line]
    by_cases h1 : c ∉ signs
    · rw [if_pos h1] at st ⊢
      refine ⟨fun p m h => ?_, fun _ _ h => by cases h⟩
      cases h
      exact ⟨_, forL_rt gP_eq st⟩
    · rw [if_neg h1] at st ⊢
      by_cases h2 : k = w
      · rw [if_pos h2] at st ⊢
        refine ⟨fun p m h => ?_, fun _ _ h => by cases h⟩
        cases h
        exact ⟨_, forL_rt gP_eq st⟩
      · rw [if_neg h2] at st ⊢
        by_cases h3 : 8 < many + (if 3 < ixS c then 1 else 0)
        · rw [if_pos h3] at st ⊢
          refine ⟨fun p m h => ?_, fun _ _ h => by cases h⟩
          cases h
          exact ⟨_, forL_rt gP_eq st⟩
        · rw [if_neg h3] at st ⊢
          have ih := lf_line (t := t) (w := w) (a := a) (t0 := t0) (n0 := n0) (x5 := x5) cs (k + 1) (many + (if 3 < ixS c then 1 else 0)) (cells ++ [(ixS c : Int)]) (.val (.int (k : Nat))) (.val (.str (S1 c))) (by omega)
          rw [forL_nx gP_eq st]
          exact ih
abbrev gQ : DG := gT (gsC (gN 4) (gsC (gN 5) gsN)) 2
theorem gQ_eq {x0 x1 x2 x3 x4 x5 x6 x7 : SV} {k : Nat} {d : D} : gQ (.tuple [.int (k : Nat), d]) [x0, x1, x2, x3, x4, x5, x6, x7] = some [x0, x1, x2, x3, .val (.int (k : Nat)), .val d, x6, x7] := by simp [gQ]
theorem lf_lines {t0 : D} : ∀ (ls : List (List Nat)) (w a n many : Nat) (cells : List Int) (x4 x5 x6 x7 : SV), many ≤ 8 → (∀ l ∈ ls, l.length ≤ 1000) →
    (∀ p m, lines w ls a n many cells = .inl (p, m) → ∃ ρ', forL gQ lb__law_flaw_2 (enumK n (ls.map fun l => .str (Tx l))) [.val t0, .val (.int (a : Nat)), .val (.int (many : Nat)), .val (.int (w : Nat)), x4, x5, x6, x7] = .rt (.tuple [.int (p : Nat), .str m]) ρ') ∧
    (∀ r, lines w ls a n many cells = .inr r → ∃ ρ', forL gQ lb__law_flaw_2 (enumK n (ls.map fun l => .str (Tx l))) [.val t0, .val (.int (a : Nat)), .val (.int (many : Nat)), .val (.int (w : Nat)), x4, x5, x6, x7] = .nx ρ')
  | [], w, a, n, many, cells, x4, x5, x6, x7, hm, hl => ⟨fun p m h => (by cases h), fun r h => ⟨_, rfl⟩⟩
  | l :: ls, w, a, n, many, cells, x4, x5, x6, x7, hm, hl => by
    rw [List.map_cons, enumK_cons, lines]
    have hl1 := hl l List.mem_cons_self
    have len : oLen [.str (Tx l)] = .v (.int (l.length : Nat)) := by rw [oLen_s (by rw [Tx_len]; omega), Tx_len]
    by_cases h1 : n = 8
    · rw [if_pos h1]
      subst h1
      refine ⟨fun p m h => ?_, fun _ h => by cases h⟩
      cases h
      exact ⟨_, forL_rt gQ_eq (by simp [lb__law_flaw_2, mR]; rfl)⟩
    · rw [if_neg h1]
      have h1' : ¬ (n : Int) = 8 := by omega
      obtain ⟨k1, k2⟩ := @lf_line 0 w a t0 (.int (n : Nat)) (.val (.str (Tx l))) l 0 many cells x6 x7 hm
      rw [Nat.add_zero] at k1 k2
      have en : enumD (l.map fun c => (.str (S1 c) : D)) = enumK 0 (chars l) := enumD_K _
      cases e : line w l a 0 many cells with
      | inl pm =>
        obtain ⟨p, m⟩ := pm
        obtain ⟨ρ', q⟩ := k1 p m e
        refine ⟨fun p' m' h => ?_, fun _ h => by cases h⟩
        cases h
        exact ⟨_, forL_rt gQ_eq (by simp [lb__law_flaw_2, h1', en]; rw [q]; rfl)⟩
      | inr mc =>
        obtain ⟨m, c⟩ := mc
        obtain ⟨s6', s7', q⟩ := k2 m c e
        simp only
        have hm' := line_many l _ _ _ _ m c hm e
        have ee : (Tx l = Str.ofString "") ↔ l = [] := by rw [empty_eq, Tx_inj]
        by_cases h2 : l = [] ∨ (0 < n ∧ l.length < w)
        · rw [if_pos h2]
          refine ⟨fun p' m' h => ?_, fun _ h => by cases h⟩
          cases h
          refine ⟨_, forL_rt gQ_eq (ρ2 := [.val t0, .val (.int (a : Nat)), .val (.int (m : Nat)), .val (.int (w : Nat)), .val (.int (n : Nat)), .val (.str (Tx l)), s6', s7']) ?_⟩
          simp [lb__law_flaw_2, h1', en]
          rw [q]
          rcases h2 with h2 | ⟨h2, h3⟩
          · simp [ee.mpr h2, len, mS]
            rw [← ee.mpr h2, len]
            simp
          · by_cases h4 : l = []
            · simp [ee.mpr h4, len, mS]
              rw [← ee.mpr h4, len]
              simp
            · have h4' : ¬ Tx l = Str.ofString "" := fun z => h4 (ee.mp z)
              simp [h4', h2, h3, len, mS]
        · rw [if_neg h2]
          have h4 : ¬ l = [] := fun z => h2 (.inl z)
          have h4' : ¬ Tx l = Str.ofString "" := fun z => h4 (ee.mp z)
          have h5 : ¬ (0 < n ∧ l.length < w) := fun z => h2 (.inr z)
          have ih := lf_lines (t0 := t0) ls l.length (a + l.length + 1) (n + 1) m c (.val (.int (n : Nat))) (.val (.str (Tx l))) s6' s7' hm' (fun x hx => hl x (List.mem_cons_of_mem _ hx))
          have st : lb__law_flaw_2 [.val t0, .val (.int (a : Nat)), .val (.int (many : Nat)), .val (.int (w : Nat)), .val (.int (n : Nat)), .val (.str (Tx l)), x6, x7] = .nx [.val t0, .val (.int ((a + l.length + 1 : Nat) : Int)), .val (.int (m : Nat)), .val (.int (l.length : Nat)), .val (.int (n : Nat)), .val (.str (Tx l)), s6', s7'] := by
            simp [lb__law_flaw_2, h1', en]
            rw [q]
            by_cases h6 : 0 < n
            · have h7 : ¬ l.length < w := fun z => h5 ⟨h6, z⟩
              simp [h4', h6, h7, len]
            · simp [h4', h6, len]
          rw [forL_nx gQ_eq st]
          exact ih
@[simp] theorem oI0_i (g : Int → Int → Int) (a b : Int) : oI0 g [.int a, .int b] = .v (.int (g a b)) := rfl
/-! ### board_in -/
def flawX (p : Nat) (m : Str) : Exn := ⟨Str.ofString "Flaw", [(Str.ofString "message", .str m), (Str.ofString "place", .int (p : Nat))]⟩
def wV : Option Nat → D
  | none => .none
  | some w => .int (w : Nat)
def wN : Option Nat → Nat
  | none => 8
  | some w => w
theorem iV_wV (o : Option Nat) : oIsN [wV o, .none] = .v (.bool o.isNone) := by cases o <;> rfl
theorem nV_wV (o : Option Nat) : oNotN [wV o, .none] = .v (.bool o.isSome) := by cases o <;> rfl
abbrev stB (t : List Nat) (cells : List Int) (many row col : Nat) (o : Option Nat) (s6 s7 : SV) : Sl := [.val (.str (Tx t)), .own (.list (cells.map .int)), .val (.int (many : Nat)), .val (.int (row : Nat)), .val (.int (col : Nat)), .val (wV o), s6, s7]
theorem bi_step {t : List Nat} {cells : List Int} {many row col k c : Nat} {o : Option Nat} (hc : c ≠ 10) (hl : cells.length < 100000) : lb_board_in_1 (stB t cells many row col o (.val (.int (k : Nat))) (.val (.str (S1 c)))) =
    if c ∉ signs then .ex (flawX k mC) (stB t cells many row col o (.val (.int (k : Nat))) (.val (.str (S1 c)))) else
    if col = wN o then .ex (flawX k mL) (stB t cells many row col o (.val (.int (k : Nat))) (.val (.str (S1 c)))) else
    if 8 < many + (if 3 < ixS c then 1 else 0) then .ex (flawX k mP) (stB t cells (many + (if 3 < ixS c then 1 else 0)) row col o (.val (.int (k : Nat))) (.val (.str (S1 c)))) else
    .nx (stB t (cells ++ [(ixS c : Int)]) (many + (if 3 < ixS c then 1 else 0)) row (col + 1) o (.val (.int (k : Nat))) (.val (.str (S1 c)))) := by
  have e10 : oEq [.str (S1 c), .str (Str.ofString "\n")] = .v (.bool false) := by rw [eq_nl]; simp [hc]
  by_cases h1 : c ∈ signs
  · have ix := ix_signs h1
    have ap := mAppend_l (ds := cells.map PyData.int) (.int (ixS c : Nat)) (by simpa using hl)
    have ew : oEq [.int (col : Nat), if o.isNone = true then .int 8 else wV o] = .v (.bool (decide (col = wN o))) := by
      cases o with
      | none =>
        simp [wN]
        exact decide_eq_decide.mpr (by omega)
      | some w =>
        simp [wN, wV]
        exact decide_eq_decide.mpr (by omega)
    by_cases h2 : col = wN o
    · cases o with
      | none =>
        have : (col : Int) = 8 := by simp [wN] at h2; omega
        simp [lb_board_in_1, e10, notIn_signs, g_SIGNS, g_MOST_SIDE, h1, h2, this, wV, wN, mL, flawX]
      | some w =>
        simp [wN] at h2
        subst h2
        simp [lb_board_in_1, e10, notIn_signs, g_SIGNS, g_MOST_SIDE, h1, wV, wN, mL, flawX]
    · by_cases h3 : 3 < ixS c
      · have h3' : (3 : Int) < (ixS c : Nat) := by omega
        by_cases h4 : 8 < many + 1
        · have h5 : (8 : Int) < (many : Int) + 1 := by omega
          cases o with
          | none =>
            have h2' : ¬ (col : Int) = 8 := by simp [wN] at h2; omega
            simp [lb_board_in_1, e10, notIn_signs, g_SIGNS, g_MOST_SIDE, g_END, g_MOST_PARTERS, h1, h2, h2', wV, ix, h3, h3', h4, h5, mP, flawX]
          | some w =>
            have h2' : ¬ (col : Int) = w := by simp [wN] at h2; omega
            simp [lb_board_in_1, e10, notIn_signs, g_SIGNS, g_MOST_SIDE, g_END, g_MOST_PARTERS, h1, h2, h2', wV, ix, h3, h3', h4, h5, mP, flawX]
        · have h5 : ¬ (8 : Int) < (many : Int) + 1 := by omega
          cases o with
          | none =>
            have h2' : ¬ (col : Int) = 8 := by simp [wN] at h2; omega
            simp [lb_board_in_1, e10, notIn_signs, g_SIGNS, g_MOST_SIDE, g_END, g_MOST_PARTERS, h1, h2, h2', wV, ix, h3, h3', h4, h5, ap]
          | some w =>
            have h2' : ¬ (col : Int) = w := by simp [wN] at h2; omega
            simp [lb_board_in_1, e10, notIn_signs, g_SIGNS, g_MOST_SIDE, g_END, g_MOST_PARTERS, h1, h2, h2', wV, ix, h3, h3', h4, h5, ap]
      · have h3' : ¬ (3 : Int) < (ixS c : Nat) := by omega
        by_cases h4 : 8 < many
        · have h5 : (8 : Int) < (many : Int) := by omega
          cases o with
          | none =>
            have h2' : ¬ (col : Int) = 8 := by simp [wN] at h2; omega
            simp [lb_board_in_1, e10, notIn_signs, g_SIGNS, g_MOST_SIDE, g_END, g_MOST_PARTERS, h1, h2, h2', wV, ix, h3, h3', h4, h5, mP, flawX]
          | some w =>
            have h2' : ¬ (col : Int) = w := by simp [wN] at h2; omega
            simp [lb_board_in_1, e10, notIn_signs, g_SIGNS, g_MOST_SIDE, g_END, g_MOST_PARTERS, h1, h2, h2', wV, ix, h3, h3', h4, h5, mP, flawX]
        · have h5 : ¬ (8 : Int) < (many : Int) := by omega
          cases o with
          | none =>
            have h2' : ¬ (col : Int) = 8 := by simp [wN] at h2; omega
            simp [lb_board_in_1, e10, notIn_signs, g_SIGNS, g_MOST_SIDE, g_END, g_MOST_PARTERS, h1, h2, h2', wV, ix, h3, h3', h4, h5, ap]
          | some w =>
            have h2' : ¬ (col : Int) = w := by simp [wN] at h2; omega
            simp [lb_board_in_1, e10, notIn_signs, g_SIGNS, g_MOST_SIDE, g_END, g_MOST_PARTERS, h1, h2, h2', wV, ix, h3, h3', h4, h5, ap]
  · simp [lb_board_in_1, e10, notIn_signs, g_SIGNS, h1, mC, flawX]
theorem s10 : (S1 10 = Str.ofString "\n") = True := eq_true (by decide +kernel)
theorem e10' : oEq [.str (S1 10), .str (Str.ofString "\n")] = .v (.bool true) := by rw [eq_nl]; rfl
theorem bi_nl {t : List Nat} {cells : List Int} {many row col k : Nat} {o : Option Nat} (ht : t.length ≤ 1000) :
    (col = 0 ∨ (o.isSome = true ∧ col < wN o) → ∃ ρ', lb_board_in_1 (stB t cells many row col o (.val (.int (k : Nat))) (.val (.str (S1 10)))) = .ex (flawX k mS) ρ') ∧
    (¬ (col = 0 ∨ (o.isSome = true ∧ col < wN o)) → (row + 1 = 8 ∧ k < t.length → ∃ ρ', lb_board_in_1 (stB t cells many row col o (.val (.int (k : Nat))) (.val (.str (S1 10)))) = .ex (flawX (k + 1) mR) ρ') ∧
      (¬ (row + 1 = 8 ∧ k < t.length) → lb_board_in_1 (stB t cells many row col o (.val (.int (k : Nat))) (.val (.str (S1 10)))) = .nx (stB t cells many (row + 1) 0 (some col) (.val (.int (k : Nat))) (.val (.str (S1 10)))))) := by
  have len : oLen [.str (Tx t)] = .v (.int (t.length : Nat)) := by rw [oLen_s (by rw [Tx_len]; omega), Tx_len]
  refine ⟨fun h => ?_, fun h => ⟨fun h2 => ?_, fun h2 => ?_⟩⟩
  · rcases h with h | ⟨h1, h2⟩
    · subst h
      exact ⟨_, by simp [lb_board_in_1, s10, e10', flawX, mS]; rfl⟩
    · cases o with
      | none => cases h1
      | some w =>
        simp [wN] at h2
        by_cases h0 : col = 0
        · subst h0
          exact ⟨_, by simp [lb_board_in_1, s10, e10', flawX, mS]; rfl⟩
        · exact ⟨_, by simp [lb_board_in_1, s10, e10', flawX, mS, h0, wV, h2]; rfl⟩
  · have h0 : ¬ col = 0 := fun z => h (.inl z)
    have h8 : (row : Int) + 1 = 8 := by omega
    cases o with
    | none => exact ⟨_, by simp [lb_board_in_1, s10, e10', flawX, mR, h0, wV, len, h8, h2.2, g_MOST_SIDE]; rfl⟩
    | some w =>
      have hw : ¬ col < w := fun z => h (.inr ⟨rfl, z⟩)
      exact ⟨_, by simp [lb_board_in_1, s10, e10', flawX, mR, h0, wV, len, h8, h2.2, hw, g_MOST_SIDE]; rfl⟩
  · have h0 : ¬ col = 0 := fun z => h (.inl z)
    by_cases h8 : (row : Int) + 1 = 8
    · have hk : ¬ k < t.length := fun z => h2 ⟨by omega, z⟩
      cases o with
      | none => simp [lb_board_in_1, s10, e10', h0, wV, len, h8, hk, g_MOST_SIDE]
      | some w =>
        have hw : ¬ col < w := fun z => h (.inr ⟨rfl, z⟩)
        simp [lb_board_in_1, s10, e10', h0, wV, len, h8, hk, hw, g_MOST_SIDE]
    · cases o with
      | none => simp [lb_board_in_1, s10, e10', h0, wV, len, h8, g_MOST_SIDE]
      | some w =>
        have hw : ¬ col < w := fun z => h (.inr ⟨rfl, z⟩)
        simp [lb_board_in_1, s10, e10', h0, wV, len, h8, hw, g_MOST_SIDE]
theorem bi_line {t : List Nat} {row : Nat} {o : Option Nat} (ds : List D) : ∀ (cs : List Nat) (k col many : Nat) (cells : List Int) (s6 s7 : SV), 10 ∉ cs → cells.length + cs.length < 100000 →
    (∀ p m, line (wN o) cs k col many cells = .inl (p, m) → ∃ ρ', forL gP lb_board_in_1 (enumK k (chars cs) ++ ds) (stB t cells many row col o s6 s7) = .ex (flawX p m) ρ') ∧
    (∀ m' c', line (wN o) cs k col many cells = .inr (m', c') → ∃ s6' s7', forL gP lb_board_in_1 (enumK k (chars cs) ++ ds) (stB t cells many row col o s6 s7) = forL gP lb_board_in_1 ds (stB t c' m' row (col + cs.length) o s6' s7'))
  | [], k, col, many, cells, s6, s7, _, _ => by
    refine ⟨fun p m h => (by cases h), fun m' c' h => ?_⟩
    simp only [line, Sum.inr.injEq, Prod.mk.injEq] at h
    exact ⟨s6, s7, by rw [← h.1, ← h.2]; rfl⟩
  | c :: cs, k, col, many, cells, s6, s7, h10, hl => by
    simp only [List.length_cons] at hl
    have hc : c ≠ 10 := fun z => h10 (by rw [z]; exact List.mem_cons_self)
    have st := @bi_step t cells many row col k c o hc (by omega)
    rw [chars, List.map_cons, enumK_cons, line, List.cons_append]
    by_cases h1 : c ∉ signs
    · rw [if_pos h1] at st ⊢
      refine ⟨fun p m h => ?_, fun _ _ h => by cases h⟩
      cases h
      exact ⟨_, forL_ex gP_eq st⟩
    · rw [if_neg h1] at st ⊢
      by_cases h2 : col = wN o
      · rw [if_pos h2] at st ⊢
        refine ⟨fun p m h => ?_, fun _ _ h => by cases h⟩
        cases h
        exact ⟨_, forL_ex gP_eq st⟩
      · rw [if_neg h2] at st ⊢
        by_cases h3 : 8 < many + (if 3 < ixS c then 1 else 0)
        · rw [if_pos h3] at st ⊢
          refine ⟨fun p m h => ?_, fun _ _ h => by cases h⟩
          cases h
          exact ⟨_, forL_ex gP_eq st⟩
        · rw [if_neg h3] at st ⊢
          have ih := bi_line (t := t) (row := row) (o := o) ds cs (k + 1) (col + 1) (many + (if 3 < ixS c then 1 else 0)) (cells ++ [(ixS c : Int)]) (.val (.int (k : Nat))) (.val (.str (S1 c))) (fun z => h10 (List.mem_cons_of_mem _ z)) (by simp; omega)
          rw [forL_nx gP_eq st, List.length_cons, show col + (cs.length + 1) = col + 1 + cs.length by omega]
          exact ih
def whole (ls : List (List Nat)) : List Nat := ls.flatMap fun l => l ++ [10]
theorem whole_cons (l : List Nat) (ls : List (List Nat)) : whole (l :: ls) = l ++ (10 :: whole ls) := by simp [whole]
theorem line_len {w : Nat} : ∀ (cs : List Nat) (at' col many : Nat) (cells : List Int) (m : Nat) (c : List Int), line w cs at' col many cells = .inr (m, c) → c = cells ++ cs.map (fun x => (ixS x : Int)) ∧ (∀ x ∈ cs, x ∈ signs) ∧ (col ≤ w → col + cs.length ≤ w) ∧ m = many + (cs.filter fun x => decide (3 < ixS x)).length
  | [], at', col, many, cells, m, c, e => by
    simp only [line, Sum.inr.injEq, Prod.mk.injEq] at e
    obtain ⟨rfl, rfl⟩ := e
    simp
  | x :: cs, at', col, many, cells, m, c, e => by
    rw [line] at e
    by_cases h1 : x ∉ signs
    · rw [if_pos h1] at e; cases e
    · rw [if_neg h1] at e
      by_cases h2 : col = w
      · rw [if_pos h2] at e; cases e
      · rw [if_neg h2] at e
        by_cases h3 : 8 < many + (if 3 < ixS x then 1 else 0)
        · rw [if_pos h3] at e; cases e
        · rw [if_neg h3] at e
          obtain ⟨q1, q2, q3, q4⟩ := line_len cs _ _ _ _ m c e
          refine ⟨by rw [q1]; simp, fun y hy => ?_, fun z => ?_, ?_⟩
          · rcases List.mem_cons.mp hy with rfl | hy
            · exact Classical.not_not.mp h1
            · exact q2 y hy
          · have := q3 (by omega)
            simp; omega
          · rw [q4]
            by_cases h4 : 3 < ixS x <;> simp [h4] <;> omega
theorem bi_lines {t : List Nat} (ht : t.length ≤ 1000) : ∀ (ls : List (List Nat)) (o : Option Nat) (a row many : Nat) (cells : List Int) (s6 s7 : SV), (∀ l ∈ ls, 10 ∉ l) → (row < 8 ∨ ls = []) → (o.isSome = true ↔ 0 < row) → a + (whole ls).length = t.length + 1 → cells.length + (whole ls).length < 100000 →
    (∀ p m, lines (wN o) ls a row many cells = .inl (p, m) → ∃ ρ', forL gP lb_board_in_1 (enumK a (chars (whole ls))) (stB t cells many row 0 o s6 s7) = .ex (flawX p m) ρ') ∧
    (∀ w n cs, lines (wN o) ls a row many cells = .inr (w, n, cs) → ∃ m' o' s6' s7', wN o' = w ∧ (o'.isSome = true ↔ 0 < n) ∧ forL gP lb_board_in_1 (enumK a (chars (whole ls))) (stB t cells many row 0 o s6 s7) = .nx (stB t cs m' n 0 o' s6' s7'))
  | [], o, a, row, many, cells, s6, s7, _, _, ho, _, _ => by
    refine ⟨fun p m h => (by cases h), fun w n cs h => ?_⟩
    simp only [lines, Sum.inr.injEq, Prod.mk.injEq] at h
    obtain ⟨rfl, rfl, rfl⟩ := h
    exact ⟨many, o, s6, s7, rfl, ho, rfl⟩
  | l :: ls, o, a, row, many, cells, s6, s7, h10, h8, ho, ha, hl => by
    rw [whole_cons] at ha hl
    simp only [List.length_append, List.length_cons] at ha hl
    have hr : row < 8 := by
      rcases h8 with h8 | h8
      · exact h8
      · cases h8
    have hz : (o.isSome = true ∧ l.length < wN o) ↔ (0 < row ∧ l.length < wN o) := by rw [ho]
    have e1 : enumK a (chars (whole (l :: ls))) = enumK a (chars l) ++ (.tuple [.int ((a + l.length : Nat) : Int), .str (S1 10)] :: enumK (a + l.length + 1) (chars (whole ls))) := by
      rw [whole_cons, chars, List.map_append, List.map_cons, enumK_app, enumK_cons, List.length_map]
      rfl
    obtain ⟨k1, k2⟩ := @bi_line t row o (.tuple [.int ((a + l.length : Nat) : Int), .str (S1 10)] :: enumK (a + l.length + 1) (chars (whole ls))) l a 0 many cells s6 s7 (h10 l List.mem_cons_self) (by omega)
    rw [lines, if_neg (by omega), e1]
    cases e : line (wN o) l a 0 many cells with
    | inl pm =>
      obtain ⟨p, m⟩ := pm
      refine ⟨fun p' m' h => ?_, fun _ _ _ h => by cases h⟩
      cases h
      exact k1 p m e
    | inr mc =>
      obtain ⟨m, c⟩ := mc
      obtain ⟨s6', s7', q⟩ := k2 m c e
      have hlen := (line_len l _ _ _ _ m c e).1
      rw [Nat.zero_add] at q
      simp only
      rw [q]
      obtain ⟨n1, n2⟩ := @bi_nl t c m row l.length (a + l.length) o ht
      have hc0 : (l.length = 0) ↔ l = [] := List.length_eq_zero_iff
      by_cases h2 : l = [] ∨ (0 < row ∧ l.length < wN o)
      · rw [if_pos h2]
        refine ⟨fun p' m' h => ?_, fun _ _ _ h => by cases h⟩
        cases h
        obtain ⟨ρ', q2⟩ := n1 (by rw [hc0, hz]; exact h2)
        exact ⟨ρ', forL_ex gP_eq q2⟩
      · rw [if_neg h2]
        obtain ⟨n3, n4⟩ := n2 (by rw [hc0, hz]; exact h2)
        by_cases h3 : row + 1 = 8 ∧ a + l.length < t.length
        · obtain ⟨ρ', q2⟩ := n3 h3
          cases ls with
          | nil => simp [whole] at ha; omega
          | cons l2 ls2 =>
            rw [lines, if_pos h3.1]
            refine ⟨fun p' m' h => ?_, fun _ _ _ h => by cases h⟩
            cases h
            exact ⟨ρ', forL_ex gP_eq q2⟩
        · rw [forL_nx gP_eq (n4 h3)]
          have ih := bi_lines ht ls (some l.length) (a + l.length + 1) (row + 1) m c (.val (.int ((a + l.length : Nat) : Int))) (.val (.str (S1 10))) (fun x hx => h10 x (List.mem_cons_of_mem _ hx)) (by
            cases ls with
            | nil => exact .inr rfl
            | cons l2 ls2 =>
              rw [whole_cons] at ha
              simp only [List.length_append, List.length_cons] at ha
              exact .inl (by omega)) (by simp) (by omega) (by rw [hlen]; simp; omega)
          exact ih
/-! ### the split -/
theorem spl10 : ∀ (t acc : List Nat), 10 ∉ acc → whole (spl [10] 0 acc t) = acc ++ t ++ [10] ∧ (∀ l ∈ spl [10] 0 acc t, 10 ∉ l) ∧ spl [10] 0 acc t ≠ []
  | [], acc, h => by
    rw [spl_nil]
    simp [whole, h]
  | c :: r, acc, h => by
    by_cases hc : c = 10
    · subst hc
      rw [spl_hit (by rfl)]
      obtain ⟨q1, q2, q3⟩ := spl10 r [] (by simp)
      refine ⟨?_, fun l hl => ?_, by simp⟩
      · rw [whole_cons, show ([10] : List Nat).length - 1 = 0 from rfl, q1]; simp
      · rcases List.mem_cons.mp hl with rfl | hl
        · exact h
        · exact q2 l hl
    · rw [spl_miss (by simp [pre, hc])]
      obtain ⟨q1, q2, q3⟩ := spl10 r (acc ++ [c]) (by simp; exact ⟨h, fun z => hc z.symm⟩)
      exact ⟨by rw [q1]; simp, q2, q3⟩
def rowsOf (t : List Nat) : List (List Nat) := spl [10] 0 [] t
def told (t : List Nat) : (Nat × Str) ⊕ (Nat × Nat × List Int) := lines 8 (rowsOf t) 0 0 0 []
theorem split_rows (t : List Nat) : Txt.split (Tx t) (Str.ofString "\n") = (rowsOf t).map Tx := by
  refine map_tl_inj ?_
  rw [nl_eq, split_spl (Tx t) (Tx [10]) (by simp) (kind_ok (by decide +kernel)), List.map_map]
  exact (List.map_id _).symm
end G

set_option Elab.async false
set_option linter.all false
set_option maxRecDepth 100000
set_option maxHeartbeats 2000000
namespace G
open PySem PySem.Spec PyProof.Rows L2 PD TL
theorem lines_n : ∀ (ls : List (List Nat)) (w a n many : Nat) (cells : List Int) (w' n' : Nat) (cs : List Int), lines w ls a n many cells = .inr (w', n', cs) → n' = n + ls.length
  | [], w, a, n, many, cells, w', n', cs, h => by
    simp only [lines, Sum.inr.injEq, Prod.mk.injEq] at h
    simp [h.2.1]
  | l :: ls, w, a, n, many, cells, w', n', cs, h => by
    rw [lines] at h
    by_cases h1 : n = 8
    · rw [if_pos h1] at h; cases h
    · rw [if_neg h1] at h
      cases e : line w l a 0 many cells with
      | inl pm => rw [e] at h; cases h
      | inr mc =>
        obtain ⟨m, c⟩ := mc
        rw [e] at h
        simp only at h
        by_cases h2 : l = [] ∨ (0 < n ∧ l.length < w)
        · rw [if_pos h2] at h; cases h
        · rw [if_neg h2] at h
          have := lines_n ls _ _ _ _ _ _ _ _ h
          rw [this, List.length_cons]; omega
theorem oAdd_s (a b : List Nat) (h : a.length + b.length ≤ 100000) : oAdd [.str (Tx a), .str (Tx b)] = .v (.str (Tx (a ++ b))) := by
  simp only [oAdd, vOr, oI0, oAddS, Tx_len, Tx_app, h, if_true]
theorem board_in_t {t : List Nat} (ht : t.length ≤ 1000) : (∀ p m, told t = .inl (p, m) → fo (f_board_in [.str (Tx t)]) = .exc (flawX p m)) ∧ (∀ w n cs, told t = .inr (w, n, cs) → fo (f_board_in [.str (Tx t)]) = .ret (brd w n cs)) := by
  obtain ⟨q1, q2, q3⟩ := spl10 t [] (by simp)
  rw [List.nil_append] at q1
  have hw : (whole (rowsOf t)).length = t.length + 1 := by
    have := congrArg List.length q1
    rw [List.length_append] at this
    exact this
  obtain ⟨k1, k2⟩ := bi_lines ht (rowsOf t) none 0 0 0 [] .no .no q2 (.inl (by decide)) (by simp) (by omega) (by simp only [List.length_nil]; omega)
  have ea : oAdd [.str (Tx t), .str (Str.ofString "\n")] = .v (.str (Tx (t ++ [10]))) := by rw [nl_eq]; exact oAdd_s _ _ (by simp; omega)
  have ec : enumD ((t ++ [10]).map fun c => (.str (S1 c) : D)) = enumK 0 (chars (whole (rowsOf t))) := by rw [enumD_K]; unfold rowsOf; rw [q1]; rfl
  have ei : enumD (List.map (fun c => (PyData.str (S1 c))) t ++ [PyData.str (S1 10)]) = enumK 0 (chars (whole (rowsOf t))) := by rw [← ec]; simp
  refine ⟨fun p m h => ?_, fun w n cs h => ?_⟩
  · obtain ⟨ρ', q⟩ := k1 p m h
    simp [f_board_in, fo_run, den_board_in, ea, ei]
    show SO.ro (SO.seq _ (forL gP lb_board_in_1 _ (stB t [] 0 0 0 none .no .no))) = _
    rw [q]; rfl
  · obtain ⟨m', o', s6', s7', e1, e2, q⟩ := k2 w n cs h
    have hn := lines_n _ _ _ _ _ _ _ _ _ h
    have hp : 0 < n := by
      have : 0 < (rowsOf t).length := List.length_pos_iff.mpr q3
      omega
    cases o' with
    | none => simp at e2; omega
    | some w' =>
      simp only [wN] at e1
      subst e1
      simp [f_board_in, fo_run, den_board_in, ea, ei]
      show SO.ro (SO.seq _ (forL gP lb_board_in_1 _ (stB t [] 0 0 0 none .no .no))) = _
      rw [q]
      simp [brd, wV]
theorem oSplit_t {t : List Nat} (ht : t.length ≤ 1000) : oSplit [.str (Tx t), .str (Str.ofString "\n")] = .n (.list ((rowsOf t).map fun l => .str (Tx l))) := by
  have e : (Str.ofString "\n").length = 1 := by rw [nl_eq]; rfl
  simp only [oSplit, e, Tx_len, split_rows, List.map_map]
  rw [if_pos ⟨by decide, by omega⟩]
  rfl
theorem rows_len {t : List Nat} {l : List Nat} (h : l ∈ rowsOf t) : l.length ≤ t.length := by
  obtain ⟨q1, _, _⟩ := spl10 t [] (by simp)
  have hw := congrArg List.length q1
  simp only [List.length_append, List.length_nil, List.length_cons] at hw
  have key : ∀ (ls : List (List Nat)), l ∈ ls → l.length + 1 ≤ (whole ls).length := by
    intro ls
    induction ls with
    | nil => intro h; cases h
    | cons x xs ih =>
      intro h
      rw [whole_cons, List.length_append, List.length_cons]
      rcases List.mem_cons.mp h with rfl | h
      · omega
      · have := ih h; omega
  have := key _ h
  unfold rowsOf at this
  omega
theorem law_flaw_t {t : List Nat} (ht : t.length ≤ 1000) : (∀ p m, told t = .inl (p, m) → fo (f__law_flaw [.str (Tx t)]) = .ret (.tuple [.int (p : Nat), .str m])) ∧ (∀ r, told t = .inr r → fo (f__law_flaw [.str (Tx t)]) = .ret .none) := by
  obtain ⟨k1, k2⟩ := lf_lines (t0 := .str (Tx t)) (rowsOf t) 8 0 0 0 [] .no .no .no .no (by decide) (fun l hl => by have := rows_len hl; omega)
  have es := oSplit_t ht
  have en : enumD ((rowsOf t).map fun l => (.str (Tx l) : D)) = enumK 0 ((rowsOf t).map fun l => .str (Tx l)) := enumD_K _
  refine ⟨fun p m h => ?_, fun r h => ?_⟩
  · obtain ⟨ρ', q⟩ := k1 p m h
    simp [f__law_flaw, fo_run, den__law_flaw, es, en]
    rw [show ([SV.val (PyData.str (Tx t)), SV.val (PyData.int 0), SV.val (PyData.int 0), SV.val (PyData.int 8), SV.no, SV.no, SV.no, SV.no] : Sl) = [.val (.str (Tx t)), .val (.int ((0 : Nat) : Int)), .val (.int ((0 : Nat) : Int)), .val (.int ((8 : Nat) : Int)), .no, .no, .no, .no] from rfl, q]
    rfl
  · obtain ⟨ρ', q⟩ := k2 r h
    simp [f__law_flaw, fo_run, den__law_flaw, es, en]
    rw [show ([SV.val (PyData.str (Tx t)), SV.val (PyData.int 0), SV.val (PyData.int 0), SV.val (PyData.int 8), SV.no, SV.no, SV.no, SV.no] : Sl) = [.val (.str (Tx t)), .val (.int ((0 : Nat) : Int)), .val (.int ((0 : Nat) : Int)), .val (.int ((8 : Nat) : Int)), .no, .no, .no, .no] from rfl, q]
    rfl
/-! ### is_text, flaw, board_of -/
theorem is_text_t {t : List Nat} (ht : t.length ≤ 1000) : fo (f_is_text [.str (Tx t)]) = .ret (.bool (decide (t.length ≤ 200))) := by
  have len : oLen [.str (Tx t)] = .v (.int (t.length : Nat)) := by rw [oLen_s (by rw [Tx_len]; omega), Tx_len]
  simp [f_is_text, fo_run, den_is_text, g_MOST_TEXT, len]
  omega
def flawD (t : List Nat) : D := match told t with
  | .inl (p, m) => .tuple [.int (p : Nat), .str m]
  | .inr _ => .none
theorem pl_ms : (Str.ofString "place" == Str.ofString "message") = false := by decide +kernel
theorem flaw_t {t : List Nat} (ht : t.length ≤ 200) : fo (f_flaw [.str (Tx t)]) = .ret (flawD t) := by
  obtain ⟨k1, k2⟩ := board_in_t (t := t) (by omega)
  have e1 : fo (f_is_text [.str (Tx t)]) = .ret (.bool true) := by rw [is_text_t (by omega), decide_eq_true ht]
  cases h : told t with
  | inl pm =>
    obtain ⟨p, m⟩ := pm
    have q := k1 p m h
    simp only [flawD, h]
    simp [f_flaw, fo_run, den_flaw, e1, need_t, q, flawX, hx2, List.lookup, pl_ms]
  | inr r =>
    obtain ⟨w, n, cs⟩ := r
    have q := k2 w n cs h
    simp only [flawD, h]
    simp [f_flaw, fo_run, den_flaw, e1, need_t, q]
def boardD (t : List Nat) : D := match told t with
  | .inl _ => .none
  | .inr (w, n, cs) => brd w n cs
theorem board_of_t {t : List Nat} (ht : t.length ≤ 200) : fo (f_board_of [.str (Tx t)]) = .ret (boardD t) := by
  obtain ⟨k1, k2⟩ := board_in_t (t := t) (by omega)
  have e1 : fo (f_is_text [.str (Tx t)]) = .ret (.bool true) := by rw [is_text_t (by omega), decide_eq_true ht]
  have e2 := flaw_t ht
  cases h : told t with
  | inl pm =>
    obtain ⟨p, m⟩ := pm
    simp only [flawD, h] at e2
    simp only [boardD, h]
    simp [f_board_of, fo_run, den_board_of, e1, need_t, e2]
  | inr r =>
    obtain ⟨w, n, cs⟩ := r
    have q := k2 w n cs h
    simp only [flawD, h] at e2
    simp only [boardD, h]
    simp [f_board_of, fo_run, den_board_of, e1, need_t, e2, q]
end G

set_option Elab.async false
set_option linter.all false
set_option maxRecDepth 100000
set_option maxHeartbeats 2000000
namespace G
open PySem PySem.Spec PyProof.Rows L2 PD TL
/-! ### drawn -/
def sg (x : Int) : Nat := signs.getD x.toNat 0
theorem ix_sg {x : Int} (h0 : 0 ≤ x) (h5 : x ≤ 5) : oIx [.str (Str.ofString "./\\#zs"), .int x] = .v (.str (S1 (sg x))) := by
  have key : ∀ n : Nat, n ≤ 5 → oIx [.str (Tx signs), .int (n : Int)] = .v (.str (S1 (sg (n : Int)))) := by
    intro n hn
    have e1 : (Tx signs).length ≤ 100000 := by decide +kernel
    have e2 : atI (Tx signs).cps.toList (n : Int) = some (sg (n : Int)) := by
      have : (Tx signs).cps.toList = signs := rfl
      rw [this]
      refine PD.atI_nat ?_
      simp only [sg, Int.toNat_natCast]
      rw [List.getD_eq_getElem?_getD]
      have : n < signs.length := by simp [signs]; omega
      simp [this]
    simp only [oIx, vOr, oIxL, oIxT, oIxS, if_pos e1, e2]
  rw [signs_eq]
  have := key x.toNat (by omega)
  rwa [Int.toNat_of_nonneg h0] at this
theorem cut_tup (ds : List D) (a b : Nat) (h1 : a ≤ ds.length) (h2 : a + b ≤ ds.length) : oSl11 [.tuple ds, .int (a : Nat), .int ((a : Int) + (b : Nat))] = .v (.tuple ((ds.drop a).take b)) := by
  have e1 : HT.sIx ds.length 0 (some (a : Int)) = a := by rw [HT.sIx_nat]; omega
  have e2 : HT.sIx ds.length ds.length (some ((a : Int) + (b : Nat))) = a + b := by
    rw [show ((a : Int) + (b : Nat)) = ((a + b : Nat) : Int) by omega, HT.sIx_nat]; omega
  simp only [oSl11, PD.cutD, cutL, e1, e2]
  rw [show a + b - a = b by omega]
theorem join_S1 (xs : List Nat) (h : xs.length ≤ 50000) : oJoin [.str (Str.ofString ""), .list (xs.map fun c => .str (S1 c))] = .v (.str (Tx xs)) := by
  have e : strsOf (xs.map fun c => (.str (S1 c) : D)) = some (xs.map S1) := strsOf_map' xs S1
  have e2 : Txt.join (Str.ofString "") (xs.map S1) = Tx xs := by
    refine ext_tl ?_
    rw [join_eq, tl_join, List.map_map]
    have : tl (Str.ofString "") = [] := by rw [empty_eq]
    rw [this]
    clear e h this
    induction xs with
    | nil => rfl
    | cons x xs ih =>
      cases xs with
      | nil => rfl
      | cons y ys =>
        simp only [List.map_cons, joinL] at ih ⊢
        rw [ih]
        rfl
  have e3 : ((xs.map S1).map (·.length)).sum = xs.length := by
    rw [List.map_map]
    clear e e2 h
    induction xs with
    | nil => rfl
    | cons x xs ih => simp only [List.map_cons, List.sum_cons, List.length_cons, ih, Function.comp]; simp [Str.length]; omega
  have e4 : (Str.ofString "").length = 0 := by rw [empty_eq]; rfl
  simp only [oJoin, e, e2, e3, e4, Nat.mul_zero, Nat.add_zero]
  rw [if_pos (by omega)]
theorem joinL_len (S : List Nat) : ∀ ps : List (List Nat), (joinL S ps).length ≤ (ps.map (·.length)).sum + ps.length * S.length
  | [] => by simp [joinL]
  | [p] => by simp [joinL]
  | p :: q :: r => by
    have ih := joinL_len S (q :: r)
    simp only [joinL, List.length_append, List.map_cons, List.sum_cons, List.length_cons] at ih ⊢
    rw [Nat.add_mul]
    omega
theorem join_nl (ls : List (List Nat)) (h : (ls.map (·.length)).sum + ls.length ≤ 100000) : oJoin [.str (Str.ofString "\n"), .list (ls.map fun l => .str (Tx l))] = .v (.str (Tx (joinL [10] ls))) := by
  have e : strsOf (ls.map fun l => (.str (Tx l) : D)) = some (ls.map Tx) := strsOf_map' ls Tx
  have e2 : Txt.join (Str.ofString "\n") (ls.map Tx) = Tx (joinL [10] ls) := by
    refine ext_tl ?_
    rw [join_eq, tl_join, List.map_map, nl_eq]
    exact congrArg (joinL [10]) (List.map_id ls)
  have e3 : ((ls.map Tx).map (·.length)).sum = (ls.map (·.length)).sum := by
    rw [List.map_map]
    exact congrArg List.sum (List.map_congr_left fun l _ => Tx_len l)
  have e4 : (Str.ofString "\n").length = 1 := by rw [nl_eq]; rfl
  simp only [oJoin, e, e2, e3, e4, Nat.mul_one, List.length_map]
  rw [if_pos h]
structure BoardOk (w h : Nat) (cs : List Int) : Prop where
  w1 : 1 ≤ w
  w8 : w ≤ 8
  h1 : 1 ≤ h
  h8 : h ≤ 8
  len : cs.length = w * h
  cells : Cells cs
  cnt : cnt cs ≤ 8
theorem BoardOk.small {w h : Nat} {cs : List Int} (b : BoardOk w h cs) : cs.length ≤ 64 := by
  rw [b.len]
  exact Nat.mul_le_mul b.w8 b.h8
theorem is_board_brd {w h : Nat} {cs : List Int} (b : BoardOk w h cs) : fo (f_is_board [brd w h cs]) = .ret (.bool true) := by
  have := b.small
  rw [brd, is_board_t rfl rfl rfl (fun ds e => by
    cases e
    refine ⟨by simp; omega, fun d hd => ?_⟩
    obtain ⟨x, _, rfl⟩ := List.mem_map.mp hd
    rfl)]
  congr 2
  have hall : (cs.map PyData.int).all (fun d => wholeB d 0 5) = true := by
    rw [List.all_eq_true]
    intro d hd
    obtain ⟨x, hx, rfl⟩ := List.mem_map.mp hd
    have := b.cells.lo x hx
    simp [wholeB, this.1, this.2]
  have q1 := b.w1; have q2 := b.w8; have q3 := b.h1; have q4 := b.h8; have q5 := b.len; have q6 := b.cnt
  have e5 : (cs.length : Int) = (w : Int) * (h : Int) := by rw [q5]; simp
  have z1 : (1 : Int) ≤ w := by omega
  have z2 : (w : Int) ≤ 8 := by omega
  have z3 : (1 : Int) ≤ h := by omega
  have z4 : (h : Int) ≤ 8 := by omega
  have z5 : ((cnt cs : Nat) : Int) ≤ 8 := by omega
  have hw : wholeB (.int (w : Nat)) 1 8 = true := by simp [wholeB]; omega
  have hh : wholeB (.int (h : Nat)) 1 8 = true := by simp [wholeB]; omega
  simp only [boardB, hw, hh, hall, cntP_ints, List.length_map, e5, z5, decide_true, Bool.and_self]
  simp [q6]
theorem need_board_brd {w h : Nat} {cs : List Int} {n : Str} (b : BoardOk w h cs) : fo (f_need_board [brd w h cs, .str n]) = .ret .none := by
  simp [f_need_board, fo_run, den_need_board, is_board_brd b, need_t]
def rowL (w : Nat) (cs : List Int) (r : Nat) : List Nat := ((cs.drop (r * w)).take w).map sg
def drawL (w h : Nat) (cs : List Int) : List Nat := joinL [10] ((List.range h).map (rowL w cs))
theorem rowL_len (w : Nat) (cs : List Int) (r : Nat) : (rowL w cs r).length ≤ w := by simp [rowL]; omega
theorem row_ok {w h r : Nat} {cs : List Int} (b : BoardOk w h cs) (hr : r < h) : r * w + w ≤ cs.length := by
  rw [b.len]
  have : (r + 1) * w ≤ h * w := Nat.mul_le_mul_right w hr
  rw [Nat.add_mul] at this
  rw [Nat.mul_comm w h]; omega
theorem map_drop_int (cs : List Int) (a b : Nat) : ((cs.map PyData.int).drop a).take b = ((cs.drop a).take b).map PyData.int := by
  rw [← List.map_drop, ← List.map_take]
theorem sums_le {w : Nat} {cs : List Int} (h : Nat) : (((List.range h).map (rowL w cs)).map (·.length)).sum ≤ h * w := by
  induction h with
  | zero => simp
  | succ n ih =>
    rw [List.range_succ, List.map_append, List.map_append, List.sum_append]
    have := rowL_len w cs n
    simp only [List.map_cons, List.map_nil, List.sum_cons, List.sum_nil]
    rw [Nat.add_mul]
    omega
theorem rangeD_nat (h : Nat) : rangeD 0 (h : Int) = (List.range h).map fun k => (.int ((k : Nat) : Int) : D) := by
  simp [rangeD]
def gS : D → D
  | .int x => .str (S1 (sg x))
  | _ => .none
def gR (w : Nat) (cs : List Int) : D → D
  | .int x => .str (Tx (rowL w cs x.toNat))
  | _ => .none
theorem drawn_row {w h r : Nat} {cs : List Int} (b : BoardOk w h cs) (hr : r < h) {x0 x2 s5 : SV} :
    ce_drawn_2 [x0, .val (.int (w : Nat)), x2, .val (.tuple (cs.map PyData.int)), .val (.int (r : Nat)), s5] = .ok (.t (.val (.str (Tx (rowL w cs r))))) [x0, .val (.int (w : Nat)), x2, .val (.tuple (cs.map PyData.int)), .val (.int (r : Nat)), s5] := by
  have q1 := row_ok b hr
  have q2 := b.small
  have q3 := b.w8
  have em : oMul [.int (r : Nat), .int (w : Nat)] = .v (.int ((r * w : Nat) : Int)) := by rw [oMul_r (by omega) (by omega)]; simp
  have ec : oSl11 [.tuple (cs.map PyData.int), .int ((r * w : Nat) : Int), .int (((r * w : Nat) : Int) + (w : Nat))] = .v (.tuple (((cs.drop (r * w)).take w).map PyData.int)) := by
    rw [cut_tup _ _ _ (by simp; omega) (by simp; omega), map_drop_int]
  have ec' := ec
  simp only [Int.natCast_mul] at ec' em
  have e := dLc1y (di := dIt (dOp oSl11 (daC (dV 3) (daC (dInt (dOp oMul (daC (dV 4) (daC (dV 1) daN)))) (daC (dInt (dOp oAdd (daC (dOp oMul (daC (dV 4) (daC (dV 1) daN))) (daC (dV 1) daN)))) daN))))) (v := 5) (de := ce_drawn_1)
    (ρ := [x0, .val (.int (w : Nat)), x2, .val (.tuple (cs.map PyData.int)), .val (.int (r : Nat)), s5]) (ρ1 := [x0, .val (.int (w : Nat)), x2, .val (.tuple (cs.map PyData.int)), .val (.int (r : Nat)), s5]) (x := .tuple (((cs.drop (r * w)).take w).map PyData.int)) (ds := ((cs.drop (r * w)).take w).map PyData.int)
    (g := gS) (by simp [em, ec']) (by simp) (by simp; omega)
    (fun d hd => by
      obtain ⟨x, hx, rfl⟩ := List.mem_map.mp hd
      have hx' := b.cells.lo x (List.mem_of_mem_drop (List.mem_of_mem_take hx))
      exact ⟨.t (.val (.str (S1 (sg x)))), by simp [ce_drawn_1, g_SIGNS, ix_sg hx'.1 hx'.2], rfl⟩)
  have ej := join_S1 (rowL w cs r) (by have := rowL_len w cs r; omega)
  have el : List.map gS (((cs.drop (r * w)).take w).map PyData.int) = (rowL w cs r).map fun c => .str (S1 c) := by
    rw [rowL, List.map_map, List.map_map]; rfl
  rw [el] at e
  simp [ce_drawn_2, e, ej]
theorem drawn_brd {w h : Nat} {cs : List Int} (b : BoardOk w h cs) : fo (f_drawn [brd w h cs]) = .ret (.str (Tx (drawL w h cs))) := by
  have q3 := b.w8; have q4 := b.h8
  have sm : small (h : Int) = true := by simp [small]; omega
  have e := dLc1y (di := dRg1 (daC (dV 2) daN)) (v := 4) (de := ce_drawn_2)
    (ρ := [.val (brd w h cs), .val (.int (w : Nat)), .val (.int (h : Nat)), .val (.tuple (cs.map PyData.int)), .no, .no]) (ρ1 := [.val (brd w h cs), .val (.int (w : Nat)), .val (.int (h : Nat)), .val (.tuple (cs.map PyData.int)), .no, .no]) (x := .none) (ds := rangeD 0 (h : Int))
    (g := gR w cs) (by simp [sm]) (by simp) (by rw [rangeD_len]; omega)
    (fun d hd => by
      rw [rangeD_nat] at hd
      obtain ⟨r, hr, rfl⟩ := List.mem_map.mp hd
      have := List.mem_range.mp hr
      refine ⟨.t (.val (.str (Tx (rowL w cs r)))), ?_, rfl⟩
      simp [drawn_row b this])
  have el : List.map (gR w cs) (rangeD 0 (h : Int)) = ((List.range h).map (rowL w cs)).map fun l => .str (Tx l) := by
    rw [rangeD_nat, List.map_map, List.map_map]; rfl
  rw [el] at e
  have sl := sums_le (w := w) (cs := cs) h
  have ej := join_nl ((List.range h).map (rowL w cs)) (by
    have : h * w ≤ 8 * 8 := Nat.mul_le_mul q4 q3
    simp only [List.length_map, List.length_range]; omega)
  have e' : dLc (dRg1 (daC (dV 2) daN)) [4] (gN 4) dYes ce_drawn_2 [.val (.tuple [.int (w : Nat), .int (h : Nat), .tuple (cs.map PyData.int)]), .val (.int (w : Nat)), .val (.int (h : Nat)), .val (.tuple (cs.map PyData.int)), .no, .no] = _ := e
  have en : fo (f_need_board [.tuple [.int (w : Nat), .int (h : Nat), .tuple (cs.map PyData.int)], .str (Str.ofString "board")]) = .ret .none := need_board_brd b
  rw [brd]
  simp [f_drawn, fo_run, den_drawn, en]
  rw [e']
  simp only [EO.cons_e1, e_daN, AO.push_e1, EO.strE, AO.app_e1, e_resC, e_resN, e_res1, e_res2, optC_e1, appO_e1]
  rw [ej]
  simp [drawL]
end G

set_option Elab.async false
set_option linter.all false
set_option maxRecDepth 100000
set_option maxHeartbeats 2000000
namespace G
open PySem PySem.Spec PyProof.Rows L2 PD TL
/-! ### what is drawn is read back -/
theorem ix_of_sg {x : Int} (h0 : 0 ≤ x) (h5 : x ≤ 5) : (ixS (sg x) : Int) = x ∧ sg x ∈ signs := by
  have key : ∀ n : Nat, n ≤ 5 → ixS (sg (n : Int)) = n ∧ sg (n : Int) ∈ signs := by
    intro n hn
    match n, hn with
    | 0, _ => decide +kernel
    | 1, _ => decide +kernel
    | 2, _ => decide +kernel
    | 3, _ => decide +kernel
    | 4, _ => decide +kernel
    | 5, _ => decide +kernel
  have := key x.toNat (by omega)
  rw [Int.toNat_of_nonneg h0] at this
  exact ⟨by rw [this.1]; omega, this.2⟩
theorem sg_of_ix {c : Nat} (h : c ∈ signs) : sg (ixS c : Nat) = c := by
  have key : ∀ c ∈ signs, sg (ixS c : Nat) = c := by decide +kernel
  exact key c h
theorem ten_signs : 10 ∉ signs := by decide
theorem line_ok {w : Nat} : ∀ (l : List Nat) (a col many : Nat) (cells : List Int), (∀ x ∈ l, x ∈ signs) → col + l.length ≤ w → many + (l.filter fun x => decide (3 < ixS x)).length ≤ 8 →
    line w l a col many cells = .inr (many + (l.filter fun x => decide (3 < ixS x)).length, cells ++ l.map fun x => (ixS x : Int))
  | [], a, col, many, cells, _, _, _ => by simp [line]
  | x :: l, a, col, many, cells, h1, h2, h3 => by
    have hx := h1 x List.mem_cons_self
    simp only [List.length_cons] at h2
    rw [line, if_neg (by simp [hx]), if_neg (by omega)]
    by_cases h4 : 3 < ixS x
    · rw [List.filter_cons_of_pos (by simp [h4]), List.length_cons] at h3 ⊢
      rw [if_pos h4, if_neg (by omega), line_ok l _ _ _ _ (fun y hy => h1 y (List.mem_cons_of_mem _ hy)) (by omega) (by omega)]
      simp; omega
    · rw [List.filter_cons_of_neg (by simp [h4])] at h3 ⊢
      rw [if_neg h4, if_neg (by omega), line_ok l _ _ _ _ (fun y hy => h1 y (List.mem_cons_of_mem _ hy)) (by omega) (by omega)]
      simp
theorem cnt_app (a b : List Int) : cnt (a ++ b) = cnt a + cnt b := by simp [cnt, List.filter_append]
theorem cnt_take_le (cs : List Int) (n : Nat) : cnt (cs.take n) ≤ cnt cs := by
  have := cnt_app (cs.take n) (cs.drop n)
  rw [List.take_append_drop] at this
  omega
theorem row_map {cs : List Int} (hc : ∀ x ∈ cs, 0 ≤ x ∧ x ≤ 5) : (cs.map sg).map (fun x => (ixS x : Int)) = cs ∧ ((cs.map sg).filter fun x => decide (3 < ixS x)).length = cnt cs ∧ ∀ x ∈ cs.map sg, x ∈ signs := by
  induction cs with
  | nil => exact ⟨rfl, rfl, by simp⟩
  | cons x cs ih =>
    obtain ⟨q1, q2, q3⟩ := ih (fun y hy => hc y (List.mem_cons_of_mem _ hy))
    obtain ⟨x1, x2⟩ := hc x List.mem_cons_self
    obtain ⟨e1, e2⟩ := ix_of_sg x1 x2
    refine ⟨?_, ?_, ?_⟩
    · rw [List.map_cons, List.map_cons, q1, e1]
    · rw [List.map_cons]
      by_cases h : 3 < ixS (sg x)
      · have h' : 3 < x := by omega
        rw [List.filter_cons_of_pos (by simp [h]), List.length_cons, q2]
        simp [cnt, h']
      · have h' : ¬ 3 < x := by omega
        rw [List.filter_cons_of_neg (by simp [h]), q2]
        simp [cnt, h']
    · intro y hy
      rw [List.map_cons] at hy
      rcases List.mem_cons.mp hy with rfl | hy
      · exact e2
      · exact q3 y hy
theorem lines_ok {w h : Nat} {cs : List Int} (b : BoardOk w h cs) : ∀ (k i a : Nat), i + k = h → lines (if i = 0 then 8 else w) ((List.range k).map fun j => rowL w cs (i + j)) a i (cnt (cs.take (i * w))) (cs.take (i * w)) = .inr (if h = 0 then 8 else w, h, cs.take (h * w))
  | 0, i, a, e => by
    have : i = h := by omega
    subst this
    simp [lines]
  | k + 1, i, a, e => by
    have hi : i < h := by omega
    have q1 := row_ok b hi
    have q2 := b.w1
    have q3 := b.w8
    have q4 := b.h8
    rw [List.range_succ_eq_map, List.map_cons, List.map_map, Nat.add_zero]
    rw [lines, if_neg (by omega)]
    have hl : (rowL w cs i).length = w := by simp [rowL]; omega
    have tk : cs.take ((i + 1) * w) = cs.take (i * w) ++ (cs.drop (i * w)).take w := by
      rw [Nat.add_mul, Nat.one_mul, List.take_add]
    obtain ⟨r1, r2, r3⟩ := row_map (cs := (cs.drop (i * w)).take w) (fun x hx => b.cells.lo x (List.mem_of_mem_drop (List.mem_of_mem_take hx)))
    have hcnt : cnt (cs.take (i * w)) + cnt ((cs.drop (i * w)).take w) ≤ 8 := by
      rw [← cnt_app, ← tk]
      exact Nat.le_trans (cnt_take_le _ _) b.cnt
    have el := line_ok (w := if i = 0 then 8 else w) (rowL w cs i) a 0 (cnt (cs.take (i * w))) (cs.take (i * w)) r3 (by rw [hl]; split <;> omega) (by rw [rowL, r2]; exact hcnt)
    rw [el]
    simp only
    rw [if_neg (by
      rw [hl]
      rintro (z | ⟨z1, z2⟩)
      · rw [z] at hl; simp at hl; omega
      · rw [if_neg (by omega)] at z2; omega)]
    have ih := lines_ok b k (i + 1) (a + (rowL w cs i).length + 1) (by omega)
    rw [if_neg (by omega), tk, cnt_app] at ih
    rw [rowL] at hl ⊢
    rw [r1, r2, hl]
    rw [rowL, hl] at ih
    have ef : (fun j => rowL w cs (i + 1 + j)) = ((fun j => rowL w cs (i + j)) ∘ Nat.succ) := by
      funext j
      simp only [Function.comp]
      rw [show i + 1 + j = i + j.succ by omega]
    rw [ef] at ih
    exact ih
theorem rows_draw {w h : Nat} {cs : List Int} (b : BoardOk w h cs) : rowsOf (drawL w h cs) = (List.range h).map (rowL w cs) := by
  refine spl_join (fun e => ?_) fun p hp => ?_
  · have := congrArg List.length e
    have := b.h1
    simp at *
    omega
  · obtain ⟨r, hr, rfl⟩ := List.mem_map.mp hp
    intro hm
    obtain ⟨x, hx, e⟩ := List.mem_map.mp hm
    have hx' := b.cells.lo x (List.mem_of_mem_drop (List.mem_of_mem_take hx))
    have := (ix_of_sg hx'.1 hx'.2).2
    rw [e] at this
    exact ten_signs this
theorem told_draw {w h : Nat} {cs : List Int} (b : BoardOk w h cs) : told (drawL w h cs) = .inr (w, h, cs) := by
  have := lines_ok b h 0 0 (by omega)
  have hh := b.h1
  unfold told
  rw [rows_draw b]
  simp only [Nat.zero_mul, List.take_zero, if_true, Nat.zero_add] at this
  rw [show cnt [] = 0 from rfl] at this
  rw [this, if_neg (by omega), List.take_of_length_le (by rw [b.len, Nat.mul_comm]; exact Nat.le_refl _)]
theorem draw_len {w h : Nat} {cs : List Int} (b : BoardOk w h cs) : (drawL w h cs).length ≤ 72 := by
  have h1 := joinL_len [10] ((List.range h).map (rowL w cs))
  have h2 := sums_le (w := w) (cs := cs) h
  have q1 := b.w8; have q2 := b.h8
  have : h * w ≤ 8 * 8 := Nat.mul_le_mul q2 q1
  simp only [List.length_map, List.length_range, List.length_cons, List.length_nil] at h1
  unfold drawL
  omega
/-! ### what is read, drawn again -/
theorem lines_inv : ∀ (ls : List (List Nat)) (w a n : Nat) (cells : List Int) (w' n' : Nat) (cs : List Int), 0 < n → n ≤ 8 → cnt cells ≤ 8 → (∀ x ∈ cells, 0 ≤ x ∧ x ≤ 5) → lines w ls a n (cnt cells) cells = .inr (w', n', cs) →
    w' = w ∧ n' = n + ls.length ∧ n' ≤ 8 ∧ cs = cells ++ ls.flatten.map (fun x => (ixS x : Int)) ∧ (∀ l ∈ ls, l.length = w ∧ ∀ x ∈ l, x ∈ signs) ∧ cnt cs ≤ 8 ∧ (∀ x ∈ cs, 0 ≤ x ∧ x ≤ 5)
  | [], w, a, n, cells, w', n', cs, h0, h8, hc, hx, e => by
    simp only [lines, Sum.inr.injEq, Prod.mk.injEq] at e
    obtain ⟨rfl, rfl, rfl⟩ := e
    exact ⟨rfl, rfl, h8, by simp, by simp, hc, hx⟩
  | l :: ls, w, a, n, cells, w', n', cs, h0, h8, hc, hx, e => by
    rw [lines] at e
    by_cases h1 : n = 8
    · rw [if_pos h1] at e; cases e
    · rw [if_neg h1] at e
      cases el : line w l a 0 (cnt cells) cells with
      | inl pm => rw [el] at e; cases e
      | inr mc =>
        obtain ⟨m, c⟩ := mc
        rw [el] at e
        simp only at e
        by_cases h2 : l = [] ∨ (0 < n ∧ l.length < w)
        · rw [if_pos h2] at e; cases e
        · rw [if_neg h2] at e
          obtain ⟨q1, q2, q3, q4⟩ := line_len l _ _ _ _ m c el
          have hm := line_many l _ _ _ _ m c hc el
          have hlen : l.length = w := by
            have := q3 (by omega)
            have : ¬ l.length < w := fun z => h2 (.inr ⟨h0, z⟩)
            omega
          have hmc : m = cnt c := by
            rw [q1, cnt_app, q4]
            congr 1
            clear q1 q4 el e hlen q3 h2
            induction l with
            | nil => rfl
            | cons x l ih =>
              have := ih (fun y hy => q2 y (List.mem_cons_of_mem _ hy))
              by_cases h4 : 3 < ixS x
              · have h5 : (3 : Int) < (ixS x : Nat) := by omega
                simp only [List.map_cons, cnt] at this ⊢
                rw [List.filter_cons_of_pos (by simp [h4]), List.filter_cons_of_pos (by simp [h5]), List.length_cons, List.length_cons, this]
              · have h5 : ¬ (3 : Int) < (ixS x : Nat) := by omega
                simp only [List.map_cons, cnt] at this ⊢
                rw [List.filter_cons_of_neg (by simp [h4]), List.filter_cons_of_neg (by simp [h5]), this]
          rw [hmc] at e
          have hc5 : ∀ x ∈ c, 0 ≤ x ∧ x ≤ 5 := by
            intro x hxc
            rw [q1] at hxc
            rcases List.mem_append.mp hxc with hxc | hxc
            · exact hx x hxc
            · obtain ⟨y, hy, rfl⟩ := List.mem_map.mp hxc
              have := ixS_le (q2 y hy)
              omega
          obtain ⟨k1, k2, k3, k4, k5, k6, k7⟩ := lines_inv ls l.length _ (n + 1) c w' n' cs (by omega) (by omega) (by omega) hc5 e
          refine ⟨by omega, by rw [k2, List.length_cons]; omega, k3, ?_, ?_, k6, k7⟩
          · rw [k4, q1]; simp
          · intro l' hl'
            rcases List.mem_cons.mp hl' with rfl | hl'
            · exact ⟨hlen, q2⟩
            · have := k5 l' hl'
              exact ⟨by omega, this.2⟩
theorem whole_join : ∀ ls : List (List Nat), ls ≠ [] → whole ls = joinL [10] ls ++ [10]
  | [], h => absurd rfl h
  | [p], _ => by simp [whole, joinL]
  | p :: q :: r, _ => by
    rw [whole_cons, whole_join (q :: r) (by simp)]
    simp [joinL]
theorem flat_rows {w : Nat} (hw : 0 < w) : ∀ (ls : List (List Nat)), (∀ l ∈ ls, l.length = w ∧ ∀ x ∈ l, x ∈ signs) → (List.range ls.length).map (rowL w (ls.flatten.map fun x => (ixS x : Int))) = ls
  | [], _ => rfl
  | l :: ls, h => by
    obtain ⟨h1, h2⟩ := h l List.mem_cons_self
    have ih := flat_rows hw ls (fun x hx => h x (List.mem_cons_of_mem _ hx))
    rw [List.length_cons, List.range_succ_eq_map, List.map_cons, List.map_map]
    have e0 : rowL w ((l :: ls).flatten.map fun x => (ixS x : Int)) 0 = l := by
      rw [rowL, Nat.zero_mul, List.drop_zero, List.flatten_cons, List.map_append, List.take_append_of_le_length (by simp; omega), List.take_of_length_le (by simp; omega), List.map_map]
      refine (List.map_congr_left fun x hx => ?_).trans (List.map_id l)
      exact sg_of_ix (h2 x hx)
    have e1 : (rowL w ((l :: ls).flatten.map fun x => (ixS x : Int)) ∘ Nat.succ) = rowL w (ls.flatten.map fun x => (ixS x : Int)) := by
      funext j
      simp only [Function.comp, rowL]
      congr 2
      rw [List.flatten_cons, List.map_append, show j.succ * w = (l.map fun x => (ixS x : Int)).length + j * w by rw [List.length_map, h1, Nat.succ_mul]; omega, List.drop_append, ]
      simp
    rw [e0, e1, ih]
theorem told_board {t : List Nat} {w n : Nat} {cs : List Int} (h : told t = .inr (w, n, cs)) : BoardOk w n cs ∧ drawL w n cs = t := by
  obtain ⟨q1, q2, q3⟩ := spl10 t [] (by simp)
  unfold told rowsOf at h
  cases hr : spl [10] 0 [] t with
  | nil => exact absurd hr q3
  | cons l ls =>
    rw [hr] at h q1
    rw [lines, if_neg (by decide)] at h
    cases el : line 8 l 0 0 0 [] with
    | inl pm => rw [el] at h; cases h
    | inr mc =>
      obtain ⟨m, c⟩ := mc
      rw [el] at h
      simp only at h
      by_cases h2 : l = [] ∨ (0 < 0 ∧ l.length < 8)
      · rw [if_pos h2] at h; cases h
      · rw [if_neg h2] at h
        obtain ⟨p1, p2, p3, p4⟩ := line_len l _ _ _ _ m c el
        have hm := line_many l _ _ _ _ m c (by decide) el
        rw [List.nil_append] at p1
        have hl0 : 0 < l.length := List.length_pos_iff.mpr fun z => h2 (.inl z)
        have hl8 : l.length ≤ 8 := by have := p3 (by omega); omega
        obtain ⟨r1, r2, r3⟩ := row_map (cs := c) (by
          intro x hx
          rw [p1] at hx
          obtain ⟨y, hy, rfl⟩ := List.mem_map.mp hx
          have := ixS_le (p2 y hy)
          omega)
        have hsg : c.map sg = l := by
          rw [p1, List.map_map]
          exact (List.map_congr_left fun x hx => sg_of_ix (p2 x hx)).trans (List.map_id l)
        rw [hsg] at r2
        have hmc : m = cnt c := by rw [p4, ← r2]; omega
        rw [hmc] at h
        obtain ⟨k1, k2, k3, k4, k5, k6, k7⟩ := lines_inv ls l.length _ (0 + 1) c w n cs (by omega) (by omega) (by omega) (by
          intro x hx
          rw [p1] at hx
          obtain ⟨y, hy, rfl⟩ := List.mem_map.mp hx
          have := ixS_le (p2 y hy)
          omega) h
        subst k1
        have hall : ∀ l' ∈ l :: ls, l'.length = l.length ∧ ∀ x ∈ l', x ∈ signs := by
          intro l' hl'
          rcases List.mem_cons.mp hl' with rfl | hl'
          · exact ⟨rfl, p2⟩
          · exact k5 l' hl'
        have ecs : cs = (l :: ls).flatten.map fun x => (ixS x : Int) := by rw [k4, p1]; simp
        have hn : n = (l :: ls).length := by rw [k2, List.length_cons]; omega
        have hflat : (l :: ls).flatten.length = l.length * (l :: ls).length := by
          have key : ∀ (w : Nat) (xs : List (List Nat)), (∀ x ∈ xs, x.length = w) → xs.flatten.length = w * xs.length := by
            intro w xs
            induction xs with
            | nil => intro _; simp
            | cons x xs ih =>
              intro hx
              rw [List.flatten_cons, List.length_append, ih (fun y hy => hx y (List.mem_cons_of_mem _ hy)), hx x List.mem_cons_self, List.length_cons, Nat.mul_add]
              omega
          exact key l.length (l :: ls) fun x hx => (hall x hx).1
        refine ⟨⟨hl0, hl8, by omega, k3, by rw [ecs, List.length_map, hflat, hn], ⟨k7⟩, k6⟩, ?_⟩
        have fr := flat_rows hl0 (l :: ls) hall
        have ej := whole_join (l :: ls) (by simp)
        rw [q1, List.nil_append] at ej
        rw [drawL, hn, ecs, fr]
        exact (List.append_cancel_right ej).symm
end G

set_option Elab.async false
set_option linter.all false
set_option maxRecDepth 100000
set_option maxHeartbeats 4000000
namespace G
open PySem PySem.Spec PyProof.Rows L2 PD TL
@[simp] theorem ixT30 (a b c : D) : oIx [.tuple [a, b, c], .int 0] = .v a := rfl
@[simp] theorem ixT31 (a b c : D) : oIx [.tuple [a, b, c], .int 1] = .v b := rfl
@[simp] theorem ixT32 (a b c : D) : oIx [.tuple [a, b, c], .int 2] = .v c := rfl
@[simp] theorem oNe_b (a b : Bool) : oNe [.bool a, .bool b] = .v (.bool (!(a == b))) := by
  simp [oNe, vOr, oNeS, oNeD, shaped_bool, PyData.eqv]
@[simp] theorem oNe_nil : oNe [.list [], .list []] = .v (.bool false) := by simp [oNe, vOr, oNeS, oNeD, SeqAt.shaped, PyData.canLay0, PyData.canLayAll0, PyData.depth, PyData.depthAll, PyData.eqv, PyData.eqvAll]
/-! ### _law_lines -/
theorem lines_row {w h r : Nat} {cs : List Int} (b : BoardOk w h cs) (hr : r < h) {s2 : SV} :
    ce__law_lines_2 [.val (brd w h cs), .val (.int (r : Nat)), s2] = .ok (.t (.val (.str (Tx (rowL w cs r))))) [.val (brd w h cs), .val (.int (r : Nat)), s2] := by
  have q1 := row_ok b hr
  have q2 := b.small
  have q3 := b.w8
  have em : oMul [.int (r : Nat), .int (w : Nat)] = .v (.int ((r * w : Nat) : Int)) := by rw [oMul_r (by omega) (by omega)]; simp
  have ec : oSl11 [.tuple (cs.map PyData.int), .int ((r * w : Nat) : Int), .int (((r * w : Nat) : Int) + (w : Nat))] = .v (.tuple (((cs.drop (r * w)).take w).map PyData.int)) := by
    rw [cut_tup _ _ _ (by simp; omega) (by simp; omega), map_drop_int]
  have ec' := ec
  simp only [Int.natCast_mul] at ec' em
  have e := dLc1y (di := dIt (dOp oSl11 (daC (dOp oIx (daC (dV 0) (daC (dC (.int 2)) daN))) (daC (dInt (dOp oMul (daC (dV 1) (daC (dOp oIx (daC (dV 0) (daC (dC (.int 0)) daN))) daN)))) (daC (dInt (dOp oAdd (daC (dOp oMul (daC (dV 1) (daC (dOp oIx (daC (dV 0) (daC (dC (.int 0)) daN))) daN))) (daC (dOp oIx (daC (dV 0) (daC (dC (.int 0)) daN))) daN)))) daN))))) (v := 2) (de := ce__law_lines_1)
    (ρ := [.val (brd w h cs), .val (.int (r : Nat)), s2]) (ρ1 := [.val (brd w h cs), .val (.int (r : Nat)), s2]) (x := .tuple (((cs.drop (r * w)).take w).map PyData.int)) (ds := ((cs.drop (r * w)).take w).map PyData.int)
    (g := gS) (by simp [em, ec', brd]) (by simp) (by simp; omega)
    (fun d hd => by
      obtain ⟨x, hx, rfl⟩ := List.mem_map.mp hd
      have hx' := b.cells.lo x (List.mem_of_mem_drop (List.mem_of_mem_take hx))
      exact ⟨.t (.val (.str (S1 (sg x)))), by simp [ce__law_lines_1, ix_sg hx'.1 hx'.2], rfl⟩)
  have ej := join_S1 (rowL w cs r) (by have := rowL_len w cs r; omega)
  have el : List.map gS (((cs.drop (r * w)).take w).map PyData.int) = (rowL w cs r).map fun c => .str (S1 c) := by
    rw [rowL, List.map_map, List.map_map]; rfl
  rw [el] at e
  simp [ce__law_lines_2, e, ej]
theorem lines_brd {w h : Nat} {cs : List Int} (b : BoardOk w h cs) : fo (f__law_lines [brd w h cs]) = .ret (.str (Tx (drawL w h cs))) := by
  have q3 := b.w8; have q4 := b.h8
  have sm : small (h : Int) = true := by simp [small]; omega
  have e := dLc1y (di := dRg1 (daC (dOp oIx (daC (dV 0) (daC (dC (.int 1)) daN))) daN)) (v := 1) (de := ce__law_lines_2)
    (ρ := [.val (brd w h cs), .no, .no]) (ρ1 := [.val (brd w h cs), .no, .no]) (x := .none) (ds := rangeD 0 (h : Int))
    (g := gR w cs) (by simp [sm, brd]) (by simp) (by rw [rangeD_len]; omega)
    (fun d hd => by
      rw [rangeD_nat] at hd
      obtain ⟨r, hr, rfl⟩ := List.mem_map.mp hd
      have := List.mem_range.mp hr
      refine ⟨.t (.val (.str (Tx (rowL w cs r)))), ?_, rfl⟩
      simp [lines_row b this])
  have el : List.map (gR w cs) (rangeD 0 (h : Int)) = ((List.range h).map (rowL w cs)).map fun l => .str (Tx l) := by
    rw [rangeD_nat, List.map_map, List.map_map]; rfl
  rw [el] at e
  have sl := sums_le (w := w) (cs := cs) h
  have ej := join_nl ((List.range h).map (rowL w cs)) (by
    have : h * w ≤ 8 * 8 := Nat.mul_le_mul q4 q3
    simp only [List.length_map, List.length_range]; omega)
  simp [f__law_lines, fo_run, den__law_lines]
  rw [e]
  simp only [EO.cons_e1, e_daN, AO.push_e1, EO.strE, AO.app_e1, e_resC, e_resN, e_res1, e_res2, optC_e1, appO_e1]
  rw [ej]
  simp [drawL]
/-! ### _law_spoiled -/
theorem spoiled_ok (sc : List Int) {a b c : Int} {t : List Nat} (ok : RowOk a b c) (ht : t.length ≤ 100) :
    ∃ u a' b' c', f__law_spoiled [rowD sc a b c, .str (Tx t)] = .rt (.str (Tx u)) (.own (rowD sc a' b' c')) ∧ u.length ≤ 1000 ∧ RowOk a' b' c' := by
  have len : oLen [.str (Tx t)] = .v (.int (t.length : Nat)) := by rw [oLen_s (by rw [Tx_len]; omega), Tx_len]
  obtain ⟨v, a1, b1, c1, e1, v0, v1, ok1⟩ := taken_ok sc ok (many := t.length + 1) (by omega) (by omega)
  have ea : oAdd [.str (Str.ofString "\n"), .str (Tx t)] = .v (.str (Tx ([10] ++ t))) := by rw [nl_eq]; exact oAdd_s _ _ (by simp; omega)
  obtain ⟨d, a2, b2, c2, hm, e2, ok2⟩ := pick_ok sc (ds := [.str (Str.ofString ""), .str (Str.ofString "."), .str (Str.ofString "/"), .str (Str.ofString "\\"), .str (Str.ofString "#"), .str (Str.ofString "z"), .str (Str.ofString "s"), .str (Str.ofString "x"), .str (Str.ofString " "), .str (Str.ofString "\n"), .str (Str.ofString "\n\n"), .str (Str.ofString "zzzzz"), .str (Str.ofString "........"), .str (Tx ([10] ++ t))]) ok1 (by simp) (by simp)
  obtain ⟨s, rfl, hs⟩ : ∃ s, d = .str (Tx s) ∧ s.length ≤ 101 := by
    simp only [List.mem_cons, List.not_mem_nil, or_false] at hm
    have mk : ∀ z : Str, z.length ≤ 101 → ∃ s, (PyData.str z) = .str (Tx s) ∧ s.length ≤ 101 := fun z hz => ⟨tl z, congrArg PyData.str (mk_tl z).symm, by rw [← len_tl]; exact hz⟩
    rcases hm with rfl | rfl | rfl | rfl | rfl | rfl | rfl | rfl | rfl | rfl | rfl | rfl | rfl | rfl
    · exact mk _ (by decide +kernel)
    · exact mk _ (by decide +kernel)
    · exact mk _ (by decide +kernel)
    · exact mk _ (by decide +kernel)
    · exact mk _ (by decide +kernel)
    · exact mk _ (by decide +kernel)
    · exact mk _ (by decide +kernel)
    · exact mk _ (by decide +kernel)
    · exact mk _ (by decide +kernel)
    · exact mk _ (by decide +kernel)
    · exact mk _ (by decide +kernel)
    · exact mk _ (by decide +kernel)
    · exact mk _ (by decide +kernel)
    · exact ⟨[10] ++ t, rfl, by simp; omega⟩
  obtain ⟨v', a3, b3, c3, e3, _, _, ok3⟩ := taken_ok sc ok2 (many := 2) (by decide) (by decide)
  have hz : (Tx t).length ≤ 100000 := by rw [Tx_len]; omega
  have s1 : oSl01 [.str (Tx t), .int v] = .v (.str (Tx (tl (L2.cutS (Tx t) none (some v))))) := by
    simp only [oSl01, PD.cutD, if_pos hz, mk_tl]
  have s2 : oSl10 [.str (Tx t), .int (v + v')] = .v (.str (Tx (tl (L2.cutS (Tx t) (some (v + v')) none)))) := by
    simp only [oSl10, PD.cutD, if_pos hz, mk_tl]
  have l1 : (tl (L2.cutS (Tx t) none (some v))).length ≤ 100 := by
    have h1 := L2.cutS_length (Tx t) none (some v)
    rw [len_tl, Tx_len] at h1
    exact Nat.le_trans h1 ht
  have l2 : (tl (L2.cutS (Tx t) (some (v + v')) none)).length ≤ 100 := by
    have h1 := L2.cutS_length (Tx t) (some (v + v')) none
    rw [len_tl, Tx_len] at h1
    exact Nat.le_trans h1 ht
  generalize hu1 : tl (L2.cutS (Tx t) none (some v)) = u1 at s1 l1
  generalize hu2 : tl (L2.cutS (Tx t) (some (v + v')) none) = u2 at s2 l2
  have p1 := oAdd_s u1 s (by omega)
  have p2 := oAdd_s (u1 ++ s) u2 (by rw [List.length_append]; omega)
  refine ⟨u1 ++ s ++ u2, a3, b3, c3, ?_, by rw [List.length_append, List.length_append]; omega, ok3⟩
  have ea' : oAdd [.str (Str.ofString "\n"), .str (Tx t)] = .v (.str (Tx (10 :: t))) := ea
  simp only [List.singleton_append] at e2
  simp [f__law_spoiled, io_run, den__law_spoiled, len, e1, ea', e2, e3, s1, s2, p1]
  rw [List.append_assoc] at p2
  first | done | simp [p2]
end G

set_option Elab.async false
set_option linter.all false
set_option maxRecDepth 100000
set_option maxHeartbeats 4000000
namespace G
open PySem PySem.Spec PyProof.Rows L2 PD TL
/-! ### the inner loop -/
theorem ok_flawD (u : List Nat) : okA 8 (flawD u) = true := by
  unfold flawD
  cases told u with
  | inl pm => obtain ⟨p, m⟩ := pm; simp [okA]
  | inr r => rfl
theorem ok_brd {w h : Nat} {cs : List Int} (b : BoardOk w h cs) : okA 8 (brd w h cs) = true := by
  have := b.small
  simp [okA, brd]
  omega
theorem none_flaw (u : List Nat) : oIsN [flawD u, .none] = .v (.bool (match told u with | .inl _ => false | .inr _ => true)) ∧ oNotN [flawD u, .none] = .v (.bool (match told u with | .inl _ => true | .inr _ => false)) ∧ oIsN [boardD u, .none] = .v (.bool (match told u with | .inl _ => true | .inr _ => false)) := by
  unfold flawD boardD
  cases told u with
  | inl pm => obtain ⟨p, m⟩ := pm; exact ⟨rfl, rfl, rfl⟩
  | inr r => obtain ⟨w, n, cs⟩ := r; exact ⟨rfl, rfl, rfl⟩
theorem count_step (sc : List Int) {a b c : Int} {t : List Nat} (ok : RowOk a b c) (ht : t.length ≤ 100) (x0 x2 x3 x5 s6 s7 x8 x9 x10 x11 x12 x13 x14 : SV) :
    ∃ a' b' c' s6' s7', lb_law_1 [x0, .own (rowD sc a b c), x2, x3, .val (.str (Tx t)), x5, s6, s7, x8, x9, x10, x11, x12, x13, x14] = .nx [x0, .own (rowD sc a' b' c'), x2, x3, .val (.str (Tx t)), x5, s6', s7', x8, x9, x10, x11, x12, x13, x14] ∧ RowOk a' b' c' := by
  obtain ⟨u, a', b', c', e, hu, ok'⟩ := spoiled_ok sc ok ht
  have len : oLen [.str (Tx u)] = .v (.int (u.length : Nat)) := by rw [oLen_s (by rw [Tx_len]; omega), Tx_len]
  by_cases h : u.length ≤ 200
  · have ef : fo (f__law_flaw [.str (Tx u)]) = .ret (flawD u) := by
      obtain ⟨k1, k2⟩ := law_flaw_t (t := u) (by omega)
      unfold flawD
      cases hh : told u with
      | inl pm => obtain ⟨p, m⟩ := pm; exact k1 p m hh
      | inr r => exact k2 r hh
    have e2 := flaw_t h
    have e3 := board_of_t h
    have e4 := alike_refl 8 (flawD u) (ok_flawD u)
    obtain ⟨n1, n2, n3⟩ := none_flaw u
    refine ⟨a', b', c', .val (.str (Tx u)), .val (flawD u), ?_, ok'⟩
    cases hh : told u with
    | inl pm =>
      rw [hh] at n1 n2 n3
      simp only at n1 n2 n3
      simp [lb_law_1, e, len, h, ef, e2, e3, e4, n1, n2, n3]
      intro z; omega
    | inr r =>
      obtain ⟨w, n, cs⟩ := r
      obtain ⟨bo, ed⟩ := told_board hh
      rw [hh] at n1 n2 n3
      simp only at n1 n2 n3
      have e5 : boardD u = brd w n cs := by unfold boardD; rw [hh]
      have e6 := drawn_brd bo
      rw [ed] at e6
      rw [e5] at e3 n3
      simp [lb_law_1, e, len, h, ef, e2, e3, e4, n1, n2, n3, e6]
      intro z; omega
  · refine ⟨a', b', c', .val (.str (Tx u)), s7, ?_, ok'⟩
    have h' : ¬ (u.length : Int) ≤ 200 := by omega
    simp [lb_law_1, e, len, h, h']
/-! ### values that are no boards -/
def oddL (w h : Nat) (cs : List Int) : List D := [.none, .tuple [.int w, .int h], .list [.int w, .int h, .tuple (cs.map PyData.int)], .tuple [.int 0, .int h, .tuple []], .tuple [.int 9, .int 1, .tuple (List.replicate 9 (.int 0))],
  .tuple [.bool true, .int h, .tuple (cs.map PyData.int)], .tuple [.int w, .int h, .tuple (cs.map PyData.int ++ [.int 0])], .tuple [.int w, .int h, .list (cs.map PyData.int)], .tuple [.int w, .int h, .tuple (cs.dropLast.map PyData.int ++ [.int 6])],
  .tuple [.int w, .int h, .tuple (cs.dropLast.map PyData.int ++ [.bool true])], .tuple [.int 3, .int 3, .tuple (List.replicate 9 (.int 4))]]
theorem no_dict {cs : List Int} {ds : List D} (h1 : cs.length ≤ 64) (h2 : ds.length ≤ 10) (h3 : ∀ d ∈ ds, isD d = false) : (cs.map PyData.int ++ ds).length ≤ 100000 ∧ ∀ d ∈ cs.map PyData.int ++ ds, isD d = false := by
  refine ⟨by simp; omega, fun d hd => ?_⟩
  rcases List.mem_append.mp hd with hd | hd
  · obtain ⟨x, _, rfl⟩ := List.mem_map.mp hd; rfl
  · exact h3 d hd
theorem odd_no {w h : Nat} {cs : List Int} (b : BoardOk w h cs) {d : D} (hd : d ∈ oddL w h cs) : fo (f_is_board [d]) = .ret (.bool false) := by
  have q1 := b.small
  have q2 := b.len
  simp only [oddL, List.mem_cons, List.not_mem_nil, or_false] at hd
  rcases hd with rfl | rfl | rfl | rfl | rfl | rfl | rfl | rfl | rfl | rfl | rfl
  · simp [f_is_board, fo_run, den_is_board]
  · simp [f_is_board, fo_run, den_is_board]
  · simp [f_is_board, fo_run, den_is_board]
  · rw [is_board_t rfl rfl rfl (fun ds e => by cases e; simp)]
    rfl
  · rw [is_board_t rfl rfl rfl (fun ds e => by
      cases e
      refine ⟨by simp, fun d hd => ?_⟩
      rw [List.eq_of_mem_replicate hd]; rfl)]
    rfl
  · rw [is_board_t rfl rfl rfl (fun ds e => by
      cases e
      have := no_dict (cs := cs) (ds := []) q1 (by simp) (by simp)
      simpa using this)]
    rfl
  · rw [is_board_t rfl rfl rfl (fun ds e => by cases e; exact no_dict q1 (by simp) (by simp))]
    congr 2
    simp only [boardB]
    have : ¬ (((cs.map PyData.int ++ [PyData.int 0]).length : Nat) : Int) = (w : Int) * (h : Int) := by
      simp only [List.length_append, List.length_map, List.length_cons, List.length_nil, q2]
      push_cast
      omega
    simp [this]
    intros
    first | omega | skip
  · rw [is_board_t rfl rfl rfl (fun ds e => by cases e)]
    congr 2
    simp [boardB]
  · rw [is_board_t rfl rfl rfl (fun ds e => by cases e; exact no_dict (by simp; omega) (by simp) (by simp))]
    congr 2
    simp only [boardB, List.all_append]
    simp [wholeB]
  · rw [is_board_t rfl rfl rfl (fun ds e => by cases e; exact no_dict (by simp; omega) (by simp) (by simp))]
    congr 2
    simp only [boardB, List.all_append]
    simp [wholeB]
  · rw [is_board_t rfl rfl rfl (fun ds e => by
      cases e
      refine ⟨by simp, fun d hd => ?_⟩
      rw [List.eq_of_mem_replicate hd]; rfl)]
    congr 2
end G

set_option Elab.async false
set_option linter.all false
set_option maxRecDepth 100000
set_option maxHeartbeats 4000000
namespace G
open PySem PySem.Spec PyProof.Rows L2 PD TL
def toldL : List D := [.str (Str.ofString "board"), .str (Str.ofString "text"), .str (Str.ofString "text")]
theorem ne_told : oNe [.list toldL, .list toldL] = .v (.bool false) := by
  have s1 : PyData.strOk (Str.ofString "board") = true := by decide +kernel
  have s2 : PyData.strOk (Str.ofString "text") = true := by decide +kernel
  simp [toldL, oNe, vOr, oNeS, oNeD, SeqAt.shaped, PyData.canLay0, PyData.canLayAll0, PyData.depth, PyData.depthAll, PyData.eqv, PyData.eqvAll, s1, s2]
theorem drawn_odd {w h : Nat} {cs : List Int} (b : BoardOk w h cs) {d : D} (hd : d ∈ oddL w h cs) : fo (f_drawn [d]) = .exc ⟨Str.ofString "BadArgument", [(Str.ofString "name", .str (Str.ofString "board"))]⟩ := by
  have e := odd_no b hd
  have e2 : fo (f_need_board [d, .str (Str.ofString "board")]) = .exc ⟨Str.ofString "BadArgument", [(Str.ofString "name", .str (Str.ofString "board"))]⟩ := by
    simp [f_need_board, fo_run, den_need_board, e, need_f]
  simp [f_drawn, fo_run, den_drawn, e2]
theorem flaw_5 : fo (f_flaw [.int 5]) = .exc ⟨Str.ofString "BadArgument", [(Str.ofString "name", .str (Str.ofString "text"))]⟩ := by
  have e1 : fo (f_is_text [.int 5]) = .ret (.bool false) := by simp [f_is_text, fo_run, den_is_text]
  simp [f_flaw, fo_run, den_flaw, e1, need_f]
def dots201 : List Nat := List.replicate 201 46
theorem dots : oMul [.str (Str.ofString "."), .int 201] = .v (.str (Tx dots201)) := by
  have e : Str.ofString "." = Tx [46] := by decide +kernel
  rw [e]
  simp [oMul, vOr, oI, oMulW, oMulS, Str.length, dots201]
theorem long_text : fo (f_board_of [.str (Tx dots201)]) = .exc ⟨Str.ofString "BadArgument", [(Str.ofString "name", .str (Str.ofString "text"))]⟩ := by
  have e1 : fo (f_is_text [.str (Tx dots201)]) = .ret (.bool false) := by
    rw [is_text_t (by simp [dots201])]; simp [dots201]
  simp [f_board_of, fo_run, den_board_of, e1, need_f]
theorem mul9 (x : D) : oMul [.tuple [x], .int 9] = .v (.tuple (List.replicate 9 x)) := by
  simp [oMul, vOr, oI, oMulW, oMulS, oMulT, List.replicate]
theorem oAdd_t (a b : List D) (h : a.length + b.length ≤ 100000) : oAdd [.tuple a, .tuple b] = .v (.tuple (a ++ b)) := by
  simp only [oAdd, vOr, oI0, oAddS, oAddT, h, if_true]
theorem cut_last (cs : List Int) (h : 1 ≤ cs.length) : oSl01 [.tuple (cs.map PyData.int), .int (-1)] = .v (.tuple (cs.dropLast.map PyData.int)) := by
  have e : HT.sIx (cs.map PyData.int).length (cs.map PyData.int).length (some (-1)) = cs.length - 1 := by
    unfold HT.sIx
    simp only
    rw [if_pos (by decide), List.length_map]; omega
  simp only [oSl01, PD.cutD, cutL, e]
  rw [HT.sIx_none, List.drop_zero, Nat.sub_zero, ← List.map_take, List.dropLast_eq_take]
theorem turn_step (sc : List Int) {a b c : Int} (ok : RowOk a b c) (x0 x2 s3 s4 s5 s6 s7 s8 s9 s10 s11 s12 s13 x14 : SV) :
    ∃ a' b' c' s3' s4' s5' s6' s7' s8' s9' s10' s11' s12' s13', lb_law_3 [x0, .own (rowD sc a b c), x2, s3, s4, s5, s6, s7, s8, s9, s10, s11, s12, s13, x14] = .nx [x0, .own (rowD sc a' b' c'), x2, s3', s4', s5', s6', s7', s8', s9', s10', s11', s12', s13', x14] ∧ RowOk a' b' c' := by
  obtain ⟨v1, a1, b1, c1, e1, p1, p1', ok1⟩ := taken_ok sc ok (many := 8) (by decide) (by decide)
  obtain ⟨v2, a2, b2, c2, e2, p2, p2', ok2⟩ := taken_ok sc ok1 (many := 8) (by decide) (by decide)
  obtain ⟨v3, a3, b3, c3, e3, p3, p3', ok3⟩ := taken_ok sc ok2 (many := 9) (by decide) (by decide)
  obtain ⟨w, hw⟩ : ∃ w : Nat, 1 + v1 = w := ⟨(1 + v1).toNat, by omega⟩
  obtain ⟨h, hh⟩ : ∃ h : Nat, 1 + v2 = h := ⟨(1 + v2).toNat, by omega⟩
  obtain ⟨cs, a4, b4, c4, e4, len, cel, hcnt, ok4⟩ := board_ok sc ok3 (w := w) (h := h) (m := v3) (by omega) (by omega) (by omega) (by omega) p3
  have bo : BoardOk w h cs := ⟨by omega, by omega, by omega, by omega, by exact_mod_cast len, cel, by omega⟩
  have ed := drawn_brd bo
  have el := lines_brd bo
  have dl := draw_len bo
  have eb := board_of_t (t := drawL w h cs) (by omega)
  have ebd : boardD (drawL w h cs) = brd w h cs := by unfold boardD; rw [told_draw bo]
  rw [ebd] at eb
  have ea := alike_refl 8 (brd w h cs) (ok_brd bo)
  have ei := is_board_brd bo
  have q1 := bo.small
  have q2 : 1 ≤ cs.length := by
    have := bo.len; have := bo.w1; have := bo.h1
    have := Nat.mul_le_mul bo.w1 bo.h1
    omega
  -- the three spoiled texts
  obtain ⟨ρ', l1, a5, b5, c5, t5, t6, t7, rfl, ok5⟩ := forL_ind (dg := gN 5) (b := lb_law_1)
    (fun _ ρ => ∃ a b c t5 t6 t7, ρ = [x0, .own (rowD sc a b c), x2, .val (brd w h cs), .val (.str (Tx (drawL w h cs))), t5, t6, t7, s8, s9, s10, s11, s12, s13, x14] ∧ RowOk a b c)
    (rangeD 0 3) 0 [x0, .own (rowD sc a4 b4 c4), x2, .val (brd w h cs), .val (.str (Tx (drawL w h cs))), s5, s6, s7, s8, s9, s10, s11, s12, s13, x14]
    ⟨a4, b4, c4, s5, s6, s7, rfl, ok4⟩ (by
      rintro i d ρ hd ⟨a, b, c, t5, t6, t7, rfl, ok⟩
      obtain ⟨a', b', c', t6', t7', e, ok'⟩ := count_step sc ok (t := drawL w h cs) (by omega) x0 x2 (.val (brd w h cs)) (.val d) t6 t7 s8 s9 s10 s11 s12 s13 x14
      exact ⟨_, _, rfl, .inl e, a', b', c', .val d, t6', t7', rfl, ok'⟩)
  obtain ⟨d, a6, b6, c6, hm, e6, ok6⟩ := pick_ok sc (ds := oddL w h cs) ok5 (by simp [oddL]) (by simp [oddL])
  have o1 := drawn_odd bo hm
  have o2 : dLc (dIt (dV 11)) [14] (gN 14) ct_law_2 (dV 14) [x0, .own (rowD sc a6 b6 c6), x2, .val (brd w h cs), .val (.str (Tx (drawL w h cs))), t5, t6, t7, .val (.int w), .val (.int h), .val (.tuple (cs.map PyData.int)), .val (.list (oddL w h cs)), .val d, .val (.list toldL), x14] = .ok (.t (.own (.list []))) [x0, .own (rowD sc a6 b6 c6), x2, .val (brd w h cs), .val (.str (Tx (drawL w h cs))), t5, t6, t7, .val (.int w), .val (.int h), .val (.tuple (cs.map PyData.int)), .val (.list (oddL w h cs)), .val d, .val (.list toldL), x14] := by
    have e := dLc1 (di := dIt (dV 11)) (v := 14) (dt := ct_law_2) (de := dV 14) (ρ := [x0, .own (rowD sc a6 b6 c6), x2, .val (brd w h cs), .val (.str (Tx (drawL w h cs))), t5, t6, t7, .val (.int w), .val (.int h), .val (.tuple (cs.map PyData.int)), .val (.list (oddL w h cs)), .val d, .val (.list toldL), x14])
      (ρ1 := [x0, .own (rowD sc a6 b6 c6), x2, .val (brd w h cs), .val (.str (Tx (drawL w h cs))), t5, t6, t7, .val (.int w), .val (.int h), .val (.tuple (cs.map PyData.int)), .val (.list (oddL w h cs)), .val d, .val (.list toldL), x14]) (x := .list (oddL w h cs)) (ds := oddL w h cs) (p := fun _ => false) (g := fun d => d)
      (by simp) (by simp) (by simp [oddL]) (fun d hd => by simp [ct_law_2, odd_no bo hd]) (fun d hd hp => by cases hp)
    have ef : List.filter (fun _ => false) (oddL w h cs) = [] := List.filter_eq_nil_iff.mpr (fun _ _ => by simp)
    rw [ef] at e
    exact e
  have m0 := mul9 (.int 0)
  have m4 := mul9 (.int 4)
  have k0 := oAdd_t (cs.map PyData.int) [.int 0] (by simp; omega)
  have k6 := oAdd_t (cs.dropLast.map PyData.int) [.int 6] (by simp; omega)
  have kt := oAdd_t (cs.dropLast.map PyData.int) [.bool true] (by simp; omega)
  have cl := cut_last cs q2
  have lk : ∀ x : D, List.lookup (Str.ofString "name") [(Str.ofString "name", x)] = some x := fun x => by simp [List.lookup]
  refine ⟨a6, b6, c6, .val (brd w h cs), .val (.str (Tx (drawL w h cs))), t5, t6, t7, .val (.int w), .val (.int h), .val (.tuple (cs.map PyData.int)), .val (.list (oddL w h cs)), .val d, .val (.list toldL), ?_, ok6⟩
  have sm : small 3 = true := by decide
  rw [lb_law_3]
  have gb : ∀ (gs : List D → Sl → Option Sl) (ρ : Sl), gT gs 3 (brd w h cs) ρ = gs [.int w, .int h, .tuple (cs.map PyData.int)] ρ := fun _ _ => rfl
  have tl0 : ∀ x : D, toldL = [.str (Str.ofString "board"), .str (Str.ofString "text"), .str (Str.ofString "text")] := fun _ => rfl
  have nt := ne_told
  have f5 := flaw_5
  have lt := long_text
  have dt := dots
  simp only [toldL] at nt o2 ⊢
  simp only [oddL, List.replicate] at e6 o2 m0 m4 ⊢
  simp only [List.map_dropLast] at k6 kt cl e6 o2 ⊢
  simp [e1, e2, e3, hw, hh, e4, ed, el, eb, ea, ei, sm, l1, gb, m0, m4, k0, k6, kt, cl, e6, o1, f5, dt, lt, lk, nt, o2]
end G

set_option Elab.async false
set_option linter.all false
set_option maxRecDepth 100000
set_option maxHeartbeats 4000000
namespace G
open PySem PySem.Spec PyProof.Rows L2 PD TL
theorem law_true (ns : List Int) (_ : ns.length ≤ 63) (_ : ∀ z ∈ ns, Builtin.Int.intBits z ≤ 1048576) : ∃ ρ, den_law (startR false N_law.length [.list (ns.map .int)]) = .rt (.bool true) ρ := by
  obtain ⟨ρ', l1, a, b, c, s2, s3, s4, s5, s6, s7, s8, s9, s10, s11, s12, s13, s14, rfl, ok⟩ := forL_ind (dg := gN 2) (b := lb_law_3)
    (fun _ ρ => ∃ a b c s2 s3 s4 s5 s6 s7 s8 s9 s10 s11 s12 s13 s14, ρ = [.val (.list (ns.map PyData.int)), .own (rowD ns a b c), s2, s3, s4, s5, s6, s7, s8, s9, s10, s11, s12, s13, s14] ∧ RowOk a b c)
    (rangeD 0 40) 0 [.val (.list (ns.map PyData.int)), .own (rowD ns 0 81017 0), .no, .no, .no, .no, .no, .no, .no, .no, .no, .no, .no, .no, .no]
    ⟨0, 81017, 0, .no, .no, .no, .no, .no, .no, .no, .no, .no, .no, .no, .no, .no, rfl, ⟨by decide, by decide, by decide, by decide⟩⟩ (by
      rintro i d ρ hd ⟨a, b, c, s2, s3, s4, s5, s6, s7, s8, s9, s10, s11, s12, s13, s14, rfl, ok⟩
      obtain ⟨a', b', c', s3', s4', s5', s6', s7', s8', s9', s10', s11', s12', s13', e, ok'⟩ := turn_step ns ok (.val (.list (ns.map PyData.int))) (.val d) s3 s4 s5 s6 s7 s8 s9 s10 s11 s12 s13 s14
      exact ⟨_, _, rfl, .inl e, a', b', c', _, _, _, _, _, _, _, _, _, _, _, _, _, rfl, ok'⟩)
  have sm : small 40 = true := by decide
  refine ⟨[.val (.list (ns.map PyData.int)), .own (rowD ns a b c), s2, s3, s4, s5, s6, s7, s8, s9, s10, s11, s12, s13, s14], ?_⟩
  simp only [rowD] at l1 ⊢
  simp [den_law, N_law, sm]
  rw [l1]
  rfl
end G

set_option Elab.async false
set_option linter.all false
open PySem PySem.W PyProof.Rows
set_option maxRecDepth 100000 in
set_option maxHeartbeats 0 in
theorem PySem.Challenge.cw_beamboards_k00_whole_boards_drawn_and_re_holds : PySem.Challenge.rw_beamboards_k00_whole_boards_drawn_and_re.Holds := by
  w_on; o_law; k_head; (case hw => w_witness2)
  k_fill
  refine LamX.walk_ofOwn (l := PySem.Challenge.rw_beamboards_k00_whole_boards_drawn_and_re) (n := 63) (k := 9) (CX := fun w => L2.CX (PySem.Challenge.rw_beamboards_k00_whole_boards_drawn_and_re).prog w) (x := "script") rfl (by decide) rfl ⟨rfl, by decide, by decide⟩ (by decide +kernel) (fun w h Y => PySem.W.km_in_of Y) ?F (fun _ _ _ _ _ z => by obtain ⟨_, _, _, _, _, _, _, _, _, _, _, _, z⟩ := z; exact z)
  case F =>
    intro w mg fa h Y KX GN hmg own
    refine' G.all_mk KX GN hmg own G.law_true ?a_is_whole ?l_is_whole ?c_is_whole ?k_is_whole ?a_parters ?l_parters ?c_parters ?k_parters ?a_is_board ?l_is_board ?c_is_board ?k_is_board ?a_need ?l_need ?c_need ?k_need ?a_need_board ?l_need_board ?c_need_board ?k_need_board ?a_drawn ?l_drawn ?c_drawn ?k_drawn ?a_is_text ?l_is_text ?c_is_text ?k_is_text ?a_board_in ?l_board_in ?c_board_in ?k_board_in ?a_flaw ?l_flaw ?c_flaw ?k_flaw ?a_board_of ?l_board_of ?c_board_of ?k_board_of ?a__law_taken ?l__law_taken ?c__law_taken ?k__law_taken ?a__law_pick ?l__law_pick ?c__law_pick ?k__law_pick ?a__law_alike ?l__law_alike ?c__law_alike ?k__law_alike ?a__law_board ?l__law_board ?c__law_board ?k__law_board ?a__law_lines ?l__law_lines ?c__law_lines ?k__law_lines ?a__law_flaw ?l__law_flaw ?c__law_flaw ?k__law_flaw ?a__law_spoiled ?l__law_spoiled ?c__law_spoiled ?k__law_spoiled ?a__law_refused ?l__law_refused ?c__law_refused ?k__law_refused ?al ?ll ?cl ?lc ?l11 ?hcd ?nP ?hnl ?z_isinstance ?z_int ?z_bool ?z_len ?z_tuple ?z_all ?z_range ?z_str ?z_enumerate ?z_list ?g_END_ ?r_END ?g_MOST_SIDE_ ?r_MOST_SIDE ?g_EMPTY_ ?r_EMPTY ?g_PART_BACKSLASH_ ?r_PART_BACKSLASH ?g_MOST_PARTERS_ ?r_MOST_PARTERS ?g_SIGNS_ ?r_SIGNS ?g_MOST_TEXT_ ?r_MOST_TEXT ?aCBadArgument ?xLBadArgument ?saBadArgument ?gaBadArgument ?ggBadArgument ?nbBadArgumentname ?iIBadArgument ?lI_BadArgument ?cI_BadArgument ?kI_BadArgument ?tIBadArgument ?kCBadArgument ?eCBadArgument ?tCBadArgument ?hCBadArgument ?iCBadArgument ?sCBadArgument ?aCFlaw ?xLFlaw ?saFlaw ?gaFlaw ?ggFlaw ?nbFlawplace ?nbFlawmessage ?iIFlaw ?lI_Flaw ?cI_Flaw ?kI_Flaw ?tIFlaw ?kCFlaw ?eCFlaw ?tCFlaw ?hCFlaw ?iCFlaw ?sCFlaw
    (case a_is_whole => first | k_is | rfl)
    (case l_is_whole => first | k_is | rfl)
    (case c_is_whole => first | k_is | rfl)
    (case k_is_whole => first | k_is | rfl)
    (case a_parters => first | k_is | rfl)
    (case l_parters => first | k_is | rfl)
    (case c_parters => first | k_is | rfl)
    (case k_parters => first | k_is | rfl)
    (case a_is_board => first | k_is | rfl)
    (case l_is_board => first | k_is | rfl)
    (case c_is_board => first | k_is | rfl)
    (case k_is_board => first | k_is | rfl)
    (case a_need => first | k_is | rfl)
    (case l_need => first | k_is | rfl)
    (case c_need => first | k_is | rfl)
    (case k_need => first | k_is | rfl)
    (case a_need_board => first | k_is | rfl)
    (case l_need_board => first | k_is | rfl)
    (case c_need_board => first | k_is | rfl)
    (case k_need_board => first | k_is | rfl)
    (case a_drawn => first | k_is | rfl)
    (case l_drawn => first | k_is | rfl)
    (case c_drawn => first | k_is | rfl)
    (case k_drawn => first | k_is | rfl)
    (case a_is_text => first | k_is | rfl)
    (case l_is_text => first | k_is | rfl)
    (case c_is_text => first | k_is | rfl)
    (case k_is_text => first | k_is | rfl)
    (case a_board_in => first | k_is | rfl)
    (case l_board_in => first | k_is | rfl)
    (case c_board_in => first | k_is | rfl)
    (case k_board_in => first | k_is | rfl)
    (case a_flaw => first | k_is | rfl)
    (case l_flaw => first | k_is | rfl)
    (case c_flaw => first | k_is | rfl)
    (case k_flaw => first | k_is | rfl)
    (case a_board_of => first | k_is | rfl)
    (case l_board_of => first | k_is | rfl)
    (case c_board_of => first | k_is | rfl)
    (case k_board_of => first | k_is | rfl)
    (case a__law_taken => first | k_is | rfl)
    (case l__law_taken => first | k_is | rfl)
    (case c__law_taken => first | k_is | rfl)
    (case k__law_taken => first | k_is | rfl)
    (case a__law_pick => first | k_is | rfl)
    (case l__law_pick => first | k_is | rfl)
    (case c__law_pick => first | k_is | rfl)
    (case k__law_pick => first | k_is | rfl)
    (case a__law_alike => first | k_is | rfl)
    (case l__law_alike => first | k_is | rfl)
    (case c__law_alike => first | k_is | rfl)
    (case k__law_alike => first | k_is | rfl)
    (case a__law_board => first | k_is | rfl)
    (case l__law_board => first | k_is | rfl)
    (case c__law_board => first | k_is | rfl)
    (case k__law_board => first | k_is | rfl)
    (case a__law_lines => first | k_is | rfl)
    (case l__law_lines => first | k_is | rfl)
    (case c__law_lines => first | k_is | rfl)
    (case k__law_lines => first | k_is | rfl)
    (case a__law_flaw => first | k_is | rfl)
    (case l__law_flaw => first | k_is | rfl)
    (case c__law_flaw => first | k_is | rfl)
    (case k__law_flaw => first | k_is | rfl)
    (case a__law_spoiled => first | k_is | rfl)
    (case l__law_spoiled => first | k_is | rfl)
    (case c__law_spoiled => first | k_is | rfl)
    (case k__law_spoiled => first | k_is | rfl)
    (case a__law_refused => first | k_is | rfl)
    (case l__law_refused => first | k_is | rfl)
    (case c__law_refused => first | k_is | rfl)
    (case k__law_refused => first | k_is | rfl)
    (case al => first | k_is | rfl)
    (case ll => first | k_is | rfl)
    (case cl => first | k_is | rfl)
    (case lc => first | k_is | rfl)
    (case l11 => first | rfl | k_is)
    (case hcd => first | k_is | rfl)
    (case nP => first | k_is | rfl)
    (case hnl => first | rfl | k_is)
    (case z_isinstance => first | k_is | rfl)
    (case z_int => first | k_is | rfl)
    (case z_bool => first | k_is | rfl)
    (case z_len => first | k_is | rfl)
    (case z_tuple => first | k_is | rfl)
    (case z_all => first | k_is | rfl)
    (case z_range => first | k_is | rfl)
    (case z_str => first | k_is | rfl)
    (case z_enumerate => first | k_is | rfl)
    (case z_list => first | k_is | rfl)
    (case g_END_ => first | k_is | rfl)
    (case r_END => first | exact ⟨_, rfl⟩ | rfl)
    (case g_MOST_SIDE_ => first | k_is | rfl)
    (case r_MOST_SIDE => first | exact ⟨_, rfl⟩ | rfl)
    (case g_EMPTY_ => first | k_is | rfl)
    (case r_EMPTY => first | exact ⟨_, rfl⟩ | rfl)
    (case g_PART_BACKSLASH_ => first | k_is | rfl)
    (case r_PART_BACKSLASH => first | exact ⟨_, rfl⟩ | rfl)
    (case g_MOST_PARTERS_ => first | k_is | rfl)
    (case r_MOST_PARTERS => first | exact ⟨_, rfl⟩ | rfl)
    (case g_SIGNS_ => first | k_is | rfl)
    (case r_SIGNS => first | exact ⟨_, rfl⟩ | rfl)
    (case g_MOST_TEXT_ => first | k_is | rfl)
    (case r_MOST_TEXT => first | exact ⟨_, rfl⟩ | rfl)
    (case aCBadArgument => first | k_is | rfl)
    (case xLBadArgument => first | k_is | rfl)
    (case saBadArgument => first | k_is | rfl)
    (case gaBadArgument => first | k_is | rfl)
    (case ggBadArgument => first | k_is | rfl)
    (case nbBadArgumentname => first | k_is | rfl)
    (case iIBadArgument => first | k_is | rfl)
    (case lI_BadArgument => first | k_is | rfl)
    (case cI_BadArgument => first | k_is | rfl)
    (case kI_BadArgument => first | k_is | rfl)
    (case tIBadArgument => first | k_is | rfl)
    (case kCBadArgument => first | k_is | rfl)
    (case eCBadArgument => first | k_is | rfl)
    (case tCBadArgument => first | k_is | rfl)
    (case hCBadArgument => first | k_is | rfl)
    (case iCBadArgument => first | k_is | rfl)
    (case sCBadArgument => first | k_is | rfl)
    (case aCFlaw => first | k_is | rfl)
    (case xLFlaw => first | k_is | rfl)
    (case saFlaw => first | k_is | rfl)
    (case gaFlaw => first | k_is | rfl)
    (case ggFlaw => first | k_is | rfl)
    (case nbFlawplace => first | k_is | rfl)
    (case nbFlawmessage => first | k_is | rfl)
    (case iIFlaw => first | k_is | rfl)
    (case lI_Flaw => first | k_is | rfl)
    (case cI_Flaw => first | k_is | rfl)
    (case kI_Flaw => first | k_is | rfl)
    (case tIFlaw => first | k_is | rfl)
    (case kCFlaw => first | k_is | rfl)
    (case eCFlaw => first | k_is | rfl)
    (case tCFlaw => first | k_is | rfl)
    (case hCFlaw => first | k_is | rfl)
    (case iCFlaw => first | k_is | rfl)
    (case sCFlaw => first | k_is | rfl)
