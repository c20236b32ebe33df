import PyProof.Rows.All
import Wide.All
import OpenK.AllK
import Wide.FinOn
import KE.DataEq
import HandS.ForMost
import HandS.ForExc
import HandS.IsInst
import HandS.Wide
import HandS.Lambda
import HandS.ExcCtx
import HandS.HotCalls
import HandS.ExcIs
import HandS.TupMul
import HandS.TupAny
import HandS.Dict
import HandS.Small
import KE.GoesMore
import HandS.Style
import HandS.Defaults
import HandS.HeadHook1
import KE.SortData
import HandS.Flt
import HandS.Iter
import HandS.ExcBuiltin
import KE.KStateDown
import Lean
import HandS.Base
import HandS.Call
import HandS.Ends
import HandS.More
import HandS.Words
import HandS.WordsExc
import HandS.Head0
import HandS.Head1
import HandS.Head2
import HandS.HeadEnd
import HandS.HeadHook2
import HandS.HeadHook3
import HandS.HeadHook4
import HandS.EndTab
import HandS.EndOwn
import HandS.HeadWalk
import PySem.Challenge.RW_roundnets_k07_whole_rings
section
set_option Elab.async false
set_option linter.all false
set_option maxRecDepth 100000
/-! Core1: plain data in a frozen part of the heap, cells, environments, steps. -/
namespace Rn
open PySem PySem.Spec L2

abbrev D := PyData

def keyD : Key → D
  | .inl i => .int i
  | .inr x => .str x

mutual
/-- the value v is the data d, by objects of F alone -/
def Den (F : Hp) : D → V → Prop
  | .none, v => v = .non
  | .bool b, v => v = .bl b
  | .int i, v => v = .int i
  | .str x, v => v = .str x
  | .list ds, v => ∃ a vs, v = .ref a ∧ F a = some (.lst vs) ∧ DenL F ds vs
  | .tuple ds, v => ∃ a vs, v = .ref a ∧ F a = some (.tup vs) ∧ DenL F ds vs
  | .dict kds, v => ∃ a kvs, v = .ref a ∧ F a = some (.dK kvs) ∧ DenK F kds kvs
def DenL (F : Hp) : List D → List V → Prop
  | [], vs => vs = []
  | d :: ds, vs => ∃ v r, vs = v :: r ∧ Den F d v ∧ DenL F ds r
def DenK (F : Hp) : List (D × D) → List (Key × V) → Prop
  | [], kvs => kvs = []
  | (k, d) :: ds, kvs => ∃ q v r, kvs = (q, v) :: r ∧ keyD q = k ∧ Den F d v ∧ DenK F ds r
end

mutual
theorem Den.mono {F F' : Hp} (s : Same F F') : ∀ {d : D} {v : V}, Den F d v → Den F' d v
  | .none, _, h => h
  | .bool _, _, h => h
  | .int _, _, h => h
  | .str _, _, h => h
  | .list ds, _, ⟨a, vs, e, h, l⟩ => ⟨a, vs, e, s _ _ h, DenL.mono s l⟩
  | .tuple ds, _, ⟨a, vs, e, h, l⟩ => ⟨a, vs, e, s _ _ h, DenL.mono s l⟩
  | .dict kds, _, ⟨a, vs, e, h, l⟩ => ⟨a, vs, e, s _ _ h, DenK.mono s l⟩
theorem DenL.mono {F F' : Hp} (s : Same F F') : ∀ {ds : List D} {vs : List V}, DenL F ds vs → DenL F' ds vs
  | [], _, h => h
  | _ :: _, _, ⟨v, r, e, h, l⟩ => ⟨v, r, e, Den.mono s h, DenL.mono s l⟩
theorem DenK.mono {F F' : Hp} (s : Same F F') : ∀ {ds : List (D × D)} {vs : List (Key × V)}, DenK F ds vs → DenK F' ds vs
  | [], _, h => h
  | (_, _) :: _, _, ⟨q, v, r, e, k, h, l⟩ => ⟨q, v, r, e, k, Den.mono s h, DenK.mono s l⟩
end

theorem DenL.len {F : Hp} : ∀ {ds : List D} {vs : List V}, DenL F ds vs → ds.length = vs.length
  | [], _, h => by cases h; rfl
  | _ :: _, _, ⟨v, r, e, _, l⟩ => by cases e; simp [DenL.len l]
theorem DenL.get {F : Hp} : ∀ {ds : List D} {vs : List V} {i : Nat} {d : D}, DenL F ds vs → ds[i]? = some d → ∃ v, vs[i]? = some v ∧ Den F d v
  | [], _, _, _, _, e => by simp at e
  | _ :: _, _, 0, _, ⟨v, r, q, h, l⟩, e => by cases q; simp at e; subst e; exact ⟨v, rfl, h⟩
  | _ :: _, _, i + 1, d, ⟨v, r, q, h, l⟩, e => by
    cases q
    obtain ⟨u, h1, h2⟩ := DenL.get (i := i) (d := d) l (by simpa using e)
    exact ⟨u, by simpa using h1, h2⟩
theorem DenL.got {F : Hp} : ∀ {ds : List D} {vs : List V} {i : Nat} {v : V}, DenL F ds vs → vs[i]? = some v → ∃ d, ds[i]? = some d ∧ Den F d v
  | [], _, _, _, h, e => by cases h; simp at e
  | d :: _, _, 0, _, ⟨v, r, q, h, l⟩, e => by cases q; simp at e; subst e; exact ⟨d, rfl, h⟩
  | _ :: _, _, i + 1, d, ⟨v, r, q, h, l⟩, e => by
    cases q
    obtain ⟨u, h1, h2⟩ := DenL.got (i := i) (v := d) l (by simpa using e)
    exact ⟨u, by simpa using h1, h2⟩
theorem DenL.of_get {F : Hp} : ∀ {ds : List D} {vs : List V}, ds.length = vs.length → (∀ (i : Nat) d v, ds[i]? = some d → vs[i]? = some v → Den F d v) → DenL F ds vs
  | [], [], _, _ => rfl
  | [], _ :: _, h, _ => by simp at h
  | _ :: _, [], h, _ => by simp at h
  | d :: ds, v :: vs, h, g => ⟨v, vs, rfl, g 0 d v rfl rfl, DenL.of_get (by simpa using h) fun i d v a b => g (i + 1) d v (by simpa using a) (by simpa using b)⟩
theorem DenL.app {F : Hp} : ∀ {ds es : List D} {vs ws : List V}, DenL F ds vs → DenL F es ws → DenL F (ds ++ es) (vs ++ ws)
  | [], _, _, _, h, g => by cases h; exact g
  | _ :: _, _, _, _, ⟨v, r, q, h, l⟩, g => by cases q; exact ⟨v, _, rfl, h, DenL.app l g⟩
theorem DenL.one {F : Hp} {d : D} {v : V} (h : Den F d v) : DenL F [d] [v] := ⟨v, [], rfl, h, rfl⟩
theorem DenL.take {F : Hp} : ∀ {ds : List D} {vs : List V} (n : Nat), DenL F ds vs → DenL F (ds.take n) (vs.take n)
  | [], _, n, h => by cases h; simp [DenL]
  | _ :: _, _, 0, h => by simp [DenL]
  | _ :: _, _, n + 1, ⟨v, r, q, h, l⟩ => by cases q; exact ⟨v, _, rfl, h, DenL.take n l⟩
theorem DenL.drop {F : Hp} : ∀ {ds : List D} {vs : List V} (n : Nat), DenL F ds vs → DenL F (ds.drop n) (vs.drop n)
  | [], _, n, h => by cases h; simp [DenL]
  | _ :: _, _, 0, h => h
  | _ :: _, _, n + 1, ⟨v, r, q, h, l⟩ => by cases q; exact DenL.drop n l
theorem DenL.set {F : Hp} {d : D} {v : V} (g : Den F d v) : ∀ {ds : List D} {vs : List V} (n : Nat), DenL F ds vs → DenL F (ds.set n d) (vs.set n v)
  | [], _, n, h => by cases h; simp [DenL]
  | _ :: _, _, 0, ⟨u, r, q, h, l⟩ => by cases q; exact ⟨v, r, rfl, g, l⟩
  | _ :: _, _, n + 1, ⟨u, r, q, h, l⟩ => by cases q; exact ⟨u, _, rfl, h, DenL.set g n l⟩
theorem DenL.dropLast {F : Hp} {ds : List D} {vs : List V} (h : DenL F ds vs) : DenL F ds.dropLast vs.dropLast := by
  rw [List.dropLast_eq_take, List.dropLast_eq_take, ← h.len]
  exact h.take _
theorem DenL.rep {F : Hp} {ds : List D} {vs : List V} (h : DenL F ds vs) : ∀ k : Nat, DenL F (List.replicate k ds).flatten (List.replicate k vs).flatten
  | 0 => rfl
  | k + 1 => by
    rw [List.replicate_succ, List.replicate_succ, List.flatten_cons, List.flatten_cons]
    exact h.app (DenL.rep h k)
theorem DenL.ints {F : Hp} : ∀ {ns : List Int}, DenL F (ns.map PyData.int) (ns.map V.int)
  | [] => rfl
  | n :: ns => ⟨.int n, _, rfl, rfl, DenL.ints⟩
theorem DenL.of_ints {F : Hp} : ∀ {ns : List Int} {vs : List V}, DenL F (ns.map PyData.int) vs → vs = ns.map V.int
  | [], _, h => h
  | n :: ns, _, ⟨v, r, e, h, l⟩ => by subst e; rw [DenL.of_ints l, show v = V.int n from h]; rfl
theorem DenL.of_bools {F : Hp} : ∀ {bs : List Bool} {vs : List V}, DenL F (bs.map PyData.bool) vs → vs = bs.map V.bl
  | [], _, h => h
  | n :: ns, _, ⟨v, r, e, h, l⟩ => by subst e; rw [DenL.of_bools l, show v = V.bl n from h]; rfl

/-- the object o is the list or dict d -/
def Shal (F : Hp) : D → HO → Prop
  | .list ds, .lst vs => DenL F ds vs
  | .dict kds, .dK kvs => DenK F kds kvs
  | _, _ => False
theorem Shal.mono {F F' : Hp} (s : Same F F') {d : D} {o : HO} (h : Shal F d o) : Shal F' d o := by
  cases d <;> cases o <;> first | exact h | exact DenL.mono s h | exact DenK.mono s h
theorem Shal.den {F : Hp} {d : D} {o : HO} {a : Addr} (h : Shal F d o) (e : F a = some o) : Den F d (.ref a) := by
  cases d <;> cases o <;> first | exact h.elim | exact ⟨_, _, rfl, e, h⟩
theorem Shal.lst {F : Hp} {ds : List D} {o : HO} (h : Shal F (.list ds) o) : ∃ vs, o = .lst vs ∧ DenL F ds vs := by
  cases o <;> first | exact h.elim | exact ⟨_, rfl, h⟩
theorem Shal.dic {F : Hp} {ds : List (D × D)} {o : HO} (h : Shal F (.dict ds) o) : ∃ vs, o = .dK vs ∧ DenK F ds vs := by
  cases o <;> first | exact h.elim | exact ⟨_, rfl, h⟩
theorem Shal.cases {F : Hp} {d : D} {o : HO} (h : Shal F d o) : (∃ ds vs, d = .list ds ∧ o = .lst vs ∧ DenL F ds vs) ∨ ∃ ds vs, d = .dict ds ∧ o = .dK vs ∧ DenK F ds vs := by
  cases d <;> cases o <;> first | exact h.elim | exact .inl ⟨_, _, rfl, rfl, h⟩ | exact .inr ⟨_, _, rfl, rfl, h⟩

/-! ### cells and environments -/
inductive Cell where
  | no
  | fz (d : D)
  | ow (d : D)
  | va (k : Nat)
  | bw (d : D)
abbrev Rho := List Cell
def Cell.own : Cell → Bool
  | .ow _ => true
  | .bw _ => true
  | _ => false

inductive R (α : Type) where
  | ok (a : α) (r : Rho)
  | ex (c : Str) (r : Rho)
  | no
abbrev M (α : Type) := Rho → R α

structure Bd where
  H0 : Hp
  F0 : Hp
  bs : List Addr
  T : List (Addr × Str)
  vals : List V
/-- a list or a dict -/
def LD (o : HO) : Prop := (∃ vs, o = .lst vs) ∨ ∃ kvs, o = .dK kvs
theorem LD.tbl {ps : Array Value} (h : LD (.tbl ps)) : False := by
  rcases h with ⟨_, h⟩ | ⟨_, h⟩ <;> cases h
theorem LD.code {c : Addr} {q : Str} (h : LD (LamX.CodeO c q)) : False := by
  unfold LamX.CodeO at h
  rcases h with ⟨_, h⟩ | ⟨_, h⟩ <;> cases h
theorem Shal.ld {F : Hp} {d : D} {o : HO} (h : Shal F d o) : LD o := by
  rcases h.cases with ⟨_, vs, _, e, _⟩ | ⟨_, vs, _, e, _⟩
  · exact .inl ⟨vs, e⟩
  · exact .inr ⟨vs, e⟩
/-- the tables stay when no more than a list or a dict changes -/
theorem tabs_but {T : List (Addr × Str)} {H H' : Hp} {a : Addr} (t : LamX.Tabs T H) (hb : ∀ b x, H b = some x → b ≠ a → H' b = some x) (ha : ∀ x, H a = some x → LD x) : LamX.Tabs T H' := by
  intro p hp
  obtain ⟨ps, h1, h2, h3⟩ := t p hp
  refine ⟨ps, hb _ _ h1 (fun z => ?_), h2, fun pos cv hc => ?_⟩
  · rw [z] at h1
    exact (ha _ h1).tbl
  · obtain ⟨c, e, hc'⟩ := h3 pos cv hc
    refine ⟨c, e, hb _ _ hc' fun z => ?_⟩
    rw [z] at hc'
    exact (ha _ hc').code
theorem tabs_at {T : List (Addr × Str)} {H : Hp} (t : LamX.Tabs T H) {a : Addr} (h : ∀ ps, H a ≠ some (.tbl ps)) : ∀ q ∈ T, q.1 ≠ a := fun q hq e => by
  obtain ⟨ps, h1, _⟩ := t q hq
  rw [e] at h1
  exact h ps h1
theorem none_tbl {H : Hp} {a : Addr} (h : H a = none) : ∀ ps, H a ≠ some (.tbl ps) := fun ps e => by rw [h] at e; cases e
theorem ld_tbl {H : Hp} {a : Addr} {o : HO} (h : H a = some o) (l : LD o) : ∀ ps, H a ≠ some (.tbl ps) := fun ps e => by
  rw [h] at e
  cases e
  exact l.tbl

def CellOk (B : Bd) (F H : Hp) (v : Option V) : Cell → Prop
  | .no => True
  | .fz d => ∃ u, v = some u ∧ Den F d u
  | .ow d => ∃ a o, v = some (.ref a) ∧ H a = some o ∧ Shal F d o ∧ F a = none ∧ B.H0 a = none
  | .bw d => ∃ a o, v = some (.ref a) ∧ H a = some o ∧ Shal F d o ∧ F a = none ∧ a ∈ B.bs
  | .va k => ∃ u, B.vals[k]? = some u ∧ v = some u

def Owns (σ : L2.St) (ρ : Rho) (a : Addr) : Prop := ∃ (i : Nat) (c : Cell), σ[i]? = some (some (V.ref a)) ∧ ρ[i]? = some c ∧ c.own = true

structure Mt (B : Bd) (F H : Hp) (σ : L2.St) (ρ : Rho) : Prop where
  sub : Same F H
  old : Same B.F0 F
  new : ∀ a o, F a = some o → B.F0 a = some o ∨ B.H0 a = none
  frm : ∀ a o, B.H0 a = some o → a ∉ B.bs → (∀ q ∈ B.T, q.1 ≠ a) → H a = some o
  dom : ∀ a, H a = none → B.H0 a = none
  len : ρ.length = σ.length
  cell : ∀ (i : Nat) (v : Option V) (c : Cell), σ[i]? = some v → ρ[i]? = some c → CellOk B F H v c
  apart : ∀ (i j : Nat) (a : Addr) (c c' : Cell), σ[i]? = some (some (.ref a)) → σ[j]? = some (some (.ref a)) → ρ[i]? = some c → ρ[j]? = some c' → c.own = true → c'.own = true → i = j
  tabs : LamX.Tabs B.T H
  ntab : ∀ q ∈ B.T, F q.1 = none

/-- what an expression may do to a cell -/
def KStep : Cell → Cell → Prop
  | .no, .no => True
  | .fz d, .fz e => d = e
  | .ow _, .ow _ => True
  | .ow _, .fz _ => True
  | .bw _, .bw _ => True
  | .va u, .va w => u = w
  | _, _ => False
theorem KStep.refl : ∀ c : Cell, KStep c c
  | .no => trivial
  | .fz _ => rfl
  | .ow _ => trivial
  | .bw _ => trivial
  | .va _ => rfl
theorem KStep.trans : ∀ {a b c : Cell}, KStep a b → KStep b c → KStep a c := by
  intro a b c h g
  cases a <;> cases b <;> cases c <;> first | exact h.elim | exact g.elim | exact trivial | exact (show _ = _ from h).trans g

structure Stp (B : Bd) (F H : Hp) (σ : L2.St) (ρ : Rho) (F' H' : Hp) (ρ' : Rho) : Prop where
  mt : Mt B F' H' σ ρ'
  old : Same F F'
  new : ∀ a o, F' a = some o → F a = some o ∨ H a = none ∨ Owns σ ρ a
  frm : ∀ a o, H a = some o → ¬ Owns σ ρ a → (∀ q ∈ B.T, q.1 ≠ a) → H' a = some o
  dom : ∀ a, H' a = none → H a = none
  own : ∀ a, Owns σ ρ' a → Owns σ ρ a
  kind : ∀ (i : Nat) (c : Cell), ρ[i]? = some c → ∃ c', ρ'[i]? = some c' ∧ KStep c c'

structure Ext (F H F' H' : Hp) : Prop where
  same : Same H H'
  old : Same F F'
  sub : Same F' H'
  new : ∀ a o, F' a = some o → F a = some o ∨ H a = none

theorem Ext.refl {F H : Hp} (h : Same F H) : Ext F H F H := ⟨Same.refl _, Same.refl _, h, fun _ _ e => .inl e⟩
theorem Ext.trans {F H F1 H1 F2 H2 : Hp} (x : Ext F H F1 H1) (y : Ext F1 H1 F2 H2) : Ext F H F2 H2 where
  same := x.same.trans y.same
  old := x.old.trans y.old
  sub := y.sub
  new := fun a o e => by
    rcases y.new a o e with h | h
    · exact x.new a o h
    · exact .inr (x.same.free h)
theorem same_upd {H : Hp} {p : Addr} {o : HO} (h : H p = none) : Same H (upd H p o) := fun b x e => by
  rw [upd_ne (ne_of_none e h)]
  exact e
theorem same_upd2 {F H : Hp} (s : Same F H) (p : Addr) (o : HO) : Same (upd F p o) (upd H p o) := fun b x e => by
  by_cases hb : b = p
  · subst hb; rw [upd_same] at e ⊢; exact e
  · rw [upd_ne hb] at e ⊢; exact s _ _ e
/-- a new object, frozen -/
theorem Ext.laid {F H : Hp} (s : Same F H) {p : Addr} (n : H p = none) (o : HO) : Ext F H (upd F p o) (upd H p o) where
  same := same_upd n
  old := same_upd (s.free n)
  sub := same_upd2 s p o
  new := fun a x e => by
    by_cases hb : a = p
    · subst hb; exact .inr n
    · rw [upd_ne hb] at e; exact .inl e
/-- a new object, not frozen -/
theorem Ext.loose {F H : Hp} (s : Same F H) {p : Addr} (n : H p = none) (o : HO) : Ext F H F (upd H p o) where
  same := same_upd n
  old := Same.refl _
  sub := s.trans (same_upd n)
  new := fun a x e => .inl e

section
variable {B : Bd} {F H F' H' F2 H2 : Hp} {σ : L2.St} {ρ ρ' ρ2 : Rho}
theorem Mt.refl (m : Mt B F H σ ρ) : Stp B F H σ ρ F H ρ := ⟨m, Same.refl _, fun _ _ e => .inl e, fun _ _ e _ _ => e, fun _ e => e, fun _ e => e, fun _ c e => ⟨c, e, KStep.refl c⟩⟩
theorem Mt.hasOwn (m : Mt B F H σ ρ) {a : Addr} (h : Owns σ ρ a) : F a = none ∧ ∃ o, H a = some o := by
  obtain ⟨i, c, h1, h2, h3⟩ := h
  have q := m.cell i _ c h1 h2
  cases c with
  | no => cases h3
  | fz d => cases h3
  | ow d => obtain ⟨b, o, e, f, _, g, _⟩ := q; cases e; exact ⟨g, o, f⟩
  | va d => cases h3
  | bw d => obtain ⟨b, o, e, f, _, g, _⟩ := q; cases e; exact ⟨g, o, f⟩
theorem Mt.noOwn (m : Mt B F H σ ρ) {a : Addr} (h : H a = none) : ¬ Owns σ ρ a := fun x => by
  obtain ⟨_, o, e⟩ := m.hasOwn x
  rw [h] at e; cases e
theorem Stp.trans (x : Stp B F H σ ρ F' H' ρ') (y : Stp B F' H' σ ρ' F2 H2 ρ2) : Stp B F H σ ρ F2 H2 ρ2 where
  mt := y.mt
  old := x.old.trans y.old
  new := fun a o e => by
    rcases y.new a o e with h | h | h
    · exact x.new a o h
    · exact .inr (.inl (x.dom _ h))
    · exact .inr (.inr (x.own _ h))
  frm := fun a o e n t => y.frm a o (x.frm a o e n t) (fun q => n (x.own _ q)) t
  dom := fun a e => x.dom _ (y.dom _ e)
  own := fun a e => x.own _ (y.own _ e)
  kind := fun i c e => by
    obtain ⟨c1, e1, k1⟩ := x.kind i c e
    obtain ⟨c2, e2, k2⟩ := y.kind i c1 e1
    exact ⟨c2, e2, k1.trans k2⟩
/-- the heap grows -/
theorem Mt.grow (m : Mt B F H σ ρ) (e : Ext F H F' H') : Mt B F' H' σ ρ where
  sub := e.sub
  old := m.old.trans e.old
  new := fun a o h => by
    rcases e.new a o h with q | q
    · exact m.new a o q
    · exact .inr (m.dom _ q)
  frm := fun a o h n t => e.same _ _ (m.frm a o h n t)
  dom := fun a h => m.dom _ (e.same.free h)
  len := m.len
  cell := fun i v c h1 h2 => by
    have q := m.cell i v c h1 h2
    cases c with
    | no => trivial
    | fz d => obtain ⟨u, a, b⟩ := q; exact ⟨u, a, b.mono e.old⟩
    | ow d =>
      obtain ⟨a, o, h1, h2, h3, h4, h5⟩ := q
      refine ⟨a, o, h1, e.same _ _ h2, h3.mono e.old, ?_, h5⟩
      cases w : F' a with
      | none => rfl
      | some u =>
        rcases e.new a u w with z | z
        · rw [h4] at z; cases z
        · rw [h2] at z; cases z
    | va d => exact q
    | bw d =>
      obtain ⟨a, o, h1, h2, h3, h4, h5⟩ := q
      refine ⟨a, o, h1, e.same _ _ h2, h3.mono e.old, ?_, h5⟩
      cases w : F' a with
      | none => rfl
      | some u =>
        rcases e.new a u w with z | z
        · rw [h4] at z; cases z
        · rw [h2] at z; cases z
  apart := m.apart
  tabs := m.tabs.ext e.same
  ntab := fun q hq => by
    cases w : F' q.1 with
    | none => rfl
    | some o =>
      rcases e.new _ o w with z | z
      · rw [m.ntab q hq] at z; cases z
      · obtain ⟨ps, h1, _⟩ := m.tabs q hq
        rw [h1] at z; cases z
theorem Mt.ext (m : Mt B F H σ ρ) (e : Ext F H F' H') : Stp B F H σ ρ F' H' ρ :=
  ⟨m.grow e, e.old, fun a o h => (e.new a o h).elim .inl fun q => .inr (.inl q), fun _ _ h _ _ => e.same _ _ h, fun _ h => e.same.free h, fun _ h => h, fun _ c h => ⟨c, h, KStep.refl c⟩⟩
theorem Stp.ext (x : Stp B F H σ ρ F' H' ρ') (e : Ext F' H' F2 H2) : Stp B F H σ ρ F2 H2 ρ' := x.trans (x.mt.ext e)

theorem set_get {α : Type} {l : List α} {i j : Nat} {x y : α} (h : (l.set i x)[j]? = some y) : (i = j ∧ x = y) ∨ (i ≠ j ∧ l[j]? = some y) := by
  rw [List.getElem?_set] at h
  by_cases e : i = j
  · rw [if_pos e] at h
    split at h
    · exact .inl ⟨e, Option.some.inj h⟩
    · cases h
  · rw [if_neg e] at h
    exact .inr ⟨e, h⟩
/-- an owned list or dict is frozen -/
theorem Mt.freeze (m : Mt B F H σ ρ) {i : Nat} {d : D} {a : Addr} {o : HO} (hs : σ[i]? = some (some (.ref a))) (hc : ρ[i]? = some (.ow d)) (ho : H a = some o) (sh : Shal F d o) (hn : F a = none) (h0 : B.H0 a = none) :
    Stp B F H σ ρ (upd F a o) H (ρ.set i (.fz d)) := by
  have sF : Same F (upd F a o) := same_upd hn
  have il : i < ρ.length := (List.getElem?_eq_some_iff.mp hc).1
  have own_a : Owns σ ρ a := ⟨i, _, hs, hc, rfl⟩
  refine ⟨⟨fun b u e => ?_, m.old.trans sF, fun b u e => ?_, m.frm, m.dom, by rw [List.length_set]; exact m.len, fun j v c h1 h2 => ?_, fun j k b c c' h1 h2 h3 h4 h5 h6 => ?_, m.tabs, fun q hq => by rw [upd_ne (tabs_at m.tabs (ld_tbl ho sh.ld) q hq)]; exact m.ntab q hq⟩, sF, fun b u e => ?_, fun b u e _ _ => e, fun _ e => e, fun b e => ?_, fun j c e => ?_⟩
  · by_cases hb : b = a
    · subst hb; rw [upd_same] at e; cases e; exact ho
    · rw [upd_ne hb] at e; exact m.sub _ _ e
  · by_cases hb : b = a
    · subst hb; exact .inr h0
    · rw [upd_ne hb] at e; exact m.new _ _ e
  · rcases set_get h2 with ⟨rfl, rfl⟩ | ⟨ne, h2⟩
    · rw [hs] at h1; cases h1
      exact ⟨_, rfl, (sh.mono sF).den upd_same⟩
    · have q := m.cell j v c h1 h2
      cases c with
      | no => trivial
      | fz d' => obtain ⟨u, x, y⟩ := q; exact ⟨u, x, y.mono sF⟩
      | ow d' =>
        obtain ⟨b, u, rfl, x2, x3, x4, x5⟩ := q
        refine ⟨b, u, rfl, x2, x3.mono sF, ?_, x5⟩
        rw [upd_ne (fun z => ne (m.apart i j a _ _ hs (by rw [h1, z]) hc h2 rfl rfl))]
        exact x4
      | va d' => exact q
      | bw d' =>
        obtain ⟨b, u, rfl, x2, x3, x4, x5⟩ := q
        refine ⟨b, u, rfl, x2, x3.mono sF, ?_, x5⟩
        rw [upd_ne (fun z => ne (m.apart i j a _ _ hs (by rw [h1, z]) hc h2 rfl rfl))]
        exact x4
  · rcases set_get h3 with ⟨rfl, rfl⟩ | ⟨ne, h3⟩
    · cases h5
    · rcases set_get h4 with ⟨rfl, rfl⟩ | ⟨ne, h4⟩
      · cases h6
      · exact m.apart j k b c c' h1 h2 h3 h4 h5 h6
  · by_cases hb : b = a
    · subst hb; exact .inr (.inr own_a)
    · rw [upd_ne hb] at e; exact .inl e
  · obtain ⟨j, c, x1, x2, x3⟩ := e
    rcases set_get x2 with ⟨rfl, rfl⟩ | ⟨ne, x2⟩
    · cases x3
    · exact ⟨j, c, x1, x2, x3⟩
  · by_cases hj : i = j
    · subst hj
      rw [hc] at e; cases e
      exact ⟨.fz d, by rw [List.getElem?_set]; simp [il], trivial⟩
    · exact ⟨c, by rw [List.getElem?_set]; simp [hj, e], KStep.refl c⟩
/-- the content of an owned list or dict changes -/
theorem Mt.write (m : Mt B F H σ ρ) {i : Nat} {c d : Cell} {a : Addr} {o : HO} {z : D} (hs : σ[i]? = some (some (.ref a))) (hc : ρ[i]? = some c) (hown : c.own = true) (sh : Shal F z o)
    (hd : (∃ y, c = .ow y ∧ d = .ow z) ∨ ∃ y, c = .bw y ∧ d = .bw z) :
    Stp B F H σ ρ F (upd H a o) (ρ.set i d) := by
  have il : i < ρ.length := (List.getElem?_eq_some_iff.mp hc).1
  have own_a : Owns σ ρ a := ⟨i, _, hs, hc, hown⟩
  obtain ⟨hn, oa, ha⟩ := m.hasOwn own_a
  have dn : d.own = true := by rcases hd with ⟨y, _, rfl⟩ | ⟨y, _, rfl⟩ <;> rfl
  have nb : ∀ b u, B.H0 b = some u → b ∉ B.bs → b ≠ a := fun b u e n q => by
    have w := m.cell i _ c hs hc
    subst q
    rcases hd with ⟨y, rfl, _⟩ | ⟨y, rfl, _⟩
    · obtain ⟨b', o', q1, _, _, _, q5⟩ := w; cases q1; rw [e] at q5; cases q5
    · obtain ⟨b', o', q1, _, _, _, q5⟩ := w; cases q1; exact n q5
  have la : LD oa := by
    have w := m.cell i _ c hs hc
    rcases hd with ⟨y, rfl, _⟩ | ⟨y, rfl, _⟩
    · obtain ⟨b', o', q1, q2, q3, _, _⟩ := w; cases q1; rw [ha] at q2; cases q2; exact q3.ld
    · obtain ⟨b', o', q1, q2, q3, _, _⟩ := w; cases q1; rw [ha] at q2; cases q2; exact q3.ld
  refine ⟨⟨fun b u e => ?_, m.old, m.new, fun b u e n t => ?_, fun b e => ?_, by rw [List.length_set]; exact m.len, fun j v c' h1 h2 => ?_, fun j k b c1 c2 h1 h2 h3 h4 h5 h6 => ?_, tabs_but m.tabs (a := a) (fun b x z w => by rw [upd_ne w]; exact z) (fun x z => by rw [ha] at z; cases z; exact la), m.ntab⟩, Same.refl _, fun _ _ e => .inl e, fun b u e n t => ?_, fun b e => ?_, fun b e => ?_, fun j c' e => ?_⟩
  · rw [upd_ne (ne_of_none e hn)]; exact m.sub _ _ e
  · rw [upd_ne (nb b u e n)]; exact m.frm b u e n t
  · by_cases hb : b = a
    · subst hb; rw [upd_same] at e; cases e
    · rw [upd_ne hb] at e; exact m.dom _ e
  · rcases set_get h2 with ⟨rfl, rfl⟩ | ⟨ne, h2⟩
    · rw [hs] at h1; cases h1
      have w := m.cell i _ c hs hc
      rcases hd with ⟨y, rfl, rfl⟩ | ⟨y, rfl, rfl⟩
      · obtain ⟨b', o', q1, _, _, q4, q5⟩ := w; cases q1; exact ⟨a, o, rfl, upd_same, sh, q4, q5⟩
      · obtain ⟨b', o', q1, _, _, q4, q5⟩ := w; cases q1; exact ⟨a, o, rfl, upd_same, sh, q4, q5⟩
    · have q := m.cell j v c' h1 h2
      cases c' with
      | no => trivial
      | fz d' => exact q
      | ow d' =>
        obtain ⟨b, u, rfl, x2, x3, x4, x5⟩ := q
        refine ⟨b, u, rfl, ?_, x3, x4, x5⟩
        rw [upd_ne (fun z => ne (m.apart i j a _ _ hs (by rw [h1, z]) hc h2 hown rfl))]
        exact x2
      | va d' => exact q
      | bw d' =>
        obtain ⟨b, u, rfl, x2, x3, x4, x5⟩ := q
        refine ⟨b, u, rfl, ?_, x3, x4, x5⟩
        rw [upd_ne (fun z => ne (m.apart i j a _ _ hs (by rw [h1, z]) hc h2 hown rfl))]
        exact x2
  · have g : ∀ (j : Nat) (e : Cell), (ρ.set i d)[j]? = some e → e.own = true → ∃ e', ρ[j]? = some e' ∧ e'.own = true := fun j e x y => by
      rcases set_get x with ⟨rfl, rfl⟩ | ⟨_, x⟩
      · exact ⟨c, hc, hown⟩
      · exact ⟨e, x, y⟩
    obtain ⟨e1, y1, z1⟩ := g j c1 h3 h5
    obtain ⟨e2, y2, z2⟩ := g k c2 h4 h6
    exact m.apart j k b e1 e2 h1 h2 y1 y2 z1 z2
  · rw [upd_ne (fun q => n (by rw [q]; exact own_a))]; exact e
  · by_cases hb : b = a
    · subst hb; rw [upd_same] at e; cases e
    · rw [upd_ne hb] at e; exact e
  · obtain ⟨j, c', x1, x2, x3⟩ := e
    rcases set_get x2 with ⟨rfl, rfl⟩ | ⟨ne, x2⟩
    · exact ⟨i, c, x1, hc, hown⟩
    · exact ⟨j, c', x1, x2, x3⟩
  · by_cases hj : i = j
    · subst hj
      rw [hc] at e; cases e
      refine ⟨d, by rw [List.getElem?_set]; simp [il], ?_⟩
      rcases hd with ⟨y, rfl, rfl⟩ | ⟨y, rfl, rfl⟩ <;> trivial
    · exact ⟨c', by rw [List.getElem?_set]; simp [hj, e], KStep.refl c'⟩
/-- a slot gets a frozen value -/
theorem Mt.put (m : Mt B F H σ ρ) {i : Nat} {v : V} {d : D} (h : Den F d v) : Mt B F H (σ.set i (some v)) (ρ.set i (.fz d)) := by
  refine ⟨m.sub, m.old, m.new, m.frm, m.dom, by rw [List.length_set, List.length_set]; exact m.len, fun j u c h1 h2 => ?_, fun j k b c1 c2 h1 h2 h3 h4 h5 h6 => ?_, m.tabs, m.ntab⟩
  · rcases set_get h2 with ⟨rfl, rfl⟩ | ⟨ne, h2⟩
    · rcases set_get h1 with ⟨_, rfl⟩ | ⟨ne, h1⟩
      · exact ⟨v, rfl, h⟩
      · exact absurd rfl ne
    · rcases set_get h1 with ⟨e, _⟩ | ⟨_, h1⟩
      · exact absurd e ne
      · exact m.cell j u c h1 h2
  · rcases set_get h3 with ⟨_, rfl⟩ | ⟨n3, h3⟩
    · cases h5
    · rcases set_get h4 with ⟨_, rfl⟩ | ⟨n4, h4⟩
      · cases h6
      · rcases set_get h1 with ⟨e, _⟩ | ⟨_, h1⟩
        · exact absurd e n3
        · rcases set_get h2 with ⟨e, _⟩ | ⟨_, h2⟩
          · exact absurd e n4
          · exact m.apart j k b c1 c2 h1 h2 h3 h4 h5 h6
/-- a slot gets a new list or dict of its own -/
theorem Mt.putOwn (m : Mt B F H σ ρ) {i : Nat} {a : Addr} {o : HO} {d : D} (ho : H a = some o) (sh : Shal F d o) (hn : F a = none) (h0 : B.H0 a = none) (na : ¬ Owns σ ρ a) : Mt B F H (σ.set i (some (.ref a))) (ρ.set i (.ow d)) := by
  have g : ∀ (j : Nat) (c : Cell) (b : Addr), (σ.set i (some (.ref a)))[j]? = some (some (.ref b)) → (ρ.set i (.ow d))[j]? = some c → c.own = true → (j = i ∧ b = a) ∨ (σ[j]? = some (some (.ref b)) ∧ ρ[j]? = some c ∧ b ≠ a) := fun j c b h1 h2 h3 => by
    rcases set_get h2 with ⟨rfl, rfl⟩ | ⟨ne, h2⟩
    · rcases set_get h1 with ⟨_, e⟩ | ⟨ne, h1⟩
      · cases e; exact .inl ⟨rfl, rfl⟩
      · exact absurd rfl ne
    · rcases set_get h1 with ⟨e, _⟩ | ⟨_, h1⟩
      · exact absurd e ne
      · exact .inr ⟨h1, h2, fun q => na ⟨j, c, by rw [h1, q], h2, h3⟩⟩
  refine ⟨m.sub, m.old, m.new, m.frm, m.dom, by rw [List.length_set, List.length_set]; exact m.len, fun j u c h1 h2 => ?_, fun j k b c1 c2 h1 h2 h3 h4 h5 h6 => ?_, m.tabs, m.ntab⟩
  · rcases set_get h2 with ⟨rfl, rfl⟩ | ⟨ne, h2⟩
    · rcases set_get h1 with ⟨_, rfl⟩ | ⟨ne, h1⟩
      · exact ⟨a, o, rfl, ho, sh, hn, h0⟩
      · exact absurd rfl ne
    · rcases set_get h1 with ⟨e, _⟩ | ⟨_, h1⟩
      · exact absurd e ne
      · exact m.cell j u c h1 h2
  · rcases g j c1 b h1 h3 h5 with ⟨e1, e2⟩ | ⟨y1, y2, y3⟩
    · rcases g k c2 b h2 h4 h6 with ⟨z1, z2⟩ | ⟨z1, z2, z3⟩
      · rw [e1, z1]
      · exact absurd e2 z3
    · rcases g k c2 b h2 h4 h6 with ⟨z1, z2⟩ | ⟨z1, z2, z3⟩
      · exact absurd z2 y3
      · exact m.apart j k b c1 c2 y1 z1 y2 z2 h5 h6
/-- slots are forgotten -/
theorem Mt.drop (m : Mt B F H σ ρ) {σ' : L2.St} {ρ' : Rho} (hl : ρ'.length = σ'.length) (h : ∀ (i : Nat) c, ρ'[i]? = some c → c = .no ∨ (ρ[i]? = some c ∧ σ'[i]? = σ[i]?)) : Mt B F H σ' ρ' := by
  refine ⟨m.sub, m.old, m.new, m.frm, m.dom, hl, fun j u c h1 h2 => ?_, fun j k b c1 c2 h1 h2 h3 h4 h5 h6 => ?_, m.tabs, m.ntab⟩
  · rcases h j c h2 with rfl | ⟨x, y⟩
    · trivial
    · rw [y] at h1; exact m.cell j u c h1 x
  · rcases h j c1 h3 with rfl | ⟨x, y⟩
    · cases h5
    · rcases h k c2 h4 with rfl | ⟨x', y'⟩
      · cases h6
      · rw [y] at h1; rw [y'] at h2
        exact m.apart j k b c1 c2 h1 h2 x x' h5 h6
end
end Rn
end

section
set_option Elab.async false
set_option linter.all false
set_option maxRecDepth 100000
/-! Core2: judgements over readings: what a piece of syntax computes on environments. -/
namespace Rn
open PySem PySem.Spec L2

def bnd {α β : Type} (x : M α) (k : α → M β) : M β := fun ρ => match x ρ with
  | .ok a r => k a r
  | .ex c r => .ex c r
  | .no => .no
def ret {α : Type} (a : α) : M α := fun ρ => .ok a ρ
def lft {α : Type} (o : Option α) : M α := fun ρ => match o with
  | some a => .ok a ρ
  | none => .no
def stuck {α : Type} : M α := fun _ => .no

/-! ### transient values -/
inductive TV where
  | d (x : D)
  | s (i : Nat)
def cellD : Option Cell → Option D
  | some (.fz d) => some d
  | some (.ow d) => some d
  | some (.bw d) => some d
  | _ => none
def deref (ρ : Rho) : TV → Option D
  | .d x => some x
  | .s i => cellD ρ[i]?
def NowD (F H : Hp) (v : V) (d : D) : Prop := Den F d v ∨ ∃ a o, v = .ref a ∧ H a = some o ∧ Shal F d o
def TvOk (σ : L2.St) (F H : Hp) (ρ : Rho) : TV → V → Prop
  | .d x, v => Den F x v
  | .s i, v => σ[i]? = some (some v) ∧ ∃ d, cellD ρ[i]? = some d

section
variable {B : Bd} {F H F' H' F2 H2 : Hp} {σ : L2.St} {ρ ρ' ρ2 : Rho}
theorem TvOk.step {t : TV} {v : V} (h : TvOk σ F H ρ t v) (x : Stp B F H σ ρ F' H' ρ') : TvOk σ F' H' ρ' t v := by
  cases t with
  | d y => exact Den.mono x.old h
  | s i =>
    obtain ⟨h1, d, h2⟩ := h
    refine ⟨h1, ?_⟩
    cases e : ρ[i]? with
    | none => rw [e] at h2; cases h2
    | some c =>
      obtain ⟨c', e', k⟩ := x.kind i c e
      rw [e] at h2
      rw [e']
      cases c <;> cases c' <;> first | exact k.elim | exact ⟨_, rfl⟩ | cases h2
theorem TvOk.now {t : TV} {v : V} {d : D} (m : Mt B F H σ ρ) (h : TvOk σ F H ρ t v) (e : deref ρ t = some d) : NowD F H v d := by
  cases t with
  | d y => cases e; exact .inl h
  | s i =>
    obtain ⟨h1, _⟩ := h
    have e' : cellD ρ[i]? = some d := e
    cases q : ρ[i]? with
    | none => rw [q] at e'; cases e'
    | some c =>
      have w := m.cell i _ c h1 q
      rw [q] at e'
      cases c with
      | no => cases e'
      | fz y => cases e'; obtain ⟨u, z, g⟩ := w; cases z; exact .inl g
      | ow y => cases e'; obtain ⟨a, o, z, g, sh, _⟩ := w; cases z; exact .inr ⟨a, o, rfl, g, sh⟩
      | va y => cases e'
      | bw y => cases e'; obtain ⟨a, o, z, g, sh, _⟩ := w; cases z; exact .inr ⟨a, o, rfl, g, sh⟩
end

/-! ### what follows -/
def Post {α β : Type} (B : Bd) (EX : Str → Hp → Prop) (F H : Hp) (σ : L2.St) (ρ : Rho) (VP : L2.St → Hp → Hp → Rho → α → β → Prop) (r : R α) (Q : β → Hp → Prop) : Prop := match r with
  | .ok a ρ' => ∀ (v : β) (F' H' : Hp), Stp B F H σ ρ F' H' ρ' → VP σ F' H' ρ' a v → Q v H'
  | .ex c ρ' => ∀ (F' H' : Hp), Stp B F H σ ρ F' H' ρ' → EX c H'
  | .no => False
theorem Post.from {α β : Type} {B : Bd} {EX : Str → Hp → Prop} {F H F' H' : Hp} {σ : L2.St} {ρ ρ' : Rho} {VP : L2.St → Hp → Hp → Rho → α → β → Prop} {r : R α} {Q : β → Hp → Prop} (h : Post B EX F H σ ρ VP r Q) (x : Stp B F H σ ρ F' H' ρ') :
    Post B EX F' H' σ ρ' VP r Q := by
  cases r with
  | ok a r => exact fun v F2 H2 y p => h v F2 H2 (x.trans y) p
  | ex c r => exact fun F2 H2 y => h F2 H2 (x.trans y)
  | no => exact h

abbrev Rd1 (β : Type) := L2.St → Hp → (β → Hp → Prop) → Prop
def Ev {α β : Type} (B : Bd) (EX : Str → Hp → Prop) (VP : L2.St → Hp → Hp → Rho → α → β → Prop) (t : Rd1 β) (f : M α) : Prop :=
  ∀ (F H : Hp) (σ : L2.St) (ρ : Rho) (Q : β → Hp → Prop), Mt B F H σ ρ → Post B EX F H σ ρ VP (f ρ) Q → t σ H Q

/-- values of an expression: frozen; transient; a truth value; lists of such -/
abbrev VD : L2.St → Hp → Hp → Rho → D → V → Prop := fun _ F _ _ d v => Den F d v
abbrev VT : L2.St → Hp → Hp → Rho → TV → V → Prop := fun σ F H ρ t v => TvOk σ F H ρ t v
abbrev VB : L2.St → Hp → Hp → Rho → Bool → Bool → Prop := fun _ _ _ _ b v => v = b
abbrev VL : L2.St → Hp → Hp → Rho → List D → List V → Prop := fun _ F _ _ d v => DenL F d v
def TvAll (σ : L2.St) (F H : Hp) (ρ : Rho) : List TV → List V → Prop
  | [], vs => vs = []
  | t :: ts, vs => ∃ v r, vs = v :: r ∧ TvOk σ F H ρ t v ∧ TvAll σ F H ρ ts r
abbrev VTs : L2.St → Hp → Hp → Rho → List TV → List V → Prop := fun σ F H ρ t v => TvAll σ F H ρ t v
theorem TvAll.step {B : Bd} {F H F' H' : Hp} {σ : L2.St} {ρ ρ' : Rho} (x : Stp B F H σ ρ F' H' ρ') : ∀ {ts : List TV} {vs : List V}, TvAll σ F H ρ ts vs → TvAll σ F' H' ρ' ts vs
  | [], _, h => h
  | _ :: _, _, ⟨v, r, e, h, l⟩ => ⟨v, r, e, h.step x, TvAll.step x l⟩

/-- one piece, then another that leans on its value -/
theorem Ev.bind {α β γ δ : Type} {B : Bd} {EX : Str → Hp → Prop} {VP : L2.St → Hp → Hp → Rho → α → β → Prop} {VQ : L2.St → Hp → Hp → Rho → γ → δ → Prop} {ta : Rd1 β} {tb : β → Rd1 δ} {fa : M α} {k : α → M γ} (ha : Ev B EX VP ta fa)
    (hb : ∀ (a : α) (x : β) (F H : Hp) (σ : L2.St) (ρ : Rho) (Q : δ → Hp → Prop), Mt B F H σ ρ → VP σ F H ρ a x → Post B EX F H σ ρ VQ (k a ρ) Q → tb x σ H Q) :
    Ev B EX VQ (fun σ H Q => ta σ H fun x H1 => tb x σ H1 Q) (bnd fa k) := by
  intro F H σ ρ Q m h
  refine ha F H σ ρ _ m ?_
  unfold bnd at h
  cases e : fa ρ with
  | ok a r => rw [e] at h; exact fun v F' H' x p => hb a v F' H' σ r Q x.mt p (h.from x)
  | ex c r => rw [e] at h; exact h
  | no => rw [e] at h; exact h
/-- at a state: one more value from values that are there -/
theorem Post.ext {α : Type} {B : Bd} {EX : Str → Hp → Prop} {F H : Hp} {σ : L2.St} {ρ : Rho} {d : D} {Q : VK} (m : Mt B F H σ ρ) (h : Post B EX F H σ ρ VD (.ok d ρ) Q) : ∀ v F' H', Ext F H F' H' → Den F' d v → Q v H' :=
  fun v F' H' e p => h v F' H' (m.ext e) p

/-! ### names, constants -/
def mVar (i : Nat) : M D := fun ρ => match ρ[i]? with
  | some (.fz d) => .ok d ρ
  | some (.ow d) => .ok d (ρ.set i (.fz d))
  | _ => .no
def mVarT (i : Nat) : M TV := fun ρ => match cellD ρ[i]? with
  | some _ => .ok (.s i) ρ
  | none => .no
def mT (f : M D) : M TV := bnd f fun d => ret (.d d)
section
variable {B : Bd} {EX : Str → Hp → Prop}
theorem ev_var {i : Nat} : Ev B EX VD (tVar i) (mVar i) := by
  intro F H σ ρ Q m h
  unfold mVar at h
  cases e : ρ[i]? with
  | none => rw [e] at h; exact h.elim
  | some c =>
    have hi : i < σ.length := by rw [← m.len]; exact (List.getElem?_eq_some_iff.mp e).1
    have hv := List.getElem?_eq_getElem hi
    rw [e] at h
    have w := m.cell i _ c hv e
    cases c with
    | no => exact h.elim
    | va d => exact h.elim
    | bw d => exact h.elim
    | fz d => obtain ⟨u, e1, e2⟩ := w; exact ⟨u, by rw [hv, e1], h u F H m.refl e2⟩
    | ow d =>
      obtain ⟨a, o, e1, e2, e3, e4, e5⟩ := w
      rw [e1] at hv
      exact ⟨.ref a, hv, h (.ref a) (upd F a o) H (m.freeze hv e e2 e3 e4 e5) ((e3.mono (same_upd e4)).den upd_same)⟩
theorem ev_varT {i : Nat} : Ev B EX VT (tVar i) (mVarT i) := by
  intro F H σ ρ Q m h
  unfold mVarT at h
  cases q : cellD ρ[i]? with
  | none => rw [q] at h; exact h.elim
  | some d =>
    rw [q] at h
    cases e : ρ[i]? with
    | none => rw [e] at q; cases q
    | some c =>
      have hi : i < σ.length := by rw [← m.len]; exact (List.getElem?_eq_some_iff.mp e).1
      have hv := List.getElem?_eq_getElem hi
      have w := m.cell i _ c hv e
      have g : ∃ u, σ[i]? = some (some u) := by
        cases c with
        | no => rw [e] at q; cases q
        | fz d => obtain ⟨u, e1, e2⟩ := w; exact ⟨u, by rw [hv, e1]⟩
        | ow d => obtain ⟨a, o, e1, _⟩ := w; exact ⟨.ref a, by rw [hv, e1]⟩
        | va d => rw [e] at q; cases q
        | bw d => obtain ⟨a, o, e1, _⟩ := w; exact ⟨.ref a, by rw [hv, e1]⟩
      obtain ⟨u, hu⟩ := g
      exact ⟨u, hu, h u F H m.refl ⟨hu, d, q⟩⟩
theorem ev_T {t : TE} {f : M D} (h : Ev B EX VD t f) : Ev B EX VT t (mT f) := by
  refine Ev.bind (tb := fun x σ H Q => Q x H) h fun a x F H σ ρ Q m p q => ?_
  exact q x F H m.refl p
theorem ev_const {v : V} {d : D} (hd : ∀ F, Den F d v) : Ev B EX VD (tC v) (ret d) := fun F H σ ρ Q m h => h v F H m.refl (hd F)

/-! ### operators -/
def OpOk (r : R2) (f : D → D → Option D) : Prop := ∀ {F H : Hp} {v w : V} {d e z : D} {Q : VK}, Same F H → NowD F H v d → NowD F H w e → f d e = some z → (∀ v' F' H', Ext F H F' H' → Den F' z v' → Q v' H') → r v w H Q
def UnOk (r : V → Hp → VK → Prop) (f : D → Option D) : Prop := ∀ {F H : Hp} {v : V} {d z : D} {Q : VK}, Same F H → NowD F H v d → f d = some z → (∀ v' F' H', Ext F H F' H' → Den F' z v' → Q v' H') → r v H Q
def mOp (f : D → D → Option D) (a b : M TV) : M D := bnd a fun x => bnd b fun y => fun ρ => match deref ρ x, deref ρ y with
  | some d, some e => lft (f d e) ρ
  | _, _ => .no
def mUn (f : D → Option D) (a : M TV) : M D := bnd a fun x => fun ρ => match deref ρ x with
  | some d => lft (f d) ρ
  | _ => .no
theorem ev_op {r : R2} {f : D → D → Option D} {ta tb : TE} {fa fb : M TV} (ho : OpOk r f) (ha : Ev B EX VT ta fa) (hb : Ev B EX VT tb fb) : Ev B EX VD (tOp r ta tb) (mOp f fa fb) := by
  refine Ev.bind (tb := fun x σ H Q => tb σ H fun y H2 => r x y H2 Q) ha fun a x F H σ ρ Q m p q => ?_
  refine hb F H σ ρ _ m ?_
  unfold bnd at q
  cases e : fb ρ with
  | ex c r => rw [e] at q; exact q
  | no => rw [e] at q; exact q
  | ok b ρ1 =>
    rw [e] at q
    intro y F1 H1 s1 py
    have m1 := s1.mt
    have px := p.step s1
    cases e1 : deref ρ1 a with
    | none => simp only [e1] at q; exact q.elim
    | some d =>
      cases e2 : deref ρ1 b with
      | none => simp only [e1, e2] at q; exact q.elim
      | some d2 =>
        simp only [e1, e2] at q
        unfold lft at q
        cases e3 : f d d2 with
        | none => rw [e3] at q; exact q.elim
        | some z =>
          rw [e3] at q
          exact ho m1.sub (px.now m1 e1) (TvOk.now m1 py e2) e3 fun v' F' H' x' dz => q v' F' H' (s1.ext x') dz
theorem ev_un {r : V → Hp → VK → Prop} {f : D → Option D} {ta : TE} {fa : M TV} (ho : UnOk r f) (ha : Ev B EX VT ta fa) : Ev B EX VD (tUn r ta) (mUn f fa) := by
  refine Ev.bind (tb := fun x σ H Q => r x H Q) ha fun a x F H σ ρ Q m p q => ?_
  cases e1 : deref ρ a with
  | none => simp only [e1] at q; exact q.elim
  | some d =>
    simp only [e1] at q
    unfold lft at q
    cases e3 : f d with
    | none => rw [e3] at q; exact q.elim
    | some z =>
      rw [e3] at q
      exact ho m.sub (p.now m e1) e3 fun v' F' H' x' dz => q v' F' H' (m.ext x') dz

/-! ### arguments -/
def mNil {α : Type} : M (List α) := ret []
def mCons {α : Type} (a : M α) (r : M (List α)) : M (List α) := bnd a fun x => bnd r fun xs => ret (x :: xs)
theorem ev_nil : Ev B EX VL tNil mNil := fun F H σ ρ Q m h => h [] F H m.refl rfl
theorem ev_cons {ta : TE} {tr : TA} {fa : M D} {fr : M (List D)} (ha : Ev B EX VD ta fa) (hr : Ev B EX VL tr fr) : Ev B EX VL (tCons ta tr) (mCons fa fr) := by
  refine Ev.bind (tb := fun x σ H Q => tr σ H fun xs H2 => Q (x :: xs) H2) ha fun a x F H σ ρ Q m p q => ?_
  refine hr F H σ ρ _ m ?_
  unfold bnd at q
  cases e : fr ρ with
  | ex c r => rw [e] at q; exact q
  | no => rw [e] at q; exact q
  | ok b ρ1 =>
    rw [e] at q
    exact fun xs F1 H1 s1 pxs => q (x :: xs) F1 H1 s1 ⟨x, xs, rfl, Den.mono s1.old p, pxs⟩
theorem ev_nilT : Ev B EX VTs tNil mNil := fun F H σ ρ Q m h => h [] F H m.refl rfl
theorem ev_consT {ta : TE} {tr : TA} {fa : M TV} {fr : M (List TV)} (ha : Ev B EX VT ta fa) (hr : Ev B EX VTs tr fr) : Ev B EX VTs (tCons ta tr) (mCons fa fr) := by
  refine Ev.bind (tb := fun x σ H Q => tr σ H fun xs H2 => Q (x :: xs) H2) ha fun a x F H σ ρ Q m p q => ?_
  refine hr F H σ ρ _ m ?_
  unfold bnd at q
  cases e : fr ρ with
  | ex c r => rw [e] at q; exact q
  | no => rw [e] at q; exact q
  | ok b ρ1 =>
    rw [e] at q
    exact fun xs F1 H1 s1 pxs => q (x :: xs) F1 H1 s1 ⟨x, xs, rfl, p.step s1, pxs⟩
/-! ### calls of built-ins -/
def NowAll (F H : Hp) : List V → List D → Prop
  | vs, [] => vs = []
  | vs, d :: ds => ∃ v r, vs = v :: r ∧ NowD F H v d ∧ NowAll F H r ds
def derefs (ρ : Rho) : List TV → Option (List D)
  | [] => some []
  | t :: ts => match deref ρ t, derefs ρ ts with
    | some d, some ds => some (d :: ds)
    | _, _ => none
theorem TvAll.now {F H : Hp} {σ : L2.St} {ρ : Rho} (m : Mt B F H σ ρ) : ∀ {ts : List TV} {vs : List V} {ds : List D}, TvAll σ F H ρ ts vs → derefs ρ ts = some ds → NowAll F H vs ds
  | [], _, _, h, e => by cases e; exact h
  | t :: ts, _, ds, ⟨v, r, e, h, l⟩, q => by
    unfold derefs at q
    cases e1 : deref ρ t with
    | none => simp [e1] at q
    | some d =>
      cases e2 : derefs ρ ts with
      | none => simp [e1, e2] at q
      | some ds' =>
        simp [e1, e2] at q
        subst q
        exact ⟨v, r, e, h.now m e1, TvAll.now m l e2⟩
def CallOk (r : List V → Hp → VK → Prop) (f : List D → Option D) : Prop := ∀ {F H : Hp} {vs : List V} {ds : List D} {z : D} {Q : VK}, Same F H → NowAll F H vs ds → f ds = some z → (∀ v' F' H', Ext F H F' H' → Den F' z v' → Q v' H') → r vs H Q
def mCB (f : List D → Option D) (a : M (List TV)) : M D := bnd a fun xs => fun ρ => match derefs ρ xs with
  | some ds => lft (f ds) ρ
  | none => .no
theorem ev_cb {r : List V → Hp → VK → Prop} {f : List D → Option D} {ta : TA} {fa : M (List TV)} (ho : CallOk r f) (ha : Ev B EX VTs ta fa) : Ev B EX VD (tCB r ta) (mCB f fa) := by
  refine Ev.bind (tb := fun x σ H Q => r x H Q) ha fun a x F H σ ρ Q m p q => ?_
  cases e1 : derefs ρ a with
  | none => simp only [e1] at q; exact q.elim
  | some d =>
    simp only [e1] at q
    unfold lft at q
    cases e3 : f d with
    | none => rw [e3] at q; exact q.elim
    | some z =>
      rw [e3] at q
      exact ho m.sub (TvAll.now m p e1) e3 fun v' F' H' x' dz => q v' F' H' (m.ext x') dz
/-! ### displays -/
def mTup (a : M (List D)) : M D := bnd a fun ds => fun ρ => if ds.length ≤ 100 then .ok (.tuple ds) ρ else .no
theorem fewer {n : Nat} (h : n ≤ 100) : n ≤ sizeLine := Nat.le_trans h (by decide)
theorem ev_tup {ta : TA} {fa : M (List D)} (ha : Ev B EX VL ta fa) : Ev B EX VD (tTup ta) (mTup fa) := by
  refine Ev.bind (tb := fun xs σ H Q => xs.length ≤ sizeLine ∧ ∀ p, H p = none → Q (V.ref p) (upd H p (.tup xs))) ha fun a x F H σ ρ Q m p q => ?_
  by_cases hl : a.length ≤ 100
  · simp only [if_pos hl] at q
    refine ⟨by rw [← DenL.len p]; exact fewer hl, fun c hc => ?_⟩
    have e := Ext.laid m.sub hc (.tup x)
    exact q (.ref c) _ _ (m.ext e) ⟨c, x, rfl, upd_same, DenL.mono e.old p⟩
  · simp only [if_neg hl] at q; exact q.elim
/-! ### fresh lists -/
def VFr (H : Hp) (F' H' : Hp) (d : D) (v : V) : Prop := ∃ a o, v = .ref a ∧ H' a = some o ∧ Shal F' d o ∧ F' a = none ∧ H a = none
def EvF (B : Bd) (EX : Str → Hp → Prop) (t : TE) (f : M D) : Prop :=
  ∀ (F H : Hp) (σ : L2.St) (ρ : Rho) (Q : VK), Mt B F H σ ρ → Post B EX F H σ ρ (fun _ F' H' _ d v => VFr H F' H' d v) (f ρ) Q → t σ H Q
theorem Mt.freeze0 {F H : Hp} {σ : L2.St} {ρ : Rho} (m : Mt B F H σ ρ) {a : Addr} {o : HO} (ho : H a = some o) (hn : F a = none) (h0 : B.H0 a = none) (na : ¬ Owns σ ρ a) (nt : ∀ q ∈ B.T, q.1 ≠ a) : Mt B (upd F a o) H σ ρ := by
  have sF : Same F (upd F a o) := same_upd hn
  refine ⟨fun b u e => ?_, m.old.trans sF, fun b u e => ?_, m.frm, m.dom, m.len, fun j v c h1 h2 => ?_, m.apart, m.tabs, fun q hq => by rw [upd_ne (nt q hq)]; exact m.ntab q hq⟩
  · by_cases hb : b = a
    · subst hb; rw [upd_same] at e; cases e; exact ho
    · rw [upd_ne hb] at e; exact m.sub _ _ e
  · by_cases hb : b = a
    · subst hb; exact .inr h0
    · rw [upd_ne hb] at e; exact m.new _ _ e
  · have q := m.cell j v c h1 h2
    cases c with
    | no => trivial
    | fz d' => obtain ⟨u, x, y⟩ := q; exact ⟨u, x, y.mono sF⟩
    | ow d' =>
      obtain ⟨b, u, rfl, x2, x3, x4, x5⟩ := q
      refine ⟨b, u, rfl, x2, x3.mono sF, ?_, x5⟩
      rw [upd_ne (fun z => na ⟨j, _, by rw [h1, z], h2, rfl⟩)]
      exact x4
    | va d' => exact q
    | bw d' =>
      obtain ⟨b, u, rfl, x2, x3, x4, x5⟩ := q
      refine ⟨b, u, rfl, x2, x3.mono sF, ?_, x5⟩
      rw [upd_ne (fun z => na ⟨j, _, by rw [h1, z], h2, rfl⟩)]
      exact x4
theorem Stp.freeze0 {F H F' H' : Hp} {σ : L2.St} {ρ ρ' : Rho} (m : Mt B F H σ ρ) (x : Stp B F H σ ρ F' H' ρ') {a : Addr} {o : HO} (ho : H' a = some o) (hn : F' a = none) (h0 : H a = none) : Stp B F H σ ρ (upd F' a o) H' ρ' := by
  have na : ¬ Owns σ ρ' a := fun q => m.noOwn h0 (x.own _ q)
  refine ⟨x.mt.freeze0 ho hn (m.dom _ h0) na (tabs_at m.tabs (none_tbl h0)), x.old.trans (same_upd hn), fun b u e => ?_, x.frm, x.dom, x.own, x.kind⟩
  by_cases hb : b = a
  · subst hb; exact .inr (.inl h0)
  · rw [upd_ne hb] at e; exact x.new _ _ e
/-- a fresh list as a frozen value -/
theorem ev_ofF {t : TE} {f : M D} (h : EvF B EX t f) : Ev B EX VD t f := by
  intro F H σ ρ Q m p
  refine h F H σ ρ Q m ?_
  cases e : f ρ with
  | no => rw [e] at p; exact p
  | ex c r => rw [e] at p; exact p
  | ok d r =>
    rw [e] at p
    rintro v F' H' x ⟨a, o, rfl, h1, h2, h3, h4⟩
    exact p (.ref a) (upd F' a o) H' (Stp.freeze0 m x h1 h3 h4) ((h2.mono (same_upd h3)).den upd_same)
def mLst (a : M (List D)) : M D := bnd a fun ds => fun ρ => if ds.length ≤ 100 then .ok (.list ds) ρ else .no
theorem evf_bind {α β : Type} {VP : L2.St → Hp → Hp → Rho → α → β → Prop} {ta : Rd1 β} {tb : β → TE} {fa : M α} {k : α → M D} (ha : Ev B EX VP ta fa)
    (hb : ∀ (a : α) (x : β) (F H : Hp) (σ : L2.St) (ρ : Rho) (Q : VK), Mt B F H σ ρ → VP σ F H ρ a x → Post B EX F H σ ρ (fun _ F' H' _ d v => VFr H F' H' d v) (k a ρ) Q → tb x σ H Q) :
    EvF B EX (fun σ H Q => ta σ H fun x H1 => tb x σ H1 Q) (bnd fa k) := by
  intro F H σ ρ Q m h
  refine ha F H σ ρ _ m ?_
  unfold bnd at h
  cases e : fa ρ with
  | ok a r =>
    rw [e] at h
    intro v F' H' x p
    refine hb a v F' H' σ r Q x.mt p ?_
    have h' : Post B EX F H σ ρ (fun _ F' H' _ d v => VFr H F' H' d v) (k a r) Q := h
    cases e2 : k a r with
    | no => rw [e2] at h'; exact h'
    | ex c r' => rw [e2] at h'; exact fun F2 H2 y => h' F2 H2 (x.trans y)
    | ok d r' =>
      rw [e2] at h'
      rintro u F2 H2 y ⟨b, o, h1, h2, h3, h4, h5⟩
      exact h' u F2 H2 (x.trans y) ⟨b, o, h1, h2, h3, h4, x.dom _ h5⟩
  | ex c r => rw [e] at h; exact h
  | no => rw [e] at h; exact h
theorem evf_lst {ta : TA} {fa : M (List D)} (ha : Ev B EX VL ta fa) : EvF B EX (tLst ta) (mLst fa) := by
  refine evf_bind (tb := fun xs σ H Q => xs.length ≤ sizeLine ∧ ∀ p, H p = none → Q (V.ref p) (upd H p (.lst xs))) ha fun a x F H σ ρ Q m p q => ?_
  by_cases hl : a.length ≤ 100
  · simp only [if_pos hl] at q
    refine ⟨by rw [← DenL.len p]; exact fewer hl, fun c hc => ?_⟩
    exact q (.ref c) F _ (m.ext (Ext.loose m.sub hc (.lst x))) ⟨c, _, rfl, upd_same, p, m.sub.free hc, hc⟩
  · simp only [if_neg hl] at q; exact q.elim
/-- operations that make a fresh list -/
def OpOkF (r : R2) (f : D → D → Option D) : Prop := ∀ {F H : Hp} {v w : V} {d e z : D} {Q : VK}, Same F H → NowD F H v d → NowD F H w e → f d e = some z → (∀ p o, H p = none → Shal F z o → Q (.ref p) (upd H p o)) → r v w H Q
theorem evf_op {r : R2} {f : D → D → Option D} {ta tb : TE} {fa fb : M TV} (ho : OpOkF r f) (ha : Ev B EX VT ta fa) (hb : Ev B EX VT tb fb) : EvF B EX (tOp r ta tb) (mOp f fa fb) := by
  refine evf_bind (tb := fun x σ H Q => tb σ H fun y H2 => r x y H2 Q) ha fun a x F H σ ρ Q m p q => ?_
  refine hb F H σ ρ _ m ?_
  unfold bnd at q
  cases e : fb ρ with
  | ex c r => rw [e] at q; exact q
  | no => rw [e] at q; exact q
  | ok b ρ1 =>
    rw [e] at q
    intro y F1 H1 s1 py
    have m1 := s1.mt
    have px := p.step s1
    cases e1 : deref ρ1 a with
    | none => simp only [e1] at q; exact q.elim
    | some d =>
      cases e2 : deref ρ1 b with
      | none => simp only [e1, e2] at q; exact q.elim
      | some d2 =>
        simp only [e1, e2] at q
        unfold lft at q
        cases e3 : f d d2 with
        | none => rw [e3] at q; exact q.elim
        | some z =>
          rw [e3] at q
          refine ho m1.sub (px.now m1 e1) (TvOk.now m1 py e2) e3 fun c o hc sh => ?_
          exact q (.ref c) F1 _ (s1.ext (Ext.loose m1.sub hc o)) ⟨c, o, rfl, upd_same, sh, m1.sub.free hc, s1.dom _ hc⟩
def CallOkF (r : List V → Hp → VK → Prop) (f : List D → Option D) : Prop := ∀ {F H : Hp} {vs : List V} {ds : List D} {z : D} {Q : VK}, Same F H → NowAll F H vs ds → f ds = some z → (∀ p o, H p = none → Shal F z o → Q (.ref p) (upd H p o)) → r vs H Q
theorem evf_cb {r : List V → Hp → VK → Prop} {f : List D → Option D} {ta : TA} {fa : M (List TV)} (ho : CallOkF r f) (ha : Ev B EX VTs ta fa) : EvF B EX (tCB r ta) (mCB f fa) := by
  refine evf_bind (tb := fun x σ H Q => r x H Q) ha fun a x F H σ ρ Q m p q => ?_
  cases e1 : derefs ρ a with
  | none => simp only [e1] at q; exact q.elim
  | some d =>
    simp only [e1] at q
    unfold lft at q
    cases e3 : f d with
    | none => rw [e3] at q; exact q.elim
    | some z =>
      rw [e3] at q
      refine ho m.sub (TvAll.now m p e1) e3 fun c o hc sh => ?_
      exact q (.ref c) F _ (m.ext (Ext.loose m.sub hc o)) ⟨c, o, rfl, upd_same, sh, m.sub.free hc, hc⟩
/-! ### tests -/
def asBool : D → Option Bool
  | .bool b => some b
  | _ => none
def mTst (f : M D) : M Bool := bnd f fun d => lft (asBool d)
theorem asBool_eq {d : D} {b : Bool} (h : asBool d = some b) : d = .bool b := by
  cases d <;> simp [asBool] at h
  rw [h]
theorem ev_tst {t : TE} {f : M D} (h : Ev B EX VD t f) : Ev B EX VB (tTest t) (mTst f) := by
  refine Ev.bind (tb := fun x σ H Q => ∃ k, x = .bl k ∧ Q k H) h fun a x F H σ ρ Q m p q => ?_
  unfold lft at q
  cases e : asBool a with
  | none => rw [e] at q; exact q.elim
  | some b =>
    rw [e] at q
    have e2 := asBool_eq e
    subst e2
    exact ⟨b, p, q b F H m.refl rfl⟩
def mAnd (a b : M Bool) : M Bool := bnd a fun x => if x = true then b else ret false
def mOr (a b : M Bool) : M Bool := bnd a fun x => if x = true then ret true else b
def mNot (a : M Bool) : M Bool := bnd a fun x => ret (!x)
theorem ev_and {t u : TT} {f g : M Bool} (h : Ev B EX VB t f) (h2 : Ev B EX VB u g) : Ev B EX VB (tAnd t u) (mAnd f g) := by
  refine Ev.bind (tb := fun c σ H Q => if c = true then u σ H Q else Q false H) h fun a x F H σ ρ Q m p q => ?_
  cases p
  cases a with
  | true => exact h2 F H σ ρ Q m q
  | false => exact q false F H m.refl rfl
theorem ev_or {t u : TT} {f g : M Bool} (h : Ev B EX VB t f) (h2 : Ev B EX VB u g) : Ev B EX VB (tOr t u) (mOr f g) := by
  refine Ev.bind (tb := fun c σ H Q => if c = true then Q true H else u σ H Q) h fun a x F H σ ρ Q m p q => ?_
  cases p
  cases a with
  | false => exact h2 F H σ ρ Q m q
  | true => exact q true F H m.refl rfl
theorem ev_not {t : TT} {f : M Bool} (h : Ev B EX VB t f) : Ev B EX VB (tNot t) (mNot f) := by
  refine Ev.bind (tb := fun c σ H Q => Q (!c) H) h fun a x F H σ ρ Q m p q => ?_
  cases p
  exact q (!a) F H m.refl rfl
/-- and, or, not as values -/
def mAndV (a b : M D) : M D := bnd a fun x => match asBool x with
  | some true => b
  | some false => ret (.bool false)
  | none => stuck
def mOrV (a b : M D) : M D := bnd a fun x => match asBool x with
  | some true => ret (.bool true)
  | some false => b
  | none => stuck
def mNotV (a : M D) : M D := bnd a fun x => match asBool x with
  | some b => ret (.bool (!b))
  | none => stuck
theorem ev_andV {t u : TE} {f g : M D} (h : Ev B EX VD t f) (h2 : Ev B EX VD u g) : Ev B EX VD (tAndV t u) (mAndV f g) := by
  refine Ev.bind (tb := fun x σ H Q => ∃ c, x = .bl c ∧ if c = true then u σ H Q else Q (.bl false) H) h fun a x F H σ ρ Q m p q => ?_
  cases e : asBool a with
  | none => simp only [e] at q; exact q.elim
  | some b =>
    simp only [e] at q
    have e2 := asBool_eq e
    subst e2
    cases b with
    | true => exact ⟨true, p, h2 F H σ ρ Q m q⟩
    | false => exact ⟨false, p, q (.bl false) F H m.refl rfl⟩
theorem ev_orV {t u : TE} {f g : M D} (h : Ev B EX VD t f) (h2 : Ev B EX VD u g) : Ev B EX VD (tOrV t u) (mOrV f g) := by
  refine Ev.bind (tb := fun x σ H Q => ∃ c, x = .bl c ∧ if c = true then Q (.bl true) H else u σ H Q) h fun a x F H σ ρ Q m p q => ?_
  cases e : asBool a with
  | none => simp only [e] at q; exact q.elim
  | some b =>
    simp only [e] at q
    have e2 := asBool_eq e
    subst e2
    cases b with
    | false => exact ⟨false, p, h2 F H σ ρ Q m q⟩
    | true => exact ⟨true, p, q (.bl true) F H m.refl rfl⟩
theorem ev_notV {t : TE} {f : M D} (h : Ev B EX VD t f) : Ev B EX VD (tNotV t) (mNotV f) := by
  refine Ev.bind (tb := fun x σ H Q => ∃ c, x = V.bl c ∧ Q (V.bl (!c)) H) h fun a x F H σ ρ Q m p q => ?_
  cases e : asBool a with
  | none => simp only [e] at q; exact q.elim
  | some b =>
    simp only [e] at q
    have e2 := asBool_eq e
    subst e2
    exact ⟨b, p, q (.bl (!b)) F H m.refl rfl⟩
def mIf {α : Type} (c : M Bool) (a b : M α) : M α := bnd c fun x => if x = true then a else b
theorem ev_if {c : TT} {ta tb : TE} {fc : M Bool} {fa fb : M D} (hc : Ev B EX VB c fc) (ha : Ev B EX VD ta fa) (hb : Ev B EX VD tb fb) : Ev B EX VD (tIf c ta tb) (mIf fc fa fb) := by
  refine Ev.bind (tb := fun c σ H Q => if c = true then ta σ H Q else tb σ H Q) hc fun a x F H σ ρ Q m p q => ?_
  cases p
  cases a with
  | true => exact ha F H σ ρ Q m q
  | false => exact hb F H σ ρ Q m q
/-- a op b op c -/
def mChain (f g : D → D → Option D) (a b c : M TV) : M D := bnd a fun x => bnd b fun y => fun ρ => match deref ρ x, deref ρ y with
  | some d, some e => (match (f d e).bind asBool with
    | some true => bnd c (fun z => fun ρ => match deref ρ y, deref ρ z with
      | some e, some k => lft (g e k) ρ
      | _, _ => .no) ρ
    | some false => .ok (.bool false) ρ
    | none => .no)
  | _, _ => .no
theorem ev_chain {r r' : R2} {f g : D → D → Option D} {ta tb tc : TE} {fa fb fc : M TV} (ho : OpOk r f) (ho' : OpOk r' g) (ha : Ev B EX VT ta fa) (hb : Ev B EX VT tb fb) (hc : Ev B EX VT tc fc) : Ev B EX VD (tChain r r' ta tb tc) (mChain f g fa fb fc) := by
  refine Ev.bind (tb := fun x σ H Q => tb σ H fun y H2 => r x y H2 fun z H3 => ∃ k, z = .bl k ∧ (if k = true then tc σ H3 fun w' H4 => r' y w' H4 Q else Q (.bl false) H3)) ha fun a x F H σ ρ Q m p q => ?_
  refine hb F H σ ρ _ m ?_
  unfold bnd at q
  cases e : fb ρ with
  | ex c r => rw [e] at q; exact q
  | no => rw [e] at q; exact q
  | ok b ρ1 =>
    rw [e] at q
    intro y F1 H1 s1 py
    have m1 := s1.mt
    have px := p.step s1
    cases e1 : deref ρ1 a with
    | none => simp only [e1] at q; exact q.elim
    | some d =>
      cases e2 : deref ρ1 b with
      | none => simp only [e1, e2] at q; exact q.elim
      | some d2 =>
        simp only [e1, e2] at q
        cases e3 : f d d2 with
        | none => rw [e3] at q; exact q.elim
        | some z =>
          rw [e3] at q
          cases e4 : asBool z with
          | none => simp only [Option.bind, e4] at q; exact q.elim
          | some k =>
            simp only [Option.bind, e4] at q
            have e5 := asBool_eq e4
            subst e5
            refine ho m1.sub (px.now m1 e1) (TvOk.now m1 py e2) e3 fun v' F2 H2 x2 dz => ⟨k, dz, ?_⟩
            have s2 := m1.ext x2
            cases k with
            | false => exact q (.bl false) F2 H2 (s1.trans s2) rfl
            | true =>
              refine hc F2 H2 σ ρ1 _ s2.mt ?_
              have q2 : Post B EX F2 H2 σ ρ1 VD (bnd fc (fun z => fun ρ => match deref ρ b, deref ρ z with
                | some e, some k => lft (g e k) ρ
                | _, _ => .no) ρ1) Q := Post.from q (s1.trans s2)
              unfold bnd at q2
              cases e6 : fc ρ1 with
              | ex c r => rw [e6] at q2; exact q2
              | no => rw [e6] at q2; exact q2
              | ok c ρ3 =>
                rw [e6] at q2
                intro w F3 H3 s3 pw
                have py3 := (TvOk.step py s2).step s3
                cases e7 : deref ρ3 b with
                | none => simp only [e7] at q2; exact q2.elim
                | some d7 =>
                  cases e8 : deref ρ3 c with
                  | none => simp only [e7, e8] at q2; exact q2.elim
                  | some d8 =>
                    simp only [e7, e8] at q2
                    unfold lft at q2
                    cases e9 : g d7 d8 with
                    | none => rw [e9] at q2; exact q2.elim
                    | some z9 =>
                      rw [e9] at q2
                      exact ho' s3.mt.sub (py3.now s3.mt e7) (TvOk.now s3.mt pw e8) e9 fun v' F' H' x' dz => q2 v' F' H' (s3.ext x') dz
end
end Rn
end

section
set_option Elab.async false
set_option linter.all false
set_option autoImplicit false
set_option maxRecDepth 100000
set_option maxHeartbeats 4000000
/-! CoreT: tuple * int, also by 0 and 1. -/
namespace Rn
open PySem PySem.Spec PyProof.Rows L2
theorem tuple_mul1 (l : Addr) (items : Array Value) (n : Nat) (dd : Option Addr) (sl : Array (Option Value)) (u : Tok) :
    Meets (Builtin.«tuple.__mul__» ⟨[.ref l, .int 1 u], []⟩) (fun _ R s => s.heap.get? l = some { cls := .type "tuple", dict := dd, data := .seq items n, slots := sl } ∧ R (.ok (.ret (Value.ref l))) s) :=
  .of_wp fun prog w A R s h => by
    obtain ⟨hp, g, d, tk, os⟩ := s
    obtain ⟨hl, h⟩ := h
    have f1 := AutoSeq1.idx_int
    have c0 : (decide ((1 : Int) < -(2 ^ 63)) || decide ((1 : Int) ≥ 2 ^ 63)) = false := by decide
    have c1 : (items.isEmpty || (1 : Int) == 1) = true := by simp
    wp_walk using wpAny_loadPart' hl
    repeat (first
      | (refine wpAny_ite_false (decide_eq_false (by rw [c0]; exact Bool.false_ne_true)) ?_; wp_walk using wpAny_loadPart' hl)
      | (refine wpAny_ite_true (decide_eq_true (by rw [c1])) ?_; wp_walk using wpAny_loadPart' hl))
    exact ⟨_, rfl, h⟩
theorem tuple_mul0 (l : Addr) (items : Array Value) (n : Nat) (dd : Option Addr) (sl : Array (Option Value)) (x : Int) (u : Tok) (c0 : (decide (x < -(2 ^ 63)) || decide (x ≥ 2 ^ 63)) = false) (c1 : (items.isEmpty || x == 1) = false) (c2 : (decide (x ≤ 0) || items.isEmpty) = true) :
    Meets (Builtin.«tuple.__mul__» ⟨[.ref l, .int x u], []⟩) (fun _ R s => s.heap.get? l = some { cls := .type "tuple", dict := dd, data := .seq items n, slots := sl } ∧
      R (.ok (.ret (Value.ref s.heap.objs.size))) { s with heap := s.heap.push { cls := Value.type "tuple", data := Data.seq #[] }, toks := s.toks }) :=
  .of_wp fun prog w A R s h => by
    obtain ⟨hp, g, d, tk, os⟩ := s
    obtain ⟨hl, h⟩ := h
    have f1 := AutoSeq1.idx_int
    wp_walk using wpAny_loadPart' hl
    repeat (first
      | (refine wpAny_ite_false (decide_eq_false (by rw [c0]; exact Bool.false_ne_true)) ?_; wp_walk using wpAny_loadPart' hl)
      | (refine wpAny_ite_false (decide_eq_false (by rw [c1]; exact Bool.false_ne_true)) ?_; wp_walk using wpAny_loadPart' hl)
      | (refine wpAny_ite_true (decide_eq_true (by rw [c2])) ?_; wp_walk using wpAny_loadPart' hl))
    exact ⟨_, rfl, h⟩
def rRepA (K : PySem.W.Frag) : R2 := fun x y H Q => ∃ l k xs, x = .ref l ∧ y = .int k ∧ SqT K H l xs ∧ xs ≠ [] ∧ -1000 ≤ k ∧ k ≤ 1000 ∧ xs.length ≤ 1000 ∧ (2 ≤ k → ∀ p, H p = none → Q (.ref p) (upd H p (.tup (List.replicate k.toNat xs).flatten))) ∧ (k = 1 → Q (.ref l) H) ∧ (k ≤ 0 → ∀ p, H p = none → Q (.ref p) (upd H p (.tup [])))
section
variable {X : Cx}
theorem op_repA : OpR X (binaryOp .Mult) (rRepA X.K) := by
  intro pins s σ H x y v u Q I rx ry h
  obtain ⟨l, k, xs, rfl, rfl, hT, hne, h0, h1, hz, q2, q1, q0⟩ := h
  by_cases hk2 : 2 ≤ k
  · exact op_repT pins s σ H _ _ v u Q I rx ry ⟨l, k, xs, rfl, rfl, hT, hne, hk2, h1, hz, q2 hk2⟩
  cases rx
  obtain ⟨t, rfl⟩ := ry
  obtain ⟨its, r, ⟨⟨cls, dd, data, sl⟩, ho, hc, n, hd⟩, hs⟩ := I.tuple hT
  simp only at hc hd
  subst hc hd
  have hle : its.length = xs.length := r.length.symm
  have hi : its.toArray.isEmpty = false := by
    cases its with
    | nil => exact absurd (List.eq_nil_of_length_eq_zero hle.symm) hne
    | cons a b => rfl
  have c0 : (decide (k < -(2 ^ 63)) || decide (k ≥ 2 ^ 63)) = false := by
    rw [decide_eq_false (by omega), decide_eq_false (by omega)] <;> rfl
  by_cases hk1 : k = 1
  · subst hk1
    exact wpAny_binaryOp_repeat_ref (T := "tuple") (U := "int") (by decide) ⟨_, ho, rfl⟩ (fun s' => typeIs_int s' 1 t) noFill_tuple_mul F.fills_int_mul F.slot_int_rmul repeat_tuple F.slot_int_index.lookup
      (call_meets F.slot_int_rmul (typeIs_int s 1 t) F.entry_int_rmul (F.args_int_rmul_2 _ _) (int_rmul_tuple 1 t l its.toArray n dd sl)
        ⟨ho, rfl, ⟨_, ho, rfl⟩, call_meets F.slot_tuple_mul ⟨_, ho, rfl⟩ F.entry_tuple_mul (F.args_tuple_mul_2 _ _) (tuple_mul1 l its.toArray n dd sl t) ⟨ho, .ref l, H, I, rfl, q1 rfl⟩⟩)
  · have hk0 : k ≤ 0 := by omega
    have c1 : (its.toArray.isEmpty || k == 1) = false := by
      rw [hi, Bool.false_or]
      exact beq_eq_false_iff_ne.mpr hk1
    have c2 : (decide (k ≤ 0) || its.toArray.isEmpty) = true := by
      rw [decide_eq_true hk0]
      rfl
    refine wpAny_binaryOp_repeat_ref (T := "tuple") (U := "int") (by decide) ⟨_, ho, rfl⟩ (fun s' => typeIs_int s' k t) noFill_tuple_mul F.fills_int_mul F.slot_int_rmul repeat_tuple F.slot_int_index.lookup
      (call_meets F.slot_int_rmul (typeIs_int s k t) F.entry_int_rmul (F.args_int_rmul_2 _ _) (int_rmul_tuple k t l its.toArray n dd sl)
        ⟨ho, rfl, ⟨_, ho, rfl⟩, call_meets F.slot_tuple_mul ⟨_, ho, rfl⟩ F.entry_tuple_mul (F.args_tuple_mul_2 _ _) (tuple_mul0 l its.toArray n dd sl k t c0 c1 c2) ⟨ho, ?_⟩⟩)
    exact ⟨.ref s.heap.objs.size, _, I.laid (t' := s.toks) (o := .tup []) (fun b ob q => Heap.get?_push_of_some _ q) (Nat.le_refl _) ⟨Nat.zero_le _, [], .nil, IsTup.new _ _⟩, rfl, q0 hk0 _ (I.hok.fresh (Nat.le_refl _))⟩
end
end Rn
end

section
set_option Elab.async false
set_option linter.all false
set_option maxRecDepth 100000
/-! Core3: operations on data, and that the readings of the layer's rules give them. -/
namespace Rn
open PySem PySem.Spec L2

/-! ### now -/
section
variable {F H : Hp} {v : V}
theorem NowD.none (h : NowD F H v .none) : v = .non := by
  rcases h with h | ⟨a, o, _, _, h⟩
  · exact h
  · cases o <;> exact h.elim
theorem NowD.bool {b : Bool} (h : NowD F H v (.bool b)) : v = .bl b := by
  rcases h with h | ⟨a, o, _, _, h⟩
  · exact h
  · cases o <;> exact h.elim
theorem NowD.int {b : Int} (h : NowD F H v (.int b)) : v = .int b := by
  rcases h with h | ⟨a, o, _, _, h⟩
  · exact h
  · cases o <;> exact h.elim
theorem NowD.str {b : Str} (h : NowD F H v (.str b)) : v = .str b := by
  rcases h with h | ⟨a, o, _, _, h⟩
  · exact h
  · cases o <;> exact h.elim
theorem NowD.lst {ds : List D} (s : Same F H) (h : NowD F H v (.list ds)) : ∃ a vs, v = .ref a ∧ H a = some (.lst vs) ∧ DenL F ds vs := by
  rcases h with ⟨a, vs, e, h, l⟩ | ⟨a, o, e, h, l⟩
  · exact ⟨a, vs, e, s _ _ h, l⟩
  · obtain ⟨vs, rfl, q⟩ := l.lst
    exact ⟨a, vs, e, h, q⟩
theorem NowD.tup {ds : List D} (s : Same F H) (h : NowD F H v (.tuple ds)) : ∃ a vs, v = .ref a ∧ F a = some (.tup vs) ∧ H a = some (.tup vs) ∧ DenL F ds vs := by
  rcases h with ⟨a, vs, e, h, l⟩ | ⟨a, o, e, h, l⟩
  · exact ⟨a, vs, e, h, s _ _ h, l⟩
  · cases o <;> exact l.elim
theorem NowD.dic {ds : List (D × D)} (s : Same F H) (h : NowD F H v (.dict ds)) : ∃ a vs, v = .ref a ∧ H a = some (.dK vs) ∧ DenK F ds vs := by
  rcases h with ⟨a, vs, e, h, l⟩ | ⟨a, o, e, h, l⟩
  · exact ⟨a, vs, e, s _ _ h, l⟩
  · obtain ⟨vs, rfl, q⟩ := l.dic
    exact ⟨a, vs, e, h, q⟩
end
mutual
theorem Den.dp {K : PySem.W.Frag} {F H : Hp} (s : Same F H) : ∀ {d : D} {v : V}, d.plain = true → Den F d v → Dp K H v d
  | .none, _, _, h => by cases h; exact .non
  | .bool _, _, _, h => by cases h; exact .bl _
  | .int _, _, _, h => by cases h; exact .int _
  | .str _, _, _, h => by cases h; exact .str _
  | .list ds, _, p, ⟨a, vs, e, h, l⟩ => by subst e; exact .lst (SqL.of (s _ _ h)) (DenL.dp s p l)
  | .tuple ds, _, p, ⟨a, vs, e, h, l⟩ => by subst e; exact .tup (SqT.of (s _ _ h)) (DenL.dp s p l)
  | .dict kds, _, p, _ => by cases p
theorem DenL.dp {K : PySem.W.Frag} {F H : Hp} (s : Same F H) : ∀ {ds : List D} {vs : List V}, PyData.plainAll ds = true → DenL F ds vs → DpAll K H vs ds
  | [], _, _, h => by cases h; exact .nil
  | _ :: _, _, p, ⟨v, r, e, h, l⟩ => by
    subst e
    have p' := Bool.and_eq_true_iff.mp p
    exact .cons (Den.dp s p'.1 h) (DenL.dp s p'.2 l)
end
theorem NowD.dp {K : PySem.W.Frag} {F H : Hp} (s : Same F H) {d : D} {v : V} (p : d.plain = true) (h : NowD F H v d) : Dp K H v d := by
  rcases h with h | ⟨a, o, rfl, e, sh⟩
  · exact h.dp s p
  · rcases sh.cases with ⟨ds, vs, rfl, rfl, l⟩ | ⟨ds, vs, rfl, rfl, l⟩
    · exact .lst (SqL.of e) (DenL.dp s p l)
    · cases p

/-! ### == and in, over data -/
def dOk (d e : D) : Bool := d.plain && e.plain && decide (min d.depth e.depth ≤ 64)
def rEqP (K : PySem.W.Frag) : R2 := fun x y H Q => ∃ d e, Dp K H x d ∧ Dp K H y e ∧ dOk d e = true ∧ Q (.bl (PyData.eqv d e)) H
def rNeP (K : PySem.W.Frag) : R2 := fun x y H Q => ∃ d e, Dp K H x d ∧ Dp K H y e ∧ dOk d e = true ∧ Q (.bl (!PyData.eqv d e)) H
theorem dOk_parts {d e : D} (h : dOk d e = true) : d.plain = true ∧ e.plain = true ∧ min d.depth e.depth ≤ 64 := by
  unfold dOk at h
  rw [Bool.and_eq_true, Bool.and_eq_true] at h
  exact ⟨h.1.1, h.1.2, of_decide_eq_true h.2⟩
section
variable {X : Cx}
theorem op_eqP (hu : X.A.units + 64 < cLine) : OpR X (compareOp .Eq) (rEqP X.K) := by
  intro pins s σ H x y v u Q I rx ry h
  obtain ⟨d, e, h1, h2, ok, q⟩ := h
  obtain ⟨p1, p2, p3⟩ := dOk_parts ok
  obtain ⟨as, r1⟩ := Dp.reads I d x v h1 rx
  obtain ⟨bs, r2⟩ := Dp.reads I e y u h2 ry
  exact PySem.SeqAt.eq_plain r1 r2 p1 p2 (by omega) ⟨.bl _, H, I, rfl, q⟩
theorem op_neP (hu : X.A.units + 64 < cLine) : OpR X (compareOp .NotEq) (rNeP X.K) := by
  intro pins s σ H x y v u Q I rx ry h
  obtain ⟨d, e, h1, h2, ok, q⟩ := h
  obtain ⟨p1, p2, p3⟩ := dOk_parts ok
  obtain ⟨as, r1⟩ := Dp.reads I d x v h1 rx
  obtain ⟨bs, r2⟩ := Dp.reads I e y u h2 ry
  exact PySem.SeqAt.ne_plain r1 r2 p1 p2 (by omega) ⟨.bl _, H, I, rfl, q⟩
def isSeqD (d : D) (ds : List D) : Prop := d = .list ds ∨ d = .tuple ds
def inOk (d : D) (ds : List D) : Bool := d.plain && PyData.plainAll ds && decide (min (PyData.depthAll ds) d.depth ≤ 63)
def rInP (K : PySem.W.Frag) (neg : Bool) : R2 := fun x y H Q => ∃ d e ds, Dp K H x d ∧ Dp K H y e ∧ isSeqD e ds ∧ inOk d ds = true ∧ Q (.bl (if neg then !(ds.any fun z => PyData.eqv z d) else ds.any fun z => PyData.eqv z d)) H
theorem op_inP (hu : X.A.units + 64 < cLine) : OpR X (compareOp .In) (rInP X.K false) := by
  intro pins s σ H x y v u Q I rx ry h
  obtain ⟨d, e, ds, h1, h2, h3, ok, q⟩ := h
  unfold inOk at ok
  rw [Bool.and_eq_true, Bool.and_eq_true] at ok
  obtain ⟨⟨p1, p2⟩, p3⟩ := ok
  have p3 := of_decide_eq_true p3
  obtain ⟨as, r1⟩ := Dp.reads I d x v h1 rx
  obtain ⟨bs, r2⟩ := Dp.reads I e y u h2 ry
  rcases h3 with rfl | rfl
  · exact PySem.SeqAt.in_list_data r2 r1 p2 p1 (by omega) ⟨.bl _, H, I, rfl, q⟩
  · exact PySem.SeqAt.in_tuple_data r2 r1 p2 p1 (by omega) ⟨.bl _, H, I, rfl, q⟩
theorem op_notInP (hu : X.A.units + 64 < cLine) : OpR X (compareOp .NotIn) (rInP X.K true) := by
  intro pins s σ H x y v u Q I rx ry h
  obtain ⟨d, e, ds, h1, h2, h3, ok, q⟩ := h
  unfold inOk at ok
  rw [Bool.and_eq_true, Bool.and_eq_true] at ok
  obtain ⟨⟨p1, p2⟩, p3⟩ := ok
  have p3 := of_decide_eq_true p3
  obtain ⟨as, r1⟩ := Dp.reads I d x v h1 rx
  obtain ⟨bs, r2⟩ := Dp.reads I e y u h2 ry
  rcases h3 with rfl | rfl
  · exact PySem.SeqAt.notIn_list_data r2 r1 p2 p1 (by omega) ⟨.bl _, H, I, rfl, q⟩
  · exact PySem.SeqAt.notIn_tuple_data r2 r1 p2 p1 (by omega) ⟨.bl _, H, I, rfl, q⟩
end
def eqF (d e : D) : Option D := if dOk d e = true then some (.bool (PyData.eqv d e)) else none
def neF (d e : D) : Option D := if dOk d e = true then some (.bool (!PyData.eqv d e)) else none
theorem ok_eq {K : PySem.W.Frag} : OpOk (rEqP K) eqF := by
  intro F H v w d e z Q s h1 h2 h3 q
  unfold eqF at h3
  split at h3
  · next ok =>
    cases h3
    obtain ⟨p1, p2, p3⟩ := dOk_parts ok
    exact ⟨d, e, h1.dp s p1, h2.dp s p2, ok, q _ F H (Ext.refl s) rfl⟩
  · cases h3
theorem ok_ne {K : PySem.W.Frag} : OpOk (rNeP K) neF := by
  intro F H v w d e z Q s h1 h2 h3 q
  unfold neF at h3
  split at h3
  · next ok =>
    cases h3
    obtain ⟨p1, p2, p3⟩ := dOk_parts ok
    exact ⟨d, e, h1.dp s p1, h2.dp s p2, ok, q _ F H (Ext.refl s) rfl⟩
  · cases h3
def seqD : D → Option (List D)
  | .list ds => some ds
  | .tuple ds => some ds
  | _ => none
theorem seqD_is {e : D} {ds : List D} (h : seqD e = some ds) : isSeqD e ds := by
  cases e <;> simp [seqD] at h
  · exact .inl (by rw [h])
  · exact .inr (by rw [h])
def inF (neg : Bool) (d e : D) : Option D := match seqD e with
  | some ds => if inOk d ds = true then some (.bool (if neg then !(ds.any fun z => PyData.eqv z d) else ds.any fun z => PyData.eqv z d)) else none
  | none => none
theorem ok_in {K : PySem.W.Frag} {neg : Bool} : OpOk (rInP K neg) (inF neg) := by
  intro F H v w d e z Q s h1 h2 h3 q
  unfold inF at h3
  cases e1 : seqD e with
  | none => simp only [e1] at h3; cases h3
  | some ds =>
    simp only [e1] at h3
    split at h3
    · next ok =>
      cases h3
      have ok' := ok
      unfold inOk at ok'
      rw [Bool.and_eq_true, Bool.and_eq_true] at ok'
      obtain ⟨⟨p1, p2⟩, p3⟩ := ok'
      have pe : e.plain = true := by
        rcases seqD_is e1 with rfl | rfl <;> exact p2
      exact ⟨d, e, ds, h1.dp s p1, h2.dp s pe, seqD_is e1, ok, q _ F H (Ext.refl s) rfl⟩
    · cases h3

/-! ### ints, texts, lists, tuples -/
def big : Nat := 1000000
theorem big_le {n : Nat} (h : n ≤ big) : n ≤ sizeLine := Nat.le_trans h (by decide)
def rAddA (K : PySem.W.Frag) : R2 := fun x y H Q => (((rI0 fun i j => .int (i + j)) x y H Q ∨ ∃ i j, x = .str i ∧ y = .str j ∧ i.length + j.length ≤ sizeLine ∧ Q (.str (i ++ j)) H) ∨ rCat x y H Q) ∨ rCatA K x y H Q
theorem op_addA {X : Cx} : OpR X (binaryOp .Add) (rAddA X.K) := ((op_add.or op_add_str).or op_cat).or op_catA
def addF : D → D → Option D
  | .int i, .int j => some (.int (i + j))
  | .str i, .str j => if i.length + j.length ≤ big then some (.str (i ++ j)) else none
  | .list i, .list j => if i.length + j.length ≤ big then some (.list (i ++ j)) else none
  | .tuple i, .tuple j => if i.length + j.length ≤ big then some (.tuple (i ++ j)) else none
  | _, _ => none
theorem nil_of_len {α : Type} {l : List α} (h : l.length = 0) : l = [] := List.length_eq_zero_iff.mp h
theorem ok_add {K : PySem.W.Frag} : OpOk (rAddA K) addF := by
  intro F H v w d e z Q s h1 h2 h3 q
  unfold addF at h3
  split at h3
  · cases h3
    exact .inl (.inl (.inl ⟨_, _, h1.int, h2.int, q _ F H (Ext.refl s) rfl⟩))
  · split at h3
    · next hl => cases h3; exact .inl (.inl (.inr ⟨_, _, h1.str, h2.str, big_le hl, q _ F H (Ext.refl s) rfl⟩))
    · cases h3
  · split at h3
    · next hl =>
      cases h3
      obtain ⟨a, vs, rfl, e1, l1⟩ := h1.lst s
      obtain ⟨b, ws, rfl, e2, l2⟩ := h2.lst s
      refine .inl (.inr ⟨a, b, vs, ws, rfl, rfl, e1, e2, big_le (by rw [← l1.len, ← l2.len]; exact hl), fun p hp => ?_⟩)
      have x := Ext.laid s hp (.lst (vs ++ ws))
      exact q _ _ _ x ⟨p, _, rfl, upd_same, DenL.mono x.old (l1.app l2)⟩
    · cases h3
  · split at h3
    · next hl =>
      cases h3
      obtain ⟨a, vs, rfl, f1, e1, l1⟩ := h1.tup s
      obtain ⟨b, ws, rfl, f2, e2, l2⟩ := h2.tup s
      refine .inr ⟨a, b, vs, ws, rfl, rfl, SqT.of e1, SqT.of e2, big_le (by rw [← l1.len, ← l2.len]; exact hl), fun h => ?_, fun _ h => ?_, fun _ _ p hp => ?_⟩
      · subst h
        have l1' := nil_of_len l1.len
        subst l1'
        exact q _ F H (Ext.refl s) ⟨b, ws, rfl, f2, l2⟩
      · subst h
        have l2' := nil_of_len l2.len
        subst l2'
        exact q _ F H (Ext.refl s) ⟨a, vs, rfl, f1, by rw [List.append_nil]; exact l1⟩
      · have x := Ext.laid s hp (.tup (vs ++ ws))
        exact q _ _ _ x ⟨p, _, rfl, upd_same, DenL.mono x.old (l1.app l2)⟩
    · cases h3
  · cases h3
def catF : D → D → Option D
  | .list i, .list j => if i.length + j.length ≤ big then some (.list (i ++ j)) else none
  | _, _ => none
theorem okF_cat : OpOkF rCat catF := by
  intro F H v w d e z Q s h1 h2 h3 q
  unfold catF at h3
  split at h3
  · split at h3
    · next hl =>
      cases h3
      obtain ⟨a, vs, rfl, e1, l1⟩ := h1.lst s
      obtain ⟨b, ws, rfl, e2, l2⟩ := h2.lst s
      exact ⟨a, b, vs, ws, rfl, rfl, e1, e2, big_le (by rw [← l1.len, ← l2.len]; exact hl), fun p hp => q p _ hp (l1.app l2)⟩
    · cases h3
  · cases h3
def subF : D → D → Option D
  | .int i, .int j => some (.int (i - j))
  | _, _ => none
theorem ok_sub : OpOk (rI0 fun i j => .int (i - j)) subF := by
  intro F H v w d e z Q s h1 h2 h3 q
  unfold subF at h3
  split at h3
  · cases h3; exact ⟨_, _, h1.int, h2.int, q _ F H (Ext.refl s) rfl⟩
  · cases h3
def cmpI (p : Int → Int → Bool) : D → D → Option D
  | .int i, .int j => some (.bool (p i j))
  | _, _ => none
theorem ok_cmpI {p : Int → Int → Bool} : OpOk (rI0 fun i j => .bl (p i j)) (cmpI p) := by
  intro F H v w d e z Q s h1 h2 h3 q
  unfold cmpI at h3
  split at h3
  · cases h3; exact ⟨_, _, h1.int, h2.int, q _ F H (Ext.refl s) rfl⟩
  · cases h3
abbrev ltF := cmpI fun i j => decide (i < j)
abbrev leF := cmpI fun i j => decide (i ≤ j)
abbrev gtF := cmpI fun i j => decide (j < i)
abbrev geF := cmpI fun i j => decide (j ≤ i)
def rMulA (K : PySem.W.Frag) : R2 := fun x y H Q => (((rI CMul fun i j => .int (i * j)) x y H Q ∨ (rI CMulW fun i j => .int (i * j)) x y H Q) ∨ rRep x y H Q) ∨ rRepA K x y H Q
theorem op_mulA {X : Cx} : OpR X (binaryOp .Mult) (rMulA X.K) := ((op_mul.or op_mulW).or op_rep).or op_repA
def isSmall (i : Int) : Bool := decide (-(2 ^ 64) < i) && decide (i < 2 ^ 64)
def mulF : D → D → Option D
  | .int i, .int j => if (isSmall i || isSmall j) = true then some (.int (i * j)) else if i.natAbs < 2 ^ 400 ∧ j.natAbs < 2 ^ 400 then some (.int (i * j)) else none
  | .list i, .int j => if i.length ≤ 1000 ∧ 0 ≤ j ∧ j ≤ 1000 then some (.list (List.replicate j.toNat i).flatten) else none
  | .tuple i, .int j => if i ≠ [] ∧ i.length ≤ 1000 ∧ -1000 ≤ j ∧ j ≤ 1000 then some (.tuple (List.replicate j.toNat i).flatten) else none
  | _, _ => none
theorem small_is {i : Int} (h : isSmall i = true) : -(2 ^ 64) < i ∧ i < 2 ^ 64 := by
  unfold isSmall at h
  rw [Bool.and_eq_true] at h
  exact ⟨of_decide_eq_true h.1, of_decide_eq_true h.2⟩
theorem ok_mul {K : PySem.W.Frag} : OpOk (rMulA K) mulF := by
  intro F H v w d e z Q s h1 h2 h3 q
  unfold mulF at h3
  split at h3
  · split at h3
    · next hs =>
      cases h3
      refine .inl (.inl (.inl ⟨_, _, h1.int, h2.int, ?_, q _ F H (Ext.refl s) rfl⟩))
      rcases Bool.or_eq_true_iff.mp hs with h | h
      · exact .inl (small_is h)
      · exact .inr (small_is h)
    · split at h3
      · next hb => cases h3; exact .inl (.inl (.inr ⟨_, _, h1.int, h2.int, wide_mul hb.1 hb.2 (by decide) (by decide) (by decide), q _ F H (Ext.refl s) rfl⟩))
      · cases h3
  · split at h3
    · next hb =>
      cases h3
      obtain ⟨a, vs, rfl, e1, l1⟩ := h1.lst s
      obtain ⟨b1, b2, b3⟩ := hb
      refine .inl (.inr ⟨a, _, vs, rfl, h2.int, e1, by omega, by omega, ?_, fun p hp => ?_⟩)
      · rw [← l1.len]
        exact Nat.le_trans (Nat.mul_le_mul b1 (Int.toNat_le.mpr b3)) (by decide)
      · exact q _ _ _ (Ext.laid s hp _) ⟨p, _, rfl, upd_same, DenL.mono (same_upd (s.free hp)) (l1.rep _)⟩
    · cases h3
  · split at h3
    · next hb =>
      cases h3
      obtain ⟨b0, b1, b2, b3⟩ := hb
      obtain ⟨a, vs, rfl, e1, e2, l1⟩ := h1.tup s
      refine .inr ⟨a, _, vs, rfl, h2.int, SqT.of e2, fun z => b0 ?_, b2, b3, by rw [← l1.len]; exact b1, fun _ p hp => ?_, fun hk => ?_, fun hk p hp => ?_⟩
      · have := l1.len
        rw [z] at this
        exact List.eq_nil_of_length_eq_zero (by simpa using this)
      · exact q _ _ _ (Ext.laid s hp _) ⟨p, _, rfl, upd_same, DenL.mono (same_upd (s.free hp)) (l1.rep _)⟩
      · subst hk
        refine q _ F H (Ext.refl s) ?_
        simp only [Int.toNat_one, List.replicate_one, List.flatten_cons, List.flatten_nil, List.append_nil]
        exact ⟨a, vs, rfl, e1, l1⟩
      · rename_i j
        have e0 : Int.toNat j = 0 := by omega
        refine q _ _ _ (Ext.laid s hp _) ⟨p, _, rfl, upd_same, ?_⟩
        rw [e0]
        exact rfl
    · cases h3
  · cases h3
def repF : D → D → Option D
  | .list i, .int j => if i.length ≤ 1000 ∧ 0 ≤ j ∧ j ≤ 1000 then some (.list (List.replicate j.toNat i).flatten) else none
  | _, _ => none
theorem okF_rep : OpOkF rRep repF := by
  intro F H v w d e z Q s h1 h2 h3 q
  unfold repF at h3
  split at h3
  · split at h3
    · next hb =>
      cases h3
      obtain ⟨a, vs, rfl, e1, l1⟩ := h1.lst s
      obtain ⟨b1, b2, b3⟩ := hb
      refine ⟨a, _, vs, rfl, h2.int, e1, by omega, by omega, ?_, fun p hp => q p _ hp (l1.rep _)⟩
      rw [← l1.len]
      exact Nat.le_trans (Nat.mul_le_mul b1 (Int.toNat_le.mpr b3)) (by decide)
    · cases h3
  · cases h3
def fdivF : D → D → Option D
  | .int i, .int j => if 0 < j ∧ j.natAbs < 2 ^ 400 then some (.int (i / j)) else none
  | _, _ => none
theorem ok_fdiv : OpOk (rI CDivW fun i j => .int (i / j)) fdivF := by
  intro F H v w d e z Q s h1 h2 h3 q
  unfold fdivF at h3
  split at h3
  · split at h3
    · next hb => cases h3; exact ⟨_, _, h1.int, h2.int, wide_div hb.1 hb.2 (by decide) (by decide), q _ F H (Ext.refl s) rfl⟩
    · cases h3
  · cases h3
def modF : D → D → Option D
  | .int i, .int j => if 0 < j then some (.int (i % j)) else none
  | _, _ => none
theorem ok_mod : OpOk (rI (fun _ j => 0 < j) fun i j => .int (i % j)) modF := by
  intro F H v w d e z Q s h1 h2 h3 q
  unfold modF at h3
  split at h3
  · split at h3
    · next hb => cases h3; exact ⟨_, _, h1.int, h2.int, hb, q _ F H (Ext.refl s) rfl⟩
    · cases h3
  · cases h3
def powF : D → D → Option D
  | .int i, .int j => if 0 ≤ j ∧ j ≤ 100 ∧ i.natAbs < 2 ^ 64 then some (.int (i ^ j.toNat)) else none
  | _, _ => none
theorem ok_pow : OpOk (rI CPow fun i j => .int (i ^ j.toNat)) powF := by
  intro F H v w d e z Q s h1 h2 h3 q
  unfold powF at h3
  split at h3
  · split at h3
    · next hb => cases h3; exact ⟨_, _, h1.int, h2.int, ⟨hb.1, by have := hb.2.1; omega, hb.2.2⟩, q _ F H (Ext.refl s) rfl⟩
    · cases h3
  · cases h3
def negF : D → Option D
  | .int i => some (.int (-i))
  | _ => none
theorem ok_neg : UnOk (rU fun i => .int (-i)) negF := by
  intro F H v d z Q s h1 h3 q
  unfold negF at h3
  split at h3
  · cases h3; exact ⟨_, h1.int, q _ F H (Ext.refl s) rfl⟩
  · cases h3
/-! ### is None -/
def isNoneD : D → Bool
  | .none => true
  | _ => false
def isF (neg : Bool) : D → D → Option D
  | d, .none => some (.bool (if neg then !isNoneD d else isNoneD d))
  | _, _ => none
theorem now_none {F H : Hp} {v : V} {d : D} (h : NowD F H v d) : decide (v = .non) = isNoneD d := by
  cases d with
  | none => rw [h.none]; rfl
  | bool b => rw [h.bool]; rfl
  | int b => rw [h.int]; rfl
  | str b => rw [h.str]; rfl
  | list ds => rcases h with ⟨a, vs, rfl, _⟩ | ⟨a, o, rfl, _⟩ <;> rfl
  | tuple ds => rcases h with ⟨a, vs, rfl, _⟩ | ⟨a, o, rfl, _⟩ <;> rfl
  | dict ds => rcases h with ⟨a, vs, rfl, _⟩ | ⟨a, o, rfl, _⟩ <;> rfl
theorem ok_is : OpOk (fun x y H Q => y = .non ∧ Q (.bl (decide (x = .non))) H) (isF false) := by
  intro F H v w d e z Q s h1 h2 h3 q
  unfold isF at h3
  split at h3
  · cases h3; exact ⟨h2.none, by rw [now_none h1]; exact q _ F H (Ext.refl s) rfl⟩
  · cases h3
theorem ok_isnot : OpOk (fun x y H Q => y = .non ∧ Q (.bl (!decide (x = .non))) H) (isF true) := by
  intro F H v w d e z Q s h1 h2 h3 q
  unfold isF at h3
  split at h3
  · cases h3; exact ⟨h2.none, by rw [now_none h1]; exact q _ F H (Ext.refl s) rfl⟩
  · cases h3
/-! ### subscripts -/
def ixF : D → D → Option D
  | .list ds, .int i => atI ds i
  | .tuple ds, .int i => atI ds i
  | .str z, .int i => if z.length ≤ big then (atI z.cps.toList i).map fun c => .str ⟨#[c]⟩ else none
  | _, _ => none
theorem atI_den {F : Hp} {ds : List D} {vs : List V} {i : Int} {d : D} (l : DenL F ds vs) (h : atI ds i = some d) : ∃ v, atI vs i = some v ∧ Den F d v := by
  unfold atI at h ⊢
  rw [← l.len]
  cases e : ixN ds.length i with
  | none => rw [e] at h; cases h
  | some j =>
    rw [e] at h
    obtain ⟨v, h1, h2⟩ := l.get (i := j) (d := d) h
    exact ⟨v, h1, h2⟩
theorem ok_ix {K : PySem.W.Frag} : OpOk (rIx K) ixF := by
  intro F H v w d e z Q s h1 h2 h3 q
  unfold ixF at h3
  split at h3
  · obtain ⟨a, vs, rfl, e1, l1⟩ := h1.lst s
    obtain ⟨u, g1, g2⟩ := atI_den l1 h3
    exact .inl ⟨a, vs, _, u, rfl, h2.int, SqL.of e1, g1, q _ F H (Ext.refl s) g2⟩
  · obtain ⟨a, vs, rfl, f1, e1, l1⟩ := h1.tup s
    obtain ⟨u, g1, g2⟩ := atI_den l1 h3
    exact .inr (.inl ⟨a, vs, _, u, rfl, h2.int, SqT.of e1, g1, q _ F H (Ext.refl s) g2⟩)
  · split at h3
    · next hl =>
      cases e4 : atI (Array.toList _) _ with
      | none => rw [e4] at h3; cases h3
      | some c => rw [e4] at h3; cases h3; exact .inr (.inr ⟨_, _, c, h1.str, h2.int, big_le hl, e4, q _ F H (Ext.refl s) rfl⟩)
    · cases h3
  · cases h3
/-! ### slices -/
def VO : L2.St → Hp → Hp → Rho → Option Int → Option Int → Prop := fun _ _ _ _ b v => v = b
section
variable {B : Bd} {EX : Str → Hp → Prop}
def asInt : D → Option Int
  | .int i => some i
  | _ => none
def mPart (f : M D) : M (Option Int) := bnd f fun d => lft ((asInt d).map some)
def mNoPart : M (Option Int) := ret none
theorem ev_nopart : Ev B EX VO tNoPart mNoPart := fun F H σ ρ Q m h => h none F H m.refl rfl
theorem ev_part {t : TE} {f : M D} (h : Ev B EX VD t f) : Ev B EX VO (tPart t) (mPart f) := by
  refine Ev.bind (tb := fun x σ H Q => ∃ i, x = V.int i ∧ Q (some i) H) h fun a x F H σ ρ Q m p q => ?_
  cases a <;> first | exact q.elim | skip
  rename_i i
  exact ⟨i, p, q (some i) F H m.refl rfl⟩
def SlOk (r : V → Option Int → Option Int → Hp → VK → Prop) (f : D → Option Int → Option Int → Option D) : Prop := ∀ {F H : Hp} {v : V} {d z : D} {lo hi : Option Int} {Q : VK}, Same F H → NowD F H v d → f d lo hi = some z → (∀ v' F' H', Ext F H F' H' → Den F' z v' → Q v' H') → r v lo hi H Q
def mSl (f : D → Option Int → Option Int → Option D) (a : M TV) (b c : M (Option Int)) : M D := bnd a fun x => bnd b fun y => bnd c fun z => fun ρ => match deref ρ x with
  | some d => lft (f d y z) ρ
  | none => .no
theorem ev_sl {r : V → Option Int → Option Int → Hp → VK → Prop} {f : D → Option Int → Option Int → Option D} {te : TE} {tl th : TO} {fa : M TV} {fb fc : M (Option Int)} (ho : SlOk r f) (ha : Ev B EX VT te fa) (hb : Ev B EX VO tl fb) (hc : Ev B EX VO th fc) :
    Ev B EX VD (tSl r te tl th) (mSl f fa fb fc) := by
  refine Ev.bind (tb := fun x σ H Q => tl σ H fun l H2 => th σ H2 fun u H3 => r x l u H3 Q) ha fun a x F H σ ρ Q m p q => ?_
  refine hb F H σ ρ _ m ?_
  unfold bnd at q
  cases e : fb ρ with
  | ex c r => rw [e] at q; exact q
  | no => rw [e] at q; exact q
  | ok b ρ1 =>
    rw [e] at q
    intro y F1 H1 s1 py
    cases py
    refine hc F1 H1 σ ρ1 _ s1.mt ?_
    have q := Post.from q s1
    cases e2 : fc ρ1 with
    | ex c r => simp only [e2] at q; exact q
    | no => simp only [e2] at q; exact q
    | ok c ρ2 =>
      simp only [e2] at q
      intro w F2 H2 s2 pw
      cases pw
      have px := (p.step s1).step s2
      cases e1 : deref ρ2 a with
      | none => simp only [e1] at q; exact q.elim
      | some d =>
        simp only [e1] at q
        unfold lft at q
        cases e3 : f d b c with
        | none => rw [e3] at q; exact q.elim
        | some z =>
          rw [e3] at q
          exact ho s2.mt.sub (px.now s2.mt e1) e3 fun v' F' H' x' dz => q v' F' H' (s2.ext x') dz
end
def cutD (xs : List D) (lo hi : Option Int) : List D := (xs.drop (HT.sIx xs.length 0 lo)).take (HT.sIx xs.length xs.length hi - HT.sIx xs.length 0 lo)
theorem cut_den {F : Hp} {ds : List D} {vs : List V} (l : DenL F ds vs) (lo hi : Option Int) : DenL F (cutD ds lo hi) (cutV vs lo hi) := by
  unfold cutD cutV
  rw [l.len]
  exact (l.drop _).take _
def rSlAll (K : PySem.W.Frag) : V → Option Int → Option Int → Hp → VK → Prop := fun x lo hi H Q => (rSlL K x lo hi H Q ∨ rSlA K x lo hi H Q) ∨ (∃ z, x = .str z ∧ z.length ≤ sizeLine ∧ Q (.str (cutS z lo hi)) H)
def slF : D → Option Int → Option Int → Option D
  | .list ds, lo, hi => some (.list (cutD ds lo hi))
  | .tuple ds, lo, hi => some (.tuple (cutD ds lo hi))
  | .str z, lo, hi => if z.length ≤ big then some (.str (cutS z lo hi)) else none
  | _, _, _ => none
theorem whole_cut {α : Type} {xs : List α} {i j : Nat} (h1 : i = 0) (h2 : j = xs.length) : (xs.drop i).take (j - i) = xs := by
  subst h1; subst h2; simp
theorem ok_sl {K : PySem.W.Frag} : SlOk (rSlAll K) slF := by
  intro F H v d z lo hi Q s h1 h3 q
  unfold slF at h3
  split at h3
  · cases h3
    obtain ⟨a, vs, rfl, e1, l1⟩ := h1.lst s
    refine .inl (.inl ⟨a, vs, rfl, SqL.of e1, fun p hp => ?_⟩)
    exact q _ _ _ (Ext.laid s hp _) ⟨p, _, rfl, upd_same, DenL.mono (same_upd (s.free hp)) (cut_den l1 _ _)⟩
  · cases h3
    obtain ⟨a, vs, rfl, f1, e1, l1⟩ := h1.tup s
    refine .inl (.inr ⟨a, vs, rfl, SqT.of e1, fun hw => ?_, fun hw p hp => ?_⟩)
    · refine q _ F H (Ext.refl s) ⟨a, vs, rfl, f1, ?_⟩
      have e2 := cut_den l1 lo hi
      have e3 : cutV vs lo hi = vs := whole_cut hw.1 hw.2
      rw [e3] at e2
      exact e2
    · exact q _ _ _ (Ext.laid s hp _) ⟨p, _, rfl, upd_same, DenL.mono (same_upd (s.free hp)) (cut_den l1 _ _)⟩
  · split at h3
    · next hl => cases h3; exact .inr ⟨_, h1.str, big_le hl, q _ F H (Ext.refl s) rfl⟩
    · cases h3
  · cases h3
/-! ### built-in functions -/
theorem NowAll.one {F H : Hp} {vs : List V} {d : D} (h : NowAll F H vs [d]) : ∃ v, vs = [v] ∧ NowD F H v d := by
  obtain ⟨v, r, e, h1, h2⟩ := h
  cases h2
  exact ⟨v, e, h1⟩
theorem NowAll.two {F H : Hp} {vs : List V} {d e : D} (h : NowAll F H vs [d, e]) : ∃ v w, vs = [v, w] ∧ NowD F H v d ∧ NowD F H w e := by
  obtain ⟨v, r, rfl, h1, w, r2, rfl, h2, h3⟩ := h
  cases h3
  exact ⟨v, w, rfl, h1, h2⟩
theorem NowAll.three {F H : Hp} {vs : List V} {d e f : D} (h : NowAll F H vs [d, e, f]) : ∃ v w u, vs = [v, w, u] ∧ NowD F H v d ∧ NowD F H w e ∧ NowD F H u f := by
  obtain ⟨v, r, rfl, h1, w, r2, rfl, h2, u, r3, rfl, h3, h4⟩ := h
  cases h4
  exact ⟨v, w, u, rfl, h1, h2, h3⟩
def lenF : List D → Option D
  | [.list ds] => some (.int ds.length)
  | [.tuple ds] => some (.int ds.length)
  | [.str z] => if z.length ≤ big then some (.int z.length) else none
  | _ => none
theorem ok_len {K : PySem.W.Frag} : CallOk (fun xs H Q => ∃ x n, xs = [x] ∧ LenV K x H n ∧ Q (.int n) H) lenF := by
  intro F H vs ds z Q s h1 h3 q
  unfold lenF at h3
  split at h3
  · cases h3
    obtain ⟨v, rfl, h⟩ := h1.one
    obtain ⟨a, vs, rfl, e1, l1⟩ := h.lst s
    exact ⟨_, _, rfl, .inl ⟨vs, SqL.of e1, l1.len⟩, q _ F H (Ext.refl s) rfl⟩
  · cases h3
    obtain ⟨v, rfl, h⟩ := h1.one
    obtain ⟨a, vs, rfl, f1, e1, l1⟩ := h.tup s
    exact ⟨_, _, rfl, .inr ⟨vs, SqT.of e1, l1.len⟩, q _ F H (Ext.refl s) rfl⟩
  · split at h3
    · next hl =>
      cases h3
      obtain ⟨v, rfl, h⟩ := h1.one
      cases h.str
      exact ⟨_, _, rfl, ⟨big_le hl, rfl⟩, q _ F H (Ext.refl s) rfl⟩
    · cases h3
  · cases h3
def absF : List D → Option D
  | [.int i] => some (.int (if i < 0 then -i else i))
  | _ => none
theorem ok_abs : CallOk (fun xs H Q => ∃ i, xs = [.int i] ∧ Q (.int (if i < 0 then -i else i)) H) absF := by
  intro F H vs ds z Q s h1 h3 q
  unfold absF at h3
  split at h3
  · cases h3
    obtain ⟨v, rfl, h⟩ := h1.one
    cases h.int
    exact ⟨_, rfl, q _ F H (Ext.refl s) rfl⟩
  · cases h3
def max2F : List D → Option D
  | [.int i, .int j] => some (.int (if j > i then j else i))
  | _ => none
def min2F : List D → Option D
  | [.int i, .int j] => some (.int (if j < i then j else i))
  | _ => none
theorem ok_max2 : CallOk (fun xs H Q => ∃ i j, xs = [.int i, .int j] ∧ Q (.int (if j > i then j else i)) H) max2F := by
  intro F H vs ds z Q s h1 h3 q
  unfold max2F at h3
  split at h3
  · cases h3
    obtain ⟨v, w, rfl, h, h'⟩ := h1.two
    cases h.int; cases h'.int
    exact ⟨_, _, rfl, q _ F H (Ext.refl s) rfl⟩
  · cases h3
theorem ok_min2 : CallOk (fun xs H Q => ∃ i j, xs = [.int i, .int j] ∧ Q (.int (if j < i then j else i)) H) min2F := by
  intro F H vs ds z Q s h1 h3 q
  unfold min2F at h3
  split at h3
  · cases h3
    obtain ⟨v, w, rfl, h, h'⟩ := h1.two
    cases h.int; cases h'.int
    exact ⟨_, _, rfl, q _ F H (Ext.refl s) rfl⟩
  · cases h3
/-- int(x): an int, a bool, a text -/
def rIntA : List V → Hp → VK → Prop := fun xs H Q => ((∃ i, xs = [.int i] ∧ Q (.int i) H) ∨ ∃ k, xs = [.bl k] ∧ Q (.int (if k then 1 else 0)) H) ∨ ∃ a n, xs = [.str a] ∧ PySem.intText? a = some n ∧ a.length ≤ 640 ∧ Q (.int n) H
def intF : List D → Option D
  | [.int i] => some (.int i)
  | [.bool k] => some (.int (if k then 1 else 0))
  | [.str a] => if a.length ≤ 640 then (PySem.intText? a).map PyData.int else none
  | _ => none
theorem ok_int : CallOk rIntA intF := by
  intro F H vs ds z Q s h1 h3 q
  unfold intF at h3
  split at h3
  · cases h3
    obtain ⟨v, rfl, h⟩ := h1.one
    cases h.int
    exact .inl (.inl ⟨_, rfl, q _ F H (Ext.refl s) rfl⟩)
  · cases h3
    obtain ⟨v, rfl, h⟩ := h1.one
    cases h.bool
    exact .inl (.inr ⟨_, rfl, q _ F H (Ext.refl s) rfl⟩)
  · split at h3
    · next hl =>
      cases e : PySem.intText? _ with
      | none => rw [e] at h3; cases h3
      | some n =>
        rw [e] at h3; cases h3
        obtain ⟨v, rfl, h⟩ := h1.one
        cases h.str
        exact .inr ⟨_, n, rfl, e, hl, q _ F H (Ext.refl s) rfl⟩
    · cases h3
  · cases h3
def strF : List D → Option D
  | [.int i] => if i.natAbs.log2 < 1920 then some (.str (toString i)) else none
  | _ => none
theorem ok_str : CallOk (fun xs H Q => ∃ i, xs = [.int i] ∧ i.natAbs.log2 < 1920 ∧ Q (.str (toString i)) H) strF := by
  intro F H vs ds z Q s h1 h3 q
  unfold strF at h3
  split at h3
  · split at h3
    · next hl =>
      cases h3
      obtain ⟨v, rfl, h⟩ := h1.one
      cases h.int
      exact ⟨_, rfl, hl, q _ F H (Ext.refl s) rfl⟩
    · cases h3
  · cases h3
/-- tuple(x), list(x) -/
def tupleF : List D → Option D
  | [.list ds] => some (.tuple ds)
  | [.tuple ds] => some (.tuple ds)
  | _ => none
theorem ok_tuple {K : PySem.W.Frag} : CallOk (fun xs H Q => ∃ p ys, xs = [.ref p] ∧ ((SqL K H p ys ∧ ∀ l, H l = none → Q (.ref l) (upd H l (.tup ys))) ∨ (SqT K H p ys ∧ Q (.ref p) H))) tupleF := by
  intro F H vs ds z Q s h1 h3 q
  unfold tupleF at h3
  split at h3
  · cases h3
    obtain ⟨v, rfl, h⟩ := h1.one
    obtain ⟨a, vs, rfl, e1, l1⟩ := h.lst s
    refine ⟨a, vs, rfl, .inl ⟨SqL.of e1, fun p hp => ?_⟩⟩
    have x := Ext.laid s hp (.tup vs)
    exact q _ _ _ x ⟨p, _, rfl, upd_same, DenL.mono x.old l1⟩
  · cases h3
    obtain ⟨v, rfl, h⟩ := h1.one
    obtain ⟨a, vs, rfl, f1, e1, l1⟩ := h.tup s
    exact ⟨a, vs, rfl, .inr ⟨SqT.of e1, q _ F H (Ext.refl s) ⟨a, vs, rfl, f1, l1⟩⟩⟩
  · cases h3
def listF : List D → Option D
  | [.list ds] => some (.list ds)
  | [.tuple ds] => some (.list ds)
  | _ => none
theorem okF_list {K : PySem.W.Frag} : CallOkF (fun xs H Q => ∃ p ys, xs = [.ref p] ∧ (SqL K H p ys ∨ SqT K H p ys) ∧ ∀ l, H l = none → Q (.ref l) (upd H l (.lst ys))) listF := by
  intro F H vs ds z Q s h1 h3 q
  unfold listF at h3
  split at h3
  · cases h3
    obtain ⟨v, rfl, h⟩ := h1.one
    obtain ⟨a, vs, rfl, e1, l1⟩ := h.lst s
    exact ⟨a, vs, rfl, .inl (SqL.of e1), fun p hp => q p _ hp l1⟩
  · cases h3
    obtain ⟨v, rfl, h⟩ := h1.one
    obtain ⟨a, vs, rfl, f1, e1, l1⟩ := h.tup s
    exact ⟨a, vs, rfl, .inr (SqT.of e1), fun p hp => q p _ hp l1⟩
  · cases h3
/-! sums, all, any -/
def allOf {α : Type} (g : D → Option α) : List D → Option (List α)
  | [] => some []
  | d :: ds => match g d, allOf g ds with
    | some x, some xs => some (x :: xs)
    | _, _ => none
theorem allOf_eq {α : Type} {g : D → Option α} {c : α → D} (hc : ∀ d x, g d = some x → d = c x) : ∀ {ds : List D} {xs : List α}, allOf g ds = some xs → ds = xs.map c
  | [], _, h => by cases h; rfl
  | d :: ds, xs, h => by
    unfold allOf at h
    cases e1 : g d with
    | none => simp [e1] at h
    | some x =>
      cases e2 : allOf g ds with
      | none => simp [e1, e2] at h
      | some ys =>
        simp [e1, e2] at h
        subst h
        rw [hc d x e1, allOf_eq hc e2]
        rfl
theorem asInt_eq {d : D} {b : Int} (h : asInt d = some b) : d = .int b := by
  cases d <;> simp [asInt] at h
  rw [h]
def sumF : List D → Option D
  | [.list ds] => (allOf asInt ds).map fun ns => .int ns.sum
  | _ => none
theorem ok_sum {K : PySem.W.Frag} : CallOk (rSum K) sumF := by
  intro F H vs ds z Q s h1 h3 q
  unfold sumF at h3
  split at h3
  · next xs =>
    cases e : allOf asInt xs with
    | none => rw [e] at h3; cases h3
    | some ns =>
      rw [e] at h3; cases h3
      obtain ⟨v, rfl, h⟩ := h1.one
      obtain ⟨a, vs, rfl, e1, l1⟩ := h.lst s
      have e2 := allOf_eq (c := PyData.int) (fun _ _ => asInt_eq) e
      subst e2
      exact ⟨a, ns, rfl, by rw [← DenL.of_ints l1]; exact SqL.of e1, q _ F H (Ext.refl s) rfl⟩
  · cases h3
def allF : List D → Option D
  | [.list ds] => (allOf asBool ds).map fun ns => .bool (ns.all id)
  | _ => none
theorem ok_all {K : PySem.W.Frag} : CallOk (rAll K) allF := by
  intro F H vs ds z Q s h1 h3 q
  unfold allF at h3
  split at h3
  · next xs =>
    cases e : allOf asBool xs with
    | none => rw [e] at h3; cases h3
    | some ns =>
      rw [e] at h3; cases h3
      obtain ⟨v, rfl, h⟩ := h1.one
      obtain ⟨a, vs, rfl, e1, l1⟩ := h.lst s
      have e2 := allOf_eq (c := PyData.bool) (fun _ _ => asBool_eq) e
      subst e2
      exact ⟨a, ns, rfl, by rw [← DenL.of_bools l1]; exact SqL.of e1, q _ F H (Ext.refl s) rfl⟩
  · cases h3
def anyF : List D → Option D
  | [.list ds] => (allOf asBool ds).map fun ns => .bool (ns.any id)
  | _ => none
theorem ok_any {K : PySem.W.Frag} : CallOk (rAny K) anyF := by
  intro F H vs ds z Q s h1 h3 q
  unfold anyF at h3
  split at h3
  · next xs =>
    cases e : allOf asBool xs with
    | none => rw [e] at h3; cases h3
    | some ns =>
      rw [e] at h3; cases h3
      obtain ⟨v, rfl, h⟩ := h1.one
      obtain ⟨a, vs, rfl, e1, l1⟩ := h.lst s
      have e2 := allOf_eq (c := PyData.bool) (fun _ _ => asBool_eq) e
      subst e2
      exact ⟨a, ns, rfl, by rw [← DenL.of_bools l1]; exact SqL.of e1, q _ F H (Ext.refl s) rfl⟩
  · cases h3
/-! ### isinstance -/
def tyName : D → String
  | .none => "NoneType"
  | .bool _ => "bool"
  | .int _ => "int"
  | .str _ => "str"
  | .list _ => "list"
  | .tuple _ => "tuple"
  | .dict _ => "dict"
theorem now_ty {K : PySem.W.Frag} {F H : Hp} {v : V} {d : D} (s : Same F H) (h : NowD F H v d) : TyX K H v (.type (tyName d)) := by
  cases d with
  | none => rw [h.none]; exact .base .non
  | bool b => rw [h.bool]; exact .base (.bl _)
  | int b => rw [h.int]; exact .base (.int _)
  | str b => rw [h.str]; exact .base (.str _)
  | list ds => obtain ⟨a, vs, rfl, e, _⟩ := h.lst s; exact .base (.lst e)
  | tuple ds => obtain ⟨a, vs, rfl, _, e, _⟩ := h.tup s; exact .base (.tup e)
  | dict ds => obtain ⟨a, vs, rfl, e, _⟩ := h.dic s; exact .base (.dK e)
/-- what isinstance says of the seven kinds -/
structure IsiTab (T : String) (p : String → Bool) : Prop where
  n1 : kitB "NoneType" T = some (p "NoneType")
  n2 : kitB "bool" T = some (p "bool")
  n3 : kitB "int" T = some (p "int")
  n4 : kitB "str" T = some (p "str")
  n5 : kitB "list" T = some (p "list")
  n6 : kitB "tuple" T = some (p "tuple")
  n7 : kitB "dict" T = some (p "dict")
theorem IsiTab.at {T : String} {p : String → Bool} (h : IsiTab T p) (d : D) : kitB (tyName d) T = some (p (tyName d)) := by
  cases d
  · exact h.n1
  · exact h.n2
  · exact h.n3
  · exact h.n4
  · exact h.n5
  · exact h.n6
  · exact h.n7
def mIsi (p : String → Bool) (a : M TV) : M D := bnd a fun x => fun ρ => match deref ρ x with
  | some d => .ok (.bool (p (tyName d))) ρ
  | none => .no
section
variable {B : Bd} {EX : Str → Hp → Prop}
theorem ev_isi {K : PySem.W.Frag} {T : String} {p : String → Bool} {te : TE} {f : M TV} (tab : IsiTab T p) (h : Ev B EX VT te f) : Ev B EX VD (tCB (rIsi K) (tCons te (tCons (tC (.ty T)) tNil))) (mIsi p f) := by
  refine Ev.bind (tb := fun x σ H Q => rIsi K [x, .ty T] H Q) h fun a x F H σ ρ Q m p q => ?_
  cases e : deref ρ a with
  | none => simp only [e] at q; exact q.elim
  | some d =>
    simp only [e] at q
    exact ⟨x, .ty T, _, .type T, _, rfl, .ty T, now_ty m.sub (p.now m e), kit_ty (tab.at d), q _ F H m.refl rfl⟩
end
def pInt (n : String) : Bool := n == "int" || n == "bool"
def pIs (T n : String) : Bool := n == T
theorem tab_int : IsiTab "int" pInt := ⟨by decide +kernel, by decide +kernel, by decide +kernel, by decide +kernel, by decide +kernel, by decide +kernel, by decide +kernel⟩
theorem tab_bool : IsiTab "bool" (pIs "bool") := ⟨by decide +kernel, by decide +kernel, by decide +kernel, by decide +kernel, by decide +kernel, by decide +kernel, by decide +kernel⟩
theorem tab_str : IsiTab "str" (pIs "str") := ⟨by decide +kernel, by decide +kernel, by decide +kernel, by decide +kernel, by decide +kernel, by decide +kernel, by decide +kernel⟩
theorem tab_tuple : IsiTab "tuple" (pIs "tuple") := ⟨by decide +kernel, by decide +kernel, by decide +kernel, by decide +kernel, by decide +kernel, by decide +kernel, by decide +kernel⟩
end Rn
end

section
set_option Elab.async false
set_option linter.all false
set_option maxRecDepth 100000
/-! Core3d: dicts with whole numbers and texts as keys. -/
namespace Rn
open PySem PySem.Spec L2

def keyOf : D → Option Key
  | .int i => some (.inl i)
  | .str x => some (.inr x)
  | _ => none
theorem keyOf_eq {d : D} {k : Key} (h : keyOf d = some k) : d = keyD k := by
  cases d <;> simp [keyOf] at h <;> subst h <;> rfl
theorem keyD_inj {k k' : Key} (h : keyD k = keyD k') : k = k' := by
  cases k <;> cases k' <;> simp [keyD] at h <;> rw [h]
theorem den_key (F : Hp) (k : Key) : Den F (keyD k) (kV k) := by cases k <;> rfl
theorem key_den {F : Hp} {k : Key} {v : V} (h : Den F (keyD k) v) : v = kV k := by cases k <;> exact h
def keyEq : D → D → Bool
  | .int i, .int j => decide (i = j)
  | .str x, .str y => decide (x = y)
  | _, _ => false
theorem keyEq_key (k k' : Key) : keyEq (keyD k) (keyD k') = decide (k = k') := by
  cases k <;> cases k' <;> simp [keyD, keyEq]
def valD (kds : List (D × D)) (k : D) : Option D := (kds.find? fun kd => keyEq kd.1 k).map (·.2)
def putD (kds : List (D × D)) (k d : D) : List (D × D) :=
  if (kds.any fun kd => keyEq kd.1 k) = true then kds.map (fun kd => if keyEq kd.1 k = true then (kd.1, d) else kd) else kds ++ [(k, d)]
theorem DenK.val {F : Hp} {k : Key} : ∀ {kds : List (D × D)} {kvs : List (Key × V)}, DenK F kds kvs → (∀ d, valD kds (keyD k) = some d → ∃ v, valV kvs k = some v ∧ Den F d v) ∧ (valD kds (keyD k) = none → valV kvs k = none)
  | [], _, h => by
    cases h
    refine ⟨fun d e => ?_, fun _ => rfl⟩
    simp [valD] at e
  | (c, d) :: r, _, ⟨q, v, t, e, hq, hd, l⟩ => by
    subst e
    subst hq
    have ih := DenK.val (k := k) l
    unfold valD at ih ⊢
    rw [List.find?_cons, keyEq_key]
    by_cases e : q = k
    · rw [decide_eq_true e]
      refine ⟨fun d' e' => ?_, fun e' => by cases e'⟩
      cases e'
      exact ⟨v, valV_pos e, hd⟩
    · rw [decide_eq_false e, valV_neg e]
      exact ih
theorem DenK.some? {F : Hp} {k : Key} {kds : List (D × D)} {kvs : List (Key × V)} (h : DenK F kds kvs) : (valV kvs k).isSome = (valD kds (keyD k)).isSome := by
  cases e : valD kds (keyD k) with
  | none => rw [(h.val).2 e]; rfl
  | some d => obtain ⟨v, h1, _⟩ := (h.val).1 d e; rw [h1]; rfl
theorem DenK.len {F : Hp} : ∀ {kds : List (D × D)} {kvs : List (Key × V)}, DenK F kds kvs → kds.length = kvs.length
  | [], _, h => by cases h; rfl
  | (_, _) :: _, _, ⟨q, v, t, e, _, _, l⟩ => by subst e; simp [DenK.len l]
theorem DenK.app {F : Hp} {k : Key} {d : D} {v : V} (hd : Den F d v) : ∀ {kds : List (D × D)} {kvs : List (Key × V)}, DenK F kds kvs → DenK F (kds ++ [(keyD k, d)]) (kvs ++ [(k, v)])
  | [], _, h => by cases h; exact ⟨k, v, [], rfl, rfl, hd, rfl⟩
  | (_, _) :: _, _, ⟨q, u, t, e, hq, h, l⟩ => by subst e; exact ⟨q, u, _, rfl, hq, h, DenK.app hd l⟩
theorem DenK.upd {F : Hp} {k : Key} {d : D} {v : V} (hd : Den F d v) : ∀ {kds : List (D × D)} {kvs : List (Key × V)}, DenK F kds kvs → DenK F (kds.map fun kd => if keyEq kd.1 (keyD k) = true then (kd.1, d) else kd) (kvs.map fun kv => if kv.1 = k then (kv.1, v) else kv)
  | [], _, h => by cases h; rfl
  | (c, d') :: _, _, ⟨q, u, t, e, hq, h, l⟩ => by
    subst e
    subst hq
    have ih := DenK.upd (k := k) hd l
    rw [List.map_cons, List.map_cons]
    by_cases e : q = k
    · rw [if_pos (by rw [keyEq_key]; exact decide_eq_true e), if_pos e]
      exact ⟨q, v, _, rfl, rfl, hd, ih⟩
    · rw [if_neg (by rw [keyEq_key, decide_eq_false e]; decide), if_neg e]
      exact ⟨q, u, _, rfl, rfl, h, ih⟩
theorem DenK.put {F : Hp} {k : Key} {d : D} {v : V} {kds : List (D × D)} {kvs : List (Key × V)} (h : DenK F kds kvs) (hd : Den F d v) : DenK F (putD kds (keyD k) d) (putK kvs k v) := by
  have a : (kds.any fun kd => keyEq kd.1 (keyD k)) = kvs.any fun kv => decide (kv.1 = k) := by
    rw [valV_any, h.some?]
    unfold valD
    rw [Option.isSome_map, Bool.eq_iff_iff, List.find?_isSome, List.any_eq_true]
  unfold putD putK
  rw [a]
  split
  · exact h.upd hd
  · exact h.app hd

/-! ### in -/
def rDIn (neg : Bool) : R2 := fun y x H Q => ∃ a o, x = .ref a ∧ DGet H a y o ∧ Q (.bl (if neg then !o.isSome else o.isSome)) H
theorem op_din {X : Cx} (hu : X.A.units + 64 < cLine) : OpR X (compareOp .In) (rDIn false) := by
  intro pins s σ H y x v u Q I ry rx h
  obtain ⟨a, o, rfl, g, q⟩ := h
  obtain rfl : u = Value.ref a := rx
  exact d_in (by omega) I g ry fun s' I' => ⟨.bl o.isSome, H, I', rfl, q⟩
theorem op_dnotin {X : Cx} (hu : X.A.units + 64 < cLine) : OpR X (compareOp .NotIn) (rDIn true) := by
  intro pins s σ H y x v u Q I ry rx h
  obtain ⟨a, o, rfl, g, q⟩ := h
  obtain rfl : u = Value.ref a := rx
  exact d_notIn (by omega) I g ry fun s' I' => ⟨.bl (!o.isSome), H, I', rfl, q⟩
def rInA (K : PySem.W.Frag) (neg : Bool) : R2 := fun x y H Q => rInP K neg x y H Q ∨ rDIn neg x y H Q
theorem op_inA {X : Cx} (hu : X.A.units + 64 < cLine) : OpR X (compareOp .In) (rInA X.K false) := (op_inP hu).or (op_din hu)
theorem op_notInA {X : Cx} (hu : X.A.units + 64 < cLine) : OpR X (compareOp .NotIn) (rInA X.K true) := (op_notInP hu).or (op_dnotin hu)
def inAF (neg : Bool) (d e : D) : Option D := match e with
  | .dict kds => (match keyOf d with
    | some _ => some (.bool (if neg then !(valD kds d).isSome else (valD kds d).isSome))
    | none => none)
  | e => inF neg d e
theorem ok_inA {K : PySem.W.Frag} {neg : Bool} : OpOk (rInA K neg) (inAF neg) := by
  intro F H v w d e z Q s h1 h2 h3 q
  unfold inAF at h3
  split at h3
  · next kds =>
    cases e1 : keyOf d with
    | none => simp only [e1] at h3; cases h3
    | some k =>
      simp only [e1] at h3
      cases h3
      have e2 := keyOf_eq e1
      subst e2
      obtain ⟨a, kvs, rfl, ha, l⟩ := h2.dic s
      have hv : v = kV k := by
        rcases h1 with h1 | ⟨b, o, _, _, h1⟩
        · exact key_den h1
        · cases k <;> cases o <;> exact h1.elim
      subst hv
      refine .inr ⟨a, _, rfl, DGet.k ha, ?_⟩
      rw [l.some?]
      exact q _ F H (Ext.refl s) rfl
  · exact .inl (ok_in s h1 h2 h3 q)
end Rn
end

section
set_option Elab.async false
set_option linter.all false
set_option maxRecDepth 100000
set_option maxHeartbeats 1000000
/-! Core4: what is walked: a list or tuple, enumerate of either; the readings. -/
namespace Rn
open PySem PySem.Spec PyProof.Rows L2
open AutoSeq1 (wpAny_loadPart')

theorem meets_enumT {v : Value} {o : Obj} {H : Heap → Prop} (B : Begins v o H) :
    Meets (Builtin.«enumerate.__new__» ⟨[.type "enumerate", v], []⟩) (fun _ R s => H s.heap ∧
      R (.ok (.ret (.ref (s.heap.push o).objs.size))) { s with heap := (s.heap.push o).push { cls := .type "enumerate", data := .fields #[.none, .bool false, .ref s.heap.objs.size, rawInt 0, .none, .none] } }) :=
  .of_wp fun prog w A R s h => by
    obtain ⟨hp, g, d, tk, os⟩ := s; obtain ⟨h1, h⟩ := h
    have hsub := sub_enumerate
    have q1 : ∀ {A' : Around} {E : Value → Shared → Prop} {Q : Value → Shared → Prop}, Q (.ref hp.objs.size) ⟨hp.push o, g, d, tk, os⟩ → wpAny (model prog w) A' (pyIter v) Q E ⟨hp, g, d, tk, os⟩ :=
      fun q => B.iter prog w _ _ ⟨hp, g, d, tk, os⟩ _ h1 q
    wp_walk using q1
    refine wpAny_stack_any fun st => wpAny_pure ?_
    split
    · rename_i c _ _ _ _ _
      cases (c == Value.type "enumerate")
      · wp_walk using q1
        exact ⟨_, rfl, h⟩
      · wp_walk using q1
        exact ⟨_, rfl, h⟩
    · wp_walk using q1
      exact ⟨_, rfl, h⟩
theorem call_enumT {prog : Program} {w : World} {A : Around} {E : Value → Shared → Prop} {s : Shared} {v : Value} {o : Obj} {H : Heap → Prop} {Q : Value → Shared → Prop} (B : Begins v o H) (h1 : H s.heap)
    (h : ∀ h', IsEnum h' (s.heap.objs.size + 1) s.heap.objs.size 0 .none → h'.get? s.heap.objs.size = some o → h'.objs.size = s.heap.objs.size + 2 →
      (∀ b o, s.heap.get? b = some o → h'.get? b = some o) → Q (.ref (s.heap.objs.size + 1)) { s with heap := h' }) :
    wpAny (model prog w) A (call (.type "enumerate") [v]) Q E s := by
  refine callType_new F.called_enumerate (by decide) (F.typeCall_enumerate_1 _) (F.newCall_enumerate_1 _) (fun obj => F.args_object_init_2 obj _) F.entry_enumerate_new
    (meets_enumT B) ⟨h1, ?_⟩
  have hz : (s.heap.push o).objs.size = s.heap.objs.size + 1 := Heap.size_push ..
  show _ ∧ _
  rw [hz]
  have he : IsEnum ((s.heap.push o).push { cls := .type "enumerate", data := .fields #[.none, .bool false, .ref s.heap.objs.size, rawInt 0, .none, .none] }) (s.heap.objs.size + 1) s.heap.objs.size 0 .none := by
    have := Heap.get?_push_size (s.heap.push o) (o := { cls := .type "enumerate", data := .fields #[.none, .bool false, .ref s.heap.objs.size, rawInt 0, .none, .none] }) rfl
    rw [hz] at this; exact this
  refine ⟨⟨_, he, rfl⟩, h _ he (Heap.get?_push_of_some _ (Heap.get?_push_size _ B.free)) (by rw [Heap.size_push, hz]) fun b o x => Heap.get?_push_of_some _ (Heap.get?_push_of_some _ x)⟩

theorem enum_end_tuple {prog : Program} {w : World} {A : Around} {E : Value → Shared → Prop} {s : Shared} {e it t : Addr} {items : Array Value} {i : Nat} {j : Int} {old : Value} {Q : Option Value → Shared → Prop} (hh : A.handled = none)
    (he : IsEnum s.heap e it j old) (hit : s.heap.IsTupleIter it t i) (ht : s.heap.IsTuple t items) (hx : items[i]? = none)
    (hQ : ∀ h', Heap.ExtBut it s.heap h' → Q none { s with heap := h' }) : wpAny (model prog w) A (pyNext (.ref e)) Q E s := by
  have hT : s.TypeIs (.ref e) "enumerate" := ⟨_, he, rfl⟩
  unfold pyNext
  refine wpAny_bind (wpAny_attempt (wpAny_callSpecial?_slot (name := Str.ofString "__next__") hT F.slot_enumerate_next
    (wpAny_call_entry F.slot_enumerate_next hT F.entry_enumerate_next ?_ (F.args_enumerate_next_1 _))))
  show wpAny _ _ (field (.ref e) 2 >>= _) _ _ _
  refine wpAny_bind (wpAny_field he rfl (x := .ref it) rfl ?_)
  refine wpAny_bind (wpAny_nextOf_tuple_end (A := A.in1) hh hit ht hx fun h' x he' hx' => ?_)
  obtain ⟨o, ho, hc⟩ := hx'
  refine wpAny_bind (wpAny_isInstance (T := "StopIteration") (b := true) ⟨o, ho, hc⟩ isSubtype_stop ?_)
  exact wpAny_pure (hQ _ he')
/-- the tuple at a, each item in a new pair -/
def Itet (K : PySem.W.Frag) (a : Addr) : It :=
  ⟨fun i H => ∃ (xs : List V) (x : V), SqT K H a xs ∧ xs[i]? = some x, fun i H v H' => ∃ T x, v = .ref T ∧ H T = none ∧ H' = upd H T (.tup [.int (i : Nat), x]) ∧ ∀ xs, SqT K H a xs → xs[i]? = some x, fun i H => ∃ xs : List V, SqT K H a xs ∧ xs.length ≤ i⟩
theorem turn_enumT {P : Program} {w : World} {K : PySem.W.Frag} {elts : List Expr} {kk : Nat} {tpos : Pos} (a e it : Addr) (hai : a ≠ it) :
    Turn P w K (.Tuple elts kk tpos) (Itet K a) [e, it] e (fun i h => (∃ old, IsEnum h e it ((i : Nat) : Int) old) ∧ h.IsTupleIter it a i ∧ e ≠ it) where
  mem := by simp
  obj := fun i h st b hb => by
    obtain ⟨⟨old, he⟩, ⟨o, ho, hc, hd⟩, _⟩ := st
    have e' : b = e ∨ b = it := by simpa using hb
    rcases e' with z | z
    · rw [z]; exact ⟨_, he, fun v q => nomatch q⟩
    · rw [z]; exact ⟨o, ho, fun v q => by rw [hd] at q; cases q⟩
  keep := fun i h h' st k => let ⟨⟨old, he⟩, hi, hne⟩ := st; ⟨⟨old, k e (by simp) _ he⟩, hi.at fun o q => k it (by simp) o q, hne⟩
  item := by
    intro X hP hw hK hc i pins s σ H E I hf st hg
    subst hP hw hK
    obtain ⟨⟨old, he⟩, hit, hne⟩ := st
    obtain ⟨xs, x, hq, hx⟩ := hg
    obtain ⟨its, rv, p, hz⟩ := I.tuple hq
    obtain ⟨u, hu, ru⟩ := rv.get hx
    have hel : e < s.heap.objs.size := Heap.lt_size he
    have hil : it < s.heap.objs.size := by obtain ⟨_, q, _⟩ := hit; exact Heap.lt_size q
    have hlt : i < its.toArray.size := by
      have := (List.getElem?_eq_some_iff.mp hu).1
      simpa using this
    have hea : e ≠ a := fun q => by
      obtain ⟨o, ho, hcl, _⟩ := p
      rw [← q] at ho
      rw [he] at ho
      cases ho
      injection hcl with q
      exact absurd q (by decide)
    refine wpAny_pyNext_enum_itemD (Draws.tuple (A := X.A.in1) (I.ok.hd hc) it a hai its.toArray) he ⟨hit, p⟩ hlt hne (fun hm => by
      have e' : e = it ∨ e = a := by simpa using hm
      rcases e' with z | z
      · exact hne z
      · exact hea z) fun y h' tk hy ho hit' hT hsz hk => ?_
    have hyu : y = u := by
      have q : its.toArray[i]? = some y := hy
      rw [List.getElem?_toArray, hu] at q
      exact (Option.some.inj q).symm
    subst hyu
    refine ⟨_, rfl, wpAny_letOwnedTupleGo_enum (s := { s with heap := h', toks := tk + 1 }) ho fun h'' he' sb => ?_⟩
    have hT2 : h''.get? s.heap.objs.size = some { cls := .type "tuple", data := .seq #[.int i tk, y] } := (sb.2 _ (Nat.ne_of_gt hel)).trans hT
    have new : ObjOk X.prog X.w (upd H s.heap.objs.size (.tup [.int (i : Nat), x])) h'' s.heap.objs.size (.tup [.int (i : Nat), x]) :=
      ⟨by show 2 ≤ sizeLine; decide, [.int i tk, y], .cons ⟨_, rfl⟩ (.cons ru .nil), ⟨_, hT2, rfl, _, rfl⟩⟩
    have I1 : Inv X pins σ (upd H s.heap.objs.size (.tup [.int (i : Nat), x])) { s with heap := h'', toks := tk + 1 } :=
      I.turnedNew (ch := [e, it]) (fun b ob hb q => (sb.2 b (fun z => hb (by simp [z]))).trans (hk b ob (fun z => hb (by simp [z])) (fun z => hb (by simp [z])) q)) hf (Nat.le_refl _) new
    refine ⟨.ref s.heap.objs.size, _, I1, rfl, ⟨_, x, rfl, I.hok.fresh (Nat.le_refl _), rfl, fun ys hy => by rw [I.tuple_inj hy hq]; exact hx⟩, ⟨⟨y, ?_⟩, hit'.1.at fun o q => (sb.2 it (Ne.symm hne)).trans q, hne⟩, fun b hb => ?_⟩
    · have e1 : ((i + 1 : Nat) : Int) = (i : Int) + 1 := by omega
      rw [e1]; exact he'
    · have hb' : b < s.heap.objs.size := by
        have e' : b = e ∨ b = it := by simpa using hb
        rcases e' with z | z
        · rw [z]; exact hel
        · rw [z]; exact hil
      rw [upd_ne (Nat.ne_of_lt hb')]
      exact (hf b hb).1
  done := by
    intro X hP hw hK hc i pins s σ H E I hf st hg
    subst hP hw hK
    obtain ⟨⟨old, he⟩, hit, hne⟩ := st
    obtain ⟨xs, hq, hx⟩ := hg
    obtain ⟨its, rv, p, hz⟩ := I.tuple hq
    obtain ⟨f0, f1, f2, f3, f4, f5⟩ := hf it (by simp)
    have hl := rv.length
    exact enum_end_tuple (I.ok.hd hc) he hit (show s.heap.IsTuple a its.toArray from p) (by simp; omega) fun h' eb => ⟨rfl, I.turned (t' := s.toks) (fun b o hb q => eb b o hb q) f0 f1 f3 f4 f5⟩
  self := fun A i s Q E st h => let ⟨⟨_, he⟩, _⟩ := st; wpAny_pyIter_enum he h

section
variable {X : Cx} {tg : Expr}
/-- a list or a tuple -/
def iSeq (K : PySem.W.Frag) (tl : TE) : TI := fun σ H R => tl σ H fun x H1 => ∃ a, x = .ref a ∧ (((∃ xs, SqL K H1 a xs) ∧ R (Itl K a) H1) ∨ ((∃ xs, SqT K H1 a xs) ∧ R (Itt K a) H1))
theorem pi_seq {l : Expr} {tl : TE} (hl : PE X l tl) : PI X tg l (iSeq X.K tl) := by
  refine ⟨fun pins s σ H R I h => ?_⟩
  refine thn (hl.run pins s σ H _ I h) fun v s1 ⟨x, H1, I1, r1, q1⟩ => ?_
  obtain ⟨a, e, q⟩ := q1
  subst e
  cases r1
  rcases q with ⟨⟨xs, hq⟩, q⟩ | ⟨⟨xs, hq⟩, q⟩
  · obtain ⟨its, rv, p, hz⟩ := I1.list hq
    refine wpAny_pyIter_list p.isList ?_
    refine ⟨s1.heap.objs.size, [s1.heap.objs.size], _, _, H1, rfl, I1.kept (t' := s1.toks) fun b o e => Heap.get?_push_of_some _ e, turn_list a _, ⟨_, Heap.get?_push_size _ rfl, rfl, rfl⟩, fun b hb => ?_, q⟩
    have e : b = s1.heap.objs.size := by simpa using hb
    subst e
    exact I1.fpOk (Nat.le_refl _) (I1.hok.fresh (Nat.le_refl _))
  · obtain ⟨its, rv, p, hz⟩ := I1.tuple hq
    refine wpAny_pyIter_tuple (show s1.heap.IsTuple a its.toArray from p) ?_
    refine ⟨s1.heap.objs.size, [s1.heap.objs.size], _, _, H1, rfl, I1.kept (t' := s1.toks) fun b o e => Heap.get?_push_of_some _ e, turn_tuple a _, ⟨_, Heap.get?_push_size _ rfl, rfl, rfl⟩, fun b hb => ?_, q⟩
    have e : b = s1.heap.objs.size := by simpa using hb
    subst e
    exact I1.fpOk (Nat.le_refl _) (I1.hok.fresh (Nat.le_refl _))
/-- enumerate of a list or a tuple -/
def iEnumS (K : PySem.W.Frag) (ta : TA) : TI := fun σ H R => ta σ H fun vs H1 => ∃ a xs, vs = [.ref a] ∧ ((SqL K H1 a xs ∧ R (Ite K a) H1) ∨ (SqT K H1 a xs ∧ R (Itet K a) H1))
theorem pi_enumS {e : Expr} {ta : TA} {p pos tpos : Pos} {elts : List Expr} {kk : Nat} (hg : Gl X "enumerate") (hm : X.mg "enumerate" = none) (ha : PA X [e] ta) (hs : starEach [e] X.env = [(false, eval e X.env)] := by rfl) :
    PI X (.Tuple elts kk tpos) (.Call (.Name "enumerate" p) [e] [] pos) (iEnumS X.K ta) := by
  refine ⟨fun pins s σ H R I h => ?_⟩
  refine Call_ (ld_blt I hg hm boot_enumerate (PyProof.Rows.callWith_type1 (thn (ha.run pos pins s σ H _ I h) fun us s1 ⟨vs, H1, I1, r1, q1⟩ => ?_) hs rfl))
  obtain ⟨a, xs, ex, hq⟩ := q1
  subst ex
  cases r1 with
  | cons r rr =>
    cases rr
    cases r
    rcases hq with ⟨hq, q⟩ | ⟨hq, q⟩
    · obtain ⟨its, rv, p', hz⟩ := I1.list hq
      refine call_enumerate_list p'.isList fun h' he hit hsz hk => wpAny_pyIter_enum he ?_
      have I2 : Inv X pins σ H1 { s1 with heap := h' } := I1.kept (t' := s1.toks) hk
      refine ⟨s1.heap.objs.size + 1, [s1.heap.objs.size + 1, s1.heap.objs.size], _, _, H1, rfl, I2, turn_enum a (s1.heap.objs.size + 1) s1.heap.objs.size, ⟨⟨.none, he⟩, hit, Nat.succ_ne_self _⟩, fun b hb => ?_, q⟩
      have e' : b = s1.heap.objs.size + 1 ∨ b = s1.heap.objs.size := by simpa using hb
      have hle : s1.heap.objs.size ≤ b := by
        rcases e' with z | z
        · rw [z]; exact Nat.le_add_right _ _
        · rw [z]; exact Nat.le_refl _
      exact I1.fpOk hle (I1.hok.fresh hle)
    · obtain ⟨its, rv, p', hz⟩ := I1.tuple hq
      have p2 : s1.heap.IsTuple a its.toArray := p'
      refine call_enumT (begins_tuple a its.toArray) p2 fun h' he hit hsz hk => wpAny_pyIter_enum he ?_
      have I2 : Inv X pins σ H1 { s1 with heap := h' } := I1.kept (t' := s1.toks) hk
      have hal : a < s1.heap.objs.size := by obtain ⟨o, ho, _⟩ := p'; exact Heap.lt_size ho
      refine ⟨s1.heap.objs.size + 1, [s1.heap.objs.size + 1, s1.heap.objs.size], _, _, H1, rfl, I2, turn_enumT a (s1.heap.objs.size + 1) s1.heap.objs.size (Nat.ne_of_lt hal), ⟨⟨.none, he⟩, ⟨_, hit, rfl, rfl⟩, Nat.succ_ne_self _⟩, fun b hb => ?_, q⟩
      have e' : b = s1.heap.objs.size + 1 ∨ b = s1.heap.objs.size := by simpa using hb
      have hle : s1.heap.objs.size ≤ b := by
        rcases e' with z | z
        · rw [z]; exact Nat.le_add_right _ _
        · rw [z]; exact Nat.le_refl _
      exact I1.fpOk hle (I1.hok.fresh hle)
end
end Rn
end

section
set_option Elab.async false
set_option linter.all false
set_option maxRecDepth 100000
/-! Core5: iterables, targets, comprehensions. -/
namespace Rn
open PySem PySem.Spec L2

/-! ### iterables -/
def ItOk (F : Hp) (J : It) (items : List D) : Prop := ∀ (F1 H1 : Hp), Same F F1 → Same F1 H1 →
  (∀ i, items.length ≤ i → J.stop i H1) ∧ (∀ i, i < items.length → J.go i H1) ∧
  ∀ i x H2, i < items.length → J.yld i H1 x H2 → ∃ d F2, items[i]? = some d ∧ Ext F1 H1 F2 H2 ∧ Den F2 d x
abbrev VI : L2.St → Hp → Hp → Rho → List D → It → Prop := fun _ F _ _ ds J => ItOk F J ds
theorem ItOk.mono {F F' : Hp} {J : It} {items : List D} (h : ItOk F J items) (s : Same F F') : ItOk F' J items := fun F1 H1 a b => h F1 H1 (s.trans a) b
theorem itok_list {K : PySem.W.Frag} {F : Hp} {a : Addr} {vs : List V} {ds : List D} (h : F a = some (.lst vs)) (l : DenL F ds vs) : ItOk F (Itl K a) ds := by
  intro F1 H1 s1 s2
  have e : H1 a = some (.lst vs) := s2 _ _ (s1 _ _ h)
  refine ⟨fun i hi => ⟨vs, SqL.of e, by rw [← l.len]; exact hi⟩, fun i hi => ?_, fun i x H2 hi q => ?_⟩
  · rw [l.len] at hi
    exact ⟨vs, vs[i], SqL.of e, List.getElem?_eq_getElem hi⟩
  · obtain ⟨rfl, q⟩ := q
    obtain ⟨d, e1, e2⟩ := (l.mono s1).got (q vs (SqL.of e))
    exact ⟨d, F1, e1, Ext.refl s2, e2⟩
theorem itok_tup {K : PySem.W.Frag} {F : Hp} {a : Addr} {vs : List V} {ds : List D} (h : F a = some (.tup vs)) (l : DenL F ds vs) : ItOk F (Itt K a) ds := by
  intro F1 H1 s1 s2
  have e : H1 a = some (.tup vs) := s2 _ _ (s1 _ _ h)
  refine ⟨fun i hi => ⟨vs, SqT.of e, by rw [← l.len]; exact hi⟩, fun i hi => ?_, fun i x H2 hi q => ?_⟩
  · rw [l.len] at hi
    exact ⟨vs, vs[i], SqT.of e, List.getElem?_eq_getElem hi⟩
  · obtain ⟨rfl, q⟩ := q
    obtain ⟨d, e1, e2⟩ := (l.mono s1).got (q vs (SqT.of e))
    exact ⟨d, F1, e1, Ext.refl s2, e2⟩
def rangeD (lo : Int) (n : Nat) : List D := (List.range n).map fun (k : Nat) => PyData.int (lo + (k : Int))
theorem itok_range {F : Hp} {lo : Int} {n : Nat} : ItOk F (Itr lo n) (rangeD lo n) := by
  intro F1 H1 s1 s2
  have hl : (rangeD lo n).length = n := by simp [rangeD]
  refine ⟨fun i hi => by rw [hl] at hi; exact hi, fun i hi => by rw [hl] at hi; exact hi, fun i x H2 hi q => ?_⟩
  obtain ⟨rfl, rfl⟩ := q
  rw [hl] at hi
  exact ⟨.int (lo + i), F1, by simp [rangeD, hi], Ext.refl s2, rfl⟩
def enumD : Nat → List D → List D
  | _, [] => []
  | n, d :: ds => .tuple [.int (n : Nat), d] :: enumD (n + 1) ds
theorem enumD_len : ∀ (n : Nat) (ds : List D), (enumD n ds).length = ds.length
  | _, [] => rfl
  | n, _ :: ds => by simp [enumD, enumD_len (n + 1) ds]
theorem enumD_get : ∀ (n : Nat) (ds : List D) (i : Nat), (enumD n ds)[i]? = ds[i]?.map fun d => .tuple [.int ((n + i : Nat) : Int), d]
  | _, [], _ => by simp [enumD]
  | n, d :: ds, 0 => by simp [enumD]
  | n, d :: ds, i + 1 => by
    simp only [enumD, List.getElem?_cons_succ]
    rw [enumD_get (n + 1) ds i]
    rw [show n + 1 + i = n + (i + 1) by omega]
theorem pair_ext {F1 H1 : Hp} (s2 : Same F1 H1) {T : Addr} {i : Nat} {x : V} {d : D} (hT : H1 T = none) (hd : Den F1 d x) :
    Ext F1 H1 (upd F1 T (.tup [.int (i : Nat), x])) (upd H1 T (.tup [.int (i : Nat), x])) ∧ Den (upd F1 T (.tup [.int (i : Nat), x])) (.tuple [.int (i : Nat), d]) (.ref T) := by
  have e := Ext.laid s2 hT (.tup [.int (i : Nat), x])
  exact ⟨e, T, _, rfl, upd_same, .int i, [x], rfl, rfl, x, [], rfl, hd.mono e.old, rfl⟩
theorem itok_enumL {K : PySem.W.Frag} {F : Hp} {a : Addr} {vs : List V} {ds : List D} (h : F a = some (.lst vs)) (l : DenL F ds vs) : ItOk F (Ite K a) (enumD 0 ds) := by
  intro F1 H1 s1 s2
  have e : H1 a = some (.lst vs) := s2 _ _ (s1 _ _ h)
  refine ⟨fun i hi => ⟨vs, SqL.of e, by rw [← l.len, ← enumD_len 0 ds]; exact hi⟩, fun i hi => ?_, fun i x H2 hi q => ?_⟩
  · rw [enumD_len, l.len] at hi
    exact ⟨vs, vs[i], SqL.of e, List.getElem?_eq_getElem hi⟩
  · obtain ⟨T, y, rfl, hT, rfl, q⟩ := q
    obtain ⟨d, e1, e2⟩ := (l.mono s1).got (q vs (SqL.of e))
    obtain ⟨p1, p2⟩ := pair_ext (i := i) s2 hT e2
    exact ⟨_, _, by rw [enumD_get, e1]; simp, p1, p2⟩
theorem itok_enumT {K : PySem.W.Frag} {F : Hp} {a : Addr} {vs : List V} {ds : List D} (h : F a = some (.tup vs)) (l : DenL F ds vs) : ItOk F (Itet K a) (enumD 0 ds) := by
  intro F1 H1 s1 s2
  have e : H1 a = some (.tup vs) := s2 _ _ (s1 _ _ h)
  refine ⟨fun i hi => ⟨vs, SqT.of e, by rw [← l.len, ← enumD_len 0 ds]; exact hi⟩, fun i hi => ?_, fun i x H2 hi q => ?_⟩
  · rw [enumD_len, l.len] at hi
    exact ⟨vs, vs[i], SqT.of e, List.getElem?_eq_getElem hi⟩
  · obtain ⟨T, y, rfl, hT, rfl, q⟩ := q
    obtain ⟨d, e1, e2⟩ := (l.mono s1).got (q vs (SqT.of e))
    obtain ⟨p1, p2⟩ := pair_ext (i := i) s2 hT e2
    exact ⟨_, _, by rw [enumD_get, e1]; simp, p1, p2⟩
section
variable {B : Bd} {EX : Str → Hp → Prop}
def mSeqI (f : M D) : M (List D) := bnd f fun d => lft (seqD d)
theorem evi_seq {K : PySem.W.Frag} {t : TE} {f : M D} (h : Ev B EX VD t f) : Ev B EX VI (iSeq K t) (mSeqI f) := by
  refine Ev.bind (tb := fun x σ H R => ∃ a, x = .ref a ∧ (((∃ xs, SqL K H a xs) ∧ R (Itl K a) H) ∨ ((∃ xs, SqT K H a xs) ∧ R (Itt K a) H))) h fun d x F H σ ρ Q m p q => ?_
  cases d with
  | list ds =>
    obtain ⟨a, vs, rfl, e, l⟩ := p
    exact ⟨a, rfl, .inl ⟨⟨vs, SqL.of (m.sub _ _ e)⟩, q _ F H m.refl (itok_list e l)⟩⟩
  | tuple ds =>
    obtain ⟨a, vs, rfl, e, l⟩ := p
    exact ⟨a, rfl, .inr ⟨⟨vs, SqT.of (m.sub _ _ e)⟩, q _ F H m.refl (itok_tup e l)⟩⟩
  | none => exact q.elim
  | bool _ => exact q.elim
  | int _ => exact q.elim
  | str _ => exact q.elim
  | dict _ => exact q.elim
def mEnum (f : M (List D)) : M (List D) := bnd f fun ds => match ds with
  | [d] => lft ((seqD d).map (enumD 0))
  | _ => stuck
theorem evi_enum {K : PySem.W.Frag} {t : TA} {f : M (List D)} (h : Ev B EX VL t f) : Ev B EX VI (iEnumS K t) (mEnum f) := by
  refine Ev.bind (tb := fun vs σ H R => ∃ a xs, vs = [.ref a] ∧ ((SqL K H a xs ∧ R (Ite K a) H) ∨ (SqT K H a xs ∧ R (Itet K a) H))) h fun ds x F H σ ρ Q m p q => ?_
  match ds, p, q with
  | [], _, q => exact q.elim
  | _ :: _ :: _, _, q => exact q.elim
  | [.list ds], p, q =>
    obtain ⟨v, r, rfl, ⟨a, vs, rfl, e, l⟩, rfl⟩ := p
    exact ⟨a, vs, rfl, .inl ⟨SqL.of (m.sub _ _ e), q _ F H m.refl (itok_enumL e l)⟩⟩
  | [.tuple ds], p, q =>
    obtain ⟨v, r, rfl, ⟨a, vs, rfl, e, l⟩, rfl⟩ := p
    exact ⟨a, vs, rfl, .inr ⟨SqT.of (m.sub _ _ e), q _ F H m.refl (itok_enumT e l)⟩⟩
  | [.none], _, q => exact q.elim
  | [.bool _], _, q => exact q.elim
  | [.int _], _, q => exact q.elim
  | [.str _], _, q => exact q.elim
  | [.dict _], _, q => exact q.elim
def mRng1 (f : M (List D)) : M (List D) := bnd f fun ds => match ds with
  | [.int j] => if j ≤ 1000000 ∧ -1000000 ≤ j then ret (rangeD 0 j.toNat) else stuck
  | _ => stuck
def mRng2 (f : M (List D)) : M (List D) := bnd f fun ds => match ds with
  | [.int i, .int j] => if (j ≤ 1000000 ∧ -1000000 ≤ j) ∧ (i ≤ 1000000 ∧ -1000000 ≤ i) then ret (rangeD i (j - i).toNat) else stuck
  | _ => stuck
theorem evi_rng1 {t : TA} {f : M (List D)} (h : Ev B EX VL t f) : Ev B EX VI (iRng1 t) (mRng1 f) := by
  refine Ev.bind (tb := fun vs σ H R => ∃ j : Int, vs = [.int j] ∧ -(2 ^ 62) ≤ j ∧ j < 2 ^ 62 ∧ R (Itr 0 j.toNat) H) h fun ds x F H σ ρ Q m p q => ?_
  split at q
  · next j =>
    obtain ⟨v, r, rfl, rfl, rfl⟩ := p
    split at q
    · next hb => exact ⟨j, rfl, by omega, by omega, q _ F H m.refl itok_range⟩
    · exact q.elim
  · exact q.elim
theorem evi_rng2 {t : TA} {f : M (List D)} (h : Ev B EX VL t f) : Ev B EX VI (iRng2 t) (mRng2 f) := by
  refine Ev.bind (tb := fun vs σ H R => ∃ i j : Int, vs = [.int i, .int j] ∧ (-(2 ^ 62) ≤ i ∧ i < 2 ^ 62 ∧ -(2 ^ 62) ≤ j ∧ j < 2 ^ 62) ∧ R (Itr i (j - i).toNat) H) h fun ds x F H σ ρ Q m p q => ?_
  split at q
  · next i j =>
    obtain ⟨v, r, rfl, rfl, w, r2, rfl, rfl, rfl⟩ := p
    split at q
    · next hb => exact ⟨i, j, rfl, ⟨by omega, by omega, by omega, by omega⟩, q _ F H m.refl itok_range⟩
    · exact q.elim
  · exact q.elim
end

/-! ### targets -/
def UpL {α : Type} (L : List Nat) (l l' : List α) : Prop := l'.length = l.length ∧ ∀ j : Nat, j ∉ L → l'[j]? = l[j]?
theorem UpL.refl {α : Type} {L : List Nat} {l : List α} : UpL L l l := ⟨rfl, fun _ _ => rfl⟩
theorem UpL.trans {α : Type} {L L' : List Nat} {a b c : List α} (x : UpL L a b) (y : UpL L' b c) : UpL (L ++ L') a c :=
  ⟨y.1.trans x.1, fun j h => by
    have h1 : j ∉ L := fun q => h (List.mem_append_left _ q)
    have h2 : j ∉ L' := fun q => h (List.mem_append_right _ q)
    rw [y.2 j h2, x.2 j h1]⟩
theorem UpL.set {α : Type} (l : List α) (i : Nat) (x : α) : UpL [i] l (l.set i x) := ⟨List.length_set .., fun j h => by
  have : i ≠ j := fun q => h (by simp [q])
  rw [List.getElem?_set]; simp [this]⟩
structure EvG (B : Bd) (g : TG) (h : D → Rho → Option Rho) (L : List Nat) : Prop where
  run : ∀ (F H : Hp) (σ : L2.St) (ρ : Rho) (v : V) (d : D) (ρ' : Rho) (Q : L2.St → Hp → Prop), Mt B F H σ ρ → Den F d v → h d ρ = some ρ' → (∀ σ', Mt B F H σ' ρ' → UpL L σ σ' → Q σ' H) → g v σ H Q
  up : ∀ (d : D) (ρ ρ' : Rho), h d ρ = some ρ' → UpL L ρ ρ'
  fz : ∀ (d : D) (ρ ρ' : Rho) (j : Nat) (c : Cell), h d ρ = some ρ' → ρ'[j]? = some c → c.own = true → ρ[j]? = some c ∧ j ∉ L
structure EvGs (B : Bd) (g : TGs) (h : List D → Rho → Option Rho) (L : List Nat) : Prop where
  run : ∀ (F H : Hp) (σ : L2.St) (ρ : Rho) (v : List V) (d : List D) (ρ' : Rho) (Q : L2.St → Hp → Prop), Mt B F H σ ρ → DenL F d v → h d ρ = some ρ' → (∀ σ', Mt B F H σ' ρ' → UpL L σ σ' → Q σ' H) → g v σ H Q
  up : ∀ (d : List D) (ρ ρ' : Rho), h d ρ = some ρ' → UpL L ρ ρ'
  fz : ∀ (d : List D) (ρ ρ' : Rho) (j : Nat) (c : Cell), h d ρ = some ρ' → ρ'[j]? = some c → c.own = true → ρ[j]? = some c ∧ j ∉ L
def hName (i : Nat) : D → Rho → Option Rho := fun d ρ => some (ρ.set i (.fz d))
section
variable {B : Bd}
theorem eg_name {i : Nat} : EvG B (gName i) (hName i) [i] where
  run := fun F H σ ρ v d ρ' Q m p e q => by cases e; exact q _ (m.put p) (UpL.set _ _ _)
  up := fun d ρ ρ' e => by cases e; exact UpL.set _ _ _
  fz := fun d ρ ρ' j c e h1 h2 => by
    cases e
    rcases set_get h1 with ⟨rfl, rfl⟩ | ⟨ne, h1⟩
    · cases h2
    · exact ⟨h1, by simp; exact fun q => ne q.symm⟩
def hNil : List D → Rho → Option Rho := fun d ρ => match d with
  | [] => some ρ
  | _ => none
def hCons (a : D → Rho → Option Rho) (b : List D → Rho → Option Rho) : List D → Rho → Option Rho := fun d ρ => match d with
  | [] => none
  | x :: xs => (a x ρ).bind (b xs)
theorem egs_nil : EvGs B gNil hNil [] where
  run := fun F H σ ρ v d ρ' Q m p e q => by
    cases d with
    | nil => cases e; exact ⟨p, q σ m UpL.refl⟩
    | cons _ _ => cases e
  up := fun d ρ ρ' e => by
    cases d with
    | nil => cases e; exact UpL.refl
    | cons _ _ => cases e
  fz := fun d ρ ρ' j c e h1 h2 => by
    cases d with
    | nil => cases e; exact ⟨h1, by simp⟩
    | cons _ _ => cases e
theorem egs_cons {g : TG} {gs : TGs} {h : D → Rho → Option Rho} {hs : List D → Rho → Option Rho} {L Ls : List Nat} (a : EvG B g h L) (b : EvGs B gs hs Ls) : EvGs B (gCons g gs) (hCons h hs) (L ++ Ls) where
  run := fun F H σ ρ v d ρ' Q m p e q => by
    cases d with
    | nil => cases e
    | cons x xs =>
      obtain ⟨v, r, rfl, p1, p2⟩ := p
      have e' : (h x ρ).bind (hs xs) = some ρ' := e
      cases e1 : h x ρ with
      | none => rw [e1] at e'; cases e'
      | some ρ1 =>
        rw [e1] at e'
        refine ⟨v, r, rfl, a.run F H σ ρ v x ρ1 _ m p1 e1 fun σ1 m1 u1 => ?_⟩
        exact b.run F H σ1 ρ1 r xs ρ' Q m1 p2 e' fun σ2 m2 u2 => q σ2 m2 (u1.trans u2)
  up := fun d ρ ρ' e => by
    cases d with
    | nil => cases e
    | cons x xs =>
      have e' : (h x ρ).bind (hs xs) = some ρ' := e
      cases e1 : h x ρ with
      | none => rw [e1] at e'; cases e'
      | some ρ1 => rw [e1] at e'; exact (a.up x ρ ρ1 e1).trans (b.up xs ρ1 ρ' e')
  fz := fun d ρ ρ' j c e h1 h2 => by
    cases d with
    | nil => cases e
    | cons x xs =>
      have e' : (h x ρ).bind (hs xs) = some ρ' := e
      cases e1 : h x ρ with
      | none => rw [e1] at e'; cases e'
      | some ρ1 =>
        rw [e1] at e'
        obtain ⟨q1, q2⟩ := b.fz xs ρ1 ρ' j c e' h1 h2
        obtain ⟨q3, q4⟩ := a.fz x ρ ρ1 j c e1 q1 h2
        exact ⟨q3, fun z => (List.mem_append.mp z).elim q4 q2⟩
def hTup (n : Nat) (hs : List D → Rho → Option Rho) : D → Rho → Option Rho := fun d ρ => match d with
  | .tuple ds => if ds.length = n then hs ds ρ else none
  | _ => none
theorem eg_tup {K : PySem.W.Frag} {n : Nat} {gs : TGs} {hs : List D → Rho → Option Rho} {L : List Nat} (b : EvGs B gs hs L) : EvG B (gTup K n gs) (hTup n hs) L where
  run := fun F H σ ρ v d ρ' Q m p e q => by
    cases d with
    | tuple ds =>
      obtain ⟨a, vs, rfl, e1, l⟩ := p
      unfold hTup at e
      by_cases hn : ds.length = n
      · simp only [if_pos hn] at e
        exact ⟨a, vs, rfl, SqT.of (m.sub _ _ e1), by rw [← l.len]; exact hn, b.run F H σ ρ vs ds ρ' Q m l e q⟩
      · simp only [if_neg hn] at e; cases e
    | none => cases e
    | bool _ => cases e
    | int _ => cases e
    | str _ => cases e
    | list _ => cases e
    | dict _ => cases e
  up := fun d ρ ρ' e => by
    cases d with
    | tuple ds =>
      unfold hTup at e
      by_cases hn : ds.length = n
      · simp only [if_pos hn] at e; exact b.up ds ρ ρ' e
      · simp only [if_neg hn] at e; cases e
    | none => cases e
    | bool _ => cases e
    | int _ => cases e
    | str _ => cases e
    | list _ => cases e
    | dict _ => cases e
  fz := fun d ρ ρ' j c e h1 h2 => by
    cases d with
    | tuple ds =>
      unfold hTup at e
      by_cases hn : ds.length = n
      · simp only [if_pos hn] at e; exact b.fz ds ρ ρ' j c e h1 h2
      · simp only [if_neg hn] at e; cases e
    | none => cases e
    | bool _ => cases e
    | int _ => cases e
    | str _ => cases e
    | list _ => cases e
    | dict _ => cases e
end

/-! ### wiping slots -/
def wipeR (ρ : Rho) : List Nat → Rho
  | [] => ρ
  | v :: vs => (wipeR ρ vs).set v .no
def restR (ρ ρ1 : Rho) : List Nat → Rho
  | [] => ρ1
  | v :: vs => match ρ[v]? with
    | some c => (restR ρ ρ1 vs).set v c
    | none => restR ρ ρ1 vs
theorem wipeR_len (ρ : Rho) : ∀ vs : List Nat, (wipeR ρ vs).length = ρ.length
  | [] => rfl
  | v :: vs => by rw [wipeR, List.length_set, wipeR_len ρ vs]
theorem wipeR_in {ρ : Rho} {j : Nat} {c : Cell} : ∀ {vs : List Nat}, (wipeR ρ vs)[j]? = some c → c = .no ∨ (j ∉ vs ∧ ρ[j]? = some c)
  | [], h => .inr ⟨by simp, h⟩
  | v :: vs, h => by
    rcases set_get (show ((wipeR ρ vs).set v .no)[j]? = some c from h) with ⟨_, rfl⟩ | ⟨ne, h⟩
    · exact .inl rfl
    · rcases wipeR_in h with r | ⟨r1, r2⟩
      · exact .inl r
      · exact .inr ⟨fun q => (List.mem_cons.mp q).elim (fun z => ne z.symm) r1, r2⟩
theorem wipeR_out {ρ : Rho} {j : Nat} : ∀ {vs : List Nat}, j ∉ vs → (wipeR ρ vs)[j]? = ρ[j]?
  | [], _ => rfl
  | v :: vs, h => by
    have h1 : v ≠ j := fun q => h (by simp [q])
    have h2 : j ∉ vs := fun q => h (List.mem_cons_of_mem _ q)
    rw [wipeR, List.getElem?_set]; simp only [if_neg h1]; exact wipeR_out h2
theorem wipeR_no {ρ : Rho} {j : Nat} {c : Cell} : ∀ {vs : List Nat}, j ∈ vs → (wipeR ρ vs)[j]? = some c → c = .no := fun {vs} h e => by
  rcases wipeR_in e with r | ⟨r, _⟩
  · exact r
  · exact absurd h r
theorem restR_len (ρ ρ1 : Rho) : ∀ vs : List Nat, (restR ρ ρ1 vs).length = ρ1.length
  | [] => rfl
  | v :: vs => by
    unfold restR
    split
    · rw [List.length_set, restR_len ρ ρ1 vs]
    · exact restR_len ρ ρ1 vs
theorem restR_out {ρ ρ1 : Rho} {j : Nat} : ∀ {vs : List Nat}, j ∉ vs → (restR ρ ρ1 vs)[j]? = ρ1[j]?
  | [], _ => rfl
  | v :: vs, h => by
    have h1 : v ≠ j := fun q => h (by simp [q])
    have h2 : j ∉ vs := fun q => h (List.mem_cons_of_mem _ q)
    unfold restR
    split
    · rw [List.getElem?_set]; simp only [if_neg h1]; exact restR_out h2
    · exact restR_out h2
theorem restR_in {ρ ρ1 : Rho} {j : Nat} (hl : ρ.length = ρ1.length) : ∀ {vs : List Nat}, j ∈ vs → (restR ρ ρ1 vs)[j]? = ρ[j]?
  | v :: vs, h => by
    unfold restR
    by_cases e : v = j
    · subst e
      cases q : ρ[v]? with
      | some c =>
        simp only
        have : v < (restR ρ ρ1 vs).length := by rw [restR_len, ← hl]; exact (List.getElem?_eq_some_iff.mp q).1
        rw [List.getElem?_set]; simp [this]
      | none =>
        simp only
        have : ρ.length ≤ v := List.getElem?_eq_none_iff.mp q
        exact List.getElem?_eq_none_iff.mpr (by rw [restR_len, ← hl]; exact this)
    · have h2 : j ∈ vs := (List.mem_cons.mp h).elim (fun z => absurd z.symm e) id
      split
      · rw [List.getElem?_set]; simp only [if_neg e]; exact restR_in hl h2
      · exact restR_in hl h2
theorem wipe_get {σ : L2.St} {j : Nat} : ∀ {vs : List Nat}, (wipe σ vs)[j]? = if j ∈ vs then (if j < σ.length then some none else none) else σ[j]?
  | [] => by simp [wipe]
  | v :: vs => by
    rw [wipe, List.getElem?_set, wipe_length]
    by_cases e : v = j
    · subst e; simp
    · rw [if_neg e, wipe_get (vs := vs)]
      have : (j ∈ v :: vs) ↔ j ∈ vs := by
        rw [List.mem_cons]
        exact ⟨fun q => q.elim (fun z => absurd z.symm e) id, .inr⟩
      simp only [this]
theorem wipe_up {σ σ' : L2.St} {L vs : List Nat} (u : UpL L (wipe σ vs) σ') (h : ∀ i ∈ L, i ∈ vs) : wipe σ' vs = wipe σ vs := by
  have hl : σ'.length = σ.length := by rw [u.1, wipe_length]
  refine List.ext_getElem? fun j => ?_
  rw [wipe_get, wipe_get]
  by_cases hj : j ∈ vs
  · simp [hj, hl]
  · rw [if_neg hj, if_neg hj, u.2 j (fun q => hj (h j q)), wipe_get, if_neg hj]

/-! ### comprehensions -/
def lcGo (h : D → Rho → Option Rho) (ft : M Bool) (fe : M D) (vs : List Nat) : List D → Rho → R (List D)
  | [], ρ => .ok [] ρ
  | d :: ds, ρ => match h d ρ with
    | none => .no
    | some ρ1 => match ft ρ1 with
      | .ok true ρ2 => (match fe ρ2 with
        | .ok x ρ3 => (match lcGo h ft fe vs ds (wipeR ρ3 vs) with
          | .ok xs ρ4 => .ok (x :: xs) ρ4
          | _ => .no)
        | _ => .no)
      | .ok false ρ2 => lcGo h ft fe vs ds (wipeR ρ2 vs)
      | _ => .no
def mLc (fi : M (List D)) (h : D → Rho → Option Rho) (ft : M Bool) (fe : M D) (vs : List Nat) : M D := bnd fi fun items => fun ρ =>
  if items.length ≤ big then (match lcGo h ft fe vs items (wipeR ρ vs) with
    | .ok xs ρ1 => .ok (.list xs) (restR ρ ρ1 vs)
    | _ => .no) else .no
def mYes : M Bool := ret true
section
variable {B : Bd} {EX : Str → Hp → Prop}
theorem ev_yes : Ev B EX VB tYes mYes := fun F H σ ρ Q m h => h true F H m.refl rfl
theorem Mt.write0 {F H : Hp} {σ : L2.St} {ρ : Rho} (m : Mt B F H σ ρ) {a : Addr} {o : HO} (hn : F a = none) (h0 : B.H0 a = none) (na : ¬ Owns σ ρ a) (la : ∀ x, H a = some x → LD x) : Mt B F (upd H a o) σ ρ := by
  refine ⟨fun b u e => ?_, m.old, m.new, fun b u e n t => ?_, fun b e => ?_, m.len, fun j v c h1 h2 => ?_, m.apart, tabs_but m.tabs (a := a) (fun b x z w => by rw [upd_ne w]; exact z) la, m.ntab⟩
  · rw [upd_ne (ne_of_none e hn)]; exact m.sub _ _ e
  · rw [upd_ne (ne_of_none e h0)]; exact m.frm b u e n t
  · by_cases hb : b = a
    · subst hb; exact h0
    · rw [upd_ne hb] at e; exact m.dom _ e
  · have q := m.cell j v c h1 h2
    cases c with
    | no => trivial
    | fz d' => exact q
    | ow d' =>
      obtain ⟨b, u, rfl, x2, x3, x4, x5⟩ := q
      exact ⟨b, u, rfl, by rw [upd_ne (fun z => na ⟨j, _, by rw [h1, z], h2, rfl⟩)]; exact x2, x3, x4, x5⟩
    | va d' => exact q
    | bw d' =>
      obtain ⟨b, u, rfl, x2, x3, x4, x5⟩ := q
      exact ⟨b, u, rfl, by rw [upd_ne (fun z => na ⟨j, _, by rw [h1, z], h2, rfl⟩)]; exact x2, x3, x4, x5⟩
/-- where a comprehension's block stands: the list made so far is at A -/
structure Blk (B : Bd) (A : Addr) (F H : Hp) (σ : L2.St) (ρ : Rho) (F' H' : Hp) (ρ' : Rho) : Prop where
  mt : Mt B F' H' σ ρ'
  old : Same F F'
  new : ∀ a o, F' a = some o → F a = some o ∨ H a = none ∨ Owns σ ρ a
  frm : ∀ a o, H a = some o → ¬ Owns σ ρ a → (∀ q ∈ B.T, q.1 ≠ a) → H' a = some o
  dom : ∀ a, H' a = none → H a = none
  own : ∀ a, Owns σ ρ' a → Owns σ ρ a
  kind : ∀ (i : Nat) (c : Cell), ρ[i]? = some c → ∃ c', ρ'[i]? = some c' ∧ KStep c c'
  nA : F' A = none
theorem Blk.step {A : Addr} {F H F1 H1 F2 H2 : Hp} {σ σ1 : L2.St} {ρ ρ1 ρ2 ρ3 : Rho} {vs L : List Nat} {o' : HO} (hA : H A = none) (hA0 : B.H0 A = none) (hAo : ¬ Owns σ ρ A) (b : Blk B A F H σ ρ F1 H1 ρ1) (hA1 : ∃ o, H1 A = some o ∧ LD o)
    (hm : Mt B F1 H1 σ1 ρ2) (up : UpL L σ σ1) (fz : ∀ (j : Nat) (c : Cell), ρ2[j]? = some c → c.own = true → ρ1[j]? = some c ∧ j ∉ L) (ru : UpL L ρ1 ρ2) (hL : ∀ i ∈ L, i ∈ vs)
    (wσ : wipe σ vs = σ) (wρ : ∀ j ∈ vs, ∀ c, ρ[j]? = some c → c = .no) (s : Stp B F1 H1 σ1 ρ2 F2 H2 ρ3) :
    F2 A = none ∧ H2 A = H1 A ∧ ¬ Owns σ1 ρ3 A ∧ Blk B A F H σ ρ F2 (upd H2 A o') (wipeR ρ3 vs) ∧ Blk B A F H σ ρ F2 H2 (wipeR ρ3 vs) := by
  have own2 : ∀ a, Owns σ1 ρ2 a → Owns σ ρ1 a := fun a ⟨j, c, h1, h2, h3⟩ => by
    obtain ⟨q1, q2⟩ := fz j c h2 h3
    exact ⟨j, c, by rw [← up.2 j q2]; exact h1, q1, h3⟩
  have nA2 : ¬ Owns σ1 ρ2 A := fun q => hAo (b.own _ (own2 _ q))
  obtain ⟨oA, eA, lA⟩ := hA1
  have tA : ∀ q ∈ B.T, q.1 ≠ A := tabs_at b.mt.tabs (ld_tbl eA lA)
  have e1 : H2 A = H1 A := by rw [eA]; exact s.frm A oA eA nA2 tA
  have e2 : F2 A = none := by
    cases q : F2 A with
    | none => rfl
    | some u =>
      rcases s.new A u q with z | z | z
      · rw [b.nA] at z; cases z
      · rw [eA] at z; cases z
      · exact absurd z nA2
  have nA3 : ¬ Owns σ1 ρ3 A := fun q => nA2 (s.own _ q)
  have lρ3 : ρ3.length = σ.length := by rw [s.mt.len, up.1]
  have wf : ∀ (i : Nat) c, (wipeR ρ3 vs)[i]? = some c → c = .no ∨ (ρ3[i]? = some c ∧ σ[i]? = σ1[i]?) := fun i c e => by
    rcases wipeR_in e with r | ⟨r1, r2⟩
    · exact .inl r
    · exact .inr ⟨r2, (up.2 i (fun q => r1 (hL i q))).symm⟩
  have mW : Mt B F2 H2 σ (wipeR ρ3 vs) := s.mt.drop (by rw [wipeR_len]; exact lρ3) wf
  have ownW : ∀ a, Owns σ (wipeR ρ3 vs) a → Owns σ1 ρ3 a := fun a ⟨j, c, h1, h2, h3⟩ => by
    rcases wf j c h2 with rfl | ⟨q1, q2⟩
    · cases h3
    · exact ⟨j, c, by rw [← q2]; exact h1, q1, h3⟩
  have ownAll : ∀ a, Owns σ (wipeR ρ3 vs) a → Owns σ ρ a := fun a q => b.own _ (own2 _ (s.own _ (ownW _ q)))
  have old : Same F F2 := b.old.trans s.old
  have new : ∀ a o, F2 a = some o → F a = some o ∨ H a = none ∨ Owns σ ρ a := fun a o e => by
    rcases s.new a o e with z | z | z
    · exact b.new a o z
    · exact .inr (.inl (b.dom _ z))
    · exact .inr (.inr (b.own _ (own2 _ z)))
  have frm : ∀ a o, H a = some o → ¬ Owns σ ρ a → (∀ q ∈ B.T, q.1 ≠ a) → H2 a = some o := fun a o e n t => s.frm a o (b.frm a o e n t) (fun q => n (b.own _ (own2 _ q))) t
  have dom : ∀ a, H2 a = none → H a = none := fun a e => b.dom _ (s.dom _ e)
  have kind : ∀ (i : Nat) (c : Cell), ρ[i]? = some c → ∃ c', (wipeR ρ3 vs)[i]? = some c' ∧ KStep c c' := fun i c e => by
    by_cases hi : i ∈ vs
    · have := wρ i hi c e
      subst this
      have il : i < (wipeR ρ3 vs).length := by
        obtain ⟨c', q, _⟩ := b.kind i _ e
        have h1 := (List.getElem?_eq_some_iff.mp q).1
        rw [wipeR_len, lρ3, ← b.mt.len]; exact h1
      refine ⟨_, List.getElem?_eq_getElem il, ?_⟩
      rw [wipeR_no hi (List.getElem?_eq_getElem il)]
      trivial
    · obtain ⟨c1, q1, k1⟩ := b.kind i c e
      have q2 : ρ2[i]? = some c1 := by rw [ru.2 i (fun z => hi (hL i z))]; exact q1
      obtain ⟨c3, q3, k3⟩ := s.kind i c1 q2
      exact ⟨c3, by rw [wipeR_out hi]; exact q3, k1.trans k3⟩
  refine ⟨e2, e1, nA3, ⟨mW.write0 e2 hA0 (fun q => nA3 (ownW _ q)) (fun x z => by rw [e1, eA] at z; cases z; exact lA), old, new, fun a o e n t => ?_, fun a e => ?_, ownAll, kind, e2⟩, ⟨mW, old, new, frm, dom, ownAll, kind, e2⟩⟩
  · rw [upd_ne (ne_of_none e hA)]; exact frm a o e n t
  · by_cases ha : a = A
    · subst ha; exact hA
    · rw [upd_ne ha] at e; exact dom _ e
theorem Blk.ext {A : Addr} {F H F1 H1 F2 H2 : Hp} {σ : L2.St} {ρ ρ1 : Rho} (b : Blk B A F H σ ρ F1 H1 ρ1) (hA1 : ∃ o, H1 A = some o) (e : Ext F1 H1 F2 H2) : Blk B A F H σ ρ F2 H2 ρ1 := by
  refine ⟨b.mt.grow e, b.old.trans e.old, fun a o h => ?_, fun a o h n t => e.same _ _ (b.frm a o h n t), fun a h => b.dom _ (e.same.free h), b.own, b.kind, ?_⟩
  · rcases e.new a o h with z | z
    · exact b.new a o z
    · exact .inr (.inl (b.dom _ z))
  · cases q : F2 A with
    | none => rfl
    | some u =>
      obtain ⟨o, ho⟩ := hA1
      rcases e.new A u q with z | z
      · rw [b.nA] at z; cases z
      · rw [ho] at z; cases z
/-- the block is left -/
theorem Blk.out {A : Addr} {F H F1 H1 : Hp} {σ : L2.St} {ρ ρ1 : Rho} {vs : List Nat} (m : Mt B F H σ ρ) (b : Blk B A F H (wipe σ vs) (wipeR ρ vs) F1 H1 ρ1) : Stp B F H σ ρ F1 H1 (restR ρ ρ1 vs) := by
  have lρ : ρ.length = ρ1.length := by rw [b.mt.len, wipe_length, m.len]
  have σo : ∀ j, j ∉ vs → (wipe σ vs)[j]? = σ[j]? := fun j hj => by rw [wipe_get, if_neg hj]
  have own1 : ∀ a, Owns (wipe σ vs) (wipeR ρ vs) a → Owns σ ρ a ∧ ∀ j c, j ∈ vs → σ[j]? = some (some (V.ref a)) → ρ[j]? = some c → c.own = true → False := fun a ⟨j, c, h1, h2, h3⟩ => by
    rcases wipeR_in h2 with rfl | ⟨r1, r2⟩
    · cases h3
    · rw [σo j r1] at h1
      exact ⟨⟨j, c, h1, r2, h3⟩, fun k c' hk q1 q2 q3 => r1 (by rw [m.apart j k a c c' h1 q1 r2 q2 h3 q3]; exact hk)⟩
  have cellv : ∀ (j : Nat) v c, j ∈ vs → σ[j]? = some v → ρ[j]? = some c → CellOk B F1 H1 v c := fun j v c hj h1 h2 => by
    have q := m.cell j v c h1 h2
    cases c with
    | no => trivial
    | fz d => obtain ⟨u, x, y⟩ := q; exact ⟨u, x, y.mono b.old⟩
    | ow d =>
      obtain ⟨a, o, rfl, x2, x3, x4, x5⟩ := q
      have na : ¬ Owns (wipe σ vs) (wipeR ρ vs) a := fun z => (own1 a z).2 j _ hj h1 h2 rfl
      refine ⟨a, o, rfl, b.frm a o x2 na (tabs_at m.tabs (ld_tbl x2 x3.ld)), x3.mono b.old, ?_, x5⟩
      cases w : F1 a with
      | none => rfl
      | some u =>
        rcases b.new a u w with z | z | z
        · rw [x4] at z; cases z
        · rw [x2] at z; cases z
        · exact absurd z na
    | va d => exact q
    | bw d =>
      obtain ⟨a, o, rfl, x2, x3, x4, x5⟩ := q
      have na : ¬ Owns (wipe σ vs) (wipeR ρ vs) a := fun z => (own1 a z).2 j _ hj h1 h2 rfl
      refine ⟨a, o, rfl, b.frm a o x2 na (tabs_at m.tabs (ld_tbl x2 x3.ld)), x3.mono b.old, ?_, x5⟩
      cases w : F1 a with
      | none => rfl
      | some u =>
        rcases b.new a u w with z | z | z
        · rw [x4] at z; cases z
        · rw [x2] at z; cases z
        · exact absurd z na
  have ownR : ∀ (j : Nat) c a, σ[j]? = some (some (V.ref a)) → (restR ρ ρ1 vs)[j]? = some c → c.own = true → (j ∈ vs ∧ ρ[j]? = some c) ∨ (j ∉ vs ∧ ρ1[j]? = some c ∧ (wipe σ vs)[j]? = some (some (V.ref a))) := fun j c a h1 h2 h3 => by
    by_cases hj : j ∈ vs
    · rw [restR_in lρ hj] at h2; exact .inl ⟨hj, h2⟩
    · rw [restR_out hj] at h2; exact .inr ⟨hj, h2, by rw [σo j hj]; exact h1⟩
  have mt : Mt B F1 H1 σ (restR ρ ρ1 vs) := by
    refine ⟨b.mt.sub, b.mt.old, b.mt.new, b.mt.frm, b.mt.dom, by rw [restR_len, ← lρ]; exact m.len, fun j v c h1 h2 => ?_, fun j k a c c' h1 h2 h3 h4 h5 h6 => ?_, b.mt.tabs, b.mt.ntab⟩
    · by_cases hj : j ∈ vs
      · rw [restR_in lρ hj] at h2; exact cellv j v c hj h1 h2
      · rw [restR_out hj] at h2; exact b.mt.cell j v c (by rw [σo j hj]; exact h1) h2
    · rcases ownR j c a h1 h3 h5 with ⟨y1, y2⟩ | ⟨y1, y2, y3⟩
      · rcases ownR k c' a h2 h4 h6 with ⟨z1, z2⟩ | ⟨z1, z2, z3⟩
        · exact m.apart j k a c c' h1 h2 y2 z2 h5 h6
        · exact ((own1 a (b.own a ⟨k, c', z3, z2, h6⟩)).2 j c y1 h1 y2 h5).elim
      · rcases ownR k c' a h2 h4 h6 with ⟨z1, z2⟩ | ⟨z1, z2, z3⟩
        · exact ((own1 a (b.own a ⟨j, c, y3, y2, h5⟩)).2 k c' z1 h2 z2 h6).elim
        · exact b.mt.apart j k a c c' y3 z3 y2 z2 h5 h6
  refine ⟨mt, b.old, fun a o e => ?_, fun a o e n t => b.frm a o e (fun q => n (own1 a q).1) t, b.dom, fun a q => ?_, fun j c e => ?_⟩
  · rcases b.new a o e with z | z | z
    · exact .inl z
    · exact .inr (.inl z)
    · exact .inr (.inr (own1 a z).1)
  · obtain ⟨j, c, h1, h2, h3⟩ := q
    rcases ownR j c a h1 h2 h3 with ⟨y1, y2⟩ | ⟨y1, y2, y3⟩
    · exact ⟨j, c, h1, y2, h3⟩
    · exact (own1 a (b.own a ⟨j, c, y3, y2, h3⟩)).1
  · by_cases hj : j ∈ vs
    · exact ⟨c, by rw [restR_in lρ hj]; exact e, KStep.refl c⟩
    · obtain ⟨c', q1, q2⟩ := b.kind j c (by rw [wipeR_out hj]; exact e)
      exact ⟨c', by rw [restR_out hj]; exact q1, q2⟩
abbrev EX0 : Str → Hp → Prop := fun _ _ => False
theorem evf_lc {wi : TI} {g : TG} {tt : TT} {te : TE} {fi : M (List D)} {h : D → Rho → Option Rho} {ft : M Bool} {fe : M D} {vs L : List Nat} (hi : Ev B EX VI wi fi) (hg : EvG B g h L) (ht : Ev B EX0 VB tt ft) (he : Ev B EX0 VD te fe)
    (hL : ∀ i ∈ L, i ∈ vs) : EvF B EX (tLc wi g tt te vs) (mLc fi h ft fe vs) := by
  refine evf_bind (tb := fun J σ H1 Q => ∀ D, H1 D = none → ∃ W : Nat → Nat → Hp → Prop, (∃ m, W 0 m (upd H1 D (.lst []))) ∧ ∀ i m H, W i m H →
    (J.stop i H ∧ Q (V.ref D) H) ∨ (J.go i H ∧ ∃ Nx : Hp → Prop, (∀ H', Nx H' → ∃ m', m' < m ∧ W (i + 1) m' H') ∧ ∀ x H', J.yld i H x H' → g x (wipe σ vs) H' fun σ2 H2 => wipe σ2 vs = wipe σ vs ∧ tt σ2 H2 fun b H3 =>
      if b = true then te σ2 H3 fun y H4 => ∃ acc, H4 D = some (.lst acc) ∧ acc.length < sizeLine ∧ Nx (upd H4 D (.lst (acc ++ [y]))) else Nx H3)) hi fun items J F H σ ρ Q m ok q => ?_
  intro A hA
  by_cases hbig : items.length ≤ big
  · simp only [if_pos hbig] at q
    cases e : lcGo h ft fe vs items (wipeR ρ vs) with
    | no => rw [e] at q; exact q.elim
    | ex c r => rw [e] at q; exact q.elim
    | ok total ρe =>
      rw [e] at q
      have mw : Mt B F H (wipe σ vs) (wipeR ρ vs) := m.drop (by rw [wipeR_len, wipe_length]; exact m.len) fun i c h1 => by
        rcases wipeR_in h1 with r | ⟨r1, r2⟩
        · exact .inl r
        · exact .inr ⟨r2, by rw [wipe_get, if_neg r1]⟩
      have hAo : ¬ Owns (wipe σ vs) (wipeR ρ vs) A := mw.noOwn hA
      have hA0 : B.H0 A = none := m.dom _ hA
      have b0 : Blk B A F H (wipe σ vs) (wipeR ρ vs) F (upd H A (.lst [])) (wipeR ρ vs) :=
        ⟨mw.write0 (m.sub.free hA) hA0 hAo (fun x z => by rw [hA] at z; cases z), Same.refl _, fun _ _ z => .inl z, fun a o z _ _ => by rw [upd_ne (ne_of_none z hA)]; exact z, fun a z => by
          by_cases ha : a = A
          · subst ha; exact hA
          · rw [upd_ne ha] at z; exact z, fun _ z => z, fun i c z => ⟨c, z, KStep.refl c⟩, m.sub.free hA⟩
      refine ⟨fun i k Hc => i + k = items.length ∧ ∃ Fc ρc accD accV restD, Blk B A F H (wipe σ vs) (wipeR ρ vs) Fc Hc ρc ∧ Hc A = some (.lst accV) ∧ DenL Fc accD accV ∧ accD.length ≤ i ∧
        lcGo h ft fe vs (items.drop i) ρc = .ok restD ρe ∧ accD ++ restD = total, ⟨items.length, by omega, F, wipeR ρ vs, [], [], total, b0, upd_same, rfl, Nat.le_refl _, by rw [List.drop_zero]; exact e, rfl⟩, ?_⟩
      rintro i k Hc ⟨hik, Fc, ρc, accD, accV, restD, b, hcA, dacc, lacc, lc, tot⟩
      have it := ok Fc Hc b.old b.mt.sub
      by_cases hi : i < items.length
      · refine .inr ⟨it.2.1 i hi, fun Hc => (i + 1) + (k - 1) = items.length ∧ ∃ Fc ρc accD accV restD, Blk B A F H (wipe σ vs) (wipeR ρ vs) Fc Hc ρc ∧ Hc A = some (.lst accV) ∧ DenL Fc accD accV ∧ accD.length ≤ i + 1 ∧
          lcGo h ft fe vs (items.drop (i + 1)) ρc = .ok restD ρe ∧ accD ++ restD = total, fun H' hN => ⟨k - 1, by omega, hN⟩, fun x H2 hy => ?_⟩
        obtain ⟨d, F2, ed, ex, dx⟩ := it.2.2 i x H2 hi hy
        have hdrop : items.drop i = d :: items.drop (i + 1) := by
          rw [List.drop_eq_getElem_cons hi]
          rw [List.getElem?_eq_getElem hi] at ed
          rw [Option.some.inj ed]
        rw [hdrop] at lc
        unfold lcGo at lc
        have hA2 : H2 A = some (.lst accV) := ex.same _ _ hcA
        have b2 := b.ext ⟨_, hcA⟩ ex
        cases e1 : h d ρc with
        | none => rw [e1] at lc; cases lc
        | some ρ1 =>
          rw [e1] at lc
          simp only at lc
          refine hg.run F2 H2 (wipe σ vs) ρc x d ρ1 _ b2.mt dx e1 fun σ1 m3 up => ⟨wipe_up up hL, ?_⟩
          refine ht F2 H2 σ1 ρ1 _ m3 ?_
          have wσ : wipe (wipe σ vs) vs = wipe σ vs := wipe_up UpL.refl (fun i h => h)
          have wρ : ∀ j ∈ vs, ∀ c, (wipeR ρ vs)[j]? = some c → c = .no := fun j hj c z => wipeR_no hj z
          cases e2 : ft ρ1 with
          | no => rw [e2] at lc; cases lc
          | ex c r => rw [e2] at lc; cases lc
          | ok bb ρ2 =>
            rw [e2] at lc
            intro b' F3 H3 s3 eb
            subst eb
            cases b' with
            | true =>
              simp only at lc
              simp only [if_true]
              refine he F3 H3 σ1 ρ2 _ s3.mt ?_
              cases e3 : fe ρ2 with
              | no => rw [e3] at lc; cases lc
              | ex c r => rw [e3] at lc; cases lc
              | ok y ρ3 =>
                rw [e3] at lc
                simp only at lc
                intro v F4 H4 s4 dv
                obtain ⟨p1, p2, p3, p4, _⟩ := Blk.step (o' := .lst (accV ++ [v])) hA hA0 hAo b2 ⟨_, hA2, .inl ⟨_, rfl⟩⟩ m3 up (fun j c z1 z2 => hg.fz d ρc ρ1 j c e1 z1 z2) (hg.up d ρc ρ1 e1) hL wσ wρ (s3.trans s4)
                cases e4 : lcGo h ft fe vs (items.drop (i + 1)) (wipeR ρ3 vs) with
                | no => rw [e4] at lc; cases lc
                | ex c r => rw [e4] at lc; cases lc
                | ok xs ρ4 =>
                  rw [e4] at lc
                  cases lc
                  refine ⟨accV, by rw [p2]; exact hA2, ?_, by omega, F4, wipeR ρ3 vs, accD ++ [y], accV ++ [v], xs, p4, upd_same, (dacc.mono (ex.old.trans (s3.trans s4).old)).app (DenL.one dv), by simp; exact lacc, e4, by rw [List.append_assoc]; exact tot⟩
                  rw [← dacc.len]
                  exact Nat.lt_of_le_of_lt lacc (Nat.lt_of_lt_of_le hi (big_le hbig))
            | false =>
              simp only at lc
              simp only [Bool.false_eq_true, if_false]
              obtain ⟨p1, p2, p3, _, p4⟩ := Blk.step (o' := .lst accV) hA hA0 hAo b2 ⟨_, hA2, .inl ⟨_, rfl⟩⟩ m3 up (fun j c z1 z2 => hg.fz d ρc ρ1 j c e1 z1 z2) (hg.up d ρc ρ1 e1) hL wσ wρ s3
              exact ⟨by omega, F3, wipeR ρ2 vs, accD, accV, restD, p4, by rw [p2]; exact hA2, dacc.mono (ex.old.trans s3.old), by omega, lc, tot⟩
      · have hdrop : items.drop i = [] := List.drop_eq_nil_of_le (by omega)
        rw [hdrop] at lc
        cases lc
        rw [List.append_nil] at tot
        subst tot
        exact .inl ⟨it.1 i (by omega), q (.ref A) Fc Hc (b.out m) ⟨A, _, rfl, hcA, dacc, b.nA, hA⟩⟩
  · simp only [if_neg hbig] at q; exact q.elim
end
end Rn
end

section
set_option Elab.async false
set_option linter.all false
set_option maxRecDepth 100000
/-! Core6: statements, loops, defs. -/
namespace Rn
open PySem PySem.Spec L2

inductive Out where
  | nx (r : Rho)
  | rt (d : D) (r : Rho)
  | rf (d : D) (r : Rho)
  | bk (r : Rho)
  | ct (r : Rho)
  | ex (c : Str) (r : Rho)
  | no
abbrev S := Rho → Out

def PostS (B : Bd) (EX : Str → Hp → Prop) (F : Hp) (E : Ends) : Out → Prop
  | .nx ρ' => ∀ σ' F' H', Mt B F' H' σ' ρ' → Same F F' → E.nx σ' H'
  | .rt d ρ' => ∀ v σ' F' H', Mt B F' H' σ' ρ' → Same F F' → Den F' d v → E.rt v H'
  | .rf d ρ' => ∀ v σ' F' H', Mt B F' H' σ' ρ' → Same F F' → VFr B.H0 F' H' d v → E.rt v H'
  | .bk ρ' => ∀ σ' F' H', Mt B F' H' σ' ρ' → Same F F' → E.bk σ' H'
  | .ct ρ' => ∀ σ' F' H', Mt B F' H' σ' ρ' → Same F F' → E.ct σ' H'
  | .ex c ρ' => ∀ σ' F' H', Mt B F' H' σ' ρ' → EX c H'
  | .no => False
def EvS (B : Bd) (EX : Str → Hp → Prop) (t : TS) (f : S) : Prop :=
  ∀ (F H : Hp) (σ : L2.St) (ρ : Rho) (E : Ends), Mt B F H σ ρ → PostS B EX F E (f ρ) → t E σ H
section
variable {B : Bd} {EX : Str → Hp → Prop}
theorem PostS.from {F F' : Hp} {E : Ends} {o : Out} (h : PostS B EX F E o) (s : Same F F') : PostS B EX F' E o := by
  cases o with
  | nx r => exact fun σ' F2 H2 m q => h σ' F2 H2 m (s.trans q)
  | rt d r => exact fun v σ' F2 H2 m q => h v σ' F2 H2 m (s.trans q)
  | rf d r => exact fun v σ' F2 H2 m q => h v σ' F2 H2 m (s.trans q)
  | bk r => exact fun σ' F2 H2 m q => h σ' F2 H2 m (s.trans q)
  | ct r => exact fun σ' F2 H2 m q => h σ' F2 H2 m (s.trans q)
  | ex c r => exact h
  | no => exact h
/-- an expression, then what leans on its value -/
def sBind {α : Type} (f : M α) (k : α → S) : S := fun ρ => match f ρ with
  | .ok a r => k a r
  | .ex c r => .ex c r
  | .no => .no
theorem es_bind {α β : Type} {VP : L2.St → Hp → Hp → Rho → α → β → Prop} {ta : Rd1 β} {tb : β → TS} {f : M α} {k : α → S} (ha : Ev B EX VP ta f)
    (hb : ∀ (a : α) (x : β) (F H : Hp) (σ : L2.St) (ρ : Rho) (E : Ends), Mt B F H σ ρ → VP σ F H ρ a x → PostS B EX F E (k a ρ) → tb x E σ H) :
    EvS B EX (fun E σ H => ta σ H fun x H1 => tb x E σ H1) (sBind f k) := by
  intro F H σ ρ E m h
  refine ha F H σ ρ _ m ?_
  unfold sBind at h
  cases e : f ρ with
  | ok a r => rw [e] at h; exact fun v F' H' x p => hb a v F' H' σ r E x.mt p (h.from x.old)
  | ex c r => rw [e] at h; exact fun F' H' x => h σ F' H' x.mt
  | no => rw [e] at h; exact h
/-! ### small statements -/
def sNext : S := fun ρ => .nx ρ
def sSeq (f g : S) : S := fun ρ => match f ρ with
  | .nx r => g r
  | o => o
theorem es_next : EvS B EX tNext sNext := fun F H σ ρ E m h => h σ F H m (Same.refl _)
theorem es_seq {t u : TS} {f g : S} (h1 : EvS B EX t f) (h2 : EvS B EX u g) : EvS B EX (tSeq t u) (sSeq f g) := by
  intro F H σ ρ E m h
  refine h1 F H σ ρ _ m ?_
  unfold sSeq at h
  cases e : f ρ with
  | nx r => rw [e] at h; exact fun σ' F' H' m' s => h2 F' H' σ' r E m' (h.from s)
  | rt d r => rw [e] at h; exact h
  | rf d r => rw [e] at h; exact h
  | bk r => rw [e] at h; exact h
  | ct r => rw [e] at h; exact h
  | ex c r => rw [e] at h; exact h
  | no => rw [e] at h; exact h
def sDrop (f : M D) : S := sBind f fun _ => sNext
theorem es_drop {t : TE} {f : M D} (h : Ev B EX VD t f) : EvS B EX (tDrop t) (sDrop f) :=
  es_bind (tb := fun x E σ H => E.nx σ H) h fun a x F H σ ρ E m p q => q σ F H m (Same.refl _)
def sRet (f : M D) : S := sBind f fun d => fun ρ => .rt d ρ
theorem es_ret {t : TE} {f : M D} (h : Ev B EX VD t f) : EvS B EX (tRet t) (sRet f) :=
  es_bind (tb := fun x E σ H => E.rt x H) h fun a x F H σ ρ E m p q => q x σ F H m (Same.refl _) p
/-- return of a list or dict of the def's own, not frozen -/
def sRetF (i : Nat) : S := fun ρ => match ρ[i]? with
  | some (.ow d) => .rf d ρ
  | _ => .no
theorem es_retF {i : Nat} : EvS B EX (tRet (tVar i)) (sRetF i) := by
  intro F H σ ρ E m h
  unfold sRetF at h
  split at h
  · next d e =>
    have hl : i < σ.length := by rw [← m.len]; exact (List.getElem?_eq_some_iff.mp e).1
    have hs : σ[i]? = some σ[i] := List.getElem?_eq_getElem hl
    obtain ⟨a, o, h1, h2, h3, h4, h5⟩ := m.cell i _ _ hs e
    exact ⟨.ref a, by rw [hs, h1], h (.ref a) σ F H m (Same.refl _) ⟨a, o, rfl, h2, h3, h4, h5⟩⟩
  · exact h.elim
def sRetN : S := fun ρ => .rt .none ρ
theorem es_retN : EvS B EX tRetN sRetN := fun F H σ ρ E m h => h .non σ F H m (Same.refl _) rfl
def sIf (c : M Bool) (f g : S) : S := sBind c fun b => if b = true then f else g
theorem es_if {c : TT} {t u : TS} {fc : M Bool} {f g : S} (hc : Ev B EX VB c fc) (h1 : EvS B EX t f) (h2 : EvS B EX u g) : EvS B EX (tIfS c t u) (sIf fc f g) :=
  es_bind (tb := fun b E σ H => if b = true then t E σ H else u E σ H) hc fun a x F H σ ρ E m p q => by
    cases p
    cases a with
    | true => exact h1 F H σ ρ E m q
    | false => exact h2 F H σ ρ E m q
def sBreak : S := fun ρ => .bk ρ
def sCont : S := fun ρ => .ct ρ
theorem es_break : EvS B EX tBreak sBreak := fun F H σ ρ E m h => h σ F H m (Same.refl _)
theorem es_cont : EvS B EX tCont sCont := fun F H σ ρ E m h => h σ F H m (Same.refl _)
/-! ### assignments -/
def sAsg (f : M D) (h : D → Rho → Option Rho) : S := sBind f fun d => fun ρ => match h d ρ with
  | some r => .nx r
  | none => .no
theorem es_asg {t : TE} {f : M D} {g : TG} {h : D → Rho → Option Rho} {L : List Nat} (he : Ev B EX VD t f) (hg : EvG B g h L) : EvS B EX (tAsg t g) (sAsg f h) :=
  es_bind (tb := fun x E σ H => g x σ H E.nx) he fun a x F H σ ρ E m p q => by
    cases e : h a ρ with
    | none => simp only [e] at q; exact q.elim
    | some r =>
      simp only [e] at q
      exact hg.run F H σ ρ x a r _ m p e fun σ' m' _ => q σ' F H m' (Same.refl _)
def sOwn (f : M D) (i : Nat) : S := sBind f fun d => fun ρ => .nx (ρ.set i (.ow d))
theorem es_own {t : TE} {f : M D} {i : Nat} (he : EvF B EX t f) : EvS B EX (tAsg t (gName i)) (sOwn f i) := by
  intro F H σ ρ E m h
  refine he F H σ ρ _ m ?_
  unfold sOwn sBind at h
  cases e : f ρ with
  | ex c r => rw [e] at h; exact fun F' H' x => h σ F' H' x.mt
  | no => rw [e] at h; exact h
  | ok d r =>
    rw [e] at h
    rintro v F' H' x ⟨a, o, rfl, h1, h2, h3, h4⟩
    exact h _ F' H' (x.mt.putOwn h1 h2 h3 (m.dom _ h4) fun q => m.noOwn h4 (x.own _ q)) x.old
/-! ### several at once -/
def ownAt : List Bool → List V → List Addr
  | true :: ms, .ref a :: vs => a :: ownAt ms vs
  | _ :: ms, _ :: vs => ownAt ms vs
  | _, _ => []
def VM (Hs : Hp) : List Bool → Hp → Hp → List D → List V → Prop
  | [], _, _, [], vs => vs = []
  | true :: ms, F, H, d :: ds, vs => ∃ a o r, vs = .ref a :: r ∧ H a = some o ∧ Shal F d o ∧ F a = none ∧ Hs a = none ∧ a ∉ ownAt ms r ∧ VM Hs ms F H ds r
  | false :: ms, F, H, d :: ds, vs => ∃ v r, vs = v :: r ∧ Den F d v ∧ VM Hs ms F H ds r
  | _, _, _, _, _ => False
theorem VM.free {Hs : Hp} : ∀ {ms : List Bool} {F H : Hp} {ds : List D} {vs : List V} {a : Addr}, VM Hs ms F H ds vs → a ∈ ownAt ms vs → Hs a = none
  | [], _, _, [], _, a, h, q => by cases h; cases q
  | [], _, _, _ :: _, _, a, h, q => h.elim
  | true :: ms, F, H, [], vs, a, h, q => h.elim
  | false :: ms, F, H, [], vs, a, h, q => h.elim
  | true :: ms, F, H, d :: ds, vs, a, ⟨b, o, r, e, h1, h2, h3, h4, h5, h6⟩, q => by
    subst e
    rcases List.mem_cons.mp (show a ∈ b :: ownAt ms r from q) with rfl | q
    · exact h4
    · exact VM.free h6 q
  | false :: ms, F, H, d :: ds, vs, a, ⟨v, r, e, h1, h2⟩, q => by
    subst e
    have q' : a ∈ ownAt ms r := by
      cases v <;> exact q
    exact VM.free h2 q'
theorem VM.from {Hs Hs' : Hp} (k : ∀ a, Hs a = none → Hs' a = none) : ∀ {ms : List Bool} {F H : Hp} {ds : List D} {vs : List V}, VM Hs ms F H ds vs → VM Hs' ms F H ds vs
  | [], _, _, [], _, h => h
  | [], _, _, _ :: _, _, h => h.elim
  | true :: ms, F, H, [], vs, h => h.elim
  | false :: ms, F, H, [], vs, h => h.elim
  | true :: ms, F, H, d :: ds, vs, ⟨b, o, r, e, h1, h2, h3, h4, h5, h6⟩ => ⟨b, o, r, e, h1, h2, h3, k _ h4, h5, VM.from k h6⟩
  | false :: ms, F, H, d :: ds, vs, ⟨v, r, e, h1, h2⟩ => ⟨v, r, e, h1, VM.from k h2⟩
def EvM (B : Bd) (EX : Str → Hp → Prop) (ms : List Bool) (t : TA) (f : M (List D)) : Prop :=
  ∀ (F H : Hp) (σ : L2.St) (ρ : Rho) (Q : List V → Hp → Prop), Mt B F H σ ρ → Post B EX F H σ ρ (fun _ F' H' _ ds vs => VM H ms F' H' ds vs) (f ρ) Q → t σ H Q
theorem evm_nil : EvM B EX [] tNil mNil := fun F H σ ρ Q m h => h [] F H m.refl rfl
theorem evm_cons {ms : List Bool} {ta : TE} {tr : TA} {fa : M D} {fr : M (List D)} (ha : Ev B EX VD ta fa) (hr : EvM B EX ms tr fr) : EvM B EX (false :: ms) (tCons ta tr) (mCons fa fr) := by
  intro F H σ ρ Q m h
  refine ha F H σ ρ _ m ?_
  unfold mCons bnd at h
  cases e : fa ρ with
  | ex c r => rw [e] at h; exact h
  | no => rw [e] at h; exact h
  | ok d r =>
    rw [e] at h
    simp only at h
    intro v F1 H1 x1 dv
    refine hr F1 H1 σ r _ x1.mt ?_
    cases e2 : fr r with
    | ex c r2 => rw [e2] at h; exact fun F2 H2 x2 => h F2 H2 (x1.trans x2)
    | no => rw [e2] at h; exact h
    | ok ds r2 =>
      rw [e2] at h
      exact fun vs F2 H2 x2 hv => h (v :: vs) F2 H2 (x1.trans x2) ⟨v, vs, rfl, dv.mono x2.old, VM.from (fun a z => x1.dom _ z) hv⟩
theorem evm_own {ms : List Bool} {ta : TE} {tr : TA} {fa : M D} {fr : M (List D)} (ha : EvF B EX ta fa) (hr : EvM B EX ms tr fr) : EvM B EX (true :: ms) (tCons ta tr) (mCons fa fr) := by
  intro F H σ ρ Q m h
  refine ha F H σ ρ _ m ?_
  unfold mCons bnd at h
  cases e : fa ρ with
  | ex c r => rw [e] at h; exact h
  | no => rw [e] at h; exact h
  | ok d r =>
    rw [e] at h
    simp only at h
    rintro v F1 H1 x1 ⟨a, o, rfl, h1, h2, h3, h4⟩
    refine hr F1 H1 σ r _ x1.mt ?_
    have na : ¬ Owns σ r a := fun q => m.noOwn h4 (x1.own _ q)
    cases e2 : fr r with
    | ex c r2 => rw [e2] at h; exact fun F2 H2 x2 => h F2 H2 (x1.trans x2)
    | no => rw [e2] at h; exact h
    | ok ds r2 =>
      rw [e2] at h
      intro vs F2 H2 x2 hv
      refine h (.ref a :: vs) F2 H2 (x1.trans x2) ⟨a, o, vs, rfl, x2.frm a o h1 na (tabs_at x1.mt.tabs (ld_tbl h1 h2.ld)), h2.mono x2.old, ?_, h4, fun q => ?_, VM.from (fun a z => x1.dom _ z) hv⟩
      · cases w : F2 a with
        | none => rfl
        | some u =>
          rcases x2.new a u w with z | z | z
          · rw [h3] at z; cases z
          · rw [h1] at z; cases z
          · exact absurd z na
      · have z := VM.free hv q
        rw [h1] at z; cases z
def parSet : List Bool → List Nat → List D → Rho → Option Rho
  | [], [], [], ρ => some ρ
  | m :: ms, i :: is, d :: ds, ρ => parSet ms is ds (ρ.set i (if m = true then .ow d else .fz d))
  | _, _, _, _ => none
def setAll : List Nat → List V → L2.St → L2.St
  | i :: is, v :: vs, σ => setAll is vs (σ.set i (some v))
  | _, _, σ => σ
theorem par_set {Hs : Hp} {F H : Hp} (hs : ∀ a, Hs a = none → B.H0 a = none) : ∀ {ms : List Bool} {is : List Nat} {ds : List D} {vs : List V} {σ : L2.St} {ρ ρ' : Rho}, Mt B F H σ ρ → VM Hs ms F H ds vs → (∀ a ∈ ownAt ms vs, ¬ Owns σ ρ a) → parSet ms is ds ρ = some ρ' → Mt B F H (setAll is vs σ) ρ' ∧ vs.length = is.length
  | [], [], [], vs, σ, ρ, ρ', m, h, _, e => by cases h; cases e; exact ⟨m, rfl⟩
  | [], _ :: _, [], vs, σ, ρ, ρ', m, h, _, e => by cases e
  | [], _, _ :: _, vs, σ, ρ, ρ', m, h, _, e => h.elim
  | true :: ms, _, [], vs, σ, ρ, ρ', m, h, _, e => h.elim
  | false :: ms, _, [], vs, σ, ρ, ρ', m, h, _, e => h.elim
  | true :: ms, [], _ :: _, vs, σ, ρ, ρ', m, h, _, e => by cases e
  | false :: ms, [], _ :: _, vs, σ, ρ, ρ', m, h, _, e => by cases e
  | true :: ms, i :: is, d :: ds, vs, σ, ρ, ρ', m, ⟨a, o, r, ev, h1, h2, h3, h4, h5, h6⟩, na, e => by
    subst ev
    have na1 : ¬ Owns σ ρ a := na a (List.mem_cons_self ..)
    have m1 := m.putOwn (i := i) h1 h2 h3 (hs _ h4) na1
    have na2 : ∀ b ∈ ownAt ms r, ¬ Owns (σ.set i (some (.ref a))) (ρ.set i (.ow d)) b := fun b hb ⟨j, c, q1, q2, q3⟩ => by
      rcases set_get q1 with ⟨_, z⟩ | ⟨ne, q1⟩
      · cases z; exact h5 hb
      · rcases set_get q2 with ⟨z, _⟩ | ⟨_, q2⟩
        · exact absurd z ne
        · exact na b (List.mem_cons_of_mem _ hb) ⟨j, c, q1, q2, q3⟩
    obtain ⟨p1, p2⟩ := par_set hs (is := is) m1 h6 na2 (show parSet ms is ds (ρ.set i (.ow d)) = some ρ' from e)
    exact ⟨p1, by simp [p2]⟩
  | false :: ms, i :: is, d :: ds, vs, σ, ρ, ρ', m, ⟨v, r, ev, h1, h2⟩, na, e => by
    subst ev
    have m1 := m.put (i := i) h1
    have na2 : ∀ b ∈ ownAt ms r, ¬ Owns (σ.set i (some v)) (ρ.set i (.fz d)) b := fun b hb ⟨j, c, q1, q2, q3⟩ => by
      rcases set_get q2 with ⟨_, z⟩ | ⟨ne, q2⟩
      · subst z; cases q3
      · rcases set_get q1 with ⟨z, _⟩ | ⟨_, q1⟩
        · exact absurd z ne
        · refine na b ?_ ⟨j, c, q1, q2, q3⟩
          cases v <;> exact hb
    obtain ⟨p1, p2⟩ := par_set hs (is := is) m1 h2 na2 (show parSet ms is ds (ρ.set i (.fz d)) = some ρ' from e)
    exact ⟨p1, by simp [p2]⟩
def sPar (ms : List Bool) (is : List Nat) (f : M (List D)) : S := sBind f fun ds => fun ρ => match parSet ms is ds ρ with
  | some r => .nx r
  | none => .no
theorem es_parG {ms : List Bool} {is : List Nat} {ta : TA} {f : M (List D)} {tb : List V → TS} (ha : EvM B EX ms ta f)
    (hb : ∀ (vs : List V) (E : Ends) (σ : L2.St) (F H : Hp), Same F H → vs.length = is.length → (∀ H', Ext F H F H' → E.nx (setAll is vs σ) H') → tb vs E σ H) :
    EvS B EX (fun E σ H => ta σ H fun vs H1 => tb vs E σ H1) (sPar ms is f) := by
  intro F H σ ρ E m h
  refine ha F H σ ρ _ m ?_
  unfold sPar sBind at h
  cases e : f ρ with
  | ex c r => rw [e] at h; exact fun F' H' x => h σ F' H' x.mt
  | no => rw [e] at h; exact h
  | ok ds r =>
    rw [e] at h
    intro vs F' H' x hv
    cases e2 : parSet ms is ds r with
    | none => simp only [e2] at h; exact h.elim
    | some r2 =>
      simp only [e2] at h
      obtain ⟨p1, p2⟩ := par_set (fun a z => m.dom _ z) (is := is) x.mt hv (fun a q z => m.noOwn (VM.free hv q) (x.own _ z)) e2
      refine hb vs E σ F' H' x.mt.sub p2 fun H2 e => h _ F' H2 (p1.grow e) x.old
theorem es_par2 {ms : List Bool} {i j : Nat} {ta : TA} {f : M (List D)} (ha : EvM B EX ms ta f) : EvS B EX (tPar i j ta) (sPar ms [i, j] f) := by
  refine es_parG (tb := fun vs E σ H => ∃ v w, vs = [v, w] ∧ E.nx ((σ.set i (some v)).set j (some w)) H) ha fun vs E σ F H s hl q => ?_
  match vs, hl with
  | [v, w], _ => exact ⟨v, w, rfl, q H (Ext.refl s)⟩
theorem es_par3 {ms : List Bool} {i j l : Nat} {ta : TA} {f : M (List D)} (ha : EvM B EX ms ta f) : EvS B EX (tPar3 i j l ta) (sPar ms [i, j, l] f) := by
  refine es_parG (tb := fun vs E σ H => ∃ u v w, vs = [u, v, w] ∧ E.nx (((σ.set i (some u)).set j (some v)).set l (some w)) H) ha fun vs E σ F H s hl q => ?_
  match vs, hl with
  | [u, v, w], _ => exact ⟨u, v, w, rfl, q H (Ext.refl s)⟩
/-- .. by a tuple that is made and taken apart -/
def gNames : List Nat → TGs
  | [] => gNil
  | i :: is => gCons (gName i) (gNames is)
theorem gNames_run {H : Hp} : ∀ {is : List Nat} {vs : List V} {σ : L2.St} {Q : L2.St → Hp → Prop}, vs.length = is.length → Q (setAll is vs σ) H → gNames is vs σ H Q
  | [], [], σ, Q, _, h => ⟨rfl, h⟩
  | i :: is, v :: vs, σ, Q, hl, h => ⟨v, vs, rfl, gNames_run (is := is) (by simpa using hl) h⟩
  | [], _ :: _, _, _, hl, _ => by simp at hl
  | _ :: _, [], _, _, hl, _ => by simp at hl
theorem es_parT {K : PySem.W.Frag} {ms : List Bool} {is : List Nat} {n : Nat} {ta : TA} {f : M (List D)} (ha : EvM B EX ms ta f) (hn : is.length = n) (hn2 : n ≤ 100) : EvS B EX (tAsg (tTup ta) (gTup K n (gNames is))) (sPar ms is f) := by
  refine es_parG (tb := fun vs E σ H => vs.length ≤ sizeLine ∧ ∀ p, H p = none → gTup K n (gNames is) (V.ref p) σ (upd H p (.tup vs)) E.nx) ha fun vs E σ F H s hl q => ?_
  refine ⟨by rw [hl, hn]; exact fewer hn2, fun p hp => ⟨p, vs, rfl, SqT.of upd_same, by rw [hl]; exact hn, gNames_run hl (q _ (Ext.loose s hp _))⟩⟩
/-! ### lists that change -/
def putCell (ρ : Rho) (i : Nat) (d : D) : Option Rho := match ρ[i]? with
  | some (.ow _) => some (ρ.set i (.ow d))
  | some (.bw _) => some (ρ.set i (.bw d))
  | _ => none
theorem Mt.putCell {F H : Hp} {σ : L2.St} {ρ ρ' : Rho} (m : Mt B F H σ ρ) {i : Nat} {d : D} (h : putCell ρ i d = some ρ') : ∃ a o e, σ[i]? = some (some (.ref a)) ∧ cellD ρ[i]? = some e ∧ H a = some o ∧ Shal F e o ∧ ∀ o', Shal F d o' → Stp B F H σ ρ F (upd H a o') ρ' := by
  unfold Rn.putCell at h
  cases e : ρ[i]? with
  | none => rw [e] at h; cases h
  | some c =>
    rw [e] at h
    have hi : i < σ.length := by rw [← m.len]; exact (List.getElem?_eq_some_iff.mp e).1
    have hv := List.getElem?_eq_getElem hi
    have w := m.cell i _ c hv e
    cases c with
    | no => cases h
    | fz y => cases h
    | ow y =>
      cases h
      obtain ⟨a, o, e1, e2, e3, e4, e5⟩ := w
      rw [e1] at hv
      exact ⟨a, o, y, hv, rfl, e2, e3, fun o' sh => m.write hv e rfl sh (.inl ⟨y, rfl, rfl⟩)⟩
    | va y => cases h
    | bw y =>
      cases h
      obtain ⟨a, o, e1, e2, e3, e4, e5⟩ := w
      rw [e1] at hv
      exact ⟨a, o, y, hv, rfl, e2, e3, fun o' sh => m.write hv e rfl sh (.inr ⟨y, rfl, rfl⟩)⟩
theorem tVar_of {i : Nat} {v : V} {σ : L2.St} {H : Hp} {Q : VK} (h : σ[i]? = some (some v)) (q : Q v H) : tVar i σ H Q := ⟨v, h, q⟩
/-- xs.append(e) -/
def appendD (ρ : Rho) (i : Nat) (d : D) : Option Rho := match cellD ρ[i]? with
  | some (.list ds) => if ds.length < big then putCell ρ i (.list (ds ++ [d])) else none
  | _ => none
def sAppend (i : Nat) (f : M D) : S := fun ρ => match cellD ρ[i]? with
  | some (.list _) => sBind f (fun d => fun ρ => match appendD ρ i d with
    | some r => .nx r
    | none => .no) ρ
  | _ => .no
theorem es_append {K : PySem.W.Frag} {i : Nat} {te : TE} {f : M D} (h : Ev B EX VD te f) : EvS B EX (tDrop (tBM K "list" rAppend (tVar i) (tCons te tNil))) (sAppend i f) := by
  intro F H σ ρ E m q
  unfold sAppend at q
  cases e0 : cellD ρ[i]? with
  | none => rw [e0] at q; exact q.elim
  | some d0 =>
    rw [e0] at q
    cases d0 with
    | list ds0 =>
      simp only at q
      have hv : ∃ v, σ[i]? = some (some v) ∧ TvOk σ F H ρ (.s i) v := by
        cases e1 : ρ[i]? with
        | none => rw [e1] at e0; cases e0
        | some c =>
          have hi : i < σ.length := by rw [← m.len]; exact (List.getElem?_eq_some_iff.mp e1).1
          have hv := List.getElem?_eq_getElem hi
          have w := m.cell i _ c hv e1
          have g : ∃ u, σ[i]? = some (some u) := by
            cases c with
            | no => rw [e1] at e0; cases e0
            | fz d => obtain ⟨u, e1, e2⟩ := w; exact ⟨u, by rw [hv, e1]⟩
            | ow d => obtain ⟨a, o, e1, _⟩ := w; exact ⟨.ref a, by rw [hv, e1]⟩
            | va d => rw [e1] at e0; cases e0
            | bw d => obtain ⟨a, o, e1, _⟩ := w; exact ⟨.ref a, by rw [hv, e1]⟩
          obtain ⟨u, hu⟩ := g
          exact ⟨u, hu, hu, _, e0⟩
      obtain ⟨v, hv1, hv2⟩ := hv
      obtain ⟨a0, vs0, rfl, ha0, _⟩ := (hv2.now m e0).lst m.sub
      refine ⟨.ref a0, hv1, .inl ⟨rfl, vs0, SqL.of ha0⟩, ?_⟩
      refine h F H σ ρ _ m ?_
      unfold sBind at q
      cases e : f ρ with
      | ex c r => rw [e] at q; exact fun F' H' x => q σ F' H' x.mt
      | no => rw [e] at q; exact q
      | ok d r =>
        rw [e] at q
        simp only at q
        intro y F1 H1 x1 dy
        unfold appendD at q
        cases e2 : cellD r[i]? with
        | none => simp only [e2] at q; exact q.elim
        | some d2 =>
          simp only [e2] at q
          cases d2 with
          | list ds =>
            simp only at q
            by_cases hl : ds.length < big
            · simp only [if_pos hl] at q
              cases e3 : putCell r i (.list (ds ++ [d])) with
              | none => simp only [e3] at q; exact q.elim
              | some r2 =>
                simp only [e3] at q
                obtain ⟨a, o, e', k1, k2, k3, k4, k5⟩ := x1.mt.putCell e3
                rw [hv1] at k1
                cases k1
                rw [e2] at k2
                cases k2
                obtain ⟨vs, rfl, l⟩ := k4.lst
                refine ⟨a0, vs, y, rfl, rfl, k3, ?_, ?_⟩
                · rw [← l.len]; exact Nat.lt_of_lt_of_le hl (big_le (Nat.le_refl _))
                · have st := k5 (.lst (vs ++ [y])) (l.app (DenL.one dy))
                  exact q σ F1 _ st.mt (x1.old.trans st.old)
            · simp only [if_neg hl] at q; exact q.elim
          | none => exact q.elim
          | bool _ => exact q.elim
          | int _ => exact q.elim
          | str _ => exact q.elim
          | tuple _ => exact q.elim
          | dict _ => exact q.elim
    | none => exact q.elim
    | bool _ => exact q.elim
    | int _ => exact q.elim
    | str _ => exact q.elim
    | tuple _ => exact q.elim
    | dict _ => exact q.elim
/-- xs.pop() -/
def mPop (i : Nat) : M D := fun ρ => match cellD ρ[i]? with
  | some (.list ds) => (match ds[ds.length - 1]? with
    | some d => (match putCell ρ i (.list ds.dropLast) with
      | some r => .ok d r
      | none => .no)
    | none => .no)
  | _ => .no
theorem ev_pop {K : PySem.W.Frag} {i : Nat} : Ev B EX VD (tBM0 K "list" rPop (tVar i)) (mPop i) := by
  intro F H σ ρ Q m q
  unfold mPop at q
  cases e2 : cellD ρ[i]? with
  | none => simp only [e2] at q; exact q.elim
  | some d2 =>
    simp only [e2] at q
    cases d2 with
    | list ds =>
      simp only at q
      cases e4 : ds[ds.length - 1]? with
      | none => simp only [e4] at q; exact q.elim
      | some d =>
        simp only [e4] at q
        cases e3 : putCell ρ i (.list ds.dropLast) with
        | none => simp only [e3] at q; exact q.elim
        | some r2 =>
          simp only [e3] at q
          obtain ⟨a, o, e', k1, k2, k3, k4, k5⟩ := m.putCell e3
          rw [e2] at k2
          cases k2
          obtain ⟨vs, rfl, l⟩ := k4.lst
          obtain ⟨v, h1, h2⟩ := l.get e4
          refine ⟨.ref a, k1, .inl ⟨rfl, vs, SqL.of k3⟩, a, vs, v, rfl, rfl, k3, by rw [← l.len]; exact h1, ?_⟩
          exact q v F _ (k5 (.lst vs.dropLast) l.dropLast) h2
    | none => exact q.elim
    | bool _ => exact q.elim
    | int _ => exact q.elim
    | str _ => exact q.elim
    | tuple _ => exact q.elim
    | dict _ => exact q.elim
/-- xs[k] = e -/
def setD (ρ : Rho) (i : Nat) (k : Int) (d : D) : Option Rho := match cellD ρ[i]? with
  | some (.list ds) => (match ixN ds.length k with
    | some j => putCell ρ i (.list (ds.set j d))
    | none => none)
  | _ => none
def sSetItem (i : Nat) (fe fk : M D) : S := sBind fe fun d => fun ρ => match cellD ρ[i]? with
  | some _ => sBind fk (fun kd => fun ρ => match asInt kd with
    | some k => (match setD ρ i k d with
      | some r => .nx r
      | none => .no)
    | none => .no) ρ
  | none => .no
theorem slot_at {F H : Hp} {σ : L2.St} {ρ : Rho} {i : Nat} {d0 : D} (m : Mt B F H σ ρ) (e0 : cellD ρ[i]? = some d0) : ∃ v, σ[i]? = some (some v) ∧ TvOk σ F H ρ (.s i) v := by
  cases e1 : ρ[i]? with
  | none => rw [e1] at e0; cases e0
  | some c =>
    have hi : i < σ.length := by rw [← m.len]; exact (List.getElem?_eq_some_iff.mp e1).1
    have hv := List.getElem?_eq_getElem hi
    have w := m.cell i _ c hv e1
    have g : ∃ u, σ[i]? = some (some u) := by
      cases c with
      | no => rw [e1] at e0; cases e0
      | fz d => obtain ⟨u, e1, e2⟩ := w; exact ⟨u, by rw [hv, e1]⟩
      | ow d => obtain ⟨a, o, e1, _⟩ := w; exact ⟨.ref a, by rw [hv, e1]⟩
      | va d => rw [e1] at e0; cases e0
      | bw d => obtain ⟨a, o, e1, _⟩ := w; exact ⟨.ref a, by rw [hv, e1]⟩
    obtain ⟨u, hu⟩ := g
    exact ⟨u, hu, hu, _, e0⟩
theorem es_setitem {i : Nat} {te tk : TE} {fe fk : M D} (he : Ev B EX VD te fe) (hk : Ev B EX VD tk fk) : EvS B EX (tAsg te (gSub (tVar i) tk rSetL)) (sSetItem i fe fk) := by
  refine es_bind (tb := fun x E σ H => gSub (tVar i) tk rSetL x σ H E.nx) he fun d y F H σ ρ E m dy q => ?_
  cases e0 : cellD ρ[i]? with
  | none => simp only [e0] at q; exact q.elim
  | some d0 =>
    simp only [e0] at q
    obtain ⟨v, hv1, hv2⟩ := slot_at m e0
    refine ⟨v, hv1, ?_⟩
    refine hk F H σ ρ _ m ?_
    unfold sBind at q
    cases e : fk ρ with
    | ex c r => rw [e] at q; exact fun F' H' x => q σ F' H' x.mt
    | no => rw [e] at q; exact q
    | ok kd r =>
      rw [e] at q
      simp only at q
      intro w F1 H1 x1 dw
      cases e5 : asInt kd with
      | none => simp only [e5] at q; exact q.elim
      | some k =>
        simp only [e5] at q
        have e6 := asInt_eq e5
        subst e6
        have ew : w = V.int k := dw
        subst ew
        unfold setD at q
        cases e2 : cellD r[i]? with
        | none => simp only [e2] at q; exact q.elim
        | some d2 =>
          simp only [e2] at q
          cases d2 with
          | list ds =>
            simp only at q
            cases e7 : ixN ds.length k with
            | none => simp only [e7] at q; exact q.elim
            | some j =>
              simp only [e7] at q
              cases e3 : putCell r i (.list (ds.set j d)) with
              | none => simp only [e3] at q; exact q.elim
              | some r2 =>
                simp only [e3] at q
                obtain ⟨a, o, e', k1, k2, k3, k4, k5⟩ := x1.mt.putCell e3
                rw [hv1] at k1
                cases k1
                rw [e2] at k2
                cases k2
                obtain ⟨vs, rfl, l⟩ := k4.lst
                refine ⟨a, vs, k, j, rfl, rfl, k3, by rw [← l.len]; exact e7, ?_⟩
                have st := k5 (.lst (vs.set j y)) (DenL.set (dy.mono x1.old) j l)
                exact q σ F1 _ st.mt (x1.old.trans st.old)
          | none => exact q.elim
          | bool _ => exact q.elim
          | int _ => exact q.elim
          | str _ => exact q.elim
          | tuple _ => exact q.elim
          | dict _ => exact q.elim
/-! ### loops -/
def forGo (h : D → Rho → Option Rho) (b : S) : List D → S
  | [], ρ => .nx ρ
  | d :: ds, ρ => match h d ρ with
    | none => .no
    | some ρ1 => match b ρ1 with
      | .nx ρ2 => forGo h b ds ρ2
      | .ct ρ2 => forGo h b ds ρ2
      | .bk ρ2 => .nx ρ2
      | o => o
def sFor (fi : M (List D)) (h : D → Rho → Option Rho) (b : S) : S := sBind fi fun items => forGo h b items
theorem es_for {wi : TI} {g : TG} {tb : TS} {fi : M (List D)} {h : D → Rho → Option Rho} {L : List Nat} {fb : S} (hi : Ev B EX VI wi fi) (hg : EvG B g h L) (hb : EvS B EX tb fb) : EvS B EX (tFor wi g tb) (sFor fi h fb) := by
  refine es_bind (tb := fun J D σ H1 => ∃ W : Nat → Nat → L2.St → Hp → Prop, (∃ m, W 0 m σ H1) ∧ ∀ i m σ H, W i m σ H →
    (J.stop i H ∧ D.nx σ H) ∨ (J.go i H ∧ ∃ N : L2.St → Hp → Prop, (∀ σ' H', N σ' H' → ∃ m', m' < m ∧ W (i + 1) m' σ' H') ∧ ∀ x H', J.yld i H x H' → g x σ H' fun σ2 H2 => tb { D with nx := N, ct := N, bk := D.nx } σ2 H2)) hi fun items J F H σ ρ E m ok q => ?_
  refine ⟨fun i k σc Hc => i + k = items.length ∧ ∃ Fc ρc, Same F Fc ∧ Mt B Fc Hc σc ρc ∧ PostS B EX F E (forGo h fb (items.drop i) ρc), ⟨items.length, by omega, F, ρ, Same.refl _, m, by rw [List.drop_zero]; exact q⟩, ?_⟩
  rintro i k σc Hc ⟨hik, Fc, ρc, sc, mc, q⟩
  have it := ok Fc Hc sc mc.sub
  by_cases hi : i < items.length
  · refine .inr ⟨it.2.1 i hi, fun σc Hc => (i + 1) + (k - 1) = items.length ∧ ∃ Fc ρc, Same F Fc ∧ Mt B Fc Hc σc ρc ∧ PostS B EX F E (forGo h fb (items.drop (i + 1)) ρc), fun σ' H' hN => ⟨k - 1, by omega, hN⟩, fun x H2 hy => ?_⟩
    obtain ⟨d, F2, ed, ex, dx⟩ := it.2.2 i x H2 hi hy
    have hdrop : items.drop i = d :: items.drop (i + 1) := by
      rw [List.drop_eq_getElem_cons hi]
      rw [List.getElem?_eq_getElem hi] at ed
      rw [Option.some.inj ed]
    rw [hdrop] at q
    unfold forGo at q
    cases e1 : h d ρc with
    | none => rw [e1] at q; exact q.elim
    | some ρ1 =>
      rw [e1] at q
      simp only at q
      refine hg.run F2 H2 σc ρc x d ρ1 _ (mc.grow ex) dx e1 fun σ1 m3 up => ?_
      refine hb F2 H2 σ1 ρ1 _ m3 ?_
      have s2 : Same F F2 := sc.trans ex.old
      cases e2 : fb ρ1 with
      | nx r => rw [e2] at q; exact fun σ' F' H' m' s => ⟨by omega, F', r, s2.trans s, m', q⟩
      | ct r => rw [e2] at q; exact fun σ' F' H' m' s => ⟨by omega, F', r, s2.trans s, m', q⟩
      | bk r => rw [e2] at q; exact fun σ' F' H' m' s => q σ' F' H' m' (s2.trans s)
      | rt d r => rw [e2] at q; exact fun v σ' F' H' m' s => q v σ' F' H' m' (s2.trans s)
      | rf d r => rw [e2] at q; exact fun v σ' F' H' m' s => q v σ' F' H' m' (s2.trans s)
      | ex c r => rw [e2] at q; exact q
      | no => rw [e2] at q; exact q
  · have hdrop : items.drop i = [] := List.drop_eq_nil_of_le (by omega)
    rw [hdrop] at q
    exact .inl ⟨it.1 i (by omega), q σc Fc Hc mc sc⟩
def whileGo (c : M Bool) (b : S) : Nat → S
  | 0, _ => .no
  | n + 1, ρ => match c ρ with
    | .ok true ρ1 => (match b ρ1 with
      | .nx ρ2 => whileGo c b n ρ2
      | .ct ρ2 => whileGo c b n ρ2
      | .bk ρ2 => .nx ρ2
      | o => o)
    | .ok false ρ1 => .nx ρ1
    | .ex x r => .ex x r
    | .no => .no
theorem es_while {c : TT} {tb : TS} {fc : M Bool} {fb : S} {n : Nat} (hc : Ev B EX VB c fc) (hb : EvS B EX tb fb) : EvS B EX (tWhile c tb) (whileGo fc fb n) := by
  intro F H σ ρ E m q
  refine ⟨fun k σc Hc => ∃ Fc ρc, Same F Fc ∧ Mt B Fc Hc σc ρc ∧ PostS B EX F E (whileGo fc fb k ρc), ⟨n, F, ρ, Same.refl _, m, q⟩, ?_⟩
  rintro k σc Hc ⟨Fc, ρc, sc, mc, q⟩
  refine hc Fc Hc σc ρc _ mc ?_
  cases k with
  | zero => exact q.elim
  | succ k =>
    unfold whileGo at q
    cases e : fc ρc with
    | no => rw [e] at q; exact q.elim
    | ex x r => rw [e] at q; exact fun F' H' x => q σc F' H' x.mt
    | ok b r =>
      rw [e] at q
      intro b' F1 H1 x1 eb
      subst eb
      cases b' with
      | false => simp only [Bool.false_eq_true, if_false]; exact q σc F1 H1 x1.mt (sc.trans x1.old)
      | true =>
        simp only [if_true]
        simp only at q
        refine ⟨fun σ' H' => ∃ Fc ρc, Same F Fc ∧ Mt B Fc H' σ' ρc ∧ PostS B EX F E (whileGo fc fb k ρc), fun σ' H' hN => ⟨k, Nat.lt_succ_self _, hN⟩, ?_⟩
        refine hb F1 H1 σc r _ x1.mt ?_
        have s2 : Same F F1 := sc.trans x1.old
        cases e2 : fb r with
        | nx r => rw [e2] at q; exact fun σ' F' H' m' s => ⟨F', r, s2.trans s, m', q⟩
        | ct r => rw [e2] at q; exact fun σ' F' H' m' s => ⟨F', r, s2.trans s, m', q⟩
        | bk r => rw [e2] at q; exact fun σ' F' H' m' s => q σ' F' H' m' (s2.trans s)
        | rt d r => rw [e2] at q; exact fun v σ' F' H' m' s => q v σ' F' H' m' (s2.trans s)
        | rf d r => rw [e2] at q; exact fun v σ' F' H' m' s => q v σ' F' H' m' (s2.trans s)
        | ex c r => rw [e2] at q; exact q
        | no => rw [e2] at q; exact q
/-! ### raise -/
def sRaise (c : Str) : S := fun ρ => .ex c ρ
theorem es_raise {C : Addr} {c : Str} {E : XK} (hE : ∀ H, EX c H → E (.ref C) none H) : EvS B EX (fun _ σ H => (fun (_ : L2.St) H (Q : XK) => Q (.ref C) none H) σ H fun cls d H' => (fun cls d (_ : L2.St) H => E cls d H) cls d σ H') (sRaise c) := fun F H σ ρ E' m h => hE H (h σ F H m)
end

/-! ### defs -/
inductive RR where
  | ok (d : D)
  | fr (d : D)
  | ex (c : Str)
  | no
def finO : Out → RR
  | .nx _ => .ok .none
  | .rt d _ => .ok d
  | .rf d _ => .fr d
  | .ex c _ => .ex c
  | _ => .no
def startR (n : Nat) (ds : List D) : Rho := ds.map Cell.fz ++ List.replicate (n - ds.length) Cell.no
def callD (np n : Nat) (body : S) (ds : List D) : RR := if ds.length = np then finO (body (startR n ds)) else .no
def spV (C : Str → Addr) (g : List D → RR) : Sp := fun vs H Q E => ∃ (F : Hp) (ds : List D), Same F H ∧ DenL F ds vs ∧ (match g ds with
  | .ok d => ∀ v F' H', Ext F H F' H' → Den F' d v → Q v H'
  | .fr d => ∀ v F' H', Ext F H F' H' → VFr H F' H' d v → Q v H'
  | .ex c => ∀ H', Same H H' → E (.ref (C c)) none H'
  | .no => False)
def mCall (g : List D → RR) (fa : M (List D)) : M D := bnd fa fun ds => fun ρ => match g ds with
  | .ok d => .ok d ρ
  | .fr d => .ok d ρ
  | .ex c => .ex c ρ
  | .no => .no
def mCall0 (g : List D → RR) (fa : M (List D)) : M D := bnd fa fun ds => fun ρ => match g ds with
  | .ok d => .ok d ρ
  | .fr d => .ok d ρ
  | _ => .no
theorem Ext.frz {F H F' H' : Hp} {d : D} {v : V} (x : Ext F H F' H') (f : VFr H F' H' d v) : ∃ F2, Ext F H F2 H' ∧ Den F2 d v := by
  obtain ⟨a, o, rfl, h1, h2, h3, h4⟩ := f
  refine ⟨upd F' a o, ⟨x.same, x.old.trans (same_upd h3), fun b u e => ?_, fun b u e => ?_⟩, (h2.mono (same_upd h3)).den upd_same⟩
  · by_cases hb : b = a
    · subst hb; rw [upd_same] at e; cases e; exact h1
    · rw [upd_ne hb] at e; exact x.sub _ _ e
  · by_cases hb : b = a
    · subst hb; exact .inr h4
    · rw [upd_ne hb] at e; exact x.new _ _ e
section
variable {B : Bd} {EX : Str → Hp → Prop}
theorem ev_call {C : Str → Addr} {g : List D → RR} {E : XK} {ta : TA} {fa : M (List D)} (hE : ∀ c H, EX c H → E (.ref (C c)) none H) (ha : Ev B EX VL ta fa) : Ev B EX VD (tCall (spV C g) [] E ta) (mCall g fa) := by
  refine Ev.bind (tb := fun vs σ H Q => spV C g (vs ++ []) H Q E) ha fun ds vs F H σ ρ Q m p q => ?_
  rw [List.append_nil]
  refine ⟨F, ds, m.sub, p, ?_⟩
  cases e : g ds with
  | no => simp only [e] at q; exact q
  | ok d => simp only [e] at q; exact fun v F' H' x dv => q v F' H' (m.ext x) dv
  | fr d =>
    simp only [e] at q
    intro v F' H' x dv
    obtain ⟨F2, x2, d2⟩ := x.frz dv
    exact q v F2 H' (m.ext x2) d2
  | ex c => simp only [e] at q; exact fun H' s => hE c H' (q F H' (m.ext ⟨s, Same.refl _, m.sub.trans s, fun _ _ z => .inl z⟩))
theorem ev_call0 {C : Str → Addr} {g : List D → RR} {ta : TA} {fa : M (List D)} (ha : Ev B EX VL ta fa) : Ev B EX VD (tCall (spV C g) [] E0 ta) (mCall0 g fa) := by
  refine Ev.bind (tb := fun vs σ H Q => spV C g (vs ++ []) H Q E0) ha fun ds vs F H σ ρ Q m p q => ?_
  rw [List.append_nil]
  refine ⟨F, ds, m.sub, p, ?_⟩
  cases e : g ds with
  | no => simp only [e] at q; exact q
  | ok d => simp only [e] at q; exact fun v F' H' x dv => q v F' H' (m.ext x) dv
  | fr d =>
    simp only [e] at q
    intro v F' H' x dv
    obtain ⟨F2, x2, d2⟩ := x.frz dv
    exact q v F2 H' (m.ext x2) d2
  | ex c => simp only [e] at q; exact q.elim
end
/-- a call that gives a fresh list or dict -/
def mCallF (g : List D → RR) (fa : M (List D)) : M D := bnd fa fun ds => fun ρ => match g ds with
  | .fr d => .ok d ρ
  | .ex c => .ex c ρ
  | _ => .no
def mCallF0 (g : List D → RR) (fa : M (List D)) : M D := bnd fa fun ds => fun ρ => match g ds with
  | .fr d => .ok d ρ
  | _ => .no
section
variable {B : Bd} {EX : Str → Hp → Prop}
theorem evf_call {C : Str → Addr} {g : List D → RR} {E : XK} {ta : TA} {fa : M (List D)} (hE : ∀ c H, EX c H → E (.ref (C c)) none H) (ha : Ev B EX VL ta fa) : EvF B EX (tCall (spV C g) [] E ta) (mCallF g fa) := by
  refine evf_bind (tb := fun vs σ H Q => spV C g (vs ++ []) H Q E) ha fun ds vs F H σ ρ Q m p q => ?_
  rw [List.append_nil]
  refine ⟨F, ds, m.sub, p, ?_⟩
  cases e : g ds with
  | no => simp only [e] at q; exact q
  | ok d => simp only [e] at q; exact q.elim
  | fr d => simp only [e] at q; exact fun v F' H' x dv => q v F' H' (m.ext x) dv
  | ex c => simp only [e] at q; exact fun H' s => hE c H' (q F H' (m.ext ⟨s, Same.refl _, m.sub.trans s, fun _ _ z => .inl z⟩))
theorem evf_call0 {C : Str → Addr} {g : List D → RR} {ta : TA} {fa : M (List D)} (ha : Ev B EX VL ta fa) : EvF B EX (tCall (spV C g) [] E0 ta) (mCallF0 g fa) := by
  refine evf_bind (tb := fun vs σ H Q => spV C g (vs ++ []) H Q E0) ha fun ds vs F H σ ρ Q m p q => ?_
  rw [List.append_nil]
  refine ⟨F, ds, m.sub, p, ?_⟩
  cases e : g ds with
  | no => simp only [e] at q; exact q
  | ok d => simp only [e] at q; exact q.elim
  | fr d => simp only [e] at q; exact fun v F' H' x dv => q v F' H' (m.ext x) dv
  | ex c => simp only [e] at q; exact q.elim
end
theorem start_mt {F H : Hp} {ds : List D} {vs : List V} {N : List Str} (s : Same F H) (l : DenL F ds vs) : Mt ⟨H, F, [], [], []⟩ F H (L2.start N vs) (startR N.length ds) := by
  have hl := l.len
  refine ⟨s, Same.refl _, fun _ _ e => .inl e, fun _ _ e _ _ => e, fun _ e => e, ?_, fun j v c h1 h2 => ?_, fun j k a c c' h1 h2 h3 h4 h5 h6 => ?_, fun _ z => (nomatch z), fun _ z => (nomatch z)⟩
  · simp [startR, L2.start, hl]
  · unfold startR at h2
    unfold L2.start at h1
    rw [List.getElem?_append] at h1 h2
    rw [List.length_map] at h1 h2
    by_cases hj : j < ds.length
    · rw [if_pos hj] at h2
      rw [if_pos (by rw [← hl]; exact hj)] at h1
      rw [List.getElem?_map] at h1 h2
      cases e1 : ds[j]? with
      | none => rw [e1] at h2; cases h2
      | some d =>
        rw [e1] at h2
        obtain ⟨u, e2, e3⟩ := l.get e1
        rw [e2] at h1
        cases h1; cases h2
        exact ⟨u, rfl, e3⟩
    · rw [if_neg hj] at h2
      have : c = .no := by
        have := List.mem_of_getElem? h2
        exact (List.mem_replicate.mp this).2
      subst this
      trivial
  · have : ∀ (j : Nat) (c : Cell), (startR N.length ds)[j]? = some c → c.own = true → False := fun j c e o => by
      have q := List.mem_of_getElem? e
      unfold startR at q
      rcases List.mem_append.mp q with q | q
      · obtain ⟨d, _, rfl⟩ := List.mem_map.mp q
        cases o
      · rw [(List.mem_replicate.mp q).2] at o; cases o
    exact (this j c h3 h5).elim
theorem spV_len {C : Str → Addr} {np n : Nat} {body : S} {vs : List V} {H : Hp} {Q : VK} {E : XK} (h : spV C (callD np n body) vs H Q E) : vs.length = np := by
  obtain ⟨F, ds, s, l, q⟩ := h
  unfold callD at q
  by_cases e : ds.length = np
  · rw [← l.len]; exact e
  · simp only [if_neg e] at q
/-- a def's body keeps the promise -/
theorem body_ok {C : Str → Addr} {np : Nat} {body : S} {N : List Str} {vs : List V} {H : Hp} {Q : VK} {E : XK} {t : TS} (h : spV C (callD np N.length body) vs H Q E)
    (ev : ∀ F, EvS ⟨H, F, [], [], []⟩ (fun c H' => E (.ref (C c)) none H') t body) : t { nx := fun _ H' => Q .non H', rt := Q } (L2.start N vs) H := by
  obtain ⟨F, ds, s, l, q⟩ := h
  unfold callD at q
  by_cases e : ds.length = np
  · simp only [if_pos e] at q
    refine ev F F H (L2.start N vs) (startR N.length ds) _ (start_mt s l) ?_
    have ext : ∀ {F' H' : Hp} {σ' : L2.St} {ρ' : Rho}, Mt ⟨H, F, [], [], []⟩ F' H' σ' ρ' → Ext F H F' H' := fun m => ⟨fun a o z => m.frm a o z (by simp) (fun _ z => (nomatch z)), m.old, m.sub, m.new⟩
    cases e2 : body (startR N.length ds) with
    | nx r => rw [e2] at q; exact fun σ' F' H' m _ => q .non F' H' (ext m) rfl
    | rt d r => rw [e2] at q; exact fun v σ' F' H' m _ dv => q v F' H' (ext m) dv
    | rf d r => rw [e2] at q; exact fun v σ' F' H' m _ dv => q v F' H' (ext m) dv
    | bk r => rw [e2] at q; exact q.elim
    | ct r => rw [e2] at q; exact q.elim
    | ex c r => rw [e2] at q; exact fun σ' F' H' m => q H' (ext m).same
    | no => rw [e2] at q; exact q.elim
  · simp only [if_neg e] at q
end Rn
end

section
set_option Elab.async false
set_option linter.all false
set_option autoImplicit false
set_option maxRecDepth 100000
/-! Core7: a piece of syntax, its reading, and what it computes, in one. -/
namespace Rn
open PySem PySem.Spec L2

structure JE (X : Cx) (B : Bd) (EX : Str → Hp → Prop) (e : Expr) (t : TE) (f : M D) : Prop where
  p : PE X e t
  v : Ev B EX VD t f
structure JR (X : Cx) (B : Bd) (EX : Str → Hp → Prop) (e : Expr) (t : TE) (f : M TV) : Prop where
  p : PE X e t
  v : Ev B EX VT t f
structure JF (X : Cx) (B : Bd) (EX : Str → Hp → Prop) (e : Expr) (t : TE) (f : M D) : Prop where
  p : PE X e t
  v : EvF B EX t f
structure JB (X : Cx) (B : Bd) (EX : Str → Hp → Prop) (e : Expr) (t : TT) (f : M Bool) : Prop where
  p : PT X e t
  v : Ev B EX VB t f
structure JW (X : Cx) (B : Bd) (EX : Str → Hp → Prop) (e : Expr) (t : TT) (f : M Bool) : Prop where
  p : PW X e t
  v : Ev B EX VB t f
structure JBs (X : Cx) (B : Bd) (EX : Str → Hp → Prop) (e : List Expr) (t : TT) (f : M Bool) : Prop where
  p : PTs X e t
  v : Ev B EX VB t f
structure JA (X : Cx) (B : Bd) (EX : Str → Hp → Prop) (es : List Expr) (t : TA) (f : M (List D)) : Prop where
  p : PA X es t
  v : Ev B EX VL t f
structure JAR (X : Cx) (B : Bd) (EX : Str → Hp → Prop) (es : List Expr) (t : TA) (f : M (List TV)) : Prop where
  p : PA X es t
  v : Ev B EX VTs t f
structure JAM (X : Cx) (B : Bd) (EX : Str → Hp → Prop) (ms : List Bool) (es : List Expr) (t : TA) (f : M (List D)) : Prop where
  p : PA X es t
  v : EvM B EX ms t f
structure JO (X : Cx) (B : Bd) (EX : Str → Hp → Prop) (e : Option Expr) (t : TO) (f : M (Option Int)) : Prop where
  p : PO X e t
  v : Ev B EX VO t f
structure JI (X : Cx) (B : Bd) (EX : Str → Hp → Prop) (tg it : Expr) (t : TI) (f : M (List D)) : Prop where
  p : PI X tg it t
  v : Ev B EX VI t f
structure JG (X : Cx) (B : Bd) (tg : Expr) (g : TG) (h : D → Rho → Option Rho) (L : List Nat) : Prop where
  p : PG X tg g
  v : EvG B g h L
structure JGs (X : Cx) (B : Bd) (tg : List Expr) (g : TGs) (h : List D → Rho → Option Rho) (L : List Nat) : Prop where
  p : PGs X tg g
  v : EvGs B g h L
structure JS (X : Cx) (B : Bd) (EX : Str → Hp → Prop) (s : Stmt) (t : TS) (f : S) : Prop where
  p : PS X s t
  v : EvS B EX t f
structure JSs (X : Cx) (B : Bd) (EX : Str → Hp → Prop) (s : List Stmt) (t : TS) (f : S) : Prop where
  p : PSs X s t
  v : EvS B EX t f

section
variable {X : Cx} {B : Bd} {EX : Str → Hp → Prop} {a b c e : Expr} {es : List Expr} {ta tb tc te : TE} {fa fb fc fe : M D} {ra rb rc : M TV} {pos : Pos}
/-! ### names, constants -/
theorem je_var (i : Nat) {x : Str} (hN : X.N[i]? = some x := by rfl) (hv : Vis X.env.scope x := by first | exact Or.inl rfl | exact Or.inr (Or.inl rfl) | exact Or.inr (Or.inr rfl)) (hd : (x == ("__debug__" : Str)) = false := by decide)
    (hcd : (x == ("__classdict__" : Str)) = false := by decide) : JE X B EX (.Name x pos) (tVar i) (mVar i) := ⟨pv i hN hv hd hcd, ev_var⟩
theorem jr_var (i : Nat) {x : Str} (hN : X.N[i]? = some x := by rfl) (hv : Vis X.env.scope x := by first | exact Or.inl rfl | exact Or.inr (Or.inl rfl) | exact Or.inr (Or.inr rfl)) (hd : (x == ("__debug__" : Str)) = false := by decide)
    (hcd : (x == ("__classdict__" : Str)) = false := by decide) : JR X B EX (.Name x pos) (tVar i) (mVarT i) := ⟨pv i hN hv hd hcd, ev_varT⟩
theorem jr_of (h : JE X B EX e te fe) : JR X B EX e te (mT fe) := ⟨h.p, ev_T h.v⟩
theorem je_of (h : JF X B EX e te fe) : JE X B EX e te fe := ⟨h.p, ev_ofF h.v⟩
theorem je_int {i j} : JE X B EX (.Constant (.int i) j pos) (tC (.int i)) (ret (.int i)) := ⟨pe_int, ev_const fun _ => rfl⟩
theorem je_bl {i j} : JE X B EX (.Constant (.bool i) j pos) (tC (.bl i)) (ret (.bool i)) := ⟨pe_bl, ev_const fun _ => rfl⟩
theorem je_non {j} : JE X B EX (.Constant .none j pos) (tC .non) (ret .none) := ⟨pe_non, ev_const fun _ => rfl⟩
theorem je_str {x j} : JE X B EX (.Constant (.str x) j pos) (tC (.str x)) (ret (.str x)) := ⟨pe_str, ev_const fun _ => rfl⟩
theorem je_gint {x : Str} {i : Int} {t : Tok} (hm : X.mg x = some (.int i t)) (hg : Gl X x := by rfl) (hd : (x == ("__debug__" : Str)) = false := by decide) : JE X B EX (.Name x pos) (tC (.int i)) (ret (.int i)) := ⟨pe_glob hg hm ⟨t, rfl⟩ hd, ev_const fun _ => rfl⟩
/-! ### operators -/
theorem je_op {op : Operator} {r : R2} {f : D → D → Option D} (ho : OpR X (binaryOp op) r) (hk : OpOk r f) (ha : JR X B EX a ta ra) (hb : JR X B EX b tb rb) : JE X B EX (.BinOp a op b pos) (tOp r ta tb) (mOp f ra rb) := ⟨pe_op ho ha.p hb.p, ev_op hk ha.v hb.v⟩
theorem jf_op {op : Operator} {r : R2} {f : D → D → Option D} (ho : OpR X (binaryOp op) r) (hk : OpOkF r f) (ha : JR X B EX a ta ra) (hb : JR X B EX b tb rb) : JF X B EX (.BinOp a op b pos) (tOp r ta tb) (mOp f ra rb) := ⟨pe_op ho ha.p hb.p, evf_op hk ha.v hb.v⟩
theorem je_add {K : PySem.W.Frag} (ha : JR X B EX a ta ra) (hb : JR X B EX b tb rb) (hK : X.K = K := by rfl) : JE X B EX (.BinOp a .Add b pos) (tOp (rAddA K) ta tb) (mOp addF ra rb) := by
  subst hK
  exact je_op op_addA ok_add ha hb
theorem je_sub (ha : JR X B EX a ta ra) (hb : JR X B EX b tb rb) : JE X B EX (.BinOp a .Sub b pos) (tOp (rI0 fun i j => .int (i - j)) ta tb) (mOp subF ra rb) := je_op op_sub ok_sub ha hb
theorem je_mul {K : PySem.W.Frag} (ha : JR X B EX a ta ra) (hb : JR X B EX b tb rb) (hK : X.K = K := by rfl) : JE X B EX (.BinOp a .Mult b pos) (tOp (rMulA K) ta tb) (mOp mulF ra rb) := by
  subst hK
  exact je_op op_mulA ok_mul ha hb
theorem je_fdiv (ha : JR X B EX a ta ra) (hb : JR X B EX b tb rb) : JE X B EX (.BinOp a .FloorDiv b pos) (tOp (rI CDivW fun i j => .int (i / j)) ta tb) (mOp fdivF ra rb) := je_op op_fdivW ok_fdiv ha hb
theorem je_mod (ha : JR X B EX a ta ra) (hb : JR X B EX b tb rb) : JE X B EX (.BinOp a .Mod b pos) (tOp (rI (fun _ j => 0 < j) fun i j => .int (i % j)) ta tb) (mOp modF ra rb) := je_op op_mod ok_mod ha hb
theorem je_pow (ha : JR X B EX a ta ra) (hb : JR X B EX b tb rb) : JE X B EX (.BinOp a .Pow b pos) (tOp (rI CPow fun i j => .int (i ^ j.toNat)) ta tb) (mOp powF ra rb) := je_op op_pow ok_pow ha hb
theorem jf_cat (ha : JR X B EX a ta ra) (hb : JR X B EX b tb rb) : JF X B EX (.BinOp a .Add b pos) (tOp rCat ta tb) (mOp catF ra rb) := jf_op op_cat okF_cat ha hb
theorem jf_rep (ha : JR X B EX a ta ra) (hb : JR X B EX b tb rb) : JF X B EX (.BinOp a .Mult b pos) (tOp rRep ta tb) (mOp repF ra rb) := jf_op op_rep okF_rep ha hb
theorem je_neg (ha : JR X B EX a ta ra) : JE X B EX (.UnaryOp .USub a pos) (tUn (rU fun i => .int (-i)) ta) (mUn negF ra) := ⟨pe_un un_neg ha.p, ev_un ok_neg ha.v⟩
/-! ### comparisons -/
theorem je_cmp {op : CmpOp} {r : R2} {f : D → D → Option D} (ho : OpR X (compareOp op) r) (hk : OpOk r f) (ha : JR X B EX a ta ra) (hb : JR X B EX b tb rb) (hm : behindInMarks op b = false) : JE X B EX (.Compare a [op] [b] pos) (tOp r ta tb) (mOp f ra rb) := ⟨pe_cmpR ho ha.p hb.p hm, ev_op hk ha.v hb.v⟩
theorem je_lt (ha : JR X B EX a ta ra) (hb : JR X B EX b tb rb) : JE X B EX (.Compare a [.Lt] [b] pos) (tOp (rI0 fun i j => .bl (decide (i < j))) ta tb) (mOp ltF ra rb) := je_cmp op_lt ok_cmpI ha hb (nomark _)
theorem je_le (ha : JR X B EX a ta ra) (hb : JR X B EX b tb rb) : JE X B EX (.Compare a [.LtE] [b] pos) (tOp (rI0 fun i j => .bl (decide (i ≤ j))) ta tb) (mOp leF ra rb) := je_cmp op_le ok_cmpI ha hb (nomark _)
theorem je_gt (ha : JR X B EX a ta ra) (hb : JR X B EX b tb rb) : JE X B EX (.Compare a [.Gt] [b] pos) (tOp (rI0 fun i j => .bl (decide (j < i))) ta tb) (mOp gtF ra rb) := je_cmp op_gt ok_cmpI ha hb (nomark _)
theorem je_ge (ha : JR X B EX a ta ra) (hb : JR X B EX b tb rb) : JE X B EX (.Compare a [.GtE] [b] pos) (tOp (rI0 fun i j => .bl (decide (j ≤ i))) ta tb) (mOp geF ra rb) := je_cmp op_ge ok_cmpI ha hb (nomark _)
theorem je_eq {K : PySem.W.Frag} (hu : X.A.units + 64 < cLine) (ha : JR X B EX a ta ra) (hb : JR X B EX b tb rb) (hK : X.K = K := by rfl) : JE X B EX (.Compare a [.Eq] [b] pos) (tOp (rEqP K) ta tb) (mOp eqF ra rb) := by
  subst hK
  exact je_cmp (op_eqP hu) ok_eq ha hb (nomark _)
theorem je_ne {K : PySem.W.Frag} (hu : X.A.units + 64 < cLine) (ha : JR X B EX a ta ra) (hb : JR X B EX b tb rb) (hK : X.K = K := by rfl) : JE X B EX (.Compare a [.NotEq] [b] pos) (tOp (rNeP K) ta tb) (mOp neF ra rb) := by
  subst hK
  exact je_cmp (op_neP hu) ok_ne ha hb (nomark _)
theorem je_is (ha : JR X B EX a ta ra) (hb : JR X B EX b tb rb) : JE X B EX (.Compare a [.Is] [b] pos) (tOp (fun x y H Q => y = .non ∧ Q (.bl (decide (x = .non))) H) ta tb) (mOp (isF false) ra rb) := je_cmp op_isN ok_is ha hb (nomark _)
theorem je_isnot (ha : JR X B EX a ta ra) (hb : JR X B EX b tb rb) : JE X B EX (.Compare a [.IsNot] [b] pos) (tOp (fun x y H Q => y = .non ∧ Q (.bl (!decide (x = .non))) H) ta tb) (mOp (isF true) ra rb) := je_cmp op_notN ok_isnot ha hb (nomark _)
theorem je_in {K : PySem.W.Frag} (hu : X.A.units + 64 < cLine) (ha : JR X B EX a ta ra) (hb : JR X B EX b tb rb) (hm : behindInMarks .In b = false := by with_unfolding_all rfl) (hK : X.K = K := by rfl) : JE X B EX (.Compare a [.In] [b] pos) (tOp (rInA K false) ta tb) (mOp (inAF false) ra rb) := by
  subst hK
  exact je_cmp (op_inA hu) ok_inA ha hb hm
theorem je_notin {K : PySem.W.Frag} (hu : X.A.units + 64 < cLine) (ha : JR X B EX a ta ra) (hb : JR X B EX b tb rb) (hm : behindInMarks .NotIn b = false := by with_unfolding_all rfl) (hK : X.K = K := by rfl) : JE X B EX (.Compare a [.NotIn] [b] pos) (tOp (rInA K true) ta tb) (mOp (inAF true) ra rb) := by
  subst hK
  exact je_cmp (op_notInA hu) ok_inA ha hb hm
theorem je_chain {op op' : CmpOp} {r r' : R2} {f g : D → D → Option D} (ho : OpR X (compareOp op) r) (ho' : OpR X (compareOp op') r') (hk : OpOk r f) (hk' : OpOk r' g) (ha : JR X B EX a ta ra) (hb : JR X B EX b tb rb) (hc : JR X B EX c tc rc)
    (hm : lastMarks [op, op'] [b, c] = false := by with_unfolding_all rfl) : JE X B EX (.Compare a [op, op'] [b, c] pos) (tChain r r' ta tb tc) (mChain f g ra rb rc) := ⟨pe_chain ho ho' ha.p hb.p hc.p hm, ev_chain hk hk' ha.v hb.v hc.v⟩
/-! ### truth -/
variable {tA tB' tC' : TT} {gA gB gC : M Bool} {rest : List Expr}
theorem jb_val (h : JE X B EX e te fe) (he : ∀ whole, isTrue e X.env whole = (do let v ← whole; standAt e.pos; holding [v] (truthy v)) := by intro _; rfl) : JB X B EX e (tTest te) (mTst fe) := ⟨pt_val h.p he, ev_tst h.v⟩
theorem oK_eq {K : PySem.W.Frag} (hK : X.K = K) (hu : X.A.units + 64 < cLine) : OpR X (compareOp .Eq) (rEqP K) := by subst hK; exact op_eqP hu
theorem oK_ne {K : PySem.W.Frag} (hK : X.K = K) (hu : X.A.units + 64 < cLine) : OpR X (compareOp .NotEq) (rNeP K) := by subst hK; exact op_neP hu
theorem jb_cmp {op : CmpOp} {r : R2} {f : D → D → Option D} (ho : OpR X (compareOp op) r) (hk : OpOk r f) (ha : JR X B EX a ta ra) (hb : JR X B EX b tb rb) (hm : behindInMarks op b = false) : JB X B EX (.Compare a [op] [b] pos) (tTest (tOp r ta tb)) (mTst (mOp f ra rb)) := ⟨pt_cmpR ho ha.p hb.p hm, ev_tst (ev_op hk ha.v hb.v)⟩
theorem jb_lt (ha : JR X B EX a ta ra) (hb : JR X B EX b tb rb) : JB X B EX (.Compare a [.Lt] [b] pos) (tTest (tOp (rI0 fun i j => .bl (decide (i < j))) ta tb)) (mTst (mOp ltF ra rb)) := jb_cmp op_lt ok_cmpI ha hb (nomark _)
theorem jb_le (ha : JR X B EX a ta ra) (hb : JR X B EX b tb rb) : JB X B EX (.Compare a [.LtE] [b] pos) (tTest (tOp (rI0 fun i j => .bl (decide (i ≤ j))) ta tb)) (mTst (mOp leF ra rb)) := jb_cmp op_le ok_cmpI ha hb (nomark _)
theorem jb_gt (ha : JR X B EX a ta ra) (hb : JR X B EX b tb rb) : JB X B EX (.Compare a [.Gt] [b] pos) (tTest (tOp (rI0 fun i j => .bl (decide (j < i))) ta tb)) (mTst (mOp gtF ra rb)) := jb_cmp op_gt ok_cmpI ha hb (nomark _)
theorem jb_ge (ha : JR X B EX a ta ra) (hb : JR X B EX b tb rb) : JB X B EX (.Compare a [.GtE] [b] pos) (tTest (tOp (rI0 fun i j => .bl (decide (j ≤ i))) ta tb)) (mTst (mOp geF ra rb)) := jb_cmp op_ge ok_cmpI ha hb (nomark _)
theorem jb_eq {K : PySem.W.Frag} (hu : X.A.units + 64 < cLine) (ha : JR X B EX a ta ra) (hb : JR X B EX b tb rb) (hK : X.K = K := by rfl) : JB X B EX (.Compare a [.Eq] [b] pos) (tTest (tOp (rEqP K) ta tb)) (mTst (mOp eqF ra rb)) := by
  subst hK
  exact jb_cmp (op_eqP hu) ok_eq ha hb (nomark _)
theorem jb_ne {K : PySem.W.Frag} (hu : X.A.units + 64 < cLine) (ha : JR X B EX a ta ra) (hb : JR X B EX b tb rb) (hK : X.K = K := by rfl) : JB X B EX (.Compare a [.NotEq] [b] pos) (tTest (tOp (rNeP K) ta tb)) (mTst (mOp neF ra rb)) := by
  subst hK
  exact jb_cmp (op_neP hu) ok_ne ha hb (nomark _)
theorem jb_is (ha : JR X B EX a ta ra) (hb : JR X B EX b tb rb) : JB X B EX (.Compare a [.Is] [b] pos) (tTest (tOp (fun x y H Q => y = .non ∧ Q (.bl (decide (x = .non))) H) ta tb)) (mTst (mOp (isF false) ra rb)) := jb_cmp op_isN ok_is ha hb (nomark _)
theorem jb_isnot (ha : JR X B EX a ta ra) (hb : JR X B EX b tb rb) : JB X B EX (.Compare a [.IsNot] [b] pos) (tTest (tOp (fun x y H Q => y = .non ∧ Q (.bl (!decide (x = .non))) H) ta tb)) (mTst (mOp (isF true) ra rb)) := jb_cmp op_notN ok_isnot ha hb (nomark _)
theorem jb_in {K : PySem.W.Frag} (hu : X.A.units + 64 < cLine) (ha : JR X B EX a ta ra) (hb : JR X B EX b tb rb) (hm : behindInMarks .In b = false := by with_unfolding_all rfl) (hK : X.K = K := by rfl) : JB X B EX (.Compare a [.In] [b] pos) (tTest (tOp (rInA K false) ta tb)) (mTst (mOp (inAF false) ra rb)) := by
  subst hK
  exact jb_cmp (op_inA hu) ok_inA ha hb hm
theorem jb_notin {K : PySem.W.Frag} (hu : X.A.units + 64 < cLine) (ha : JR X B EX a ta ra) (hb : JR X B EX b tb rb) (hm : behindInMarks .NotIn b = false := by with_unfolding_all rfl) (hK : X.K = K := by rfl) : JB X B EX (.Compare a [.NotIn] [b] pos) (tTest (tOp (rInA K true) ta tb)) (mTst (mOp (inAF true) ra rb)) := by
  subst hK
  exact jb_cmp (op_notInA hu) ok_inA ha hb hm
theorem jb_chain {op op' : CmpOp} {r r' : R2} {f g : D → D → Option D} (ho : OpR X (compareOp op) r) (ho' : OpR X (compareOp op') r') (hk : OpOk r f) (hk' : OpOk r' g) (ha : JR X B EX a ta ra) (hb : JR X B EX b tb rb) (hc : JR X B EX c tc rc) (hm : lastMarks [op, op'] [b, c] = false := by with_unfolding_all rfl) : JB X B EX (.Compare a [op, op'] [b, c] pos) (tTest (tChain r r' ta tb tc)) (mTst (mChain f g ra rb rc)) := ⟨pt_chain ho ho' ha.p hb.p hc.p hm, ev_tst (ev_chain hk hk' ha.v hb.v hc.v)⟩
theorem jb_not (h : JB X B EX e tA gA) : JB X B EX (.UnaryOp .Not e pos) (tNot tA) (mNot gA) := ⟨pt_not h.p, ev_not h.v⟩
theorem jb_w (h : JW X B EX e tA gA) : JB X B EX e tA gA := ⟨h.p.pt, h.v⟩
theorem jw_and1 (h : JB X B EX a tA gA) : JW X B EX (.BoolOp .And [a] pos) tA gA := ⟨pw_and1 h.p, h.v⟩
theorem jw_or1 (h : JB X B EX a tA gA) : JW X B EX (.BoolOp .Or [a] pos) tA gA := ⟨pw_or1 h.p, h.v⟩
theorem jw_and (ha : JB X B EX a tA gA) (hb : JW X B EX (.BoolOp .And (b :: rest) pos) tB' gB) : JW X B EX (.BoolOp .And (a :: b :: rest) pos) (tAnd tA tB') (mAnd gA gB) := ⟨pw_and ha.p hb.p, ev_and ha.v hb.v⟩
theorem jw_or (ha : JB X B EX a tA gA) (hb : JW X B EX (.BoolOp .Or (b :: rest) pos) tB' gB) : JW X B EX (.BoolOp .Or (a :: b :: rest) pos) (tOr tA tB') (mOr gA gB) := ⟨pw_or ha.p hb.p, ev_or ha.v hb.v⟩
theorem je_one {op} (h : JE X B EX a ta fa) : JE X B EX (.BoolOp op [a] pos) ta fa := ⟨pe_one h.p, h.v⟩
theorem je_and (ha : JE X B EX a ta fa) (hb : JE X B EX (.BoolOp .And (b :: rest) pos) tb fb) : JE X B EX (.BoolOp .And (a :: b :: rest) pos) (tAndV ta tb) (mAndV fa fb) := ⟨pe_and ha.p hb.p, ev_andV ha.v hb.v⟩
theorem je_or (ha : JE X B EX a ta fa) (hb : JE X B EX (.BoolOp .Or (b :: rest) pos) tb fb) : JE X B EX (.BoolOp .Or (a :: b :: rest) pos) (tOrV ta tb) (mOrV fa fb) := ⟨pe_or ha.p hb.p, ev_orV ha.v hb.v⟩
theorem je_not (ha : JE X B EX a ta fa) : JE X B EX (.UnaryOp .Not a pos) (tNotV ta) (mNotV fa) := ⟨pe_not ha.p, ev_notV ha.v⟩
theorem je_if (hc : JB X B EX c tA gA) (ha : JE X B EX a ta fa) (hb : JE X B EX b tb fb) : JE X B EX (.IfExp c a b pos) (tIf tA ta tb) (mIf gA fa fb) := ⟨pe_ifExp hc.p ha.p hb.p, ev_if hc.v ha.v hb.v⟩
theorem jbs_nil : JBs X B EX [] tYes mYes := ⟨pts_nil, ev_yes⟩
theorem jbs_one (h : JB X B EX a tA gA) : JBs X B EX [a] tA gA := ⟨pts_one h.p, h.v⟩
/-! ### arguments -/
variable {tl : TA} {fl : M (List D)} {rl : M (List TV)}
theorem ja_nil : JA X B EX [] tNil mNil := ⟨pa_nil, ev_nil⟩
theorem ja_cons (ha : JE X B EX e te fe) (hr : JA X B EX es tl fl) (hs : starEach (e :: es) X.env = (false, eval e X.env) :: starEach es X.env := by rfl) : JA X B EX (e :: es) (tCons te tl) (mCons fe fl) := ⟨pa_cons ha.p hr.p hs, ev_cons ha.v hr.v⟩
theorem jar_nil : JAR X B EX [] tNil mNil := ⟨pa_nil, ev_nilT⟩
theorem jar_cons (ha : JR X B EX e te ra) (hr : JAR X B EX es tl rl) (hs : starEach (e :: es) X.env = (false, eval e X.env) :: starEach es X.env := by rfl) : JAR X B EX (e :: es) (tCons te tl) (mCons ra rl) := ⟨pa_cons ha.p hr.p hs, ev_consT ha.v hr.v⟩
theorem jam_nil : JAM X B EX [] [] tNil mNil := ⟨pa_nil, evm_nil⟩
theorem jam_cons {ms : List Bool} (ha : JE X B EX e te fe) (hr : JAM X B EX ms es tl fl) (hs : starEach (e :: es) X.env = (false, eval e X.env) :: starEach es X.env := by rfl) : JAM X B EX (false :: ms) (e :: es) (tCons te tl) (mCons fe fl) := ⟨pa_cons ha.p hr.p hs, evm_cons ha.v hr.v⟩
theorem jam_own {ms : List Bool} (ha : JF X B EX e te fe) (hr : JAM X B EX ms es tl fl) (hs : starEach (e :: es) X.env = (false, eval e X.env) :: starEach es X.env := by rfl) : JAM X B EX (true :: ms) (e :: es) (tCons te tl) (mCons fe fl) := ⟨pa_cons ha.p hr.p hs, evm_own ha.v hr.v⟩
/-! ### displays, subscripts, slices -/
theorem je_tup {x1} (h : JA X B EX es tl fl) : JE X B EX (.Tuple es x1 pos) (tTup tl) (mTup fl) := ⟨pe_tup h.p, ev_tup h.v⟩
theorem jf_lst (h : JA X B EX es tl fl) : JF X B EX (.List es pos) (tLst tl) (mLst fl) := ⟨pe_lst h.p, evf_lst h.v⟩
theorem je_ix {K : PySem.W.Frag} (ha : JR X B EX a ta ra) (hb : JR X B EX b tb rb) (hs : PlainIx b := by exact fun _ _ => rfl) (hK : X.K = K := by rfl) : JE X B EX (.Subscript a b pos) (tOp (rIx K) ta tb) (mOp ixF ra rb) := by
  subst hK
  exact ⟨pe_ix ix_seq ha.p hb.p hs, ev_op ok_ix ha.v hb.v⟩
theorem jo_none : JO X B EX none tNoPart mNoPart := ⟨po_none, ev_nopart⟩
theorem jo_some (h : JE X B EX e te fe) : JO X B EX (some e) (tPart te) (mPart fe) := ⟨po_some h.p, ev_part h.v⟩
theorem sl_all : SlR X (rSlAll X.K) := (sl_list.or sl_tupA).or sl_str
theorem je_sl {K : PySem.W.Frag} {lo hi : Option Expr} {t1 t2 : TO} {f1 f2 : M (Option Int)} {p2 : Pos} (ha : JR X B EX a ta ra) (hl : JO X B EX lo t1 f1) (hh : JO X B EX hi t2 f2) (hK : X.K = K := by rfl) : JE X B EX (.Subscript a (.Slice lo hi none p2) pos) (tSl (rSlAll K) ta t1 t2) (mSl slF ra f1 f2) := by
  subst hK
  exact ⟨pe_slice sl_all ha.p hl.p hh.p, ev_sl ok_sl ha.v hl.v hh.v⟩
/-! ### built-ins -/
variable {x : Str} {p : Pos}
theorem je_cb {id : String} {r : List V → Hp → VK → Prop} {f : List D → Option D} (hc : CallR X (.builtin id) r) (hk : CallOk r f) (hv : bootBuiltins x = some (.builtin id)) (hm : X.mg x = none) (ha : JAR X B EX (e :: es) tl rl) (hg : Gl X x := by rfl) (hn : x ≠ "__name__" := by decide) (hdb : (x == ("__debug__" : Str)) = false := by decide)
    (he : starEach (e :: es) X.env = (false, eval e X.env) :: starEach es X.env := by rfl) (hpl : (backTo pos (starEach es X.env)).any (·.1) = false := by rfl) : JE X B EX (.Call (.Name x p) (e :: es) [] pos) (tCB r tl) (mCB f rl) := ⟨pe_callB hc hg hm hv ha.p hn hdb he hpl, ev_cb hk ha.v⟩
theorem je_ct {T : String} {r : List V → Hp → VK → Prop} {f : List D → Option D} (hc : CallR X (.type T) r) (hk : CallOk r f) (hv : bootBuiltins x = some (.type T)) (hm : X.mg x = none) (ha : JAR X B EX (e :: es) tl rl) (hg : Gl X x := by rfl) (hn : x ≠ "__name__" := by decide) (hdb : (x == ("__debug__" : Str)) = false := by decide)
    (he : starEach (e :: es) X.env = (false, eval e X.env) :: starEach es X.env := by rfl) (hpl : (backTo pos (starEach es X.env)).any (·.1) = false := by rfl) : JE X B EX (.Call (.Name x p) (e :: es) [] pos) (tCB r tl) (mCB f rl) := ⟨pe_callTy hc hg hm hv ha.p hn hdb he hpl, ev_cb hk ha.v⟩
theorem jf_ct {T : String} {r : List V → Hp → VK → Prop} {f : List D → Option D} (hc : CallR X (.type T) r) (hk : CallOkF r f) (hv : bootBuiltins x = some (.type T)) (hm : X.mg x = none) (ha : JAR X B EX (e :: es) tl rl) (hg : Gl X x := by rfl) (hn : x ≠ "__name__" := by decide) (hdb : (x == ("__debug__" : Str)) = false := by decide)
    (he : starEach (e :: es) X.env = (false, eval e X.env) :: starEach es X.env := by rfl) (hpl : (backTo pos (starEach es X.env)).any (·.1) = false := by rfl) : JF X B EX (.Call (.Name x p) (e :: es) [] pos) (tCB r tl) (mCB f rl) := ⟨pe_callTy hc hg hm hv ha.p hn hdb he hpl, evf_cb hk ha.v⟩
def rLenK (K : PySem.W.Frag) : List V → Hp → VK → Prop := fun xs H Q => ∃ x n, xs = [x] ∧ LenV K x H n ∧ Q (.int n) H
def rTupK (K : PySem.W.Frag) : List V → Hp → VK → Prop := fun xs H Q => ∃ p ys, xs = [.ref p] ∧ ((SqL K H p ys ∧ ∀ l, H l = none → Q (.ref l) (upd H l (.tup ys))) ∨ (SqT K H p ys ∧ Q (.ref p) H))
def rListK (K : PySem.W.Frag) : List V → Hp → VK → Prop := fun xs H Q => ∃ p ys, xs = [.ref p] ∧ (SqL K H p ys ∨ SqT K H p ys) ∧ ∀ l, H l = none → Q (.ref l) (upd H l (.lst ys))
theorem cK_len {K : PySem.W.Frag} (hK : X.K = K) : CallR X (.builtin "len") (rLenK K) := by subst hK; exact call_len
theorem cK_tuple {K : PySem.W.Frag} (hK : X.K = K) : CallR X (.type "tuple") (rTupK K) := by subst hK; exact call_tuple_of
theorem cK_list {K : PySem.W.Frag} (hK : X.K = K) : CallR X (.type "list") (rListK K) := by subst hK; exact call_list_of
theorem cK_all {K : PySem.W.Frag} (hK : X.K = K) (hc : X.calm = true) : CallR X (.builtin "all") (rAll K) := by subst hK; exact cr_all hc
theorem cK_any {K : PySem.W.Frag} (hK : X.K = K) (hc : X.calm = true) : CallR X (.builtin "any") (rAny K) := by subst hK; exact cr_any hc
theorem cK_sum {K : PySem.W.Frag} (hK : X.K = K) (hc : X.calm = true) : CallR X (.builtin "sum") (rSum K) := by subst hK; exact cr_sum hc
theorem okK_len {K : PySem.W.Frag} : CallOk (rLenK K) lenF := ok_len
theorem okK_tuple {K : PySem.W.Frag} : CallOk (rTupK K) tupleF := ok_tuple
theorem okK_list {K : PySem.W.Frag} : CallOkF (rListK K) listF := okF_list
theorem call_intA : CallR X (.type "int") rIntA := call_int1.or call_int_str
/-- isinstance(e, T) -/
theorem je_isi {K : PySem.W.Frag} {T : Str} {n : String} {q : String → Bool} {p2 : Pos} (tab : IsiTab n q) (hb : bootBuiltins T = some (.type n)) (hmT : X.mg T = none) (hm : X.mg "isinstance" = none) (h : JR X B EX e te ra) (hgT : Gl X T := by rfl) (hg : Gl X "isinstance" := by rfl) (hnT : T ≠ "__name__" := by decide) (hdT : (T == ("__debug__" : Str)) = false := by decide)
    (h1 : starEach [e, .Name T p2] X.env = (false, eval e X.env) :: starEach [.Name T p2] X.env := by rfl) (h2 : starEach [.Name T p2] X.env = (false, eval (.Name T p2) X.env) :: starEach [] X.env := by rfl) (hpl : (backTo pos (starEach [.Name T p2] X.env)).any (·.1) = false := by rfl) (hK : X.K = K := by rfl) :
    JE X B EX (.Call (.Name "isinstance" p) [e, .Name T p2] [] pos) (tCB (rIsi K) (tCons te (tCons (tC (.ty n)) tNil))) (mIsi q ra) := by
  subst hK
  exact ⟨pe_callB call_isi hg hm PyProof.Rows.boot_isinstance (pa_cons h.p (pa_cons (pe_bltn (v := .ty n) hgT hmT hb rfl hnT hdT) pa_nil h2) h1) (by decide) (by decide) h1 hpl, ev_isi tab h.v⟩
/-! ### defs of the text -/
end

/-- a def of the text that keeps the promise g, by at most level k -/
def DefV (P : Program) (w : World) (K : PySem.W.Frag) (mg : Str → Option Value) (base : Heap) (CX : CXT) (C : Str → Addr) (x : Str) (ps : List Str) (k : Nat) (g : List D → RR) : Prop :=
  ∃ f fd, FnOk P w K mg base CX k f fd ps (spV C g) ∧ mg x = some (.ref f) ∧ PySem.W.keepIn K (.ref f) = true ∧ Binds K fd ps []
section
variable {X : Cx} {B : Bd} {EX : Str → Hp → Prop} {a b c e : Expr} {es : List Expr} {ta tb tc te : TE} {fa fb fc fe : M D} {ra rb rc : M TV} {pos : Pos} {tl : TA} {fl : M (List D)} {x : Str} {p : Pos}
theorem je_call0 {C : Str → Addr} {ps : List Str} {k j : Nat} {g : List D → RR} (d : DefV X.prog X.w X.K X.mg X.base CX0 C x ps k g) (hr : Room j X.A) (ha : JA X B EX (e :: es) tl fl) (hkj : k ≤ j := by decide) (hg : Gl X x := by rfl) (hdb : (x == ("__debug__" : Str)) = false := by decide)
    (he : starEach (e :: es) X.env = (false, eval e X.env) :: starEach es X.env := by rfl) (hpl : (backTo pos (starEach es X.env)).any (·.1) = false := by rfl) : JE X B EX (.Call (.Name x p) (e :: es) [] pos) (tCall (spV C g) [] E0 tl) (mCall0 g fl) := by
  obtain ⟨f, fd, F, hm, hk, hb⟩ := d
  exact ⟨pe_call F (hr.mono hkj) hg hm hk hb .nil pass0 ha.p hdb he hpl, ev_call0 ha.v⟩
theorem je_callX {C : Str → Addr} {ps : List Str} {k j : Nat} {g : List D → RR} {E : XK} (d : DefV X.prog X.w X.K X.mg X.base (L2N.CX X.prog X.w) C x ps k g) (hr : Room j X.A) (hx : Passes (L2N.CX X.prog X.w) X E) (hE : ∀ c H, EX c H → E (.ref (C c)) none H) (ha : JA X B EX (e :: es) tl fl) (hkj : k ≤ j := by decide) (hg : Gl X x := by rfl) (hdb : (x == ("__debug__" : Str)) = false := by decide)
    (he : starEach (e :: es) X.env = (false, eval e X.env) :: starEach es X.env := by rfl) (hpl : (backTo pos (starEach es X.env)).any (·.1) = false := by rfl) : JE X B EX (.Call (.Name x p) (e :: es) [] pos) (tCall (spV C g) [] E tl) (mCall g fl) := by
  obtain ⟨f, fd, F, hm, hk, hb⟩ := d
  exact ⟨pe_call F (hr.mono hkj) hg hm hk hb .nil hx ha.p hdb he hpl, ev_call hE ha.v⟩
/-! ### iterables, targets -/
variable {tg : Expr} {wi : TI} {fi : M (List D)}
theorem ji_seq {K : PySem.W.Frag} (h : JE X B EX e te fe) (hK : X.K = K := by rfl) : JI X B EX tg e (iSeq K te) (mSeqI fe) := by
  subst hK
  exact ⟨pi_seq h.p, evi_seq h.v⟩
theorem ji_rng1 (hm : X.mg "range" = none) (ha : JA X B EX [a] tl fl) (hg : Gl X "range" := by rfl) (hs : starEach [a] X.env = [(false, eval a X.env)] := by rfl) : JI X B EX tg (.Call (.Name "range" p) [a] [] pos) (iRng1 tl) (mRng1 fl) := ⟨pi_range1 hg hm ha.p hs, evi_rng1 ha.v⟩
theorem ji_rng2 (hm : X.mg "range" = none) (ha : JA X B EX [a, b] tl fl) (hg : Gl X "range" := by rfl) (hs : starEach [a, b] X.env = [(false, eval a X.env), (false, eval b X.env)] := by rfl) (hs2 : starEach [b] X.env = [(false, eval b X.env)] := by rfl) : JI X B EX tg (.Call (.Name "range" p) [a, b] [] pos) (iRng2 tl) (mRng2 fl) := ⟨pi_range2 hg hm ha.p hs hs2, evi_rng2 ha.v⟩
theorem ji_enum {K : PySem.W.Frag} {elts : List Expr} {kk : Nat} {tpos : Pos} (hm : X.mg "enumerate" = none) (ha : JA X B EX [a] tl fl) (hg : Gl X "enumerate" := by rfl) (hs : starEach [a] X.env = [(false, eval a X.env)] := by rfl) (hK : X.K = K := by rfl) : JI X B EX (.Tuple elts kk tpos) (.Call (.Name "enumerate" p) [a] [] pos) (iEnumS K tl) (mEnum fl) := by
  subst hK
  exact ⟨pi_enumS hg hm ha.p hs, evi_enum ha.v⟩
theorem jg_name (i : Nat) {y : Str} (hN : X.N.Nodup) (hi : X.N[i]? = some y := by rfl) (hx : Loc X.env.scope y := by first | exact Or.inl rfl | exact Or.inr rfl) (hf : X.fn y = true ∨ X.env.scope.names.lookup y = some .local := by first | exact .inl rfl | exact .inr rfl) : JG X B (.Name y pos) (gName i) (hName i) [i] := ⟨pg_name hN hi hx hf, eg_name⟩
theorem jgs_nil : JGs X B [] gNil hNil [] := ⟨pgs_nil, egs_nil⟩
theorem jgs_cons {gs : TGs} {g : TG} {h : D → Rho → Option Rho} {hs : List D → Rho → Option Rho} {L Ls : List Nat} (h1 : JG X B e g h L) (h2 : JGs X B es gs hs Ls) (hs' : (assignEach (e :: es) X.env).map (·.2) = assign e X.env :: (assignEach es X.env).map (·.2) := by rfl) : JGs X B (e :: es) (gCons g gs) (hCons h hs) (L ++ Ls) := ⟨pgs_cons h1.p h2.p hs', egs_cons h1.v h2.v⟩
theorem jg_tup {K : PySem.W.Frag} {k n : Nat} {gs : TGs} {hs : List D → Rho → Option Rho} {L : List Nat} (h : JGs X B es gs hs L) (hc : X.calm = true := by rfl) (hn : (assignEach es X.env).length = n := by rfl) (hst : (assignEach es X.env).findIdx? (·.1) = none := by rfl) (hK : X.K = K := by rfl) : JG X B (.Tuple es k pos) (gTup K n gs) (hTup n hs) L := by
  subst hK
  exact ⟨pg_tup hc h.p hn hst, eg_tup h.v⟩
/-! ### comprehensions -/
theorem jf_lc {elt iter : Expr} {ifs : List Expr} {scope : Scope} {own : List (Str × Nat)} {g : TG} {h : D → Rho → Option Rho} {L : List Nat} {tt : TT} {ft : M Bool} (hN : X.N.Nodup) (ok : BlkOk X.N X.env.scope scope own) (hi : JI X B EX tg iter wi fi)
    (hg : ∀ (s : Shared) (H : Hp) (C : Addr) (cl : List (Str × Addr)) (fp : List Addr), JG (X.blk s H scope (compEnvC scope cl C X.env) fp) B tg g h L) (ht : ∀ (s : Shared) (H : Hp) (C : Addr) (cl : List (Str × Addr)) (fp : List Addr), JBs (X.blk s H scope (compEnvC scope cl C X.env) fp) B EX0 ifs tt ft)
    (he : ∀ (s : Shared) (H : Hp) (C : Addr) (cl : List (Str × Addr)) (fp : List Addr), JE (X.blk s H scope (compEnvC scope cl C X.env) fp) B EX0 elt te fe) (hL : ∀ i ∈ L, i ∈ own.map (·.2) := by decide) (hc : X.calm = true := by rfl) (hs : ∀ x, foldedSetIterable iter X.env x = pure x := by intro _; rfl) :
    JF X B EX (.ListComp elt [⟨tg, iter, ifs, 0⟩] scope pos) (tLc wi g tt te (own.map (·.2))) (mLc fi h ft fe (own.map (·.2))) :=
  ⟨pe_lc hc hN hi.p ok (fun s H C cl fp => (hg s H C cl fp).p) (fun s H C cl fp => (ht s H C cl fp).p) (fun s H C cl fp => (he s H C cl fp).p) hs, evf_lc hi.v (hg X.s_0 X.H_0 0 [] []).v (ht X.s_0 X.H_0 0 [] []).v (he X.s_0 X.H_0 0 [] []).v hL⟩
/-! ### statements -/
variable {st : Stmt} {sts : List Stmt} {t u : TS} {f f' : S} {tA : TT} {gA : M Bool}
theorem jss_nil : JSs X B EX [] tNext sNext := ⟨pss_nil, es_next⟩
theorem jss_one (h : JS X B EX st t f) : JSs X B EX [st] t f := ⟨pss_one h.p, h.v⟩
theorem jss_cons (h : JS X B EX st t f) (h2 : JSs X B EX sts u f') : JSs X B EX (st :: sts) (tSeq t u) (sSeq f f') := ⟨pss_cons h.p h2.p, es_seq h.v h2.v⟩
theorem js_pass : JS X B EX (.Pass pos) tNext sNext := ⟨ps_pass, es_next⟩
theorem js_break : JS X B EX (.Break pos) tBreak sBreak := ⟨ps_break, es_break⟩
theorem js_cont : JS X B EX (.Continue pos) tCont sCont := ⟨ps_continue, es_cont⟩
theorem js_expr (h : JE X B EX e te fe) (hs : swapsWith e none pos.line X.env = pure false := by rfl) : JS X B EX (.Expr e pos) (tDrop te) (sDrop fe) := ⟨ps_expr h.p hs, es_drop h.v⟩
theorem js_ret (h : JE X B EX e te fe) : JS X B EX (.Return (some e) pos) (tRet te) (sRet fe) := ⟨ps_ret h.p, es_ret h.v⟩
theorem js_retN : JS X B EX (.Return none pos) tRetN sRetN := ⟨ps_retN, es_retN⟩
theorem js_if {a b : List Stmt} (hc : JB X B EX c tA gA) (ha : JSs X B EX a t f) (hb : JSs X B EX b u f') : JS X B EX (.If c a b pos) (tIfS tA t u) (sIf gA f f') := ⟨ps_if hc.p ha.p hb.p, es_if hc.v ha.v hb.v⟩
theorem js_set (i : Nat) {y : Str} {pos' : Pos} (hN : X.N.Nodup) (h : JE X B EX e te fe) (hi : X.N[i]? = some y := by rfl) (hx : Loc X.env.scope y := by first | exact Or.inl rfl | exact Or.inr rfl) (hs : swapsWith e (some (.Name y pos')) pos.line X.env = pure false := by rfl)
    (hf : X.fn y = true ∨ X.env.scope.names.lookup y = some .local := by first | exact .inl rfl | exact .inr rfl) : JS X B EX (.Assign [.Name y pos'] e pos) (tAsg te (gName i)) (sAsg fe (hName i)) := ⟨ps_set hN hi hx h.p hs hf, es_asg h.v eg_name⟩
theorem js_own (i : Nat) {y : Str} {pos' : Pos} (hN : X.N.Nodup) (h : JF X B EX e te fe) (hi : X.N[i]? = some y := by rfl) (hx : Loc X.env.scope y := by first | exact Or.inl rfl | exact Or.inr rfl) (hs : swapsWith e (some (.Name y pos')) pos.line X.env = pure false := by rfl)
    (hf : X.fn y = true ∨ X.env.scope.names.lookup y = some .local := by first | exact .inl rfl | exact .inr rfl) : JS X B EX (.Assign [.Name y pos'] e pos) (tAsg te (gName i)) (sOwn fe i) := ⟨ps_set hN hi hx h.p hs hf, es_own h.v⟩
theorem setLc_p (i : Nat) {y : Str} {py : Pos} {elt iter : Expr} {ifs : List Expr} {scope : Scope} {own : List (Str × Nat)} {g : TG} {h : D → Rho → Option Rho} {L : List Nat} {tt : TT} {ft : M Bool} (hN : X.N.Nodup) (ok : BlkOk X.N X.env.scope scope own) (hi : JI X B EX tg iter wi fi)
    (hg : ∀ (s : Shared) (H : Hp) (C : Addr) (cl : List (Str × Addr)) (fp : List Addr), JG (X.blk s H scope (compEnvC scope cl C X.env) fp) B tg g h L) (ht : ∀ (s : Shared) (H : Hp) (C : Addr) (cl : List (Str × Addr)) (fp : List Addr), JBs (X.blk s H scope (compEnvC scope cl C X.env) fp) B EX0 ifs tt ft)
    (he : ∀ (s : Shared) (H : Hp) (C : Addr) (cl : List (Str × Addr)) (fp : List Addr), JE (X.blk s H scope (compEnvC scope cl C X.env) fp) B EX0 elt te fe) (hc : X.calm = true) (hy : X.N[i]? = some y) (hyl : X.env.scope.names.lookup y = some .local)
    (hsw : swapsWith (.ListComp elt [⟨tg, iter, ifs, 0⟩] scope pos) (some (.Name y py)) p.line X.env = pure true) (hs : ∀ x, foldedSetIterable iter X.env x = pure x) :
    PS X (.Assign [.Name y py] (.ListComp elt [⟨tg, iter, ifs, 0⟩] scope pos) p) (tAsg (tLc wi g tt te (own.map (·.2))) (gName i)) :=
  ps_setLc hc hN hy hyl hsw hi.p ok (fun s H C cl fp => (hg s H C cl fp).p) (fun s H C cl fp => (ht s H C cl fp).p) (fun s H C cl fp => (he s H C cl fp).p) hs
/-- y = [..], y a local: frozen; owned -/
theorem js_setLc (i : Nat) {y : Str} {py : Pos} {elt iter : Expr} {ifs : List Expr} {scope : Scope} {own : List (Str × Nat)} {g : TG} {h : D → Rho → Option Rho} {L : List Nat} {tt : TT} {ft : M Bool} (hN : X.N.Nodup) (ok : BlkOk X.N X.env.scope scope own) (hi : JI X B EX tg iter wi fi)
    (hg : ∀ (s : Shared) (H : Hp) (C : Addr) (cl : List (Str × Addr)) (fp : List Addr), JG (X.blk s H scope (compEnvC scope cl C X.env) fp) B tg g h L) (ht : ∀ (s : Shared) (H : Hp) (C : Addr) (cl : List (Str × Addr)) (fp : List Addr), JBs (X.blk s H scope (compEnvC scope cl C X.env) fp) B EX0 ifs tt ft)
    (he : ∀ (s : Shared) (H : Hp) (C : Addr) (cl : List (Str × Addr)) (fp : List Addr), JE (X.blk s H scope (compEnvC scope cl C X.env) fp) B EX0 elt te fe) (hsw : swapsWith (.ListComp elt [⟨tg, iter, ifs, 0⟩] scope pos) (some (.Name y py)) p.line X.env = pure true) (hL : ∀ i ∈ L, i ∈ own.map (·.2) := by decide) (hc : X.calm = true := by rfl) (hy : X.N[i]? = some y := by rfl) (hyl : X.env.scope.names.lookup y = some .local := by rfl)
    (hs : ∀ x, foldedSetIterable iter X.env x = pure x := by intro _; rfl) :
    JS X B EX (.Assign [.Name y py] (.ListComp elt [⟨tg, iter, ifs, 0⟩] scope pos) p) (tAsg (tLc wi g tt te (own.map (·.2))) (gName i)) (sAsg (mLc fi h ft fe (own.map (·.2))) (hName i)) :=
  ⟨setLc_p i hN ok hi hg ht he hc hy hyl hsw hs, es_asg (ev_ofF (evf_lc hi.v (hg X.s_0 X.H_0 0 [] []).v (ht X.s_0 X.H_0 0 [] []).v (he X.s_0 X.H_0 0 [] []).v hL)) eg_name⟩
theorem js_ownLc (i : Nat) {y : Str} {py : Pos} {elt iter : Expr} {ifs : List Expr} {scope : Scope} {own : List (Str × Nat)} {g : TG} {h : D → Rho → Option Rho} {L : List Nat} {tt : TT} {ft : M Bool} (hN : X.N.Nodup) (ok : BlkOk X.N X.env.scope scope own) (hi : JI X B EX tg iter wi fi)
    (hg : ∀ (s : Shared) (H : Hp) (C : Addr) (cl : List (Str × Addr)) (fp : List Addr), JG (X.blk s H scope (compEnvC scope cl C X.env) fp) B tg g h L) (ht : ∀ (s : Shared) (H : Hp) (C : Addr) (cl : List (Str × Addr)) (fp : List Addr), JBs (X.blk s H scope (compEnvC scope cl C X.env) fp) B EX0 ifs tt ft)
    (he : ∀ (s : Shared) (H : Hp) (C : Addr) (cl : List (Str × Addr)) (fp : List Addr), JE (X.blk s H scope (compEnvC scope cl C X.env) fp) B EX0 elt te fe) (hsw : swapsWith (.ListComp elt [⟨tg, iter, ifs, 0⟩] scope pos) (some (.Name y py)) p.line X.env = pure true) (hL : ∀ i ∈ L, i ∈ own.map (·.2) := by decide) (hc : X.calm = true := by rfl) (hy : X.N[i]? = some y := by rfl) (hyl : X.env.scope.names.lookup y = some .local := by rfl)
    (hs : ∀ x, foldedSetIterable iter X.env x = pure x := by intro _; rfl) :
    JS X B EX (.Assign [.Name y py] (.ListComp elt [⟨tg, iter, ifs, 0⟩] scope pos) p) (tAsg (tLc wi g tt te (own.map (·.2))) (gName i)) (sOwn (mLc fi h ft fe (own.map (·.2))) i) :=
  ⟨setLc_p i hN ok hi hg ht he hc hy hyl hsw hs, es_own (evf_lc hi.v (hg X.s_0 X.H_0 0 [] []).v (ht X.s_0 X.H_0 0 [] []).v (he X.s_0 X.H_0 0 [] []).v hL)⟩
/-- target = e, any target -/
theorem js_asg {g : TG} {h : D → Rho → Option Rho} {L : List Nat} (he : JE X B EX e te fe) (hg : JG X B tg g h L) (hs : swapsWithSole [tg] e pos.line X.env = pure false := by rfl) (hw : swappedStores [tg] e X.env = pure none := by rfl)
    (h1 : (assignEach [tg] X.env).map (·.2) = [assign tg X.env] := by rfl) : JS X B EX (.Assign [tg] e pos) (tAsg te g) (sAsg fe h) := ⟨ps_asg he.p hg.p hs hw h1, es_asg he.v hg.v⟩
theorem js_par2 (i j : Nat) {ms : List Bool} {x y : Str} {px py pt pt2 : Pos} {kt k2} (hN : X.N.Nodup) (ha : JAM X B EX ms [a, b] tl fl) (hc : X.calm = true := by rfl) (hi : X.N[i]? = some x := by rfl) (hj : X.N[j]? = some y := by rfl) (hij : i ≠ j := by decide) (hx : X.env.scope.names.lookup x = some .local := by rfl) (hy : X.env.scope.names.lookup y = some .local := by rfl)
    (hw : swappedStores [.Tuple [.Name x px, .Name y py] kt pt] (.Tuple [a, b] k2 pt2) X.env = pure (some [x, y]) := by rfl) (hs : swapsWithSole [.Tuple [.Name x px, .Name y py] kt pt] (.Tuple [a, b] k2 pt2) pos.line X.env = pure false := by rfl) :
    JS X B EX (.Assign [.Tuple [.Name x px, .Name y py] kt pt] (.Tuple [a, b] k2 pt2) pos) (tPar i j tl) (sPar ms [i, j] fl) := ⟨ps_par hc hN hi hj hij hx hy ha.p hw hs, es_par2 ha.v⟩
theorem js_par3 (i j l : Nat) {ms : List Bool} {x y z : Str} {px py pz pt pt2 : Pos} {kt k2} (hN : X.N.Nodup) (ha : JAM X B EX ms [a, b, c] tl fl) (hc : X.calm = true := by rfl) (hi : X.N[i]? = some x := by rfl) (hj : X.N[j]? = some y := by rfl) (hl : X.N[l]? = some z := by rfl) (hij : i ≠ j := by decide) (hil : i ≠ l := by decide) (hjl : j ≠ l := by decide) (hx : X.env.scope.names.lookup x = some .local := by rfl) (hy : X.env.scope.names.lookup y = some .local := by rfl) (hz : X.env.scope.names.lookup z = some .local := by rfl)
    (hw : swappedStores [.Tuple [.Name x px, .Name y py, .Name z pz] kt pt] (.Tuple [a, b, c] k2 pt2) X.env = pure (some [x, y, z]) := by rfl) (hs : swapsWithSole [.Tuple [.Name x px, .Name y py, .Name z pz] kt pt] (.Tuple [a, b, c] k2 pt2) pos.line X.env = pure false := by rfl) :
    JS X B EX (.Assign [.Tuple [.Name x px, .Name y py, .Name z pz] kt pt] (.Tuple [a, b, c] k2 pt2) pos) (tPar3 i j l tl) (sPar ms [i, j, l] fl) := ⟨ps_par3 hc hN hi hj hl hij hil hjl hx hy hz ha.p hw hs, es_par3 ha.v⟩
/-- several names at once, some of them cells -/
theorem js_parT {K : PySem.W.Frag} {ms : List Bool} {is : List Nat} {n k2 : Nat} {pt2 : Pos} {tgs : List Expr} {kt : Nat} {pt : Pos} (ha : JAM X B EX ms es tl fl) (hg : PG X (.Tuple tgs kt pt) (gTup K n (gNames is))) (hn : is.length = n := by rfl) (hn2 : n ≤ 100 := by decide) (hs : swapsWithSole [.Tuple tgs kt pt] (.Tuple es k2 pt2) pos.line X.env = pure false := by rfl) (hw : swappedStores [.Tuple tgs kt pt] (.Tuple es k2 pt2) X.env = pure none := by rfl)
    (h1 : (assignEach [.Tuple tgs kt pt] X.env).map (·.2) = [assign (.Tuple tgs kt pt) X.env] := by rfl) (hK : X.K = K := by rfl) : JS X B EX (.Assign [.Tuple tgs kt pt] (.Tuple es k2 pt2) pos) (tAsg (tTup tl) (gTup K n (gNames is))) (sPar ms is fl) := by
  subst hK
  exact ⟨ps_asg (pe_tup ha.p) hg hs hw h1, es_parT ha.v hn hn2⟩
theorem js_append {K : PySem.W.Frag} (i : Nat) {y : Str} {p1 p2 p3 : Pos} (h : JE X B EX e te fe) (hN : X.N[i]? = some y := by rfl) (hv : Vis X.env.scope y := by first | exact Or.inl rfl | exact Or.inr (Or.inl rfl) | exact Or.inr (Or.inr rfl)) (hd : (y == ("__debug__" : Str)) = false := by decide) (hcd : (y == ("__classdict__" : Str)) = false := by decide)
    (hst : starEach [e] X.env = (false, eval e X.env) :: starEach [] X.env := by rfl) (hline : (p2.endLine == p3.line) = true := by rfl)
    (hfew : ((backTo p3 (starEach [e] X.env)).all (fun x => !x.1) && (backToKw p3 (keywordEach [] X.env)).all (fun x => x.1.isSome) && decide (([e] : List Expr).length + ([] : List Keyword).length + (if ([] : List Keyword).isEmpty then 0 else 1) < 30)) = true := by rfl)
    (hbase : attributeBase (.Name y p1) "append" X.env (eval (.Name y p1) X.env) = eval (.Name y p1) X.env := by rfl) (hpl : (backTo p3 (starEach [] X.env)).any (·.1) = false := by rfl) (hs : swapsWith (.Call (.Attribute (.Name y p1) "append" p2) [e] [] p3) none pos.line X.env = pure false := by rfl) (hK : X.K = K := by rfl) :
    JS X B EX (.Expr (.Call (.Attribute (.Name y p1) "append" p2) [e] [] p3) pos) (tDrop (tBM K "list" rAppend (tVar i) (tCons te tNil))) (sAppend i fe) := by
  subst hK
  exact ⟨ps_expr (pe_bm PySem.F.plainAttrs_list PySem.F.slot_list_append PySem.F.type_list_append mt_append (pv i hN hv hd hcd) (pa_cons h.p pa_nil hst) hbase hfew hline hst hpl) hs, es_append h.v⟩
theorem je_pop {K : PySem.W.Frag} (i : Nat) {y : Str} {p1 p2 : Pos} (hN : X.N[i]? = some y := by rfl) (hv : Vis X.env.scope y := by first | exact Or.inl rfl | exact Or.inr (Or.inl rfl) | exact Or.inr (Or.inr rfl)) (hd : (y == ("__debug__" : Str)) = false := by decide) (hcd : (y == ("__classdict__" : Str)) = false := by decide)
    (hbase : attributeBase (.Name y p1) "pop" X.env (eval (.Name y p1) X.env) = eval (.Name y p1) X.env := by rfl) (hline : (p2.endLine == pos.line) = true := by rfl) (hK : X.K = K := by rfl) : JE X B EX (.Call (.Attribute (.Name y p1) "pop" p2) [] [] pos) (tBM0 K "list" rPop (tVar i)) (mPop i) := by
  subst hK
  exact ⟨pe_bm0 PySem.F.plainAttrs_list PySem.F.slot_list_pop PySem.F.type_list_pop mt_pop (pv i hN hv hd hcd) hbase hline, ev_pop⟩
theorem js_setitem (i : Nat) {y : Str} {k : Expr} {tk : TE} {fk : M D} {p1 p2 : Pos} (he : JE X B EX e te fe) (hk : JE X B EX k tk fk) (hN : X.N[i]? = some y := by rfl) (hv : Vis X.env.scope y := by first | exact Or.inl rfl | exact Or.inr (Or.inl rfl) | exact Or.inr (Or.inr rfl)) (hd : (y == ("__debug__" : Str)) = false := by decide) (hcd : (y == ("__classdict__" : Str)) = false := by decide)
    (hsub : ∀ v, assign (.Subscript (.Name y p1) k p2) X.env v = (do
      let ov ← holding [v] (eval (.Name y p1) X.env)
      let iv ← holding [v, ov] (eval k X.env)
      standAt p2
      holding [v, ov, iv] (setItem ov iv v)
      release [v, ov, iv] []) := by intro _; rfl)
    (hs : swapsWithSole [.Subscript (.Name y p1) k p2] e pos.line X.env = pure false := by rfl) (hw : swappedStores [.Subscript (.Name y p1) k p2] e X.env = pure none := by rfl)
    (h1 : (assignEach [.Subscript (.Name y p1) k p2] X.env).map (·.2) = [assign (.Subscript (.Name y p1) k p2) X.env] := by rfl) :
    JS X B EX (.Assign [.Subscript (.Name y p1) k p2] e pos) (tAsg te (gSub (tVar i) tk rSetL)) (sSetItem i fe fk) :=
  ⟨ps_asg he.p (pg_sub (pv i hN hv hd hcd) hk.p set_list hsub) hs hw h1, es_setitem he.v hk.v⟩
theorem js_for {iter : Expr} {body : List Stmt} {g : TG} {h : D → Rho → Option Rho} {L : List Nat} (hp : PassesOwn (model X.prog X.w) X.A X.env X.xe) (hi : JI X B EX tg iter wi fi) (hg : JG X B tg g h L) (hb : JSs X B EX body t f) (hc : X.calm = true := by rfl) (hs : ∀ x, foldedSetIterable iter X.env x = pure x := by intro _; rfl) :
    JS X B EX (.For tg iter body [] pos) (tFor wi g t) (sFor fi h f) := ⟨ps_for hp hc hi.p hg.p hb.p hs, es_for hi.v hg.v hb.v⟩
theorem js_while {body : List Stmt} (n : Nat) (hp : PassesOwn (model X.prog X.w) X.A X.env X.xe) (hc : JB X B EX c tA gA) (hb : JSs X B EX body t f) : JS X B EX (.While c body [] pos) (tWhile tA t) (whileGo gA f n) := ⟨ps_while hp hc.p hb.p, es_while hc.v hb.v⟩
end

end Rn
end

section
set_option Elab.async false
set_option linter.all false
set_option autoImplicit false
set_option maxRecDepth 100000
/-! Core8: defs by what the head tells; raising. -/
namespace Rn
open PySem PySem.Spec L2

abbrev FnP (K : PySem.W.Frag) (x : Str) (st : Stmt) (f : Addr) (fd : FuncData) : Prop := FunD K x x (defArgs st) (defBody st) (defScope st) [] [] f fd
/-- a def of the text, with its name and parameters -/
def HasF (K : PySem.W.Frag) (mg : Str → Option Value) (x : Str) (st : Stmt) (ps : List Str) : Prop := ∃ f fd, FnP K x st f fd ∧ mg x = some (.ref f) ∧ Binds K fd ps []
structure ExcF (K : PySem.W.Frag) (mg : Str → Option Value) (C : Str → Addr) (x : Str) : Prop where
  g : mg x = some (.ref (C x))
  q : PySem.W.excIn K (C x) He.veBase "ValueError.__new__" = true
  k : PySem.W.keepIn K (.ref (C x)) = true
  s : PySem.W.subIn K (.ref (C x)) (.type "BaseException") = some true
  t : PySem.W.typeIn K (.ref (C x)) = some (.type "type")
section
variable {P : Program} {w : World} {K : PySem.W.Frag} {mg : Str → Option Value} {base : Heap} {C : Str → Addr}
theorem def_v0 {x : Str} {st : Stmt} {N ps : List Str} {k : Nat} {body : S} (h : HasF K mg x st ps) (Sc : FnScope N ps (defScope st))
    (hb : ∀ (f : Addr) (cdv : Value) (A : Around) (outer : List Env) (s : Shared) (H : Hp) (E : XK), Room k (A.deeper (PyProof.Rows.envOfC x (defScope st) s.heap.objs.size f cdv)) →
      ∃ t, ∀ (B : Bd) (EX : Str → Hp → Prop), JSs (cxOf CX0 P w K mg base N x (defScope st) f cdv A outer s H E).nox B EX (defBody st) t body) :
    DefV P w K mg base CX0 C x ps (k + 1) (callD ps.length N.length body) := by
  obtain ⟨f, fd, F, hm, hbd⟩ := h
  refine ⟨f, fd, F.ok Sc (fun vs H Q E h => spV_len h) (fun cdv A outer s H vs Q E hr h => ?_), hm, F.kp, hbd⟩
  obtain ⟨t, ht⟩ := hb f cdv A outer s H E hr
  exact ⟨t, PSs.nox (ht ⟨H, H, [], [], []⟩ EX0).p, body_ok h fun F => (ht _ _).v⟩
theorem def_vX {x : Str} {st : Stmt} {N ps : List Str} {k : Nat} {body : S} (h : HasF K mg x st ps) (Sc : FnScope N ps (defScope st))
    (hb : ∀ (f : Addr) (cdv : Value) (A : Around) (outer : List Env) (s : Shared) (H : Hp) (E : XK), Room k (A.deeper (PyProof.Rows.envOfC x (defScope st) s.heap.objs.size f cdv)) →
      ∃ t, ∀ (B : Bd), JSs (cxOf (L2N.CX P w) P w K mg base N x (defScope st) f cdv A outer s H E) B (fun c H' => E (.ref (C c)) none H') (defBody st) t body) :
    DefV P w K mg base (L2N.CX P w) C x ps (k + 1) (callD ps.length N.length body) := by
  obtain ⟨f, fd, F, hm, hbd⟩ := h
  refine ⟨f, fd, F.ok Sc (fun vs H Q E h => spV_len h) (fun cdv A outer s H vs Q E hr h => ?_), hm, F.kp, hbd⟩
  obtain ⟨t, ht⟩ := hb f cdv A outer s H E hr
  exact ⟨t, (ht ⟨H, H, [], [], []⟩).p, body_ok h fun F => (ht _).v⟩
/-- a call in the body of a def that may raise -/
theorem je_call {qual : Str} {N : List Str} {scope : Scope} {f : Addr} {cdv : Value} {A : Around} {outer : List Env} {s : Shared} {H : Hp} {E : XK} {B : Bd} {x : Str} {p pos : Pos} {e : Expr} {es : List Expr} {tl : TA} {fl : M (List D)} {ps : List Str} {k j : Nat} {g : List D → RR}
    (d : DefV P w K mg base (L2N.CX P w) C x ps k g) (hr : Room j (cxOf (L2N.CX P w) P w K mg base N qual scope f cdv A outer s H E).A) (ha : JA (cxOf (L2N.CX P w) P w K mg base N qual scope f cdv A outer s H E) B (fun c H' => E (.ref (C c)) none H') (e :: es) tl fl) (hkj : k ≤ j := by decide)
    (hg : Gl (cxOf (L2N.CX P w) P w K mg base N qual scope f cdv A outer s H E) x := by rfl) (hdb : (x == ("__debug__" : Str)) = false := by decide)
    (he : starEach (e :: es) (cxOf (L2N.CX P w) P w K mg base N qual scope f cdv A outer s H E).env = (false, eval e (cxOf (L2N.CX P w) P w K mg base N qual scope f cdv A outer s H E).env) :: starEach es (cxOf (L2N.CX P w) P w K mg base N qual scope f cdv A outer s H E).env := by rfl)
    (hpl : (backTo pos (starEach es (cxOf (L2N.CX P w) P w K mg base N qual scope f cdv A outer s H E).env)).any (·.1) = false := by rfl) :
    JE (cxOf (L2N.CX P w) P w K mg base N qual scope f cdv A outer s H E) B (fun c H' => E (.ref (C c)) none H') (.Call (.Name x p) (e :: es) [] pos) (tCall (spV C g) [] E tl) (mCall g fl) :=
  je_callX (X := cxOf (L2N.CX P w) P w K mg base N qual scope f cdv A outer s H E) d hr (L2N.passes_call (W := fun cls d _ H => E cls d H) (L2N.takes_of rfl rfl rfl rfl) (fun _ _ _ _ q => q)) (fun _ _ q => q) ha hkj hg hdb he hpl
theorem js_raise {qual : Str} {N : List Str} {scope : Scope} {f : Addr} {cdv : Value} {A : Around} {outer : List Env} {s : Shared} {H : Hp} {E : XK} {B : Bd} {x m : Str} {j : Nat} {p p2 p3 pos : Pos} (c : ExcF K mg C x) (hg : Gl (cxOf (L2N.CX P w) P w K mg base N qual scope f cdv A outer s H E) x := by rfl) (hdb : (x == ("__debug__" : Str)) = false := by decide) :
    JS (cxOf (L2N.CX P w) P w K mg base N qual scope f cdv A outer s H E) B (fun c H' => E (.ref (C c)) none H') (.Raise (some (.Call (.Name x p) [.Constant (.str m) j p2] [] p3)) none pos)
      (fun _ σ H => (fun (_ : L2.St) H (Q : XK) => Q (.ref (C x)) none H) σ H fun cls d H' => (fun cls d (_ : L2.St) H => E cls d H) cls d σ H') (sRaise x) :=
  ⟨L2N.ps_raise rfl (L2N.takes_of rfl rfl rfl rfl) (L2N.pmk_own PySem.F.excBase_ValueError c.q c.g c.k (raises_own c.s c.t) hg hdb), es_raise fun _ q => q⟩
theorem pass_own {qual : Str} {N : List Str} {scope : Scope} {f : Addr} {cdv : Value} {A : Around} {outer : List Env} {s : Shared} {H : Hp} {E : XK} : PassesOwn (model P w) (cxOf (L2N.CX P w) P w K mg base N qual scope f cdv A outer s H E).A (cxOf (L2N.CX P w) P w K mg base N qual scope f cdv A outer s H E).env (cxOf (L2N.CX P w) P w K mg base N qual scope f cdv A outer s H E).xe := passes_of rfl
theorem je_gi {X : Cx} {B : Bd} {EX : Str → Hp → Prop} {pos : Pos} {x : Str} {i : Int} (hm : ∃ t, X.mg x = some (.int i t)) (hg : Gl X x := by rfl) (hd : (x == ("__debug__" : Str)) = false := by decide) : JE X B EX (.Name x pos) (tC (.int i)) (ret (.int i)) := by
  obtain ⟨t, h⟩ := hm
  exact je_gint h hg hd
end
end Rn
end

section
set_option Elab.async false
set_option linter.all false
set_option autoImplicit false
set_option maxRecDepth 100000
/-! Core9: sorted, three-argument max and min. -/
namespace Rn
open PySem PySem.Spec L2

/-! ### sorting data -/
def ins (x : D) : List D → List D
  | [] => [x]
  | y :: ys => if PySem.W.dataLt y x = true then y :: ins x ys else x :: y :: ys
def isort : List D → List D
  | [] => []
  | x :: xs => ins x (isort xs)
abbrev dle (x y : D) : Prop := PySem.W.dataLt y x = false
theorem dle_total (x y : D) : dle x y ∨ dle y x := by
  by_cases h : PySem.W.dataLt y x = true
  · right
    cases e : PySem.W.dataLt x y with
    | false => exact e
    | true =>
      have t := PyProof.Rows.lex_trans _ _ _ h e
      rw [PyProof.Rows.lex_irrefl] at t
      cases t
  · left; simpa using h
theorem dle_trans {x y z : D} (h1 : dle x y) (h2 : dle y z) : dle x z := by
  cases e : PySem.W.dataLt z x with
  | false => exact e
  | true =>
    rcases PyProof.Rows.lex_negTrans _ (PySem.W.keyToks y) _ e with h | h
    · exact absurd h (by rw [show PyProof.Rows.lexLt PyProof.Rows.itemOrd (PySem.W.keyToks z) (PySem.W.keyToks y) = false from h2]; decide)
    · exact absurd h (by rw [show PyProof.Rows.lexLt PyProof.Rows.itemOrd (PySem.W.keyToks y) (PySem.W.keyToks x) = false from h1]; decide)
theorem ins_perm (x : D) : ∀ ys : List D, (ins x ys).Perm (x :: ys)
  | [] => .refl _
  | y :: ys => by
    unfold ins
    split
    · exact ((ins_perm x ys).cons y).trans (.swap x y ys)
    · exact .refl _
theorem isort_perm : ∀ xs : List D, (isort xs).Perm xs
  | [] => .refl _
  | x :: xs => (ins_perm x _).trans ((isort_perm xs).cons x)
theorem ins_pw (x : D) : ∀ ys : List D, ys.Pairwise dle → (ins x ys).Pairwise dle
  | [], _ => List.pairwise_singleton _ _
  | y :: ys, h => by
    obtain ⟨h1, h2⟩ := List.pairwise_cons.mp h
    unfold ins
    split
    · next e =>
      refine List.pairwise_cons.mpr ⟨fun z hz => ?_, ins_pw x ys h2⟩
      rcases List.mem_cons.mp ((ins_perm x ys).mem_iff.mp hz) with rfl | hz
      · rcases dle_total y z with q | q
        · exact q
        · rw [show PySem.W.dataLt y z = false from q] at e; cases e
      · exact h1 z hz
    · next e =>
      have e' : dle x y := by simpa using e
      refine List.pairwise_cons.mpr ⟨fun z hz => ?_, h⟩
      rcases List.mem_cons.mp hz with rfl | hz
      · exact e'
      · exact dle_trans e' (h1 z hz)
theorem isort_pw : ∀ xs : List D, (isort xs).Pairwise dle
  | [] => .nil
  | x :: xs => ins_pw x _ (isort_pw xs)
mutual
theorem toks_inj : ∀ (x y : D) (l m : List (Int ⊕ List Nat)), PySem.W.alike x y = true → PySem.W.keyToks x ++ l = PySem.W.keyToks y ++ m → x = y ∧ l = m
  | .none, y, l, m, h, e => by
    cases y <;> simp [PySem.W.alike] at h
    exact ⟨rfl, by simpa [PySem.W.keyToks] using e⟩
  | .bool a, y, l, m, h, e => by
    cases y <;> simp [PySem.W.alike] at h
    next b =>
      simp only [PySem.W.keyToks, List.cons_append, List.nil_append, List.cons.injEq, Sum.inl.injEq] at e
      cases a <;> cases b <;> simp_all
  | .int a, y, l, m, h, e => by
    cases y <;> simp [PySem.W.alike] at h
    simp only [PySem.W.keyToks, List.cons_append, List.nil_append, List.cons.injEq, Sum.inl.injEq] at e
    exact ⟨by rw [e.1], e.2⟩
  | .str a, y, l, m, h, e => by
    cases y <;> simp [PySem.W.alike] at h
    simp only [PySem.W.keyToks, List.cons_append, List.nil_append, List.cons.injEq, Sum.inr.injEq] at e
    exact ⟨by rw [PySem.W.str_of_cps e.1], e.2⟩
  | .list xs, y, l, m, h, e => by
    cases y <;> simp [PySem.W.alike] at h
    simp only [PySem.W.keyToks] at e
    obtain ⟨a, b⟩ := toksAll_inj xs _ l m h e
    exact ⟨by rw [a], b⟩
  | .tuple xs, y, l, m, h, e => by
    cases y <;> simp [PySem.W.alike] at h
    simp only [PySem.W.keyToks] at e
    obtain ⟨a, b⟩ := toksAll_inj xs _ l m h e
    exact ⟨by rw [a], b⟩
  | .dict _, y, l, m, h, e => by
    cases y <;> simp [PySem.W.alike] at h
theorem toksAll_inj : ∀ (xs ys : List D) (l m : List (Int ⊕ List Nat)), PySem.W.alikeAll xs ys = true → PySem.W.keyToksAll xs ++ l = PySem.W.keyToksAll ys ++ m → xs = ys ∧ l = m
  | [], [], l, m, _, e => ⟨rfl, by simpa [PySem.W.keyToksAll] using e⟩
  | [], y :: ys, l, m, _, e => by simp [PySem.W.keyToksAll] at e
  | x :: xs, [], l, m, _, e => by simp [PySem.W.keyToksAll] at e
  | x :: xs, y :: ys, l, m, h, e => by
    obtain ⟨h1, h2⟩ := PySem.W.alike_all_cons h
    simp only [PySem.W.keyToksAll, List.cons_append, List.append_assoc, List.cons.injEq, true_and] at e
    obtain ⟨a, b⟩ := toks_inj x y _ _ h1 e
    obtain ⟨c, d⟩ := toksAll_inj xs ys _ _ h2 b
    exact ⟨by rw [a, c], d⟩
end
theorem dle_anti {x y : D} (h : PySem.W.alike x y = true) (h1 : dle x y) (h2 : dle y x) : x = y :=
  (toks_inj x y [] [] h (by rw [PyProof.Rows.lex_total _ _ h2 h1])).1
theorem isort_uniq {l ds : List D} (al : PySem.W.AllAlike ds) (p : l.Perm ds) (s : l.Pairwise dle) : l = isort ds :=
  List.Perm.eq_of_pairwise (le := dle) (fun a b ha hb h1 h2 => dle_anti (al a (p.mem_iff.mp ha) b ((isort_perm ds).mem_iff.mp hb)) h1 h2) s (isort_pw ds) (p.trans (isort_perm ds).symm)
theorem merge_isort {β : Type} (enc : β → D) (bs : List β) (al : PySem.W.AllAlike (bs.map enc)) : (bs.mergeSort (PySem.W.dataLe false enc)).map enc = isort (bs.map enc) := by
  refine isort_uniq al ((List.mergeSort_perm _ _).map enc) ?_
  refine List.pairwise_map.mpr ((List.pairwise_mergeSort (le := PySem.W.dataLe false enc) (fun a b c h1 h2 => ?_) (fun a b => ?_) bs).imp fun {a b} h => ?_)
  · have h1' : dle (enc a) (enc b) := by simpa [PySem.W.dataLe_eq] using h1
    have h2' : dle (enc b) (enc c) := by simpa [PySem.W.dataLe_eq] using h2
    have := dle_trans h1' h2'
    simpa [PySem.W.dataLe_eq] using this
  · have := dle_total (enc a) (enc b)
    simpa [PySem.W.dataLe_eq] using this
  · simpa [PySem.W.dataLe_eq] using h
/-- data that sorted can sort -/
def isTup1 : D → Bool
  | .tuple (_ :: _) => true
  | _ => false
def isOth : D → Bool
  | .none => false
  | .tuple _ => false
  | _ => true
def sortOk (ds : List D) : Bool := (ds.all fun x => ds.all fun y => PySem.W.alike x y) && (ds.all isTup1 || ds.all isOth) && PyData.plainAll ds && decide (ds.length ≤ big) && ds.all fun d => decide (d.depth ≤ 60)
theorem sortOk_parts {ds : List D} (h : sortOk ds = true) : PySem.W.AllAlike ds ∧ PySem.W.Sortable ds ∧ PyData.plainAll ds = true ∧ ds.length ≤ big ∧ ∀ d ∈ ds, d.depth ≤ 60 := by
  unfold sortOk at h
  simp only [Bool.and_eq_true, Bool.or_eq_true, decide_eq_true_eq] at h
  obtain ⟨⟨⟨⟨h1, h2⟩, h3⟩, h4⟩, h5⟩ := h
  refine ⟨fun d hd e he => List.all_eq_true.mp (List.all_eq_true.mp h1 d hd) e he, ?_, h3, h4, fun d hd => by simpa using List.all_eq_true.mp h5 d hd⟩
  rcases h2 with h2 | h2
  · refine .inl fun d hd => ?_
    have q := List.all_eq_true.mp h2 d hd
    unfold isTup1 at q
    split at q
    · exact ⟨_, _, rfl⟩
    · cases q
  · refine .inr fun d hd => ?_
    have q := List.all_eq_true.mp h2 d hd
    unfold isOth at q
    split at q <;> first | cases q | exact ⟨by rintro rfl; contradiction, by rintro xs rfl; contradiction⟩ | skip
    next a b => exact ⟨fun e => a e, fun xs e => b xs e⟩
def sortF : List D → Option D
  | [.list ds] => if sortOk ds = true then some (.list (isort ds)) else none
  | _ => none
def rSortD (K : PySem.W.Frag) : List V → Hp → VK → Prop := fun vs H Q => ∃ (a : Addr) (xs : List V) (ds : List D), vs = [V.ref a] ∧ SqL K H a xs ∧ DpAll K H xs ds ∧ sortOk ds = true ∧
  ∀ p ys (bs : List (V × D)), bs.Perm (xs.zip ds) → bs.map (·.2) = isort ds → ys = bs.map (·.1) → H p = none → Q (.ref p) (upd H p (.lst ys))
theorem vals_zip : ∀ {xs : List V} {its : List Value} (ds : List D), Vals xs its → ds.length = xs.length → PySem.W.EachIs (fun (u : Value) (b : V × D) => RelV b.1 u) its (xs.zip ds)
  | [], its, ds, r, h => by
    cases r
    cases ds with
    | nil => exact .nil
    | cons => simp at h
  | x :: xs, its, ds, r, h => by
    cases r with
    | cons r1 r2 =>
      cases ds with
      | nil => simp at h
      | cons d ds => exact .cons r1 (vals_zip ds r2 (by simpa using h))
theorem each_vals : ∀ {its : List Value} {bs : List (V × D)}, PySem.W.EachIs (fun (u : Value) (b : V × D) => RelV b.1 u) its bs → Vals (bs.map (·.1)) its
  | _, _, .nil => .nil
  | _, _, .cons h t => .cons h (each_vals t)
theorem dpAll_len {K : PySem.W.Frag} {H : Hp} : ∀ {vs : List V} {ds : List D}, DpAll K H vs ds → ds.length = vs.length
  | _, _, .nil => rfl
  | _, _, .cons _ t => by simp [dpAll_len t]
theorem reads_zip {X : Cx} {pins : List (Addr × Obj)} {s : Shared} {σ : L2.St} {H : Hp} (I : Inv X pins σ H s) : ∀ {xs : List V} {its : List Value} {ds : List D}, Vals xs its → DpAll X.K H xs ds → PySem.W.EachIs (fun (u : Value) (b : V × D) => ∃ as, Reads s.heap u b.2 as) its (xs.zip ds)
  | [], its, ds, r, h => by
    cases r
    cases h
    exact .nil
  | x :: xs, its, ds, r, h => by
    cases r with
    | cons r1 r2 =>
      cases h with
      | cons h1 h2 => exact .cons (Dp.reads I _ _ _ h1 r1) (reads_zip I r2 h2)
theorem call_sortD {X : Cx} (hu : X.A.units + 64 < cLine) : CallR X (.builtin "sorted") (rSortD X.K) := by
  intro pins s σ H vs us Q I r h
  obtain ⟨a, xs, ds, rfl, hs, hd, ok, q⟩ := h
  obtain ⟨al, so, pl, le, dp⟩ := sortOk_parts ok
  obtain ⟨its, rv, hl, hz⟩ := I.list hs
  obtain ⟨u, rfl, ru⟩ := vals1 r
  obtain rfl : u = Value.ref a := ru
  have hlen := dpAll_len hd
  have e2 : (xs.zip ds).map (·.2) = ds := List.map_snd_zip (by omega)
  refine PySem.W.sorted_data (enc := fun b : V × D => b.2) (R := fun u b => RelV b.1 u) (bs := xs.zip ds) hl.isList (vals_zip ds rv hlen) (reads_zip I rv hd) (by rw [e2]; exact al) (by rw [e2]; exact so) (by rw [List.length_zip]; omega) (fun b hb => ?_) fun out ho eo => ?_
  · have := dp b.2 (List.of_mem_zip (a := b.1) (b := b.2) hb).2
    omega
  · obtain ⟨n, hn⟩ := PyProof.Rows.sortedAll_at s.heap its out.toArray
    have v := each_vals eo
    have pm : ((xs.zip ds).mergeSort (PySem.W.dataLe false fun b : V × D => b.2)).Perm (xs.zip ds) := List.mergeSort_perm _ _
    have me := merge_isort (fun b : V × D => b.2) (xs.zip ds) (by rw [e2]; exact al)
    rw [e2] at me
    refine ⟨.ref (s.heap.objs.size + 1), upd H (s.heap.objs.size + 1) (.lst _), I.laid (t' := s.toks) (fun b o e => PyProof.Rows.sortedAll_old e) (Nat.le_succ _) ⟨?_, out, n, v, hn⟩, rfl, q _ _ _ pm me rfl (I.hok.fresh (Nat.le_succ _))⟩
    rw [List.length_map, pm.length_eq, List.length_zip]
    omega
theorem den_zip {F : Hp} : ∀ {ds : List D} {vs : List V}, DenL F ds vs → ∀ b ∈ vs.zip ds, Den F b.2 b.1
  | [], _, h, b, hb => by cases h; simp at hb
  | d :: ds, _, ⟨v, r, e, h, l⟩, b, hb => by
    subst e
    rw [List.zip_cons_cons] at hb
    rcases List.mem_cons.mp hb with rfl | hb
    · exact h
    · exact den_zip l b hb
theorem den_of_pairs {F : Hp} : ∀ {bs : List (V × D)}, (∀ b ∈ bs, Den F b.2 b.1) → DenL F (bs.map (·.2)) (bs.map (·.1))
  | [], _ => rfl
  | b :: bs, h => ⟨b.1, _, rfl, h b (List.mem_cons_self ..), den_of_pairs fun c hc => h c (List.mem_cons_of_mem _ hc)⟩
theorem okF_sort {K : PySem.W.Frag} : CallOkF (rSortD K) sortF := by
  intro F H vs ds z Q s hn hf q
  unfold sortF at hf
  split at hf
  · next es =>
    split at hf
    · next ok =>
      cases hf
      obtain ⟨v0, r0, rfl, h1, h2⟩ := hn
      cases h2
      obtain ⟨a, ws, rfl, e, l⟩ := h1.lst s
      obtain ⟨al, so, pl, le, dp⟩ := sortOk_parts ok
      refine ⟨a, ws, es, rfl, SqL.of e, DenL.dp s pl l, ok, fun p ys bs pm me ey hp => ?_⟩
      subst ey
      refine q p _ hp ?_
      show DenL F (isort es) (bs.map (·.1))
      rw [← me]
      exact den_of_pairs fun b hb => den_zip l b (pm.mem_iff.mp hb)
    · cases hf
  · cases hf
section
variable {X : Cx} {B : Bd} {EX : Str → Hp → Prop} {e : Expr} {es : List Expr} {pos : Pos} {tl : TA} {rl : M (List TV)} {x : Str} {p : Pos}
theorem jf_cb {id : String} {r : List V → Hp → VK → Prop} {f : List D → Option D} (hc : CallR X (.builtin id) r) (hk : CallOkF r f) (hv : bootBuiltins x = some (.builtin id)) (hm : X.mg x = none) (ha : JAR X B EX (e :: es) tl rl) (hg : Gl X x := by rfl) (hn : x ≠ "__name__" := by decide) (hdb : (x == ("__debug__" : Str)) = false := by decide)
    (he : starEach (e :: es) X.env = (false, eval e X.env) :: starEach es X.env := by rfl) (hpl : (backTo pos (starEach es X.env)).any (·.1) = false := by rfl) : JF X B EX (.Call (.Name x p) (e :: es) [] pos) (tCB r tl) (mCB f rl) := ⟨pe_callB hc hg hm hv ha.p hn hdb he hpl, evf_cb hk ha.v⟩
theorem cK_sort {K : PySem.W.Frag} (hK : X.K = K) (hu : X.A.units + 64 < cLine) : CallR X (.builtin "sorted") (rSortD K) := by subst hK; exact call_sortD hu
end
/-! ### max of three -/
def max3F : List D → Option D
  | [.int i, .int j, .int k] => some (.int (if (if j > i then j else i) < k then k else (if j > i then j else i)))
  | _ => none
def min3F : List D → Option D
  | [.int i, .int j, .int k] => some (.int (if k < (if j < i then j else i) then k else (if j < i then j else i)))
  | _ => none
theorem nuMax2_int (i j : Int) : nuMax2 (.int i) (.int j) = some (.int (if j > i then j else i)) := by
  show some (if decide (i < j) = true then V.int j else V.int i) = _
  by_cases h : i < j <;> simp [h]
theorem nuMin2_int (i j : Int) : nuMin2 (.int i) (.int j) = some (.int (if j < i then j else i)) := by
  show some (if decide (j < i) = true then V.int j else V.int i) = _
  by_cases h : j < i <;> simp [h]
theorem ok_max3 : CallOk (rNuC3 nuMax3) max3F := by
  intro F H vs ds z Q s hn hf q
  unfold max3F at hf
  split at hf
  · cases hf
    obtain ⟨v0, r0, rfl, h1, v1, r1, rfl, h2, v2, r2, rfl, h3, h4⟩ := hn
    cases h4
    rw [h1.int, h2.int, h3.int]
    refine ⟨_, _, _, _, rfl, ?_, q _ F H (Ext.refl s) rfl⟩
    unfold nuMax3
    rw [nuMax2_int]
    exact nuMax2_int _ _
  · cases hf
theorem ok_min3 : CallOk (rNuC3 nuMin3) min3F := by
  intro F H vs ds z Q s hn hf q
  unfold min3F at hf
  split at hf
  · cases hf
    obtain ⟨v0, r0, rfl, h1, v1, r1, rfl, h2, v2, r2, rfl, h3, h4⟩ := hn
    cases h4
    rw [h1.int, h2.int, h3.int]
    refine ⟨_, _, _, _, rfl, ?_, q _ F H (Ext.refl s) rfl⟩
    unfold nuMin3
    rw [nuMin2_int]
    exact nuMin2_int _ _
  · cases hf
end Rn
end

section
set_option Elab.async false
set_option linter.all false
set_option autoImplicit false
set_option maxRecDepth 100000
/-! Core10: dicts in statements, fresh results, lists lent to a call. -/
namespace Rn
open PySem PySem.Spec L2

/-- an object laid on the way, not frozen, is written -/
theorem Stp.poke {B : Bd} {F H F' H' : Hp} {σ : L2.St} {ρ ρ' : Rho} (x : Stp B F H σ ρ F' H' ρ') (m : Mt B F H σ ρ) {p : Addr} (hp : H p = none) (fp : F' p = none) (la : ∀ y, H' p = some y → LD y) (o : HO) : Stp B F H σ ρ F' (upd H' p o) ρ' := by
  have b0 : B.H0 p = none := m.dom _ hp
  have np : ¬ Owns σ ρ' p := fun z => m.noOwn hp (x.own _ z)
  have ne : ∀ b u, F' b = some u → b ≠ p := fun b u z w => by subst w; rw [fp] at z; cases z
  refine ⟨⟨fun b u z => by rw [upd_ne (ne b u z)]; exact x.mt.sub _ _ z, x.mt.old, x.mt.new, fun b u z w t => ?_, fun b z => ?_, x.mt.len, fun j vv c g1 g2 => ?_, x.mt.apart, tabs_but x.mt.tabs (a := p) (fun b y z w => by rw [upd_ne w]; exact z) la, x.mt.ntab⟩, x.old, x.new, fun b u z w t => ?_, fun b z => ?_, x.own, x.kind⟩
  · have hb : b ≠ p := fun w' => by subst w'; rw [b0] at z; cases z
    rw [upd_ne hb]; exact x.mt.frm b u z w t
  · by_cases hb : b = p
    · subst hb; exact b0
    · rw [upd_ne hb] at z; exact x.mt.dom b z
  · have g := x.mt.cell j vv c g1 g2
    cases c with
    | no => trivial
    | fz d => exact g
    | ow d =>
      obtain ⟨b, o, k1, k2, k3, k4, k5⟩ := g
      have hb : b ≠ p := fun w' => np ⟨j, _, by rw [g1, k1, w'], g2, rfl⟩
      exact ⟨b, o, k1, by rw [upd_ne hb]; exact k2, k3, k4, k5⟩
    | va d => exact g
    | bw d =>
      obtain ⟨b, o, k1, k2, k3, k4, k5⟩ := g
      have hb : b ≠ p := fun w' => np ⟨j, _, by rw [g1, k1, w'], g2, rfl⟩
      exact ⟨b, o, k1, by rw [upd_ne hb]; exact k2, k3, k4, k5⟩
  · have hb : b ≠ p := fun w' => by subst w'; rw [hp] at z; cases z
    rw [upd_ne hb]; exact x.frm b u z w t
  · by_cases hb : b = p
    · subst hb; exact hp
    · rw [upd_ne hb] at z; exact x.dom b z
/-- .. and frozen -/
theorem Stp.pokeF {B : Bd} {F H F' H' : Hp} {σ : L2.St} {ρ ρ' : Rho} (x : Stp B F H σ ρ F' H' ρ') (m : Mt B F H σ ρ) {p : Addr} (hp : H p = none) (fp : F' p = none) (la : ∀ y, H' p = some y → LD y) (o : HO) : Stp B F H σ ρ (upd F' p o) (upd H' p o) ρ' :=
  Stp.freeze0 m (x.poke m hp fp la o) upd_same fp hp
/-! ### {k: v} -/
def mDisp1 (fk fv : M D) : M D := bnd fk fun k => bnd fv fun v => fun ρ => match keyOf k with
  | some _ => .ok (.dict [(k, v)]) ρ
  | none => .no
theorem evf_disp1 {B : Bd} {EX : Str → Hp → Prop} {tk tv : TE} {fk fv : M D} (hk : Ev B EX VD tk fk) (hv : Ev B EX VD tv fv) : EvF B EX (tDisp [(tk, tv)]) (mDisp1 fk fv) := by
  intro F H σ ρ Q m h p hp
  have x0 := m.ext (Ext.loose m.sub hp (.dK []))
  have np : ¬ Owns σ ρ p := m.noOwn hp
  refine hk F _ σ ρ _ x0.mt ?_
  unfold mDisp1 bnd at h
  cases e : fk ρ with
  | no => rw [e] at h; exact h
  | ex c r => rw [e] at h; exact fun F' H' x => h F' H' (x0.trans x)
  | ok k r =>
    rw [e] at h
    intro y F1 H1 x1 dy
    refine hv F1 H1 σ r _ x1.mt ?_
    simp only at h
    cases e2 : fv r with
    | no => rw [e2] at h; exact h
    | ex c r2 => rw [e2] at h; exact fun F' H' x => h F' H' (x0.trans (x1.trans x))
    | ok v r2 =>
      rw [e2] at h
      intro u F2 H2 x2 du
      simp only at h
      cases e3 : keyOf k with
      | none => simp only [e3] at h; exact h.elim
      | some q =>
        simp only [e3] at h
        have e4 := keyOf_eq e3
        subst e4
        have ey : y = kV q := key_den dy
        subst ey
        have x3 := x0.trans (x1.trans x2)
        have h1 : H1 p = some (.dK []) := x1.frm p _ upd_same np (tabs_at m.tabs (none_tbl hp))
        have np1 : ¬ Owns σ r p := fun z => np (x1.own _ z)
        have h2 : H2 p = some (.dK []) := x2.frm p _ h1 np1 (tabs_at m.tabs (none_tbl hp))
        have fp : F2 p = none := by
          cases w : F2 p with
          | none => rfl
          | some o =>
            rcases (x1.trans x2).new p o w with z | z | z
            · rw [m.sub.free hp] at z; cases z
            · rw [upd_same] at z; cases z
            · exact (np z).elim
        refine ⟨h2, [(q, u)], rfl, by simp, ?_⟩
        exact h (.ref p) F2 _ (x3.poke m hp fp (fun y z => by rw [h2] at z; cases z; exact .inr ⟨_, rfl⟩) _) ⟨p, _, rfl, upd_same, ⟨q, u, [], rfl, rfl, du, rfl⟩, fp, hp⟩
/-! ### d[k] = v -/
def putDC (ρ : Rho) (i : Nat) (k d : D) : Option Rho := match cellD ρ[i]? with
  | some (.dict ds) => (match keyOf k with
    | some _ => if ds.length ≤ big then putCell ρ i (.dict (putD ds k d)) else none
    | none => none)
  | _ => none
def sPutItem (i : Nat) (fe fk : M D) : S := sBind fe fun d => fun ρ => match cellD ρ[i]? with
  | some _ => sBind fk (fun k => fun ρ => match putDC ρ i k d with
      | some r => .nx r
      | none => .no) ρ
  | none => .no
theorem big_lt {n : Nat} (h : n ≤ big) : n < sizeLine := Nat.lt_of_le_of_lt h (by decide)
theorem es_putitem {B : Bd} {EX : Str → Hp → Prop} {i : Nat} {te tk : TE} {fe fk : M D} (he : Ev B EX VD te fe) (hk : Ev B EX VD tk fk) : EvS B EX (tAsg te (gSub (tVar i) tk rSetD)) (sPutItem i fe fk) := by
  refine es_bind (tb := fun x E σ H => gSub (tVar i) tk rSetD x σ H E.nx) he fun d y F H σ ρ E m dy q => ?_
  cases e0 : cellD ρ[i]? with
  | none => simp only [e0] at q; exact q.elim
  | some d0 =>
    simp only [e0] at q
    obtain ⟨v, hv1, hv2⟩ := slot_at m e0
    refine ⟨v, hv1, ?_⟩
    refine hk F H σ ρ _ m ?_
    unfold sBind at q
    cases e : fk ρ with
    | ex c r => rw [e] at q; exact fun F' H' x => q σ F' H' x.mt
    | no => rw [e] at q; exact q
    | ok kd r =>
      rw [e] at q
      simp only at q
      intro w F1 H1 x1 dw
      unfold putDC at q
      cases e2 : cellD r[i]? with
      | none => simp only [e2] at q; exact q.elim
      | some d2 =>
        simp only [e2] at q
        cases d2 with
        | dict ds =>
          simp only at q
          cases e5 : keyOf kd with
          | none => simp only [e5] at q; exact q.elim
          | some k =>
            simp only [e5] at q
            have e6 := keyOf_eq e5
            subst e6
            have ew : w = kV k := key_den dw
            subst ew
            by_cases hl : ds.length ≤ big
            · rw [if_pos hl] at q
              cases e3 : putCell r i (.dict (putD ds (keyD k) d)) with
              | none => simp only [e3] at q; exact q.elim
              | some r2 =>
                simp only [e3] at q
                obtain ⟨a, o, e', k1, k2, k3, k4, k5⟩ := x1.mt.putCell e3
                rw [hv1] at k1
                cases k1
                rw [e2] at k2
                cases k2
                obtain ⟨vs, rfl, l⟩ := k4.dic
                refine ⟨a, _, rfl, DPut.k k3 (big_lt (by rw [← l.len]; exact hl)), ?_⟩
                have st := k5 (.dK (putK vs k y)) (l.put (dy.mono x1.old))
                exact q σ F1 _ st.mt (x1.old.trans st.old)
            · rw [if_neg hl] at q; exact q.elim
        | none => exact q.elim
        | bool _ => exact q.elim
        | int _ => exact q.elim
        | str _ => exact q.elim
        | tuple _ => exact q.elim
        | list _ => exact q.elim
/-! ### for k in a fresh dict -/
def iKeysF (td : TE) : TI := fun σ H R => td σ H fun x H1 => ∃ d kvs, x = .ref d ∧ H1 d = some (.dK kvs) ∧ ∀ od, R (Itk d od kvs) (upd H1 d (.frz od (.dK kvs)))
theorem pi_keysF {X : Cx} {tg e : Expr} {td : TE} (he : PE X e td) : PI X tg e (iKeysF td) := by
  refine ⟨fun pins s σ H R I h => ?_⟩
  refine thn (he.run pins s σ H _ I h) fun u s1 ⟨x, H1, I1, rx, d, kvs, ex, hd, q⟩ => ?_
  subst ex
  obtain rfl : u = Value.ref d := rx
  obtain ⟨od, I2⟩ := I1.lock hd trivial
  obtain ⟨hs, hgd, hx, es, ep, vs, hdt, hsz, kv, hm⟩ := I2.frzK upd_same
  refine iter_keys hs hgd hx hdt (pi_one (tk := s1.toks) I2 _ (turn_keys _ hdt) ⟨_, Heap.get?_push_size _ rfl, rfl, ?_⟩ (q od))
  rw [hsz] <;> rfl
def mKeysI (f : M D) : M (List D) := bnd f fun d => fun ρ => match d with
  | .dict kds => .ok (kds.map (·.1)) ρ
  | _ => .no
theorem DenK.keyAt {F : Hp} : ∀ {kds : List (D × D)} {kvs : List (Key × V)} {i : Nat} {k : Key} {v : V}, DenK F kds kvs → kvs[i]? = some (k, v) → (kds.map (·.1))[i]? = some (keyD k)
  | [], _, _, _, _, h, e => by cases h; simp at e
  | (c, d) :: _, _, 0, _, _, ⟨q, u, t, z, hq, h, l⟩, e => by subst z; simp at e; obtain ⟨rfl, rfl⟩ := e; simp [hq]
  | (c, d) :: _, _, i + 1, _, _, ⟨q, u, t, z, hq, h, l⟩, e => by
    subst z
    have := DenK.keyAt (i := i) l (by simpa using e)
    simpa using this
theorem itok_keys {F : Hp} {a : Addr} {od : Obj} {kvs : List (Key × V)} {kds : List (D × D)} (h : F a = some (.frz od (.dK kvs))) (l : DenK F kds kvs) : ItOk F (Itk a od kvs) (kds.map (·.1)) := by
  intro F1 H1 s1 s2
  have e : H1 a = some (.frz od (.dK kvs)) := s2 _ _ (s1 _ _ h)
  have hl := l.len
  refine ⟨fun i hi => ⟨e, by rw [List.length_map] at hi; omega⟩, fun i hi => ⟨e, by rw [List.length_map] at hi; omega⟩, fun i x H2 hi q => ?_⟩
  obtain ⟨rfl, k, v, e1, rfl⟩ := q
  exact ⟨keyD k, F1, l.keyAt e1, Ext.refl s2, den_key F1 k⟩
theorem evi_keysF {B : Bd} {EX : Str → Hp → Prop} {td : TE} {f : M D} (h : EvF B EX td f) : Ev B EX VI (iKeysF td) (mKeysI f) := by
  intro F H σ ρ Q m q
  refine h F H σ ρ _ m ?_
  unfold mKeysI bnd at q
  cases e : f ρ with
  | no => rw [e] at q; exact q
  | ex c r => rw [e] at q; exact q
  | ok d r =>
    rw [e] at q
    rintro v F' H' x ⟨a, o, rfl, h1, h2, h3, h4⟩
    simp only at q
    cases d with
    | dict kds =>
      simp only at q
      obtain ⟨kvs, rfl, l⟩ := h2.dic
      refine ⟨a, kvs, rfl, h1, fun od => ?_⟩
      have st := x.pokeF m h4 h3 (fun y z => by rw [h1] at z; cases z; exact h2.ld) (.frz od (.dK kvs))
      exact q _ _ _ st (itok_keys upd_same (l.mono (same_upd h3)))
    | none => exact q.elim
    | bool _ => exact q.elim
    | int _ => exact q.elim
    | str _ => exact q.elim
    | tuple _ => exact q.elim
    | list _ => exact q.elim
/-! ### a list lent to a call -/
inductive RB where
  | ok (d d1 : D)
  | ex (c : Str) (d1 : D)
  | no
structure XB (F H : Hp) (a : Addr) (F' H' : Hp) : Prop where
  same : ∀ b x, b ≠ a → H b = some x → H' b = some x
  old : Same F F'
  sub : Same F' H'
  new : ∀ b x, F' b = some x → F b = some x ∨ H b = none
def spB (C : Str → Addr) (g : D → List D → RB) : Sp := fun vs H Q E => ∃ (F : Hp) (a : Addr) (o : HO) (d0 : D) (ds : List D) (ws : List V), vs = .ref a :: ws ∧ Same F H ∧ F a = none ∧ H a = some o ∧ Shal F d0 o ∧ DenL F ds ws ∧ (match g d0 ds with
  | .ok d d1 => ∀ v F' H' o', XB F H a F' H' → H' a = some o' → Shal F' d1 o' → F' a = none → Den F' d v → Q v H'
  | .ex c d1 => ∀ F' H' o', XB F H a F' H' → H' a = some o' → Shal F' d1 o' → F' a = none → E (.ref (C c)) none H'
  | .no => False)
def bwOf (ρ : Rho) : Option D := match ρ[(0 : Nat)]? with
  | some (.bw d) => some d
  | _ => none
def finB : Out → RB
  | .nx ρ => (match bwOf ρ with
    | some d1 => .ok .none d1
    | none => .no)
  | .rt d ρ => (match bwOf ρ with
    | some d1 => .ok d d1
    | none => .no)
  | .ex c ρ => (match bwOf ρ with
    | some d1 => .ex c d1
    | none => .no)
  | _ => .no
def callB (np n : Nat) (body : S) (d0 : D) (ds : List D) : RB := if ds.length + 1 = np then finB (body (Cell.bw d0 :: startR (n - 1) ds)) else .no
theorem spB_len {C : Str → Addr} {np n : Nat} {body : S} {vs : List V} {H : Hp} {Q : VK} {E : XK} (h : spB C (callB np n body) vs H Q E) : vs.length = np := by
  obtain ⟨F, a, o, d0, ds, ws, rfl, s, fa, ha, sh, l, q⟩ := h
  unfold callB at q
  by_cases e : ds.length + 1 = np
  · rw [List.length_cons, ← l.len]; exact e
  · simp only [if_neg e] at q
theorem start_consR {n : Nat} {ds : List D} : ∀ (j : Nat) (c : Cell), (startR n ds)[j]? = some c → c.own = true → False := fun j c e o => by
  have q := List.mem_of_getElem? e
  unfold startR at q
  rcases List.mem_append.mp q with q | q
  · obtain ⟨d, _, rfl⟩ := List.mem_map.mp q
    cases o
  · rw [(List.mem_replicate.mp q).2] at o; cases o
theorem start_mtB {F H : Hp} {a : Addr} {o : HO} {d0 : D} {ds : List D} {ws : List V} {y : Str} {N : List Str} (s : Same F H) (fa : F a = none) (ha : H a = some o) (sh : Shal F d0 o) (l : DenL F ds ws) :
    Mt ⟨H, F, [a], [], []⟩ F H (L2.start (y :: N) (.ref a :: ws)) (Cell.bw d0 :: startR N.length ds) := by
  have m0 := start_mt (N := N) s l
  have es : L2.start (y :: N) (.ref a :: ws) = some (.ref a) :: L2.start N ws := by
    simp [L2.start]
  rw [es]
  refine ⟨s, Same.refl _, fun _ _ e => .inl e, fun _ _ e _ _ => e, fun _ e => e, by simp [m0.len], fun j v c h1 h2 => ?_, fun j k b c c' h1 h2 h3 h4 h5 h6 => ?_, fun _ z => (nomatch z), fun _ z => (nomatch z)⟩
  · cases j with
    | zero => simp at h1 h2; subst h1; subst h2; exact ⟨a, o, rfl, ha, sh, fa, by simp⟩
    | succ j =>
      rw [List.getElem?_cons_succ] at h1 h2
      have g := m0.cell j v c h1 h2
      cases c with
      | no => trivial
      | fz d => exact g
      | ow d => exact (start_consR j _ h2 rfl).elim
      | va d => exact g
      | bw d => exact (start_consR j _ h2 rfl).elim
  · cases j with
    | succ j => rw [List.getElem?_cons_succ] at h3; exact (start_consR j _ h3 h5).elim
    | zero => cases k with
      | zero => rfl
      | succ k => rw [List.getElem?_cons_succ] at h4; exact (start_consR k _ h4 h6).elim
theorem mt_xb {F H F' H' : Hp} {a : Addr} {σ' : L2.St} {ρ' : Rho} {d1 : D} (m : Mt ⟨H, F, [a], [], []⟩ F' H' σ' ρ') (e : bwOf ρ' = some d1) : XB F H a F' H' ∧ F' a = none ∧ ∃ o', H' a = some o' ∧ Shal F' d1 o' := by
  unfold bwOf at e
  split at e
  · next d hd =>
    cases e
    have hl : 0 < σ'.length := by rw [← m.len]; exact (List.getElem?_eq_some_iff.mp hd).1
    obtain ⟨b, o, k1, k2, k3, k4, k5⟩ := m.cell 0 _ _ (List.getElem?_eq_getElem hl) hd
    have eb : b = a := by simpa using k5
    subst eb
    exact ⟨⟨fun b x hb z => m.frm b x z (by simpa using hb) (fun _ z => (nomatch z)), m.old, m.sub, m.new⟩, k4, o, k2, k3⟩
  · cases e
theorem body_okB {C : Str → Addr} {np : Nat} {body : S} {y : Str} {N : List Str} {vs : List V} {H : Hp} {Q : VK} {E : XK} {t : TS} (h : spB C (callB np (y :: N).length body) vs H Q E)
    (ev : ∀ F a, EvS ⟨H, F, [a], [], []⟩ (fun c H' => E (.ref (C c)) none H') t body) : t { nx := fun _ H' => Q .non H', rt := Q } (L2.start (y :: N) vs) H := by
  obtain ⟨F, a, o, d0, ds, ws, rfl, s, fa, ha, sh, l, q⟩ := h
  unfold callB at q
  by_cases e : ds.length + 1 = np
  · simp only [if_pos e] at q
    refine ev F a F H _ (Cell.bw d0 :: startR N.length ds) _ (start_mtB s fa ha sh l) ?_
    rw [List.length_cons, Nat.add_sub_cancel] at q
    cases e2 : body (Cell.bw d0 :: startR N.length ds) with
    | nx r =>
      rw [e2] at q
      intro σ' F' H' m _
      simp only [finB] at q
      cases e3 : bwOf r with
      | none => rw [e3] at q; exact q.elim
      | some d1 =>
        rw [e3] at q
        obtain ⟨k1, k2, o', k3, k4⟩ := mt_xb m e3
        exact q .non F' H' o' k1 k3 k4 k2 rfl
    | rt d r =>
      rw [e2] at q
      intro v σ' F' H' m _ dv
      simp only [finB] at q
      cases e3 : bwOf r with
      | none => rw [e3] at q; exact q.elim
      | some d1 =>
        rw [e3] at q
        obtain ⟨k1, k2, o', k3, k4⟩ := mt_xb m e3
        exact q v F' H' o' k1 k3 k4 k2 dv
    | ex c r =>
      rw [e2] at q
      intro σ' F' H' m
      simp only [finB] at q
      cases e3 : bwOf r with
      | none => rw [e3] at q; exact q.elim
      | some d1 =>
        rw [e3] at q
        obtain ⟨k1, k2, o', k3, k4⟩ := mt_xb m e3
        exact q F' H' o' k1 k3 k4 k2
    | rf d r => rw [e2] at q; exact q.elim
    | bk r => rw [e2] at q; exact q.elim
    | ct r => rw [e2] at q; exact q.elim
    | no => rw [e2] at q; exact q.elim
  · simp only [if_neg e] at q
def mCallB (g : D → List D → RB) (i : Nat) (fa : M (List D)) : M D := fun ρ => match cellD ρ[i]? with
  | some _ => bnd fa (fun ds => fun ρ => match cellD ρ[i]? with
    | some d0 => (match g d0 ds with
      | .ok d d1 => (match putCell ρ i d1 with
        | some r => .ok d r
        | none => .no)
      | .ex c d1 => (match putCell ρ i d1 with
        | some r => .ex c r
        | none => .no)
      | .no => .no)
    | none => .no) ρ
  | none => .no
/-- a promise that tells of no raising -/
def noEx (g : D → List D → RB) (d : D) (ds : List D) : RB := match g d ds with
  | .ok d d1 => .ok d d1
  | _ => .no
theorem noEx_ne {g : D → List D → RB} {d : D} {ds : List D} {c : Str} {d1 : D} : noEx g d ds ≠ .ex c d1 := by
  unfold noEx
  split <;> simp
theorem spB_noEx {C : Str → Addr} {g : D → List D → RB} {vs : List V} {H : Hp} {Q : VK} {E : XK} (h : spB C (noEx g) vs H Q E) : spB C g vs H Q E := by
  obtain ⟨F, a, o, d0, ds, ws, e, s, fa, ha, sh, l, q⟩ := h
  refine ⟨F, a, o, d0, ds, ws, e, s, fa, ha, sh, l, ?_⟩
  unfold noEx at q
  cases e2 : g d0 ds with
  | ok d d1 => simp only [e2] at q; exact q
  | ex c d1 => simp only [e2] at q
  | no => simp only [e2] at q
theorem XB.stp {B : Bd} {F H F' H' : Hp} {σ : L2.St} {ρ ρ' : Rho} {i : Nat} {a : Addr} {d1 : D} {o' : HO} (m : Mt B F H σ ρ) (x : XB F H a F' H') (ha : σ[i]? = some (some (.ref a))) (hp : putCell ρ i d1 = some ρ') (h1 : H' a = some o') (h2 : Shal F' d1 o') (h3 : F' a = none) : Stp B F H σ ρ F' H' ρ' := by
  obtain ⟨b, o, e, k1, k2, k3, k4, k5⟩ := m.putCell hp
  rw [ha] at k1
  cases k1
  have ex : Ext F H F' (upd H' a o) := by
    refine ⟨fun b u z => ?_, x.old, fun b u z => ?_, x.new⟩
    · by_cases hb : b = a
      · subst hb; rw [upd_same, ← k3]; exact z
      · rw [upd_ne hb]; exact x.same b u hb z
    · have hb : b ≠ a := fun w => by subst w; rw [h3] at z; cases z
      rw [upd_ne hb]; exact x.sub _ _ z
  have st1 := m.ext ex
  obtain ⟨b2, o2, e2, j1, j2, j3, j4, j5⟩ := st1.mt.putCell hp
  rw [ha] at j1
  cases j1
  have st2 := j5 o' h2
  have eh : upd (upd H' a o) a o' = H' := by
    funext b
    by_cases hb : b = a
    · subst hb; rw [upd_same]; exact h1.symm
    · rw [upd_ne hb, upd_ne hb]
  rw [eh] at st2
  exact st1.trans st2
theorem ev_callB {B : Bd} {EX : Str → Hp → Prop} {C : Str → Addr} {g : D → List D → RB} {i : Nat} {E : XK} {ta : TA} {fa : M (List D)} (hE : ∀ d ds c d1, g d ds = .ex c d1 → ∀ H, EX c H → E (.ref (C c)) none H) (ha : Ev B EX VL ta fa) : Ev B EX VD (tCall (spB C g) [] E (tCons (tVar i) ta)) (mCallB g i fa) := by
  intro F H σ ρ Q m q
  unfold mCallB at q
  cases e0 : cellD ρ[i]? with
  | none => rw [e0] at q; exact q.elim
  | some d =>
    rw [e0] at q
    simp only at q
    obtain ⟨v, hv, _⟩ := slot_at m e0
    refine ⟨v, hv, ?_⟩
    refine ha F H σ ρ _ m ?_
    unfold bnd at q
    cases e : fa ρ with
    | no => rw [e] at q; exact q
    | ex c r => rw [e] at q; exact q
    | ok ds r =>
      rw [e] at q
      intro ws F1 H1 x1 l
      simp only at q
      cases e1 : cellD r[i]? with
      | none => rw [e1] at q; exact q.elim
      | some d0 =>
        rw [e1] at q
        simp only at q
        rw [List.append_nil]
        cases e2 : g d0 ds with
        | no => rw [e2] at q; exact q.elim
        | ok d2 d1 =>
          rw [e2] at q
          simp only at q
          cases e3 : putCell r i d1 with
          | none => rw [e3] at q; exact q.elim
          | some r2 =>
            rw [e3] at q
            simp only at q
            obtain ⟨a, o, e', k1, k2, k3, k4, k5⟩ := x1.mt.putCell e3
            rw [hv] at k1
            cases k1
            rw [e1] at k2
            cases k2
            refine ⟨F1, a, o, d0, ds, ws, rfl, x1.mt.sub, ?_, k3, k4, l, ?_⟩
            · have ow : Owns σ r a := by
                unfold Rn.putCell at e3
                cases e4 : r[i]? with
                | none => rw [e4] at e3; cases e3
                | some c => cases c with
                  | no => rw [e4] at e3; cases e3
                  | fz d => rw [e4] at e3; cases e3
                  | ow d => exact ⟨i, _, hv, e4, rfl⟩
                  | va d => rw [e4] at e3; cases e3
                  | bw d => exact ⟨i, _, hv, e4, rfl⟩
              exact (x1.mt.hasOwn ow).1
            · rw [e2]
              exact fun u F' H' o' x h1 h2 h3 du => q u F' H' (x1.trans (x.stp x1.mt hv e3 h1 h2 h3)) du
        | ex c d1 =>
          rw [e2] at q
          simp only at q
          cases e3 : putCell r i d1 with
          | none => rw [e3] at q; exact q.elim
          | some r2 =>
            rw [e3] at q
            simp only at q
            obtain ⟨a, o, e', k1, k2, k3, k4, k5⟩ := x1.mt.putCell e3
            rw [hv] at k1
            cases k1
            rw [e1] at k2
            cases k2
            refine ⟨F1, a, o, d0, ds, ws, rfl, x1.mt.sub, ?_, k3, k4, l, ?_⟩
            · have ow : Owns σ r a := by
                unfold Rn.putCell at e3
                cases e4 : r[i]? with
                | none => rw [e4] at e3; cases e3
                | some c => cases c with
                  | no => rw [e4] at e3; cases e3
                  | fz d => rw [e4] at e3; cases e3
                  | ow d => exact ⟨i, _, hv, e4, rfl⟩
                  | va d => rw [e4] at e3; cases e3
                  | bw d => exact ⟨i, _, hv, e4, rfl⟩
              exact (x1.mt.hasOwn ow).1
            · rw [e2]
              exact fun F' H' o' x h1 h2 h3 => hE _ _ _ _ e2 H' (q F' H' (x1.trans (x.stp x1.mt hv e3 h1 h2 h3)))
end Rn
end

section
set_option Elab.async false
set_option linter.all false
set_option autoImplicit false
set_option maxRecDepth 100000
/-! Core11: rules for what Core10 brings. -/
namespace Rn
open PySem PySem.Spec L2

section
variable {X : Cx} {B : Bd} {EX : Str → Hp → Prop} {a b c e : Expr} {es : List Expr} {ta tb tc te : TE} {fa fb fc fe : M D} {pos : Pos} {tl : TA} {fl : M (List D)} {x : Str} {p : Pos} {tg : Expr}
theorem jf_disp1 (ha : JE X B EX a ta fa) (hb : JE X B EX b tb fb) : JF X B EX (.Dict [some a] [b] pos) (tDisp [(ta, tb)]) (mDisp1 fa fb) := ⟨pe_disp (pps_cons ha.p hb.p pps_nil) rfl rfl (by simp) (by simp), evf_disp1 ha.v hb.v⟩
theorem ji_keysF (h : JF X B EX e te fe) : JI X B EX tg e (iKeysF te) (mKeysI fe) := ⟨pi_keysF h.p, evi_keysF h.v⟩
theorem js_putitem (i : Nat) {y : Str} {k : Expr} {tk : TE} {fk : M D} {p1 p2 : Pos} (hu : X.A.units + 64 < cLine) (he : JE X B EX e te fe) (hk : JE X B EX k tk fk) (hN : X.N[i]? = some y := by rfl) (hv : Vis X.env.scope y := by first | exact Or.inl rfl | exact Or.inr (Or.inl rfl) | exact Or.inr (Or.inr rfl)) (hd : (y == ("__debug__" : Str)) = false := by decide) (hcd : (y == ("__classdict__" : Str)) = false := by decide)
    (hsub : ∀ v, assign (.Subscript (.Name y p1) k p2) X.env v = (do
      let ov ← holding [v] (eval (.Name y p1) X.env)
      let iv ← holding [v, ov] (eval k X.env)
      standAt p2
      holding [v, ov, iv] (setItem ov iv v)
      release [v, ov, iv] []) := by intro _; rfl)
    (hs : swapsWithSole [.Subscript (.Name y p1) k p2] e pos.line X.env = pure false := by rfl) (hw : swappedStores [.Subscript (.Name y p1) k p2] e X.env = pure none := by rfl)
    (h1 : (assignEach [.Subscript (.Name y p1) k p2] X.env).map (·.2) = [assign (.Subscript (.Name y p1) k p2) X.env] := by rfl) :
    JS X B EX (.Assign [.Subscript (.Name y p1) k p2] e pos) (tAsg te (gSub (tVar i) tk rSetD)) (sPutItem i fe fk) :=
  ⟨ps_asg he.p (pg_sub (pv i hN hv hd hcd) hk.p (set_dict (by omega)) hsub) hs hw h1, es_putitem he.v hk.v⟩
theorem js_retF (i : Nat) {y : Str} {p1 : Pos} (hN : X.N[i]? = some y := by rfl) (hv : Vis X.env.scope y := by first | exact Or.inl rfl | exact Or.inr (Or.inl rfl) | exact Or.inr (Or.inr rfl)) (hd : (y == ("__debug__" : Str)) = false := by decide) (hcd : (y == ("__classdict__" : Str)) = false := by decide) :
    JS X B EX (.Return (some (.Name y p1)) pos) (tRet (tVar i)) (sRetF i) := ⟨ps_ret (pv i hN hv hd hcd), es_retF⟩
theorem jf_call0 {C : Str → Addr} {ps : List Str} {k j : Nat} {g : List D → RR} (d : DefV X.prog X.w X.K X.mg X.base CX0 C x ps k g) (hr : Room j X.A) (ha : JA X B EX (e :: es) tl fl) (hkj : k ≤ j := by decide) (hg : Gl X x := by rfl) (hdb : (x == ("__debug__" : Str)) = false := by decide)
    (he : starEach (e :: es) X.env = (false, eval e X.env) :: starEach es X.env := by rfl) (hpl : (backTo pos (starEach es X.env)).any (·.1) = false := by rfl) : JF X B EX (.Call (.Name x p) (e :: es) [] pos) (tCall (spV C g) [] E0 tl) (mCallF0 g fl) := by
  obtain ⟨f, fd, F, hm, hk, hb⟩ := d
  exact ⟨pe_call F (hr.mono hkj) hg hm hk hb .nil pass0 ha.p hdb he hpl, evf_call0 ha.v⟩
end
/-- a def of the text that is lent its first list -/
def DefB (P : Program) (w : World) (K : PySem.W.Frag) (mg : Str → Option Value) (base : Heap) (CX : CXT) (C : Str → Addr) (x : Str) (ps : List Str) (k : Nat) (g : D → List D → RB) : Prop :=
  ∃ f fd, FnOk P w K mg base CX k f fd ps (spB C g) ∧ mg x = some (.ref f) ∧ PySem.W.keepIn K (.ref f) = true ∧ Binds K fd ps []
section
variable {X : Cx} {B : Bd} {EX : Str → Hp → Prop} {es : List Expr} {pos : Pos} {tl : TA} {fl : M (List D)} {x y : Str} {p p1 : Pos}
theorem je_callB0 (i : Nat) {C : Str → Addr} {ps : List Str} {k j : Nat} {g : D → List D → RB} (d : DefB X.prog X.w X.K X.mg X.base CX0 C x ps k (noEx g)) (hr : Room j X.A) (ha : JA X B EX es tl fl) (hkj : k ≤ j := by decide) (hg : Gl X x := by rfl) (hdb : (x == ("__debug__" : Str)) = false := by decide)
    (hN : X.N[i]? = some y := by rfl) (hv : Vis X.env.scope y := by first | exact Or.inl rfl | exact Or.inr (Or.inl rfl) | exact Or.inr (Or.inr rfl)) (hd : (y == ("__debug__" : Str)) = false := by decide) (hcd : (y == ("__classdict__" : Str)) = false := by decide)
    (he : starEach (.Name y p1 :: es) X.env = (false, eval (.Name y p1) X.env) :: starEach es X.env := by rfl) (hpl : (backTo pos (starEach es X.env)).any (·.1) = false := by rfl) : JE X B EX (.Call (.Name x p) (.Name y p1 :: es) [] pos) (tCall (spB C (noEx g)) [] E0 (tCons (tVar i) tl)) (mCallB (noEx g) i fl) := by
  obtain ⟨f, fd, F, hm, hk, hb⟩ := d
  exact ⟨pe_call F (hr.mono hkj) hg hm hk hb .nil pass0 (pa_cons (pv i hN hv hd hcd) ha.p he) hdb he hpl, ev_callB (fun _ _ _ _ e => (noEx_ne e).elim) ha.v⟩
end
section
variable {P : Program} {w : World} {K : PySem.W.Frag} {mg : Str → Option Value} {base : Heap} {C : Str → Addr}
theorem def_b0 {x y : Str} {st : Stmt} {N ps : List Str} {k : Nat} {body : S} (h : HasF K mg x st ps) (Sc : FnScope (y :: N) ps (defScope st))
    (hb : ∀ (f : Addr) (cdv : Value) (A : Around) (outer : List Env) (s : Shared) (H : Hp) (E : XK), Room k (A.deeper (PyProof.Rows.envOfC x (defScope st) s.heap.objs.size f cdv)) →
      ∃ t, ∀ (B : Bd) (EX : Str → Hp → Prop), JSs (cxOf CX0 P w K mg base (y :: N) x (defScope st) f cdv A outer s H E).nox B EX (defBody st) t body) :
    DefB P w K mg base CX0 C x ps (k + 1) (noEx (callB ps.length (y :: N).length body)) := by
  obtain ⟨f, fd, F, hm, hbd⟩ := h
  refine ⟨f, fd, F.ok Sc (fun vs H Q E h => spB_len (spB_noEx h)) (fun cdv A outer s H vs Q E hr h => ?_), hm, F.kp, hbd⟩
  obtain ⟨t, ht⟩ := hb f cdv A outer s H E hr
  exact ⟨t, PSs.nox (ht ⟨H, H, [], [], []⟩ EX0).p, body_okB (spB_noEx h) fun F a => (ht _ _).v⟩
end
end Rn
end

section
set_option Elab.async false
set_option linter.all false
set_option autoImplicit false
set_option maxRecDepth 100000
/-! Core12: a law's cells and rounds, and its loop over them. -/
namespace Rn
open PySem PySem.Spec L2

theorem sql_same {K : PySem.W.Frag} {H H' : Hp} {a : Addr} {xs : List V} (s : Same H H') (h : SqL K H a xs) : SqL K H' a xs := by
  rcases h with (h | ⟨o, h⟩) | h
  · exact .inl (.inl (s _ _ h))
  · exact .inl (.inr ⟨o, s _ _ h⟩)
  · exact .inr h
theorem dpAll_ints {K : PySem.W.Frag} {H : Hp} : ∀ ns : List Int, DpAll K H (ns.map V.int) (ns.map PyData.int)
  | [] => .nil
  | n :: ns => .cons (.int n) (dpAll_ints ns)
theorem plain_ints : ∀ ns : List Int, PyData.plainAll (ns.map PyData.int) = true
  | [] => rfl
  | n :: ns => by
    show (PyData.plain (.int n) && PyData.plainAll (ns.map PyData.int)) = true
    rw [plain_ints ns]
    rfl
abbrev rMaxI : List V → Hp → VK → Prop := fun xs H Q => ∃ i j, xs = [.int i, .int j] ∧ Q (.int (if j > i then j else i)) H
abbrev rMinI : List V → Hp → VK → Prop := fun xs H Q => ∃ i j, xs = [.int i, .int j] ∧ Q (.int (if j < i then j else i)) H
abbrev rModI : R2 := rI (fun _ j => 0 < j) fun i j => .int (i % j)
abbrev rFdivI : R2 := rI CDivW fun i j => .int (i / j)
abbrev tLenS (K : PySem.W.Frag) : TE := tCB (rLenK K) (tCons (tVar 0) tNil)
/-- _law_cell -/
def tCellS (K : PySem.W.Frag) : TS := tSeq (tIfS (tTest (tOp (rEqP K) (tVar 0) (tLst tNil))) (tRet (tOp (rMulA K) (tVar 1) (tC (.int 7919)))) tNext)
  (tRet (tOp (rAddA K) (tOp (rIx K) (tVar 0) (tOp rModI (tVar 1) (tLenS K))) (tOp (rMulA K) (tOp rFdivI (tVar 1) (tLenS K)) (tC (.int 104729)))))
def spCellS (K : PySem.W.Frag) : Sp := fun vs H Q _ => ∃ (a : Addr) (ns : List Int) (k : Int), vs = [.ref a, .int k] ∧ SqL K H a (ns.map V.int) ∧ ns.length ≤ 63 ∧ 0 ≤ k ∧ ∀ c H', Same H H' → Q (.int c) H'
theorem cell_run {K : PySem.W.Frag} {vs : List V} {H : Hp} {Q : VK} {E : XK} (h : spCellS K vs H Q E) : tCellS K { nx := fun _ H' => Q .non H', rt := Q } (L2.start ["script", "k"] vs) H := by
  obtain ⟨a, ns, k, rfl, hs, hn, hk, q⟩ := h
  refine ⟨.ref a, rfl, by decide, fun p hp => ?_⟩
  have s1 : Same H (upd H p (.lst [])) := same_upd hp
  have hs1 := sql_same s1 hs
  refine ⟨.list (ns.map PyData.int), .list [], .lst hs1 (dpAll_ints ns), .lst (SqL.of upd_same) .nil, ?_, _, rfl, ?_⟩
  · unfold dOk
    rw [show PyData.plain (.list (ns.map PyData.int)) = PyData.plainAll (ns.map PyData.int) from rfl, plain_ints]
    have : (PyData.depth (.list [])) ≤ 64 := by decide
    simp only [Bool.true_and, show PyData.plain (.list []) = true from rfl, decide_eq_true_eq]
    omega
  · have ixs : ns ≠ [] → tRet (tOp (rAddA K) (tOp (rIx K) (tVar 0) (tOp rModI (tVar 1) (tLenS K))) (tOp (rMulA K) (tOp rFdivI (tVar 1) (tLenS K)) (tC (.int 104729)))) { nx := fun _ H' => Q .non H', rt := Q } (L2.start ["script", "k"] [.ref a, .int k]) (upd H p (.lst [])) := by
      intro hne
      have hpos : 0 < ns.length := List.length_pos_iff.mpr hne
      have hl : ((ns.map V.int).length : Int) = (ns.length : Int) := by rw [List.length_map]
      have h63 : (ns.length : Int).natAbs.log2 < 9000 := by
        have e : (ns.length : Int).natAbs = ns.length := by omega
        rw [e]
        exact Nat.lt_of_le_of_lt (Nat.log2_le_self _) (by omega)
      have hm1 := Int.emod_nonneg k (show (ns.length : Int) ≠ 0 by omega)
      have hm2 := Int.emod_lt_of_pos k (show (0 : Int) < ns.length by omega)
      have hj : (k % (ns.length : Int)).toNat < ns.length := by omega
      refine ⟨.ref a, rfl, .int k, rfl, .ref a, rfl, .ref a, (ns.map V.int).length, rfl, .inl ⟨_, hs1, rfl⟩, k, ((ns.map V.int).length : Int), rfl, rfl, by rw [hl]; omega, ?_⟩
      refine .inl ⟨a, ns.map V.int, k % ((ns.map V.int).length : Int), .int (ns[(k % (ns.length : Int)).toNat]), rfl, rfl, hs1, ?_, ?_⟩
      · rw [hl]
        unfold atI ixN
        rw [if_pos hm1]
        rw [List.length_map, if_pos hm2]
        show (ns.map V.int)[(k % (ns.length : Int)).toNat]? = _
        simp [hj]
      · refine ⟨.int k, rfl, .ref a, rfl, .ref a, (ns.map V.int).length, rfl, .inl ⟨_, hs1, rfl⟩, k, ((ns.map V.int).length : Int), rfl, rfl, ⟨by rw [hl]; omega, by rw [hl]; exact h63⟩, ?_⟩
        refine .inl (.inl (.inl ⟨_, 104729, rfl, rfl, .inr ⟨by decide, by decide⟩, ?_⟩))
        exact .inl (.inl (.inl ⟨_, _, rfl, rfl, q _ _ s1⟩))
    cases ns with
    | nil =>
      show if PyData.eqv (.list (([] : List Int).map PyData.int)) (.list []) = true then _ else _
      rw [if_pos (by decide)]
      refine ⟨.int k, rfl, .inl (.inl (.inl ⟨k, 7919, rfl, rfl, .inr ⟨by decide, by decide⟩, q _ _ s1⟩))⟩
    | cons n ns =>
      show if PyData.eqv (.list ((n :: ns).map PyData.int)) (.list []) = true then _ else _
      rw [if_neg (by
        show ¬ PyData.eqvAll (PyData.int n :: ns.map PyData.int) [] = true
        unfold PyData.eqvAll
        decide)]
      exact ixs (by simp)
/-- _law_rounds -/
def tRoundsS (K : PySem.W.Frag) : TS := tRet (tLc (iRng1 (tCons (tCB rMaxI (tCons (tC (.int 1)) (tCons (tCB rMinI (tCons (tVar 1) (tCons (tLenS K) tNil))) tNil))) tNil)) (gName 2) tYes
  (tLst (tCons (tCall (spCellS K) [] E0 (tCons (tVar 0) (tCons (tVar 2) tNil))) (tCons (tC (.int 0)) tNil))) [2])
def IsRounds (H : Hp) (p : Addr) (as : List Addr) (cs : List Int) : Prop := as.length = cs.length ∧ (p :: as).Nodup ∧ H p = some (.lst (as.map V.ref)) ∧ ∀ (i : Nat) a c, as[i]? = some a → cs[i]? = some c → H a = some (.lst [.int c, .int 0])
def spRoundsS (K : PySem.W.Frag) : Sp := fun vs H Q _ => ∃ (a : Addr) (ns : List Int) (m : Int), vs = [.ref a, .int m] ∧ SqL K H a (ns.map V.int) ∧ ns.length ≤ 63 ∧ m ≤ 63 ∧ ∀ p as cs H', Same H H' → IsRounds H' p as cs → Q (.ref p) H'
theorem rounds_run {K : PySem.W.Frag} {vs : List V} {H : Hp} {Q : VK} {E : XK} (h : spRoundsS K vs H Q E) : tRoundsS K { nx := fun _ H' => Q .non H', rt := Q } (L2.start ["script", "most", "k"] vs) H := by
  obtain ⟨a, ns, m, rfl, hs, hn, hm, q⟩ := h
  refine ⟨.int m, rfl, .ref a, rfl, .ref a, (ns.map V.int).length, rfl, .inl ⟨_, hs, rfl⟩, m, ((ns.map V.int).length : Int), rfl, 1, _, rfl, ?_⟩
  generalize hj : (if (if ((ns.map V.int).length : Int) < m then ((ns.map V.int).length : Int) else m) > 1 then (if ((ns.map V.int).length : Int) < m then ((ns.map V.int).length : Int) else m) else 1) = j
  have hl : ((ns.map V.int).length : Int) = (ns.length : Int) := by rw [List.length_map]
  rw [hl] at hj
  have j1 : 0 ≤ j ∧ j ≤ 63 := by
    subst hj
    split <;> split <;> omega
  refine ⟨j, rfl, by omega, by omega, fun Dd hD => ?_⟩
  generalize hnn : j.toNat = n
  refine ⟨fun i k Hc => i + k = n ∧ Same H Hc ∧ ∃ as cs, as.length = i ∧ IsRounds Hc Dd as cs, ⟨n, by omega, same_upd hD, [], [], rfl, rfl, by simp, upd_same, fun i a c e => by simp at e⟩, ?_⟩
  rintro i k Hc ⟨hik, hsame, as, cs, hli, hla, nd, hp, hel⟩
  by_cases hi : i < n
  · refine .inr ⟨hi, fun Hc => (i + 1) + (k - 1) = n ∧ Same H Hc ∧ ∃ as cs, as.length = i + 1 ∧ IsRounds Hc Dd as cs, fun H' hN => ⟨k - 1, by omega, hN⟩, ?_⟩
    rintro x H' ⟨rfl, rfl⟩
    refine ⟨rfl, ?_⟩
    unfold tYes
    simp only [if_true]
    refine ⟨.ref a, rfl, .int ((0 : Int) + (i : Nat)), rfl, a, ns, _, rfl, sql_same hsame hs, hn, by omega, fun c H2 s2 => ?_⟩
    refine ⟨fewer (by simp), fun p2 hp2 => ?_⟩
    have ne : Dd ≠ p2 := fun z => by rw [z] at hp; rw [s2 _ _ hp] at hp2; cases hp2
    refine ⟨as.map V.ref, by rw [upd_ne ne]; exact s2 _ _ hp, ?_, ?_⟩
    · rw [List.length_map, hli]
      have : n ≤ 63 := by omega
      exact Nat.lt_of_lt_of_le hi (Nat.le_trans this (by decide))
    · have na : p2 ∉ as := fun z => by
        obtain ⟨t, ht, e⟩ := List.mem_iff_getElem.mp z
        have h2 := hel t p2 cs[t] (by rw [List.getElem?_eq_getElem ht, e]) (List.getElem?_eq_getElem (by omega))
        rw [s2 _ _ h2] at hp2; cases hp2
      have ndD := (List.nodup_cons.mp nd)
      refine ⟨by omega, fun b o z => ?_, as ++ [p2], cs ++ [c], by simp [hli], by simp [hla], ?_, by rw [upd_same]; simp, fun t b d e1 e2 => ?_⟩
      · have b1 : b ≠ Dd := fun w => by subst w; rw [hD] at z; cases z
        have b2 : b ≠ p2 := fun w => by subst w; rw [s2 _ _ (hsame _ _ z)] at hp2; cases hp2
        rw [upd_ne b1, upd_ne b2]
        exact s2 _ _ (hsame _ _ z)
      · rw [List.nodup_cons, List.nodup_append]
        refine ⟨?_, ndD.2, by simp, ?_⟩
        · simp only [List.mem_append, List.mem_singleton, not_or]
          exact ⟨ndD.1, ne⟩
        · intro u hu w hw
          simp at hw
          subst hw
          exact fun z => na (z ▸ hu)
      · rw [List.getElem?_append] at e1 e2
        by_cases ht : t < as.length
        · rw [if_pos ht] at e1
          rw [if_pos (by omega)] at e2
          have hb : b ∈ as := List.mem_of_getElem? e1
          have b1 : b ≠ Dd := fun w => ndD.1 (w ▸ hb)
          have b2 : b ≠ p2 := fun w => na (w ▸ hb)
          rw [upd_ne b1, upd_ne b2]
          exact s2 _ _ (hel t b d e1 e2)
        · rw [if_neg ht] at e1
          rw [if_neg (by omega)] at e2
          have t0 : t - as.length = 0 := by
            have := (List.getElem?_eq_some_iff.mp e1).1
            simp at this
            omega
          rw [t0] at e1
          rw [show t - cs.length = 0 by omega] at e2
          simp at e1 e2
          subst e1; subst e2
          rw [upd_ne (fun w => ne w.symm), upd_same]
  · exact .inl ⟨by show n ≤ i; omega, q Dd as cs Hc hsame ⟨hla, nd, hp, hel⟩⟩
/-- a block leaves as many slots as it finds -/
def tLn (n : Nat) (t : TS) : TS := fun D σ H => t ⟨fun σ' H' => σ'.length = n → D.nx σ' H', D.rt, fun σ' H' => σ'.length = n → D.bk σ' H', fun σ' H' => σ'.length = n → D.ct σ' H'⟩ σ H
theorem pss_ln {X : Cx} {st : List Stmt} {t : TS} (h : PSs X st t) : PSs X st (tLn X.N.length t) := by
  refine ⟨fun pins s σ H D I hw => ?_⟩
  refine thn (h.run pins s σ H _ I hw) fun f s1 q => ?_
  cases f with
  | next => obtain ⟨σ', H', I2, q⟩ := q; exact ⟨σ', H', I2, q I2.len⟩
  | brk => obtain ⟨σ', H', I2, q⟩ := q; exact ⟨σ', H', I2, q I2.len⟩
  | cont => obtain ⟨σ', H', I2, q⟩ := q; exact ⟨σ', H', I2, q I2.len⟩
  | ret v => exact q
/-- a def of the text by its promise -/
def DefS (P : Program) (w : World) (K : PySem.W.Frag) (mg : Str → Option Value) (base : Heap) (CX : CXT) (x : Str) (ps : List Str) (k : Nat) (sp : Sp) : Prop :=
  ∃ f fd, FnOk P w K mg base CX k f fd ps sp ∧ mg x = some (.ref f) ∧ PySem.W.keepIn K (.ref f) = true ∧ Binds K fd ps []
/-- the body of the loop that begins a block -/
def forBody : List Stmt → List Stmt
  | .For _ _ b _ _ :: _ => b
  | _ => []
/-- law: a loop over the rounds -/
def tLawS (K : PySem.W.Frag) (n : Nat) (m : Int) (tb : TS) : TS := tSeq (tFor (iSeq K (tCall (spRoundsS K) [] E0 (tCons (tVar 0) (tCons (tC (.int m)) tNil)))) (gName 1) (tLn n tb)) (tRet (tC (.bl true)))
def spLawS (K : PySem.W.Frag) (T : List (Addr × Str)) : Sp := fun vs H Q _ => ∃ (a : Addr) (ns : List Int), vs = [.ref a] ∧ SqL K H a (ns.map V.int) ∧ ns.length ≤ 63 ∧ LamX.Tabs T H ∧ ∀ H', Q (.bl true) H'
/-- what a round starts with -/
def rho0 (n : Nat) (c : Int) : Rho := Cell.no :: Cell.bw (.list [.int c, .int 0]) :: List.replicate (n - 2) Cell.no
def RoundOk (n : Nat) (fb : S) : Prop := ∀ c : Int, ∃ r, fb (rho0 n c) = .nx r ∨ fb (rho0 n c) = .ct r
theorem rho0_get {n : Nat} {c : Int} {j : Nat} {x : Cell} (h : (rho0 n c)[j]? = some x) : (j = 1 ∧ x = .bw (.list [.int c, .int 0])) ∨ x = .no := by
  unfold rho0 at h
  match j with
  | 0 => simp at h; exact .inr h.symm
  | 1 => simp at h; exact .inl ⟨rfl, h.symm⟩
  | j + 2 =>
    simp only [List.getElem?_cons_succ] at h
    exact .inr (List.mem_replicate.mp (List.mem_of_getElem? h)).2
theorem law_run {K : PySem.W.Frag} {T : List (Addr × Str)} {N : List Str} {m : Int} {tb : TS} {fb : S} {vs : List V} {H : Hp} {Q : VK} {E : XK} (hN : 2 ≤ N.length) (hm : m ≤ 63) {EX : Str → Hp → Prop} (ev : ∀ B : Bd, B.T = T → EvS B EX tb fb) (ok : RoundOk N.length fb) (h : spLawS K T vs H Q E) :
    tLawS K N.length m tb { nx := fun _ H' => Q .non H', rt := Q } (L2.start N vs) H := by
  obtain ⟨a, ns, rfl, hs, hn, hT, q⟩ := h
  refine ⟨.ref a, by simp [L2.start], a, ns, m, rfl, hs, hn, hm, fun p as cs H1 sH1 R1 => ?_⟩
  refine ⟨p, rfl, .inl ⟨⟨_, SqL.of R1.2.2.1⟩, ?_⟩⟩
  refine ⟨fun i k σc Hc => LamX.Tabs T Hc ∧ i + k = as.length ∧ σc.length = N.length ∧ Hc p = some (.lst (as.map V.ref)) ∧ ∀ (j : Nat) b d, i ≤ j → as[j]? = some b → cs[j]? = some d → Hc b = some (.lst [.int d, .int 0]), ⟨as.length, hT.ext sH1, by omega, by simp [L2.start]; omega, R1.2.2.1, fun j b d _ => R1.2.2.2 j b d⟩, ?_⟩
  rintro i k σc Hc ⟨hT, hik, hsl, hp, hel⟩
  have hsq : SqL K Hc p (as.map V.ref) := SqL.of hp
  by_cases hi : i < as.length
  · have hic : i < cs.length := by rw [← R1.1]; exact hi
    refine .inr ⟨⟨as.map V.ref, .ref as[i], hsq, by simp [hi]⟩, fun σ' H' => LamX.Tabs T H' ∧ (i + 1) + (k - 1) = as.length ∧ σ'.length = N.length ∧ H' p = some (.lst (as.map V.ref)) ∧ ∀ (j : Nat) b d, i + 1 ≤ j → as[j]? = some b → cs[j]? = some d → H' b = some (.lst [.int d, .int 0]), fun σ' H' hN => ⟨k - 1, by omega, hN⟩, ?_⟩
    rintro x H' ⟨rfl, hx⟩
    have ex := hx _ hsq
    simp [hi] at ex
    subst ex
    have hai := hel i as[i] cs[i] (Nat.le_refl _) (List.getElem?_eq_getElem hi) (List.getElem?_eq_getElem hic)
    have nd := R1.2.1
    have np : p ∉ as := (List.nodup_cons.mp nd).1
    have nda := (List.nodup_cons.mp nd).2
    have hpa : p ≠ as[i] := fun z => np (z ▸ List.getElem_mem hi)
    have ml : (rho0 N.length cs[i]).length = (σc.set 1 (some (.ref as[i]))).length := by
      rw [List.length_set, hsl]
      simp [rho0]
      omega
    have m0 : Mt ⟨H', fun _ => none, [as[i]], T, []⟩ (fun _ => none) H' (σc.set 1 (some (.ref as[i]))) (rho0 N.length cs[i]) := by
      refine ⟨fun _ _ z => (nomatch z), fun _ _ z => (nomatch z), fun _ _ z => (nomatch z), fun _ _ z _ _ => z, fun _ z => z, ml, fun j v c h1 h2 => ?_, fun j l b c c' h1 h2 h3 h4 h5 h6 => ?_, hT, fun _ _ => rfl⟩
      · rcases rho0_get h2 with ⟨rfl, rfl⟩ | rfl
        · have l1 : 1 < σc.length := by omega
          rw [List.getElem?_set_self l1] at h1
          cases h1
          exact ⟨as[i], _, rfl, hai, ⟨.int cs[i], [.int 0], rfl, rfl, .int 0, [], rfl, rfl, rfl⟩, rfl, by simp⟩
        · trivial
      · rcases rho0_get h3 with ⟨rfl, rfl⟩ | rfl
        · rcases rho0_get h4 with ⟨rfl, rfl⟩ | rfl
          · rfl
          · cases h6
        · cases h5
    refine ev ⟨H', fun _ => none, [as[i]], T, []⟩ rfl (fun _ => none) H' _ (rho0 N.length cs[i]) _ m0 ?_
    have fin : ∀ (r : Rho) (σ' : L2.St) (F' H2 : Hp), Mt ⟨H', fun _ => none, [as[i]], T, []⟩ F' H2 σ' r → σ'.length = N.length → LamX.Tabs T H2 ∧ (i + 1) + (k - 1) = as.length ∧ σ'.length = N.length ∧ H2 p = some (.lst (as.map V.ref)) ∧ ∀ (j : Nat) b d, i + 1 ≤ j → as[j]? = some b → cs[j]? = some d → H2 b = some (.lst [.int d, .int 0]) := by
      intro r σ' F' H2 mt hr
      refine ⟨mt.tabs, by omega, hr, mt.frm p _ hp (by simpa using hpa) (tabs_at hT (ld_tbl hp (.inl ⟨_, rfl⟩))), fun j b d hj e1 e2 => mt.frm b _ (hel j b d (by omega) e1 e2) ?_ (tabs_at hT (ld_tbl (hel j b d (by omega) e1 e2) (.inl ⟨_, rfl⟩)))⟩
      intro z
      have hb : b = as[i] := by simpa using z
      obtain ⟨hjl, e1'⟩ := List.getElem?_eq_some_iff.mp e1
      have : i = j := (List.getElem_inj nda).mp (hb.symm.trans e1'.symm)
      omega
    obtain ⟨r, hr | hr⟩ := ok cs[i]
    · rw [hr]
      exact fun σ' F' H2 mt _ hl => fin r σ' F' H2 mt hl
    · rw [hr]
      exact fun σ' F' H2 mt _ hl => fin r σ' F' H2 mt hl
  · refine .inl ⟨⟨as.map V.ref, hsq, by simp; omega⟩, q Hc⟩
end Rn
end

section
set_option Elab.async false
set_option linter.all false
set_option autoImplicit false
set_option maxRecDepth 100000
set_option maxHeartbeats 2000000
/-! Hot1: lists walked while an exception is handled: sum, a comprehension. -/
namespace Rn
open PySem PySem.Spec PyProof.Rows L2 L2H HotX

section
variable {prog : Program} {w : World} {A : Around} {E : Value → Shared → Prop} {s : Shared}
/-- the handled one stands in the heap -/
def HotO (x1 : Addr) (h : Heap) : Prop := ∃ (o : Obj) (vs : Array Value), h.get? x1 = some o ∧ o.data = .fields vs ∧ vs[2]? = some .none
theorem hot_iter {x1 it l : Addr} {i : Nat} {h : Heap} (a : HotO x1 h) (b : h.IsListIter it l i) : x1 ≠ it := fun e => by
  obtain ⟨o, vs, e1, e2, e3⟩ := a
  obtain ⟨o', f1, f2, f3⟩ := b
  rw [e, f1] at e1
  cases e1
  rw [f3] at e2
  cases e2
  cases e3
theorem next_end_hot {it l x1 : Addr} {i : Nat} {items : Array Value} {Q : Option Value → Shared → Prop} (hh : A.handled = some (.ref x1)) (ho : HotO x1 s.heap) (hit : s.heap.IsListIter it l i) (hl : s.heap.IsList l items) (hx : items[i]? = none)
    (hQ : ∀ h', (∀ b o, b ≠ it → s.heap.get? b = some o → h'.get? b = some o) → Q none { s with heap := h' }) : wpAny (model prog w) A (pyNext (.ref it)) Q E s := by
  have hne := hot_iter ho hit
  obtain ⟨o, h1, hc, hd⟩ := id hit
  obtain ⟨ol, hol, _, nl, hdl⟩ := hl
  obtain ⟨o1, vs1, x1h, d1, c1⟩ := ho
  unfold pyNext
  refine wpAny_bind (wpAny_attempt (wpAny_callSpecial?_slot (name := Str.ofString "__next__") hit.typeIs slot_listiter_next (wpAny_call_entry slot_listiter_next hit.typeIs entry_listiter_next ?_ (args_listiter_next _))))
  show wpAny _ _ (field (.ref it) 0 >>= _) _ _ s
  refine wpAny_bind (wpAny_field h1 hd (x := .ref l) rfl ?_)
  show wpAny _ _ (if (Value.ref l == Value.none) = true then _ else _) _ _ s
  rw [if_neg (show ¬ ((Value.ref l == Value.none) = true) from Bool.false_ne_true)]
  show wpAny _ _ (field (.ref it) 1 >>= _) _ _ s
  refine wpAny_bind (wpAny_field h1 hd (x := .int i 0) rfl ?_)
  show wpAny _ _ (seqItems? (.ref l) >>= _) _ _ s
  refine wpAny_bind (wpAny_seqItems hol hdl ?_)
  simp only [Int.toNat_natCast, hx]
  refine wpAny_bind (wpAny_rule (wpAny_bind (wpAny_setField h1 hd (by simp) ?_)))
  show wpAny _ _ (newExc (.type "StopIteration") [] >>= _) _ _ _
  refine wpAny_bind ?_
  simp only [newExc, newTuple]
  refine wpAny_bind (wpAny_newObj_type ?_ (by size_fits))
  refine wpAny_bind (m := firstArgMember _ _) (wpAny_of_eq (a := Value.none) (by first | rfl | (simp only [firstArgMember]; rfl)) ?_)
  refine wpAny_newObj_type ?_ (by size_fits)
  have hx1 : ∀ f, (s.heap.update it f).get? x1 = some o1 := fun f => (Heap.get?_update_other _ _ hne.symm).trans x1h
  refine raiseNew_hot (x1 := x1) ⟨hh, o1, vs1, Heap.get?_push_of_some _ (Heap.get?_push_of_some _ (hx1 _)), d1, c1⟩ (Nat.ne_of_lt (Heap.lt_size (Heap.get?_push_of_some _ (hx1 _)))) (Heap.get?_push_size _ rfl) rfl (by first | (simp; done) | (simp; omega) | (simp only [Array.size_append]; simp; omega)) ?_
  refine wpAny_bind (wpAny_isInstance (T := "StopIteration") (b := true) ⟨_, Heap.get?_update_self _ (Heap.get?_push_size _ rfl) rfl, rfl⟩ isSubtype_stop ?_)
  refine wpAny_pure (hQ _ fun b o hb e => ?_)
  have e' : ∀ f, (s.heap.update it f).get? b = some o := fun f => (Heap.get?_update_other _ _ hb.symm).trans e
  rw [Heap.get?_update_other _ _ (Nat.ne_of_gt (Heap.lt_size (Heap.get?_push_of_some _ (e' _))))]
  exact Heap.get?_push_of_some _ (Heap.get?_push_of_some _ (e' _))
theorem HotO.at {x1 : Addr} {h h' : Heap} (a : HotO x1 h) (e : ∀ o, h.get? x1 = some o → h'.get? x1 = some o) : HotO x1 h' := by
  obtain ⟨o, vs, e1, e2, e3⟩ := a
  exact ⟨o, vs, e _ e1, e2, e3⟩
theorem walks_hot {x1 I ax : Addr} (hh : A.handled = some (.ref x1)) (hne : ax ≠ I) (items : Array Value) :
    Walks prog w A I [I, ax, x1] [I] items.size (fun i v => items[i]? = some v) (fun i h => h.IsListIter I ax i ∧ h.IsList ax items ∧ HotO x1 h) where
  sub := fun b hb => by simp at hb; simp [hb]
  frame := fun _ _ _ st hk => ⟨st.1.at fun o e => hk I (by simp) o e, st.2.1.at fun o e => hk ax (by simp) o e, st.2.2.at fun o e => hk x1 (by simp) o e⟩
  item := fun i s Q E hi st hQ => by
    have n1 := hot_iter st.2.2 st.1
    refine wpAny_pyNext_list_item st.1 st.2.1 (x := items[i]) (by simp [hi]) fun h' hit' hs' => ?_
    exact hQ _ h' s.toks (by simp [hi]) ⟨hit', st.2.1.extBut hs'.extBut hne, st.2.2.at fun o e => hs'.extBut x1 o n1 e⟩ fun b o hb e => hs'.extBut b o (fun h => hb (by simp [h])) e
  done := fun s Q E st hQ => next_end_hot hh st.2.2 st.1 st.2.1 (by simp) fun h' he => hQ h' s.toks fun b o hb e => he b o (fun z => hb (by simp [z])) e
  self := fun _ _ _ _ st h => wpAny_pyIter_listiter st.1 h
theorem sum_hot {l x1 : Addr} {its : List Value} {ns : List Int} {Q : Value → Shared → Prop} (hh : A.handled = some (.ref x1)) (ho : HotO x1 s.heap) (hl : s.heap.IsList l its.toArray) (hi : IntsAre its ns)
    (h : ∀ h' tk t', (∀ b o, s.heap.get? b = some o → h'.get? b = some o) → Q (.int ns.sum t') { s with heap := h', toks := tk }) : wpAny (model prog w) A (call (.builtin "sum") [.ref l]) Q E s := by
  obtain ⟨xs, e⟩ := hi.allInts.items
  have hn : numsOf (intItems xs).toList = ns := by rw [← e]; exact hi.numsOf
  rw [nums_intItems] at hn
  rw [e] at hl
  refine call_sum_walkG (iter_intList hl fun s₂ es st hfp hlI => ?_)
  subst es
  have hlt : x1 < s.heap.objs.size := by obtain ⟨_, _, q, _⟩ := ho; exact Heap.lt_size q
  refine ⟨_, _, _, _, _, _, numAt xs, rfl, walks_hot (A := A.in1) (x1 := x1) hh hlI (intItems xs), ⟨st.1, st.2, ho.at fun o q => Heap.get?_push_of_some _ q⟩, (fun b hb => ?_), (fun _ _ => intItems_at), fun h' tk t' hk => ?_⟩
  · simp only [List.mem_cons, List.not_mem_nil, or_false] at hb
    rcases hb with z | z | z
    · exact hfp b (by simp [z])
    · exact hfp b (by simp [z])
    · rw [z]
      show x1 < (s.heap.push _).objs.size
      rw [Heap.size_push]
      exact Nat.lt_succ_of_lt hlt
  · have := h h' tk t' (old_kept hk)
    rw [← hn] at this
    rw [show (intItems xs).size = xs.size by simp [intItems], preSum_eq, List.take_of_length_le (by simp)]
    exact this
end

section
variable {X : Cx}
theorem HotC.o (c : HotC X) {pins : List (Addr × Obj)} {σ : L2.St} {H : Hp} {s : Shared} (I : Inv X pins σ H s) : ∃ x1, X.A.handled = some (.ref x1) ∧ HotO x1 s.heap := by
  obtain ⟨x1, h1, h2⟩ := c.at I
  exact ⟨x1, h1, h2⟩
theorem cr_sumH (c : HotC X) : CallR X (.builtin "sum") (rSum X.K) := by
  intro pins s σ H vs us Q I r h
  obtain ⟨a, ns, rfl, hs, q⟩ := h
  obtain ⟨its, rv, hl, _⟩ := I.list hs
  obtain ⟨x1, h1, h2⟩ := HotC.o c I
  rw [Vals.ref1 r]
  exact sum_hot h1 h2 hl.isList rv.ints fun h' tk t' hk => ⟨.int _, H, I.kept hk, ⟨_, rfl⟩, q⟩
end
end Rn
end

section
set_option Elab.async false
set_option linter.all false
set_option autoImplicit false
set_option maxRecDepth 100000
set_option maxHeartbeats 2000000
/-! Hot2: a list comprehension over a list, while an exception is handled. -/
namespace Rn
open PySem PySem.Spec PyProof.Rows L2 L2H HotX

def iSeqL (K : PySem.W.Frag) (tl : TE) : TI := fun σ H R => tl σ H fun x H1 => ∃ a xs, x = .ref a ∧ SqL K H1 a xs ∧ R (Itl K a) H1
section
variable {X : Cx}
theorem pe_lcH {elt tg iter : Expr} {scope : Scope} {own : List (Str × Nat)} {pos : Pos} {tl : TE} {g : TG} {te : TE} (hot : HotC X) (hN : X.N.Nodup) (hl : PE X iter tl) (ok : BlkOk X.N X.env.scope scope own)
    (hg : ∀ (s : Shared) (H : Hp) (C : Addr) (cl : List (Str × Addr)) (fp : List Addr), PG (X.blk s H scope (compEnvC scope cl C X.env) fp) tg g)
    (he : ∀ (s : Shared) (H : Hp) (C : Addr) (cl : List (Str × Addr)) (fp : List Addr), PE (X.blk s H scope (compEnvC scope cl C X.env) fp) elt te) (hs : ∀ x, foldedSetIterable iter X.env x = pure x := by intro _; rfl) :
    PE X (.ListComp elt [⟨tg, iter, [], 0⟩] scope pos) (tLc (iSeqL X.K tl) g tYes te (own.map (·.2))) := by
  refine ⟨fun pins s σ H Q I h => ?_⟩
  rw [eval_ListComp]
  obtain ⟨p, ⟨hh, v1, e1, c1⟩, hp⟩ := hot
  have hfree : ∀ y ∈ scope.names, y.2 = .free → ∃ c, X.env.cells.lookup y.1 = some c := fun y hy e => (ok.free y hy e).elim (fun k => I.ok.has _ (.inl k)) fun k => I.ok.has _ (.inr k)
  refine wpAny_comprehension_free (use := none) rfl hs (closure_ok hfree) ok.kind (fun y hy e => by rw [ok.uniq y hy, e]) (thn (hl.run pins s σ H _ I h) fun xv s1 hx => ?_)
  obtain ⟨x0, H1, I1, r1, a, xs, e, hsq, q⟩ := hx
  subst e
  obtain rfl : xv = Value.ref a := r1
  obtain ⟨its, rv, pl, hz⟩ := I1.list hsq
  refine wpAny_pyIter_list pl.isList ?_
  -- the iterator
  obtain ⟨it, hit⟩ : ∃ it, it = s1.heap.objs.size := ⟨_, rfl⟩
  obtain ⟨s2, hs2⟩ : ∃ s2 : Shared, s2 = { s1 with heap := s1.heap.push { cls := .type "list_iterator", data := .fields #[.ref a, .int 0 0] } } := ⟨_, rfl⟩
  rw [← hs2, ← hit]
  have I2 : Inv X pins σ H1 s2 := by rw [hs2]; exact I1.kept (t' := s1.toks) fun b o z => Heap.get?_push_of_some _ z
  have st2 : s2.heap.IsListIter it a 0 := by rw [hs2, hit]; exact ⟨_, Heap.get?_push_size _ rfl, rfl, rfl⟩
  have f2 : FpOk X pins H1 it := I1.fpOk (by rw [hit]; exact Nat.le_refl _) (I1.hok.fresh (by rw [hit]; exact Nat.le_refl _))
  refine wpAny_newObj_type (newEnv_comp ?_) (by show 0 ≤ sizeLine; decide)
  -- the new list
  obtain ⟨D, hD⟩ : ∃ D, D = s2.heap.objs.size := ⟨_, rfl⟩
  rw [← hD]
  have hDn : H1 D = none := I2.hok.fresh (Nat.le_of_eq hD.symm)
  obtain ⟨W, ⟨m0, w0⟩, turn⟩ := q D hDn
  obtain ⟨s3, hs3⟩ : ∃ s3 : Shared, s3 = { s2 with heap := s2.heap.push { cls := .type "list", data := .seq ([] : List Value).toArray } } := ⟨_, rfl⟩
  have I3 : Inv X pins σ (upd H1 D (.lst [])) s3 := by
    rw [hs3]
    exact I2.laid (t' := s2.toks) (fun b o z => Heap.get?_push_of_some _ z) (Nat.le_of_eq hD.symm) ⟨Nat.zero_le _, [], 0, .nil, by rw [hD]; exact Heap.get?_push_size _ rfl⟩
  have lt_it : it < s2.heap.objs.size := by obtain ⟨o, z, _⟩ := st2; exact Heap.lt_size z
  have h3 : s3.heap = s2.heap.push { cls := .type "list", data := .seq ([] : List Value).toArray } := by rw [hs3]
  have nit : it ≠ D := by rw [hD]; exact Nat.ne_of_lt lt_it
  have f3 : ∀ b ∈ [it], FpOk X pins (upd H1 D (.lst [])) b ∧ b < s3.heap.objs.size := fun b hb => by
    obtain rfl : b = it := by simpa using hb
    exact ⟨⟨by rw [upd_ne nit]; exact f2.1, f2.2⟩, by rw [h3, Heap.size_push]; exact Nat.lt_succ_of_lt lt_it⟩
  have st3 : s3.heap.IsListIter it a 0 := by rw [h3]; exact st2.at fun o z => Heap.get?_push_of_some _ z
  obtain ⟨H3, hH3⟩ : ∃ H3, H3 = upd H1 D (.lst []) := ⟨_, rfl⟩
  rw [← hH3] at I3 w0 f3
  have I4 := block_start I3 ok hN f3
  have pg := hg s3 H3 s3.heap.objs.size (cellsFrom (s3.heap.objs.size + 1) scope.names (cloFrom X.env.cells scope.names [])) [it]
  have pe := he s3 H3 s3.heap.objs.size (cellsFrom (s3.heap.objs.size + 1) scope.names (cloFrom X.env.cells scope.names [])) [it]
  have hs3' : ({ s2 with heap := s2.heap.push { cls := .type "list", data := .seq ([] : List Value).toArray } } : Shared) = s3 := hs3.symm
  show codeAny _ _ (.compStart (.ListComp elt [⟨tg, iter, [], 0⟩] scope pos) 0 (.ref it) (.ref D) (compEnvC scope (cellsFrom ((s2.heap.push { cls := .type "list", data := .seq ([] : List Value).toArray }).objs.size + 1) scope.names (cloFrom X.env.cells scope.names [])) (s2.heap.push { cls := .type "list", data := .seq ([] : List Value).toArray }).objs.size X.env)) _ _
  rw [← h3]
  obtain ⟨ce, hce⟩ : ∃ ce, ce = compEnvC scope (cellsFrom (s3.heap.objs.size + 1) scope.names (cloFrom X.env.cells scope.names [])) s3.heap.objs.size X.env := ⟨_, rfl⟩
  rw [← hce] at I4 pg pe ⊢
  have cL : ce.locals = s3.heap.objs.size := by rw [hce]; rfl
  obtain ⟨s4, hs4⟩ : ∃ s4 : Shared, s4 = { s3 with heap := pushCells (s3.heap.push { cls := .type "dict", data := .dict #[] }) scope.names } := ⟨_, rfl⟩
  rw [← hs4] at I4
  have st4 : s4.heap.IsListIter it a 0 := by rw [hs4]; exact st3.at fun o z => pushCells_keeps _ _ _ _ (Heap.get?_push_of_some _ z)
  have P3 := I3.pin p (List.mem_append_left _ hp)
  have pin4 : Inv (X.blk s3 H3 scope ce [it]) [p] (wipe σ (own.map (·.2))) H3 s4 := I4.pins_of fun u hu => by
    obtain rfl : u = p := by simpa using hu
    refine ⟨by rw [hs4]; exact pushCells_keeps _ _ _ _ (Heap.get?_push_of_some _ P3.1), P3.2.1, ?_, fun z => ?_, P3.2.2.2.2⟩
    · show u.1 ≠ ce.locals
      rw [cL]
      exact Nat.ne_of_lt (Heap.lt_size P3.1)
    · exact (List.mem_cons.mp (I3.stkSub u.1 z)).elim P3.2.2.1 P3.2.2.2.1
  have stat : ∀ {pl : List (Addr × Obj)} {σ' : L2.St} {H' : Hp} {s' : Shared}, (∀ u ∈ pl, u.1 ≠ it) → Inv (X.blk s3 H3 scope ce [it]) pl σ' H' s' → H' it = none → FpOk (X.blk s3 H3 scope ce [it]) pl H' it := fun {pl σ' H' s'} hpl I' hn =>
    ⟨hn, (I'.ok.exf it (by simp)).1, I'.ok.exfs it (by simp), .inl (by simp), fun x c z => (I'.ok.exf it (by simp)).2 x c z, fun u hu => hpl u (by simpa using hu)⟩
  have npi : p.1 ≠ it := fun z => by
    have h0 := (I1.pin p (List.mem_append_left _ hp)).1
    rw [z, hit] at h0
    exact Nat.lt_irrefl _ (Heap.lt_size h0)
  have np1 : ∀ u ∈ [p], u.1 ≠ it := fun u hu => by
    obtain rfl : u = p := by simpa using hu
    exact npi
  have fin0 : ∀ (s' : Shared) (H' : Hp), Inv (X.blk s3 H3 scope ce [it]) [p] (wipe σ (own.map (·.2))) H' s' → Q (.ref D) H' → compPost (model X.prog X.w) X.A X.xe none (EP X pins σ Q) (.ref D) s3.heap.objs.size (.ok .next) s' := fun s' H' I6 qq => by
    have I7 : Inv X pins σ H' s' := I3.call' (ch := [it]) I6.os I6.base I6.hok I6.bare fun b hb => ⟨(f3 b hb).1.2.2.2.1, (f3 b hb).1.2.1, (f3 b hb).1.2.2.2.2.1, (f3 b hb).1.2.2.2.2.2⟩
    have nC : H' s3.heap.objs.size = none := by
      have z : H' ce.locals = none := I6.free
      rwa [cL] at z
    obtain ⟨m, hn, _⟩ := I6.loc
    have hn : s'.heap.Ns ce.locals m := hn
    rw [cL] at hn
    refine ⟨m, hn, fun h'' sb => ?_⟩
    obtain ⟨g0, g1, g2, g3, g4, g5⟩ := I3.fpOk (Nat.le_refl _) nC
    exact ⟨.ref D, H', I7.turned (t' := s'.toks) (fun b o hb z => (sb.2 b hb).trans z) g0 g1 g3 g4 g5, rfl, qq⟩
  have loop : codeAny (model X.prog X.w) X.A (.compLoop (.ListComp elt [⟨tg, iter, [], 0⟩] scope pos) 0 (.ref it) (.ref D) ce) (compPost (model X.prog X.w) X.A X.xe none (EP X pins σ Q) (.ref D) s3.heap.objs.size) s4 := by
    refine compLoop_any (fun n s' => ∃ i H', Inv (X.blk s3 H3 scope ce [it]) [p] (wipe σ (own.map (·.2))) H' s' ∧ s'.heap.IsListIter it a i ∧ H' it = none ∧ W i n H') ?_ m0 ⟨0, H3, pin4, st4, (f3 it (by simp)).1.1, w0⟩
    rintro n s5 ⟨i, H5, I5, st5, n5, w5⟩
    obtain ⟨f0, f1, _, f3', f4, f5⟩ := stat np1 I5 n5
    rcases turn i n H5 w5 with ⟨⟨ys, hy, hle⟩, qq⟩ | ⟨⟨ys, y0, hy, hy0⟩, Nx, hNx, step⟩
    · obtain ⟨its5, rv5, p5, hz5⟩ := I5.list hy
      have hl5 := rv5.length
      have ho : HotO p.1 s5.heap := ⟨p.2, v1, (I5.pin p (by simp)).1, e1, c1⟩
      refine next_end_hot hh ho st5 p5.isList (by simp; omega) fun h' eb => ?_
      exact fin0 _ _ (I5.turned (t' := s5.toks) (fun b o hb z => eb b o hb z) f0 f1 f3' f4 f5) qq
    · obtain ⟨its5, rv5, p5, hz5⟩ := I5.list hy
      obtain ⟨u, hu, ru⟩ := rv5.get hy0
      refine wpAny_pyNext_list_item st5 p5.isList (x := u) (by simpa using hu) fun h' st6 sb => ?_
      have I6 : Inv (X.blk s3 H3 scope ce [it]) [p] (wipe σ (own.map (·.2))) H5 { s5 with heap := h' } := I5.turned (t' := s5.toks) (fun b o hb z => (sb.2 b hb).trans z) f0 f1 f3' f4 f5
      obtain ⟨oi, ei, ci, di⟩ := id st6
      refine go_of (s := { s5 with heap := h' }) ei ci di (by decide) ?_
      have I6' := I6.pinned (fp := [it]) (fun b hb => (show b = it by simpa using hb) ▸ stat np1 I6 n5) (fun b hb => (show b = it by simpa using hb) ▸ ⟨oi, ei, fun v z => by rw [di] at z; cases z⟩)
      refine thnF (pg.run _ _ _ H5 y0 u _ I6' ru (step y0 H5 ⟨rfl, fun zs hz => by rw [I5.list_inj hz hy]; exact hy0⟩)) fun _ s8 ⟨σ8, H8, I8, hw8, q8⟩ => ?_
      refine wpAny_tests_nil ?_
      have q8 : te σ8 H8 fun y H4 => ∃ acc, H4 D = some (.lst acc) ∧ acc.length < sizeLine ∧ Nx (upd H4 D (.lst (acc ++ [y]))) := q8
      show wpAny _ _ (eval elt ce) _ _ _
      refine thnF (pe.run _ s8 σ8 H8 _ I8 q8) fun z s10 ⟨yv, H10, I10, r10, acc, hD10, hz10, nx⟩ => ?_
      refine app_ok (X := X.blk s3 H3 scope ce [it]) I10 hD10 hz10 r10 fun s11 I11 => ?_
      obtain ⟨m', hm, w'⟩ := hNx _ nx
      have pin' := I11.pin (it, oi) (List.mem_append_right _ (List.mem_append_right _ (mem_pinsAt (by simp) ei)))
      refine ⟨m', hm, i + 1, _, (I11.unpinned (pins := [p])).weak (by rw [← hw8, wipe_length]) (fun j v z => ?_), st6.at (fun o z => ?_), pin'.2.1, w'⟩
      · rw [← hw8] at z
        exact (wipe_some z).1
      · have z : h'.get? it = some o := z
        rw [show h'.get? it = some oi from ei] at z
        cases z
        exact pin'.1
  have z := codeAny_compStart_list loop (wpAny_pyIter_listiter st4 loop)
  have g1 : s3.gens = s2.gens := by rw [hs3]
  have g2 : s3.drawn = s2.drawn := by rw [hs3]
  have g3 : s3.toks = s2.toks := by rw [hs3]
  have g4 : s3.os = s2.os := by rw [hs3]
  rw [hs4, g1, g2, g3, g4] at z
  exact z
end
end Rn
end

section
set_option Elab.async false
set_option linter.all false
set_option autoImplicit false
set_option maxRecDepth 100000
set_option maxHeartbeats 2000000
/-! Hot3: rules for the def that looks at a caught error. -/
namespace Rn
open PySem PySem.Spec PyProof.Rows L2 L2H HotX

theorem call_isP {X : Cx} {a D : Addr} {oe : Obj} (hp : (a, oe) ∈ X.pn) (C : ExcC X.K D) (hz : Zc (.ref D) none oe) (hf : ∃ vs, oe.data = .fields vs) : CallR X (.builtin "isinstance") (rIsE X.K D a) := by
  intro pins s σ H xs us Q I r h
  obtain ⟨c, cv, b, rfl, hcv, e, q⟩ := h
  match us, r with
  | [_, u2], .cons rx (.cons rt .nil) =>
    cases rx
    obtain rfl := hcv _ rt
    have hget := (I.pin (a, oe) (List.mem_append_left _ hp)).1
    have J : PySem.W.InstAt s.heap a oe D none := by
      obtain ⟨vs, hv⟩ := hf
      obtain ⟨oc, od, oda, osl⟩ := oe
      obtain ⟨h1, h2⟩ := hz
      dsimp only at h1 h2 hv
      subst h1 h2 hv
      exact ⟨hget, rfl, rfl, trivial⟩
    exact PySem.W.kia_one (PySem.W.handS_kitx_exc C.hg C.hk C.hs C.hd C.ha C.hn C.ht C.hm) I.kIn J e (fun z => nomatch z) fun tk => ⟨.bl b, H, I.kept (t' := tk) fun _ _ z => z, rfl, q⟩
/-- isinstance of the error in slot 0 -/
def mIsE (b : Bool) : M D := fun ρ => match ρ[0]? with
  | some (Cell.va 0) => .ok (.bool b) ρ
  | _ => .no
section
variable {X : Cx} {B : Bd} {EX : Str → Hp → Prop}
theorem ev_isE {K : PySem.W.Frag} {D a : Addr} {c : V} {cv : Value} {b : Bool} (hB : B.vals[0]? = some (.ref a)) (hc : ∀ u, RelV c u → u = cv) (hk : PySem.W.kitOne K (.ref D) cv = some b) :
    Ev B EX VD (tCB (rIsE K D a) (tCons (tVar 0) (tCons (tC c) tNil))) (mIsE b) := by
  intro F H σ ρ Q m h
  unfold mIsE at h
  cases e : ρ[0]? with
  | none => rw [e] at h; exact h.elim
  | some c0 =>
    rw [e] at h
    cases c0 with
    | va k =>
      match k, h, e with
      | 0, h, e =>
        have hi : 0 < σ.length := by rw [← m.len]; exact (List.getElem?_eq_some_iff.mp e).1
        have hv := List.getElem?_eq_getElem hi
        obtain ⟨u, h1, h2⟩ := m.cell 0 _ _ hv e
        rw [hB] at h1
        cases h1
        rw [h2] at hv
        exact ⟨.ref a, hv, c, cv, b, rfl, hc, hk, h (.bl b) F H m.refl rfl⟩
      | k + 1, h, e => exact h.elim
    | _ => exact h.elim
variable {a : Addr} {oe : Obj} {p1 p2 p pos : Pos}
/-- isinstance(e, T), T an own class -/
theorem je_isE {K : PySem.W.Frag} {D cT : Addr} {T : Str} {b : Bool} (hp : (a, oe) ∈ X.pn) (C : ExcC X.K D) (hz : Zc (.ref D) none oe) (hf : ∃ vs, oe.data = .fields vs) (hB : B.vals[0]? = some (.ref a)) (hm : X.mg "isinstance" = none)
    (hT : X.mg T = some (.ref cT)) (hk : PySem.W.kitOne X.K (.ref D) (.ref cT) = some b) (hN : X.N[0]? = some ("e" : Str) := by rfl) (hv : Vis X.env.scope "e" := by first | exact Or.inl rfl | exact Or.inr (Or.inl rfl) | exact Or.inr (Or.inr rfl))
    (hgT : Gl X T := by rfl) (hg : Gl X "isinstance" := by rfl) (hdT : (T == ("__debug__" : Str)) = false := by decide)
    (h1 : starEach [.Name "e" p1, .Name T p2] X.env = (false, eval (.Name "e" p1) X.env) :: starEach [.Name T p2] X.env := by rfl) (h2 : starEach [.Name T p2] X.env = (false, eval (.Name T p2) X.env) :: starEach [] X.env := by rfl) (hpl : (backTo pos (starEach [.Name T p2] X.env)).any (·.1) = false := by rfl) (hK : X.K = K := by rfl) :
    JE X B EX (.Call (.Name "isinstance" p) [.Name "e" p1, .Name T p2] [] pos) (tCB (rIsE K D a) (tCons (tVar 0) (tCons (tC (.ref cT)) tNil))) (mIsE b) := by
  subst hK
  exact ⟨pe_callB (call_isP hp C hz hf) hg hm PyProof.Rows.boot_isinstance (pa_cons (pv 0 hN hv) (pa_cons (pe_glob hgT hT rfl hdT) pa_nil h2) h1) (by decide) (by decide) h1 hpl, ev_isE hB (fun _ z => z) hk⟩
/-- isinstance(e, ValueError) -/
theorem je_isV {K : PySem.W.Frag} {D : Addr} {b : Bool} (hp : (a, oe) ∈ X.pn) (C : ExcC X.K D) (hz : Zc (.ref D) none oe) (hf : ∃ vs, oe.data = .fields vs) (hB : B.vals[0]? = some (.ref a)) (hm : X.mg "isinstance" = none)
    (hT : X.mg "ValueError" = none) (hk : PySem.W.kitOne X.K (.ref D) (.type "ValueError") = some b) (hN : X.N[0]? = some ("e" : Str) := by rfl) (hv : Vis X.env.scope "e" := by first | exact Or.inl rfl | exact Or.inr (Or.inl rfl) | exact Or.inr (Or.inr rfl))
    (hgT : Gl X "ValueError" := by rfl) (hg : Gl X "isinstance" := by rfl)
    (h1 : starEach [.Name "e" p1, .Name "ValueError" p2] X.env = (false, eval (.Name "e" p1) X.env) :: starEach [.Name "ValueError" p2] X.env := by rfl) (h2 : starEach [.Name "ValueError" p2] X.env = (false, eval (.Name "ValueError" p2) X.env) :: starEach [] X.env := by rfl) (hpl : (backTo pos (starEach [.Name "ValueError" p2] X.env)).any (·.1) = false := by rfl) (hK : X.K = K := by rfl) :
    JE X B EX (.Call (.Name "isinstance" p) [.Name "e" p1, .Name "ValueError" p2] [] pos) (tCB (rIsE K D a) (tCons (tVar 0) (tCons (tC (.ty "ValueError")) tNil))) (mIsE b) := by
  subst hK
  exact ⟨pe_callB (call_isP hp C hz hf) hg hm PyProof.Rows.boot_isinstance (pa_cons (pv 0 hN hv) (pa_cons (pe_bltn (v := .ty "ValueError") hgT hT L2.boot_ValueError rfl (by decide) (by decide)) pa_nil h2) h1) (by decide) (by decide) h1 hpl, ev_isE hB (fun _ z => z) hk⟩
/-! ### a comprehension -/
def mSeqL (f : M D) : M (List D) := bnd f fun d => match d with
  | .list ds => ret ds
  | _ => stuck
theorem evi_seqL {K : PySem.W.Frag} {t : TE} {f : M D} (h : Ev B EX VD t f) : Ev B EX VI (iSeqL K t) (mSeqL f) := by
  refine Ev.bind (tb := fun x σ H R => ∃ a xs, x = .ref a ∧ SqL K H a xs ∧ R (Itl K a) H) h fun d x F H σ ρ Q m p q => ?_
  cases d with
  | list ds =>
    obtain ⟨a, vs, rfl, e, l⟩ := p
    exact ⟨a, vs, rfl, SqL.of (m.sub _ _ e), q _ F H m.refl (itok_list e l)⟩
  | _ => exact q.elim
theorem jf_lcH {K : PySem.W.Frag} {elt tg iter : Expr} {scope : Scope} {own : List (Str × Nat)} {g : TG} {tl te : TE} {fl fe : M D} {h : D → Rho → Option Rho} {L : List Nat} (hot : HotC X) (hN : X.N.Nodup) (ok : BlkOk X.N X.env.scope scope own) (hi : JE X B EX iter tl fl)
    (hg : ∀ (s : Shared) (H : Hp) (C : Addr) (cl : List (Str × Addr)) (fp : List Addr), JG (X.blk s H scope (compEnvC scope cl C X.env) fp) B tg g h L)
    (he : ∀ (s : Shared) (H : Hp) (C : Addr) (cl : List (Str × Addr)) (fp : List Addr), JE (X.blk s H scope (compEnvC scope cl C X.env) fp) B EX0 elt te fe) (hL : ∀ i ∈ L, i ∈ own.map (·.2) := by decide) (hs : ∀ x, foldedSetIterable iter X.env x = pure x := by intro _; rfl) (hK : X.K = K := by rfl) :
    JF X B EX (.ListComp elt [⟨tg, iter, [], 0⟩] scope pos) (tLc (iSeqL K tl) g tYes te (own.map (·.2))) (mLc (mSeqL fl) h mYes fe (own.map (·.2))) := by
  subst hK
  exact ⟨pe_lcH hot hN hi.p ok (fun s H C cl fp => (hg s H C cl fp).p) (fun s H C cl fp => (he s H C cl fp).p) hs, evf_lc (evi_seqL hi.v) (hg X.s_0 X.H_0 0 [] []).v (jbs_nil (X := X) (B := B) (EX := EX0)).v (he X.s_0 X.H_0 0 [] []).v hL⟩
theorem cK_sumH {K : PySem.W.Frag} (hK : X.K = K) (hc : HotC X) : CallR X (.builtin "sum") (rSum K) := by subst hK; exact cr_sumH hc
/-! ### flags.index(True) -/
def idxT : List D → Nat → Option Nat
  | .bool true :: _, n => some n
  | .bool false :: r, n => idxT r (n + 1)
  | _, _ => none
def allB : List D → Bool
  | [] => true
  | .bool _ :: r => allB r
  | _ => false
theorem idxT_ok {F : Hp} : ∀ {ds : List D} {vs : List V} {n k : Nat}, DenL F ds vs → idxT ds n = some k → n ≤ k ∧ vs[k - n]? = some (.bl true) ∧ ∀ (m : Nat) (z : V), m < k - n → vs[m]? = some z → z = .bl false
  | [], _, n, k, _, h => by simp [idxT] at h
  | .bool true :: ds, _, n, k, ⟨v, r, e, hv, l⟩, h => by
    subst e
    have : n = k := by simpa [idxT] using h
    subst this
    refine ⟨Nat.le_refl _, ?_, fun m z hm => by omega⟩
    rw [Nat.sub_self]
    rw [show v = V.bl true from hv]
    rfl
  | .bool false :: ds, _, n, k, ⟨v, r, e, hv, l⟩, h => by
    subst e
    obtain ⟨h1, h2, h3⟩ := idxT_ok (n := n + 1) (k := k) l (by simpa [idxT] using h)
    refine ⟨by omega, ?_, fun m z hm hz => ?_⟩
    · rw [show k - n = (k - (n + 1)) + 1 by omega]
      simpa using h2
    · cases m with
      | zero => simp at hz; rw [← hz]; exact hv
      | succ m => exact h3 m z (by omega) (by simpa using hz)
  | .none :: _, _, _, _, _, h => by simp [idxT] at h
  | .int _ :: _, _, _, _, _, h => by simp [idxT] at h
  | .str _ :: _, _, _, _, _, h => by simp [idxT] at h
  | .list _ :: _, _, _, _, _, h => by simp [idxT] at h
  | .tuple _ :: _, _, _, _, _, h => by simp [idxT] at h
  | .dict _ :: _, _, _, _, _, h => by simp [idxT] at h
theorem allB_ok {F : Hp} : ∀ {ds : List D} {vs : List V}, DenL F ds vs → allB ds = true → vs.all flatV = true
  | [], _, h, _ => by cases h; rfl
  | .bool b :: ds, _, ⟨v, r, e, hv, l⟩, h => by
    subst e
    rw [show v = V.bl b from hv, List.all_cons, allB_ok l (by simpa [allB] using h)]
    rfl
  | .none :: _, _, _, h => by simp [allB] at h
  | .int _ :: _, _, _, h => by simp [allB] at h
  | .str _ :: _, _, _, h => by simp [allB] at h
  | .list _ :: _, _, _, h => by simp [allB] at h
  | .tuple _ :: _, _, _, h => by simp [allB] at h
  | .dict _ :: _, _, _, h => by simp [allB] at h
def idxF : D → Option D
  | .list ds => if allB ds = true then (idxT ds 0).map fun k => .int (k : Nat) else none
  | _ => none
def mIdx (f : M D) : M D := bnd f fun d => lft (idxF d)
theorem ev_idx {K : PySem.W.Frag} {t : TE} {f : M D} (h : Ev B EX VD t f) : Ev B EX VD (tBM K "list" (rIndex K) t (tCons (tC (.bl true)) tNil)) (mIdx f) := by
  refine Ev.bind (tb := fun x σ H Q => tyV K "list" x H ∧ rIndex K x [.bl true] H Q) h fun d x F H σ ρ Q m p q => ?_
  cases d with
  | list ds =>
    obtain ⟨a, vs, rfl, e, l⟩ := p
    have hs : SqL K H a vs := SqL.of (m.sub _ _ e)
    have q : Post B EX F H σ ρ VD (lft (idxF (.list ds)) ρ) Q := q
    simp only [idxF] at q
    by_cases hb : allB ds = true
    · rw [if_pos hb] at q
      cases ek : idxT ds 0 with
      | none => rw [ek] at q; exact q.elim
      | some k =>
        rw [ek] at q
        obtain ⟨_, k2, k3⟩ := idxT_ok l ek
        exact ⟨.inl ⟨rfl, vs, hs⟩, a, vs, .bl true, k, .bl true, rfl, rfl, hs, rfl, allB_ok l hb, by simpa using k2, rfl, fun m' z hm hz => by rw [k3 m' z (by omega) hz]; rfl, q (.int (k : Nat)) F H m.refl rfl⟩
    · rw [if_neg hb] at q; exact q.elim
  | _ => exact q.elim
theorem je_idx {K : PySem.W.Frag} (i : Nat) {y : Str} {p3 p4 : Pos} {j} (hN : X.N[i]? = some y := by rfl) (hv : Vis X.env.scope y := by first | exact Or.inl rfl | exact Or.inr (Or.inl rfl) | exact Or.inr (Or.inr rfl)) (hd : (y == ("__debug__" : Str)) = false := by decide) (hcd : (y == ("__classdict__" : Str)) = false := by decide)
    (hbase : attributeBase (.Name y p1) "index" X.env (eval (.Name y p1) X.env) = eval (.Name y p1) X.env := by rfl)
    (hfew : ((backTo p3 (starEach [Expr.Constant (.bool true) j p4] X.env)).all (fun x => !x.1) && (backToKw p3 (keywordEach [] X.env)).all (fun x => x.1.isSome) && decide (([Expr.Constant (.bool true) j p4] : List Expr).length + ([] : List Keyword).length + (if ([] : List Keyword).isEmpty then 0 else 1) < 30)) = true := by rfl)
    (hline : (p2.endLine == p3.line) = true := by rfl) (hst : starEach [Expr.Constant (.bool true) j p4] X.env = (false, eval (Expr.Constant (.bool true) j p4) X.env) :: starEach [] X.env := by rfl) (hpl : (backTo p3 (starEach [] X.env)).any (·.1) = false := by rfl) (hK : X.K = K := by rfl) :
    JE X B EX (.Call (.Attribute (.Name y p1) "index" p2) [.Constant (.bool true) j p4] [] p3) (tBM K "list" (rIndex K) (tVar i) (tCons (tC (.bl true)) tNil)) (mIdx (mVar i)) := by
  subst hK
  exact ⟨pe_bm PySem.F.plainAttrs_list PySem.F.slot_list_index PySem.F.type_list_index mt_index (pv i hN hv hd hcd) (pa_cons pe_bl pa_nil hst) hbase hfew hline hst hpl, ev_idx ev_var⟩
end
end Rn
end

section
set_option Elab.async false
set_option linter.all false
set_option autoImplicit false
set_option maxRecDepth 100000
set_option maxHeartbeats 2000000
/-! Hot4: the def that looks at a caught error, called; a lambda handed to a def, its errors' contexts known. -/
namespace Rn
open PySem PySem.Spec PyProof.Rows L2 L2H HotX

/-! ### _law_term -/
def termD (c : Str) : D := .tuple [.str "error", .str c]
structure TermOk (P : Program) (w : World) (K : PySem.W.Frag) (mg : Str → Option Value) (base : Heap) (C : Str → Addr) (names : List Str) (f : Addr) (fd : FuncData) : Prop where
  run : ∀ (c : Str) (A : Around) (outer : List Env) (s : Shared) (H F : Hp) (args : Args) (Q : VK) (p : Addr × Obj), c ∈ names → RoomH 1 A → Hot1 A p → Zc (.ref (C c)) none p.2 → PinOk outer H s p → Env0 P w K mg base A outer s H → BindsTo s fd args [("e", .ref p.1)] → Same F H →
    (∀ v F' H', Ext F H F' H' → Den F' (termD c) v → Q v H') → codeAny (model P w) A (.call (.ref f) args) (CR CX0 outer P w H s Q E0) s
abbrev ctxT (P : Program) (w : World) (K : PySem.W.Frag) (mg : Str → Option Value) (base : Heap) (N : List Str) (scope : Scope) (f : Addr) (cdv : Value) (A : Around) (outer : List Env) (s : Shared) (H : Hp) (p : Addr × Obj) : Cx := cxH CX0 P w K mg base N "_law_term" scope f cdv A outer s H E0 p
theorem hotc_T {P : Program} {w : World} {K : PySem.W.Frag} {mg : Str → Option Value} {base : Heap} {N : List Str} {scope : Scope} {f : Addr} {cdv : Value} {A : Around} {outer : List Env} {s : Shared} {H : Hp} {p : Addr × Obj} (h : Hot1 A p) : HotC (ctxT P w K mg base N scope f cdv A outer s H p) :=
  ⟨p, h, List.mem_singleton.mpr rfl⟩
theorem termOk_of {P : Program} {w : World} {K : PySem.W.Frag} {mg : Str → Option Value} {base : Heap} {C : Str → Addr} {names : List Str} {f : Addr} {fd : FuncData} {st : Stmt} {N : List Str} {body : Str → S} (h : FnP K "_law_term" st f fd) (Sc : FnScope N ["e"] (defScope st))
    (hv : ∀ c, c ∈ names → ∃ r, body c (Cell.va 0 :: List.replicate (N.length - 1) .no) = .rt (termD c) r) (hN : 0 < N.length)
    (hb : ∀ (c : Str) (cdv : Value) (A : Around) (outer : List Env) (s : Shared) (H : Hp) (p : Addr × Obj), c ∈ names → Hot1 A p → Zc (.ref (C c)) none p.2 → RoomH 0 (A.deeper (envOfC "_law_term" (defScope st) s.heap.objs.size f cdv)) →
      ∃ t, ∀ (B : Bd) (EX : Str → Hp → Prop), B.vals[0]? = some (.ref p.1) → JSs (ctxT P w K mg base N (defScope st) f cdv A outer s H p) B EX (defBody st) t (body c)) : TermOk P w K mg base C names f fd := by
  refine ⟨fun c A outer s H F args Q p hc hr hot hz hpin e0 hbd sF hQ => ?_⟩
  obtain ⟨oc, od, dV, kV, doc, pm, an, cdv, ct, osl, rfl, lk, hcd, _, _⟩ := h.ex
  have KX : K.In s.heap := e0.mod.kin.keeps fun b o e => (e0.bs b o e).1
  have lim : s.heap.NoLimit := e0.mod.nolimit.keeps fun b o e => (e0.bs b o e).1
  have hkind : ∀ y ∈ [(("e" : Str), Value.ref p.1)], (defScope st).names.lookup y.1 = some .local ∨ ((defScope st).names.lookup y.1 = some .cell ∧ ((cellsFrom (s.heap.objs.size + 1) (defScope st).names []).lookup y.1).isSome = true) := fun y hy => by
    obtain rfl : y = (("e" : Str), Value.ref p.1) := by simpa using hy
    exact (Sc.par "e" (by simp)).imp id fun q => ⟨q, PySem.W.cellsFrom_some _ _ _ (.inl q)⟩
  refine codeAny_call_function hr.depth (KX _ _ lk) rfl Sc.co Sc.gen rfl (PySem.W.codeRec_of KX hcd) (hbd _ _ _ _ ?_)
  refine wpAny_newFunctionEnv_cells Sc.kind hkind fun env he s1 x => ?_
  subst he
  refine ⟨lim.keeps x.toInCall.keep, codeAny_func ?_⟩
  obtain ⟨t, ht⟩ := hb c cdv A outer s H p hc hot hz (hr.deeper _)
  have I : Inv (ctxT P w K mg base N (defScope st) f cdv A outer s H p) [] (L2.start N [.ref p.1]) H s1 := inv_startH (ps := ["e"]) (us := [.ref p.1]) Sc hpin e0 rfl (.cons rfl .nil) x
  have B0 : (⟨H, F, [], [], [.ref p.1]⟩ : Bd).vals[0]? = some (.ref p.1) := rfl
  have J := ht ⟨H, F, [], [], [.ref p.1]⟩ EX0 B0
  have m0 : Mt ⟨H, F, [], [], [.ref p.1]⟩ F H (L2.start N [.ref p.1]) (Cell.va 0 :: List.replicate (N.length - 1) .no) := by
    refine ⟨sF, Same.refl _, fun _ _ z => .inl z, fun _ _ z _ _ => z, fun _ z => z, by simp [L2.start], fun j v c0 h1 h2 => ?_, fun j k a c0 c' h1 h2 h3 h4 h5 h6 => ?_, fun _ z => (nomatch z), fun _ z => (nomatch z)⟩
    · cases j with
      | zero =>
        simp [L2.start] at h1 h2
        subst h1; subst h2
        exact ⟨.ref p.1, rfl, rfl⟩
      | succ j =>
        rw [List.getElem?_cons_succ] at h2
        rw [(List.mem_replicate.mp (List.mem_of_getElem? h2)).2]
        trivial
    · have no : ∀ (j : Nat) (c1 : Cell), (Cell.va 0 :: List.replicate (N.length - 1) .no)[j]? = some c1 → c1.own = true → False := fun j c1 z1 z2 => by
        rcases List.mem_cons.mp (List.mem_of_getElem? z1) with q | q
        · rw [q] at z2; cases z2
        · rw [(List.mem_replicate.mp q).2] at z2; cases z2
      exact (no j c0 h3 h5).elim
  obtain ⟨r, hr'⟩ := hv c hc
  have hq : t { nx := fun _ H' => Q .non H', rt := Q } (L2.start N [.ref p.1]) H := by
    refine J.v F H _ _ _ m0 ?_
    rw [hr']
    exact fun v σ' F' H' m s2 dv => hQ v F' H' ⟨fun a o z => m.frm a o z (by simp) (fun _ z => (nomatch z)), m.old, m.sub, m.new⟩ dv
  refine wpAny_mono (J.p.run [] s1 (L2.start N [.ref p.1]) H _ I hq) (fun fl s' hs => ?_) fun e s' hs => ?_
  · have fin : ∀ {σ' : L2.St} {H' : Hp} {v : V} {u : Value}, Inv (ctxT P w K mg base N (defScope st) f cdv A outer s H p) [] σ' H' s' → RelV v u → Q v H' → CE outer P w H s Q u s' := fun {σ' H' v u} J rv q => ⟨v, H', J.os, J.bare, J.base, J.hok, rv, q⟩
    cases fl with
    | ret u =>
      obtain ⟨v, σ', H', J, rv, q⟩ := hs
      exact fin J rv q
    | next =>
      obtain ⟨σ', H', J, q⟩ := hs
      exact fin (v := V.non) (u := Value.none) J rfl q
    | brk =>
      obtain ⟨_, _, _, q⟩ := hs
      exact False.elim q
    | cont =>
      obtain ⟨_, _, _, q⟩ := hs
      exact False.elim q
  · exact hs

/-! ### lambdas -/
def lamCxN (X : Cx) (A : Around) (outer : List Env) (s : Shared) (H : Hp) (E : XK) (scope : Scope) (f c' : Addr) : Cx :=
  { LamX.lamCx X A outer s H E scope f c' with
    xe := fun e s' => wpAny (model X.prog X.w) (A.deeper (LamX.lamEnv X scope s.heap.objs.size f c')) (leaving (LamX.lamEnv X scope s.heap.objs.size f c') e) (fun _ s'' => L2N.CX X.prog X.w outer H s E e s'') (fun e' s'' => L2N.CX X.prog X.w outer H s E e' s'') s' }
theorem inv_N {X : Cx} {A : Around} {outer : List Env} {s s1 : Shared} {H H1 : Hp} {E : XK} {scope : Scope} {f c' : Addr} {pins : List (Addr × Obj)} {σ : L2.St} (I : Inv (LamX.lamCx X A outer s H E scope f c') pins σ H1 s1) : Inv (lamCxN X A outer s H E scope f c') pins σ H1 s1 := by
  obtain ⟨ok, os, bare, bs, loc, cell, free, freeC, pin, hok, len⟩ := I
  obtain ⟨o1, o2, o3, o4, o5, o6, o7, o8, o9, o10, o11, o12, o13, o14, o15, o16, o17, o18⟩ := ok
  exact ⟨⟨o1, o2, o3, o4, o5, o6, o7, o8, o9, o10, o11, o12, o13, o14, o15, o16, o17, o18⟩, os, bare, bs, loc, cell, free, freeC, pin, hok, len⟩
/-- the lambda is made; but for the maker's table all stays -/
theorem lam_make3 {X : Cx} {pins : List (Addr × Obj)} {σ : L2.St} {H : Hp} {s : Shared} {T : List (Addr × Str)} {c P : Addr} {params : Arguments} {body : Expr} {scope : Scope} {pos : Pos} {E : Value → Shared → Prop} {Q : Value → Shared → Prop} (I : Inv X pins σ H s) (TB : LamX.TabB X.base X.mg c P) (hcode : X.env.code = .ref c)
    (hm : (P, X.env.qual ++ "<lambda>") ∈ T) (hu : ∀ p ∈ T, p.1 = P → p.2 = X.env.qual ++ "<lambda>") (hT : LamX.Tabs T H) (hdef : defaultsOf params X.env = ([], [])) (hfree : ∀ y ∈ scope.names, y.2 = .free → ∃ c, X.env.cells.lookup y.1 = some c)
    (h : ∀ (f c' : Addr) (pm ctv : Value) (H1 : Hp) (s' : Shared), Inv X pins σ H1 s' → (∀ b o, H b = some o → b ≠ P → H1 b = some o) → (∀ b, H1 b = none → H b = none) → LamX.Tabs T H1 →
      s'.heap.get? f = some (PySem.W.kla_obj "<lambda>" (X.env.qual ++ "<lambda>") params body scope (cloFrom X.env.cells scope.names []) pm c' ctv) → H1 f = none → f ∉ frs X.stack → H1 c' = some (LamX.CodeO c' (X.env.qual ++ "<lambda>")) → Q (.ref f) s') :
    wpAny (model X.prog X.w) X.A (eval (.Lambda params body scope pos) X.env) Q E s := by
  obtain ⟨ps, hP, ht, ha⟩ := hT _ hm
  have bP : s.heap.BuiltinsAt X.mg P := TB.bm.keeps I.bk
  have hP' : s.heap.get? P = some { cls := .none, data := .fields ps } := I.hok P _ hP
  have nofr : ∀ f, s.heap.objs.size ≤ f → f ∉ frs X.stack := fun f hf z => by
    rcases List.mem_cons.mp (I.stkSub _ z) with e | e
    · have h1 := I.lt
      rw [← e] at h1
      exact Nat.lt_irrefl _ (Nat.lt_of_lt_of_le h1 hf)
    · exact I.nofs hf e
  refine PySem.W.kla_eval hdef ?_
  cases hc : codeAmong pos ps.toList with
  | some cv =>
    obtain ⟨c', e, hco⟩ := ha pos cv hc
    subst e
    refine PySem.W.kla_makeFunctionHit (mg := X.mg) (c := c) (P := P) (ps := ps) (closure_ok hfree) I.ok.glob (I.mod.glob.keeps I.bk) hcode (TB.code.keeps I.bk) hP' ht hc bP fun ctv h' tk hx hsz => ?_
    exact h h'.objs.size c' ((X.mg "__name__").getD .none) ctv H _ (I.kept fun b o e => Heap.get?_push_of_some _ (hx b o e)) (fun _ _ z _ => z) (fun _ z => z) hT (Heap.get?_push_size _ rfl) (I.hok.fresh hsz) (nofr _ hsz) hco
  | none =>
    refine PySem.W.kla_makeFunction (mg := X.mg) (c := c) (P := P) (ps := ps) (closure_ok hfree) I.ok.glob (I.mod.glob.keeps I.bk) hcode (TB.code.keeps I.bk) hP' ht hc TB.gP bP fun c' ctv h' tk hx hge hlt hrec htb => ?_
    obtain ⟨c2, oc, vs, t, e2, hoc, hd, hv⟩ := hrec
    cases e2
    have nC : H c' = none := I.hok.fresh hge
    have nPC : P ≠ c' := ne_of_none hP nC
    have hsz : s.heap.objs.size ≤ h'.objs.size := Nat.le_trans hge (Nat.le_of_lt hlt)
    obtain ⟨H1, hH1⟩ : ∃ H1, H1 = upd (upd H P (.tbl (ps ++ #[rawInt pos.line, rawInt pos.col, .ref c']))) c' (LamX.CodeO c' (X.env.qual ++ "<lambda>")) := ⟨_, rfl⟩
    have I1 := LamX.inv_table (t' := tk) (more := #[rawInt pos.line, rawInt pos.col, .ref c']) (h' := h'.push (PySem.W.kla_obj "<lambda>" (X.env.qual ++ "<lambda>") params body scope (cloFrom X.env.cells scope.names []) ((X.mg "__name__").getD .none) c' ctv)) I hP
      (fun b o hb e => Heap.get?_push_of_some _ (hx b o hb e)) (Heap.get?_push_of_some _ htb) hge ⟨oc, vs, t, Heap.get?_push_of_some _ hoc, hd, hv⟩
    rw [← hH1] at I1
    have keep : ∀ b o, H b = some o → b ≠ P → H1 b = some o := fun b o e n => by rw [hH1, upd_ne (ne_of_none e nC), upd_ne n]; exact e
    have code : ∀ c0, H c0 = some (LamX.CodeO c0 (X.env.qual ++ "<lambda>")) → c0 ≠ P := fun c0 e z => by
      rw [z, hP] at e
      exact LamX.codeO_ne _ (Option.some.inj e).symm
    have dom : ∀ b, H1 b = none → H b = none := fun b e => by
      cases q : H b with
      | none => rfl
      | some o =>
        by_cases hb : b = P
        · rw [hH1, hb, upd_ne nPC, upd_same] at e; cases e
        · rw [keep b o q hb] at e; cases e
    have new : H1 h'.objs.size = none := by
      rw [hH1, upd_ne (Nat.ne_of_gt hlt), upd_ne (Nat.ne_of_gt (Nat.lt_of_lt_of_le (Heap.lt_size hP') hsz))]
      exact I.hok.fresh hsz
    refine h h'.objs.size c' ((X.mg "__name__").getD .none) ctv H1 _ I1 keep dom (fun p hp => ?_) (Heap.get?_push_size _ rfl) new (nofr _ hsz) (by rw [hH1]; exact upd_same)
    by_cases hb : p.1 = P
    · have eL : (ps ++ #[rawInt pos.line, rawInt pos.col, .ref c']).toList = ps.toList ++ [rawInt pos.line, rawInt pos.col, .ref c'] := by simp
      rw [hu p hp hb, hb]
      refine ⟨_, by rw [hH1, upd_ne nPC, upd_same], by rw [eL]; exact PySem.TriplesOk_snoc _ _ _ _ ht, fun p' cv hcv => ?_⟩
      rw [eL] at hcv
      rcases LamX.among_app _ ht hcv with z | z
      · obtain ⟨c0, e1, e2⟩ := ha p' cv z
        exact ⟨c0, e1, keep _ _ e2 (code c0 e2)⟩
      · exact ⟨c', z, by rw [hH1]; exact upd_same⟩
    · obtain ⟨ps', a1, a2, a3⟩ := hT p hp
      refine ⟨ps', keep _ _ a1 hb, a2, fun p' cv hcv => ?_⟩
      obtain ⟨c0, e1, e2⟩ := a3 p' cv hcv
      refine ⟨c0, e1, keep _ _ e2 fun z => ?_⟩
      rw [z, hP] at e2
      exact LamX.codeO_ne _ (Option.some.inj e2).symm
def tLamN (T : List (Addr × Str)) (P : Addr) (TT : (XK → Hp → VK → Prop) → Hp → VK → Prop) (t : XK → TE) : TE := fun σ H Q => LamX.Tabs T H ∧ ∀ H1, (∀ b o, H b = some o → b ≠ P → H1 b = some o) → (∀ b, H1 b = none → H b = none) → LamX.Tabs T H1 → TT (fun E H' Q' => t E σ H' Q') H1 Q
section
variable {X : Cx} {pins : List (Addr × Obj)} {σ : L2.St} {H HZ : Hp} {s s1 : Shared}
theorem pe_actN {CXg : CXT} {Eg : XK} {Ng : List Str} {qg : Str} {sg : Scope} {g f c' : Addr} {cdg pm ctv : Value} {params : Arguments} {body : Expr} {scope : Scope} {k i : Nat} {a : Str} {pn : List (Addr × Obj)} {xe : Value → Shared → Prop} {W : WX} {E : XK} {tb : TE} {p1 p2 : Pos}
    (I : Inv X pins σ H s) (L : LamX.LamS X.env.scope scope) (hf : s.heap.get? f = some (PySem.W.kla_obj "<lambda>" (X.env.qual ++ "<lambda>") params body scope (cloFrom X.env.cells scope.names []) pm c' ctv)) (hfn : H f = none) (hfr : f ∉ frs X.stack)
    (hbind : bindArgs (PySem.W.kla_fn "<lambda>" (X.env.qual ++ "<lambda>") params body scope (cloFrom X.env.cells scope.names []) pm (.ref c') ctv) ⟨[], []⟩ = pure [])
    (tk : L2N.Takes ((cxOf CXg X.prog X.w X.K X.mg X.base Ng qg sg g cdg X.A X.stack s H Eg).tr pn xe) W) (hW : ∀ cls d σ' H', E cls d H' → W cls d σ' H') (hr : Room (k + 1) (X.A.deeper (envOfC qg sg s.heap.objs.size g cdg)))
    (hbody : ∀ (A : Around) (outer : List Env) (s : Shared) (H : Hp), Room k (A.deeper (LamX.lamEnv X scope s.heap.objs.size f c')) → PE (lamCxN X A outer s H E scope f c') body tb)
    (hN : Ng[i]? = some a) (hv : Vis sg a) (hd : (a == ("__debug__" : Str)) = false := by decide) (hcd : (a == ("__classdict__" : Str)) = false := by decide) :
    PE ((cxOf CXg X.prog X.w X.K X.mg X.base Ng qg sg g cdg X.A X.stack s H Eg).tr pn xe) (.Call (.Name a p1) [] [] p2)
      (fun σZ HZ Q => σZ[i]? = some (some (.ref f)) ∧ HZ c' = some (LamX.CodeO c' (X.env.qual ++ "<lambda>")) ∧ tb σ HZ Q) := by
  refine ⟨fun pinsZ sZ σZ HZ Q IZ h => ?_⟩
  obtain ⟨hs, hc, ht⟩ := h
  refine wpAny_Call_Name_kw (thn ((pe_var (pos := p1) (i := i) hN hv hd hcd).run pinsZ sZ σZ HZ (fun v H1 => v = .ref f ∧ H1 = HZ) IZ ⟨.ref f, hs, rfl, rfl⟩) fun u s1 hu => ?_)
  obtain ⟨v, H1, I1, r1, ev, eH⟩ := hu
  subst ev
  rw [eH] at I1
  obtain rfl : u = Value.ref f := r1
  have of1 := I1.base.keep f _ hf hfn hfr (fun z => nomatch (show f ∈ ([] : List Addr) from z))
  refine PySem.W.callWith_F0 ⟨_, _, _, _, of1⟩ ?_
  have un : Un (frs X.stack) [] H HZ s.heap s1.heap := I1.base
  obtain ⟨⟨oc, vs, t, hoc, hdc, hvc⟩, _, _⟩ := I1.hok c' _ hc
  have rc : codeAny (model X.prog X.w) (X.A.deeper (envOfC qg sg s.heap.objs.size g cdg)) (.call (.ref f) ⟨[], []⟩) (CR (L2N.CX X.prog X.w) (envOfC qg sg s.heap.objs.size g cdg :: X.stack) X.prog X.w HZ s1 Q E) s1 := by
    refine PySem.W.kla_callFunE hr.depth of1 rfl L.co L.gen rfl ⟨c', oc, vs, t, rfl, hoc, hdc, hvc⟩ ?_
    rw [hbind]
    refine wpAny_pure (wpAny_newFunctionEnv (fun y hy => (L.own y hy).2) (fun y hy => absurd hy (by simp)) (fun h₁ hns hsb => ⟨I1.nolimit.fresh _ hsb, ?_⟩) L.kind)
    show codeAny _ _ (.expr body (LamX.lamEnv X scope s1.heap.objs.size f c')) _ _
    have kp : ∀ b o, s1.heap.get? b = some o → h₁.get? b = some o := fun b o e => hsb.extBut b o (Nat.ne_of_lt (Heap.lt_size e)) (Heap.get?_push_of_some _ e)
    have J := inv_N (LamX.lam_start2 (E := E) (f := f) (c' := c') (tk := s1.toks + ([] : List (Str × Value)).length) I L I1.env0 hr.hd un hns kp)
    refine PySem.W.kla_codeExpr (wpAny_mono ((hbody _ _ s1 HZ (hr.deeper _)).run [] _ _ HZ Q J ht) (fun v s' hq => ?_) fun e s' hq => hq)
    obtain ⟨w', H', J', rv, q⟩ := hq
    exact ⟨w', H', J'.os, J'.bare, J'.base, J'.hok, rv, q⟩
  have hx : Passes (L2N.CX X.prog X.w) ((cxOf CXg X.prog X.w X.K X.mg X.base Ng qg sg g cdg X.A X.stack s H Eg).tr pn xe) E := L2N.passes_call tk hW
  refine wpAny_call (codeAny_mono rc fun r s' hq => ?_)
  cases r with
  | error e => exact hx pinsZ σZ HZ s1 e s' I1 hq
  | ok fl =>
    cases fl with
    | ret u => exact I1.after hq
    | next => exact False.elim hq
    | brk => exact False.elim hq
    | cont => exact False.elim hq
/-- the def that calls what it got -/
def GivesN (X : Cx) (Ng : List Str) (x : Str) (sg : Scope) (g : Addr) (cdg : Value) (bg : List Stmt) (a : Str) (q : Str) (k : Nat) (TT : (XK → Hp → VK → Prop) → Hp → VK → Prop) : Prop :=
  ∀ (f c' : Addr) (s : Shared) (H : Hp) (Q : VK) (tl : XK → Hp → VK → Prop), Room k (X.A.deeper (envOfC x sg s.heap.objs.size g cdg)) →
    (∀ (W : WX) (pn : List (Addr × Obj)) (xe : Value → Shared → Prop) (E : XK) (p1 p2 : Pos), L2N.Takes ((cxOf CX0 X.prog X.w X.K X.mg X.base Ng x sg g cdg X.A X.stack s H E0).tr pn xe) W → (∀ cls d σ' H', E cls d H' → W cls d σ' H') →
      PE ((cxOf CX0 X.prog X.w X.K X.mg X.base Ng x sg g cdg X.A X.stack s H E0).tr pn xe) (.Call (.Name a p1) [] [] p2) (fun σZ HZ Q => σZ[0]? = some (some (.ref f)) ∧ HZ c' = some (LamX.CodeO c' q) ∧ tl E HZ Q)) →
    H c' = some (LamX.CodeO c' q) → TT tl H Q →
    ∃ t, PSs (cxOf CX0 X.prog X.w X.K X.mg X.base Ng x sg g cdg X.A X.stack s H E0).nox bg t ∧ t { nx := fun _ H' => Q .non H', rt := Q } (L2.start Ng [.ref f]) H
theorem pe_lamcallN {T : List (Addr × Str)} {TT : (XK → Hp → VK → Prop) → Hp → VK → Prop} {x a : Str} {g c P : Addr} {k : Nat} {pg : Arguments} {bg : List Stmt} {sg : Scope} {dV kV doc pm cdv ct oc : Value} {an od : Option Addr} {osl : Array (Option Value)} {Ng : List Str}
    {params : Arguments} {body : Expr} {scope : Scope} {t : XK → TE} {p lpos pos : Pos} (hg : Gl X x) (hm : X.mg x = some (.ref g)) (hk : PySem.W.keepIn X.K (.ref g) = true)
    (lk : X.K.lookup g = some ⟨oc, od, .func (PySem.W.fnOf x x pg bg sg dV kV doc pm an cdv ct), osl⟩) (hcg : PySem.W.codeIn X.K cdv x = true) (hb : L2.Binds X.K (PySem.W.fnOf x x pg bg sg dV kV doc pm an cdv ct) [a] []) (Sg : FnScope Ng [a] sg) (hNg : Ng[0]? = some a) (hva : Vis sg a)
    (hG : GivesN X Ng x sg g cdv bg a (X.env.qual ++ "<lambda>") (k + 1) TT)
    (TB : LamX.TabB X.base X.mg c P) (hcode : X.env.code = .ref c) (hmT : (P, X.env.qual ++ "<lambda>") ∈ T) (hu : ∀ p ∈ T, p.1 = P → p.2 = X.env.qual ++ "<lambda>") (hr : Room (k + 2) X.A) (L : LamX.LamS X.env.scope scope) (hdef : defaultsOf params X.env = ([], []))
    (hbind : ∀ (q : Str) (cl : List (Str × Addr)) (pm cv ctv : Value), bindArgs (PySem.W.kla_fn "<lambda>" q params body scope cl pm cv ctv) ⟨[], []⟩ = pure [])
    (hbody : ∀ (A : Around) (outer : List Env) (s : Shared) (H : Hp) (E : XK) (f c' : Addr), Room k (A.deeper (LamX.lamEnv X scope s.heap.objs.size f c')) → PE (lamCxN X A outer s H E scope f c') body (t E))
    (hdb : (x == ("__debug__" : Str)) = false := by decide) (hd : (a == ("__debug__" : Str)) = false := by decide) (hcd : (a == ("__classdict__" : Str)) = false := by decide) :
    PE X (.Call (.Name x p) [.Lambda params body scope lpos] [] pos) (tLamN T P TT t) := by
  refine ⟨fun pins s σ H Q I h => ?_⟩
  obtain ⟨hT, h⟩ := h
  refine wpAny_Call_Name_kw (ld_glob I hg hm ?_ hdb)
  refine PySem.W.callWith_K (h₀ := X.base) I.ok.mod.kin hk ?_ (by rfl) (by rfl)
  show wpAny _ _ (spliced ((false, eval (.Lambda params body scope lpos) X.env) :: backTo pos (starEach [] X.env))) _ _ s
  refine Calls.spliced_cons (lam_make3 I TB hcode hmT hu hT hdef (L.has I.ok) fun f c' pm' ctv H1 s' I1 eN dN T1 hf hfn hfr hco => ?_)
  refine Calls.spliced_nil ⟨I1.kIn, ?_⟩
  have rc : codeAny (model X.prog X.w) X.A (.call (.ref g) ⟨[.ref f], []⟩) (CR CX0 X.stack X.prog X.w H1 s' Q E0) s' := by
    refine LamX.run_ofS (N := Ng) (ps := [a]) (us := [.ref f]) (vs := [.ref f]) lk hcg Sg hr I1.env0 (hb s' [.ref f] I1.kIn rfl) (.cons rfl .nil) rfl fun hr' => ?_
    obtain ⟨t', ht', hq'⟩ := hG f c' s' H1 Q (fun E H' Q' => t E σ H' Q') hr' (fun W pn xe E p1 p2 tk hW => pe_actN (i := 0) I1 L hf hfn hfr (hbind _ _ _ _ _) tk hW hr' (fun A outer s H hr2 => hbody A outer s H E f c' hr2) hNg hva hd hcd) hco (h H1 eN dN T1)
    exact ⟨t', ht'.nox, hq'⟩
  refine wpAny_call (codeAny_mono rc fun r s2 hq => ?_)
  cases r with
  | error e => exact (show False from hq).elim
  | ok fl =>
    cases fl with
    | ret u => exact I1.after hq
    | next => exact False.elim hq
    | brk => exact False.elim hq
    | cont => exact False.elim hq
end
end Rn
end

section
set_option Elab.async false
set_option linter.all false
set_option autoImplicit false
set_option maxRecDepth 100000
set_option maxHeartbeats 2000000
/-! Hot5: try: return deed() / except RoundError as e: return _law_term(e). -/
namespace Rn
open PySem PySem.Spec PyProof.Rows L2 L2H HotX

theorem takesN0 {X : Cx} : L2N.Takes X (fun _ _ _ _ => False) := fun _ _ x => by
  obtain ⟨_, _, _, _, _, _, _, _, _, _, _, _, _, _, _, _, z⟩ := x
  exact z.elim
/-- _law_term as a def of the text -/
def TermDef (P : Program) (w : World) (K : PySem.W.Frag) (mg : Str → Option Value) (base : Heap) (C : Str → Addr) (names : List Str) : Prop :=
  ∃ f fd, TermOk P w K mg base C names f fd ∧ mg "_law_term" = some (.ref f) ∧ PySem.W.keepIn K (.ref f) = true ∧ Binds K fd ["e"] []
def tTerm (C : Str → Addr) (names : List Str) (a : Addr) (cls : Value) (d : Option Addr) : TE := fun σ H Q => ∃ c F, c ∈ names ∧ cls = .ref (C c) ∧ d = none ∧ (σ.length = 2 → σ[1]? = some (some (.ref a))) ∧ Same F H ∧ ∀ v F' H', Ext F H F' H' → Den F' (termD c) v → Q v H'
section
variable {X : Cx} {C : Str → Addr} {names : List Str} {a : Addr} {oe : Obj} {cls : Value} {d : Option Addr} {p1 p2 pos : Pos} {pn : List (Addr × Obj)}
theorem pe_term (T : TermDef X.prog X.w X.K X.mg X.base C names) (hz : L2N.Zn cls d oe) (hf : ∃ vs, oe.data = .fields vs) (hr : RoomH 1 (X.suite a ((a, oe) :: pn)).A) (h2 : X.N.length = 2) (hN : X.N[1]? = some ("e" : Str)) (hv : Vis X.env.scope "e") (hg : Gl X "_law_term")
    (he : starEach [.Name "e" p2] X.env = (false, eval (.Name "e" p2) X.env) :: starEach [] X.env := by rfl) (hpl : (backTo pos (starEach [] X.env)).any (·.1) = false := by rfl) :
    PE (X.suite a ((a, oe) :: pn)) (.Call (.Name "_law_term" p1) [.Name "e" p2] [] pos) (tTerm C names a cls d) := by
  refine ⟨fun pins s σ H Q I h => ?_⟩
  obtain ⟨f, fd, TO, hm, hk, hb⟩ := T
  obtain ⟨c, F, hc, rfl, rfl, hs, sF, hQ⟩ := h
  have hs := hs (I.len.trans h2)
  have ha : PA (X.suite a ((a, oe) :: pn)) [.Name "e" p2] (tCons (tVar 1) tNil) := pa_cons (pv 1 hN hv) pa_nil he
  refine wpAny_Call_Name_kw (ld_glob I hg hm ?_ (by decide))
  refine PySem.W.callWith_K (h₀ := X.base) I.ok.mod.kin hk (thn (ha.run pos pins s σ H (fun vs H1 => vs = [.ref a] ∧ H1 = H) I ⟨.ref a, hs, rfl, rfl⟩) fun us s1 hu => ?_) he hpl
  obtain ⟨vs, H1, I1, r, ev, eH⟩ := hu
  subst ev
  rw [eH] at I1
  refine ⟨I1.kIn, ?_⟩
  have eus : us = [Value.ref a] := by
    cases r with
    | cons rx rr =>
      cases rr
      cases rx
      rfl
  subst eus
  have b := hb s1 [.ref a] I1.kIn rfl
  have P1 := I1.pin (a, oe) (List.mem_append_left _ List.mem_cons_self)
  have hpin : PinOk (X.suite a ((a, oe) :: pn)).stack H s1 (a, oe) := ⟨P1.1, P1.2.1, fun z => (List.mem_cons.mp (I1.stkSub a z)).elim P1.2.2.1 P1.2.2.2.1, P1.2.2.2.2⟩
  obtain ⟨vs, hd⟩ := hf
  have hot : Hot1 (X.suite a ((a, oe) :: pn)).A (a, oe) := ⟨rfl, vs, hd, hz.2.2 vs hd⟩
  refine wpAny_call (codeAny_mono (TO.run c _ _ s1 H F ⟨[.ref a], []⟩ Q (a, oe) hc hr hot hz.zc hpin I1.env0 b sF hQ) fun r s' hq => ?_)
  cases r with
  | error e => exact (show False from hq).elim
  | ok fl =>
    cases fl with
    | ret u => exact I1.after hq
    | next => exact False.elim hq
    | brk => exact False.elim hq
    | cont => exact False.elim hq
end
/-- what told makes of the reading of what it calls -/
def TTold (C : Str → Addr) (names : List Str) : (XK → Hp → VK → Prop) → Hp → VK → Prop := fun tl H Q =>
  tl (fun cls d H' => ∃ c F, c ∈ names ∧ cls = .ref (C c) ∧ d = none ∧ Same F H' ∧ ∀ v F2 H2, Ext F H' F2 H2 → Den F2 (termD c) v → Q v H2) H Q
theorem told_gives {X : Cx} {C : Str → Addr} {names : List Str} {q : Str} {sg : Scope} {g CS : Addr} {cdg : Value} {k : Nat} {p1 p2 p3 p4 p5 p6 p7 p8 p9 p10 : Pos} (T : TermDef X.prog X.w X.K X.mg X.base C names) (hme : X.mg "RoundError" = some (.ref CS)) (hx : ∀ c ∈ names, PySem.W.exmOne X.K (.ref (C c)) (.ref CS) = some true)
    (hge : sg.names.lookup ("RoundError" : Str) = some .globalImplicit) (hgt : sg.names.lookup ("_law_term" : Str) = some .globalImplicit) (hle : sg.names.lookup ("e" : Str) = some .local) :
    GivesN X ["deed", "e"] "_law_told" sg g cdg [.Try [.Return (some (.Call (.Name "deed" p1) [] [] p2)) p3] [.ExceptHandler (some (.Name "RoundError" p4)) (some "e") [.Return (some (.Call (.Name "_law_term" p5) [.Name "e" p6] [] p7)) p8] p9] [] [] p10] "deed" q (k + 1) (TTold C names) := by
  intro f c' s H Q tl hr act hc h
  have hgl : Gl (cxOf CX0 X.prog X.w X.K X.mg X.base ["deed", "e"] "_law_told" sg g cdg X.A X.stack s H E0).nox "RoundError" := hge
  have hgl2 : Gl (cxOf CX0 X.prog X.w X.K X.mg X.base ["deed", "e"] "_law_told" sg g cdg X.A X.stack s H E0).nox "_law_term" := hgt
  have hrm : RoomH 1 (X.A.deeper (envOfC "_law_told" sg s.heap.objs.size g cdg)) := (roomH_of hr).mono (by omega)
  refine ⟨_, pss_one (L2N.ps_try_as (X := (cxOf CX0 X.prog X.w X.K X.mg X.base ["deed", "e"] "_law_told" sg g cdg X.A X.stack s H E0).nox) (c := .ref CS) (i := 1)
      (tb := fun W D σ H => ∃ Ech : XK, (∀ cls d σ' H', Ech cls d H' → W cls d σ' H') ∧ σ[0]? = some (some (.ref f)) ∧ H c' = some (LamX.CodeO c' q) ∧ tl Ech H D.rt)
      rfl rfl (show (["deed", "e"] : List Str).Nodup by decide) rfl hle ⟨hgl, by decide, .inl hme⟩ takesN0 (fun W pn xe tk _ => ?_) (fun a oe cls d pn hz hf => pss_one (ps_ret (pe_term T hz hf ⟨hrm.dp, hrm.un⟩ rfl rfl (.inl hle) hgl2)))), ?_⟩
  · refine ⟨fun pins s' σ H' D I h' => ?_⟩
    obtain ⟨Ech, hW, h1, h2, h3⟩ := h'
    have hp := act W pn xe Ech p1 p2 tk hW
    exact (pss_one (ps_ret (pos := p3) hp)).run pins s' σ H' D I ⟨h1, h2, h3⟩
  · refine ⟨_, fun cls d σ' H' hE => ?_, rfl, hc, h⟩
    obtain ⟨c, F, hc, rfl, rfl, sF, hQ⟩ := hE
    refine ⟨true, hx c hc, fun _ a na => ⟨c, F, hc, rfl, rfl, fun hl => ?_, sF, hQ⟩, fun z => by cases z⟩
    rw [List.getElem?_set_self (by rw [List.length_set] at hl; omega)]
end Rn
end

section
set_option Elab.async false
set_option linter.all false
set_option autoImplicit false
set_option maxRecDepth 100000
set_option maxHeartbeats 2000000
/-! Hot6: _law_told(lambda: e) as an expression. -/
namespace Rn
open PySem PySem.Spec PyProof.Rows L2 L2H HotX

def excN : List Str := ["InvalidNet", "InvalidStreams", "InvalidRound", "InvalidEvent", "InvalidInput", "InvalidArc", "InvalidNumber", "InvalidForm", "InvalidStores", "InvalidDues", "InvalidText", "Standstill", "NoTime", "Broken", "NoFit", "TooMany", "NothingToUndo"]
/-- the maker's table grows -/
theorem Mt.tab {B : Bd} {F H H1 : Hp} {σ : L2.St} {ρ : Rho} {P : Addr} {q : Str} (m : Mt B F H σ ρ) (hP : (P, q) ∈ B.T) (keep : ∀ b o, H b = some o → b ≠ P → H1 b = some o) (dom : ∀ b, H1 b = none → H b = none) (T1 : LamX.Tabs B.T H1) : Stp B F H σ ρ F H1 ρ := by
  obtain ⟨ps, h1, _⟩ := m.tabs _ hP
  have h1 : H P = some (.tbl ps) := h1
  have ldP : ∀ a o, H a = some o → LD o → a ≠ P := fun a o e l z => by
    rw [z, h1] at e
    cases e
    exact l.tbl
  have mt : Mt B F H1 σ ρ := by
    refine ⟨fun a o e => keep a o (m.sub a o e) (fun z => ?_), m.old, m.new, fun a o e n t => keep a o (m.frm a o e n t) (fun z => t _ hP z.symm), fun a e => m.dom a (dom a e), m.len, fun j v c g1 g2 => ?_, m.apart, T1, m.ntab⟩
    · have := m.ntab _ hP
      rw [z] at e
      rw [this] at e
      cases e
    · have w := m.cell j v c g1 g2
      cases c with
      | no => trivial
      | fz d => exact w
      | va k => exact w
      | ow d => obtain ⟨a, o, x1, x2, x3, x4, x5⟩ := w; exact ⟨a, o, x1, keep a o x2 (ldP a o x2 x3.ld), x3, x4, x5⟩
      | bw d => obtain ⟨a, o, x1, x2, x3, x4, x5⟩ := w; exact ⟨a, o, x1, keep a o x2 (ldP a o x2 x3.ld), x3, x4, x5⟩
  exact ⟨mt, Same.refl _, fun _ _ e => .inl e, fun a o e n t => keep a o e (fun z => t _ hP z.symm), dom, fun _ e => e, fun _ c e => ⟨c, e, KStep.refl c⟩⟩
/-- the value, or the name of the error -/
def mTold (f : M D) : M D := fun ρ => match f ρ with
  | .ok d r => .ok d r
  | .ex c r => if excN.contains c = true then .ok (termD c) r else .no
  | .no => .no
theorem ev_told {B : Bd} {EX : Str → Hp → Prop} {C : Str → Addr} {P : Addr} {q : Str} {t : XK → TE} {f : M D} (hP : (P, q) ∈ B.T) (h : ∀ E : XK, Ev B (fun c H' => E (.ref (C c)) none H') VD (t E) f) : Ev B EX VD (tLamN B.T P (TTold C excN) t) (mTold f) := by
  intro F H σ ρ Q m p
  refine ⟨m.tabs, fun H1 keep dom T1 => ?_⟩
  have x := m.tab hP keep dom T1
  refine h _ F H1 σ ρ Q x.mt ?_
  unfold mTold at p
  cases e : f ρ with
  | no => rw [e] at p; exact p
  | ok d r => rw [e] at p; exact Post.from p x
  | ex c r =>
    rw [e] at p
    simp only at p
    by_cases hc : excN.contains c = true
    · rw [if_pos hc] at p
      exact fun F' H' y => ⟨c, F', by simpa using hc, rfl, rfl, y.mt.sub, fun v F2 H2 z dv => p v F2 H2 ((x.trans y).ext z) dv⟩
    · rw [if_neg hc] at p
      exact p.elim
section
variable {P : Program} {w : World} {K : PySem.W.Frag} {mg : Str → Option Value} {base : Heap} {C : Str → Addr}
/-- a call of a def that may raise, in a lambda -/
theorem je_callL {X : Cx} {A : Around} {outer : List Env} {s : Shared} {H : Hp} {E : XK} {scope : Scope} {fl c' : Addr} {B : Bd} {x : Str} {p pos : Pos} {e : Expr} {es : List Expr} {tl : TA} {fa : M (List D)} {ps : List Str} {k j : Nat} {g : List D → RR}
    (d : DefV X.prog X.w X.K X.mg X.base (L2N.CX X.prog X.w) C x ps k g) (hr : Room j (A.deeper (LamX.lamEnv X scope s.heap.objs.size fl c'))) (ha : JA (lamCxN X A outer s H E scope fl c') B (fun c H' => E (.ref (C c)) none H') (e :: es) tl fa) (hkj : k ≤ j := by decide)
    (hg : Gl (lamCxN X A outer s H E scope fl c') x := by rfl) (hdb : (x == ("__debug__" : Str)) = false := by decide)
    (he : starEach (e :: es) (lamCxN X A outer s H E scope fl c').env = (false, eval e (lamCxN X A outer s H E scope fl c').env) :: starEach es (lamCxN X A outer s H E scope fl c').env := by rfl)
    (hpl : (backTo pos (starEach es (lamCxN X A outer s H E scope fl c').env)).any (·.1) = false := by rfl) :
    JE (lamCxN X A outer s H E scope fl c') B (fun c H' => E (.ref (C c)) none H') (.Call (.Name x p) (e :: es) [] pos) (tCall (spV C g) [] E tl) (mCall g fa) :=
  je_callX (X := lamCxN X A outer s H E scope fl c') d hr (L2N.passes_call (W := fun cls d _ H => E cls d H) (L2N.takes_of rfl rfl rfl rfl) (fun _ _ _ _ q => q)) (fun _ _ q => q) ha hkj hg hdb he hpl
/-- what the law leans on at each told call -/
structure ToldCx (X : Cx) (B : Bd) (C : Str → Addr) (st : Stmt) (c Pt : Addr) : Prop where
  has : HasF X.K X.mg "_law_told" st ["deed"]
  term : TermDef X.prog X.w X.K X.mg X.base C excN
  rerr : ∃ CS, X.mg "RoundError" = some (.ref CS) ∧ ∀ c ∈ excN, PySem.W.exmOne X.K (.ref (C c)) (.ref CS) = some true
  tab : LamX.TabB X.base X.mg c Pt
  code : X.env.code = .ref c
  T : B.T = [(Pt, X.env.qual ++ "<lambda>")]
/-- the shape of _law_told -/
structure ToldSt (st : Stmt) : Prop where
  body : ∃ p1 p2 p3 p4 p5 p6 p7 p8 p9 p10 : Pos, defBody st = [.Try [.Return (some (.Call (.Name "deed" p1) [] [] p2)) p3] [.ExceptHandler (some (.Name "RoundError" p4)) (some "e") [.Return (some (.Call (.Name "_law_term" p5) [.Name "e" p6] [] p7)) p8] p9] [] [] p10]
  scope : FnScope ["deed", "e"] ["deed"] (defScope st)
  h1 : (defScope st).names.lookup ("RoundError" : Str) = some .globalImplicit
  h2 : (defScope st).names.lookup ("_law_term" : Str) = some .globalImplicit
  h3 : (defScope st).names.lookup ("e" : Str) = some .local
  h4 : (defScope st).names.lookup ("deed" : Str) = some .local
theorem je_told {X : Cx} {B : Bd} {EX : Str → Hp → Prop} {st : Stmt} {c Pt : Addr} {params : Arguments} {body : Expr} {scope : Scope} {t : XK → TE} {f : M D} {p lpos pos : Pos} {k : Nat} (S : ToldSt st) (c0 : ToldCx X B C st c Pt) (hr : Room (k + 3) X.A)
    (hbody : ∀ (A : Around) (outer : List Env) (s : Shared) (H : Hp) (E : XK) (fl c' : Addr), Room (k + 1) (A.deeper (LamX.lamEnv X scope s.heap.objs.size fl c')) → JE (lamCxN X A outer s H E scope fl c') B (fun c H' => E (.ref (C c)) none H') body (t E) f)
    (hg : Gl X "_law_told" := by rfl) (L : LamX.LamS X.env.scope scope := by exact LamX.lamS_by (by rfl)) (hdef : defaultsOf params X.env = ([], []) := by rfl)
    (hbind : ∀ (q : Str) (cl : List (Str × Addr)) (pm cv ctv : Value), bindArgs (PySem.W.kla_fn "<lambda>" q params body scope cl pm cv ctv) ⟨[], []⟩ = pure [] := by intros; rfl) :
    JE X B EX (.Call (.Name "_law_told" p) [.Lambda params body scope lpos] [] pos) (tLamN [(Pt, X.env.qual ++ "<lambda>")] Pt (TTold C excN) t) (mTold f) := by
  obtain ⟨g, fd, F, hm, hb⟩ := c0.has
  obtain ⟨oc, od, dV, kV, doc, pm, an, cdv, ct, osl, rfl, lk, hcd, _, _⟩ := F.ex
  obtain ⟨p1, p2, p3, p4, p5, p6, p7, p8, p9, p10, eb⟩ := S.body
  obtain ⟨CS, hC1, hC2⟩ := c0.rerr
  have mem : (Pt, X.env.qual ++ "<lambda>") ∈ B.T := by rw [c0.T]; exact List.mem_singleton.mpr rfl
  have ev : ∀ E : XK, Ev B (fun c H' => E (.ref (C c)) none H') VD (t E) f := fun E => (hbody X.A X.outer X.s_0 X.H_0 E 0 0 (Room.deeper (hr.mono (by omega)) _)).v
  rw [← c0.T]
  refine ⟨?_, ev_told mem ev⟩
  refine pe_lamcallN (k := k + 1) hg hm F.kp lk hcd hb S.scope rfl (.inl S.h4) ?_ c0.tab c0.code mem (fun q hq _ => ?_) hr L hdef hbind (fun A outer s H E fl c' hr => (hbody A outer s H E fl c' hr).p)
  · rw [eb]
    exact told_gives (k := k + 1) c0.term hC1 hC2 S.h1 S.h2 S.h3
  · rw [c0.T] at hq
    rw [List.mem_singleton.mp hq]
end
end Rn
end

section
set_option Elab.async false
set_option linter.all false
set_option autoImplicit false
set_option maxRecDepth 100000
set_option maxHeartbeats 2000000
/-! Hot7: facts of the error classes, told by the head. -/
namespace Rn
open PySem PySem.Spec PyProof.Rows L2

theorem _root_.L2H.RoomH.units {k : Nat} {A : Around} (r : L2H.RoomH k A) : A.units + 64 < cLine := by have := r.un; omega
def outD : Out → Option D
  | .rt d _ => some d
  | _ => none
theorem outD_rt {o : Out} {d : D} (h : outD o = some d) : ∃ r, o = .rt d r := by
  cases o <;> first | (cases h; done) | (cases h; exact ⟨_, rfl⟩)
structure ErrF (K : PySem.W.Frag) (C : Str → Addr) : Prop where
  exc : ∀ c ∈ excN, ExcC K (C c)
  kit : ∀ c ∈ excN, ∀ d ∈ excN, PySem.W.kitOne K (.ref (C c)) (.ref (C d)) = some (c == d)
  val : ∀ c ∈ excN, PySem.W.kitOne K (.ref (C c)) (.type "ValueError") = some true
  rnd : ∀ c ∈ excN, PySem.W.exmOne K (.ref (C c)) (.ref (C "RoundError")) = some true
def excB (K : PySem.W.Frag) (D : Addr) : Bool :=
  He.eqO (PySem.W.findIn K (.ref D) "__getattribute__") (some (some (.builtin "BaseException.__getattribute__"))) && (He.eqO (PySem.W.findIn K (.ref D) "__getattr__") (some none) && (decide (PySem.W.subIn K (.ref D) (.type "BaseException") = some true) && (PySem.W.hasDictIn K D &&
    (He.eqO (PySem.W.findIn K (.ref D) "__class__") (some (some (.builtin "object.__class__"))) && (He.eqO (PySem.W.specialIn K (.builtin "object.__class__") "__get__") (some (some (.builtin "getset_descriptor.__get__"))) && (decide (PySem.W.takesIn K (.builtin "object.__class__") = some true) && decide (PySem.W.mroIn K D (.type "object") = some true)))))))
theorem excB_ok {K : PySem.W.Frag} {D : Addr} (h : excB K D = true) : ExcC K D := by
  unfold excB at h
  obtain ⟨h1, h⟩ := He.ba h
  obtain ⟨h2, h⟩ := He.ba h
  obtain ⟨h3, h⟩ := He.ba h
  obtain ⟨h4, h⟩ := He.ba h
  obtain ⟨h5, h⟩ := He.ba h
  obtain ⟨h6, h⟩ := He.ba h
  obtain ⟨h7, h⟩ := He.ba h
  exact ⟨He.eqO_ok h1, He.eqO_ok h2, of_decide_eq_true h3, h4, He.eqO_ok h5, He.eqO_ok h6, of_decide_eq_true h7, of_decide_eq_true h⟩
def errB (K : PySem.W.Frag) : Bool := excN.all fun c => excB K (He.ga K c) && (decide (PySem.W.kitOne K (.ref (He.ga K c)) (.type "ValueError") = some true) && (decide (PySem.W.exmOne K (.ref (He.ga K c)) (.ref (He.ga K "RoundError")) = some true) &&
  excN.all fun d => decide (PySem.W.kitOne K (.ref (He.ga K c)) (.ref (He.ga K d)) = some (c == d))))
theorem errB_ok {K : PySem.W.Frag} (h : errB K = true) : ErrF K (He.ga K) := by
  have g : ∀ c ∈ excN, _ := fun c hc => List.all_eq_true.mp h c hc
  refine ⟨fun c hc => excB_ok (He.ba (g c hc)).1, fun c hc d hd => ?_, fun c hc => of_decide_eq_true (He.ba (He.ba (g c hc)).2).1, fun c hc => of_decide_eq_true (He.ba (He.ba (He.ba (g c hc)).2).2).1⟩
  exact of_decide_eq_true (List.all_eq_true.mp (He.ba (He.ba (He.ba (g c hc)).2).2).2 d hd)
/-- the law's def, its code object known -/
theorem law_ok {P : Program} {w : World} {K : PySem.W.Frag} {mg : Str → Option Value} {base : Heap} {st : Stmt} {f : Addr} {fd : FuncData} {N ps : List Str} {k : Nat} {sp : Sp} {CX : CXT} {x : Str} {c : Addr} (F : FnP K x st f fd) (hc : fd.code = .ref c) (S : FnScope N ps (defScope st)) (len : ∀ vs H Q E, sp vs H Q E → vs.length = ps.length)
    (hbody : ∀ (A : Around) (outer : List Env) (s : Shared) (H : Hp) (vs : List V) (Q : VK) (E : XK), Room k (A.deeper (envOfC x (defScope st) s.heap.objs.size f (.ref c))) → sp vs H Q E →
      ∃ t, PSs (cxOf CX P w K mg base N x (defScope st) f (.ref c) A outer s H E) (defBody st) t ∧ t { nx := fun _ H' => Q .non H', rt := Q } (L2.start N vs) H) : FnOk P w K mg base CX (k + 1) f fd ps sp := by
  obtain ⟨oc, od, dV, kV, doc, pm, an, cdv, ct, osl, rfl, lk, hcd, _, _⟩ := F.ex
  obtain rfl : cdv = .ref c := hc
  exact fn_of lk hcd S len fun A outer s H vs Q E hr hsp => hbody A outer s H vs Q E hr hsp
end Rn
end

section
set_option Elab.async false
set_option linter.all false
set_option maxRecDepth 100000
set_option maxHeartbeats 4000000
namespace Rn
open PySem PySem.Spec L2

/-! ### is_whole -/
def b_is_whole : S := sRet (mAndV (mIsi pInt (mVarT 0)) (mAndV (mNotV (mIsi (pIs "bool") (mVarT 0))) (mChain leF leF (mVarT 1) (mVarT 0) (mVarT 2))))
def g_is_whole : List D → RR := callD 3 3 b_is_whole

/-! ### event_of -/
def b_event_of : S := sRet (mIf (mTst (mOp eqF (mT (mOp ixF (mVarT 0) (mT (ret (.int 0))))) (mT (ret (.str "e"))))) (mCB intF (mCons (mT (mSl slF (mVarT 0) (mPart (ret (.int 1))) (mNoPart))) (mNil))) (ret .none))
def g_event_of : List D → RR := callD 1 1 b_event_of

/-! ### is_source -/
def e0_is_source : M D := mOp addF (mT (ret (.str "u"))) (mT (mCB strF (mCons (mVarT 3) (mNil))))
def e1_is_source : M D := mOp addF (mT (ret (.str "e"))) (mT (mCB strF (mCons (mVarT 3) (mNil))))
def b_is_source : S := sSeq (sIf (mNot (mTst (mIsi (pIs "str") (mVarT 0)))) (sRet (ret (.bool false))) (sNext))
 (sRet (mOrV (mOp eqF (mVarT 0) (mT (ret (.str "s")))) (mOp (inAF false) (mVarT 0) (mT (mOp addF (mT (mLc (mRng1 (mCons (mVar 1) (mNil))) (hName 3) (mYes) (e0_is_source) [3])) (mT (mLc (mRng1 (mCons (mVar 2) (mNil))) (hName 3) (mYes) (e1_is_source) [3])))))))
def g_is_source : List D → RR := callD 3 4 b_is_source

/-! ### is_arc -/
def b_is_arc : S := sSeq (sIf (mOr (mNot (mTst (mIsi (pIs "tuple") (mVarT 0)))) (mOr (mTst (mOp neF (mT (mCB lenF (mCons (mVarT 0) (mNil)))) (mT (ret (.int 3))))) (mNot (mTst (mCall0 g_is_source (mCons (mOp ixF (mVarT 0) (mT (ret (.int 0)))) (mCons (mVar 1) (mCons (mVar 2) (mNil))))))))) (sRet (ret (.bool false))) (sNext))
 (sRet (mAndV (mCall0 g_is_whole (mCons (mOp ixF (mVarT 0) (mT (ret (.int 1)))) (mCons (ret (.int 0)) (mCons (ret (.int 9)) (mNil))))) (mCall0 g_is_whole (mCons (mOp ixF (mVarT 0) (mT (ret (.int 2)))) (mCons (ret (.int 0)) (mCons (ret (.int 3)) (mNil)))))))
def g_is_arc : List D → RR := callD 3 3 b_is_arc

/-! ### is_row -/
def e0_is_row : M D := mCall0 g_is_arc (mCons (mVar 3) (mCons (mVar 1) (mCons (mVar 2) (mNil))))
def b_is_row : S := sRet (mAndV (mIsi (pIs "tuple") (mVarT 0)) (mAndV (mOp leF (mT (mCB lenF (mCons (mVarT 0) (mNil)))) (mT (ret (.int 4)))) (mCB allF (mCons (mT (mLc (mSeqI (mVar 0)) (hName 3) (mYes) (e0_is_row) [3])) (mNil)))))
def g_is_row : List D → RR := callD 3 4 b_is_row

/-! ### is_shaped -/
def e0_is_shaped : M D := mCall0 g_is_row (mCons (mVar 5) (mCons (mVar 1) (mCons (mCB lenF (mCons (mVarT 2) (mNil))) (mNil))))
def e1_is_shaped : M D := mCall0 g_is_whole (mCons (mVar 4) (mCons (ret (.int 0)) (mCons (mOp subF (mT (mCB lenF (mCons (mVarT 2) (mNil)))) (mT (ret (.int 1)))) (mNil))))
def b_is_shaped : S := sSeq (sIf (mOr (mNot (mTst (mIsi (pIs "tuple") (mVarT 0)))) (mOr (mTst (mOp neF (mT (mCB lenF (mCons (mVarT 0) (mNil)))) (mT (ret (.int 3))))) (mNot (mTst (mCall0 g_is_whole (mCons (mOp ixF (mVarT 0) (mT (ret (.int 0)))) (mCons (ret (.int 0)) (mCons (ret (.int 2)) (mNil))))))))) (sRet (ret (.bool false))) (sNext))
 (sSeq (sAsg (mVar 0) (hTup 3 (hCons (hName 1) (hCons (hName 2) (hCons (hName 3) (hNil))))))
 (sSeq (sIf (mOr (mNot (mTst (mIsi (pIs "tuple") (mVarT 2)))) (mNot (mTst (mChain leF leF (mT (ret (.int 1))) (mT (mCB lenF (mCons (mVarT 2) (mNil)))) (mT (ret (.int 5))))))) (sRet (ret (.bool false))) (sNext))
 (sSeq (sIf (mNot (mTst (mCB allF (mCons (mT (mLc (mSeqI (mVar 2)) (hName 5) (mYes) (e0_is_shaped) [5])) (mNil))))) (sRet (ret (.bool false))) (sNext))
 (sSeq (sIf (mOr (mNot (mTst (mIsi (pIs "tuple") (mVarT 3)))) (mNot (mTst (mChain leF leF (mT (ret (.int 1))) (mT (mCB lenF (mCons (mVarT 3) (mNil)))) (mT (ret (.int 3))))))) (sRet (ret (.bool false))) (sNext))
 (sRet (mCB allF (mCons (mT (mLc (mSeqI (mVar 3)) (hName 4) (mYes) (e1_is_shaped) [4])) (mNil))))))))
def g_is_shaped : List D → RR := callD 1 6 b_is_shaped

/-! ### same_round -/
def t0_same_round : M Bool := mTst (mOp eqF (mVarT 6) (mT (ret (.int 0))))
def e1_same_round : M D := mCall0 g_event_of (mCons (mVar 4) (mNil))
def t2_same_round : M Bool := mTst (mOp (isF true) (mVarT 7) (mT (ret .none)))
def e3_same_round : M D := mVar 7
def l4_same_round : S := sSeq (sAsg (mLc (mSeqI (mVar 2)) (hTup 3 (hCons (hName 4) (hCons (hName 5) (hCons (hName 6) (hNil))))) (t0_same_round) (e1_same_round) [4, 5, 6]) (hName 3))
 (sAppend 1 (mLc (mSeqI (mVar 3)) (hName 7) (t2_same_round) (e3_same_round) [7]))
def b_same_round : S := sSeq (sOwn (mLst (mNil)) 1)
 (sSeq (sFor (mSeqI (mVar 0)) (hName 2) (l4_same_round))
 (sRet (mVar 1)))
def g_same_round : List D → RR := callD 1 8 b_same_round

/-! ### order_of -/
def e0_order_of : M D := mOp (inAF false) (mVarT 5) (mVarT 2)
def t1_order_of : M Bool := mAnd (mTst (mOp (inAF true) (mVarT 4) (mVarT 2))) (mTst (mCB allF (mCons (mT (mLc (mSeqI (mOp ixF (mVarT 1) (mVarT 4))) (hName 5) (mYes) (e0_order_of) [5])) (mNil))))
def e2_order_of : M D := mVar 4
def c3_order_of : M Bool := mTst (mOp ltF (mT (mCB lenF (mCons (mVarT 2) (mNil)))) (mT (mCB lenF (mCons (mVarT 0) (mNil)))))
def l4_order_of : S := sSeq (sAsg (mLc (mRng1 (mCons (mCB lenF (mCons (mVarT 0) (mNil))) (mNil))) (hName 4) (t1_order_of) (e2_order_of) [4]) (hName 3))
 (sSeq (sIf (mTst (mOp eqF (mVarT 3) (mT (mLst (mNil))))) (sRet (ret .none)) (sNext))
 (sAppend 2 (mOp ixF (mVarT 3) (mT (ret (.int 0))))))
def b_order_of : S := sSeq (sPar [false, true] [1, 2] (mCons (mCall0 g_same_round (mCons (mVar 0) (mNil))) (mCons (mLst (mNil)) (mNil))))
 (sSeq (whileGo (c3_order_of) (l4_order_of) 1000000)
 (sRet (mVar 2)))
def g_order_of : List D → RR := callD 1 6 b_order_of

/-! ### all_back -/
def e0_all_back : M D := mVar 4
def e1_all_back : M D := mCB sumF (mCons (mT (mLc (mSeqI (mVar 1)) (hTup 3 (hCons (hName 2) (hCons (hName 3) (hCons (hName 4) (hNil))))) (mYes) (e0_all_back) [2, 3, 4])) (mNil))
def b_all_back : S := sRet (mCB sumF (mCons (mT (mLc (mSeqI (mVar 0)) (hName 1) (mYes) (e1_all_back) [1])) (mNil)))
def g_all_back : List D → RR := callD 1 5 b_all_back

/-! ### is_net -/
def b_is_net : S := sRet (mAndV (mCall0 g_is_shaped (mCons (mVar 0) (mNil))) (mAndV (mOp leF (mT (mCall0 g_all_back (mCons (mOp ixF (mVarT 0) (mT (ret (.int 1)))) (mNil)))) (mT (ret (.int 8)))) (mOp (isF true) (mT (mCall0 g_order_of (mCons (mOp ixF (mVarT 0) (mT (ret (.int 1)))) (mNil)))) (mT (ret .none)))))
def g_is_net : List D → RR := callD 1 1 b_is_net

/-! ### need_net -/
def b_need_net : S := sIf (mNot (mTst (mCall0 g_is_net (mCons (mVar 0) (mNil))))) (sRaise "InvalidNet") (sNext)
def g_need_net : List D → RR := callD 1 1 b_need_net

/-! ### divisor -/
def c0_divisor : M Bool := mTst (mOp neF (mVarT 1) (mT (ret (.int 0))))
def l1_divisor : S := sPar [false, false] [0, 1] (mCons (mVar 1) (mCons (mOp modF (mVarT 0) (mVarT 1)) (mNil)))
def b_divisor : S := sSeq (whileGo (c0_divisor) (l1_divisor) 1000000)
 (sRet (mVar 0))
def g_divisor : List D → RR := callD 2 2 b_divisor

/-! ### lowest -/
def b_lowest : S := sSeq (sAsg (mCall0 g_divisor (mCons (mCB absF (mCons (mVarT 0) (mNil))) (mCons (mVar 1) (mNil)))) (hName 2))
 (sRet (mTup (mCons (mOp fdivF (mVarT 0) (mVarT 2)) (mCons (mOp fdivF (mVarT 1) (mVarT 2)) (mNil)))))
def g_lowest : List D → RR := callD 2 3 b_lowest

/-! ### rings_from -/
def e0_rings_from : M D := mVar 10
def l1_rings_from : S := sSeq (sAsg (mCall0 g_event_of (mCons (mOp ixF (mVarT 8) (mT (ret (.int 0)))) (mNil))) (hName 9))
 (sIf (mTst (mOp eqF (mVarT 9) (mVarT 1))) (sAppend 2 (mOp addF (mVarT 5) (mT (mLst (mCons (mTup (mCons (mVar 4) (mCons (mVar 7) (mNil)))) (mNil)))))) (sIf (mAnd (mTst (mOp (isF true) (mVarT 9) (mT (ret .none)))) (mAnd (mTst (mOp gtF (mVarT 9) (mVarT 1))) (mAnd (mTst (mOp (inAF true) (mVarT 9) (mVarT 6))) (mTst (mOp neF (mVarT 9) (mVarT 4)))))) (sAppend 3 (mTup (mCons (mVar 9) (mCons (mOp addF (mVarT 5) (mT (mLst (mCons (mTup (mCons (mVar 4) (mCons (mVar 7) (mNil)))) (mNil))))) (mNil))))) (sNext)))
def c2_rings_from : M Bool := mTst (mOp neF (mVarT 3) (mT (mLst (mNil))))
def l3_rings_from : S := sSeq (sAsg (mPop 3) (hTup 2 (hCons (hName 4) (hCons (hName 5) (hNil)))))
 (sSeq (sAsg (mLc (mSeqI (mVar 5)) (hTup 2 (hCons (hName 10) (hCons (hName 7) (hNil)))) (mYes) (e0_rings_from) [10, 7]) (hName 6))
 (sFor (mEnum (mCons (mOp ixF (mVarT 0) (mVarT 4)) (mNil))) (hTup 2 (hCons (hName 7) (hCons (hName 8) (hNil)))) (l1_rings_from)))
def b_rings_from : S := sSeq (sPar [true, true] [2, 3] (mCons (mLst (mNil)) (mCons (mLst (mCons (mTup (mCons (mVar 1) (mCons (mLst (mNil)) (mNil)))) (mNil))) (mNil))))
 (sSeq (whileGo (c2_rings_from) (l3_rings_from) 1000000)
 (sRet (mVar 2)))
def g_rings_from : List D → RR := callD 2 11 b_rings_from

/-! ### rings_of -/
def e0_rings_of : M D := mCB tupleF (mCons (mVarT 3) (mNil))
def l1_rings_of : S := sAsg (mOp addF (mVarT 1) (mT (mLc (mSeqI (mCall0 g_rings_from (mCons (mVar 0) (mCons (mVar 2) (mNil))))) (hName 3) (mYes) (e0_rings_of) [3]))) (hName 1)
def b_rings_of : S := sSeq (sAsg (mLst (mNil)) (hName 1))
 (sSeq (sFor (mRng1 (mCons (mCB lenF (mCons (mVarT 0) (mNil))) (mNil))) (hName 2) (l1_rings_of))
 (sRet (mCB sortF (mCons (mVarT 1) (mNil)))))
def g_rings_of : List D → RR := callD 1 4 b_rings_of

/-! ### rings -/
def b_rings : S := sSeq (sDrop (mCall g_need_net (mCons (mVar 0) (mNil))))
 (sRet (mCB tupleF (mCons (mT (mCall0 g_rings_of (mCons (mOp ixF (mVarT 0) (mT (ret (.int 1)))) (mNil)))) (mNil))))
def g_rings : List D → RR := callD 1 1 b_rings

/-! ### measure -/
def e0_measure : M D := mOp ixF (mT (mOp ixF (mVarT 0) (mVarT 3))) (mVarT 4)
def e1_measure : M D := mOp ixF (mVarT 5) (mT (ret (.int 2)))
def e2_measure : M D := mOp ixF (mVarT 5) (mT (ret (.int 1)))
def b_measure : S := sSeq (sAsg (mLc (mSeqI (mVar 1)) (hTup 2 (hCons (hName 3) (hCons (hName 4) (hNil)))) (mYes) (e0_measure) [3, 4]) (hName 2))
 (sRet (mTup (mCons (mCB sumF (mCons (mT (mLc (mSeqI (mVar 2)) (hName 5) (mYes) (e2_measure) [5])) (mNil))) (mCons (mCB sumF (mCons (mT (mLc (mSeqI (mVar 2)) (hName 5) (mYes) (e1_measure) [5])) (mNil))) (mNil)))))
def g_measure : List D → RR := callD 2 6 b_measure

/-! ### ratio -/
def b_ratio : S := sSeq (sAsg (mCall0 g_measure (mCons (mVar 0) (mCons (mVar 1) (mNil)))) (hTup 2 (hCons (hName 2) (hCons (hName 3) (hNil)))))
 (sRet (mCall0 g_lowest (mCons (mVar 2) (mCons (mVar 3) (mNil)))))
def g_ratio : List D → RR := callD 2 4 b_ratio

/-! ### is_less -/
def b_is_less : S := sRet (mOp ltF (mT (mOp mulF (mT (mOp ixF (mVarT 0) (mT (ret (.int 0))))) (mT (mOp ixF (mVarT 1) (mT (ret (.int 1))))))) (mT (mOp mulF (mT (mOp ixF (mVarT 1) (mT (ret (.int 0))))) (mT (mOp ixF (mVarT 0) (mT (ret (.int 1))))))))
def g_is_less : List D → RR := callD 2 2 b_is_less

/-! ### greatest -/
def l0_greatest : S := sAsg (mIf (mOr (mTst (mOp (isF false) (mVarT 1) (mT (ret .none)))) (mTst (mCall0 g_is_less (mCons (mVar 1) (mCons (mVar 2) (mNil)))))) (mVar 2) (mVar 1)) (hName 1)
def b_greatest : S := sSeq (sAsg (ret .none) (hName 1))
 (sSeq (sFor (mSeqI (mVar 0)) (hName 2) (l0_greatest))
 (sRet (mVar 1)))
def g_greatest : List D → RR := callD 1 3 b_greatest

/-! ### slowest_of -/
def e0_slowest_of : M D := mCall0 g_ratio (mCons (mVar 0) (mCons (mVar 1) (mNil)))
def b_slowest_of : S := sRet (mCall0 g_greatest (mCons (mLc (mSeqI (mCall0 g_rings_of (mCons (mVar 0) (mNil)))) (hName 1) (mYes) (e0_slowest_of) [1]) (mNil)))
def g_slowest_of : List D → RR := callD 1 2 b_slowest_of

/-! ### slowest -/
def b_slowest : S := sSeq (sDrop (mCall g_need_net (mCons (mVar 0) (mNil))))
 (sRet (mCall0 g_slowest_of (mCons (mOp ixF (mVarT 0) (mT (ret (.int 1)))) (mNil))))
def g_slowest : List D → RR := callD 1 1 b_slowest

/-! ### slowest_rings -/
def t0_slowest_rings : M Bool := mTst (mOp eqF (mT (mCall0 g_ratio (mCons (mOp ixF (mVarT 0) (mT (ret (.int 1)))) (mCons (mVar 2) (mNil))))) (mVarT 1))
def e1_slowest_rings : M D := mVar 2
def b_slowest_rings : S := sSeq (sDrop (mCall g_need_net (mCons (mVar 0) (mNil))))
 (sSeq (sAsg (mCall0 g_slowest_of (mCons (mOp ixF (mVarT 0) (mT (ret (.int 1)))) (mNil))) (hName 1))
 (sRet (mCB tupleF (mCons (mT (mLc (mSeqI (mCall0 g_rings_of (mCons (mOp ixF (mVarT 0) (mT (ret (.int 1)))) (mNil)))) (hName 2) (t0_slowest_rings) (e1_slowest_rings) [2])) (mNil)))))
def g_slowest_rings : List D → RR := callD 1 3 b_slowest_rings

/-! ### _law_drawn -/
def b__law_drawn : S := sSeq (sAsg (mOp modF (mT (mOp addF (mT (mOp mulF (mVarT 0) (mT (ret (.int 6364136223846793005))))) (mT (mOp mulF (mT (mOp addF (mVarT 1) (mT (ret (.int 1))))) (mT (ret (.int 1442695040888963407))))))) (mT (ret (.int 340282366920938463463374607431768211507)))) (hName 2))
 (sSeq (sAsg (mOp modF (mT (mOp mulF (mVarT 2) (mVarT 2))) (mT (ret (.int 340282366920938463463374607431768211297)))) (hName 2))
 (sSeq (sAsg (mOp mulF (mT (mOp mulF (mT (mOp addF (mT (mOp modF (mVarT 2) (mT (ret (.int 18446744073709551557))))) (mT (ret (.int 1))))) (mT (mOp addF (mT (mOp fdivF (mVarT 2) (mT (ret (.int 18446744073709551557))))) (mT (ret (.int 1))))))) (mVarT 2)) (hName 2))
 (sRet (mOp modF (mVarT 2) (mT (ret (.int 340282366920938463463374607431768211507)))))))
def g__law_drawn : List D → RR := callD 2 3 b__law_drawn

/-! ### _law_roll -/
def b__law_roll : S := sSeq (sIf (mTst (mOp geF (mT (mOp ixF (mVarT 0) (mT (ret (.int 0))))) (mT (mOp powF (mT (ret (.int 10))) (mT (ret (.int 18))))))) (sSeq (sAsg (mOp modF (mT (mOp ixF (mVarT 0) (mT (ret (.int 0))))) (mVarT 1)) (hName 2))
 (sSeq (sSetItem 0 (mOp fdivF (mT (mOp ixF (mVarT 0) (mT (ret (.int 0))))) (mVarT 1)) (ret (.int 0)))
 (sRet (mVar 2)))) (sNext))
 (sSeq (sSetItem 0 (mOp addF (mT (mOp ixF (mVarT 0) (mT (ret (.int 1))))) (mT (ret (.int 1)))) (ret (.int 1)))
 (sRet (mOp modF (mT (mOp fdivF (mT (mCall0 g__law_drawn (mCons (mOp ixF (mVarT 0) (mT (ret (.int 0)))) (mCons (mOp ixF (mVarT 0) (mT (ret (.int 1)))) (mNil))))) (mT (ret (.int 8))))) (mVarT 1))))
def c__law_roll : D → List D → RB := callB 2 3 b__law_roll

/-! ### _law_renamed -/
def l0__law_renamed : S := sSeq (sIf (mTst (mOp eqF (mT (mOp ixF (mVarT 8) (mT (ret (.int 0))))) (mT (ret (.str "e"))))) (sAsg (mOp addF (mT (ret (.str "e"))) (mT (mCB strF (mCons (mT (mOp modF (mT (mOp addF (mT (mCB intF (mCons (mT (mSl slF (mVarT 8) (mPart (ret (.int 1))) (mNoPart))) (mNil)))) (mVarT 3))) (mVarT 2))) (mNil))))) (hName 8)) (sNext))
 (sAppend 7 (mTup (mCons (mVar 8) (mCons (mVar 9) (mCons (mVar 10) (mNil))))))
def l1__law_renamed : S := sSeq (sOwn (mLst (mNil)) 7)
 (sSeq (sFor (mSeqI (mVar 6)) (hTup 3 (hCons (hName 8) (hCons (hName 9) (hCons (hName 10) (hNil))))) (l0__law_renamed))
 (sSetItem 4 (mCB tupleF (mCons (mVarT 7) (mNil))) (mOp modF (mT (mOp addF (mVarT 5) (mVarT 3))) (mVarT 2))))
def e2__law_renamed : M D := mOp modF (mT (mOp addF (mVarT 11) (mVarT 3))) (mVarT 2)
def b__law_renamed : S := sSeq (sAsg (mCB lenF (mCons (mT (mOp ixF (mVarT 1) (mT (ret (.int 1))))) (mNil))) (hName 2))
 (sSeq (sIf (mTst (mOp eqF (mT (mCallB (noEx c__law_roll) 0 (mCons (ret (.int 2)) (mNil)))) (mT (ret (.int 0))))) (sRet (mVar 1)) (sNext))
 (sSeq (sAsg (mCallB (noEx c__law_roll) 0 (mCons (mVar 2) (mNil))) (hName 3))
 (sSeq (sOwn (mOp repF (mT (mLst (mCons (mTup (mNil)) (mNil)))) (mVarT 2)) 4)
 (sSeq (sFor (mEnum (mCons (mOp ixF (mVarT 1) (mT (ret (.int 1)))) (mNil))) (hTup 2 (hCons (hName 5) (hCons (hName 6) (hNil)))) (l1__law_renamed))
 (sRet (mTup (mCons (mOp ixF (mVarT 1) (mT (ret (.int 0)))) (mCons (mCB tupleF (mCons (mVarT 4) (mNil))) (mCons (mCB tupleF (mCons (mT (mLc (mSeqI (mOp ixF (mVarT 1) (mT (ret (.int 2))))) (hName 11) (mYes) (e2__law_renamed) [11])) (mNil))) (mNil))))))))))
def c__law_renamed : D → List D → RB := callB 2 12 b__law_renamed

/-! ### _law_net -/
def l0__law_net : S := sSeq (sAsg (mOp ixF (mT (mLst (mCons (ret (.int 0)) (mCons (ret (.int 1)) (mCons (ret (.int 1)) (mCons (ret (.int 2)) (mCons (ret (.int 0)) (mCons (ret (.int 3)) (mNil))))))))) (mT (mCallB (noEx c__law_roll) 0 (mCons (ret (.int 6)) (mNil))))) (hName 11))
 (sSeq (sAsg (mCallB (noEx c__law_roll) 0 (mCons (ret (.int 4)) (mNil))) (hName 12))
 (sSeq (sAsg (mOp addF (mT (ret (.str "e"))) (mT (mCB strF (mCons (mT (mCallB (noEx c__law_roll) 0 (mCons (mVar 3) (mNil)))) (mNil))))) (hName 13))
 (sSeq (sIf (mTst (mOp eqF (mVarT 12) (mT (ret (.int 0))))) (sAsg (ret (.str "s")) (hName 13)) (sNext))
 (sSeq (sIf (mAnd (mTst (mOp eqF (mVarT 12) (mT (ret (.int 1))))) (mTst (mOp gtF (mVarT 4) (mT (ret (.int 0)))))) (sAsg (mOp addF (mT (ret (.str "u"))) (mT (mCB strF (mCons (mT (mCallB (noEx c__law_roll) 0 (mCons (mVar 4) (mNil)))) (mNil))))) (hName 13)) (sNext))
 (sSeq (sIf (mAnd (mTst (mOp eqF (mT (mOp ixF (mVarT 13) (mT (ret (.int 0))))) (mT (ret (.str "e"))))) (mAnd (mTst (mOp geF (mT (mCB intF (mCons (mT (mSl slF (mVarT 13) (mPart (ret (.int 1))) (mNoPart))) (mNil)))) (mVarT 7))) (mTst (mOp eqF (mVarT 11) (mT (ret (.int 0))))))) (sAsg (ret (.int 1)) (hName 11)) (sNext))
 (sIf (mTst (mOp leF (mVarT 11) (mVarT 6))) (sSeq (sAsg (mOp subF (mVarT 6) (mVarT 11)) (hName 6))
 (sAppend 9 (mTup (mCons (mVar 13) (mCons (mCallB (noEx c__law_roll) 0 (mCons (ret (.int 10)) (mNil))) (mCons (mVar 11) (mNil))))))) (sNext)))))))
def l1__law_net : S := sSeq (sOwn (mLst (mNil)) 9)
 (sSeq (sFor (mRng1 (mCons (mCallB (noEx c__law_roll) 0 (mCons (ret (.int 4)) (mNil))) (mNil))) (hName 10) (l0__law_net))
 (sAppend 5 (mCB tupleF (mCons (mVarT 9) (mNil)))))
def e2__law_net : M D := mCallB (noEx c__law_roll) 0 (mCons (mVar 3) (mNil))
def b__law_net : S := sSeq (sPar [false, false] [3, 4] (mCons (mOp addF (mT (ret (.int 1))) (mT (mCallB (noEx c__law_roll) 0 (mCons (mVar 1) (mNil))))) (mCons (mCallB (noEx c__law_roll) 0 (mCons (mOp addF (mVarT 2) (mT (ret (.int 1)))) (mNil))) (mNil))))
 (sSeq (sPar [true, false] [5, 6] (mCons (mLst (mNil)) (mCons (ret (.int 8)) (mNil))))
 (sSeq (sFor (mRng1 (mCons (mVar 3) (mNil))) (hName 7) (l1__law_net))
 (sSeq (sIf (mAnd (mTst (mOp gtF (mT (mCallB (noEx c__law_roll) 0 (mCons (ret (.int 3)) (mNil)))) (mT (ret (.int 0))))) (mTst (mOp ltF (mT (mCB lenF (mCons (mT (mOp ixF (mVarT 5) (mT (ret (.int 0))))) (mNil)))) (mT (ret (.int 4)))))) (sSetItem 5 (mOp addF (mT (mOp ixF (mVarT 5) (mT (ret (.int 0))))) (mT (mTup (mCons (mTup (mCons (ret (.str "s")) (mCons (mCallB (noEx c__law_roll) 0 (mCons (ret (.int 10)) (mNil))) (mCons (ret (.int 0)) (mNil))))) (mNil))))) (ret (.int 0))) (sNext))
 (sSeq (sAsg (mCB tupleF (mCons (mT (mLc (mRng1 (mCons (mOp addF (mT (ret (.int 1))) (mT (mCallB (noEx c__law_roll) 0 (mCons (ret (.int 2)) (mNil))))) (mNil))) (hName 10) (mYes) (e2__law_net) [10])) (mNil))) (hName 8))
 (sRet (mCallB (noEx c__law_renamed) 0 (mCons (mTup (mCons (mVar 4) (mCons (mCB tupleF (mCons (mVarT 5) (mNil))) (mCons (mVar 8) (mNil))))) (mNil))))))))
def c__law_net : D → List D → RB := callB 3 14 b__law_net

/-! ### _law_overtaken -/
def b__law_overtaken : S := sSeq (sPar [false, false] [1, 2] (mCons (mCallB (noEx c__law_roll) 0 (mCons (ret (.int 4)) (mNil))) (mCons (mCallB (noEx c__law_roll) 0 (mCons (ret (.int 9)) (mNil))) (mNil))))
 (sSeq (sOwn (mLst (mCons (mTup (mCons (mTup (mCons (ret (.str "s")) (mCons (mCallB (noEx c__law_roll) 0 (mCons (ret (.int 10)) (mNil))) (mCons (ret (.int 0)) (mNil))))) (mCons (mTup (mCons (ret (.str "e0")) (mCons (mVar 1) (mCons (mOp addF (mT (ret (.int 1))) (mT (mCallB (noEx c__law_roll) 0 (mCons (ret (.int 2)) (mNil))))) (mNil))))) (mNil)))) (mNil))) 3)
 (sSeq (sAppend 3 (mTup (mCons (mTup (mCons (ret (.str "s")) (mCons (ret (.int 0)) (mCons (mCallB (noEx c__law_roll) 0 (mCons (ret (.int 2)) (mNil))) (mNil))))) (mCons (mTup (mCons (ret (.str "e1")) (mCons (mVar 2) (mCons (mOp addF (mT (ret (.int 1))) (mT (mCallB (noEx c__law_roll) 0 (mCons (ret (.int 2)) (mNil))))) (mNil))))) (mNil)))))
 (sSeq (sAppend 3 (mTup (mCons (mTup (mCons (ret (.str "e0")) (mCons (mCallB (noEx c__law_roll) 0 (mCons (ret (.int 10)) (mNil))) (mCons (ret (.int 0)) (mNil))))) (mCons (mTup (mCons (ret (.str "e1")) (mCons (mCallB (noEx c__law_roll) 0 (mCons (ret (.int 3)) (mNil))) (mCons (mCallB (noEx c__law_roll) 0 (mCons (ret (.int 2)) (mNil))) (mNil))))) (mNil)))))
 (sRet (mCallB (noEx c__law_renamed) 0 (mCons (mTup (mCons (ret (.int 0)) (mCons (mCB tupleF (mCons (mVarT 3) (mNil))) (mCons (mTup (mCons (ret (.int 2)) (mCons (ret (.int 1)) (mNil)))) (mNil))))) (mNil)))))))
def c__law_overtaken : D → List D → RB := callB 1 4 b__law_overtaken

/-! ### _law_rings -/
def e0__law_rings : M D := mVar 10
def l1__law_rings : S := sIf (mTst (mOp eqF (mT (mOp ixF (mVarT 9) (mT (ret (.int 0))))) (mT (mOp addF (mT (ret (.str "e"))) (mT (mCB strF (mCons (mVarT 2) (mNil)))))))) (sAppend 1 (mOp addF (mVarT 5) (mT (mTup (mCons (mTup (mCons (mVar 6) (mCons (mVar 8) (mNil)))) (mNil)))))) (sIf (mAnd (mTst (mOp eqF (mT (mOp ixF (mT (mOp ixF (mVarT 9) (mT (ret (.int 0))))) (mT (ret (.int 0))))) (mT (ret (.str "e"))))) (mAnd (mTst (mOp gtF (mT (mCB intF (mCons (mT (mSl slF (mT (mOp ixF (mVarT 9) (mT (ret (.int 0))))) (mPart (ret (.int 1))) (mNoPart))) (mNil)))) (mVarT 2))) (mTst (mOp (inAF true) (mT (mCB intF (mCons (mT (mSl slF (mT (mOp ixF (mVarT 9) (mT (ret (.int 0))))) (mPart (ret (.int 1))) (mNoPart))) (mNil)))) (mVarT 7))))) (sAppend 4 (mTup (mCons (mOp addF (mVarT 5) (mT (mTup (mCons (mTup (mCons (mVar 6) (mCons (mVar 8) (mNil)))) (mNil))))) (mCons (mCB intF (mCons (mT (mSl slF (mT (mOp ixF (mVarT 9) (mT (ret (.int 0))))) (mPart (ret (.int 1))) (mNoPart))) (mNil))) (mNil))))) (sNext))
def l2__law_rings : S := sSeq (sAsg (mOp addF (mT (mLc (mSeqI (mVar 5)) (hTup 2 (hCons (hName 10) (hCons (hName 11) (hNil)))) (mYes) (e0__law_rings) [10, 11])) (mT (mLst (mCons (mVar 6) (mNil))))) (hName 7))
 (sFor (mEnum (mCons (mOp ixF (mT (mOp ixF (mVarT 0) (mT (ret (.int 1))))) (mVarT 6)) (mNil))) (hTup 2 (hCons (hName 8) (hCons (hName 9) (hNil)))) (l1__law_rings))
def c3__law_rings : M Bool := mTst (mOp neF (mVarT 3) (mT (mLst (mNil))))
def l4__law_rings : S := sSeq (sOwn (mLst (mNil)) 4)
 (sSeq (sFor (mSeqI (mVar 3)) (hTup 2 (hCons (hName 5) (hCons (hName 6) (hNil)))) (l2__law_rings))
 (sAsg (mVar 4) (hName 3)))
def l5__law_rings : S := sSeq (sAsg (mLst (mCons (mTup (mCons (mTup (mNil)) (mCons (mVar 2) (mNil)))) (mNil))) (hName 3))
 (whileGo (c3__law_rings) (l4__law_rings) 1000000)
def b__law_rings : S := sSeq (sOwn (mLst (mNil)) 1)
 (sSeq (sFor (mRng1 (mCons (mCB lenF (mCons (mT (mOp ixF (mVarT 0) (mT (ret (.int 1))))) (mNil))) (mNil))) (hName 2) (l5__law_rings))
 (sRet (mCB sortF (mCons (mVarT 1) (mNil)))))
def g__law_rings : List D → RR := callD 1 12 b__law_rings

/-! ### _law_sums -/
def e0__law_sums : M D := mOp ixF (mT (mOp ixF (mT (mOp ixF (mVarT 0) (mT (ret (.int 1))))) (mVarT 3))) (mVarT 4)
def e1__law_sums : M D := mOp ixF (mVarT 5) (mT (ret (.int 2)))
def e2__law_sums : M D := mOp ixF (mVarT 5) (mT (ret (.int 1)))
def b__law_sums : S := sSeq (sAsg (mLc (mSeqI (mVar 1)) (hTup 2 (hCons (hName 3) (hCons (hName 4) (hNil)))) (mYes) (e0__law_sums) [3, 4]) (hName 2))
 (sRet (mTup (mCons (mCB sumF (mCons (mT (mLc (mSeqI (mVar 2)) (hName 5) (mYes) (e2__law_sums) [5])) (mNil))) (mCons (mCB sumF (mCons (mT (mLc (mSeqI (mVar 2)) (hName 5) (mYes) (e1__law_sums) [5])) (mNil))) (mNil)))))
def g__law_sums : List D → RR := callD 2 6 b__law_sums

end Rn
end

section
set_option Elab.async false
set_option linter.all false
set_option maxRecDepth 100000
set_option maxHeartbeats 4000000
namespace Rn
open PySem PySem.Spec L2

/-! ### law -/
abbrev lawN : List Str := ["script", "dice", "net", "due", "best", "ring", "told", "delay", "back", "most", "p"]
def s0_law : S := sAsg (mCall0 g__law_sums (mCons (mVar 2) (mCons (mVar 5) (mNil)))) (hTup 2 (hCons (hName 7) (hCons (hName 8) (hNil))))
def s1_law : S := sIf (mTst (mOp ltF (mVarT 8) (mT (ret (.int 1))))) (sRet (ret (.bool false))) (sNext)
def s2_law : S := sIf (mOr (mTst (mOp (isF false) (mVarT 4) (mT (ret .none)))) (mTst (mOp gtF (mT (mOp mulF (mVarT 7) (mT (mOp ixF (mVarT 4) (mT (ret (.int 1))))))) (mT (mOp mulF (mT (mOp ixF (mVarT 4) (mT (ret (.int 0))))) (mVarT 8)))))) (sAsg (mTup (mCons (mVar 7) (mCons (mVar 8) (mNil)))) (hName 4)) (sNext)
def l3_law : S := sSeq (s0_law)
 (sSeq (s1_law)
 (s2_law))
def e4_law : M D := mAndV (mOp eqF (mT (mOp modF (mT (mOp ixF (mVarT 6) (mT (ret (.int 0))))) (mVarT 10))) (mT (ret (.int 0)))) (mOp eqF (mT (mOp modF (mT (mOp ixF (mVarT 6) (mT (ret (.int 1))))) (mVarT 10))) (mT (ret (.int 0))))
def t5_law : M Bool := mTst (mOp eqF (mT (mOp mulF (mT (mOp ixF (mT (mCall0 g__law_sums (mCons (mVar 2) (mCons (mVar 5) (mNil))))) (mT (ret (.int 0))))) (mT (mOp ixF (mVarT 4) (mT (ret (.int 1))))))) (mT (mOp mulF (mT (mOp ixF (mVarT 4) (mT (ret (.int 0))))) (mT (mOp ixF (mT (mCall0 g__law_sums (mCons (mVar 2) (mCons (mVar 5) (mNil))))) (mT (ret (.int 1))))))))
def e6_law : M D := mVar 5
def s7_law : S := sIf (mTst (mOp neF (mT (mOp mulF (mT (mOp ixF (mVarT 6) (mT (ret (.int 0))))) (mT (mOp ixF (mVarT 4) (mT (ret (.int 1))))))) (mT (mOp mulF (mT (mOp ixF (mVarT 4) (mT (ret (.int 0))))) (mT (mOp ixF (mVarT 6) (mT (ret (.int 1))))))))) (sRet (ret (.bool false))) (sNext)
def s8_law : S := sIf (mTst (mCB anyF (mCons (mT (mLc (mRng2 (mCons (ret (.int 2)) (mCons (ret (.int 9)) (mNil)))) (hName 10) (mYes) (e4_law) [10])) (mNil)))) (sRet (ret (.bool false))) (sNext)
def s9_law : S := sAsg (mLc (mSeqI (mVar 3)) (hName 5) (t5_law) (e6_law) [5]) (hName 9)
def s10_law : S := sIf (mTst (mOp neF (mT (mCall g_slowest_rings (mCons (mVar 2) (mNil)))) (mT (mCB tupleF (mCons (mVarT 9) (mNil)))))) (sRet (ret (.bool false))) (sNext)
def s11_law : S := sAsg (mIf (mTst (mOp gtF (mT (mCallB (noEx c__law_roll) 1 (mCons (ret (.int 4)) (mNil)))) (mT (ret (.int 0))))) (mCallB (noEx c__law_net) 1 (mCons (ret (.int 5)) (mCons (ret (.int 1)) (mNil)))) (mCallB (noEx c__law_overtaken) 1 (mNil))) (hName 2)
def s12_law : S := sAsg (mCall0 g__law_rings (mCons (mVar 2) (mNil))) (hName 3)
def s13_law : S := sIf (mTst (mOp neF (mT (mCall g_rings (mCons (mVar 2) (mNil)))) (mT (mCB tupleF (mCons (mVarT 3) (mNil)))))) (sRet (ret (.bool false))) (sNext)
def s14_law : S := sAsg (ret .none) (hName 4)
def s15_law : S := sFor (mSeqI (mVar 3)) (hName 5) (l3_law)
def s16_law : S := sAsg (mCall g_slowest (mCons (mVar 2) (mNil))) (hName 6)
def s17_law : S := sIf (mTst (mOp neF (mT (mOp (isF false) (mVarT 6) (mT (ret .none)))) (mT (mOp (isF false) (mVarT 4) (mT (ret .none)))))) (sRet (ret (.bool false))) (sNext)
def s18_law : S := sIf (mTst (mOp (isF true) (mVarT 4) (mT (ret .none)))) (sSeq (s7_law)
 (sSeq (s8_law)
 (sSeq (s9_law)
 (s10_law)))) (sIf (mTst (mOp neF (mT (mCall g_slowest_rings (mCons (mVar 2) (mNil)))) (mT (mTup (mNil))))) (sRet (ret (.bool false))) (sNext))
def s19_law : S := sIf (mTst (mOp neF (mT (mTold (mCall g_rings (mCons (ret .none) (mNil))))) (mT (mTup (mCons (ret (.str "error")) (mCons (ret (.str "InvalidNet")) (mNil))))))) (sRet (ret (.bool false))) (sNext)
def b_law : S := sSeq (s11_law)
 (sSeq (s12_law)
 (sSeq (s13_law)
 (sSeq (s14_law)
 (sSeq (s15_law)
 (sSeq (s16_law)
 (sSeq (s17_law)
 (sSeq (s18_law)
 (s19_law))))))))

end Rn
end

section
set_option Elab.async false
set_option linter.all false
set_option maxRecDepth 100000
/-! Math0: comprehensions and loops without effects. -/
namespace Rn
open PySem PySem.Spec L2
/-! ### what the parts do, each applied to its environment -/
section
variable {α β : Type}
theorem ev_bnd (x : M α) (k : α → M β) (r : Rho) : bnd x k r = (match x r with | .ok a r => k a r | .ex c r => .ex c r | .no => .no) := rfl
theorem ev_ret (a : α) (r : Rho) : ret a r = .ok a r := rfl
theorem ev_lfS (a : α) (r : Rho) : lft (some a) r = .ok a r := rfl
theorem ev_lfN (r : Rho) : lft (none : Option α) r = .no := rfl
theorem ev_stk (r : Rho) : (stuck : M α) r = .no := rfl
theorem ev_vr (i : Nat) (r : Rho) : mVar i r = (match r[i]? with | some (.fz d) => .ok d r | some (.ow d) => .ok d (r.set i (.fz d)) | _ => .no) := rfl
theorem ev_vrT (i : Nat) (r : Rho) : mVarT i r = (match cellD r[i]? with | some _ => .ok (.s i) r | none => .no) := rfl
theorem ev_mT (f : M D) (r : Rho) : mT f r = bnd f (fun d => ret (.d d)) r := rfl
theorem ev_cF (d : D) : cellD (some (.fz d)) = some d := rfl
theorem ev_cO (d : D) : cellD (some (.ow d)) = some d := rfl
theorem ev_cB (d : D) : cellD (some (.bw d)) = some d := rfl
theorem ev_dd (r : Rho) (d : D) : deref r (.d d) = some d := rfl
theorem ev_ds (r : Rho) (i : Nat) : deref r (.s i) = cellD r[i]? := rfl
theorem ev_d0 (r : Rho) : derefs r [] = some [] := rfl
theorem ev_dc (r : Rho) (t : TV) (ts : List TV) : derefs r (t :: ts) = (match deref r t, derefs r ts with | some d, some ds => some (d :: ds) | _, _ => none) := rfl
theorem ev_opr (f : D → D → Option D) (a b : M TV) (r : Rho) : mOp f a b r = bnd a (fun x => bnd b fun y => fun ρ => match deref ρ x, deref ρ y with | some d, some e => lft (f d e) ρ | _, _ => .no) r := rfl
theorem ev_unr (f : D → Option D) (a : M TV) (r : Rho) : mUn f a r = bnd a (fun x => fun ρ => match deref ρ x with | some d => lft (f d) ρ | _ => .no) r := rfl
theorem ev_nl (r : Rho) : (mNil : M (List α)) r = .ok [] r := rfl
theorem ev_cns (a : M α) (b : M (List α)) (r : Rho) : mCons a b r = bnd a (fun x => bnd b fun xs => ret (x :: xs)) r := rfl
theorem ev_cbr (f : List D → Option D) (a : M (List TV)) (r : Rho) : mCB f a r = bnd a (fun xs => fun ρ => match derefs ρ xs with | some ds => lft (f ds) ρ | none => .no) r := rfl
theorem ev_ab (b : Bool) : asBool (.bool b) = some b := rfl
theorem ev_ai (b : Int) : asInt (.int b) = some b := rfl
theorem ev_tst' (f : M D) (r : Rho) : mTst f r = bnd f (fun d => lft (asBool d)) r := rfl
theorem ev_an (a b : M Bool) (r : Rho) : mAnd a b r = (match a r with | .ok true r => b r | .ok false r => .ok false r | .ex c r => .ex c r | .no => .no) := by
  unfold mAnd bnd
  cases a r with
  | ok x r => cases x <;> rfl
  | ex c r => rfl
  | no => rfl
theorem ev_orr (a b : M Bool) (r : Rho) : mOr a b r = (match a r with | .ok true r => .ok true r | .ok false r => b r | .ex c r => .ex c r | .no => .no) := by
  unfold mOr bnd
  cases a r with
  | ok x r => cases x <;> rfl
  | ex c r => rfl
  | no => rfl
theorem ev_nt (a : M Bool) (r : Rho) : mNot a r = bnd a (fun x => ret (!x)) r := rfl
theorem ev_anV (a b : M D) (r : Rho) : mAndV a b r = bnd a (fun x => match asBool x with | some true => b | some false => ret (.bool false) | none => stuck) r := rfl
theorem ev_orV' (a b : M D) (r : Rho) : mOrV a b r = bnd a (fun x => match asBool x with | some true => ret (.bool true) | some false => b | none => stuck) r := rfl
theorem ev_ntV (a : M D) (r : Rho) : mNotV a r = bnd a (fun x => match asBool x with | some b => ret (.bool (!b)) | none => stuck) r := rfl
theorem ev_ifm (c : M Bool) (a b : M α) (r : Rho) : mIf c a b r = (match c r with | .ok true r => a r | .ok false r => b r | .ex c r => .ex c r | .no => .no) := by
  unfold mIf bnd
  cases c r with
  | ok x r => cases x <;> rfl
  | ex c r => rfl
  | no => rfl
theorem ev_ch (f g : D → D → Option D) (a b c : M TV) (r : Rho) : mChain f g a b c r = bnd a (fun x => bnd b fun y => fun ρ => match deref ρ x, deref ρ y with
  | some d, some e => (match (f d e).bind asBool with
    | some true => bnd c (fun z => fun ρ => match deref ρ y, deref ρ z with
      | some e, some k => lft (g e k) ρ
      | _, _ => .no) ρ
    | some false => .ok (.bool false) ρ
    | none => .no)
  | _, _ => .no) r := rfl
theorem ev_tp (a : M (List D)) (r : Rho) : mTup a r = bnd a (fun ds => fun ρ => if ds.length ≤ 100 then .ok (.tuple ds) ρ else .no) r := rfl
theorem ev_ls (a : M (List D)) (r : Rho) : mLst a r = bnd a (fun ds => fun ρ => if ds.length ≤ 100 then .ok (.list ds) ρ else .no) r := rfl
theorem ev_cl (g : List D → RR) (a : M (List D)) (r : Rho) : mCall g a r = bnd a (fun ds => fun ρ => match g ds with | .ok d => .ok d ρ | .fr d => .ok d ρ | .ex c => .ex c ρ | .no => .no) r := rfl
theorem ev_cl0 (g : List D → RR) (a : M (List D)) (r : Rho) : mCall0 g a r = bnd a (fun ds => fun ρ => match g ds with | .ok d => .ok d ρ | .fr d => .ok d ρ | _ => .no) r := rfl
theorem ev_isr (p : String → Bool) (a : M TV) (r : Rho) : mIsi p a r = bnd a (fun x => fun ρ => match deref ρ x with | some d => .ok (.bool (p (tyName d))) ρ | none => .no) r := rfl
theorem ev_sqI (f : M D) (r : Rho) : mSeqI f r = bnd f (fun d => lft (seqD d)) r := rfl
theorem ev_lc' (fi : M (List D)) (h : D → Rho → Option Rho) (ft : M Bool) (fe : M D) (vs : List Nat) (r : Rho) : mLc fi h ft fe vs r = bnd fi (fun items => fun ρ => if items.length ≤ big then (match lcGo h ft fe vs items (wipeR ρ vs) with | .ok xs ρ1 => .ok (.list xs) (restR ρ ρ1 vs) | _ => .no) else .no) r := rfl
theorem ev_g0 (h : D → Rho → Option Rho) (ft : M Bool) (fe : M D) (vs : List Nat) (r : Rho) : lcGo h ft fe vs [] r = .ok [] r := rfl
theorem ev_gc (h : D → Rho → Option Rho) (ft : M Bool) (fe : M D) (vs : List Nat) (d : D) (ds : List D) (r : Rho) : lcGo h ft fe vs (d :: ds) r = (match h d r with
    | none => .no
    | some ρ1 => match ft ρ1 with
      | .ok true ρ2 => (match fe ρ2 with
        | .ok x ρ3 => (match lcGo h ft fe vs ds (wipeR ρ3 vs) with
          | .ok xs ρ4 => .ok (x :: xs) ρ4
          | _ => .no)
        | _ => .no)
      | .ok false ρ2 => lcGo h ft fe vs ds (wipeR ρ2 vs)
      | _ => .no) := rfl
theorem ev_y (r : Rho) : mYes r = .ok true r := rfl
theorem ev_fo0 (h : D → Rho → Option Rho) (b : S) (r : Rho) : forGo h b [] r = .nx r := rfl
theorem ev_foc (h : D → Rho → Option Rho) (b : S) (d : D) (ds : List D) (r : Rho) : forGo h b (d :: ds) r = (match h d r with
    | none => .no
    | some ρ1 => match b ρ1 with
      | .nx ρ2 => forGo h b ds ρ2
      | .ct ρ2 => forGo h b ds ρ2
      | .bk ρ2 => .nx ρ2
      | o => o) := rfl
theorem ev_app (i : Nat) (f : M D) (r : Rho) : sAppend i f r = (match cellD r[i]? with
    | some (.list _) => sBind f (fun d => fun ρ => match appendD ρ i d with
      | some r => .nx r
      | none => .no) r
    | _ => .no) := rfl
theorem ev_enm (f : M (List D)) (r : Rho) : mEnum f r = bnd f (fun ds => match ds with | [d] => lft ((seqD d).map (enumD 0)) | _ => stuck) r := rfl
theorem ev_rn1 (f : M (List D)) (r : Rho) : mRng1 f r = bnd f (fun ds => match ds with | [.int j] => if j ≤ 1000000 ∧ -1000000 ≤ j then ret (rangeD 0 j.toNat) else stuck | _ => stuck) r := rfl
theorem ev_rn2 (f : M (List D)) (r : Rho) : mRng2 f r = bnd f (fun ds => match ds with | [.int i, .int j] => if (j ≤ 1000000 ∧ -1000000 ≤ j) ∧ (i ≤ 1000000 ∧ -1000000 ≤ i) then ret (rangeD i (j - i).toNat) else stuck | _ => stuck) r := rfl
theorem ev_rs (c : Str) (r : Rho) : sRaise c r = .ex c r := rfl
theorem ev_all0 : allF [.list []] = some (.bool true) := rfl
theorem ev_sqL (ds : List D) : seqD (.list ds) = some ds := rfl
theorem ev_sqT (ds : List D) : seqD (.tuple ds) = some ds := rfl
theorem ev_sb (f : M α) (k : α → S) (r : Rho) : sBind f k r = (match f r with | .ok a r => k a r | .ex c r => .ex c r | .no => .no) := rfl
theorem ev_ss (f g : S) (r : Rho) : sSeq f g r = (match f r with | .nx r => g r | o => o) := rfl
theorem ev_sn (r : Rho) : sNext r = .nx r := rfl
theorem ev_sa (f : M D) (h : D → Rho → Option Rho) (r : Rho) : sAsg f h r = sBind f (fun d => fun ρ => match h d ρ with | some r => .nx r | none => .no) r := rfl
theorem ev_so (f : M D) (i : Nat) (r : Rho) : sOwn f i r = sBind f (fun d => fun ρ => .nx (ρ.set i (.ow d))) r := rfl
theorem ev_sr (f : M D) (r : Rho) : sRet f r = sBind f (fun d => fun ρ => .rt d ρ) r := rfl
theorem ev_sdr (f : M D) (r : Rho) : sDrop f r = sBind f (fun _ => sNext) r := rfl
theorem ev_si (c : M Bool) (f g : S) (r : Rho) : sIf c f g r = (match c r with | .ok true r => f r | .ok false r => g r | .ex c r => .ex c r | .no => .no) := by
  unfold sIf sBind
  cases c r with
  | ok x r => cases x <;> rfl
  | ex c r => rfl
  | no => rfl
theorem ev_sp (ms : List Bool) (is : List Nat) (f : M (List D)) (r : Rho) : sPar ms is f r = sBind f (fun ds => fun ρ => match parSet ms is ds ρ with | some r => .nx r | none => .no) r := rfl
theorem ev_p0 (r : Rho) : parSet [] [] [] r = some r := rfl
theorem ev_pF (ms : List Bool) (i : Nat) (is : List Nat) (d : D) (ds : List D) (r : Rho) : parSet (false :: ms) (i :: is) (d :: ds) r = parSet ms is ds (r.set i (.fz d)) := rfl
theorem ev_pT (ms : List Bool) (i : Nat) (is : List Nat) (d : D) (ds : List D) (r : Rho) : parSet (true :: ms) (i :: is) (d :: ds) r = parSet ms is ds (r.set i (.ow d)) := rfl
theorem ev_sf (fi : M (List D)) (h : D → Rho → Option Rho) (b : S) (r : Rho) : sFor fi h b r = sBind fi (fun items => forGo h b items) r := rfl
theorem ev_hn (i : Nat) (d : D) (r : Rho) : hName i d r = some (r.set i (.fz d)) := rfl
theorem ev_ht (n : Nat) (hs : List D → Rho → Option Rho) (ds : List D) (r : Rho) : hTup n hs (.tuple ds) r = (if ds.length = n then hs ds r else none) := rfl
theorem ev_hc (a : D → Rho → Option Rho) (b : List D → Rho → Option Rho) (d : D) (ds : List D) (r : Rho) : hCons a b (d :: ds) r = (a d r).bind (b ds) := rfl
theorem ev_h0 (r : Rho) : hNil [] r = some r := rfl
theorem ev_cal (np n : Nat) (b : S) (ds : List D) : callD np n b ds = (if ds.length = np then finO (b (ds.map Cell.fz ++ List.replicate (n - ds.length) Cell.no)) else .no) := rfl
theorem ev_f1 (r : Rho) : finO (.nx r) = .ok .none := rfl
theorem ev_f2 (d : D) (r : Rho) : finO (.rt d r) = .ok d := rfl
theorem ev_f3 (c : Str) (r : Rho) : finO (.ex c r) = .ex c := rfl
theorem ev_f4 (d : D) (r : Rho) : finO (.rf d r) = .fr d := rfl
theorem ev_cmp (p : Int → Int → Bool) (i j : Int) : cmpI p (.int i) (.int j) = some (.bool (p i j)) := rfl
theorem ev_add (i j : Int) : addF (.int i) (.int j) = some (.int (i + j)) := rfl
theorem ev_sub (i j : Int) : subF (.int i) (.int j) = some (.int (i - j)) := rfl
theorem ev_mod (i j : Int) : modF (.int i) (.int j) = (if 0 < j then some (.int (i % j)) else none) := rfl
theorem ev_fdv (i j : Int) : fdivF (.int i) (.int j) = (if 0 < j ∧ j.natAbs < 2 ^ 400 then some (.int (i / j)) else none) := rfl
theorem ev_mul (i j : Int) (h : (isSmall i || isSmall j) = true) : mulF (.int i) (.int j) = some (.int (i * j)) := by
  show (if (isSmall i || isSmall j) = true then some (PyData.int (i * j)) else _) = _
  rw [if_pos h]
theorem ev_isn (b : Bool) (d : D) : isF b d .none = some (.bool (if b then !isNoneD d else isNoneD d)) := by cases d <;> rfl
theorem ev_n1 : isNoneD .none = true := rfl
theorem ev_n2 (ds : List D) : isNoneD (.tuple ds) = false := rfl
theorem ev_n3 (ds : List D) : isNoneD (.list ds) = false := rfl
theorem ev_n4 (i : Int) : isNoneD (.int i) = false := rfl
theorem ev_ixL (ds : List D) (i : Int) : ixF (.list ds) (.int i) = atI ds i := rfl
theorem ev_ixT (ds : List D) (i : Int) : ixF (.tuple ds) (.int i) = atI ds i := rfl
theorem ev_an' (xs : List α) (n : Nat) (x : α) (h : xs[n]? = some x) : atI xs (n : Int) = some x := by
  have hl := (List.getElem?_eq_some_iff.mp h).1
  have h1 : (0 : Int) ≤ (n : Int) := by omega
  have h2 : ((n : Int) < (xs.length : Int)) := by omega
  unfold atI ixN
  rw [if_pos h1, if_pos h2]
  show xs[(n : Int).toNat]? = some x
  rw [Int.toNat_natCast]
  exact h
theorem ev_a0 (x : α) (xs : List α) : atI (x :: xs) 0 = some x := ev_an' _ 0 _ rfl
theorem ev_a1 (x y : α) (xs : List α) : atI (x :: y :: xs) 1 = some y := ev_an' _ 1 _ rfl
theorem ev_a2 (x y z : α) (xs : List α) : atI (x :: y :: z :: xs) 2 = some z := ev_an' _ 2 _ rfl
theorem ev_lL (ds : List D) : lenF [.list ds] = some (.int ds.length) := rfl
theorem ev_lT (ds : List D) : lenF [.tuple ds] = some (.int ds.length) := rfl
theorem ev_tL (ds : List D) : tupleF [.list ds] = some (.tuple ds) := rfl
theorem ev_tT (ds : List D) : tupleF [.tuple ds] = some (.tuple ds) := rfl
theorem ev_liT (ds : List D) : listF [.tuple ds] = some (.list ds) := rfl
theorem ev_abs (i : Int) : absF [.int i] = some (.int (if i < 0 then -i else i)) := rfl
theorem ev_mx (i j : Int) : max2F [.int i, .int j] = some (.int (if j > i then j else i)) := rfl
theorem ev_mn (i j : Int) : min2F [.int i, .int j] = some (.int (if j < i then j else i)) := rfl
theorem ev_mx3 (i j k : Int) : max3F [.int i, .int j, .int k] = some (.int (if (if j > i then j else i) < k then k else (if j > i then j else i))) := rfl
theorem ev_t1 (i : Int) : tyName (.int i) = "int" := rfl
theorem ev_t2 (ds : List D) : tyName (.tuple ds) = "tuple" := rfl
theorem ev_t3 (i : Str) : tyName (.str i) = "str" := rfl
theorem ev_eqI (a b : Int) : eqF (.int a) (.int b) = some (.bool (decide (a = b))) := by
  have e : dOk (.int a) (.int b) = true := rfl
  unfold eqF
  rw [if_pos e]
  have : PyData.eqv (.int a) (.int b) = decide (a = b) := by
    unfold PyData.eqv
    by_cases h : a = b <;> simp [h]
  rw [this]
theorem ev_neI (a b : Int) : neF (.int a) (.int b) = some (.bool (!decide (a = b))) := by
  have e : dOk (.int a) (.int b) = true := rfl
  unfold neF
  rw [if_pos e]
  have : PyData.eqv (.int a) (.int b) = decide (a = b) := by
    unfold PyData.eqv
    by_cases h : a = b <;> simp [h]
  rw [this]
end
theorem lc_pure {h : D → Rho → Option Rho} {ft : M Bool} {fe : M D} {vs : List Nat} {t : D → Bool} {g : D → D} {rw : Rho} : ∀ items : List D, (∀ d ∈ items, ∃ r1, h d rw = some r1 ∧ ft r1 = .ok (t d) r1 ∧ (t d = true → fe r1 = .ok (g d) r1) ∧ wipeR r1 vs = rw) →
    lcGo h ft fe vs items rw = .ok ((items.filter t).map g) rw
  | [], _ => rfl
  | d :: ds, H => by
    obtain ⟨r1, e1, e2, e3, e4⟩ := H d (List.mem_cons_self ..)
    have ih := lc_pure ds fun x hx => H x (List.mem_cons_of_mem _ hx)
    unfold lcGo
    rw [e1]
    simp only [e2]
    cases et : t d with
    | true =>
      rw [et] at e3
      simp only [e3 rfl, e4, ih, List.filter_cons_of_pos et, List.map_cons]
    | false =>
      simp only [e4, ih]
      rw [List.filter_cons_of_neg (by rw [et]; decide)]
theorem mlc_pure {fi : M (List D)} {h : D → Rho → Option Rho} {ft : M Bool} {fe : M D} {vs : List Nat} {t : D → Bool} {g : D → D} {ρ : Rho} {items : List D} (hi : fi ρ = .ok items ρ) (hl : items.length ≤ big) (hr : restR ρ (wipeR ρ vs) vs = ρ)
    (H : ∀ d ∈ items, ∃ r1, h d (wipeR ρ vs) = some r1 ∧ ft r1 = .ok (t d) r1 ∧ (t d = true → fe r1 = .ok (g d) r1) ∧ wipeR r1 vs = wipeR ρ vs) :
    mLc fi h ft fe vs ρ = .ok (.list ((items.filter t).map g)) ρ := by
  unfold mLc bnd
  rw [hi]
  simp only [if_pos hl, lc_pure items H, hr]
/-- a loop whose body does x to one slot -/
theorem for_fold {α : Type} {h : D → Rho → Option Rho} {b : S} (st : α → Rho) (f : α → D → α) : ∀ (items : List D) (a : α), (∀ a d, d ∈ items → ∃ r, h d (st a) = some r ∧ (b r = .nx (st (f a d)) ∨ b r = .ct (st (f a d)))) → forGo h b items (st a) = .nx (st (items.foldl f a))
  | [], _, _ => rfl
  | d :: ds, a, H => by
    obtain ⟨r, e1, e2⟩ := H a d (List.mem_cons_self ..)
    have ih := for_fold st f ds (f a d) fun a x hx => H a x (List.mem_cons_of_mem _ hx)
    unfold forGo
    rw [e1]
    rcases e2 with e2 | e2
    · simp only [e2, ih, List.foldl_cons]
    · simp only [e2, ih, List.foldl_cons]
end Rn
end

section
set_option Elab.async false
set_option linter.all false
set_option autoImplicit false
set_option maxRecDepth 100000
/-! MathW: typed data, equality, rules for comprehensions and loops. -/
namespace Rn
open PySem PySem.Spec L2

/-! ### encodings -/
structure Good {α : Type} [DecidableEq α] (k : Nat) (e : α → D) : Prop where
  plain : ∀ a, (e a).plain = true
  depth : ∀ a, (e a).depth ≤ k
  eqv : ∀ a b, PyData.eqv (e a) (e b) = decide (a = b)
def oD : Option Int → D
  | none => .none
  | some i => .int i
section
variable {α β γ : Type} [DecidableEq α] [DecidableEq β] [DecidableEq γ]
theorem good_int : Good 0 PyData.int := ⟨fun _ => rfl, fun _ => Nat.le_refl _, fun a b => by
  show (a == b) = _
  by_cases h : a = b <;> simp [h]⟩
theorem good_nat : Good 0 (fun n : Nat => PyData.int (n : Int)) := ⟨fun _ => rfl, fun _ => Nat.le_refl _, fun a b => by
  show ((a : Int) == (b : Int)) = _
  by_cases h : a = b
  · simp [h]
  · have : ¬ ((a : Int) = (b : Int)) := by omega
    simp [h, this]⟩
theorem good_str : Good 0 PyData.str := ⟨fun _ => rfl, fun _ => Nat.le_refl _, fun a b => by
  show (a == b) = _
  by_cases h : a = b <;> simp [h]⟩
theorem good_bool : Good 0 PyData.bool := ⟨fun _ => rfl, fun _ => Nat.le_refl _, fun a b => by
  show (a == b) = _
  by_cases h : a = b <;> simp [h]⟩
theorem good_o : Good 0 oD := ⟨fun a => by cases a <;> rfl, fun a => by cases a <;> exact Nat.le_refl _, fun a b => by
  cases a <;> cases b
  · rfl
  · rfl
  · rfl
  · rename_i a b
    show (a == b) = _
    by_cases h : a = b <;> simp [h]⟩
theorem Good.mono {k l : Nat} {e : α → D} (h : Good k e) (hl : k ≤ l) : Good l e := ⟨h.plain, fun a => Nat.le_trans (h.depth a) hl, h.eqv⟩
theorem Good.plainAll {k : Nat} {e : α → D} (h : Good k e) : ∀ xs : List α, PyData.plainAll (xs.map e) = true
  | [] => by simp [PyData.plainAll]
  | x :: xs => by simp [PyData.plainAll, h.plain x, h.plainAll xs]
theorem Good.depthAll {k : Nat} {e : α → D} (h : Good k e) : ∀ xs : List α, PyData.depthAll (xs.map e) ≤ k
  | [] => by simp [PyData.depthAll]
  | x :: xs => by
    simp only [List.map_cons, PyData.depthAll]
    exact Nat.max_le.mpr ⟨h.depth x, h.depthAll xs⟩
theorem Good.eqvAll {k : Nat} {e : α → D} (h : Good k e) : ∀ xs ys : List α, PyData.eqvAll (xs.map e) (ys.map e) = decide (xs = ys)
  | [], [] => by simp [PyData.eqvAll]
  | [], _ :: _ => by simp [PyData.eqvAll]
  | _ :: _, [] => by simp [PyData.eqvAll]
  | x :: xs, y :: ys => by
    simp only [List.map_cons, PyData.eqvAll, h.eqv, h.eqvAll xs ys]
    by_cases h1 : x = y <;> by_cases h2 : xs = ys <;> simp [h1, h2]
theorem Good.list {k : Nat} {e : α → D} (h : Good k e) : Good (k + 1) (fun xs : List α => PyData.list (xs.map e)) :=
  ⟨fun xs => by simp only [PyData.plain]; exact h.plainAll xs, fun xs => by simp only [PyData.depth]; exact Nat.succ_le_succ (h.depthAll xs), fun xs ys => by simp only [PyData.eqv]; exact h.eqvAll xs ys⟩
theorem Good.tup {k : Nat} {e : α → D} (h : Good k e) : Good (k + 1) (fun xs : List α => PyData.tuple (xs.map e)) :=
  ⟨fun xs => by simp only [PyData.plain]; exact h.plainAll xs, fun xs => by simp only [PyData.depth]; exact Nat.succ_le_succ (h.depthAll xs), fun xs ys => by simp only [PyData.eqv]; exact h.eqvAll xs ys⟩
theorem Good.pair {k : Nat} {e : α → D} {f : β → D} (h : Good k e) (g : Good k f) : Good (k + 1) (fun p : α × β => PyData.tuple [e p.1, f p.2]) :=
  ⟨fun p => by simp [PyData.plain, PyData.plainAll, h.plain, g.plain], fun p => by
    simp only [PyData.depth, PyData.depthAll]
    have := h.depth p.1
    have := g.depth p.2
    omega, fun p q => by
    obtain ⟨a, b⟩ := p
    obtain ⟨c, d⟩ := q
    simp only [PyData.eqv, PyData.eqvAll, h.eqv, g.eqv, Prod.mk.injEq, Bool.and_true]
    by_cases h1 : a = c <;> by_cases h2 : b = d <;> simp [h1, h2]⟩
theorem Good.trip {k : Nat} {e : α → D} {f : β → D} {g : γ → D} (h : Good k e) (i : Good k f) (j : Good k g) : Good (k + 1) (fun p : α × β × γ => PyData.tuple [e p.1, f p.2.1, g p.2.2]) :=
  ⟨fun p => by simp [PyData.plain, PyData.plainAll, h.plain, i.plain, j.plain], fun p => by
    simp only [PyData.depth, PyData.depthAll]
    have := h.depth p.1
    have := i.depth p.2.1
    have := j.depth p.2.2
    omega, fun p q => by
    obtain ⟨a, b, x⟩ := p
    obtain ⟨c, d, y⟩ := q
    simp only [PyData.eqv, PyData.eqvAll, h.eqv, i.eqv, j.eqv, Prod.mk.injEq, Bool.and_true]
    by_cases h1 : a = c <;> by_cases h2 : b = d <;> by_cases h3 : x = y <;> simp [h1, h2, h3]⟩
theorem Good.ok {k : Nat} {e : α → D} (h : Good k e) (hk : k ≤ 64) (a b : α) : dOk (e a) (e b) = true := by
  unfold dOk
  have := h.depth a
  simp only [h.plain, Bool.and_self, Bool.true_and, decide_eq_true_eq]
  omega
theorem Good.eqF {k : Nat} {e : α → D} (h : Good k e) (a b : α) (hk : k ≤ 64 := by decide) : eqF (e a) (e b) = some (.bool (decide (a = b))) := by
  unfold Rn.eqF
  rw [if_pos (h.ok hk a b), h.eqv]
theorem Good.neF {k : Nat} {e : α → D} (h : Good k e) (a b : α) (hk : k ≤ 64 := by decide) : neF (e a) (e b) = some (.bool (!decide (a = b))) := by
  unfold Rn.neF
  rw [if_pos (h.ok hk a b), h.eqv]
end
theorem eqF_o (a b : Option Int) : eqF (oD a) (oD b) = some (.bool (decide (a = b))) := good_o.eqF a b
theorem neF_o (a b : Option Int) : neF (oD a) (oD b) = some (.bool (!decide (a = b))) := good_o.neF a b
theorem eqF_b (a b : Bool) : eqF (.bool a) (.bool b) = some (.bool (decide (a = b))) := good_bool.eqF a b
theorem neF_b (a b : Bool) : neF (.bool a) (.bool b) = some (.bool (!decide (a = b))) := good_bool.neF a b
theorem eqF_s (a b : Str) : eqF (.str a) (.str b) = some (.bool (decide (a = b))) := good_str.eqF a b
theorem neF_s (a b : Str) : neF (.str a) (.str b) = some (.bool (!decide (a = b))) := good_str.neF a b
theorem isN_o (a : Option Int) : isNoneD (oD a) = a.isNone := by cases a <;> rfl

/-! ### lists and tuples -/
inductive SqD : D → List D → Prop
  | l {ds} : SqD (.list ds) ds
  | t {ds} : SqD (.tuple ds) ds
theorem SqD.ix {R : D} {ds : List D} (h : SqD R ds) (i : Int) : ixF R (.int i) = atI ds i := by cases h <;> rfl
theorem SqD.len {R : D} {ds : List D} (h : SqD R ds) : lenF [R] = some (.int ds.length) := by cases h <;> rfl
theorem SqD.seq {R : D} {ds : List D} (h : SqD R ds) : seqD R = some ds := by cases h <;> rfl
theorem SqD.tup {R : D} {ds : List D} (h : SqD R ds) : tupleF [R] = some (.tuple ds) := by cases h <;> rfl
theorem SqD.lst {R : D} {ds : List D} (h : SqD R ds) : listF [R] = some (.list ds) := by cases h <;> rfl
theorem SqD.none {R : D} {ds : List D} (h : SqD R ds) : isNoneD R = false := by cases h <;> rfl
theorem atN {α : Type} {xs : List α} {i : Int} {n : Nat} (e : i = n) {x : α} (h : xs[n]? = some x) : atI xs i = some x := by subst e; exact ev_an' xs n x h
theorem atMap {α : Type} (e : α → D) (xs : List α) {i : Int} {n : Nat} (ei : i = n) (h : n < xs.length) : atI (xs.map e) i = some (e xs[n]) := atN ei (by simp [h])
theorem atLast {α : Type} {xs : List α} {x : α} (h : xs.getLast? = some x) : atI xs (-1) = some x := by
  have hne : xs ≠ [] := by intro z; subst z; cases h
  have hl : 0 < xs.length := List.length_pos_iff.mpr hne
  have e : xs[xs.length - 1]? = some x := by rw [← List.getLast?_eq_getElem?]; exact h
  unfold atI ixN
  have h1 : ¬ ((0 : Int) ≤ -1) := by decide
  rw [if_neg h1]
  have h2 : -((xs.length : Nat) : Int) ≤ -1 := by omega
  rw [if_pos h2]
  show xs[((xs.length : Int) + -1).toNat]? = some x
  rw [show ((xs.length : Int) + -1).toNat = xs.length - 1 by omega]
  exact e
theorem rangeD_map (lo : Int) (n : Nat) : rangeD lo n = (List.range n).map fun k : Nat => PyData.int (lo + (k : Int)) := rfl

/-! ### comprehensions -/
theorem mlc_map {α : Type} {fi : M (List D)} {h : D → Rho → Option Rho} {ft : M Bool} {fe : M D} {vs : List Nat} {ρ : Rho} (xs : List α) (e : α → D) (t : α → Bool) (g : α → D) (hi : fi ρ = .ok (xs.map e) ρ) (hl : xs.length ≤ big) (hr : restR ρ (wipeR ρ vs) vs = ρ)
    (H : ∀ x ∈ xs, ∃ r1, h (e x) (wipeR ρ vs) = some r1 ∧ ft r1 = .ok (t x) r1 ∧ (t x = true → fe r1 = .ok (g x) r1) ∧ wipeR r1 vs = wipeR ρ vs) : mLc fi h ft fe vs ρ = .ok (.list ((xs.filter t).map g)) ρ := by
  have go : ∀ ys : List α, (∀ y ∈ ys, y ∈ xs) → lcGo h ft fe vs (ys.map e) (wipeR ρ vs) = .ok ((ys.filter t).map g) (wipeR ρ vs) := by
    intro ys
    induction ys with
    | nil => intro _; rfl
    | cons y ys ih =>
      intro hy
      obtain ⟨r1, e1, e2, e3, e4⟩ := H y (hy y (List.mem_cons_self ..))
      have ih := ih fun z hz => hy z (List.mem_cons_of_mem _ hz)
      rw [List.map_cons]
      unfold lcGo
      rw [e1]
      simp only [e2]
      cases et : t y with
      | true => simp only [e3 et, e4, ih, List.filter_cons_of_pos et, List.map_cons]
      | false =>
        simp only [e4, ih]
        rw [List.filter_cons_of_neg (by rw [et]; decide)]
  unfold mLc bnd
  rw [hi]
  simp only [List.length_map, if_pos hl, go xs (fun _ h => h), hr]
theorem mlc_map0 {α : Type} {fi : M (List D)} {h : D → Rho → Option Rho} {fe : M D} {vs : List Nat} {ρ : Rho} (xs : List α) (e : α → D) (g : α → D) (hi : fi ρ = .ok (xs.map e) ρ) (hl : xs.length ≤ big) (hr : restR ρ (wipeR ρ vs) vs = ρ)
    (H : ∀ x ∈ xs, ∃ r1, h (e x) (wipeR ρ vs) = some r1 ∧ fe r1 = .ok (g x) r1 ∧ wipeR r1 vs = wipeR ρ vs) : mLc fi h mYes fe vs ρ = .ok (.list (xs.map g)) ρ := by
  rw [mlc_map xs e (fun _ => true) g hi hl hr (fun x hx => by obtain ⟨r1, a, b, c⟩ := H x hx; exact ⟨r1, a, rfl, fun _ => b, c⟩)]
  rw [List.filter_eq_self.mpr (fun _ _ => rfl)]
/-- a comprehension whose element changes the environment -/
theorem mlc_st {fi : M (List D)} {h : D → Rho → Option Rho} {fe : M D} {vs : List Nat} {ρ ρ1 : Rho} {items xs : List D} (hi : fi ρ = .ok items ρ) (hl : items.length ≤ big) (go : lcGo h mYes fe vs items (wipeR ρ vs) = .ok xs ρ1) : mLc fi h mYes fe vs ρ = .ok (.list xs) (restR ρ ρ1 vs) := by
  unfold mLc bnd
  rw [hi]
  simp only [if_pos hl, go]
theorem lcgo_nil {h : D → Rho → Option Rho} {ft : M Bool} {fe : M D} {vs : List Nat} {ρ : Rho} : lcGo h ft fe vs [] ρ = .ok [] ρ := rfl
theorem lcgo_cons {h : D → Rho → Option Rho} {fe : M D} {vs : List Nat} {ρ ρ1 ρ2 ρ3 : Rho} {d x : D} {ds xs : List D} (h1 : h d ρ = some ρ1) (h2 : fe ρ1 = .ok x ρ2) (h3 : lcGo h mYes fe vs ds (wipeR ρ2 vs) = .ok xs ρ3) : lcGo h mYes fe vs (d :: ds) ρ = .ok (x :: xs) ρ3 := by
  unfold lcGo
  rw [h1]
  simp only [ev_y, h2, h3]

/-! ### for -/
/-- a loop that goes on, by an invariant over what has been passed -/
theorem for_inv {α : Type} {h : D → Rho → Option Rho} {b : S} (e : α → D) (I : List α → Rho → Prop) (xs : List α) {ρ0 : Rho} (h0 : I [] ρ0)
    (step : ∀ pre x post, xs = pre ++ x :: post → ∀ ρ, I pre ρ → ∃ r1 r2, h (e x) ρ = some r1 ∧ (b r1 = .nx r2 ∨ b r1 = .ct r2) ∧ I (pre ++ [x]) r2) : ∃ r, forGo h b (xs.map e) ρ0 = .nx r ∧ I xs r := by
  have go : ∀ (post pre : List α) (ρ : Rho), xs = pre ++ post → I pre ρ → ∃ r, forGo h b (post.map e) ρ = .nx r ∧ I xs r := by
    intro post
    induction post with
    | nil =>
      intro pre ρ ex hI
      rw [List.append_nil] at ex
      subst ex
      exact ⟨ρ, rfl, hI⟩
    | cons x post ih =>
      intro pre ρ ex hI
      obtain ⟨r1, r2, e1, e2, e3⟩ := step pre x post ex ρ hI
      obtain ⟨r, f1, f2⟩ := ih (pre ++ [x]) r2 (by rw [ex]; simp) e3
      refine ⟨r, ?_, f2⟩
      rw [List.map_cons]
      unfold forGo
      rw [e1]
      rcases e2 with e2 | e2 <;> simp only [e2, f1]
  exact go xs [] ρ0 rfl h0
/-- a loop that looks: it goes on where a test holds, else ends by a value -/
theorem for_look {α : Type} {h : D → Rho → Option Rho} {b : S} (e : α → D) (I : Rho → Prop) (t : α → Bool) (d : D) : ∀ (xs : List α) {ρ0 : Rho} (h0 : I ρ0)
    (step : ∀ x ∈ xs, ∀ ρ, I ρ → ∃ r1, h (e x) ρ = some r1 ∧ (if t x = true then ∃ r2, (b r1 = .nx r2 ∨ b r1 = .ct r2) ∧ I r2 else ∃ r2, b r1 = .rt d r2)),
    (if xs.all t = true then ∃ r, forGo h b (xs.map e) ρ0 = .nx r ∧ I r else ∃ r, forGo h b (xs.map e) ρ0 = .rt d r)
  | [], ρ0, h0, _ => by
    simp only [List.all_nil, if_true]
    exact ⟨ρ0, rfl, h0⟩
  | x :: xs, ρ0, h0, step => by
    obtain ⟨r1, e1, e2⟩ := step x (List.mem_cons_self ..) ρ0 h0
    rw [List.map_cons, List.all_cons]
    cases et : t x with
    | false =>
      rw [et] at e2
      simp only [Bool.false_eq_true, if_false] at e2
      obtain ⟨r2, e2⟩ := e2
      simp only [Bool.false_and, Bool.false_eq_true, if_false]
      refine ⟨r2, ?_⟩
      unfold forGo
      rw [e1]
      simp only [e2]
    | true =>
      rw [et] at e2
      simp only [if_true] at e2
      obtain ⟨r2, e2, e3⟩ := e2
      have ih := for_look e I t d xs e3 fun y hy => step y (List.mem_cons_of_mem _ hy)
      have ef : forGo h b (e x :: xs.map e) ρ0 = forGo h b (xs.map e) r2 := by
        conv => lhs; unfold forGo
        rw [e1]
        rcases e2 with e2 | e2 <;> simp only [e2]
      rw [Bool.true_and, ef]
      exact ih
/-! ### while -/
theorem while_stop {c : M Bool} {b : S} {n : Nat} {ρ ρ1 : Rho} (h : c ρ = .ok false ρ1) : whileGo c b (n + 1) ρ = .nx ρ1 := by
  unfold whileGo
  rw [h]
theorem while_next {c : M Bool} {b : S} {n : Nat} {ρ ρ1 ρ2 : Rho} (h : c ρ = .ok true ρ1) (hb : b ρ1 = .nx ρ2 ∨ b ρ1 = .ct ρ2) : whileGo c b (n + 1) ρ = whileGo c b n ρ2 := by
  conv => lhs; unfold whileGo
  rw [h]
  rcases hb with hb | hb <;> simp only [hb]
/-! ### steps, each by the steps of its parts -/
theorem asg_ok {f : M D} {h : D → Rho → Option Rho} {ρ r r2 : Rho} {d : D} (e : f ρ = .ok d r) (e2 : h d r = some r2) : sAsg f h ρ = .nx r2 := by rw [ev_sa, ev_sb, e]; simp only [e2]
theorem own_ok {f : M D} {i : Nat} {ρ r : Rho} {d : D} (e : f ρ = .ok d r) : sOwn f i ρ = .nx (r.set i (.ow d)) := by rw [ev_so, ev_sb, e]
theorem ret_ok {f : M D} {ρ r : Rho} {d : D} (e : f ρ = .ok d r) : sRet f ρ = .rt d r := by rw [ev_sr, ev_sb, e]
theorem op_ok {f : D → D → Option D} {a b : M TV} {ρ r1 r2 : Rho} {x y : TV} {d e z : D} (ha : a ρ = .ok x r1) (hb : b r1 = .ok y r2) (dx : deref r2 x = some d) (dy : deref r2 y = some e) (hf : f d e = some z) : mOp f a b ρ = .ok z r2 := by
  rw [ev_opr, ev_bnd, ha]
  simp only
  rw [ev_bnd, hb]
  simp only [dx, dy, hf, ev_lfS]
theorem mT_ok {f : M D} {ρ r : Rho} {d : D} (e : f ρ = .ok d r) : mT f ρ = .ok (.d d) r := by rw [ev_mT, ev_bnd, e]; rfl
theorem call_ok {g : List D → RR} {fa : M (List D)} {ρ r : Rho} {ds : List D} {d : D} (e : fa ρ = .ok ds r) (hg : g ds = .ok d) : mCall0 g fa ρ = .ok d r := by rw [ev_cl0, ev_bnd, e]; simp only [hg]
theorem callX_ok {g : List D → RR} {fa : M (List D)} {ρ r : Rho} {ds : List D} {d : D} (e : fa ρ = .ok ds r) (hg : g ds = .ok d) : mCall g fa ρ = .ok d r := by rw [ev_cl, ev_bnd, e]; simp only [hg]
theorem callX_ex {g : List D → RR} {fa : M (List D)} {ρ r : Rho} {ds : List D} {c : Str} (e : fa ρ = .ok ds r) (hg : g ds = .ex c) : mCall g fa ρ = .ex c r := by rw [ev_cl, ev_bnd, e]; simp only [hg]
theorem tst_ok {f : M D} {ρ r : Rho} {b : Bool} (e : f ρ = .ok (.bool b) r) : mTst f ρ = .ok b r := by rw [ev_tst', ev_bnd, e]; rfl
theorem cons_ok {α : Type} {a : M α} {b : M (List α)} {ρ r r2 : Rho} {x : α} {xs : List α} (e : a ρ = .ok x r) (e2 : b r = .ok xs r2) : mCons a b ρ = .ok (x :: xs) r2 := by
  rw [ev_cns, ev_bnd, e]
  simp only
  rw [ev_bnd, e2]
  rfl
theorem not_ok {a : M Bool} {ρ r : Rho} {b : Bool} (e : a ρ = .ok b r) : mNot a ρ = .ok (!b) r := by rw [ev_nt, ev_bnd, e]; rfl
theorem cb_ok {f : List D → Option D} {a : M (List TV)} {ρ r : Rho} {ts : List TV} {ds : List D} {d : D} (e : a ρ = .ok ts r) (e2 : derefs r ts = some ds) (e3 : f ds = some d) : mCB f a ρ = .ok d r := by
  rw [ev_cbr, ev_bnd, e]
  simp only [e2, e3, ev_lfS]
theorem if_ok {α : Type} {c : M Bool} {a b : M α} {ρ r r2 : Rho} {t : Bool} {x : α} (e : c ρ = .ok t r) (h1 : t = true → a r = .ok x r2) (h2 : t = false → b r = .ok x r2) : mIf c a b ρ = .ok x r2 := by
  rw [ev_ifm, e]
  cases t with
  | true => exact h1 rfl
  | false => exact h2 rfl
theorem told_ok {f : M D} {ρ r : Rho} {d : D} (e : f ρ = .ok d r) : mTold f ρ = .ok d r := by unfold mTold; rw [e]
theorem told_ex {f : M D} {ρ r : Rho} {c : Str} (e : f ρ = .ex c r) (hc : excN.contains c = true) : mTold f ρ = .ok (termD c) r := by unfold mTold; rw [e]; simp only [if_pos hc]
theorem fin_rt {o : Out} {d : D} {r : Rho} (h : o = .rt d r) : finO o = .ok d := by rw [h]; rfl
theorem fin_nx {o : Out} {r : Rho} (h : o = .nx r) : finO o = .ok .none := by rw [h]; rfl
theorem fin_ex {o : Out} {c : Str} {r : Rho} (h : o = .ex c r) : finO o = .ex c := by rw [h]; rfl
theorem seq_to {f g : S} {ρ r : Rho} {o : Out} (h : f ρ = .nx r) (h2 : g r = o) : sSeq f g ρ = o := by rw [ev_ss, h]; exact h2
theorem seq_ex {f g : S} {ρ r : Rho} {c : Str} (h : f ρ = .ex c r) : sSeq f g ρ = .ex c r := by rw [ev_ss, h]
theorem seq_rt {f g : S} {ρ r : Rho} {d : D} (h : f ρ = .rt d r) : sSeq f g ρ = .rt d r := by rw [ev_ss, h]
theorem ifs_f {c : M Bool} {f g : S} {ρ r : Rho} {o : Out} (h : c ρ = .ok false r) (h2 : g r = o) : sIf c f g ρ = o := by rw [ev_si, h]; exact h2
theorem ifs_t {c : M Bool} {f g : S} {ρ r : Rho} {o : Out} (h : c ρ = .ok true r) (h2 : f r = o) : sIf c f g ρ = o := by rw [ev_si, h]; exact h2
theorem drop_ok {f : M D} {ρ r : Rho} {d : D} (e : f ρ = .ok d r) : sDrop f ρ = .nx r := by rw [ev_sdr, ev_sb, e]; rfl
theorem drop_ex {f : M D} {ρ r : Rho} {c : Str} (e : f ρ = .ex c r) : sDrop f ρ = .ex c r := by rw [ev_sdr, ev_sb, e]
theorem or_f {a b : M Bool} {ρ r : Rho} {t : R Bool} (h : a ρ = .ok false r) (h2 : b r = t) : mOr a b ρ = t := by rw [ev_orr, h]; exact h2
theorem or_t {a b : M Bool} {ρ r : Rho} (h : a ρ = .ok true r) : mOr a b ρ = .ok true r := by rw [ev_orr, h]
theorem and_t {a b : M Bool} {ρ r : Rho} {t : R Bool} (h : a ρ = .ok true r) (h2 : b r = t) : mAnd a b ρ = t := by rw [ev_an, h]; exact h2
theorem and_f {a b : M Bool} {ρ r : Rho} (h : a ρ = .ok false r) : mAnd a b ρ = .ok false r := by rw [ev_an, h]
theorem andV_ok {a b : M D} {ρ r : Rho} {x y : Bool} (ha : a ρ = .ok (.bool x) r) (hb : x = true → b r = .ok (.bool y) r) : mAndV a b ρ = .ok (.bool (x && y)) r := by
  rw [ev_anV, ev_bnd, ha]
  cases x with
  | true => exact hb rfl
  | false => rfl
theorem orV_ok {a b : M D} {ρ r : Rho} {x y : Bool} (ha : a ρ = .ok (.bool x) r) (hb : x = false → b r = .ok (.bool y) r) : mOrV a b ρ = .ok (.bool (x || y)) r := by
  rw [ev_orV', ev_bnd, ha]
  cases x with
  | false => exact hb rfl
  | true => rfl
theorem notV_ok {a : M D} {ρ r : Rho} {x : Bool} (ha : a ρ = .ok (.bool x) r) : mNotV a ρ = .ok (.bool (!x)) r := by
  rw [ev_ntV, ev_bnd, ha]
  rfl
theorem or_ok {a b : M Bool} {ρ r : Rho} {x y : Bool} (ha : a ρ = .ok x r) (hb : x = false → b r = .ok y r) : mOr a b ρ = .ok (x || y) r := by
  rw [ev_orr, ha]
  cases x with
  | false => exact hb rfl
  | true => rfl
theorem and_ok {a b : M Bool} {ρ r : Rho} {x y : Bool} (ha : a ρ = .ok x r) (hb : x = true → b r = .ok y r) : mAnd a b ρ = .ok (x && y) r := by
  rw [ev_an, ha]
  cases x with
  | true => exact hb rfl
  | false => rfl
theorem seq_nx {f g : S} {ρ r : Rho} (h : f ρ = .nx r) : sSeq f g ρ = g r := by rw [ev_ss, h]
theorem if_nx {c : M Bool} {f g : S} {ρ r : Rho} (h : c ρ = .ok false r) : sIf c f g ρ = g r := by rw [ev_si, h]
theorem if_t {c : M Bool} {f g : S} {ρ r : Rho} (h : c ρ = .ok true r) : sIf c f g ρ = f r := by rw [ev_si, h]
theorem call_eq {np n : Nat} {b : S} {ds : List D} (h : ds.length = np) : callD np n b ds = finO (b (ds.map Cell.fz ++ List.replicate (n - ds.length) Cell.no)) := by rw [ev_cal, if_pos h]
theorem call1 {m : Nat} {b : S} {x : D} : callD 1 (m + 1) b [x] = finO (b (.fz x :: List.replicate m .no)) := call_eq rfl
theorem call2 {m : Nat} {b : S} {x y : D} : callD 2 (m + 2) b [x, y] = finO (b (.fz x :: .fz y :: List.replicate m .no)) := call_eq rfl
theorem call3 {m : Nat} {b : S} {x y z : D} : callD 3 (m + 3) b [x, y, z] = finO (b (.fz x :: .fz y :: .fz z :: List.replicate m .no)) := call_eq rfl
theorem call4 {m : Nat} {b : S} {x y z u : D} : callD 4 (m + 4) b [x, y, z, u] = finO (b (.fz x :: .fz y :: .fz z :: .fz u :: List.replicate m .no)) := call_eq rfl
/-! ### a statement that goes on -/
def Wp (f : S) (Q : Rho → Prop) (ρ : Rho) : Prop := ∃ r, f ρ = .nx r ∧ Q r
theorem wp_seq {f g : S} {Q : Rho → Prop} {ρ : Rho} (h : Wp f (fun r => Wp g Q r) ρ) : Wp (sSeq f g) Q ρ := by
  obtain ⟨r, e, r2, e2, q⟩ := h
  exact ⟨r2, by rw [ev_ss, e]; exact e2, q⟩
theorem wp_set {f : M D} {h : D → Rho → Option Rho} {Q : Rho → Prop} {ρ r r2 : Rho} {d : D} (e : f ρ = .ok d r) (e2 : h d r = some r2) (q : Q r2) : Wp (sAsg f h) Q ρ := ⟨r2, by rw [ev_sa, ev_sb, e]; simp only [e2], q⟩
theorem wp_own {f : M D} {i : Nat} {Q : Rho → Prop} {ρ r : Rho} {d : D} (e : f ρ = .ok d r) (q : Q (r.set i (.ow d))) : Wp (sOwn f i) Q ρ := ⟨_, by rw [ev_so, ev_sb, e], q⟩
theorem wp_par {ms : List Bool} {is : List Nat} {f : M (List D)} {Q : Rho → Prop} {ρ r r2 : Rho} {ds : List D} (e : f ρ = .ok ds r) (e2 : parSet ms is ds r = some r2) (q : Q r2) : Wp (sPar ms is f) Q ρ := ⟨r2, by rw [ev_sp, ev_sb, e]; simp only [e2], q⟩
theorem wp_if {c : M Bool} {f g : S} {Q : Rho → Prop} {ρ r : Rho} {b : Bool} (e : c ρ = .ok b r) (h1 : b = true → Wp f Q r) (h2 : b = false → Wp g Q r) : Wp (sIf c f g) Q ρ := by
  cases b with
  | true => obtain ⟨r2, e2, q⟩ := h1 rfl; exact ⟨r2, by rw [ev_si, e]; exact e2, q⟩
  | false => obtain ⟨r2, e2, q⟩ := h2 rfl; exact ⟨r2, by rw [ev_si, e]; exact e2, q⟩
/-- a test that must not hold -/
theorem wp_not {c : M Bool} {f : S} {Q : Rho → Prop} {ρ r : Rho} (e : c ρ = .ok false r) (q : Q r) : Wp (sIf c f sNext) Q ρ := ⟨r, by rw [ev_si, e]; rfl, q⟩
theorem wp_next {Q : Rho → Prop} {ρ : Rho} (q : Q ρ) : Wp sNext Q ρ := ⟨ρ, rfl, q⟩
theorem wp_drop {f : M D} {Q : Rho → Prop} {ρ r : Rho} {d : D} (e : f ρ = .ok d r) (q : Q r) : Wp (sDrop f) Q ρ := ⟨r, by rw [ev_sdr, ev_sb, e]; rfl, q⟩
theorem wp_for {α : Type} {fi : M (List D)} {h : D → Rho → Option Rho} {b : S} {Q : Rho → Prop} {ρ ρ0 : Rho} (e : α → D) (xs : List α) (I : List α → Rho → Prop) (hi : fi ρ = .ok (xs.map e) ρ0) (h0 : I [] ρ0)
    (step : ∀ pre x post, xs = pre ++ x :: post → ∀ r, I pre r → ∃ r1, h (e x) r = some r1 ∧ Wp b (fun r2 => I (pre ++ [x]) r2) r1) (q : ∀ r, I xs r → Q r) : Wp (sFor fi h b) Q ρ := by
  obtain ⟨r, e1, e2⟩ := for_inv (h := h) (b := b) e I xs h0 fun pre x post ex r hI => by
    obtain ⟨r1, a1, r2, a2, a3⟩ := step pre x post ex r hI
    exact ⟨r1, r2, a1, .inl a2, a3⟩
  exact ⟨r, by rw [ev_sf, ev_sb, hi]; exact e1, q r e2⟩
/-- a loop that only looks: each turn leaves all but some slots -/
theorem wp_each {α : Type} {fi : M (List D)} {h : D → Rho → Option Rho} {b : S} {Q : Rho → Prop} {ρ ρ0 : Rho} (e : α → D) (xs : List α) (I : Rho → Prop) (hi : fi ρ = .ok (xs.map e) ρ0) (h0 : I ρ0)
    (step : ∀ x ∈ xs, ∀ r, I r → ∃ r1, h (e x) r = some r1 ∧ Wp b I r1) (q : ∀ r, I r → Q r) : Wp (sFor fi h b) Q ρ :=
  wp_for e xs (fun _ => I) hi h0 (fun pre x post ex r hI => step x (by rw [ex]; simp) r hI) q
theorem wp_while {α : Type} {c : M Bool} {b : S} {n : Nat} {Q : Rho → Prop} {ρ : Rho} (I : Nat → Rho → Prop) (m : Nat) (hm : m < n) (h0 : I m ρ)
    (step : ∀ k r, I k r → (∃ r1, c r = .ok false r1 ∧ Q r1) ∨ (∃ r1, c r = .ok true r1 ∧ Wp b (fun r2 => ∃ k', k' < k ∧ I k' r2) r1)) : Wp (whileGo c b n) Q ρ := by
  have go : ∀ (n k : Nat) (r : Rho), k < n → I k r → Wp (whileGo c b n) Q r := by
    intro n
    induction n with
    | zero => intro k r h; omega
    | succ n ih =>
      intro k r hk hI
      rcases step k r hI with ⟨r1, e, q⟩ | ⟨r1, e, r2, e2, k', hk', hI'⟩
      · exact ⟨r1, while_stop e, q⟩
      · obtain ⟨r3, e3, q⟩ := ih k' r2 (by omega) hI'
        exact ⟨r3, (while_next e (.inl e2)).trans e3, q⟩
  exact go n m ρ hm h0
theorem setD_ok {ρ r2 : Rho} {i : Nat} {ds : List D} {k : Int} {n : Nat} {d : D} (h0 : cellD ρ[i]? = some (.list ds)) (e : k = n) (hn : n < ds.length) (hp : putCell ρ i (.list (ds.set n d)) = some r2) : setD ρ i k d = some r2 := by
  subst e
  unfold setD
  rw [h0]
  have h1 : ixN ds.length (n : Int) = some n := by
    unfold ixN
    rw [if_pos (by omega), if_pos (by omega)]
    simp
  simp only [h1, hp]
theorem wp_setitem {fe fk : M D} {i : Nat} {Q : Rho → Prop} {ρ r r2 r3 : Rho} {d x : D} {k : Int} (he : fe ρ = .ok d r) (h0 : cellD r[i]? = some x) (hk : fk r = .ok (.int k) r2) (hs : setD r2 i k d = some r3) (q : Q r3) : Wp (sSetItem i fe fk) Q ρ := by
  refine ⟨r3, ?_, q⟩
  unfold sSetItem
  rw [ev_sb, he]
  simp only [h0]
  rw [ev_sb, hk]
  simp only [asInt, hs]
theorem wp_append {f : M D} {i : Nat} {Q : Rho → Prop} {ρ r r2 : Rho} {d : D} {ds es : List D} (h0 : cellD ρ[i]? = some (.list ds)) (he : f ρ = .ok d r) (h1 : cellD r[i]? = some (.list es)) (hl : es.length < big) (hp : putCell r i (.list (es ++ [d])) = some r2) (q : Q r2) : Wp (sAppend i f) Q ρ := by
  refine ⟨r2, ?_, q⟩
  unfold sAppend
  rw [h0]
  simp only
  rw [ev_sb, he]
  have : appendD r i d = some r2 := by
    unfold appendD
    rw [h1]
    simp only [if_pos hl, hp]
  simp only [this]
theorem rep_one {d : D} {j : Int} {n : Nat} (e : j = n) (hn : n ≤ 1000) : repF (.list [d]) (.int j) = some (.list (List.replicate n d)) := by
  subst e
  show (if ([d] : List D).length ≤ 1000 ∧ 0 ≤ (n : Int) ∧ (n : Int) ≤ 1000 then some (PyData.list (List.replicate (n : Int).toNat [d]).flatten) else none) = _
  rw [if_pos ⟨by simp, by omega, by omega⟩, Int.toNat_natCast]
  congr 2
  induction n with
  | zero => rfl
  | succ n ih => rw [List.replicate_succ, List.replicate_succ, List.flatten_cons, ih (by omega)]; rfl
theorem roundOk_of {n : Nat} {f : S} (h : ∀ c : Int, Wp f (fun _ => True) (rho0 n c)) : RoundOk n f := fun c => by
  obtain ⟨r, e, _⟩ := h c
  exact ⟨r, .inl e⟩
end Rn
end

section
set_option Elab.async false
set_option linter.all false
set_option maxRecDepth 100000
set_option maxHeartbeats 4000000
/-! MathX: more rules of steps. -/
namespace Rn
open PySem PySem.Spec L2
/-- a loop that ends by a value at one of its items -/
theorem for_hit {α : Type} {h : D → Rho → Option Rho} {b : S} (e : α → D) (I : Rho → Prop) (x : α) (post : List α) {d : D} : ∀ (pre : List α) {ρ0 : Rho} (h0 : I ρ0)
    (step : ∀ y ∈ pre, ∀ ρ, I ρ → ∃ r1, h (e y) ρ = some r1 ∧ ∃ r2, b r1 = .nx r2 ∧ I r2)
    (hit : ∀ ρ, I ρ → ∃ r1, h (e x) ρ = some r1 ∧ ∃ r2, b r1 = .rt d r2), ∃ r, forGo h b ((pre ++ x :: post).map e) ρ0 = .rt d r
  | [], ρ0, h0, _, hit => by
    obtain ⟨r1, e1, r2, e2⟩ := hit ρ0 h0
    refine ⟨r2, ?_⟩
    rw [List.nil_append, List.map_cons]
    unfold forGo
    rw [e1]
    simp only [e2]
  | y :: pre, ρ0, h0, step, hit => by
    obtain ⟨r1, e1, r2, e2, e3⟩ := step y (List.mem_cons_self ..) ρ0 h0
    obtain ⟨r, ih⟩ := for_hit e I x post pre e3 (fun z hz => step z (List.mem_cons_of_mem _ hz)) hit
    refine ⟨r, ?_⟩
    rw [List.cons_append, List.map_cons]
    unfold forGo
    rw [e1]
    simp only [e2]
    exact ih
theorem for_ok {fi : M (List D)} {h : D → Rho → Option Rho} {b : S} {ρ ρ0 : Rho} {items : List D} {o : Out} (hi : fi ρ = .ok items ρ0) (e : forGo h b items ρ0 = o) : sFor fi h b ρ = o := by
  rw [ev_sf, ev_sb, hi]
  exact e
theorem range_at {n k : Nat} (h : k < n) : ∃ post, List.range n = List.range k ++ k :: post :=
  ⟨(List.range (n - k - 1)).map fun i => k + 1 + i, by
    rw [show n = k + 1 + (n - k - 1) by omega, List.range_add, List.range_succ, List.append_assoc]
    simp only [List.singleton_append]
    rw [show k + 1 + (n - k - 1) - k - 1 = n - k - 1 by omega]⟩
theorem range_pos {n : Nat} {pre post : List Nat} {x : Nat} (e : List.range n = pre ++ x :: post) : x = pre.length ∧ pre.length < n := by
  have h : (List.range n)[pre.length]? = some x := by rw [e]; simp
  have hl : pre.length < n := by
    have := congrArg List.length e
    simp at this
    omega
  rw [List.getElem?_range hl] at h
  exact ⟨(Option.some.inj h).symm, hl⟩
/-- a statement that ends by a value -/
def Rt (f : S) (Q : D → Rho → Prop) (ρ : Rho) : Prop := ∃ d r, f ρ = .rt d r ∧ Q d r
theorem rt_seq {f g : S} {Q : D → Rho → Prop} {ρ : Rho} (h : Wp f (fun r => Rt g Q r) ρ) : Rt (sSeq f g) Q ρ := by
  obtain ⟨r, e, d, r2, e2, q⟩ := h
  exact ⟨d, r2, seq_to e e2, q⟩
theorem rt_ret {f : M D} {Q : D → Rho → Prop} {ρ r : Rho} {d : D} (e : f ρ = .ok d r) (q : Q d r) : Rt (sRet f) Q ρ := ⟨d, r, ret_ok e, q⟩
theorem par_ok {ms : List Bool} {is : List Nat} {f : M (List D)} {ρ r r2 : Rho} {ds : List D} (e : f ρ = .ok ds r) (e2 : parSet ms is ds r = some r2) : sPar ms is f ρ = .nx r2 := by rw [ev_sp, ev_sb, e]; simp only [e2]
theorem tup_ok {a : M (List D)} {ρ r : Rho} {ds : List D} (e : a ρ = .ok ds r) (h : ds.length ≤ 100) : mTup a ρ = .ok (.tuple ds) r := by
  rw [ev_tp, ev_bnd, e]
  exact if_pos h
theorem lst_ok {a : M (List D)} {ρ r : Rho} {ds : List D} (e : a ρ = .ok ds r) (h : ds.length ≤ 100) : mLst a ρ = .ok (.list ds) r := by
  rw [ev_ls, ev_bnd, e]
  exact if_pos h
theorem seqL_ok {f : M D} {ρ r : Rho} {ds : List D} (e : f ρ = .ok (.list ds) r) : mSeqI f ρ = .ok ds r := by
  rw [ev_sqI, ev_bnd, e]
  rfl
theorem seqT_ok {f : M D} {ρ r : Rho} {ds : List D} (e : f ρ = .ok (.tuple ds) r) : mSeqI f ρ = .ok ds r := by
  rw [ev_sqI, ev_bnd, e]
  rfl
theorem add_ll (a b : List D) (h : a.length + b.length ≤ 1000) : addF (.list a) (.list b) = some (.list (a ++ b)) := by
  show (if a.length + b.length ≤ big then _ else _) = _
  rw [if_pos (by simp [big]; omega)]
theorem add_tt (a b : List D) (h : a.length + b.length ≤ 1000) : addF (.tuple a) (.tuple b) = some (.tuple (a ++ b)) := by
  show (if a.length + b.length ≤ big then _ else _) = _
  rw [if_pos (by simp [big]; omega)]
theorem isn_o (a : Option Int) : isF false (oD a) .none = some (.bool a.isNone) := by cases a <;> rfl
theorem ist_o (a : Option Int) : isF true (oD a) .none = some (.bool (!a.isNone)) := by cases a <;> rfl
theorem ne_self {k : Nat} {α : Type} [DecidableEq α] {e : α → D} (g : Good k e) (a : α) (hk : k ≤ 64 := by decide) : neF (e a) (e a) = some (.bool false) := by
  rw [g.neF a a hk, decide_eq_true rfl]
  rfl
theorem term_eq (c : Str) : neF (termD c) (termD c) = some (.bool false) := ne_self (e := fun p : Str × Str => PyData.tuple [.str p.1, .str p.2]) (good_str.pair good_str) ("error", c)
end Rn
end

section
set_option Elab.async false
set_option linter.all false
set_option maxRecDepth 100000
set_option maxHeartbeats 4000000
/-! Roll: the law's dice. -/
namespace Rn
open PySem PySem.Spec L2
theorem md0 {i j : Int} (h : 0 < j) : modF (.int i) (.int j) = some (.int (i % j)) := by rw [ev_mod, if_pos h]
theorem fd0 {i j : Int} (h : 0 < j) (h2 : j.natAbs < 2 ^ 400) : fdivF (.int i) (.int j) = some (.int (i / j)) := by rw [ev_fdv, if_pos ⟨h, h2⟩]
/-! ### rolls -/
theorem ev_sst (i : Nat) (fe fk : M D) (r : Rho) : sSetItem i fe fk r = sBind fe (fun d => fun ρ => match cellD ρ[i]? with
  | some _ => sBind fk (fun kd => fun ρ => match asInt kd with
    | some k => (match setD ρ i k d with
      | some r => .nx r
      | none => .no)
    | none => .no) ρ
  | none => .no) r := rfl
theorem mul_big {i j : Int} (h1 : i.natAbs < 2 ^ 400) (h2 : j.natAbs < 2 ^ 400) : mulF (.int i) (.int j) = some (.int (i * j)) := by
  show (if (isSmall i || isSmall j) = true then some (PyData.int (i * j)) else if i.natAbs < 2 ^ 400 ∧ j.natAbs < 2 ^ 400 then some (PyData.int (i * j)) else none) = _
  split
  · rfl
  · rw [if_pos ⟨h1, h2⟩]
theorem lt_big {i : Int} {n : Nat} (h0 : 0 ≤ i) (h : i < n) (hn : n ≤ 2 ^ 400) : i.natAbs < 2 ^ 400 := by
  have : i.natAbs < n := by omega
  exact Nat.lt_of_lt_of_le this hn
theorem drawn_ok (c k : Int) : ∃ x, g__law_drawn [.int c, .int k] = .ok (.int x) := by
  have e1 := ev_mul c 6364136223846793005 (by rw [show isSmall 6364136223846793005 = true from rfl, Bool.or_true])
  have e2 := ev_mul (k + 1) 1442695040888963407 (by rw [show isSmall 1442695040888963407 = true from rfl, Bool.or_true])
  have m1 : modF (.int (c * 6364136223846793005 + (k + 1) * 1442695040888963407)) (.int 340282366920938463463374607431768211507) = some (.int ((c * 6364136223846793005 + (k + 1) * 1442695040888963407) % 340282366920938463463374607431768211507)) := md0 (by decide)
  have b1 := Int.emod_nonneg (c * 6364136223846793005 + (k + 1) * 1442695040888963407) (show (340282366920938463463374607431768211507 : Int) ≠ 0 by decide)
  have b2 := Int.emod_lt_of_pos (c * 6364136223846793005 + (k + 1) * 1442695040888963407) (show (0 : Int) < 340282366920938463463374607431768211507 by decide)
  generalize (c * 6364136223846793005 + (k + 1) * 1442695040888963407) % 340282366920938463463374607431768211507 = x1 at m1 b1 b2
  have e3 := mul_big (lt_big (n := 340282366920938463463374607431768211507) b1 b2 (by decide)) (lt_big (n := 340282366920938463463374607431768211507) b1 b2 (by decide))
  have m2 : modF (.int (x1 * x1)) (.int 340282366920938463463374607431768211297) = some (.int ((x1 * x1) % 340282366920938463463374607431768211297)) := md0 (by decide)
  have b3 := Int.emod_nonneg (x1 * x1) (show (340282366920938463463374607431768211297 : Int) ≠ 0 by decide)
  have b4 := Int.emod_lt_of_pos (x1 * x1) (show (0 : Int) < 340282366920938463463374607431768211297 by decide)
  generalize (x1 * x1) % 340282366920938463463374607431768211297 = x2 at m2 b3 b4
  have m3 : modF (.int x2) (.int 18446744073709551557) = some (.int (x2 % 18446744073709551557)) := md0 (by decide)
  have d3 : fdivF (.int x2) (.int 18446744073709551557) = some (.int (x2 / 18446744073709551557)) := fd0 (by decide) (by decide)
  have b5 := Int.emod_nonneg x2 (show (18446744073709551557 : Int) ≠ 0 by decide)
  have b6 := Int.emod_lt_of_pos x2 (show (0 : Int) < 18446744073709551557 by decide)
  have b7 : 0 ≤ x2 / 18446744073709551557 := Int.ediv_nonneg b3 (by decide)
  have b8 : x2 / 18446744073709551557 < 18446744073709551716 := Int.ediv_lt_of_lt_mul (by decide) (by omega)
  generalize x2 % 18446744073709551557 = y1 at m3 b5 b6
  generalize x2 / 18446744073709551557 = y2 at d3 b7 b8
  have e4 := mul_big (i := y1 + 1) (j := y2 + 1) (lt_big (n := 340282366920938463463374607431768211297) (by omega) (by omega) (by decide)) (lt_big (n := 340282366920938463463374607431768211297) (by omega) (by omega) (by decide))
  have b9 : (y1 + 1) * (y2 + 1) ≤ 18446744073709551717 * 18446744073709551717 := Int.mul_le_mul (by omega) (by omega) (by omega) (by decide)
  have b10 : 0 ≤ (y1 + 1) * (y2 + 1) := Int.mul_nonneg (by omega) (by omega)
  generalize (y1 + 1) * (y2 + 1) = z at e4 b9 b10
  have e5 := mul_big (i := z) (j := x2) (lt_big (n := 18446744073709551717 * 18446744073709551717 + 1) b10 (by omega) (by decide)) (lt_big (n := 340282366920938463463374607431768211297) b3 b4 (by decide))
  have m4 : modF (.int (z * x2)) (.int 340282366920938463463374607431768211507) = some (.int ((z * x2) % 340282366920938463463374607431768211507)) := md0 (by decide)
  refine ⟨(z * x2) % 340282366920938463463374607431768211507, ?_⟩
  simp -implicitDefEqProofs only [g__law_drawn, b__law_drawn, ev_foc, ev_fo0, ev_app, ev_enm, ev_rs, ev_lc', ev_g0, ev_gc, ev_y, big, ev_bnd, ev_ret, ev_lfS, ev_lfN, ev_stk, ev_vr, ev_vrT, ev_mT, ev_cF, ev_cO, ev_cB, ev_dd, ev_ds, ev_d0, ev_dc, ev_opr, ev_unr, ev_nl, ev_cns, ev_cbr, ev_ab, ev_ai, ev_tst', ev_an, ev_orr, ev_nt, ev_anV, ev_orV', ev_ntV, ev_ifm, ev_ch, ev_tp, ev_ls, ev_cl, ev_cl0, ev_isr, ev_sqI, ev_sqL, ev_sqT, ev_sb, ev_ss, ev_sn, ev_sa, ev_so, ev_sr, ev_sdr, ev_si, ev_sp, ev_p0, ev_pF, ev_pT, ev_sf, ev_hn, ev_ht, ev_hc, ev_h0, ev_cal, ev_f1, ev_f2, ev_f3, ev_f4, ev_cmp, ev_add, ev_sub, ev_isn, ev_n1, ev_n2, ev_n3, ev_n4, ev_ixL, ev_ixT, ev_a0, ev_a1, ev_a2, ev_lL, ev_lT, ev_tL, ev_tT, ev_liT, ev_abs, ev_mx, ev_mn, ev_mx3, ev_t1, ev_t2, ev_t3, ev_eqI, ev_neI, List.getElem?_cons_zero, List.getElem?_cons_succ, List.set_cons_zero, List.set_cons_succ, List.length_cons, List.length_nil, List.map_cons, List.map_nil, List.replicate_succ, List.replicate_zero, List.cons_append, List.nil_append, List.append_nil, Option.bind_some, Option.map_some, Nat.reduceAdd, Nat.reduceSub, Nat.reduceLT, Nat.reduceLeDiff, Nat.reduceEqDiff, if_true, if_false, reduceIte, Bool.false_eq_true, wipeR, restR, e1, e2, m1, e3, m2, m3, d3, e4, e5, m4]
theorem pow18 : powF (.int 10) (.int 18) = some (.int 1000000000000000000) := by kernel_rfl
theorem set0 (c k x : D) : setD [.bw (.list [c, k]), y1, y2] 0 0 x = some [.bw (.list [x, k]), y1, y2] := by
  simp [setD, cellD, ixN, putCell]
theorem set1 (c k x : D) : setD [.bw (.list [c, k]), y1, y2] 0 1 x = some [.bw (.list [c, x]), y1, y2] := by
  simp [setD, cellD, ixN, putCell]
theorem roll_ok (c k : Int) (m : Nat) (hm : 0 < m) (hm2 : m ≤ 1000000) : ∃ (r : Nat) (c' k' : Int), r < m ∧ noEx c__law_roll (.list [.int c, .int k]) [.int (m : Int)] = .ok (.int (r : Int)) (.list [.int c', .int k']) := by
  have hm3 : (0 : Int) < (m : Int) := by omega
  have hm4 : (m : Int).natAbs < 2 ^ 400 := by
    have : (m : Int).natAbs = m := by omega
    rw [this]
    exact Nat.lt_of_le_of_lt hm2 (by decide)
  have md : ∀ i : Int, modF (.int i) (.int (m : Int)) = some (.int (i % m)) := fun i => md0 hm3
  have fd : ∀ i : Int, fdivF (.int i) (.int (m : Int)) = some (.int (i / m)) := fun i => fd0 hm3 hm4
  have f8 : ∀ i : Int, fdivF (.int i) (.int 8) = some (.int (i / 8)) := fun i => fd0 (by decide) (by decide)
  have rem : ∀ i : Int, ∃ r : Nat, r < m ∧ i % (m : Int) = (r : Int) := fun i => by
    have h1 := Int.emod_nonneg i (show (m : Int) ≠ 0 by omega)
    have h2 := Int.emod_lt_of_pos i hm3
    exact ⟨(i % (m : Int)).toNat, by omega, by omega⟩
  by_cases h : c ≥ 1000000000000000000
  · obtain ⟨r, hr, er⟩ := rem c
    refine ⟨r, c / m, k, hr, ?_⟩
    have h' : (1000000000000000000 : Int) ≤ c := h
    simp -implicitDefEqProofs only [noEx, c__law_roll, callB, startR, b__law_roll, ev_foc, ev_fo0, ev_app, ev_enm, ev_rs, ev_lc', ev_g0, ev_gc, ev_y, big, ev_bnd, ev_ret, ev_lfS, ev_lfN, ev_stk, ev_vr, ev_vrT, ev_mT, ev_cF, ev_cO, ev_cB, ev_dd, ev_ds, ev_d0, ev_dc, ev_opr, ev_unr, ev_nl, ev_cns, ev_cbr, ev_ab, ev_ai, ev_tst', ev_an, ev_orr, ev_nt, ev_anV, ev_orV', ev_ntV, ev_ifm, ev_ch, ev_tp, ev_ls, ev_cl, ev_cl0, ev_isr, ev_sqI, ev_sqL, ev_sqT, ev_sb, ev_ss, ev_sn, ev_sa, ev_so, ev_sr, ev_sdr, ev_si, ev_sp, ev_p0, ev_pF, ev_pT, ev_sf, ev_hn, ev_ht, ev_hc, ev_h0, ev_cal, ev_f1, ev_f2, ev_f3, ev_f4, ev_cmp, ev_add, ev_sub, ev_isn, ev_n1, ev_n2, ev_n3, ev_n4, ev_ixL, ev_ixT, ev_a0, ev_a1, ev_a2, ev_lL, ev_lT, ev_tL, ev_tT, ev_liT, ev_abs, ev_mx, ev_mn, ev_mx3, ev_t1, ev_t2, ev_t3, ev_eqI, ev_neI, List.getElem?_cons_zero, List.getElem?_cons_succ, List.set_cons_zero, List.set_cons_succ, List.length_cons, List.length_nil, List.map_cons, List.map_nil, List.replicate_succ, List.replicate_zero, List.cons_append, List.nil_append, List.append_nil, Option.bind_some, Option.map_some, Nat.reduceAdd, Nat.reduceSub, Nat.reduceLT, Nat.reduceLeDiff, Nat.reduceEqDiff, if_true, if_false, reduceIte, Bool.false_eq_true, wipeR, restR, ev_sst, pow18, h', decide_true, md, fd, set0, finB, bwOf, er]
  · obtain ⟨x, ex⟩ := drawn_ok c (k + 1)
    obtain ⟨r, hr, er⟩ := rem (x / 8)
    refine ⟨r, c, k + 1, hr, ?_⟩
    have h' : ¬ (1000000000000000000 : Int) ≤ c := h
    simp -implicitDefEqProofs only [noEx, c__law_roll, callB, startR, b__law_roll, ev_foc, ev_fo0, ev_app, ev_enm, ev_rs, ev_lc', ev_g0, ev_gc, ev_y, big, ev_bnd, ev_ret, ev_lfS, ev_lfN, ev_stk, ev_vr, ev_vrT, ev_mT, ev_cF, ev_cO, ev_cB, ev_dd, ev_ds, ev_d0, ev_dc, ev_opr, ev_unr, ev_nl, ev_cns, ev_cbr, ev_ab, ev_ai, ev_tst', ev_an, ev_orr, ev_nt, ev_anV, ev_orV', ev_ntV, ev_ifm, ev_ch, ev_tp, ev_ls, ev_cl, ev_cl0, ev_isr, ev_sqI, ev_sqL, ev_sqT, ev_sb, ev_ss, ev_sn, ev_sa, ev_so, ev_sr, ev_sdr, ev_si, ev_sp, ev_p0, ev_pF, ev_pT, ev_sf, ev_hn, ev_ht, ev_hc, ev_h0, ev_cal, ev_f1, ev_f2, ev_f3, ev_f4, ev_cmp, ev_add, ev_sub, ev_isn, ev_n1, ev_n2, ev_n3, ev_n4, ev_ixL, ev_ixT, ev_a0, ev_a1, ev_a2, ev_lL, ev_lT, ev_tL, ev_tT, ev_liT, ev_abs, ev_mx, ev_mn, ev_mx3, ev_t1, ev_t2, ev_t3, ev_eqI, ev_neI, List.getElem?_cons_zero, List.getElem?_cons_succ, List.set_cons_zero, List.set_cons_succ, List.length_cons, List.length_nil, List.map_cons, List.map_nil, List.replicate_succ, List.replicate_zero, List.cons_append, List.nil_append, List.append_nil, Option.bind_some, Option.map_some, Nat.reduceAdd, Nat.reduceSub, Nat.reduceLT, Nat.reduceLeDiff, Nat.reduceEqDiff, if_true, if_false, reduceIte, Bool.false_eq_true, wipeR, restR, ev_sst, pow18, h', decide_false, md, fd, f8, set1, ex, finB, bwOf, er]
def IsDice (d : D) : Prop := ∃ c k : Int, d = .list [.int c, .int k]
theorem roll_d {d : D} (h : IsDice d) (m : Nat) (hm : 0 < m) (hm2 : m ≤ 1000000) : ∃ (r : Nat) (d' : D), r < m ∧ IsDice d' ∧ noEx c__law_roll d [.int (m : Int)] = .ok (.int (r : Int)) d' := by
  obtain ⟨c, k, rfl⟩ := h
  obtain ⟨r, c', k', h1, h2⟩ := roll_ok c k m hm hm2
  exact ⟨r, _, h1, ⟨c', k', rfl⟩, h2⟩
theorem roll_n {d : D} (h : IsDice d) (M : Int) (m : Nat) (e : M = m) (hm : 0 < m) (hm2 : m ≤ 1000000) : ∃ (r : Nat) (d' : D), r < m ∧ IsDice d' ∧ noEx c__law_roll d [.int M] = .ok (.int (r : Int)) d' := by
  subst e
  exact roll_d h m hm hm2
theorem callB_ok {g : D → List D → RB} {i : Nat} {fa : M (List D)} {ρ r r2 : Rho} {ds : List D} {x d0 d d1 : D} (h0 : cellD ρ[i]? = some x) (ha : fa ρ = .ok ds r) (h1 : cellD r[i]? = some d0) (hg : g d0 ds = .ok d d1) (hp : putCell r i d1 = some r2) : mCallB g i fa ρ = .ok d r2 := by
  unfold mCallB
  rw [h0]
  simp only
  rw [ev_bnd, ha]
  simp only [h1, hg, hp]
theorem rho0_dice (n : Nat) (c : Int) : ∃ d, IsDice d ∧ rho0 n c = .no :: .bw d :: List.replicate (n - 2) .no := ⟨_, ⟨c, 0, rfl⟩, rfl⟩
end Rn
end

section
set_option Elab.async false
set_option linter.all false
set_option maxRecDepth 100000
set_option maxHeartbeats 4000000
/-! NetA: nets as plain data. A source is none (the start), some (false, n) (input n), some (true, n) (event n). -/
namespace Rn
open PySem PySem.Spec L2
abbrev Src := Option (Bool × Fin 10)
abbrev Arc := Src × Nat × Nat
abbrev Net := Nat × List (List Arc) × List Nat
theorem fin10 {P : Fin 10 → Prop} (h0 : P 0) (h1 : P 1) (h2 : P 2) (h3 : P 3) (h4 : P 4) (h5 : P 5) (h6 : P 6) (h7 : P 7) (h8 : P 8) (h9 : P 9) : ∀ n, P n
  | ⟨0, _⟩ => h0
  | ⟨1, _⟩ => h1
  | ⟨2, _⟩ => h2
  | ⟨3, _⟩ => h3
  | ⟨4, _⟩ => h4
  | ⟨5, _⟩ => h5
  | ⟨6, _⟩ => h6
  | ⟨7, _⟩ => h7
  | ⟨8, _⟩ => h8
  | ⟨9, _⟩ => h9
def srcS : Src → Str
  | none => "s"
  | some (false, n) => [("u0" : Str), "u1", "u2", "u3", "u4", "u5", "u6", "u7", "u8", "u9"].getD n.val "s"
  | some (true, n) => [("e0" : Str), "e1", "e2", "e3", "e4", "e5", "e6", "e7", "e8", "e9"].getD n.val "s"
def srcD (s : Src) : D := .str (srcS s)
def allSrc : List Src := none :: ((List.finRange 10).map fun n => some (false, n)) ++ (List.finRange 10).map fun n => some (true, n)
theorem all_src (s : Src) : s ∈ allSrc := by
  unfold allSrc
  rcases s with _ | ⟨_ | _, n⟩
  · simp
  · simp
  · simp
theorem src_eqv : ∀ a ∈ allSrc, ∀ b ∈ allSrc, PyData.eqv (srcD a) (srcD b) = decide (a = b) := by decide +kernel
theorem good_src : Good 0 srcD := ⟨fun _ => rfl, fun _ => Nat.le_refl _, fun a b => src_eqv a (all_src a) b (all_src b)⟩
def arcD (a : Arc) : D := .tuple [srcD a.1, .int (a.2.1 : Nat), .int (a.2.2 : Nat)]
theorem good_arc : Good 1 arcD := good_src.trip good_nat good_nat
def rowD (r : List Arc) : D := .tuple (r.map arcD)
theorem good_row : Good 2 rowD := good_arc.tup
def rowsD (r : List (List Arc)) : D := .tuple (r.map rowD)
theorem good_rows : Good 3 rowsD := good_row.tup
def outsD (o : List Nat) : D := .tuple (o.map fun n : Nat => PyData.int (n : Int))
theorem good_outs : Good 1 outsD := good_nat.tup
def netD (n : Net) : D := .tuple [.int (n.1 : Nat), rowsD n.2.1, outsD n.2.2]
instance decArc : DecidableEq Arc := fun a b => instDecidableEqProd a b
instance decRow : DecidableEq (List Arc) := fun a b => inferInstanceAs (Decidable (a = b))
instance decRows : DecidableEq (List (List Arc)) := fun a b => inferInstanceAs (Decidable (a = b))
instance decNet : DecidableEq Net := fun a b => instDecidableEqProd a b
theorem good_net : Good 4 netD := (good_nat.mono (show 0 ≤ 3 by decide)).trip good_rows (good_outs.mono (show 1 ≤ 3 by decide))
/-! ### ranges -/
theorem rng1_n {f : M (List D)} {r : Rho} {n : Nat} (h : f r = .ok [.int (n : Int)] r) (hn : n ≤ 1000000) : mRng1 f r = .ok ((List.range n).map fun k : Nat => PyData.int (0 + (k : Int))) r := by
  rw [ev_rn1, ev_bnd, h]
  have h1 : (n : Int) ≤ 1000000 ∧ -1000000 ≤ (n : Int) := by omega
  simp only [if_pos h1, rangeD_map, ev_ret, Int.toNat_natCast]
theorem rng2_n {f : M (List D)} {r : Rho} {lo hi : Int} (h : f r = .ok [.int lo, .int hi] r) (h1 : (hi ≤ 1000000 ∧ -1000000 ≤ hi) ∧ (lo ≤ 1000000 ∧ -1000000 ≤ lo)) : mRng2 f r = .ok ((List.range (hi - lo).toNat).map fun k : Nat => PyData.int (lo + (k : Int))) r := by
  rw [ev_rn2, ev_bnd, h]
  simp only [if_pos h1, rangeD_map, ev_ret]
/-! ### sources -/
def evOf (s : Src) : Option Nat := match s with
  | some (true, n) => some n.val
  | _ => none
theorem w_event (s : Src) : g_event_of [srcD s] = .ok (oD ((evOf s).map fun k : Nat => (k : Int))) := by
  rcases s with _ | ⟨_ | _, n⟩
  · kernel_rfl
  · revert n
    exact fin10 (by kernel_rfl) (by kernel_rfl) (by kernel_rfl) (by kernel_rfl) (by kernel_rfl) (by kernel_rfl) (by kernel_rfl) (by kernel_rfl) (by kernel_rfl) (by kernel_rfl)
  · revert n
    exact fin10 (by kernel_rfl) (by kernel_rfl) (by kernel_rfl) (by kernel_rfl) (by kernel_rfl) (by kernel_rfl) (by kernel_rfl) (by kernel_rfl) (by kernel_rfl) (by kernel_rfl)
theorem dig_s : ∀ n : Fin 10, strF [.int (n.val : Int)] = some (.str (toString (n.val : Int))) := fin10 (by kernel_rfl) (by kernel_rfl) (by kernel_rfl) (by kernel_rfl) (by kernel_rfl) (by kernel_rfl) (by kernel_rfl) (by kernel_rfl) (by kernel_rfl) (by kernel_rfl)
theorem dig_e : ∀ n : Fin 10, addF (.str "e") (.str (toString (n.val : Int))) = some (srcD (some (true, n))) := fin10 (by kernel_rfl) (by kernel_rfl) (by kernel_rfl) (by kernel_rfl) (by kernel_rfl) (by kernel_rfl) (by kernel_rfl) (by kernel_rfl) (by kernel_rfl) (by kernel_rfl)
theorem dig_u : ∀ n : Fin 10, addF (.str "u") (.str (toString (n.val : Int))) = some (srcD (some (false, n))) := fin10 (by kernel_rfl) (by kernel_rfl) (by kernel_rfl) (by kernel_rfl) (by kernel_rfl) (by kernel_rfl) (by kernel_rfl) (by kernel_rfl) (by kernel_rfl) (by kernel_rfl)
def srcH (s : Src) : Str := match s with
  | none => "s"
  | some (false, _) => "u"
  | some (true, _) => "e"
theorem src_head (s : Src) : ixF (srcD s) (.int 0) = some (.str (srcH s)) := by
  rcases s with _ | ⟨_ | _, n⟩
  · kernel_rfl
  · revert n
    exact fin10 (by kernel_rfl) (by kernel_rfl) (by kernel_rfl) (by kernel_rfl) (by kernel_rfl) (by kernel_rfl) (by kernel_rfl) (by kernel_rfl) (by kernel_rfl) (by kernel_rfl)
  · revert n
    exact fin10 (by kernel_rfl) (by kernel_rfl) (by kernel_rfl) (by kernel_rfl) (by kernel_rfl) (by kernel_rfl) (by kernel_rfl) (by kernel_rfl) (by kernel_rfl) (by kernel_rfl)
theorem src_tail : ∀ n : Fin 10, slF (srcD (some (true, n))) (some 1) none = some (.str (toString (n.val : Int))) := fin10 (by kernel_rfl) (by kernel_rfl) (by kernel_rfl) (by kernel_rfl) (by kernel_rfl) (by kernel_rfl) (by kernel_rfl) (by kernel_rfl) (by kernel_rfl) (by kernel_rfl)
theorem dig_i : ∀ n : Fin 10, intF [.str (toString (n.val : Int))] = some (.int (n.val : Int)) := fin10 (by kernel_rfl) (by kernel_rfl) (by kernel_rfl) (by kernel_rfl) (by kernel_rfl) (by kernel_rfl) (by kernel_rfl) (by kernel_rfl) (by kernel_rfl) (by kernel_rfl)
end Rn
end

section
set_option Elab.async false
set_option linter.all false
set_option maxRecDepth 100000
set_option maxHeartbeats 4000000
/-! NetB: the tree of ways, pure. -/
namespace Rn
open PySem PySem.Spec L2
abbrev Way := List (Nat × Nat)
abbrev Nd := Nat × Way
abbrev Rows := List (List Arc)
def openB (first : Nat) (n : Nd) (s : Src) : Bool := match evOf s with
  | some j => decide (first < j) && (!(n.2.map (·.1)).contains j && !decide (j = n.1))
  | none => false
def closes (rows : Rows) (first : Nat) (n : Nd) : List Way := ((rows.getD n.1 []).zipIdx.filter fun p => decide (evOf p.1.1 = some first)).map fun p => n.2 ++ [(n.1, p.2)]
def opens (rows : Rows) (first : Nat) (n : Nd) : List Nd := ((rows.getD n.1 []).zipIdx.filter fun p => openB first n p.1.1).map fun p => ((evOf p.1.1).getD 0, n.2 ++ [(n.1, p.2)])
def tree (rows : Rows) (first : Nat) : Nat → Nd → List Way
  | 0, n => closes rows first n
  | k + 1, n => closes rows first n ++ (opens rows first n).flatMap (tree rows first k)
/-- sources are events of the net -/
def SrcOk (rows : Rows) : Prop := ∀ row ∈ rows, ∀ a ∈ row, ∀ j, evOf a.1 = some j → j < rows.length
def cands (rows : Rows) (first : Nat) (n : Nd) : List Nat := (List.range rows.length).filter fun j => decide (first < j) && (!(n.2.map (·.1)).contains j && !decide (j = n.1))
theorem getD_memR {rows : Rows} {i : Nat} {a : Arc} (h : a ∈ rows.getD i []) : ∃ row ∈ rows, a ∈ row := by
  rw [List.getD_eq_getElem?_getD] at h
  cases q : rows[i]? with
  | none => rw [q] at h; simp at h
  | some r => rw [q] at h; exact ⟨r, List.mem_of_getElem? q, h⟩
theorem open_mem {rows : Rows} {first : Nat} {n m : Nd} (hs : SrcOk rows) (h : m ∈ opens rows first n) : m.1 ∈ cands rows first n ∧ ∃ p, m.2 = n.2 ++ [(n.1, p)] := by
  unfold opens at h
  obtain ⟨⟨a, p⟩, hp, rfl⟩ := List.mem_map.mp h
  obtain ⟨h1, h2⟩ := List.mem_filter.mp hp
  have ha : a ∈ rows.getD n.1 [] := by
    have := List.mem_zipIdx' h1
    rw [this.2]
    exact List.getElem_mem _
  obtain ⟨row, hr, har⟩ := getD_memR ha
  refine ⟨?_, p, rfl⟩
  unfold openB at h2
  cases q : evOf a.1 with
  | none => simp only [q] at h2; cases h2
  | some j =>
    simp only [q] at h2
    have := hs row hr a har j q
    simp only [q, Option.getD_some]
    exact List.mem_filter.mpr ⟨List.mem_range.mpr this, h2⟩
theorem filter_lt {α : Type} {p q : α → Bool} : ∀ {xs : List α} {x : α}, (∀ y, q y = true → p y = true) → x ∈ xs → p x = true → q x = false → (xs.filter q).length < (xs.filter p).length
  | [], x, _, h, _, _ => by simp at h
  | y :: ys, x, hi, h, hp, hq => by
    have le : ∀ zs : List α, (zs.filter q).length ≤ (zs.filter p).length := fun zs => by
      induction zs with
      | nil => exact Nat.le_refl _
      | cons z zs ih =>
        by_cases c : q z = true
        · rw [List.filter_cons_of_pos c, List.filter_cons_of_pos (hi z c), List.length_cons, List.length_cons]; omega
        · rw [List.filter_cons_of_neg c]
          by_cases c2 : p z = true
          · rw [List.filter_cons_of_pos c2, List.length_cons]; omega
          · rw [List.filter_cons_of_neg c2]; exact ih
    rcases List.mem_cons.mp h with rfl | h
    · rw [List.filter_cons_of_pos hp, List.filter_cons_of_neg (by rw [hq]; decide), List.length_cons]
      have := le ys
      omega
    · have ih := filter_lt hi h hp hq
      by_cases c : q y = true
      · rw [List.filter_cons_of_pos c, List.filter_cons_of_pos (hi y c), List.length_cons, List.length_cons]; omega
      · rw [List.filter_cons_of_neg c]
        by_cases c2 : p y = true
        · rw [List.filter_cons_of_pos c2, List.length_cons]; omega
        · rw [List.filter_cons_of_neg c2]; exact ih
theorem open_less {rows : Rows} {first : Nat} {n m : Nd} (hs : SrcOk rows) (h : m ∈ opens rows first n) : (cands rows first m).length < (cands rows first n).length := by
  obtain ⟨h1, p, h2⟩ := open_mem hs h
  unfold cands at h1 ⊢
  obtain ⟨h3, h4⟩ := List.mem_filter.mp h1
  refine filter_lt (x := m.1) (fun y hy => ?_) h3 h4 ?_
  · rw [h2] at hy
    simp only [Bool.and_eq_true, decide_eq_true_eq, Bool.not_eq_true', List.map_append, List.map_cons, List.map_nil, List.contains_eq_mem, List.mem_append, List.mem_singleton, decide_eq_false_iff_not, not_or] at hy ⊢
    exact ⟨hy.1, hy.2.1.1, hy.2.1.2⟩
  · simp
theorem cands_le (rows : Rows) (first : Nat) (n : Nd) : (cands rows first n).length ≤ rows.length := by
  unfold cands
  have := List.length_filter_le (fun j => decide (first < j) && (!(n.2.map (·.1)).contains j && !decide (j = n.1))) (List.range rows.length)
  simpa using this
theorem no_open {rows : Rows} {first : Nat} {n : Nd} (hs : SrcOk rows) (h : (cands rows first n).length = 0) : opens rows first n = [] := by
  cases q : opens rows first n with
  | nil => rfl
  | cons m ms =>
    have := open_less hs (show m ∈ opens rows first n by rw [q]; exact List.mem_cons_self ..)
    omega
theorem tree_more {rows : Rows} {first : Nat} (hs : SrcOk rows) : ∀ (k : Nat) (n : Nd), (cands rows first n).length ≤ k → tree rows first (k + 1) n = tree rows first k n
  | 0, n, h => by
    show closes rows first n ++ (opens rows first n).flatMap _ = closes rows first n
    rw [no_open hs (by omega)]
    simp
  | k + 1, n, h => by
    show closes rows first n ++ (opens rows first n).flatMap (tree rows first (k + 1)) = closes rows first n ++ (opens rows first n).flatMap (tree rows first k)
    congr 1
    unfold List.flatMap
    congr 1
    refine List.map_congr_left fun m hm => tree_more hs k m ?_
    have := open_less hs hm
    omega
def Tr (rows : Rows) (first : Nat) (n : Nd) : List Way := tree rows first rows.length n
theorem Tr_eq {rows : Rows} (first : Nat) (hs : SrcOk rows) (n : Nd) : Tr rows first n = closes rows first n ++ (opens rows first n).flatMap (Tr rows first) := by
  have := tree_more (first := first) hs rows.length n (cands_le rows first n)
  unfold Tr
  rw [← this]
  rfl
/-! ### how many -/
def size (rows : Rows) (first : Nat) : Nat → Nd → Nat
  | 0, _ => 1
  | k + 1, n => 1 + ((opens rows first n).map (size rows first k)).sum
theorem size_more {rows : Rows} {first : Nat} (hs : SrcOk rows) : ∀ (k : Nat) (n : Nd), (cands rows first n).length ≤ k → size rows first (k + 1) n = size rows first k n
  | 0, n, h => by
    show 1 + ((opens rows first n).map _).sum = 1
    rw [no_open hs (by omega)]
    rfl
  | k + 1, n, h => by
    show 1 + ((opens rows first n).map (size rows first (k + 1))).sum = 1 + ((opens rows first n).map (size rows first k)).sum
    congr 2
    refine List.map_congr_left fun m hm => size_more hs k m ?_
    have := open_less hs hm
    omega
def Sz (rows : Rows) (first : Nat) (n : Nd) : Nat := size rows first rows.length n
theorem Sz_eq {rows : Rows} (first : Nat) (hs : SrcOk rows) (n : Nd) : Sz rows first n = 1 + ((opens rows first n).map (Sz rows first)).sum := by
  have := size_more (first := first) hs rows.length n (cands_le rows first n)
  unfold Sz
  rw [← this]
  rfl
/-- bound of the sizes, with at most a arcs in a row -/
def bnd' (a : Nat) : Nat → Nat
  | 0 => 1
  | k + 1 => 1 + a * bnd' a k
theorem sum_le {α : Type} {f : α → Nat} {b : Nat} : ∀ {xs : List α}, (∀ x ∈ xs, f x ≤ b) → (xs.map f).sum ≤ xs.length * b
  | [], _ => by simp
  | x :: xs, h => by
    have h1 := h x (List.mem_cons_self ..)
    have h2 := sum_le (f := f) (b := b) (xs := xs) fun y hy => h y (List.mem_cons_of_mem _ hy)
    rw [List.map_cons, List.sum_cons, List.length_cons, Nat.succ_mul]
    omega
theorem opens_len {rows : Rows} {first a : Nat} (ha : ∀ r ∈ rows, r.length ≤ a) (n : Nd) : (opens rows first n).length ≤ a := by
  unfold opens
  rw [List.length_map]
  refine Nat.le_trans (List.length_filter_le _ _) ?_
  rw [List.length_zipIdx, List.getD_eq_getElem?_getD]
  cases q : rows[n.1]? with
  | none => simp
  | some r => exact ha r (List.mem_of_getElem? q)
theorem closes_len {rows : Rows} {first a : Nat} (ha : ∀ r ∈ rows, r.length ≤ a) (n : Nd) : (closes rows first n).length ≤ a := by
  unfold closes
  rw [List.length_map]
  refine Nat.le_trans (List.length_filter_le _ _) ?_
  rw [List.length_zipIdx, List.getD_eq_getElem?_getD]
  cases q : rows[n.1]? with
  | none => simp
  | some r => exact ha r (List.mem_of_getElem? q)
theorem size_le {rows : Rows} {first a : Nat} (ha : ∀ r ∈ rows, r.length ≤ a) : ∀ (k : Nat) (n : Nd), size rows first k n ≤ bnd' a k
  | 0, _ => Nat.le_refl _
  | k + 1, n => by
    show 1 + ((opens rows first n).map (size rows first k)).sum ≤ 1 + a * bnd' a k
    have h1 := sum_le (f := size rows first k) (b := bnd' a k) (xs := opens rows first n) fun m _ => size_le ha k m
    have h2 := opens_len (first := first) ha n
    have h3 : (opens rows first n).length * bnd' a k ≤ a * bnd' a k := Nat.mul_le_mul_right _ h2
    omega
theorem flat_len {α β : Type} {f : α → List β} {g : α → Nat} {c : Nat} : ∀ {xs : List α}, (∀ x ∈ xs, (f x).length ≤ c * g x) → (xs.flatMap f).length ≤ c * (xs.map g).sum
  | [], _ => by simp
  | x :: xs, h => by
    have h1 := h x (List.mem_cons_self ..)
    have h2 := flat_len (f := f) (g := g) (c := c) (xs := xs) fun y hy => h y (List.mem_cons_of_mem _ hy)
    rw [List.flatMap_cons, List.length_append, List.map_cons, List.sum_cons, Nat.mul_add]
    omega
theorem tree_len {rows : Rows} {first a : Nat} (ha : ∀ r ∈ rows, r.length ≤ a) : ∀ (k : Nat) (n : Nd), (tree rows first k n).length ≤ a * size rows first k n
  | 0, n => by
    have := closes_len (first := first) ha n
    show (closes rows first n).length ≤ a * 1
    omega
  | k + 1, n => by
    have h1 := closes_len (first := first) ha n
    have h2 := flat_len (f := tree rows first k) (g := size rows first k) (c := a) (xs := opens rows first n) fun m _ => tree_len ha k m
    show (closes rows first n ++ (opens rows first n).flatMap (tree rows first k)).length ≤ a * (1 + ((opens rows first n).map (size rows first k)).sum)
    rw [List.length_append, Nat.mul_add]
    omega
end Rn
end

section
set_option Elab.async false
set_option linter.all false
set_option maxRecDepth 100000
set_option maxHeartbeats 4000000
/-! NetC: rings_from. -/
namespace Rn
open PySem PySem.Spec L2
theorem in_good {k : Nat} {α : Type} [DecidableEq α] {e : α → D} (g : Good k e) (hk : k ≤ 63) (neg : Bool) (x : α) (xs : List α) : inAF neg (e x) (.list (xs.map e)) = some (.bool (if neg then !decide (x ∈ xs) else decide (x ∈ xs))) := by
  show inF neg (e x) (.list (xs.map e)) = _
  unfold inF
  simp only [seqD]
  have ok : inOk (e x) (xs.map e) = true := by
    unfold inOk
    rw [g.plain, g.plainAll]
    have := g.depth x
    simp only [Bool.true_and, decide_eq_true_eq]
    omega
  rw [if_pos ok]
  have an : (xs.map e).any (fun z => PyData.eqv z (e x)) = decide (x ∈ xs) := by
    induction xs with
    | nil => simp
    | cons y ys ih =>
      have ok2 : inOk (e x) (ys.map e) = true := by
        unfold inOk
        rw [g.plain, g.plainAll]
        have := g.depth x
        simp only [Bool.true_and, decide_eq_true_eq]
        omega
      rw [List.map_cons, List.any_cons, ih ok2, g.eqv]
      by_cases h : y = x
      · subst h; simp
      · simp [h, Ne.symm h, eq_comm]
  rw [an]
theorem pop_ok {i : Nat} {ρ r2 : Rho} {ds : List D} {d : D} (h : cellD ρ[i]? = some (.list (ds ++ [d]))) (hp : putCell ρ i (.list ds) = some r2) : mPop i ρ = .ok d r2 := by
  unfold mPop
  rw [h]
  simp only [List.length_append, List.length_singleton, Nat.add_sub_cancel]
  rw [List.getElem?_append_right (Nat.le_refl _), Nat.sub_self, List.getElem?_cons_zero]
  simp only [List.dropLast_concat, hp]
theorem enumN {α : Type} (e : α → D) : ∀ (xs : List α) (n : Nat), enumD n (xs.map e) = (xs.zipIdx n).map fun p => .tuple [.int (p.2 : Nat), e p.1]
  | [], _ => rfl
  | x :: xs, n => by simp [enumD, enumN e xs (n + 1), List.zipIdx_cons]
theorem enum_ok {α : Type} {e : α → D} {xs : List α} {f : M (List D)} {ρ r : Rho} {d : D} (h : f ρ = .ok [d] r) (hd : seqD d = some (xs.map e)) : mEnum f ρ = .ok (xs.zipIdx.map fun p => .tuple [.int (p.2 : Nat), e p.1]) r := by
  rw [ev_enm, ev_bnd, h]
  simp only [hd, Option.map_some, enumN]
  rfl
theorem wp_app {f : M D} {i : Nat} {Q : Rho → Prop} {ρ r r2 : Rho} {d : D} {ds : List D} (h0 : cellD ρ[i]? = some (.list ds)) (he : f ρ = .ok d ρ) (hl : ds.length < 1000000) (hp : putCell ρ i (.list (ds ++ [d])) = some r2) (q : Q r2) : Wp (sAppend i f) Q ρ := wp_append h0 he h0 hl hp q
def evD (o : Option Nat) : D := oD (o.map fun k : Nat => (k : Int))
theorem ev_first (o : Option Nat) (f : Nat) : eqF (evD o) (.int (f : Int)) = some (.bool (decide (o = some f))) := by
  have := eqF_o (o.map fun k : Nat => (k : Int)) (some (f : Int))
  show eqF (oD _) (oD (some (f : Int))) = _
  rw [this]
  congr 2
  cases o with
  | none => rfl
  | some k =>
    by_cases h : k = f
    · subst h; simp
    · have h2 : ¬ ((k : Int) = (f : Int)) := by omega
      simp [h, h2]
theorem fm_pos {α β : Type} {p : α → Bool} {f : α → β} {xs : List α} {x : α} (h : p x = true) : ((xs ++ [x]).filter p).map f = (xs.filter p).map f ++ [f x] := by
  rw [List.filter_append, List.map_append, List.filter_cons_of_pos h]
  rfl
theorem fm_neg {α β : Type} {p : α → Bool} {f : α → β} {xs : List α} {x : α} (h : p x = false) : ((xs ++ [x]).filter p).map f = (xs.filter p).map f := by
  rw [List.filter_append, List.map_append, List.filter_cons_of_neg (by rw [h]; decide)]
  simp
def pairD (p : Nat × Nat) : D := .tuple [.int (p.1 : Nat), .int (p.2 : Nat)]
theorem good_pair : Good 1 pairD := good_nat.pair good_nat
def wayL (w : Way) : D := .list (w.map pairD)
theorem good_wayL : Good 2 wayL := good_pair.list
def ndD (n : Nd) : D := .tuple [.int (n.1 : Nat), wayL n.2]
theorem good_nd : Good 3 ndD := (good_nat.mono (show 0 ≤ 2 by decide)).pair good_wayL
theorem way_add (w : Way) (e p : Nat) (h : w.length ≤ 900) : addF (wayL w) (.list [.tuple [.int (e : Nat), .int (p : Nat)]]) = some (wayL (w ++ [(e, p)])) := by
  have := add_ll (w.map pairD) [.tuple [.int (e : Nat), .int (p : Nat)]] (by rw [List.length_map, List.length_singleton]; omega)
  show addF (.list (w.map pairD)) _ = _
  rw [this]
  show some (PyData.list _) = some (PyData.list ((w ++ [(e, p)]).map pairD))
  rw [List.map_append]
  rfl
abbrev rF (rows : Rows) (first : Nat) (found : List Way) (wait : List Nd) (x4 x5 x6 x7 x8 x9 x10 : Cell) : Rho := [.fz (rowsD rows), .fz (.int (first : Nat)), .ow (.list (found.map wayL)), .ow (.list (wait.map ndD)), x4, x5, x6, x7, x8, x9, x10]
/-- what the arcs passed so far have given -/
def closeP (first : Nat) (n : Nd) (ps : List (Arc × Nat)) : List Way := (ps.filter fun p => decide (evOf p.1.1 = some first)).map fun p => n.2 ++ [(n.1, p.2)]
def openP (first : Nat) (n : Nd) (ps : List (Arc × Nat)) : List Nd := (ps.filter fun p => openB first n p.1.1).map fun p => ((evOf p.1.1).getD 0, n.2 ++ [(n.1, p.2)])
theorem closeP_len (first : Nat) (n : Nd) (ps : List (Arc × Nat)) : (closeP first n ps).length ≤ ps.length := by
  unfold closeP
  rw [List.length_map]
  exact List.length_filter_le _ _
theorem openP_len (first : Nat) (n : Nd) (ps : List (Arc × Nat)) : (openP first n ps).length ≤ ps.length := by
  unfold openP
  rw [List.length_map]
  exact List.length_filter_le _ _
abbrev passD (w : Way) : D := .list ((w.map (·.1)).map fun n : Nat => PyData.int (n : Int))
theorem arc_turn {rows : Rows} {first : Nat} {found : List Way} {wait : List Nd} {n : Nd} {ps : List (Arc × Nat)} {a : Arc} {pl : Nat} {x9 x10 : Cell} (hw : n.2.length ≤ 900) (hf : found.length + ps.length < 900000) (hq : wait.length + ps.length < 900000) :
    Wp l1_rings_from (fun r => ∃ y9, r = rF rows first (found ++ closeP first n (ps ++ [(a, pl)])) (wait ++ openP first n (ps ++ [(a, pl)])) (.fz (.int (n.1 : Nat))) (.fz (wayL n.2)) (.fz (passD n.2)) (.fz (.int (pl : Nat))) (.fz (arcD a)) y9 x10)
      (rF rows first (found ++ closeP first n ps) (wait ++ openP first n ps) (.fz (.int (n.1 : Nat))) (.fz (wayL n.2)) (.fz (passD n.2)) (.fz (.int (pl : Nat))) (.fz (arcD a)) x9 x10) := by
  have hc := closeP_len first n ps
  have ho := openP_len first n ps
  have wa := way_add n.2 n.1 pl hw
  obtain ⟨s, dl, bk⟩ := a
  have we : g_event_of [srcD s] = .ok (evD (evOf s)) := w_event s
  refine wp_seq (wp_set (d := evD (evOf s)) (r := rF rows first (found ++ closeP first n ps) (wait ++ openP first n ps) (.fz (.int (n.1 : Nat))) (.fz (wayL n.2)) (.fz (passD n.2)) (.fz (.int (pl : Nat))) (.fz (arcD (s, dl, bk))) x9 x10) (call_ok rfl we) rfl ?_)
  refine wp_if (b := decide (evOf s = some first)) (r := rF rows first (found ++ closeP first n ps) (wait ++ openP first n ps) (.fz (.int (n.1 : Nat))) (.fz (wayL n.2)) (.fz (passD n.2)) (.fz (.int (pl : Nat))) (.fz (arcD (s, dl, bk))) (.fz (evD (evOf s))) x10) (tst_ok (op_ok rfl rfl rfl rfl (ev_first _ _))) (fun z => ?_) (fun z => ?_)
  · have z' := of_decide_eq_true z
    have e1 : closeP first n (ps ++ [((s, dl, bk), pl)]) = closeP first n ps ++ [n.2 ++ [(n.1, pl)]] := fm_pos (p := fun p : Arc × Nat => decide (evOf p.1.1 = some first)) z
    have e2 : openP first n (ps ++ [((s, dl, bk), pl)]) = openP first n ps := by
      have : openB first n s = false := by
        unfold openB
        rw [z']
        simp
      exact fm_neg (p := fun p : Arc × Nat => openB first n p.1.1) this
    refine wp_app (r := []) (d := wayL (n.2 ++ [(n.1, pl)])) rfl (op_ok rfl (mT_ok rfl) rfl rfl wa) (by simp; omega) rfl ⟨.fz (evD (evOf s)), ?_⟩
    rw [e1, e2, ← List.append_assoc]
    show _ = rF rows first ((found ++ closeP first n ps) ++ [n.2 ++ [(n.1, pl)]]) _ _ _ _ _ _ _ _
    unfold rF
    rw [List.map_append (l₁ := found ++ closeP first n ps)]
    rfl
  · have e1 : closeP first n (ps ++ [((s, dl, bk), pl)]) = closeP first n ps := fm_neg (p := fun p : Arc × Nat => decide (evOf p.1.1 = some first)) z
    cases hs : evOf s with
    | none =>
      have e2 : openP first n (ps ++ [((s, dl, bk), pl)]) = openP first n ps := by
        have : openB first n s = false := by
          unfold openB
          rw [hs]
        exact fm_neg (p := fun p : Arc × Nat => openB first n p.1.1) this
      rw [e1, e2]
      exact wp_not (and_f (tst_ok (op_ok rfl (mT_ok rfl) rfl rfl rfl))) ⟨_, rfl⟩
    | some j =>
      have gt : gtF (.int (j : Int)) (.int (first : Int)) = some (.bool (decide (first < j))) := by
        unfold gtF
        rw [ev_cmp]
        congr 2
        rw [Bool.eq_iff_iff, decide_eq_true_iff, decide_eq_true_iff]
        omega
      have ins := in_good good_nat (by decide) true j (n.2.map (·.1))
      have ne : neF (.int (j : Int)) (.int (n.1 : Int)) = some (.bool (!decide (j = n.1))) := good_nat.neF j n.1
      have ob : openB first n s = (decide (first < j) && (!decide (j ∈ n.2.map (·.1)) && !decide (j = n.1))) := by
        unfold openB
        rw [hs]
        simp only [List.contains_eq_mem]
      have tst : mAnd (mTst (mOp (isF true) (mVarT 9) (mT (ret .none)))) (mAnd (mTst (mOp gtF (mVarT 9) (mVarT 1))) (mAnd (mTst (mOp (inAF true) (mVarT 9) (mVarT 6))) (mTst (mOp neF (mVarT 9) (mVarT 4))))) (rF rows first (found ++ closeP first n ps) (wait ++ openP first n ps) (.fz (.int (n.1 : Nat))) (.fz (wayL n.2)) (.fz (passD n.2)) (.fz (.int (pl : Nat))) (.fz (arcD (s, dl, bk))) (.fz (evD (some j))) x10) = .ok (openB first n s) (rF rows first (found ++ closeP first n ps) (wait ++ openP first n ps) (.fz (.int (n.1 : Nat))) (.fz (wayL n.2)) (.fz (passD n.2)) (.fz (.int (pl : Nat))) (.fz (arcD (s, dl, bk))) (.fz (evD (some j))) x10) := by
        rw [ob]
        exact and_t (tst_ok (op_ok rfl (mT_ok rfl) rfl rfl rfl)) (and_ok (tst_ok (op_ok rfl rfl rfl rfl gt)) (fun _ => and_ok (tst_ok (op_ok rfl rfl rfl rfl ins)) (fun _ => tst_ok (op_ok rfl rfl rfl rfl ne))))
      refine wp_if tst (fun y => ?_) (fun y => ?_)
      · have e2 : openP first n (ps ++ [((s, dl, bk), pl)]) = openP first n ps ++ [(j, n.2 ++ [(n.1, pl)])] := by
          have := fm_pos (p := fun p : Arc × Nat => openB first n p.1.1) (f := fun p : Arc × Nat => ((evOf p.1.1).getD 0, n.2 ++ [(n.1, p.2)])) (xs := ps) (x := ((s, dl, bk), pl)) y
          simp only [hs, Option.getD_some] at this
          exact this
        refine wp_app (r := []) (d := ndD (j, n.2 ++ [(n.1, pl)])) rfl (tup_ok (cons_ok rfl (cons_ok (op_ok rfl (mT_ok rfl) rfl rfl wa) rfl)) (show (2 : Nat) ≤ 100 by decide)) (by simp; omega) rfl ⟨.fz (evD (some j)), ?_⟩
        rw [e1, e2, ← List.append_assoc]
        unfold rF
        rw [List.map_append (l₁ := wait ++ openP first n ps)]
        rfl
      · have e2 : openP first n (ps ++ [((s, dl, bk), pl)]) = openP first n ps := fm_neg (p := fun p : Arc × Nat => openB first n p.1.1) y
        rw [e1, e2]
        exact wp_next ⟨_, rfl⟩
end Rn
end

section
set_option Elab.async false
set_option linter.all false
set_option maxRecDepth 100000
set_option maxHeartbeats 4000000
/-! NetD: rings_from walks the whole tree. -/
namespace Rn
open PySem PySem.Spec L2
/-- rows that can be walked: few arcs, sources within -/
structure RowsOk (rows : Rows) (a : Nat) : Prop where
  src : SrcOk rows
  few : ∀ r ∈ rows, r.length ≤ a
  sml : a * bnd' a rows.length + bnd' a rows.length + a ≤ 799999
  len : rows.length ≤ 9
def NdOk (rows : Rows) (first : Nat) (n : Nd) : Prop := n.1 < rows.length ∧ n.2.length + (cands rows first n).length ≤ rows.length
theorem NdOk.next {rows : Rows} {first : Nat} {n m : Nd} (hs : SrcOk rows) (h : NdOk rows first n) (hm : m ∈ opens rows first n) : NdOk rows first m := by
  have h1 := open_less hs hm
  obtain ⟨h2, p, h3⟩ := open_mem hs hm
  have h4 := (List.mem_filter.mp h2).1
  refine ⟨List.mem_range.mp h4, ?_⟩
  rw [h3, List.length_append, List.length_singleton]
  have := h.2
  omega
theorem rows_at {rows : Rows} {i : Nat} (h : i < rows.length) : ixF (rowsD rows) (.int (i : Int)) = some (rowD (rows.getD i [])) := by
  have := atMap rowD rows (i := (i : Int)) (n := i) rfl h
  show atI (rows.map rowD) (i : Int) = _
  rw [this, List.getD_eq_getElem?_getD, List.getElem?_eq_getElem h]
  rfl
theorem sum_ge {α : Type} {f : α → Nat} : ∀ {xs : List α}, (∀ x ∈ xs, 1 ≤ f x) → xs.length ≤ (xs.map f).sum
  | [], _ => by simp
  | x :: xs, h => by
    have h1 := h x (List.mem_cons_self ..)
    have h2 := sum_ge (f := f) (xs := xs) fun y hy => h y (List.mem_cons_of_mem _ hy)
    rw [List.map_cons, List.sum_cons, List.length_cons]
    omega
theorem Sz_pos (rows : Rows) (first : Nat) (n : Nd) : 1 ≤ Sz rows first n := by
  unfold Sz
  cases rows.length with
  | zero => exact Nat.le_refl _
  | succ k =>
    show 1 ≤ 1 + _
    omega
theorem perm_step {α : Type} (A B C E : List α) : (A ++ (C ++ (B ++ E))).Perm (A ++ (B ++ (C ++ E))) := by
  refine List.Perm.append_left A ?_
  rw [← List.append_assoc, ← List.append_assoc]
  exact List.Perm.append_right E List.perm_append_comm
theorem node_turn {rows : Rows} {a first : Nat} (ok : RowsOk rows a) {found : List Way} {wait : List Nd} {n : Nd} (hn : NdOk rows first n) (hf : found.length < 800000) (hq : wait.length < 800000) {x4 x5 x6 x7 x8 x9 : Cell} :
    Wp l3_rings_from (fun r => ∃ y4 y5 y6 y7 y8 y9, r = rF rows first (found ++ closes rows first n) (wait ++ opens rows first n) y4 y5 y6 y7 y8 y9 .no)
      (rF rows first found (wait ++ [n]) x4 x5 x6 x7 x8 x9 .no) := by
  have hlen := ok.len
  have hn1 := hn.1
  have hn2 := hn.2
  have hrl : (rows.getD n.1 []).length ≤ 800000 := by
    have h1 := ok.sml
    rw [List.getD_eq_getElem?_getD, List.getElem?_eq_getElem hn1]
    have := ok.few _ (List.getElem_mem hn1)
    exact Nat.le_trans this (by omega)
  have ha : (rows.getD n.1 []).length ≤ 100000 ∨ 100000 ≤ a := by
    by_cases h : a ≤ 100000
    · left
      rw [List.getD_eq_getElem?_getD, List.getElem?_eq_getElem hn1]
      exact Nat.le_trans (ok.few _ (List.getElem_mem hn1)) h
    · right; omega
  have ha2 : (rows.getD n.1 []).length ≤ 100000 := by
    rcases ha with h | h
    · exact h
    · exfalso
      have h1 := ok.sml
      have h2 : 1 ≤ bnd' a rows.length := by
        cases rows.length with
        | zero => exact Nat.le_refl _
        | succ k => show 1 ≤ 1 + _; omega
      obtain ⟨l, hl⟩ : ∃ l, rows.length = l + 1 := ⟨rows.length - 1, by omega⟩
      rw [hl] at h1
      have h3 : a ≤ bnd' a (l + 1) := by
        show a ≤ 1 + a * bnd' a l
        have : 1 ≤ bnd' a l := by
          cases l with
          | zero => exact Nat.le_refl _
          | succ k => show 1 ≤ 1 + _; omega
        have := Nat.le_mul_of_pos_right a this
        omega
      have h4 : a * a ≤ a * bnd' a (l + 1) := Nat.mul_le_mul_left a h3
      have h5 : 100000 * 100000 ≤ a * a := Nat.mul_le_mul h h
      omega
  refine wp_seq (wp_set (d := ndD n) (r := rF rows first found wait x4 x5 x6 x7 x8 x9 .no) (pop_ok (ds := wait.map ndD) ?_ rfl) rfl ?_)
  · show some (PyData.list ((wait ++ [n]).map ndD)) = _
    rw [List.map_append]
    rfl
  have ep : mLc (mSeqI (mVar 5)) (hTup 2 (hCons (hName 10) (hCons (hName 7) (hNil)))) (mYes) (e0_rings_from) [10, 7] (rF rows first found wait (.fz (.int (n.1 : Nat))) (.fz (wayL n.2)) x6 x7 x8 x9 .no) = .ok (passD n.2) (rF rows first found wait (.fz (.int (n.1 : Nat))) (.fz (wayL n.2)) x6 x7 x8 x9 .no) := by
    unfold passD
    rw [List.map_map]
    exact mlc_map0 n.2 pairD (fun p : Nat × Nat => PyData.int (p.1 : Int)) (seqL_ok rfl) (by simp [big]; omega) rfl (fun p hp => ⟨_, rfl, rfl, rfl⟩)
  refine wp_seq (wp_set (d := passD n.2) ep rfl ?_)
  refine wp_for (fun p : Arc × Nat => PyData.tuple [.int (p.2 : Nat), arcD p.1]) (rows.getD n.1 []).zipIdx (fun ps r => ∃ y7 y8 y9, r = rF rows first (found ++ closeP first n ps) (wait ++ openP first n ps) (.fz (.int (n.1 : Nat))) (.fz (wayL n.2)) (.fz (passD n.2)) y7 y8 y9 .no) (ρ0 := rF rows first found wait (.fz (.int (n.1 : Nat))) (.fz (wayL n.2)) (.fz (passD n.2)) x7 x8 x9 .no) ?_ ?_ ?_ ?_
  · exact enum_ok (d := rowD (rows.getD n.1 [])) (cons_ok (op_ok rfl rfl rfl rfl (rows_at hn1)) rfl) rfl
  · refine ⟨x7, x8, x9, ?_⟩
    show _ = rF rows first (found ++ []) (wait ++ []) _ _ _ _ _ _ _
    rw [List.append_nil, List.append_nil]
  · rintro ps ⟨arc, pl⟩ post ex r ⟨y7, y8, y9, rfl⟩
    refine ⟨rF rows first (found ++ closeP first n ps) (wait ++ openP first n ps) (.fz (.int (n.1 : Nat))) (.fz (wayL n.2)) (.fz (passD n.2)) (.fz (.int (pl : Nat))) (.fz (arcD arc)) y9 .no, rfl, ?_⟩
    have hl : ps.length ≤ (rows.getD n.1 []).length := by
      have := congrArg List.length ex
      rw [List.length_zipIdx, List.length_append] at this
      omega
    obtain ⟨r2, e2, z, hr2⟩ := arc_turn (rows := rows) (first := first) (found := found) (wait := wait) (n := n) (ps := ps) (a := arc) (pl := pl) (x9 := y9) (x10 := .no) (by omega) (by omega) (by omega)
    exact ⟨r2, e2, _, _, z, hr2⟩
  · rintro r ⟨y7, y8, y9, rfl⟩
    exact ⟨_, _, _, y7, y8, y9, rfl⟩
theorem w_rings_from {rows : Rows} {a first : Nat} (ok : RowsOk rows a) (hfirst : first < rows.length) : ∃ found : List Way, found.Perm (Tr rows first (first, [])) ∧ g_rings_from [rowsD rows, .int (first : Nat)] = .ok (.list (found.map wayL)) := by
  have hsz : Sz rows first (first, []) ≤ bnd' a rows.length := size_le ok.few _ _
  have htl : (Tr rows first (first, [])).length ≤ a * Sz rows first (first, []) := tree_len ok.few _ _
  have hsml := ok.sml
  have hb1 : 1 ≤ bnd' a rows.length := Nat.le_trans (Sz_pos rows first (first, [])) hsz
  have hmul : a * Sz rows first (first, []) ≤ a * bnd' a rows.length := Nat.mul_le_mul_left a hsz
  generalize htot : Tr rows first (first, []) = total at htl ⊢
  have lp := wp_while (α := Unit) (c := c2_rings_from) (b := l3_rings_from) (n := 1000000) (Q := fun r => ∃ found y4 y5 y6 y7 y8 y9, found.Perm total ∧ r = rF rows first found [] y4 y5 y6 y7 y8 y9 .no) (ρ := rF rows first [] [(first, [])] .no .no .no .no .no .no .no)
    (fun k r => k ≤ bnd' a rows.length ∧ ∃ found wait y4 y5 y6 y7 y8 y9, (∀ n ∈ wait, NdOk rows first n) ∧ k = (wait.map (Sz rows first)).sum ∧ (found ++ wait.flatMap (Tr rows first)).Perm total ∧ r = rF rows first found wait y4 y5 y6 y7 y8 y9 .no)
    (Sz rows first (first, [])) (by omega) ⟨hsz, [], [(first, [])], .no, .no, .no, .no, .no, .no, ?_, ?_, ?_, rfl⟩ ?_
  · obtain ⟨r, e, found, y4, y5, y6, y7, y8, y9, hp, rfl⟩ := lp
    refine ⟨found, hp, ?_⟩
    unfold g_rings_from
    rw [call2 (m := 9)]
    unfold b_rings_from
    have s1 : sPar [true, true] [2, 3] (mCons (mLst (mNil)) (mCons (mLst (mCons (mTup (mCons (mVar 1) (mCons (mLst (mNil)) (mNil)))) (mNil))) (mNil))) [.fz (rowsD rows), .fz (.int (first : Nat)), .no, .no, .no, .no, .no, .no, .no, .no, .no] = .nx (rF rows first [] [(first, [])] .no .no .no .no .no .no .no) := par_ok rfl rfl
    exact fin_rt (seq_to s1 (seq_to e (ret_ok rfl)))
  · intro n hn
    rw [List.mem_singleton.mp hn]
    refine ⟨hfirst, ?_⟩
    have := cands_le rows first (first, [])
    simp
    exact this
  · simp
  · rw [← htot]
    simp
  · rintro k r ⟨hk, found, wait, y4, y5, y6, y7, y8, y9, hok, rfl, hperm, rfl⟩
    have ne := good_nd.list.neF wait []
    by_cases hw : wait = []
    · left
      rw [decide_eq_true hw] at ne
      refine ⟨_, tst_ok (op_ok rfl (mT_ok rfl) rfl rfl ne), found, y4, y5, y6, y7, y8, y9, ?_, ?_⟩
      · rw [hw] at hperm
        simpa using hperm
      · rw [hw]
    · right
      rw [decide_eq_false hw] at ne
      obtain ⟨init, n, hi⟩ : ∃ init n, wait = init ++ [n] := ⟨wait.dropLast, wait.getLast hw, (List.dropLast_concat_getLast hw).symm⟩
      have hlw := sum_ge (f := Sz rows first) (xs := wait) fun x _ => Sz_pos rows first x
      have hfl : found.length ≤ total.length := by
        have := hperm.length_eq
        rw [List.length_append] at this
        omega
      rw [hi] at hok hperm hlw hk ⊢
      refine ⟨_, tst_ok (op_ok rfl (mT_ok rfl) rfl rfl (by rw [hi] at ne; exact ne)), ?_⟩
      rw [List.length_append, List.length_singleton] at hlw
      obtain ⟨r2, e2, z4, z5, z6, z7, z8, z9, hr2⟩ := node_turn ok (found := found) (wait := init) (n := n) (hok n (by simp)) (by omega) (by omega) (x4 := y4) (x5 := y5) (x6 := y6) (x7 := y7) (x8 := y8) (x9 := y9)
      have hk' : (init ++ [n]).map (Sz rows first) = init.map (Sz rows first) ++ [Sz rows first n] := by simp
      have hs' : ((init ++ [n]).map (Sz rows first)).sum = (init.map (Sz rows first)).sum + (1 + ((opens rows first n).map (Sz rows first)).sum) := by
        rw [hk', List.sum_append, ← Sz_eq first ok.src n]
        simp
      have hs2 : ((init ++ opens rows first n).map (Sz rows first)).sum = (init.map (Sz rows first)).sum + ((opens rows first n).map (Sz rows first)).sum := by
        rw [List.map_append, List.sum_append]
      refine ⟨r2, e2, _, ?_, ?_, found ++ closes rows first n, init ++ opens rows first n, z4, z5, z6, z7, z8, z9, ?_, rfl, ?_, hr2⟩
      · rw [hs', hs2]
        omega
      · rw [hs2]
        rw [hs'] at hk
        omega
      · intro m hm
        rcases List.mem_append.mp hm with h | h
        · exact hok m (by simp [h])
        · exact (hok n (by simp)).next ok.src h
      · refine List.Perm.trans ?_ hperm
        rw [List.flatMap_append, List.flatMap_append, List.flatMap_singleton, Tr_eq first ok.src n]
        have := perm_step found (init.flatMap (Tr rows first)) (closes rows first n) ((opens rows first n).flatMap (Tr rows first))
        rw [List.append_assoc]
        exact this
end Rn
end

section
set_option Elab.async false
set_option linter.all false
set_option maxRecDepth 100000
set_option maxHeartbeats 4000000
/-! NetE: rings_of. -/
namespace Rn
open PySem PySem.Spec L2
def ringT (w : Way) : D := .tuple (w.map pairD)
theorem good_ring : Good 2 ringT := good_pair.tup
theorem alike_ways : ∀ w v : Way, PySem.W.alikeAll (w.map pairD) (v.map pairD) = true
  | [], _ => by simp [PySem.W.alikeAll]
  | _ :: _, [] => by simp [PySem.W.alikeAll]
  | (a, b) :: w, (c, d) :: v => by
    simp only [List.map_cons, PySem.W.alikeAll, Bool.and_eq_true]
    exact ⟨rfl, alike_ways w v⟩
theorem ways_alike (ws : List Way) : PySem.W.AllAlike (ws.map ringT) := fun x hx y hy => by
  obtain ⟨w, _, rfl⟩ := List.mem_map.mp hx
  obtain ⟨v, _, rfl⟩ := List.mem_map.mp hy
  exact alike_ways w v
theorem sort_perm {xs ys : List Way} (h : xs.Perm ys) : isort (xs.map ringT) = isort (ys.map ringT) :=
  isort_uniq (ways_alike ys) ((isort_perm (xs.map ringT)).trans (h.map ringT)) (isort_pw _)
theorem sort_ok {ws : List Way} (hn : ∀ w ∈ ws, w ≠ []) (hl : ws.length ≤ 1000000) : sortF [.list (ws.map ringT)] = some (.list (isort (ws.map ringT))) := by
  have ok : sortOk (ws.map ringT) = true := by
    unfold sortOk
    simp only [Bool.and_eq_true, Bool.or_eq_true, decide_eq_true_eq, List.length_map]
    refine ⟨⟨⟨⟨?_, .inl ?_⟩, good_ring.plainAll ws⟩, hl⟩, ?_⟩
    · rw [List.all_eq_true]
      intro x hx
      rw [List.all_eq_true]
      intro y hy
      obtain ⟨w, _, rfl⟩ := List.mem_map.mp hx
      obtain ⟨v, _, rfl⟩ := List.mem_map.mp hy
      exact alike_ways w v
    · rw [List.all_eq_true]
      intro x hx
      obtain ⟨w, hw, rfl⟩ := List.mem_map.mp hx
      cases w with
      | nil => exact absurd rfl (hn _ hw)
      | cons p w => rfl
    · rw [List.all_eq_true]
      intro x hx
      obtain ⟨w, hw, rfl⟩ := List.mem_map.mp hx
      have := good_ring.depth w
      exact decide_eq_true (by omega)
  show (if sortOk (ws.map ringT) = true then _ else _) = _
  rw [if_pos ok]
theorem tree_ne {rows : Rows} {first : Nat} : ∀ (k : Nat) (n : Nd), ∀ w ∈ tree rows first k n, w ≠ []
  | 0, n, w, h => by
    obtain ⟨p, _, rfl⟩ := List.mem_map.mp h
    simp
  | k + 1, n, w, h => by
    rcases List.mem_append.mp h with h | h
    · obtain ⟨p, _, rfl⟩ := List.mem_map.mp h
      simp
    · obtain ⟨m, _, hm⟩ := List.mem_flatMap.mp h
      exact tree_ne k m w hm
def allW (rows : Rows) (k : Nat) : List Way := (List.range k).flatMap fun f => Tr rows f (f, [])
theorem allW_ne {rows : Rows} {k : Nat} : ∀ w ∈ allW rows k, w ≠ [] := fun w h => by
  obtain ⟨f, _, h⟩ := List.mem_flatMap.mp h
  exact tree_ne _ _ w h
theorem allW_len {rows : Rows} {a : Nat} (ok : RowsOk rows a) (k : Nat) : (allW rows k).length ≤ k * (a * bnd' a rows.length) := by
  induction k with
  | zero => simp [allW]
  | succ k ih =>
    have h1 : allW rows (k + 1) = allW rows k ++ Tr rows k (k, []) := by
      unfold allW
      rw [List.range_succ, List.flatMap_append, List.flatMap_singleton]
    have h2 : (Tr rows k (k, [])).length ≤ a * Sz rows k (k, []) := tree_len ok.few _ _
    have h3 : Sz rows k (k, []) ≤ bnd' a rows.length := size_le ok.few _ _
    have h4 : a * Sz rows k (k, []) ≤ a * bnd' a rows.length := Nat.mul_le_mul_left a h3
    rw [h1, List.length_append, Nat.succ_mul]
    omega
/-- the rings, sorted -/
def RG (rows : Rows) : List D := isort ((allW rows rows.length).map ringT)
theorem w_rings_of {rows : Rows} {a : Nat} (ok : RowsOk rows a) (hs : rows.length * (a * bnd' a rows.length) ≤ 900000) : g_rings_of [rowsD rows] = .ok (.list (RG rows)) := by
  have hlen := ok.len
  have e0 : mRng1 (mCons (mCB lenF (mCons (mVarT 0) (mNil))) (mNil)) [.fz (rowsD rows), .fz (.list []), .no, .no] = .ok ((List.range rows.length).map fun k : Nat => PyData.int (0 + (k : Int))) [.fz (rowsD rows), .fz (.list []), .no, .no] := by
    refine rng1_n (n := rows.length) ?_ (by omega)
    have : lenF [rowsD rows] = some (.int (rows.length : Int)) := by
      show some (PyData.int ((rows.map rowD).length : Int)) = _
      rw [List.length_map]
    exact cons_ok (cb_ok (cons_ok rfl rfl) rfl this) rfl
  obtain ⟨r, e, ws, x2, hp, hr⟩ := for_inv (h := hName 2) (b := l1_rings_of) (fun k : Nat => PyData.int (0 + (k : Int))) (fun pre ρ => ∃ (ws : List Way) (x2 : Cell), ws.Perm (allW rows pre.length) ∧ ρ = [.fz (rowsD rows), .fz (.list (ws.map ringT)), x2, .no]) (List.range rows.length) (ρ0 := [.fz (rowsD rows), .fz (.list []), .no, .no]) ⟨[], .no, by simp [allW], rfl⟩ (fun pre f post ex ρ hI => by
      obtain ⟨ws, x2, hp, rfl⟩ := hI
      obtain ⟨hf, hfl⟩ := range_pos ex
      obtain ⟨found, hfp, hg⟩ := w_rings_from ok (first := f) (by omega)
      refine ⟨[.fz (rowsD rows), .fz (.list (ws.map ringT)), .fz (.int (f : Nat)), .no], [.fz (rowsD rows), .fz (.list ((ws ++ found).map ringT)), .fz (.int (f : Nat)), .no], ?_, .inl ?_, ws ++ found, _, ?_, rfl⟩
      · rw [show (0 : Int) + (f : Int) = ((f : Nat) : Int) by omega]
        rfl
      · have h1 : (allW rows (pre.length + 1)).length ≤ (pre.length + 1) * (a * bnd' a rows.length) := allW_len ok _
        have h2 : (pre.length + 1) * (a * bnd' a rows.length) ≤ rows.length * (a * bnd' a rows.length) := Nat.mul_le_mul_right _ (by omega)
        have h3 : allW rows (pre.length + 1) = allW rows pre.length ++ Tr rows pre.length (pre.length, []) := by
          unfold allW
          rw [List.range_succ, List.flatMap_append, List.flatMap_singleton]
        have h4 := hp.length_eq
        have h5 := hfp.length_eq
        rw [h3, List.length_append] at h1
        rw [hf] at h5
        have lc : mLc (mSeqI (mCall0 g_rings_from (mCons (mVar 0) (mCons (mVar 2) (mNil))))) (hName 3) (mYes) (e0_rings_of) [3] [.fz (rowsD rows), .fz (.list (ws.map ringT)), .fz (.int (f : Nat)), .no] = .ok (.list (found.map ringT)) [.fz (rowsD rows), .fz (.list (ws.map ringT)), .fz (.int (f : Nat)), .no] :=
          mlc_map0 found wayL ringT (seqL_ok (call_ok rfl hg)) (by simp only [big]; omega) rfl (fun w hw => ⟨_, rfl, cb_ok rfl rfl rfl, rfl⟩)
        have ad : addF (.list (ws.map ringT)) (.list (found.map ringT)) = some (.list ((ws ++ found).map ringT)) := by
          show (if (ws.map ringT).length + (found.map ringT).length ≤ big then _ else _) = _
          rw [if_pos (by rw [List.length_map, List.length_map]; simp only [big]; omega), List.map_append]
        exact asg_ok (op_ok rfl (mT_ok lc) rfl rfl ad) rfl
      · rw [List.length_append, List.length_singleton]
        have h3 : allW rows (pre.length + 1) = allW rows pre.length ++ Tr rows pre.length (pre.length, []) := by
          unfold allW
          rw [List.range_succ, List.flatMap_append, List.flatMap_singleton]
        rw [h3]
        rw [hf] at hfp
        exact hp.append hfp)
  rw [List.length_range] at hp
  have hl := allW_len ok rows.length
  have so := sort_ok (ws := ws) (fun w hw => allW_ne w (hp.mem_iff.mp hw)) (by rw [hp.length_eq]; omega)
  rw [sort_perm hp] at so
  unfold g_rings_of
  rw [call1 (m := 3)]
  unfold b_rings_of
  rw [hr] at e
  exact fin_rt (seq_to (asg_ok rfl rfl) (seq_to (for_ok e0 e) (ret_ok (cb_ok (cons_ok rfl rfl) rfl so))))
end Rn
end

section
set_option Elab.async false
set_option linter.all false
set_option maxRecDepth 100000
set_option maxHeartbeats 4000000
/-! NetF: the law's own rings, level by level. -/
namespace Rn
open PySem PySem.Spec L2
def nbD (n : Nd) : D := .tuple [ringT n.2, .int (n.1 : Nat)]
theorem good_nb : Good 3 nbD := by
  refine ⟨fun n => ?_, fun n => ?_, fun a b => ?_⟩
  · have := ((good_ring.pair (good_nat.mono (show 0 ≤ 2 by decide)))).plain (n.2, n.1)
    exact this
  · have := ((good_ring.pair (good_nat.mono (show 0 ≤ 2 by decide)))).depth (n.2, n.1)
    exact this
  · have := ((good_ring.pair (good_nat.mono (show 0 ≤ 2 by decide)))).eqv (a.2, a.1) (b.2, b.1)
    show PyData.eqv (nbD a) (nbD b) = _
    refine this.trans ?_
    obtain ⟨a1, a2⟩ := a
    obtain ⟨b1, b2⟩ := b
    by_cases h1 : a1 = b1 <;> by_cases h2 : a2 = b2 <;> simp [h1, h2]
theorem way_addT (w : Way) (e p : Nat) (h : w.length ≤ 900) : addF (ringT w) (.tuple [.tuple [.int (e : Nat), .int (p : Nat)]]) = some (ringT (w ++ [(e, p)])) := by
  have := add_tt (w.map pairD) [.tuple [.int (e : Nat), .int (p : Nat)]] (by rw [List.length_map, List.length_singleton]; omega)
  show addF (.tuple (w.map pairD)) _ = _
  rw [this]
  show some (PyData.tuple _) = some (PyData.tuple ((w ++ [(e, p)]).map pairD))
  rw [List.map_append]
  rfl
abbrev rB (net : D) (found : List Way) (first : Nat) (x3 : Cell) (x4 x5 x6 x7 x8 x9 x10 x11 : Cell) : Rho := [.fz net, .ow (.list (found.map ringT)), .fz (.int (first : Nat)), x3, x4, x5, x6, x7, x8, x9, x10, x11]
abbrev owN (ns : List Nd) : Cell := .ow (.list (ns.map nbD))
abbrev passT (n : Nd) : D := .list ((n.2.map (·.1) ++ [n.1]).map fun k : Nat => PyData.int (k : Int))
theorem ev_src (s : Src) (f : Fin 10) : decide (s = some (true, f)) = decide (evOf s = some f.val) := by
  rw [Bool.eq_iff_iff, decide_eq_true_iff, decide_eq_true_iff]
  rcases s with _ | ⟨_ | _, n⟩
  · simp [evOf]
  · simp [evOf]
  · simp only [evOf, Option.some.injEq, Prod.mk.injEq, true_and]
    exact ⟨fun h => by rw [h], fun h => Fin.ext h⟩
theorem arc_turnT {net : D} {first : Nat} (hf10 : first < 10) {found : List Way} {longer : List Nd} {n : Nd} {ps : List (Arc × Nat)} {a : Arc} {pl : Nat} {x3 x10 x11 : Cell} (hw : n.2.length ≤ 900) (hf : found.length + ps.length < 900000) (hq : longer.length + ps.length < 900000) :
    Wp l1__law_rings (fun r => r = rB net (found ++ closeP first n (ps ++ [(a, pl)])) first x3 (owN (longer ++ openP first n (ps ++ [(a, pl)]))) (.fz (ringT n.2)) (.fz (.int (n.1 : Nat))) (.fz (passT n)) (.fz (.int (pl : Nat))) (.fz (arcD a)) x10 x11)
      (rB net (found ++ closeP first n ps) first x3 (owN (longer ++ openP first n ps)) (.fz (ringT n.2)) (.fz (.int (n.1 : Nat))) (.fz (passT n)) (.fz (.int (pl : Nat))) (.fz (arcD a)) x10 x11) := by
  have hc := closeP_len first n ps
  have ho := openP_len first n ps
  have wa := way_addT n.2 n.1 pl hw
  obtain ⟨s, dl, bk⟩ := a
  have ds : strF [.int (first : Int)] = some (.str (toString (first : Int))) := dig_s ⟨first, hf10⟩
  have de : addF (.str "e") (.str (toString (first : Int))) = some (srcD (some (true, ⟨first, hf10⟩))) := dig_e ⟨first, hf10⟩
  have eq := good_src.eqF s (some (true, ⟨first, hf10⟩))
  rw [ev_src] at eq
  have eq : eqF (srcD s) (srcD (some (true, ⟨first, hf10⟩))) = some (.bool (decide (evOf s = some first))) := eq
  refine wp_if (b := decide (evOf s = some first)) (r := rB net (found ++ closeP first n ps) first x3 (owN (longer ++ openP first n ps)) (.fz (ringT n.2)) (.fz (.int (n.1 : Nat))) (.fz (passT n)) (.fz (.int (pl : Nat))) (.fz (arcD (s, dl, bk))) x10 x11) (tst_ok (op_ok (mT_ok (op_ok rfl (mT_ok rfl) rfl rfl rfl)) (mT_ok (op_ok (mT_ok rfl) (mT_ok (cb_ok (cons_ok rfl rfl) rfl ds)) rfl rfl de)) rfl rfl eq)) (fun z => ?_) (fun z => ?_)
  · have z' := of_decide_eq_true z
    have e1 : closeP first n (ps ++ [((s, dl, bk), pl)]) = closeP first n ps ++ [n.2 ++ [(n.1, pl)]] := fm_pos (p := fun p : Arc × Nat => decide (evOf p.1.1 = some first)) z
    have e2 : openP first n (ps ++ [((s, dl, bk), pl)]) = openP first n ps := by
      have : openB first n s = false := by
        unfold openB
        rw [z']
        simp
      exact fm_neg (p := fun p : Arc × Nat => openB first n p.1.1) this
    refine wp_app (r := []) (d := ringT (n.2 ++ [(n.1, pl)])) rfl (op_ok rfl (mT_ok rfl) rfl rfl wa) (by simp; omega) rfl ?_
    rw [e1, e2, ← List.append_assoc]
    unfold rB
    rw [List.map_append (l₁ := found ++ closeP first n ps)]
    rfl
  · have e1 : closeP first n (ps ++ [((s, dl, bk), pl)]) = closeP first n ps := fm_neg (p := fun p : Arc × Nat => decide (evOf p.1.1 = some first)) z
    have hd := src_head s
    have eh := eqF_s (srcH s) "e"
    rcases s with _ | ⟨_ | _, j⟩
    · have e2 : openP first n (ps ++ [((none, dl, bk), pl)]) = openP first n ps := fm_neg (p := fun p : Arc × Nat => openB first n p.1.1) (x := ((none, dl, bk), pl)) rfl
      rw [e1, e2]
      rw [decide_eq_false (show ¬ srcH none = "e" by decide)] at eh
      exact wp_not (and_f (tst_ok (op_ok (mT_ok (op_ok (mT_ok (op_ok rfl (mT_ok rfl) rfl rfl rfl)) (mT_ok rfl) rfl rfl hd)) (mT_ok rfl) rfl rfl eh))) rfl
    · have e2 : openP first n (ps ++ [((some (false, j), dl, bk), pl)]) = openP first n ps := fm_neg (p := fun p : Arc × Nat => openB first n p.1.1) (x := ((some (false, j), dl, bk), pl)) rfl
      rw [e1, e2]
      rw [decide_eq_false (show ¬ srcH (some (false, j)) = "e" by show ¬ (("u" : Str) = "e"); decide)] at eh
      exact wp_not (and_f (tst_ok (op_ok (mT_ok (op_ok (mT_ok (op_ok rfl (mT_ok rfl) rfl rfl rfl)) (mT_ok rfl) rfl rfl hd)) (mT_ok rfl) rfl rfl eh))) rfl
    · rw [decide_eq_true (show srcH (some (true, j)) = "e" from rfl)] at eh
      have tl := src_tail j
      have di := dig_i j
      have gt : gtF (.int (j.val : Int)) (.int (first : Int)) = some (.bool (decide (first < j.val))) := by
        unfold gtF
        rw [ev_cmp]
        congr 2
        rw [Bool.eq_iff_iff, decide_eq_true_iff, decide_eq_true_iff]
        omega
      have ins := in_good good_nat (by decide) true j.val (n.2.map (·.1) ++ [n.1])
      have ob : openB first n (some (true, j)) = (decide (first < j.val) && !decide (j.val ∈ n.2.map (·.1) ++ [n.1])) := by
        unfold openB
        simp only [evOf, List.contains_eq_mem]
        rw [Bool.eq_iff_iff]
        simp
      have num : mCB intF (mCons (mT (mSl slF (mT (mOp ixF (mVarT 9) (mT (ret (.int 0))))) (mPart (ret (.int 1))) (mNoPart))) (mNil)) (rB net (found ++ closeP first n ps) first x3 (owN (longer ++ openP first n ps)) (.fz (ringT n.2)) (.fz (.int (n.1 : Nat))) (.fz (passT n)) (.fz (.int (pl : Nat))) (.fz (arcD (some (true, j), dl, bk))) x10 x11) = .ok (.int (j.val : Int)) (rB net (found ++ closeP first n ps) first x3 (owN (longer ++ openP first n ps)) (.fz (ringT n.2)) (.fz (.int (n.1 : Nat))) (.fz (passT n)) (.fz (.int (pl : Nat))) (.fz (arcD (some (true, j), dl, bk))) x10 x11) := by
        have sl : mSl slF (mT (mOp ixF (mVarT 9) (mT (ret (.int 0))))) (mPart (ret (.int 1))) (mNoPart) (rB net (found ++ closeP first n ps) first x3 (owN (longer ++ openP first n ps)) (.fz (ringT n.2)) (.fz (.int (n.1 : Nat))) (.fz (passT n)) (.fz (.int (pl : Nat))) (.fz (arcD (some (true, j), dl, bk))) x10 x11) = .ok (.str (toString (j.val : Int))) (rB net (found ++ closeP first n ps) first x3 (owN (longer ++ openP first n ps)) (.fz (ringT n.2)) (.fz (.int (n.1 : Nat))) (.fz (passT n)) (.fz (.int (pl : Nat))) (.fz (arcD (some (true, j), dl, bk))) x10 x11) := by
          show lft (slF (srcD (some (true, j))) (some 1) none) _ = _
          rw [tl]
          rfl
        exact cb_ok (cons_ok (mT_ok sl) rfl) rfl di
      refine wp_if (b := openB first n (some (true, j))) (r := rB net (found ++ closeP first n ps) first x3 (owN (longer ++ openP first n ps)) (.fz (ringT n.2)) (.fz (.int (n.1 : Nat))) (.fz (passT n)) (.fz (.int (pl : Nat))) (.fz (arcD (some (true, j), dl, bk))) x10 x11) ?_ (fun y => ?_) (fun y => ?_)
      · rw [ob]
        exact and_t (tst_ok (op_ok (mT_ok (op_ok (mT_ok (op_ok rfl (mT_ok rfl) rfl rfl rfl)) (mT_ok rfl) rfl rfl hd)) (mT_ok rfl) rfl rfl eh)) (and_ok (tst_ok (op_ok (mT_ok num) rfl rfl rfl gt)) (fun _ => tst_ok (op_ok (mT_ok num) rfl rfl rfl ins)))
      · have e2 : openP first n (ps ++ [((some (true, j), dl, bk), pl)]) = openP first n ps ++ [(j.val, n.2 ++ [(n.1, pl)])] :=
          fm_pos (p := fun p : Arc × Nat => openB first n p.1.1) (f := fun p : Arc × Nat => ((evOf p.1.1).getD 0, n.2 ++ [(n.1, p.2)])) (xs := ps) (x := ((some (true, j), dl, bk), pl)) y
        refine wp_app (r := []) (d := nbD (j.val, n.2 ++ [(n.1, pl)])) rfl (tup_ok (cons_ok (op_ok rfl (mT_ok rfl) rfl rfl wa) (cons_ok num rfl)) (show (2 : Nat) ≤ 100 by decide)) (by simp; omega) rfl ?_
        rw [e1, e2, ← List.append_assoc]
        unfold rB owN
        rw [List.map_append (l₁ := longer ++ openP first n ps)]
        rfl
      · have e2 : openP first n (ps ++ [((some (true, j), dl, bk), pl)]) = openP first n ps := fm_neg (p := fun p : Arc × Nat => openB first n p.1.1) y
        rw [e1, e2]
        exact wp_next rfl
end Rn
end

section
set_option Elab.async false
set_option linter.all false
set_option maxRecDepth 100000
set_option maxHeartbeats 4000000
/-! NetG: the law's own rings are the rings. -/
namespace Rn
open PySem PySem.Spec L2
theorem few_arcs {rows : Rows} {a : Nat} (ok : RowsOk rows a) {i : Nat} (hi : i < rows.length) : (rows.getD i []).length ≤ 100000 := by
  rw [List.getD_eq_getElem?_getD, List.getElem?_eq_getElem hi]
  have hfew := ok.few _ (List.getElem_mem hi)
  by_cases h : a ≤ 100000
  · exact Nat.le_trans hfew h
  · exfalso
    have h1 := ok.sml
    obtain ⟨l, hl⟩ : ∃ l, rows.length = l + 1 := ⟨rows.length - 1, by omega⟩
    rw [hl] at h1
    have h3 : a ≤ bnd' a (l + 1) := by
      show a ≤ 1 + a * bnd' a l
      have : 1 ≤ bnd' a l := by
        cases l with
        | zero => exact Nat.le_refl _
        | succ k => show 1 ≤ 1 + _; omega
      have := Nat.le_mul_of_pos_right a this
      omega
    have h4 : a * a ≤ a * bnd' a (l + 1) := Nat.mul_le_mul_left a h3
    have h5 : 100000 * 100000 ≤ a * a := Nat.mul_le_mul (by omega) (by omega)
    omega
theorem net_row {i0 : Nat} {rows : Rows} {outs : List Nat} : ixF (netD (i0, rows, outs)) (.int 1) = some (rowsD rows) := rfl
theorem node_turnT {i0 : Nat} {outs : List Nat} {rows : Rows} {a first : Nat} (ok : RowsOk rows a) (hf10 : first < 10) {found : List Way} {longer : List Nd} {n : Nd} (hn : NdOk rows first n) (hf : found.length < 800000) (hq : longer.length < 800000) {x3 x7 x8 x9 : Cell} :
    Wp l2__law_rings (fun r => ∃ y7 y8 y9, r = rB (netD (i0, rows, outs)) (found ++ closes rows first n) first x3 (owN (longer ++ opens rows first n)) (.fz (ringT n.2)) (.fz (.int (n.1 : Nat))) y7 y8 y9 .no .no)
      (rB (netD (i0, rows, outs)) found first x3 (owN longer) (.fz (ringT n.2)) (.fz (.int (n.1 : Nat))) x7 x8 x9 .no .no) := by
  have hlen := ok.len
  have hn1 := hn.1
  have hn2 := hn.2
  have ha := few_arcs ok hn1
  generalize hN : netD (i0, rows, outs) = N
  have hrow : ixF N (.int 1) = some (rowsD rows) := by rw [← hN]; rfl
  have ep : mLc (mSeqI (mVar 5)) (hTup 2 (hCons (hName 10) (hCons (hName 11) (hNil)))) (mYes) (e0__law_rings) [10, 11] (rB N found first x3 (owN longer) (.fz (ringT n.2)) (.fz (.int (n.1 : Nat))) x7 x8 x9 .no .no) = .ok (.list (n.2.map fun p : Nat × Nat => PyData.int (p.1 : Int))) (rB N found first x3 (owN longer) (.fz (ringT n.2)) (.fz (.int (n.1 : Nat))) x7 x8 x9 .no .no) :=
    mlc_map0 n.2 pairD (fun p : Nat × Nat => PyData.int (p.1 : Int)) (seqT_ok rfl) (by simp [big]; omega) rfl (fun p hp => ⟨_, rfl, rfl, rfl⟩)
  have ad : addF (.list (n.2.map fun p : Nat × Nat => PyData.int (p.1 : Int))) (.list [.int (n.1 : Nat)]) = some (passT n) := by
    rw [add_ll _ _ (by rw [List.length_map, List.length_singleton]; omega)]
    unfold passT
    rw [List.map_append, List.map_map]
    rfl
  refine wp_seq (wp_set (d := passT n) (op_ok (mT_ok ep) (mT_ok rfl) rfl rfl ad) rfl ?_)
  refine wp_for (fun p : Arc × Nat => PyData.tuple [.int (p.2 : Nat), arcD p.1]) (rows.getD n.1 []).zipIdx (fun ps r => ∃ y8 y9, r = rB N (found ++ closeP first n ps) first x3 (owN (longer ++ openP first n ps)) (.fz (ringT n.2)) (.fz (.int (n.1 : Nat))) (.fz (passT n)) y8 y9 .no .no) (ρ0 := rB N found first x3 (owN longer) (.fz (ringT n.2)) (.fz (.int (n.1 : Nat))) (.fz (passT n)) x8 x9 .no .no) ?_ ?_ ?_ ?_
  · exact enum_ok (d := rowD (rows.getD n.1 [])) (cons_ok (op_ok (mT_ok (op_ok rfl (mT_ok rfl) rfl rfl hrow)) rfl rfl rfl (rows_at hn1)) rfl) rfl
  · refine ⟨x8, x9, ?_⟩
    show _ = rB N (found ++ []) first x3 (owN (longer ++ [])) _ _ _ _ _ _ _
    rw [List.append_nil, List.append_nil]
  · rintro ps ⟨arc, pl⟩ post ex r ⟨y8, y9, rfl⟩
    refine ⟨rB N (found ++ closeP first n ps) first x3 (owN (longer ++ openP first n ps)) (.fz (ringT n.2)) (.fz (.int (n.1 : Nat))) (.fz (passT n)) (.fz (.int (pl : Nat))) (.fz (arcD arc)) .no .no, rfl, ?_⟩
    have hl : ps.length ≤ (rows.getD n.1 []).length := by
      have := congrArg List.length ex
      rw [List.length_zipIdx, List.length_append] at this
      omega
    obtain ⟨r2, e2, hr2⟩ := arc_turnT (net := N) (first := first) hf10 (found := found) (longer := longer) (n := n) (ps := ps) (a := arc) (pl := pl) (x3 := x3) (x10 := .no) (x11 := .no) (by omega) (by omega) (by omega)
    exact ⟨r2, e2, _, _, hr2⟩
  · rintro r ⟨y8, y9, rfl⟩
    exact ⟨_, y8, y9, rfl⟩
theorem opens_Sz {rows : Rows} (first : Nat) (hs : SrcOk rows) (n : Nd) : (opens rows first n).length + 1 ≤ Sz rows first n := by
  rw [Sz_eq first hs n]
  have := sum_ge (f := Sz rows first) (xs := opens rows first n) fun x _ => Sz_pos rows first x
  omega
theorem flat_le {rows : Rows} (first : Nat) (hs : SrcOk rows) : ∀ ns : List Nd, (ns.flatMap (opens rows first)).length ≤ (ns.map (Sz rows first)).sum ∧ (ns.flatMap (closes rows first)).length ≤ (ns.flatMap (Tr rows first)).length ∧ ((ns.flatMap (opens rows first)).map (Sz rows first)).sum ≤ (ns.map (Sz rows first)).sum
  | [] => by simp
  | n :: ns => by
    obtain ⟨h1, h2, h3⟩ := flat_le first hs ns
    have h4 := opens_Sz first hs n
    have h5 := Sz_eq first hs n
    simp only [List.flatMap_cons, List.length_append, List.map_cons, List.sum_cons, List.map_append, List.sum_append]
    rw [Tr_eq first hs n, List.length_append]
    refine ⟨by omega, by omega, by omega⟩
theorem perm_level {rows : Rows} (first : Nat) (hs : SrcOk rows) : ∀ ns : List Nd, (ns.flatMap (closes rows first) ++ (ns.flatMap (opens rows first)).flatMap (Tr rows first)).Perm (ns.flatMap (Tr rows first))
  | [] => .refl _
  | n :: ns => by
    have ih := perm_level first hs ns
    simp only [List.flatMap_cons, List.flatMap_append]
    rw [Tr_eq first hs n]
    have h1 := perm_step (closes rows first n) ((opens rows first n).flatMap (Tr rows first)) (ns.flatMap (closes rows first)) ((ns.flatMap (opens rows first)).flatMap (Tr rows first))
    rw [List.append_assoc, List.append_assoc]
    exact h1.trans (List.Perm.append_left _ (List.Perm.append_left _ ih))
/-- one level -/
theorem level_turn {i0 : Nat} {outs : List Nat} {rows : Rows} {a first : Nat} (ok : RowsOk rows a) (hf10 : first < 10) {found : List Way} {level : List Nd} (hn : ∀ n ∈ level, NdOk rows first n) (hf : found.length + (level.flatMap (Tr rows first)).length < 800000) (hq : (level.map (Sz rows first)).sum < 800000) {x4 x5 x6 x7 x8 x9 : Cell} :
    Wp l4__law_rings (fun r => ∃ y4 y5 y6 y7 y8 y9, r = rB (netD (i0, rows, outs)) (found ++ level.flatMap (closes rows first)) first (.fz (.list ((level.flatMap (opens rows first)).map nbD))) y4 y5 y6 y7 y8 y9 .no .no)
      (rB (netD (i0, rows, outs)) found first (.fz (.list (level.map nbD))) x4 x5 x6 x7 x8 x9 .no .no) := by
  refine wp_seq (wp_own (d := .list []) rfl ?_)
  refine wp_seq (wp_for nbD level (fun ns r => ∃ y5 y6 y7 y8 y9, r = rB (netD (i0, rows, outs)) (found ++ ns.flatMap (closes rows first)) first (.fz (.list (level.map nbD))) (owN (ns.flatMap (opens rows first))) y5 y6 y7 y8 y9 .no .no) (ρ0 := rB (netD (i0, rows, outs)) found first (.fz (.list (level.map nbD))) (owN []) x5 x6 x7 x8 x9 .no .no) (seqL_ok rfl) ?_ ?_ ?_)
  · refine ⟨x5, x6, x7, x8, x9, ?_⟩
    show _ = rB _ (found ++ []) _ _ _ _ _ _ _ _ _ _
    rw [List.append_nil]
    rfl
  · rintro ns n post ex r ⟨y5, y6, y7, y8, y9, rfl⟩
    refine ⟨rB (netD (i0, rows, outs)) (found ++ ns.flatMap (closes rows first)) first (.fz (.list (level.map nbD))) (owN (ns.flatMap (opens rows first))) (.fz (ringT n.2)) (.fz (.int (n.1 : Nat))) y7 y8 y9 .no .no, rfl, ?_⟩
    obtain ⟨f1, f2, f3⟩ := flat_le first ok.src ns
    have g1 : (level.flatMap (Tr rows first)).length = (ns.flatMap (Tr rows first)).length + ((n :: post).flatMap (Tr rows first)).length := by
      rw [ex, List.flatMap_append, List.length_append]
    have g2 : (level.map (Sz rows first)).sum = (ns.map (Sz rows first)).sum + ((n :: post).map (Sz rows first)).sum := by
      rw [ex, List.map_append, List.sum_append]
    obtain ⟨r2, e2, z7, z8, z9, hr2⟩ := node_turnT (i0 := i0) (outs := outs) ok hf10 (found := found ++ ns.flatMap (closes rows first)) (longer := ns.flatMap (opens rows first)) (n := n) (hn n (by rw [ex]; simp)) (by rw [List.length_append]; omega) (by omega) (x3 := .fz (.list (level.map nbD))) (x7 := y7) (x8 := y8) (x9 := y9)
    refine ⟨r2, e2, .fz (ringT n.2), .fz (.int (n.1 : Nat)), z7, z8, z9, ?_⟩
    rw [hr2, List.flatMap_append, List.flatMap_append, List.flatMap_singleton, List.flatMap_singleton, List.append_assoc]
  · rintro r ⟨y5, y6, y7, y8, y9, rfl⟩
    exact wp_set rfl rfl ⟨_, y5, y6, y7, y8, y9, rfl⟩
theorem first_turn {i0 : Nat} {outs : List Nat} {rows : Rows} {a first : Nat} (ok : RowsOk rows a) (hfirst : first < rows.length) {found : List Way} (hf : found.length + a * bnd' a rows.length < 800000) {x3 x4 x5 x6 x7 x8 x9 : Cell} :
    Wp l5__law_rings (fun r => ∃ (more : List Way) (y3 y4 y5 y6 y7 y8 y9 : Cell), more.Perm (Tr rows first (first, [])) ∧ r = rB (netD (i0, rows, outs)) (found ++ more) first y3 y4 y5 y6 y7 y8 y9 .no .no)
      (rB (netD (i0, rows, outs)) found first x3 x4 x5 x6 x7 x8 x9 .no .no) := by
  have hlen := ok.len
  have hsz : Sz rows first (first, []) ≤ bnd' a rows.length := size_le ok.few _ _
  have htl : (Tr rows first (first, [])).length ≤ a * Sz rows first (first, []) := tree_len ok.few _ _
  have hmul : a * Sz rows first (first, []) ≤ a * bnd' a rows.length := Nat.mul_le_mul_left a hsz
  have hsml := ok.sml
  have hb1 : 1 ≤ bnd' a rows.length := Nat.le_trans (Sz_pos rows first (first, [])) hsz
  have ha0 : 0 < a ∨ a = 0 := by omega
  generalize htot : Tr rows first (first, []) = total at htl ⊢
  refine wp_seq (wp_set (d := .list [nbD (first, [])]) rfl rfl ?_)
  refine wp_while (α := Unit) (fun k r => ∃ (more : List Way) (level : List Nd) (y4 y5 y6 y7 y8 y9 : Cell), (∀ n ∈ level, NdOk rows first n ∧ (cands rows first n).length + 1 ≤ k) ∧ (level.map (Sz rows first)).sum ≤ bnd' a rows.length ∧ (more ++ level.flatMap (Tr rows first)).Perm total ∧ r = rB (netD (i0, rows, outs)) (found ++ more) first (.fz (.list (level.map nbD))) y4 y5 y6 y7 y8 y9 .no .no) (rows.length + 1) (by omega) ⟨[], [(first, [])], x4, x5, x6, x7, x8, x9, ?_, ?_, ?_, ?_⟩ ?_
  · intro n hn
    rw [List.mem_singleton.mp hn]
    have := cands_le rows first (first, [])
    exact ⟨⟨hfirst, by simp; exact this⟩, by omega⟩
  · simpa using hsz
  · rw [← htot]
    simp
  · rw [List.append_nil]
    rfl
  · rintro k r ⟨more, level, y4, y5, y6, y7, y8, y9, hok, hsum, hperm, rfl⟩
    have ne := good_nb.list.neF level []
    by_cases hw : level = []
    · left
      rw [decide_eq_true hw] at ne
      refine ⟨_, tst_ok (op_ok rfl (mT_ok rfl) rfl rfl ne), more, _, y4, y5, y6, y7, y8, y9, ?_, rfl⟩
      rw [hw] at hperm
      simpa using hperm
    · right
      rw [decide_eq_false hw] at ne
      refine ⟨_, tst_ok (op_ok rfl (mT_ok rfl) rfl rfl ne), ?_⟩
      have hlp := hperm.length_eq
      rw [List.length_append] at hlp
      obtain ⟨r2, e2, z4, z5, z6, z7, z8, z9, hr2⟩ := level_turn (i0 := i0) (outs := outs) ok (by omega) (found := found ++ more) (level := level) (fun n hn => (hok n hn).1) (by rw [List.length_append]; omega) (by omega) (x4 := y4) (x5 := y5) (x6 := y6) (x7 := y7) (x8 := y8) (x9 := y9)
      obtain ⟨f1, f2, f3⟩ := flat_le first ok.src level
      obtain ⟨n0, hn0⟩ : ∃ n0, n0 ∈ level := List.exists_mem_of_ne_nil level hw
      have hk1 := (hok n0 hn0).2
      refine ⟨r2, e2, k - 1, by omega, more ++ level.flatMap (closes rows first), level.flatMap (opens rows first), z4, z5, z6, z7, z8, z9, ?_, by omega, ?_, ?_⟩
      · intro m hm
        obtain ⟨n, hn, hmn⟩ := List.mem_flatMap.mp hm
        have h1 := open_less ok.src hmn
        have h2 := (hok n hn).2
        exact ⟨(hok n hn).1.next ok.src hmn, by omega⟩
      · rw [List.append_assoc]
        exact (List.Perm.append_left more (perm_level first ok.src level)).trans hperm
      · rw [hr2, List.append_assoc]
theorem w_law_rings {i0 : Nat} {outs : List Nat} {rows : Rows} {a : Nat} (ok : RowsOk rows a) (hs : rows.length * (a * bnd' a rows.length) < 800000) : g__law_rings [netD (i0, rows, outs)] = .ok (.list (RG rows)) := by
  have hlen := ok.len
  have e0 : mRng1 (mCons (mCB lenF (mCons (mT (mOp ixF (mVarT 0) (mT (ret (.int 1))))) (mNil))) (mNil)) [.fz (netD (i0, rows, outs)), .ow (.list []), .no, .no, .no, .no, .no, .no, .no, .no, .no, .no] = .ok ((List.range rows.length).map fun k : Nat => PyData.int (0 + (k : Int))) [.fz (netD (i0, rows, outs)), .ow (.list []), .no, .no, .no, .no, .no, .no, .no, .no, .no, .no] := by
    refine rng1_n (n := rows.length) ?_ (by omega)
    have : lenF [rowsD rows] = some (.int (rows.length : Int)) := by
      show some (PyData.int ((rows.map rowD).length : Int)) = _
      rw [List.length_map]
    exact cons_ok (cb_ok (cons_ok (mT_ok (op_ok rfl (mT_ok rfl) rfl rfl net_row)) rfl) rfl this) rfl
  obtain ⟨r, e, ws, y2, y3, y4, y5, y6, y7, y8, y9, hp, hr⟩ := for_inv (h := hName 2) (b := l5__law_rings) (fun k : Nat => PyData.int (0 + (k : Int))) (fun pre ρ => ∃ (ws : List Way) (y2 y3 y4 y5 y6 y7 y8 y9 : Cell), ws.Perm (allW rows pre.length) ∧ ρ = [.fz (netD (i0, rows, outs)), .ow (.list (ws.map ringT)), y2, y3, y4, y5, y6, y7, y8, y9, .no, .no]) (List.range rows.length) (ρ0 := [.fz (netD (i0, rows, outs)), .ow (.list []), .no, .no, .no, .no, .no, .no, .no, .no, .no, .no]) ⟨[], .no, .no, .no, .no, .no, .no, .no, .no, by simp [allW], rfl⟩ (fun pre f post ex ρ hI => by
      obtain ⟨ws, y2, y3, y4, y5, y6, y7, y8, y9, hp, rfl⟩ := hI
      obtain ⟨hf, hfl⟩ := range_pos ex
      have h3 : allW rows (pre.length + 1) = allW rows pre.length ++ Tr rows pre.length (pre.length, []) := by
        unfold allW
        rw [List.range_succ, List.flatMap_append, List.flatMap_singleton]
      have h1 := allW_len ok pre.length
      have h2 : (pre.length + 1) * (a * bnd' a rows.length) ≤ rows.length * (a * bnd' a rows.length) := Nat.mul_le_mul_right _ (by omega)
      rw [Nat.succ_mul] at h2
      have h4 := hp.length_eq
      obtain ⟨r2, e2, more, z3, z4, z5, z6, z7, z8, z9, hm, hr2⟩ := first_turn (i0 := i0) (outs := outs) ok (first := f) (by omega) (found := ws) (by omega) (x3 := y3) (x4 := y4) (x5 := y5) (x6 := y6) (x7 := y7) (x8 := y8) (x9 := y9)
      refine ⟨_, r2, ?_, .inl e2, ws ++ more, _, z3, z4, z5, z6, z7, z8, z9, ?_, hr2⟩
      · rw [show (0 : Int) + (f : Int) = ((f : Nat) : Int) by omega]
        rfl
      · rw [List.length_append, List.length_singleton, h3]
        rw [hf] at hm
        exact hp.append hm)
  rw [List.length_range] at hp
  have hl := allW_len ok rows.length
  have so := sort_ok (ws := ws) (fun w hw => allW_ne w (hp.mem_iff.mp hw)) (by rw [hp.length_eq]; omega)
  rw [sort_perm hp] at so
  unfold g__law_rings
  rw [call1 (m := 11)]
  unfold b__law_rings
  rw [hr] at e
  exact fin_rt (seq_to (own_ok rfl) (seq_to (for_ok e0 e) (ret_ok (cb_ok (cons_ok rfl rfl) rfl so))))
end Rn
end

section
set_option Elab.async false
set_option linter.all false
set_option maxRecDepth 100000
set_option maxHeartbeats 4000000
/-! NetH: is_net of a good net: shape. -/
namespace Rn
open PySem PySem.Spec L2
def srcOk (ins ev : Nat) (s : Src) : Prop := match s with
  | none => True
  | some (false, u) => u.val < ins
  | some (true, e) => e.val < ev
structure NetOk (n : Net) : Prop where
  ins : n.1 ≤ 2
  r1 : 1 ≤ n.2.1.length
  r5 : n.2.1.length ≤ 5
  few : ∀ r ∈ n.2.1, r.length ≤ 4
  arc : ∀ r ∈ n.2.1, ∀ a ∈ r, srcOk n.1 n.2.1.length a.1 ∧ a.2.1 ≤ 9 ∧ a.2.2 ≤ 3
  back : (n.2.1.map fun r => (r.map fun a => a.2.2).sum).sum ≤ 8
  rank : ∃ rk : Nat → Nat, ∀ i, ∀ a ∈ n.2.1.getD i [], a.2.2 = 0 → ∀ j, evOf a.1 = some j → rk j < rk i
  o1 : 1 ≤ n.2.2.length
  o3 : n.2.2.length ≤ 3
  outs : ∀ o ∈ n.2.2, o < n.2.1.length
theorem whole_n {v lo hi : Nat} (h1 : lo ≤ v) (h2 : v ≤ hi) : g_is_whole [.int (v : Int), .int (lo : Int), .int (hi : Int)] = .ok (.bool true) := by
  have a : (lo : Int) ≤ (v : Int) := by omega
  have b : (v : Int) ≤ (hi : Int) := by omega
  simp -implicitDefEqProofs [g_is_whole, b_is_whole, ev_foc, ev_fo0, ev_app, ev_enm, ev_rs, ev_lc', ev_g0, ev_gc, ev_y, big, ev_bnd, ev_ret, ev_lfS, ev_lfN, ev_stk, ev_vr, ev_vrT, ev_mT, ev_cF, ev_cO, ev_cB, ev_dd, ev_ds, ev_d0, ev_dc, ev_opr, ev_unr, ev_nl, ev_cns, ev_cbr, ev_ab, ev_ai, ev_tst', ev_an, ev_orr, ev_nt, ev_anV, ev_orV', ev_ntV, ev_ifm, ev_ch, ev_tp, ev_ls, ev_cl, ev_cl0, ev_isr, ev_sqI, ev_sqL, ev_sqT, ev_sb, ev_ss, ev_sn, ev_sa, ev_so, ev_sr, ev_sdr, ev_si, ev_sp, ev_p0, ev_pF, ev_pT, ev_sf, ev_hn, ev_ht, ev_hc, ev_h0, ev_cal, ev_f1, ev_f2, ev_f3, ev_f4, ev_cmp, ev_add, ev_sub, ev_mod, ev_fdv, ev_isn, ev_n1, ev_n2, ev_n3, ev_n4, ev_ixL, ev_ixT, ev_a0, ev_a1, ev_a2, ev_lL, ev_lT, ev_tL, ev_tT, ev_liT, ev_abs, ev_mx, ev_mn, ev_mx3, ev_t1, ev_t2, ev_t3, ev_eqI, ev_neI, List.getElem?_cons_zero, List.getElem?_cons_succ, List.set_cons_zero, List.set_cons_succ, List.length_cons, List.length_nil, List.map_cons, List.map_nil, List.replicate_succ, List.replicate_zero, List.cons_append, List.nil_append, List.append_nil, Option.bind_some, Option.map_some, Nat.reduceAdd, Nat.reduceSub, Nat.reduceLT, Nat.reduceLeDiff, Nat.reduceEqDiff, if_true, if_false, reduceIte, Bool.false_eq_true, wipeR, restR, a, b, pInt, pIs]
def srcList (ins ev : Nat) : List Src := ((List.range ins).map fun k => some (false, Fin.ofNat 10 k)) ++ (List.range ev).map fun k => some (true, Fin.ofNat 10 k)
theorem ofNat_val {k : Nat} (h : k < 10) : (Fin.ofNat 10 k).val = k := by
  simp [Fin.ofNat, Nat.mod_eq_of_lt h]
theorem dgs {k : Nat} (h : k < 10) : strF [.int (0 + (k : Int))] = some (.str (toString (k : Int))) := by
  rw [show (0 : Int) + (k : Int) = (k : Int) by omega]
  have := dig_s ⟨k, h⟩
  exact this
theorem ofNat_eq {k : Nat} (h : k < 10) : Fin.ofNat 10 k = ⟨k, h⟩ := Fin.ext (ofNat_val h)
theorem w_is_source {ins ev : Nat} (hi : ins ≤ 9) (he : ev ≤ 9) (s : Src) : g_is_source [srcD s, .int (ins : Nat), .int (ev : Nat)] = .ok (.bool (decide (s = none) || decide (s ∈ srcList ins ev))) := by
  have l1 : mLc (mRng1 (mCons (mVar 1) (mNil))) (hName 3) (mYes) (e0_is_source) [3] [.fz (srcD s), .fz (.int (ins : Nat)), .fz (.int (ev : Nat)), .no] = .ok (.list ((List.range ins).map fun k => srcD (some (false, Fin.ofNat 10 k)))) [.fz (srcD s), .fz (.int (ins : Nat)), .fz (.int (ev : Nat)), .no] := by
    refine mlc_map0 (List.range ins) (fun k : Nat => PyData.int (0 + (k : Int))) _ (rng1_n rfl (by omega)) (by simp [big]; omega) rfl (fun k hk => ⟨_, rfl, ?_, rfl⟩)
    have hk : k < 10 := by have := List.mem_range.mp hk; omega
    have := dig_u ⟨k, hk⟩
    rw [ofNat_eq hk]
    exact op_ok (mT_ok rfl) (mT_ok (cb_ok (cons_ok rfl rfl) rfl (dgs hk))) rfl rfl this
  have l2 : mLc (mRng1 (mCons (mVar 2) (mNil))) (hName 3) (mYes) (e1_is_source) [3] [.fz (srcD s), .fz (.int (ins : Nat)), .fz (.int (ev : Nat)), .no] = .ok (.list ((List.range ev).map fun k => srcD (some (true, Fin.ofNat 10 k)))) [.fz (srcD s), .fz (.int (ins : Nat)), .fz (.int (ev : Nat)), .no] := by
    refine mlc_map0 (List.range ev) (fun k : Nat => PyData.int (0 + (k : Int))) _ (rng1_n rfl (by omega)) (by simp [big]; omega) rfl (fun k hk => ⟨_, rfl, ?_, rfl⟩)
    have hk : k < 10 := by have := List.mem_range.mp hk; omega
    have := dig_e ⟨k, hk⟩
    rw [ofNat_eq hk]
    exact op_ok (mT_ok rfl) (mT_ok (cb_ok (cons_ok rfl rfl) rfl (dgs hk))) rfl rfl this
  have ad : addF (.list ((List.range ins).map fun k => srcD (some (false, Fin.ofNat 10 k)))) (.list ((List.range ev).map fun k => srcD (some (true, Fin.ofNat 10 k)))) = some (.list ((srcList ins ev).map srcD)) := by
    rw [add_ll _ _ (by simp; omega)]
    unfold srcList
    rw [List.map_append, List.map_map, List.map_map]
    rfl
  have e1 := good_src.eqF s none
  have e2 : inAF false (srcD s) (.list ((srcList ins ev).map srcD)) = some (.bool (decide (s ∈ srcList ins ev))) := by
    rw [in_good good_src (by decide) false s (srcList ins ev), if_neg (by decide)]
    exact congrArg (fun b => some (PyData.bool b)) (decide_eq_decide.mpr Iff.rfl)
  have ti : pIs "str" "str" = true := by decide
  have e0 : sIf (mNot (mTst (mIsi (pIs "str") (mVarT 0)))) (sRet (ret (.bool false))) (sNext) [.fz (srcD s), .fz (.int (ins : Nat)), .fz (.int (ev : Nat)), .no] = .nx [.fz (srcD s), .fz (.int (ins : Nat)), .fz (.int (ev : Nat)), .no] := by
    have : tyName (srcD s) = "str" := rfl
    simp -implicitDefEqProofs [ev_app, ev_enm, ev_rs, ev_y, big, ev_bnd, ev_ret, ev_lfS, ev_lfN, ev_stk, ev_vr, ev_vrT, ev_mT, ev_cF, ev_cO, ev_cB, ev_dd, ev_ds, ev_d0, ev_dc, ev_opr, ev_unr, ev_nl, ev_cns, ev_cbr, ev_ab, ev_ai, ev_tst', ev_an, ev_orr, ev_nt, ev_anV, ev_orV', ev_ntV, ev_ifm, ev_ch, ev_tp, ev_ls, ev_cl, ev_cl0, ev_isr, ev_sqI, ev_sqL, ev_sqT, ev_sb, ev_ss, ev_sn, ev_sa, ev_so, ev_sr, ev_sdr, ev_si, ev_sp, ev_p0, ev_pF, ev_pT, ev_sf, ev_hn, ev_ht, ev_hc, ev_h0, ev_cal, ev_f1, ev_f2, ev_f3, ev_f4, ev_cmp, ev_add, ev_sub, ev_isn, ev_n1, ev_n2, ev_n3, ev_n4, ev_ixL, ev_ixT, ev_a0, ev_a1, ev_a2, ev_lL, ev_lT, ev_tL, ev_tT, ev_liT, ev_abs, ev_mx, ev_mn, ev_mx3, ev_t1, ev_t2, ev_t3, ev_eqI, ev_neI, List.getElem?_cons_zero, List.getElem?_cons_succ, List.set_cons_zero, List.set_cons_succ, List.length_cons, List.length_nil, List.map_cons, List.map_nil, List.replicate_succ, List.replicate_zero, List.cons_append, List.nil_append, List.append_nil, Option.bind_some, Option.map_some, Nat.reduceAdd, Nat.reduceSub, Nat.reduceLT, Nat.reduceLeDiff, Nat.reduceEqDiff, if_true, if_false, reduceIte, Bool.false_eq_true, wipeR, restR, this, ti]
  unfold g_is_source
  rw [call3 (m := 1)]
  unfold b_is_source
  exact fin_rt (seq_to e0 (ret_ok (orV_ok (op_ok rfl (mT_ok rfl) rfl rfl e1) (fun _ => op_ok rfl (mT_ok (op_ok (mT_ok l1) (mT_ok l2) rfl rfl ad)) rfl rfl e2))))
theorem src_in {ins ev : Nat} {s : Src} (h : srcOk ins ev s) : (decide (s = none) || decide (s ∈ srcList ins ev)) = true := by
  rcases s with _ | ⟨_ | _, k⟩
  · rfl
  · have h : k.val < ins := h
    rw [Bool.or_eq_true]
    right
    refine decide_eq_true (List.mem_append.mpr (.inl (List.mem_map.mpr ⟨k.val, List.mem_range.mpr h, ?_⟩)))
    rw [ofNat_eq k.isLt]
  · have h : k.val < ev := h
    rw [Bool.or_eq_true]
    right
    refine decide_eq_true (List.mem_append.mpr (.inr (List.mem_map.mpr ⟨k.val, List.mem_range.mpr h, ?_⟩)))
    rw [ofNat_eq k.isLt]
theorem w_arc_ok {ins ev : Nat} (hi : ins ≤ 9) (he : ev ≤ 9) {a : Arc} (h : srcOk ins ev a.1) (h1 : a.2.1 ≤ 9) (h2 : a.2.2 ≤ 3) : g_is_arc [arcD a, .int (ins : Nat), .int (ev : Nat)] = .ok (.bool true) := by
  obtain ⟨s, d, b⟩ := a
  have ws := w_is_source hi he s
  rw [src_in h] at ws
  have w1 := whole_n (v := d) (lo := 0) (hi := 9) (by omega) h1
  have w2 := whole_n (v := b) (lo := 0) (hi := 3) (by omega) h2
  have ti : pIs "tuple" "tuple" = true := by decide
  have n3 : neF (.int 3) (.int 3) = some (.bool false) := by rw [ev_neI]; rfl
  have e0 : sIf (mOr (mNot (mTst (mIsi (pIs "tuple") (mVarT 0)))) (mOr (mTst (mOp neF (mT (mCB lenF (mCons (mVarT 0) (mNil)))) (mT (ret (.int 3))))) (mNot (mTst (mCall0 g_is_source (mCons (mOp ixF (mVarT 0) (mT (ret (.int 0)))) (mCons (mVar 1) (mCons (mVar 2) (mNil))))))))) (sRet (ret (.bool false))) (sNext) [.fz (.tuple [srcD s, .int (d : Nat), .int (b : Nat)]), .fz (.int (ins : Nat)), .fz (.int (ev : Nat))] = .nx [.fz (.tuple [srcD s, .int (d : Nat), .int (b : Nat)]), .fz (.int (ins : Nat)), .fz (.int (ev : Nat))] := by
    simp -implicitDefEqProofs [ev_app, ev_enm, ev_rs, ev_y, big, ev_bnd, ev_ret, ev_lfS, ev_lfN, ev_stk, ev_vr, ev_vrT, ev_mT, ev_cF, ev_cO, ev_cB, ev_dd, ev_ds, ev_d0, ev_dc, ev_opr, ev_unr, ev_nl, ev_cns, ev_cbr, ev_ab, ev_ai, ev_tst', ev_an, ev_orr, ev_nt, ev_anV, ev_orV', ev_ntV, ev_ifm, ev_ch, ev_tp, ev_ls, ev_cl, ev_cl0, ev_isr, ev_sqI, ev_sqL, ev_sqT, ev_sb, ev_ss, ev_sn, ev_sa, ev_so, ev_sr, ev_sdr, ev_si, ev_sp, ev_p0, ev_pF, ev_pT, ev_sf, ev_hn, ev_ht, ev_hc, ev_h0, ev_cal, ev_f1, ev_f2, ev_f3, ev_f4, ev_cmp, ev_add, ev_sub, ev_isn, ev_n1, ev_n2, ev_n3, ev_n4, ev_ixL, ev_ixT, ev_a0, ev_a1, ev_a2, ev_lL, ev_lT, ev_tL, ev_tT, ev_liT, ev_abs, ev_mx, ev_mn, ev_mx3, ev_t1, ev_t2, ev_t3, ev_eqI, ev_neI, List.getElem?_cons_zero, List.getElem?_cons_succ, List.set_cons_zero, List.set_cons_succ, List.length_cons, List.length_nil, List.map_cons, List.map_nil, List.replicate_succ, List.replicate_zero, List.cons_append, List.nil_append, List.append_nil, Option.bind_some, Option.map_some, Nat.reduceAdd, Nat.reduceSub, Nat.reduceLT, Nat.reduceLeDiff, Nat.reduceEqDiff, if_true, if_false, reduceIte, Bool.false_eq_true, wipeR, restR, ti, ws, n3]
  unfold g_is_arc
  rw [call3 (m := 0)]
  unfold b_is_arc
  exact fin_rt (seq_to e0 (ret_ok (andV_ok (call_ok rfl w1) (fun _ => call_ok rfl w2))))
theorem allT {α : Type} (xs : List α) : allF [.list (xs.map fun _ => PyData.bool true)] = some (.bool true) := by
  have : ∀ xs : List α, allOf asBool (xs.map fun _ => PyData.bool true) = some (xs.map fun _ => true) := fun xs => by
    induction xs with
    | nil => rfl
    | cons x xs ih =>
      simp only [List.map_cons]
      unfold allOf
      rw [ih]
      rfl
  unfold allF
  simp only [this, Option.map_some]
  congr 2
  induction xs with
  | nil => rfl
  | cons x xs ih => simp [ih]
theorem le_nat {a b : Nat} (h : a ≤ b) : leF (.int (a : Int)) (.int (b : Int)) = some (.bool true) := by
  unfold leF
  rw [ev_cmp, decide_eq_true (by omega)]
theorem w_row_ok {ins ev : Nat} (hi : ins ≤ 9) (he : ev ≤ 9) {r : List Arc} (hr : r.length ≤ 4) (h : ∀ a ∈ r, srcOk ins ev a.1 ∧ a.2.1 ≤ 9 ∧ a.2.2 ≤ 3) : g_is_row [rowD r, .int (ins : Nat), .int (ev : Nat)] = .ok (.bool true) := by
  have ti : pIs "tuple" "tuple" = true := by decide
  have l1 : mLc (mSeqI (mVar 0)) (hName 3) (mYes) (e0_is_row) [3] [.fz (rowD r), .fz (.int (ins : Nat)), .fz (.int (ev : Nat)), .no] = .ok (.list (r.map fun _ => PyData.bool true)) [.fz (rowD r), .fz (.int (ins : Nat)), .fz (.int (ev : Nat)), .no] := by
    refine mlc_map0 r arcD _ (seqT_ok rfl) (by simp [big]; omega) rfl (fun a ha => ⟨_, rfl, ?_, rfl⟩)
    obtain ⟨h1, h2, h3⟩ := h a ha
    exact call_ok rfl (w_arc_ok hi he h1 h2 h3)
  have ln : lenF [rowD r] = some (.int (r.length : Int)) := by
    show some (PyData.int ((r.map arcD).length : Int)) = _
    rw [List.length_map]
  have it : mIsi (pIs "tuple") (mVarT 0) [.fz (rowD r), .fz (.int (ins : Nat)), .fz (.int (ev : Nat)), .no] = .ok (.bool true) [.fz (rowD r), .fz (.int (ins : Nat)), .fz (.int (ev : Nat)), .no] := by
    have : tyName (rowD r) = "tuple" := rfl
    simp -implicitDefEqProofs [ev_app, ev_enm, ev_rs, ev_y, big, ev_bnd, ev_ret, ev_lfS, ev_lfN, ev_stk, ev_vr, ev_vrT, ev_mT, ev_cF, ev_cO, ev_cB, ev_dd, ev_ds, ev_d0, ev_dc, ev_opr, ev_unr, ev_nl, ev_cns, ev_cbr, ev_ab, ev_ai, ev_tst', ev_an, ev_orr, ev_nt, ev_anV, ev_orV', ev_ntV, ev_ifm, ev_ch, ev_tp, ev_ls, ev_cl, ev_cl0, ev_isr, ev_sqI, ev_sqL, ev_sqT, ev_sb, ev_ss, ev_sn, ev_sa, ev_so, ev_sr, ev_sdr, ev_si, ev_sp, ev_p0, ev_pF, ev_pT, ev_sf, ev_hn, ev_ht, ev_hc, ev_h0, ev_cal, ev_f1, ev_f2, ev_f3, ev_f4, ev_cmp, ev_add, ev_sub, ev_isn, ev_n1, ev_n2, ev_n3, ev_n4, ev_ixL, ev_ixT, ev_a0, ev_a1, ev_a2, ev_lL, ev_lT, ev_tL, ev_tT, ev_liT, ev_abs, ev_mx, ev_mn, ev_mx3, ev_t1, ev_t2, ev_t3, ev_eqI, ev_neI, List.getElem?_cons_zero, List.getElem?_cons_succ, List.set_cons_zero, List.set_cons_succ, List.length_cons, List.length_nil, List.map_cons, List.map_nil, List.replicate_succ, List.replicate_zero, List.cons_append, List.nil_append, List.append_nil, Option.bind_some, Option.map_some, Nat.reduceAdd, Nat.reduceSub, Nat.reduceLT, Nat.reduceLeDiff, Nat.reduceEqDiff, if_true, if_false, reduceIte, Bool.false_eq_true, wipeR, restR, this, ti]
  have l4 : leF (.int (r.length : Int)) (.int 4) = some (.bool true) := le_nat hr
  have p1 : mOp leF (mT (mCB lenF (mCons (mVarT 0) (mNil)))) (mT (ret (.int 4))) [.fz (rowD r), .fz (.int (ins : Nat)), .fz (.int (ev : Nat)), .no] = .ok (.bool true) [.fz (rowD r), .fz (.int (ins : Nat)), .fz (.int (ev : Nat)), .no] := op_ok (mT_ok (cb_ok (cons_ok rfl rfl) rfl ln)) (mT_ok rfl) rfl rfl l4
  have p2 : mCB allF (mCons (mT (mLc (mSeqI (mVar 0)) (hName 3) (mYes) (e0_is_row) [3])) (mNil)) [.fz (rowD r), .fz (.int (ins : Nat)), .fz (.int (ev : Nat)), .no] = .ok (.bool true) [.fz (rowD r), .fz (.int (ins : Nat)), .fz (.int (ev : Nat)), .no] := cb_ok (cons_ok (mT_ok l1) rfl) rfl (allT r)
  unfold g_is_row
  rw [call3 (m := 1)]
  unfold b_is_row
  exact fin_rt (ret_ok (andV_ok (x := true) (y := true) it (fun _ => andV_ok (x := true) (y := true) p1 (fun _ => p2))))
end Rn
end

section
set_option Elab.async false
set_option linter.all false
set_option maxRecDepth 100000
set_option maxHeartbeats 4000000
/-! NetI: is_net of a good net. -/
namespace Rn
open PySem PySem.Spec L2
theorem rows_len (rows : Rows) : lenF [rowsD rows] = some (.int (rows.length : Int)) := by
  show some (PyData.int ((rows.map rowD).length : Int)) = _
  rw [List.length_map]
theorem outs_len (o : List Nat) : lenF [outsD o] = some (.int (o.length : Int)) := by
  show some (PyData.int ((o.map fun n : Nat => PyData.int (n : Int)).length : Int)) = _
  rw [List.length_map]
theorem w_shaped {n : Net} (h : NetOk n) : g_is_shaped [netD n] = .ok (.bool true) := by
  obtain ⟨i0, rows, outs⟩ := n
  have hi : i0 ≤ 2 := h.ins
  have hr1 : 1 ≤ rows.length := h.r1
  have hr5 : rows.length ≤ 5 := h.r5
  have ho1 : 1 ≤ outs.length := h.o1
  have ho3 : outs.length ≤ 3 := h.o3
  have ti : pIs "tuple" "tuple" = true := by decide
  have n3 : neF (.int 3) (.int 3) = some (.bool false) := by rw [ev_neI]; rfl
  have w0 : g_is_whole [.int (i0 : Int), .int 0, .int 2] = .ok (.bool true) := whole_n (v := i0) (lo := 0) (hi := 2) (by omega) hi
  have a1 : leF (.int 1) (.int (rows.length : Int)) = some (.bool true) := le_nat (a := 1) hr1
  have a2 : leF (.int (rows.length : Int)) (.int 5) = some (.bool true) := le_nat (b := 5) hr5
  have b1 : leF (.int 1) (.int (outs.length : Int)) = some (.bool true) := le_nat (a := 1) ho1
  have b2 : leF (.int (outs.length : Int)) (.int 3) = some (.bool true) := le_nat (b := 3) ho3
  have t1 : tyName (rowsD rows) = "tuple" := rfl
  have t2 : tyName (outsD outs) = "tuple" := rfl
  have lr := rows_len rows
  have lo := outs_len outs
  have l1 : mLc (mSeqI (mVar 2)) (hName 5) (mYes) (e0_is_shaped) [5] [.fz (.tuple [.int (i0 : Nat), rowsD rows, outsD outs]), .fz (.int (i0 : Nat)), .fz (rowsD rows), .fz (outsD outs), .no, .no] = .ok (.list (rows.map fun _ => PyData.bool true)) [.fz (.tuple [.int (i0 : Nat), rowsD rows, outsD outs]), .fz (.int (i0 : Nat)), .fz (rowsD rows), .fz (outsD outs), .no, .no] := by
    refine mlc_map0 rows rowD _ (seqT_ok rfl) (by simp [big]; omega) rfl (fun r hr => ⟨_, rfl, ?_, rfl⟩)
    exact call_ok (cons_ok rfl (cons_ok rfl (cons_ok (cb_ok (cons_ok rfl rfl) rfl lr) rfl))) (w_row_ok (by omega) (by omega) (h.few r hr) (h.arc r hr))
  have l2 : mLc (mSeqI (mVar 3)) (hName 4) (mYes) (e1_is_shaped) [4] [.fz (.tuple [.int (i0 : Nat), rowsD rows, outsD outs]), .fz (.int (i0 : Nat)), .fz (rowsD rows), .fz (outsD outs), .no, .no] = .ok (.list (outs.map fun _ => PyData.bool true)) [.fz (.tuple [.int (i0 : Nat), rowsD rows, outsD outs]), .fz (.int (i0 : Nat)), .fz (rowsD rows), .fz (outsD outs), .no, .no] := by
    refine mlc_map0 outs (fun k : Nat => PyData.int (k : Int)) _ (seqT_ok rfl) (by simp [big]; omega) rfl (fun o ho => ⟨_, rfl, ?_, rfl⟩)
    have hlt : o < rows.length := h.outs o ho
    have es : subF (.int (rows.length : Int)) (.int 1) = some (.int ((rows.length - 1 : Nat) : Int)) := by
      rw [ev_sub, show (rows.length : Int) - 1 = ((rows.length - 1 : Nat) : Int) by omega]
    have wo : g_is_whole [.int (o : Int), .int 0, .int ((rows.length - 1 : Nat) : Int)] = .ok (.bool true) := whole_n (v := o) (lo := 0) (by omega) (by omega)
    exact call_ok (cons_ok rfl (cons_ok rfl (cons_ok (op_ok (mT_ok (cb_ok (cons_ok rfl rfl) rfl lr)) (mT_ok rfl) rfl rfl es) rfl))) wo
  have e1 : sIf (mOr (mNot (mTst (mIsi (pIs "tuple") (mVarT 0)))) (mOr (mTst (mOp neF (mT (mCB lenF (mCons (mVarT 0) (mNil)))) (mT (ret (.int 3))))) (mNot (mTst (mCall0 g_is_whole (mCons (mOp ixF (mVarT 0) (mT (ret (.int 0)))) (mCons (ret (.int 0)) (mCons (ret (.int 2)) (mNil))))))))) (sRet (ret (.bool false))) (sNext) [.fz (.tuple [.int (i0 : Nat), rowsD rows, outsD outs]), .no, .no, .no, .no, .no] = .nx [.fz (.tuple [.int (i0 : Nat), rowsD rows, outsD outs]), .no, .no, .no, .no, .no] := by
    simp -implicitDefEqProofs [ev_app, ev_enm, ev_rs, ev_y, big, ev_bnd, ev_ret, ev_lfS, ev_lfN, ev_stk, ev_vr, ev_vrT, ev_mT, ev_cF, ev_cO, ev_cB, ev_dd, ev_ds, ev_d0, ev_dc, ev_opr, ev_unr, ev_nl, ev_cns, ev_cbr, ev_ab, ev_ai, ev_tst', ev_an, ev_orr, ev_nt, ev_anV, ev_orV', ev_ntV, ev_ifm, ev_ch, ev_tp, ev_ls, ev_cl, ev_cl0, ev_isr, ev_sqI, ev_sqL, ev_sqT, ev_sb, ev_ss, ev_sn, ev_sa, ev_so, ev_sr, ev_sdr, ev_si, ev_sp, ev_p0, ev_pF, ev_pT, ev_sf, ev_hn, ev_ht, ev_hc, ev_h0, ev_cal, ev_f1, ev_f2, ev_f3, ev_f4, ev_cmp, ev_add, ev_sub, ev_isn, ev_n1, ev_n2, ev_n3, ev_n4, ev_ixL, ev_ixT, ev_a0, ev_a1, ev_a2, ev_lL, ev_lT, ev_tL, ev_tT, ev_liT, ev_abs, ev_mx, ev_mn, ev_mx3, ev_t1, ev_t2, ev_t3, ev_eqI, ev_neI, List.getElem?_cons_zero, List.getElem?_cons_succ, List.set_cons_zero, List.set_cons_succ, List.length_cons, List.length_nil, List.map_cons, List.map_nil, List.replicate_succ, List.replicate_zero, List.cons_append, List.nil_append, List.append_nil, Option.bind_some, Option.map_some, Nat.reduceAdd, Nat.reduceSub, Nat.reduceLT, Nat.reduceLeDiff, Nat.reduceEqDiff, if_true, if_false, reduceIte, Bool.false_eq_true, wipeR, restR, ti, n3, w0]
  have e2 : sIf (mOr (mNot (mTst (mIsi (pIs "tuple") (mVarT 2)))) (mNot (mTst (mChain leF leF (mT (ret (.int 1))) (mT (mCB lenF (mCons (mVarT 2) (mNil)))) (mT (ret (.int 5))))))) (sRet (ret (.bool false))) (sNext) [.fz (.tuple [.int (i0 : Nat), rowsD rows, outsD outs]), .fz (.int (i0 : Nat)), .fz (rowsD rows), .fz (outsD outs), .no, .no] = .nx [.fz (.tuple [.int (i0 : Nat), rowsD rows, outsD outs]), .fz (.int (i0 : Nat)), .fz (rowsD rows), .fz (outsD outs), .no, .no] := by
    simp -implicitDefEqProofs [ev_app, ev_enm, ev_rs, ev_y, big, ev_bnd, ev_ret, ev_lfS, ev_lfN, ev_stk, ev_vr, ev_vrT, ev_mT, ev_cF, ev_cO, ev_cB, ev_dd, ev_ds, ev_d0, ev_dc, ev_opr, ev_unr, ev_nl, ev_cns, ev_cbr, ev_ab, ev_ai, ev_tst', ev_an, ev_orr, ev_nt, ev_anV, ev_orV', ev_ntV, ev_ifm, ev_ch, ev_tp, ev_ls, ev_cl, ev_cl0, ev_isr, ev_sqI, ev_sqL, ev_sqT, ev_sb, ev_ss, ev_sn, ev_sa, ev_so, ev_sr, ev_sdr, ev_si, ev_sp, ev_p0, ev_pF, ev_pT, ev_sf, ev_hn, ev_ht, ev_hc, ev_h0, ev_cal, ev_f1, ev_f2, ev_f3, ev_f4, ev_cmp, ev_add, ev_sub, ev_isn, ev_n1, ev_n2, ev_n3, ev_n4, ev_ixL, ev_ixT, ev_a0, ev_a1, ev_a2, ev_lL, ev_lT, ev_tL, ev_tT, ev_liT, ev_abs, ev_mx, ev_mn, ev_mx3, ev_t1, ev_t2, ev_t3, ev_eqI, ev_neI, List.getElem?_cons_zero, List.getElem?_cons_succ, List.set_cons_zero, List.set_cons_succ, List.length_cons, List.length_nil, List.map_cons, List.map_nil, List.replicate_succ, List.replicate_zero, List.cons_append, List.nil_append, List.append_nil, Option.bind_some, Option.map_some, Nat.reduceAdd, Nat.reduceSub, Nat.reduceLT, Nat.reduceLeDiff, Nat.reduceEqDiff, if_true, if_false, reduceIte, Bool.false_eq_true, wipeR, restR, ti, t1, lr, a1, a2]
  have e4 : sIf (mOr (mNot (mTst (mIsi (pIs "tuple") (mVarT 3)))) (mNot (mTst (mChain leF leF (mT (ret (.int 1))) (mT (mCB lenF (mCons (mVarT 3) (mNil)))) (mT (ret (.int 3))))))) (sRet (ret (.bool false))) (sNext) [.fz (.tuple [.int (i0 : Nat), rowsD rows, outsD outs]), .fz (.int (i0 : Nat)), .fz (rowsD rows), .fz (outsD outs), .no, .no] = .nx [.fz (.tuple [.int (i0 : Nat), rowsD rows, outsD outs]), .fz (.int (i0 : Nat)), .fz (rowsD rows), .fz (outsD outs), .no, .no] := by
    simp -implicitDefEqProofs [ev_app, ev_enm, ev_rs, ev_y, big, ev_bnd, ev_ret, ev_lfS, ev_lfN, ev_stk, ev_vr, ev_vrT, ev_mT, ev_cF, ev_cO, ev_cB, ev_dd, ev_ds, ev_d0, ev_dc, ev_opr, ev_unr, ev_nl, ev_cns, ev_cbr, ev_ab, ev_ai, ev_tst', ev_an, ev_orr, ev_nt, ev_anV, ev_orV', ev_ntV, ev_ifm, ev_ch, ev_tp, ev_ls, ev_cl, ev_cl0, ev_isr, ev_sqI, ev_sqL, ev_sqT, ev_sb, ev_ss, ev_sn, ev_sa, ev_so, ev_sr, ev_sdr, ev_si, ev_sp, ev_p0, ev_pF, ev_pT, ev_sf, ev_hn, ev_ht, ev_hc, ev_h0, ev_cal, ev_f1, ev_f2, ev_f3, ev_f4, ev_cmp, ev_add, ev_sub, ev_isn, ev_n1, ev_n2, ev_n3, ev_n4, ev_ixL, ev_ixT, ev_a0, ev_a1, ev_a2, ev_lL, ev_lT, ev_tL, ev_tT, ev_liT, ev_abs, ev_mx, ev_mn, ev_mx3, ev_t1, ev_t2, ev_t3, ev_eqI, ev_neI, List.getElem?_cons_zero, List.getElem?_cons_succ, List.set_cons_zero, List.set_cons_succ, List.length_cons, List.length_nil, List.map_cons, List.map_nil, List.replicate_succ, List.replicate_zero, List.cons_append, List.nil_append, List.append_nil, Option.bind_some, Option.map_some, Nat.reduceAdd, Nat.reduceSub, Nat.reduceLT, Nat.reduceLeDiff, Nat.reduceEqDiff, if_true, if_false, reduceIte, Bool.false_eq_true, wipeR, restR, ti, t2, lo, b1, b2]
  unfold g_is_shaped
  rw [call1 (m := 5)]
  unfold b_is_shaped
  have p2 : mCB allF (mCons (mT (mLc (mSeqI (mVar 2)) (hName 5) (mYes) (e0_is_shaped) [5])) (mNil)) [.fz (.tuple [.int (i0 : Nat), rowsD rows, outsD outs]), .fz (.int (i0 : Nat)), .fz (rowsD rows), .fz (outsD outs), .no, .no] = .ok (.bool true) [.fz (.tuple [.int (i0 : Nat), rowsD rows, outsD outs]), .fz (.int (i0 : Nat)), .fz (rowsD rows), .fz (outsD outs), .no, .no] := cb_ok (cons_ok (mT_ok l1) rfl) rfl (allT rows)
  have p3 : mCB allF (mCons (mT (mLc (mSeqI (mVar 3)) (hName 4) (mYes) (e1_is_shaped) [4])) (mNil)) [.fz (.tuple [.int (i0 : Nat), rowsD rows, outsD outs]), .fz (.int (i0 : Nat)), .fz (rowsD rows), .fz (outsD outs), .no, .no] = .ok (.bool true) [.fz (.tuple [.int (i0 : Nat), rowsD rows, outsD outs]), .fz (.int (i0 : Nat)), .fz (rowsD rows), .fz (outsD outs), .no, .no] := cb_ok (cons_ok (mT_ok l2) rfl) rfl (allT outs)
  exact fin_rt (seq_to e1 (seq_to (asg_ok (r2 := [.fz (.tuple [.int (i0 : Nat), rowsD rows, outsD outs]), .fz (.int (i0 : Nat)), .fz (rowsD rows), .fz (outsD outs), .no, .no]) rfl rfl) (seq_to e2 (seq_to (ifs_f (not_ok (tst_ok p2)) rfl) (seq_to e4 (ret_ok p3))))))
theorem sum_int (ns : List Nat) : sumF [.list (ns.map fun n : Nat => PyData.int (n : Int))] = some (.int (ns.sum : Nat)) := by
  have : ∀ ns : List Nat, allOf asInt (ns.map fun n : Nat => PyData.int (n : Int)) = some (ns.map fun n : Nat => (n : Int)) := fun ns => by
    induction ns with
    | nil => rfl
    | cons x xs ih =>
      simp only [List.map_cons]
      unfold allOf
      rw [ih]
      rfl
  unfold sumF
  simp only [this, Option.map_some]
  have e : (ns.map fun n : Nat => (n : Int)).sum = ((ns.sum : Nat) : Int) := by
    induction ns with
    | nil => rfl
    | cons x xs ih => simp only [List.map_cons, List.sum_cons, ih]; push_cast; rfl
  rw [e]
theorem w_all_back {rows : Rows} (h1 : rows.length ≤ 9) (h2 : ∀ r ∈ rows, r.length ≤ 100000) : g_all_back [rowsD rows] = .ok (.int ((rows.map fun r => (r.map fun a => a.2.2).sum).sum : Nat)) := by
  have l1 : mLc (mSeqI (mVar 0)) (hName 1) (mYes) (e1_all_back) [1] [.fz (rowsD rows), .no, .no, .no, .no] = .ok (.list (rows.map fun r => PyData.int ((r.map fun a => a.2.2).sum : Nat))) [.fz (rowsD rows), .no, .no, .no, .no] := by
    refine mlc_map0 rows rowD _ (seqT_ok rfl) (by simp [big]; omega) rfl (fun r hr => ⟨[.fz (rowsD rows), .fz (rowD r), .no, .no, .no], rfl, ?_, rfl⟩)
    have l2 : mLc (mSeqI (mVar 1)) (hTup 3 (hCons (hName 2) (hCons (hName 3) (hCons (hName 4) (hNil))))) (mYes) (e0_all_back) [2, 3, 4] [.fz (rowsD rows), .fz (rowD r), .no, .no, .no] = .ok (.list (r.map fun a => PyData.int (a.2.2 : Nat))) [.fz (rowsD rows), .fz (rowD r), .no, .no, .no] :=
      mlc_map0 r arcD _ (seqT_ok rfl) (by have := h2 r hr; simp [big]; omega) rfl (fun a ha => ⟨_, rfl, rfl, rfl⟩)
    have s := sum_int (r.map fun a => a.2.2)
    rw [List.map_map] at s
    exact cb_ok (cons_ok (mT_ok l2) rfl) rfl s
  have s := sum_int (rows.map fun r => (r.map fun a => a.2.2).sum)
  rw [List.map_map] at s
  unfold g_all_back
  rw [call1 (m := 4)]
  exact fin_rt (ret_ok (cb_ok (cons_ok (mT_ok l1) rfl) rfl s))
end Rn
end

section
set_option Elab.async false
set_option linter.all false
set_option maxRecDepth 100000
set_option maxHeartbeats 4000000
/-! NetJ: order_of, is_net. -/
namespace Rn
open PySem PySem.Spec L2
abbrev intsD (xs : List Nat) : D := .list (xs.map fun n : Nat => PyData.int (n : Int))
def waits (r : List Arc) : List Nat := (r.filter fun a => decide (a.2.2 = 0)).filterMap fun a => evOf a.1
theorem fmap_is (xs : List (Option Nat)) : ((xs.filter fun o => !o.isNone).map evD) = (xs.filterMap id).map fun n : Nat => PyData.int (n : Int) := by
  induction xs with
  | nil => rfl
  | cons x xs ih =>
    cases x with
    | none => simpa using ih
    | some k =>
      rw [List.filter_cons_of_pos (by rfl), List.map_cons, ih]
      rfl
theorem w_same_round {rows : Rows} (h1 : rows.length ≤ 9) (h2 : ∀ r ∈ rows, r.length ≤ 100000) : g_same_round [rowsD rows] = .ok (.list (rows.map fun r => intsD (waits r))) := by
  obtain ⟨r, e, y2, y3, hr⟩ := for_inv (h := hName 2) (b := l4_same_round) rowD (fun pre ρ => ∃ y2 y3, ρ = [.fz (rowsD rows), .ow (.list (pre.map fun r => intsD (waits r))), y2, y3, .no, .no, .no, .no]) rows (ρ0 := [.fz (rowsD rows), .ow (.list []), .no, .no, .no, .no, .no, .no]) ⟨.no, .no, rfl⟩ (fun pre row post ex ρ hI => by
      obtain ⟨y2, y3, rfl⟩ := hI
      have hrow := h2 row (by rw [ex]; simp)
      have hpl : pre.length ≤ rows.length := by
        have := congrArg List.length ex
        rw [List.length_append] at this
        omega
      have l1 : mLc (mSeqI (mVar 2)) (hTup 3 (hCons (hName 4) (hCons (hName 5) (hCons (hName 6) (hNil))))) (t0_same_round) (e1_same_round) [4, 5, 6] [.fz (rowsD rows), .ow (.list (pre.map fun r => intsD (waits r))), .fz (rowD row), y3, .no, .no, .no, .no] = .ok (.list ((row.filter fun a => decide (a.2.2 = 0)).map fun a => evD (evOf a.1))) [.fz (rowsD rows), .ow (.list (pre.map fun r => intsD (waits r))), .fz (rowD row), y3, .no, .no, .no, .no] := by
        refine mlc_map row arcD (fun a => decide (a.2.2 = 0)) _ (seqT_ok rfl) (by simp [big]; omega) rfl (fun a ha => ⟨[.fz (rowsD rows), .ow (.list (pre.map fun r => intsD (waits r))), .fz (rowD row), y3, .fz (srcD a.1), .fz (.int (a.2.1 : Nat)), .fz (.int (a.2.2 : Nat)), .no], rfl, ?_, fun _ => ?_, rfl⟩)
        · exact tst_ok (op_ok rfl (mT_ok rfl) rfl rfl (good_nat.eqF a.2.2 0))
        · exact call_ok rfl (w_event a.1)
      obtain ⟨os, hos⟩ : ∃ os : List (Option Nat), os = (row.filter fun a => decide (a.2.2 = 0)).map fun a => evOf a.1 := ⟨_, rfl⟩
      have ho : ((row.filter fun a => decide (a.2.2 = 0)).map fun a => evD (evOf a.1)) = os.map evD := by rw [hos, List.map_map]; rfl
      have hol : os.length ≤ 100000 := by
        rw [hos, List.length_map]
        exact Nat.le_trans (List.length_filter_le _ _) hrow
      rw [ho] at l1
      have hw : waits row = os.filterMap id := by
        rw [hos]
        unfold waits
        rw [List.filterMap_map]
        rfl
      have l2 : mLc (mSeqI (mVar 3)) (hName 7) (t2_same_round) (e3_same_round) [7] [.fz (rowsD rows), .ow (.list (pre.map fun r => intsD (waits r))), .fz (rowD row), .fz (.list (os.map evD)), .no, .no, .no, .no] = .ok (intsD (waits row)) [.fz (rowsD rows), .ow (.list (pre.map fun r => intsD (waits r))), .fz (rowD row), .fz (.list (os.map evD)), .no, .no, .no, .no] := by
        unfold intsD
        rw [hw, ← fmap_is]
        refine mlc_map os evD (fun o => !o.isNone) evD (seqL_ok rfl) (by simp only [big]; omega) rfl (fun o ho => ⟨_, rfl, ?_, fun _ => rfl, rfl⟩)
        have := ist_o (o.map fun k : Nat => (k : Int))
        rw [Option.isNone_map] at this
        exact tst_ok (op_ok rfl (mT_ok rfl) rfl rfl this)
      obtain ⟨r2, e2, hr2⟩ := wp_app (Q := fun r2 => r2 = [.fz (rowsD rows), .ow (.list ((pre ++ [row]).map fun r => intsD (waits r))), .fz (rowD row), .fz (.list (os.map evD)), .no, .no, .no, .no]) (r := []) (i := 1) (ds := pre.map fun r => intsD (waits r)) rfl l2 (by rw [List.length_map]; omega) rfl (by rw [List.map_append]; rfl)
      exact ⟨_, r2, rfl, .inl (seq_to (asg_ok l1 rfl) e2), _, _, hr2⟩)
  rw [hr] at e
  unfold g_same_round
  rw [call1 (m := 7)]
  unfold b_same_round
  exact fin_rt (seq_to (own_ok rfl) (seq_to (for_ok (seqT_ok rfl) e) (ret_ok rfl)))
/-- not found yet -/
def left (N : Nat) (found : List Nat) : List Nat := (List.range N).filter fun j => !decide (j ∈ found)
theorem left_less {N : Nat} {found : List Nat} {x : Nat} (hx : x < N) (hn : x ∉ found) : (left N (found ++ [x])).length + 1 = (left N found).length := by
  unfold left
  have : ∀ (M : Nat), ((List.range M).filter fun j => !decide (j ∈ found ++ [x])).length + (if x < M then 1 else 0) = ((List.range M).filter fun j => !decide (j ∈ found)).length := fun M => by
    induction M with
    | zero => simp
    | succ M ih =>
      rw [List.range_succ, List.filter_append, List.filter_append, List.length_append, List.length_append]
      by_cases e : x = M
      · subst e
        rw [if_neg (by omega)] at ih
        simp only [List.filter_cons, List.filter_nil]
        simp [hn] at ih ⊢
        exact ih
      · have : (M ∈ found ++ [x]) = (M ∈ found) := by simp [Ne.symm e]
        have h2 : ([M].filter fun j => !decide (j ∈ found ++ [x])) = ([M].filter fun j => !decide (j ∈ found)) := by
          simp only [List.filter_cons, List.filter_nil, List.mem_append, List.mem_singleton]
          simp [Ne.symm e]
        rw [h2]
        by_cases g : x < M
        · rw [if_pos g] at ih
          rw [if_pos (by omega)]
          omega
        · rw [if_neg g] at ih
          rw [if_neg (by omega)]
          omega
  have := this N
  rw [if_pos hx] at this
  exact this
/-- the least one that is left is free -/
theorem free_ex {rk : Nat → Nat} {N : Nat} {found : List Nat} {W : Nat → List Nat} (hW : ∀ i, ∀ j ∈ W i, j < N ∧ rk j < rk i) (hl : 0 < (left N found).length) : ∃ i, i < N ∧ i ∉ found ∧ ∀ j ∈ W i, j ∈ found := by
  have key : ∀ (k i : Nat), rk i ≤ k → i < N → i ∉ found → ∃ i, i < N ∧ i ∉ found ∧ ∀ j ∈ W i, j ∈ found := by
    intro k
    induction k with
    | zero =>
      intro i hk hi hn
      refine ⟨i, hi, hn, fun j hj => ?_⟩
      have := (hW i j hj).2
      omega
    | succ k ih =>
      intro i hk hi hn
      by_cases h : ∀ j ∈ W i, j ∈ found
      · exact ⟨i, hi, hn, h⟩
      · obtain ⟨j, hj⟩ := Classical.not_forall.mp h
        obtain ⟨hj1, hj2⟩ := Classical.not_imp.mp hj
        have h3 := hW i j hj1
        exact ih j (by omega) h3.1 hj2
  obtain ⟨i, hi⟩ := List.exists_mem_of_length_pos hl
  obtain ⟨h1, h2⟩ := List.mem_filter.mp hi
  exact key (rk i) i (Nat.le_refl _) (List.mem_range.mp h1) (by simpa using h2)
end Rn
end

section
set_option Elab.async false
set_option linter.all false
set_option maxRecDepth 100000
set_option maxHeartbeats 4000000
/-! NetK: order_of and is_net of a good net. -/
namespace Rn
open PySem PySem.Spec L2
theorem allP {α : Type} (p : α → Bool) (xs : List α) : allF [.list (xs.map fun x => PyData.bool (p x))] = some (.bool (xs.all p)) := by
  have : ∀ xs : List α, allOf asBool (xs.map fun x => PyData.bool (p x)) = some (xs.map p) := fun xs => by
    induction xs with
    | nil => rfl
    | cons x xs ih =>
      simp only [List.map_cons]
      unfold allOf
      rw [ih]
      rfl
  unfold allF
  simp only [this, Option.map_some]
  congr 2
  induction xs with
  | nil => rfl
  | cons x xs ih => simp [ih]
def freeB (rows : Rows) (found : List Nat) (i : Nat) : Bool := !decide (i ∈ found) && (waits (rows.getD i [])).all fun j => decide (j ∈ found)
theorem waits_len (r : List Arc) : (waits r).length ≤ r.length := by
  unfold waits
  exact Nat.le_trans (List.length_filterMap_le _ _) (List.length_filter_le _ _)
/-- an order: each one stands behind those it waits for -/
def Ord (rows : Rows) (found : List Nat) : Prop := ∀ pre x post, found = pre ++ x :: post → x < rows.length ∧ x ∉ pre ∧ ∀ j ∈ waits (rows.getD x []), j ∈ pre
theorem Ord.snoc {rows : Rows} {found : List Nat} {i : Nat} (h : Ord rows found) (h1 : i < rows.length) (h2 : freeB rows found i = true) : Ord rows (found ++ [i]) := by
  intro pre x post e
  rcases List.eq_nil_or_concat post with rfl | ⟨post', y, rfl⟩
  · have e : found ++ [i] = pre ++ [x] := e
    obtain ⟨e1, e2⟩ := List.append_inj' e rfl
    have e2 : i = x := by simpa using e2
    subst e1
    subst e2
    unfold freeB at h2
    rw [Bool.and_eq_true, List.all_eq_true] at h2
    exact ⟨h1, by simpa using h2.1, fun j hj => of_decide_eq_true (h2.2 j hj)⟩
  · have e : found ++ [i] = (pre ++ x :: post') ++ [y] := by simpa using e
    obtain ⟨e1, _⟩ := List.append_inj' e rfl
    exact h pre x post' e1
theorem w_order {rows : Rows} (h1 : rows.length ≤ 9) (h2 : ∀ r ∈ rows, r.length ≤ 100000) (hs : SrcOk rows) {rk : Nat → Nat} (hrk : ∀ i, ∀ a ∈ rows.getD i [], a.2.2 = 0 → ∀ j, evOf a.1 = some j → rk j < rk i) :
    ∃ found : List Nat, found.length = rows.length ∧ Ord rows found ∧ g_order_of [rowsD rows] = .ok (intsD found) := by
  have hW : ∀ i, ∀ j ∈ waits (rows.getD i []), j < rows.length ∧ rk j < rk i := fun i j hj => by
    unfold waits at hj
    obtain ⟨a, ha, he⟩ := List.mem_filterMap.mp hj
    obtain ⟨ha1, ha2⟩ := List.mem_filter.mp ha
    obtain ⟨row, hr, har⟩ := getD_memR ha1
    exact ⟨hs row hr a har j he, hrk i a ha1 (of_decide_eq_true ha2) j he⟩
  obtain ⟨WD, hWD⟩ : ∃ WD : D, WD = .list (rows.map fun r => intsD (waits r)) := ⟨_, rfl⟩
  have hwat : ∀ i, i < rows.length → ixF WD (.int (0 + (i : Int))) = some (intsD (waits (rows.getD i []))) := fun i hi => by
    have := atMap (fun r => intsD (waits r)) rows (i := 0 + (i : Int)) (n := i) (by omega) hi
    rw [hWD]
    show atI (rows.map fun r => intsD (waits r)) (0 + (i : Int)) = _
    rw [this, List.getD_eq_getElem?_getD, List.getElem?_eq_getElem hi]
    rfl
  have hsm : ∀ i, (waits (rows.getD i [])).length ≤ 100000 := fun i => by
    refine Nat.le_trans (waits_len _) ?_
    rw [List.getD_eq_getElem?_getD]
    cases q : rows[i]? with
    | none => simp
    | some r => exact h2 r (List.mem_of_getElem? q)
  -- the free ones
  have lf : ∀ (found : List Nat) (x3 : Cell), mLc (mRng1 (mCons (mCB lenF (mCons (mVarT 0) (mNil))) (mNil))) (hName 4) (t1_order_of) (e2_order_of) [4] [.fz (rowsD rows), .fz WD, .ow (intsD found), x3, .no, .no] = .ok (.list (((List.range rows.length).filter (freeB rows found)).map fun k : Nat => PyData.int (0 + (k : Int)))) [.fz (rowsD rows), .fz WD, .ow (intsD found), x3, .no, .no] := fun found x3 => by
    refine mlc_map (List.range rows.length) (fun k : Nat => PyData.int (0 + (k : Int))) (freeB rows found) _ (rng1_n (n := rows.length) (cons_ok (cb_ok (cons_ok rfl rfl) rfl (rows_len rows)) rfl) (by omega)) (by simp [big]; omega) rfl (fun i hi => ⟨[.fz (rowsD rows), .fz WD, .ow (intsD found), x3, .fz (.int (0 + (i : Int))), .no], rfl, ?_, fun _ => rfl, rfl⟩)
    have hi := List.mem_range.mp hi
    have a1 : inAF true (.int (0 + (i : Int))) (intsD found) = some (.bool (!decide (i ∈ found))) := by
      rw [show (0 : Int) + (i : Int) = (i : Int) by omega, in_good good_nat (by decide) true i found, if_pos rfl]
    have l2 : mLc (mSeqI (mOp ixF (mVarT 1) (mVarT 4))) (hName 5) (mYes) (e0_order_of) [5] [.fz (rowsD rows), .fz WD, .ow (intsD found), x3, .fz (.int (0 + (i : Int))), .no] = .ok (.list ((waits (rows.getD i [])).map fun j => PyData.bool (decide (j ∈ found)))) [.fz (rowsD rows), .fz WD, .ow (intsD found), x3, .fz (.int (0 + (i : Int))), .no] := by
      refine mlc_map0 (waits (rows.getD i [])) (fun k : Nat => PyData.int (k : Int)) _ (seqL_ok (op_ok rfl rfl rfl rfl (hwat i hi))) (by have := hsm i; simp only [big]; omega) rfl (fun j hj => ⟨_, rfl, ?_, rfl⟩)
      have a2 : inAF false (.int (j : Int)) (intsD found) = some (.bool (decide (j ∈ found))) := by
        rw [in_good good_nat (by decide) false j found, if_neg (by decide)]
      exact op_ok rfl rfl rfl rfl a2
    exact and_ok (tst_ok (op_ok rfl rfl rfl rfl a1)) (fun _ => tst_ok (cb_ok (cons_ok (mT_ok l2) rfl) rfl (allP (fun j => decide (j ∈ found)) _)))
  have lp := wp_while (α := Unit) (c := c3_order_of) (b := l4_order_of) (n := 1000000) (Q := fun r => ∃ found x3, found.length = rows.length ∧ Ord rows found ∧ r = [.fz (rowsD rows), .fz WD, .ow (intsD found), x3, .no, .no]) (ρ := [.fz (rowsD rows), .fz WD, .ow (intsD []), .no, .no, .no])
    (fun k r => ∃ found x3, k = (left rows.length found).length ∧ found.length + k = rows.length ∧ Ord rows found ∧ r = [.fz (rowsD rows), .fz WD, .ow (intsD found), x3, .no, .no]) rows.length (by omega) ⟨[], .no, ?_, by simp, ?_, rfl⟩ ?_
  · obtain ⟨r, e, found, x3, hl, ho, rfl⟩ := lp
    refine ⟨found, hl, ho, ?_⟩
    have wr := w_same_round h1 h2
    rw [← hWD] at wr
    unfold g_order_of
    rw [call1 (m := 5)]
    unfold b_order_of
    have s1 : sPar [false, true] [1, 2] (mCons (mCall0 g_same_round (mCons (mVar 0) (mNil))) (mCons (mLst (mNil)) (mNil))) [.fz (rowsD rows), .no, .no, .no, .no, .no] = .nx [.fz (rowsD rows), .fz WD, .ow (intsD []), .no, .no, .no] := par_ok (cons_ok (call_ok rfl wr) (cons_ok rfl rfl)) rfl
    exact fin_rt (seq_to s1 (seq_to e (ret_ok rfl)))
  · unfold left
    have : ((List.range rows.length).filter fun j => !decide (j ∈ ([] : List Nat))) = List.range rows.length := List.filter_eq_self.mpr (fun _ _ => by simp)
    rw [this, List.length_range]
  · intro pre x post e
    simp at e
  · rintro k r ⟨found, x3, rfl, hsum, ho, rfl⟩
    have lfd : lenF [intsD found] = some (.int (found.length : Int)) := by
      show some (PyData.int ((found.map fun n : Nat => PyData.int (n : Int)).length : Int)) = _
      rw [List.length_map]
    have lt : ltF (.int (found.length : Int)) (.int (rows.length : Int)) = some (.bool (decide (found.length < rows.length))) := by
      unfold ltF
      rw [ev_cmp]
      congr 2
      rw [Bool.eq_iff_iff, decide_eq_true_iff, decide_eq_true_iff]
      omega
    have tst : c3_order_of [.fz (rowsD rows), .fz WD, .ow (intsD found), x3, .no, .no] = .ok (decide (found.length < rows.length)) [.fz (rowsD rows), .fz WD, .ow (intsD found), x3, .no, .no] := tst_ok (op_ok (mT_ok (cb_ok (cons_ok rfl rfl) rfl lfd)) (mT_ok (cb_ok (cons_ok rfl rfl) rfl (rows_len rows))) rfl rfl lt)
    by_cases hlt : found.length < rows.length
    · right
      rw [decide_eq_true hlt] at tst
      refine ⟨_, tst, ?_⟩
      obtain ⟨i, hi, hn, hw⟩ := free_ex (N := rows.length) (found := found) (W := fun i => waits (rows.getD i [])) hW (by omega)
      have hfi : freeB rows found i = true := by
        unfold freeB
        rw [Bool.and_eq_true, List.all_eq_true]
        exact ⟨by simpa using hn, fun j hj => decide_eq_true (hw j hj)⟩
      have him : i ∈ (List.range rows.length).filter (freeB rows found) := List.mem_filter.mpr ⟨List.mem_range.mpr hi, hfi⟩
      have l1 := lf found x3
      have hmem : ∀ y, y ∈ (List.range rows.length).filter (freeB rows found) → y < rows.length ∧ freeB rows found y = true := fun y hy => ⟨List.mem_range.mp (List.mem_filter.mp hy).1, (List.mem_filter.mp hy).2⟩
      generalize (List.range rows.length).filter (freeB rows found) = fs at him l1 hmem
      cases fs with
      | nil => simp at him
      | cons x fs =>
        obtain ⟨hx1, hx2⟩ := hmem x (List.mem_cons_self ..)
        have hxn : x ∉ found := by
          unfold freeB at hx2
          rw [Bool.and_eq_true] at hx2
          simpa using hx2.1
        refine wp_seq (wp_set l1 rfl ?_)
        have ne := good_int.list.eqF ((x :: fs).map fun k : Nat => 0 + (k : Int)) []
        rw [List.map_map, decide_eq_false (by simp)] at ne
        refine wp_seq (wp_not (tst_ok (op_ok rfl (mT_ok rfl) rfl rfl ne)) ?_)
        have a0 : ixF (.list ((x :: fs).map fun k : Nat => PyData.int (0 + (k : Int)))) (.int 0) = some (.int (x : Int)) := by
          rw [List.map_cons]
          refine (ev_a0 _ _).trans ?_
          rw [show (0 : Int) + (x : Int) = (x : Int) by omega]
        have ll := left_less hx1 hxn
        refine wp_app (r := []) (ds := found.map fun n : Nat => PyData.int (n : Int)) (d := .int (x : Int)) rfl (op_ok rfl (mT_ok rfl) rfl rfl a0) (by rw [List.length_map]; omega) rfl ⟨(left rows.length (found ++ [x])).length, by omega, found ++ [x], .fz (.list ((x :: fs).map fun k : Nat => PyData.int (0 + (k : Int)))), rfl, by rw [List.length_append, List.length_singleton]; omega, ho.snoc hx1 hx2, ?_⟩
        unfold intsD
        rw [List.map_append]
        rfl
    · left
      rw [decide_eq_false hlt] at tst
      exact ⟨_, tst, found, x3, by omega, ho, rfl⟩
theorem NetOk.src {n : Net} (h : NetOk n) : SrcOk n.2.1 := fun row hr a ha j hj => by
  have := (h.arc row hr a ha).1
  obtain ⟨s, d, b⟩ := a
  rcases s with _ | ⟨_ | _, k⟩
  · cases hj
  · cases hj
  · have h2 : k.val < n.2.1.length := this
    have : k.val = j := Option.some.inj hj
    omega
theorem NetOk.order {n : Net} (h : NetOk n) : ∃ found : List Nat, found.length = n.2.1.length ∧ Ord n.2.1 found ∧ g_order_of [rowsD n.2.1] = .ok (intsD found) := by
  obtain ⟨rk, hrk⟩ := h.rank
  have := h.r5
  exact w_order (by omega) (fun r hr => Nat.le_trans (h.few r hr) (by decide)) h.src hrk
theorem NetOk.net {n : Net} (h : NetOk n) : g_is_net [netD n] = .ok (.bool true) := by
  have hr5 := h.r5
  have s := w_shaped h
  have b := w_all_back (rows := n.2.1) (by omega) (fun r hr => Nat.le_trans (h.few r hr) (by decide))
  obtain ⟨found, _, _, o⟩ := h.order
  have l8 : leF (.int ((n.2.1.map fun r => (r.map fun a => a.2.2).sum).sum : Nat)) (.int 8) = some (.bool true) := le_nat (b := 8) h.back
  have row1 : ixF (netD n) (.int 1) = some (rowsD n.2.1) := rfl
  have p1 : mCall0 g_is_shaped (mCons (mVar 0) (mNil)) [.fz (netD n)] = .ok (.bool true) [.fz (netD n)] := call_ok rfl s
  have p2 : mOp leF (mT (mCall0 g_all_back (mCons (mOp ixF (mVarT 0) (mT (ret (.int 1)))) (mNil)))) (mT (ret (.int 8))) [.fz (netD n)] = .ok (.bool true) [.fz (netD n)] := op_ok (mT_ok (call_ok (cons_ok (op_ok rfl (mT_ok rfl) rfl rfl row1) rfl) b)) (mT_ok rfl) rfl rfl l8
  have p3 : mOp (isF true) (mT (mCall0 g_order_of (mCons (mOp ixF (mVarT 0) (mT (ret (.int 1)))) (mNil)))) (mT (ret .none)) [.fz (netD n)] = .ok (.bool true) [.fz (netD n)] := op_ok (mT_ok (call_ok (cons_ok (op_ok rfl (mT_ok rfl) rfl rfl row1) rfl) o)) (mT_ok rfl) rfl rfl rfl
  unfold g_is_net
  rw [call1 (m := 0)]
  unfold b_is_net
  exact fin_rt (ret_ok (andV_ok (x := true) (y := true) p1 (fun _ => andV_ok (x := true) (y := true) p2 (fun _ => p3))))
theorem NetOk.need {n : Net} (h : NetOk n) : g_need_net [netD n] = .ok .none := by
  unfold g_need_net
  rw [call1 (m := 0)]
  unfold b_need_net
  exact fin_nx (ifs_f (not_ok (tst_ok (call_ok rfl h.net))) rfl)
end Rn
end

section
set_option Elab.async false
set_option linter.all false
set_option maxRecDepth 100000
set_option maxHeartbeats 4000000
/-! NetL: what _law_net draws, arc by arc. -/
namespace Rn
open PySem PySem.Spec L2
structure ArcPre (given many ev : Nat) (a : Arc) : Prop where
  src : srcOk given many a.1
  dl : a.2.1 ≤ 9
  bk : a.2.2 ≤ 3
  low : a.2.2 = 0 → ∀ j, evOf a.1 = some j → j < ev
abbrev rN (d : D) (most inp many given : Nat) (x5 : Cell) (left : Nat) (x7 x8 x9 x10 x11 x12 x13 : Cell) : Rho := [.bw d, .fz (.int (most : Nat)), .fz (.int (inp : Nat)), .fz (.int (many : Nat)), .fz (.int (given : Nat)), x5, .fz (.int (left : Nat)), x7, x8, x9, x10, x11, x12, x13]
abbrev owR (r : List Arc) : Cell := .ow (.list (r.map arcD))
theorem src_e {d : D} (hd : IsDice d) {many : Nat} (h0 : 0 < many) (h : many ≤ 9) : ∃ (k : Fin 10) (x : Nat) (d' : D), IsDice d' ∧ k.val = x ∧ x < many ∧ noEx c__law_roll d [.int (many : Nat)] = .ok (.int (x : Nat)) d' ∧ strF [.int (x : Int)] = some (.str (toString (x : Int))) ∧ addF (.str "e") (.str (toString (x : Int))) = some (srcD (some (true, k))) ∧ addF (.str "u") (.str (toString (x : Int))) = some (srcD (some (false, k))) := by
  obtain ⟨x, d', hx, hd', q⟩ := roll_n hd (many : Nat) many rfl h0 (by omega)
  have hx10 : x < 10 := by omega
  exact ⟨⟨x, hx10⟩, x, d', hd', rfl, hx, q, dig_s ⟨x, hx10⟩, dig_e ⟨x, hx10⟩, dig_u ⟨x, hx10⟩⟩
theorem arc_draw {d : D} (hd : IsDice d) {most inp many given left ev : Nat} {x5 x8 x10 : Cell} {row : List Arc} {x11 x12 x13 : Cell} (hm0 : 0 < many) (hm : many ≤ 9) (hg : given ≤ 9) (hrow : row.length ≤ 100) :
    Wp l0__law_net (fun r => ∃ (d' : D) (left' : Nat) (row' : List Arc) (y11 y12 y13 : Cell), IsDice d' ∧ ((row' = row ∧ left' = left) ∨ ∃ a, ArcPre given many ev a ∧ a.2.2 ≤ left ∧ left' + a.2.2 = left ∧ row' = row ++ [a]) ∧ r = rN d' most inp many given x5 left' (.fz (.int (ev : Nat))) x8 (owR row') x10 y11 y12 y13)
      (rN d most inp many given x5 left (.fz (.int (ev : Nat))) x8 (owR row) x10 x11 x12 x13) := by
  -- back
  obtain ⟨i, d1, hi, hd1, q1⟩ := roll_n hd 6 6 rfl (by decide) (by decide)
  obtain ⟨b, hb, eb⟩ : ∃ b : Nat, b ≤ 3 ∧ atI [PyData.int 0, PyData.int 1, PyData.int 1, PyData.int 2, PyData.int 0, PyData.int 3] (i : Int) = some (.int (b : Nat)) := by
    match i, hi with
    | 0, _ => exact ⟨0, by decide, rfl⟩
    | 1, _ => exact ⟨1, by decide, rfl⟩
    | 2, _ => exact ⟨1, by decide, rfl⟩
    | 3, _ => exact ⟨2, by decide, rfl⟩
    | 4, _ => exact ⟨0, by decide, rfl⟩
    | 5, _ => exact ⟨3, by decide, rfl⟩
  refine wp_seq (wp_set (d := .int (b : Nat)) (r := rN d1 most inp many given x5 left (.fz (.int (ev : Nat))) x8 (owR row) x10 x11 x12 x13) (op_ok (mT_ok rfl) (mT_ok (callB_ok rfl rfl rfl q1 rfl)) rfl rfl eb) rfl ?_)
  -- pick
  obtain ⟨pk, d2, hpk, hd2, q2⟩ := roll_n hd1 4 4 rfl (by decide) (by decide)
  refine wp_seq (wp_set (d := .int (pk : Nat)) (r := rN d2 most inp many given x5 left (.fz (.int (ev : Nat))) x8 (owR row) x10 (.fz (.int (b : Nat))) x12 x13) (callB_ok rfl rfl rfl q2 rfl) rfl ?_)
  -- source
  obtain ⟨k, x, d3, hd3, hkx, hxm, q3, ds, de, _⟩ := src_e hd2 hm0 hm
  refine wp_seq (wp_set (d := srcD (some (true, k))) (r := rN d3 most inp many given x5 left (.fz (.int (ev : Nat))) x8 (owR row) x10 (.fz (.int (b : Nat))) (.fz (.int (pk : Nat))) x13) (op_ok (mT_ok rfl) (mT_ok (cb_ok (cons_ok (mT_ok (callB_ok rfl (cons_ok rfl rfl) rfl q3 rfl)) rfl) rfl ds)) rfl rfl de) rfl ?_)
  -- from here on: any good source
  have rest : ∀ (s : Src) (d4 : D), IsDice d4 → srcOk given many s → Wp (sSeq (sIf (mAnd (mTst (mOp eqF (mT (mOp ixF (mVarT 13) (mT (ret (.int 0))))) (mT (ret (.str "e"))))) (mAnd (mTst (mOp geF (mT (mCB intF (mCons (mT (mSl slF (mVarT 13) (mPart (ret (.int 1))) (mNoPart))) (mNil)))) (mVarT 7))) (mTst (mOp eqF (mVarT 11) (mT (ret (.int 0))))))) (sAsg (ret (.int 1)) (hName 11)) (sNext))
      (sIf (mTst (mOp leF (mVarT 11) (mVarT 6))) (sSeq (sAsg (mOp subF (mVarT 6) (mVarT 11)) (hName 6))
      (sAppend 9 (mTup (mCons (mVar 13) (mCons (mCallB (noEx c__law_roll) 0 (mCons (ret (.int 10)) (mNil))) (mCons (mVar 11) (mNil))))))) (sNext))) (fun r => ∃ (d' : D) (left' : Nat) (row' : List Arc) (y11 y12 y13 : Cell), IsDice d' ∧ ((row' = row ∧ left' = left) ∨ ∃ a, ArcPre given many ev a ∧ a.2.2 ≤ left ∧ left' + a.2.2 = left ∧ row' = row ++ [a]) ∧ r = rN d' most inp many given x5 left' (.fz (.int (ev : Nat))) x8 (owR row') x10 y11 y12 y13)
      (rN d4 most inp many given x5 left (.fz (.int (ev : Nat))) x8 (owR row) x10 (.fz (.int (b : Nat))) (.fz (.int (pk : Nat))) (.fz (srcD s))) := by
    intro s d4 hd4 hs
    -- the last part
    have last : ∀ (b' : Nat), b' ≤ 3 → (b' = 0 → ∀ j, evOf s = some j → j < ev) → Wp (sIf (mTst (mOp leF (mVarT 11) (mVarT 6))) (sSeq (sAsg (mOp subF (mVarT 6) (mVarT 11)) (hName 6))
      (sAppend 9 (mTup (mCons (mVar 13) (mCons (mCallB (noEx c__law_roll) 0 (mCons (ret (.int 10)) (mNil))) (mCons (mVar 11) (mNil))))))) (sNext)) (fun r => ∃ (d' : D) (left' : Nat) (row' : List Arc) (y11 y12 y13 : Cell), IsDice d' ∧ ((row' = row ∧ left' = left) ∨ ∃ a, ArcPre given many ev a ∧ a.2.2 ≤ left ∧ left' + a.2.2 = left ∧ row' = row ++ [a]) ∧ r = rN d' most inp many given x5 left' (.fz (.int (ev : Nat))) x8 (owR row') x10 y11 y12 y13)
      (rN d4 most inp many given x5 left (.fz (.int (ev : Nat))) x8 (owR row) x10 (.fz (.int (b' : Nat))) (.fz (.int (pk : Nat))) (.fz (srcD s))) := by
      intro b' hb' hlow
      have le : leF (.int (b' : Int)) (.int (left : Int)) = some (.bool (decide (b' ≤ left))) := by
        unfold leF
        rw [ev_cmp]
        congr 2
        rw [Bool.eq_iff_iff, decide_eq_true_iff, decide_eq_true_iff]
        omega
      refine wp_if (tst_ok (op_ok rfl rfl rfl rfl le)) (fun z => ?_) (fun z => ?_)
      · have z := of_decide_eq_true z
        obtain ⟨dl, d5, hdl, hd5, q5⟩ := roll_n hd4 10 10 rfl (by decide) (by decide)
        have es : subF (.int (left : Int)) (.int (b' : Int)) = some (.int ((left - b' : Nat) : Int)) := by
          rw [ev_sub, show (left : Int) - (b' : Int) = ((left - b' : Nat) : Int) by omega]
        refine wp_seq (wp_set (d := .int ((left - b' : Nat) : Int)) (r := rN d4 most inp many given x5 left (.fz (.int (ev : Nat))) x8 (owR row) x10 (.fz (.int (b' : Nat))) (.fz (.int (pk : Nat))) (.fz (srcD s))) (op_ok rfl rfl rfl rfl es) rfl ?_)
        refine wp_append (d := arcD (s, dl, b')) (r := rN d5 most inp many given x5 (left - b') (.fz (.int (ev : Nat))) x8 (owR row) x10 (.fz (.int (b' : Nat))) (.fz (.int (pk : Nat))) (.fz (srcD s))) rfl (tup_ok (cons_ok rfl (cons_ok (callB_ok rfl rfl rfl q5 rfl) (cons_ok rfl rfl))) (show (3 : Nat) ≤ 100 by decide)) rfl (by simp [big]; omega) rfl ?_
        refine ⟨d5, left - b', row ++ [(s, dl, b')], .fz (.int (b' : Nat)), .fz (.int (pk : Nat)), .fz (srcD s), hd5, .inr ⟨(s, dl, b'), ⟨hs, by simp only; omega, hb', hlow⟩, z, by simp only; omega, rfl⟩, ?_⟩
        unfold owR
        rw [List.map_append]
        rfl
      · exact wp_next ⟨d4, left, row, _, _, _, hd4, .inl ⟨rfl, rfl⟩, rfl⟩
    have hd := src_head s
    have eh := eqF_s (srcH s) "e"
    rcases s with _ | ⟨_ | _, k⟩
    · rw [decide_eq_false (show ¬ srcH none = "e" by decide)] at eh
      refine wp_seq (wp_not (and_f (tst_ok (op_ok (mT_ok (op_ok rfl (mT_ok rfl) rfl rfl hd)) (mT_ok rfl) rfl rfl eh))) (last b hb (fun _ j hj => by cases hj)))
    · rw [decide_eq_false (show ¬ srcH (some (false, k)) = "e" by show ¬ (("u" : Str) = "e"); decide)] at eh
      refine wp_seq (wp_not (and_f (tst_ok (op_ok (mT_ok (op_ok rfl (mT_ok rfl) rfl rfl hd)) (mT_ok rfl) rfl rfl eh))) (last b hb (fun _ j hj => by cases hj)))
    · rw [decide_eq_true (show srcH (some (true, k)) = "e" from rfl)] at eh
      have tl := src_tail k
      have di := dig_i k
      have num : mCB intF (mCons (mT (mSl slF (mVarT 13) (mPart (ret (.int 1))) (mNoPart))) (mNil)) (rN d4 most inp many given x5 left (.fz (.int (ev : Nat))) x8 (owR row) x10 (.fz (.int (b : Nat))) (.fz (.int (pk : Nat))) (.fz (srcD (some (true, k))))) = .ok (.int (k.val : Int)) (rN d4 most inp many given x5 left (.fz (.int (ev : Nat))) x8 (owR row) x10 (.fz (.int (b : Nat))) (.fz (.int (pk : Nat))) (.fz (srcD (some (true, k))))) := by
        have sl : mSl slF (mVarT 13) (mPart (ret (.int 1))) (mNoPart) (rN d4 most inp many given x5 left (.fz (.int (ev : Nat))) x8 (owR row) x10 (.fz (.int (b : Nat))) (.fz (.int (pk : Nat))) (.fz (srcD (some (true, k))))) = .ok (.str (toString (k.val : Int))) (rN d4 most inp many given x5 left (.fz (.int (ev : Nat))) x8 (owR row) x10 (.fz (.int (b : Nat))) (.fz (.int (pk : Nat))) (.fz (srcD (some (true, k))))) := by
          show lft (slF (srcD (some (true, k))) (some 1) none) _ = _
          rw [tl]
          rfl
        exact cb_ok (cons_ok (mT_ok sl) rfl) rfl di
      have ge : geF (.int (k.val : Int)) (.int (ev : Int)) = some (.bool (decide (ev ≤ k.val))) := by
        unfold geF
        rw [ev_cmp]
        congr 2
        rw [Bool.eq_iff_iff, decide_eq_true_iff, decide_eq_true_iff]
        omega
      have e0 : eqF (.int (b : Int)) (.int 0) = some (.bool (decide (b = 0))) := good_nat.eqF b 0
      refine wp_seq (wp_if (b := decide (ev ≤ k.val) && decide (b = 0)) (r := rN d4 most inp many given x5 left (.fz (.int (ev : Nat))) x8 (owR row) x10 (.fz (.int (b : Nat))) (.fz (.int (pk : Nat))) (.fz (srcD (some (true, k))))) (and_t (tst_ok (op_ok (mT_ok (op_ok rfl (mT_ok rfl) rfl rfl hd)) (mT_ok rfl) rfl rfl eh)) (and_ok (tst_ok (op_ok (mT_ok num) rfl rfl rfl ge)) (fun _ => tst_ok (op_ok rfl (mT_ok rfl) rfl rfl e0)))) (fun z => ?_) (fun z => ?_))
      · exact wp_set (d := .int ((1 : Nat) : Int)) rfl rfl (last 1 (by decide) (fun h => by cases h))
      · refine wp_next (last b hb (fun hb0 j hj => ?_))
        have hj : k.val = j := Option.some.inj hj
        rw [hb0, decide_eq_true rfl, Bool.and_true] at z
        have := of_decide_eq_false z
        omega
  have e0 : eqF (.int (pk : Int)) (.int 0) = some (.bool (decide (pk = 0))) := good_nat.eqF pk 0
  have e1 : eqF (.int (pk : Int)) (.int 1) = some (.bool (decide (pk = 1))) := good_nat.eqF pk 1
  have gt : gtF (.int (given : Int)) (.int 0) = some (.bool (decide (0 < given))) := by
    unfold gtF
    rw [ev_cmp]
    congr 2
    rw [Bool.eq_iff_iff, decide_eq_true_iff, decide_eq_true_iff]
    omega
  have hsk : srcOk given many (some (true, k)) := by show k.val < many; omega
  -- pick == 1
  have mid : ∀ (s : Src), srcOk given many s → Wp (sSeq (sIf (mAnd (mTst (mOp eqF (mVarT 12) (mT (ret (.int 1))))) (mTst (mOp gtF (mVarT 4) (mT (ret (.int 0)))))) (sAsg (mOp addF (mT (ret (.str "u"))) (mT (mCB strF (mCons (mT (mCallB (noEx c__law_roll) 0 (mCons (mVar 4) (mNil)))) (mNil))))) (hName 13)) (sNext)) (sSeq (sIf (mAnd (mTst (mOp eqF (mT (mOp ixF (mVarT 13) (mT (ret (.int 0))))) (mT (ret (.str "e"))))) (mAnd (mTst (mOp geF (mT (mCB intF (mCons (mT (mSl slF (mVarT 13) (mPart (ret (.int 1))) (mNoPart))) (mNil)))) (mVarT 7))) (mTst (mOp eqF (mVarT 11) (mT (ret (.int 0))))))) (sAsg (ret (.int 1)) (hName 11)) (sNext))
      (sIf (mTst (mOp leF (mVarT 11) (mVarT 6))) (sSeq (sAsg (mOp subF (mVarT 6) (mVarT 11)) (hName 6))
      (sAppend 9 (mTup (mCons (mVar 13) (mCons (mCallB (noEx c__law_roll) 0 (mCons (ret (.int 10)) (mNil))) (mCons (mVar 11) (mNil))))))) (sNext)))) (fun r => ∃ (d' : D) (left' : Nat) (row' : List Arc) (y11 y12 y13 : Cell), IsDice d' ∧ ((row' = row ∧ left' = left) ∨ ∃ a, ArcPre given many ev a ∧ a.2.2 ≤ left ∧ left' + a.2.2 = left ∧ row' = row ++ [a]) ∧ r = rN d' most inp many given x5 left' (.fz (.int (ev : Nat))) x8 (owR row') x10 y11 y12 y13)
      (rN d3 most inp many given x5 left (.fz (.int (ev : Nat))) x8 (owR row) x10 (.fz (.int (b : Nat))) (.fz (.int (pk : Nat))) (.fz (srcD s))) := by
    intro s hs
    refine wp_seq (wp_if (b := decide (pk = 1) && decide (0 < given)) (r := rN d3 most inp many given x5 left (.fz (.int (ev : Nat))) x8 (owR row) x10 (.fz (.int (b : Nat))) (.fz (.int (pk : Nat))) (.fz (srcD s))) (and_ok (tst_ok (op_ok rfl (mT_ok rfl) rfl rfl e1)) (fun _ => tst_ok (op_ok rfl (mT_ok rfl) rfl rfl gt))) (fun z => ?_) (fun z => ?_))
    · rw [Bool.and_eq_true] at z
      have hg0 := of_decide_eq_true z.2
      obtain ⟨u, y, d4, hd4, huy, hyg, q4, ds4, _, du⟩ := src_e hd3 hg0 hg
      refine wp_set (d := srcD (some (false, u))) (r := rN d4 most inp many given x5 left (.fz (.int (ev : Nat))) x8 (owR row) x10 (.fz (.int (b : Nat))) (.fz (.int (pk : Nat))) (.fz (srcD s))) (op_ok (mT_ok rfl) (mT_ok (cb_ok (cons_ok (mT_ok (callB_ok rfl (cons_ok rfl rfl) rfl q4 rfl)) rfl) rfl ds4)) rfl rfl du) rfl (rest _ d4 hd4 ?_)
      show u.val < given
      omega
    · exact wp_next (rest s d3 hd3 hs)
  refine wp_seq (wp_if (b := decide (pk = 0)) (r := rN d3 most inp many given x5 left (.fz (.int (ev : Nat))) x8 (owR row) x10 (.fz (.int (b : Nat))) (.fz (.int (pk : Nat))) (.fz (srcD (some (true, k))))) (tst_ok (op_ok rfl (mT_ok rfl) rfl rfl e0)) (fun z => ?_) (fun z => ?_))
  · exact wp_set (d := srcD none) rfl rfl (mid none trivial)
  · exact wp_next (mid _ hsk)
end Rn
end

section
set_option Elab.async false
set_option linter.all false
set_option maxRecDepth 100000
set_option maxHeartbeats 4000000
/-! NetM: what _law_net draws, row by row. -/
namespace Rn
open PySem PySem.Spec L2
theorem rng1_s {f : M (List D)} {r r2 : Rho} {n : Nat} (h : f r = .ok [.int (n : Int)] r2) (hn : n ≤ 1000000) : mRng1 f r = .ok ((List.range n).map fun k : Nat => PyData.int (0 + (k : Int))) r2 := by
  rw [ev_rn1, ev_bnd, h]
  have h1 : (n : Int) ≤ 1000000 ∧ -1000000 ≤ (n : Int) := by omega
  simp only [if_pos h1, rangeD_map, ev_ret, Int.toNat_natCast]
def backs (r : List Arc) : Nat := (r.map fun a => a.2.2).sum
theorem backs_snoc (r : List Arc) (a : Arc) : backs (r ++ [a]) = backs r + a.2.2 := by simp [backs]
abbrev owRs (rs : Rows) : Cell := .ow (.list (rs.map rowD))
theorem row_draw {d : D} (hd : IsDice d) {most inp many given left ev : Nat} {x8 x9 x10 x11 x12 x13 : Cell} {rows : Rows} (hm0 : 0 < many) (hm : many ≤ 9) (hg : given ≤ 9) (hrs : rows.length ≤ 100) :
    Wp l1__law_net (fun r => ∃ (d' : D) (left' : Nat) (row : List Arc) (y9 y10 y11 y12 y13 : Cell), IsDice d' ∧ (∀ a ∈ row, ArcPre given many ev a) ∧ row.length ≤ 3 ∧ left' + backs row = left ∧ r = rN d' most inp many given (owRs (rows ++ [row])) left' (.fz (.int (ev : Nat))) x8 y9 y10 y11 y12 y13)
      (rN d most inp many given (owRs rows) left (.fz (.int (ev : Nat))) x8 x9 x10 x11 x12 x13) := by
  refine wp_seq (wp_own (d := .list []) rfl ?_)
  obtain ⟨t, d1, ht, hd1, q1⟩ := roll_n hd 4 4 rfl (by decide) (by decide)
  refine wp_seq (wp_for (fun k : Nat => PyData.int (0 + (k : Int))) (List.range t) (fun pre r => ∃ (d' : D) (left' : Nat) (row : List Arc) (y10 y11 y12 y13 : Cell), IsDice d' ∧ (∀ a ∈ row, ArcPre given many ev a) ∧ row.length ≤ pre.length ∧ left' + backs row = left ∧ r = rN d' most inp many given (owRs rows) left' (.fz (.int (ev : Nat))) x8 (owR row) y10 y11 y12 y13) (ρ0 := rN d1 most inp many given (owRs rows) left (.fz (.int (ev : Nat))) x8 (owR []) x10 x11 x12 x13) (rng1_s (cons_ok (callB_ok rfl rfl rfl q1 rfl) rfl) (by omega)) ⟨d1, left, [], x10, x11, x12, x13, hd1, by simp, by simp, rfl, rfl⟩ ?_ ?_)
  · rintro pre i post ex r ⟨d2, left2, row, y10, y11, y12, y13, hd2, hok, hlen, hsum, rfl⟩
    obtain ⟨hi, hlt⟩ := range_pos ex
    refine ⟨rN d2 most inp many given (owRs rows) left2 (.fz (.int (ev : Nat))) x8 (owR row) (.fz (.int (0 + (i : Int)))) y11 y12 y13, rfl, ?_⟩
    obtain ⟨r3, e3, d3, left3, row3, z11, z12, z13, hd3, hcase, hr3⟩ := arc_draw hd2 (most := most) (inp := inp) (many := many) (given := given) (left := left2) (ev := ev) (x5 := owRs rows) (x8 := x8) (x10 := .fz (.int (0 + (i : Int)))) (row := row) (x11 := y11) (x12 := y12) (x13 := y13) hm0 hm hg (by omega)
    refine ⟨r3, e3, d3, left3, row3, _, z11, z12, z13, hd3, ?_, ?_, ?_, hr3⟩
    · rcases hcase with ⟨rfl, rfl⟩ | ⟨a, ha, _, _, rfl⟩
      · exact hok
      · intro c hc
        rcases List.mem_append.mp hc with h | h
        · exact hok c h
        · rw [List.mem_singleton.mp h]; exact ha
    · rw [List.length_append, List.length_singleton]
      rcases hcase with ⟨rfl, rfl⟩ | ⟨a, ha, _, _, rfl⟩
      · omega
      · rw [List.length_append, List.length_singleton]; omega
    · rcases hcase with ⟨rfl, rfl⟩ | ⟨a, ha, h1, h2, rfl⟩
      · exact hsum
      · rw [backs_snoc]; omega
  · rintro r ⟨d2, left2, row, y10, y11, y12, y13, hd2, hok, hlen, hsum, rfl⟩
    rw [List.length_range] at hlen
    refine wp_app (r := []) (ds := rows.map rowD) (d := rowD row) rfl (cb_ok (cons_ok rfl rfl) rfl rfl) (by rw [List.length_map]; omega) rfl ⟨d2, left2, row, owR row, y10, y11, y12, y13, hd2, hok, by omega, hsum, ?_⟩
    unfold owRs
    rw [List.map_append]
    rfl
/-- rows as drawn -/
structure RowsPre (given many : Nat) (rows : Rows) : Prop where
  few : ∀ r ∈ rows, r.length ≤ 3
  pre : ∀ i, ∀ a ∈ rows.getD i [], ArcPre given many i a
theorem getD_snoc {rows : Rows} {row : List Arc} (i : Nat) : (rows ++ [row]).getD i [] = if i < rows.length then rows.getD i [] else if i = rows.length then row else [] := by
  rw [List.getD_eq_getElem?_getD, List.getD_eq_getElem?_getD]
  by_cases h : i < rows.length
  · rw [if_pos h, List.getElem?_append_left h]
  · rw [if_neg h, List.getElem?_append_right (by omega)]
    by_cases h2 : i = rows.length
    · rw [if_pos h2, h2, Nat.sub_self]; rfl
    · rw [if_neg h2, List.getElem?_eq_none (by simp; omega)]; rfl
theorem RowsPre.snoc {given many : Nat} {rows : Rows} {row : List Arc} (h : RowsPre given many rows) (h1 : row.length ≤ 3) (h2 : ∀ a ∈ row, ArcPre given many rows.length a) : RowsPre given many (rows ++ [row]) := by
  refine ⟨fun r hr => ?_, fun i a ha => ?_⟩
  · rcases List.mem_append.mp hr with z | z
    · exact h.few r z
    · rw [List.mem_singleton.mp z]; exact h1
  · rw [getD_snoc] at ha
    split at ha
    · exact h.pre i a ha
    · split at ha
      · next e => rw [e]; exact h2 a ha
      · simp at ha
theorem rows_draw {d : D} (hd : IsDice d) {most inp many given : Nat} (hm0 : 0 < many) (hm : many ≤ 5) (hg : given ≤ 2) {x7 x8 x9 x10 x11 x12 x13 : Cell} {Q : Rho → Prop}
    (q : ∀ (d' : D) (left : Nat) (rows : Rows) (y7 y9 y10 y11 y12 y13 : Cell), IsDice d' → rows.length = many → RowsPre given many rows → left + (rows.map backs).sum = 8 → Q (rN d' most inp many given (owRs rows) left y7 x8 y9 y10 y11 y12 y13)) :
    Wp (sFor (mRng1 (mCons (mVar 3) (mNil))) (hName 7) (l1__law_net)) Q (rN d most inp many given (owRs []) 8 x7 x8 x9 x10 x11 x12 x13) := by
  refine wp_for (fun k : Nat => PyData.int (0 + (k : Int))) (List.range many) (fun pre r => ∃ (d' : D) (left : Nat) (rows : Rows) (y7 y9 y10 y11 y12 y13 : Cell), IsDice d' ∧ rows.length = pre.length ∧ RowsPre given many rows ∧ left + (rows.map backs).sum = 8 ∧ r = rN d' most inp many given (owRs rows) left y7 x8 y9 y10 y11 y12 y13) (rng1_n rfl (by omega)) ⟨d, 8, [], x7, x9, x10, x11, x12, x13, hd, rfl, ⟨by simp, fun i a ha => by simp at ha⟩, rfl, rfl⟩ ?_ ?_
  · rintro pre i post ex r ⟨d2, left2, rows, y7, y9, y10, y11, y12, y13, hd2, hlen, hpre, hsum, rfl⟩
    obtain ⟨hi, hlt⟩ := range_pos ex
    refine ⟨rN d2 most inp many given (owRs rows) left2 (.fz (.int (i : Nat))) x8 y9 y10 y11 y12 y13, ?_, ?_⟩
    · rw [show (0 : Int) + (i : Int) = (i : Int) by omega]
      rfl
    obtain ⟨r3, e3, d3, left3, row, z9, z10, z11, z12, z13, hd3, hok, hl3, hs3, hr3⟩ := row_draw hd2 (most := most) (inp := inp) (many := many) (given := given) (left := left2) (ev := i) (x8 := x8) (x9 := y9) (x10 := y10) (x11 := y11) (x12 := y12) (x13 := y13) (rows := rows) hm0 (by omega) (by omega) (by omega)
    refine ⟨r3, e3, d3, left3, rows ++ [row], _, z9, z10, z11, z12, z13, hd3, by rw [List.length_append, List.length_append, hlen]; rfl, hpre.snoc hl3 (fun a ha => ?_), ?_, hr3⟩
    · rw [hlen, ← hi]; exact hok a ha
    · rw [List.map_append, List.sum_append]
      simp
      omega
  · rintro r ⟨d2, left2, rows, y7, y9, y10, y11, y12, y13, hd2, hlen, hpre, hsum, rfl⟩
    rw [List.length_range] at hlen
    exact q d2 left2 rows y7 y9 y10 y11 y12 y13 hd2 hlen hpre hsum
end Rn
end

section
set_option Elab.async false
set_option linter.all false
set_option maxRecDepth 100000
set_option maxHeartbeats 4000000
/-! NetN: a net with its events numbered otherwise. -/
namespace Rn
open PySem PySem.Spec L2
def rotS (t m : Nat) (s : Src) : Src := match s with
  | some (true, k) => some (true, Fin.ofNat 10 ((k.val + t) % m))
  | s => s
def rotR (t m : Nat) (r : List Arc) : List Arc := r.map fun a => (rotS t m a.1, a.2)
def rotL (t : Nat) (rs : Rows) : Rows := rs.drop (rs.length - t) ++ rs.take (rs.length - t)
def rotN (t : Nat) (n : Net) : Net := (n.1, rotL t (n.2.1.map (rotR t n.2.1.length)), n.2.2.map fun o => (o + t) % n.2.1.length)
theorem rotL_len (t : Nat) (rs : Rows) : (rotL t rs).length = rs.length := by
  unfold rotL
  rw [List.length_append, List.length_drop, List.length_take]
  omega
theorem rotL_mem {t : Nat} {rs : Rows} {r : List Arc} (h : r ∈ rotL t rs) : r ∈ rs := by
  unfold rotL at h
  rcases List.mem_append.mp h with h | h
  · exact List.mem_of_mem_drop h
  · exact List.mem_of_mem_take h
/-- the row of event i stands at (i + t) % m -/
theorem rotL_at {t : Nat} {rs : Rows} (ht : t < rs.length) {i : Nat} (hi : i < rs.length) : (rotL t rs)[(i + t) % rs.length]? = rs[i]? := by
  unfold rotL
  by_cases h : i + t < rs.length
  · rw [Nat.mod_eq_of_lt h, List.getElem?_append_right (by rw [List.length_drop]; omega), List.length_drop, List.getElem?_take, if_pos (by omega)]
    congr 1
    omega
  · have e : (i + t) % rs.length = i + t - rs.length := by
      rw [Nat.mod_eq_sub_mod (by omega), Nat.mod_eq_of_lt (by omega)]
    rw [e, List.getElem?_append_left (by rw [List.length_drop]; omega), List.getElem?_drop]
    congr 1
    omega
theorem rot_uniq {t : Nat} {rs L : Rows} (ht : t < rs.length) (hl : L.length = rs.length) (h : ∀ i, i < rs.length → L[(i + t) % rs.length]? = rs[i]?) : L = rotL t rs := by
  refine List.ext_getElem? fun j => ?_
  by_cases hj : j < rs.length
  · obtain ⟨i, hi, e⟩ : ∃ i, i < rs.length ∧ (i + t) % rs.length = j := by
      by_cases hjt : j < t
      · refine ⟨rs.length - t + j, by omega, ?_⟩
        rw [show rs.length - t + j + t = rs.length + j by omega, Nat.add_mod_left, Nat.mod_eq_of_lt hj]
      · refine ⟨j - t, by omega, ?_⟩
        rw [show j - t + t = j by omega, Nat.mod_eq_of_lt hj]
    rw [← e, h i hi, rotL_at ht hi]
  · rw [List.getElem?_eq_none (by omega), List.getElem?_eq_none (by rw [rotL_len]; omega)]
theorem rotS_ok {t m ins : Nat} {s : Src} (hm0 : 0 < m) (hm : m ≤ 9) (h : srcOk ins m s) : srcOk ins m (rotS t m s) := by
  rcases s with _ | ⟨_ | _, k⟩
  · trivial
  · exact h
  · show (Fin.ofNat 10 ((k.val + t) % m)).val < m
    have := Nat.mod_lt (k.val + t) hm0
    rw [ofNat_val (by omega)]
    exact this
theorem rot_ev {t m : Nat} {s : Src} (hm0 : 0 < m) (hm : m ≤ 9) {j : Nat} (h : evOf (rotS t m s) = some j) : ∃ k, evOf s = some k ∧ j = (k + t) % m := by
  rcases s with _ | ⟨_ | _, k⟩
  · cases h
  · cases h
  · refine ⟨k.val, rfl, ?_⟩
    have h : (Fin.ofNat 10 ((k.val + t) % m)).val = j := Option.some.inj h
    have := Nat.mod_lt (k.val + t) hm0
    rw [ofNat_val (by omega)] at h
    exact h.symm
theorem mod_back {k t m : Nat} (hk : k < m) (ht : t < m) : ((k + t) % m + (m - t)) % m = k := by
  by_cases h : k + t < m
  · rw [Nat.mod_eq_of_lt h, show k + t + (m - t) = m + k by omega, Nat.add_mod_left, Nat.mod_eq_of_lt hk]
  · have e : (k + t) % m = k + t - m := by
      rw [Nat.mod_eq_sub_mod (by omega), Nat.mod_eq_of_lt (by omega)]
    rw [e, show k + t - m + (m - t) = k by omega, Nat.mod_eq_of_lt hk]
theorem backs_rot (t m : Nat) (r : List Arc) : ((rotR t m r).map fun a => a.2.2).sum = (r.map fun a => a.2.2).sum := by
  unfold rotR
  rw [List.map_map]
  rfl
theorem NetOk.rot {n : Net} (h : NetOk n) {t : Nat} (ht : t < n.2.1.length) : NetOk (rotN t n) := by
  obtain ⟨i0, rows, outs⟩ := n
  have hr1 : 1 ≤ rows.length := h.r1
  have hr5 : rows.length ≤ 5 := h.r5
  have ht : t < rows.length := ht
  obtain ⟨R, hR⟩ : ∃ R, R = rows.map (rotR t rows.length) := ⟨_, rfl⟩
  have hRl : R.length = rows.length := by rw [hR, List.length_map]
  have hlen : (rotL t R).length = rows.length := by rw [rotL_len, hRl]
  have eN : rotN t (i0, rows, outs) = (i0, rotL t R, outs.map fun o => (o + t) % rows.length) := by rw [hR]; rfl
  rw [eN]
  have hmem : ∀ r ∈ rotL t R, ∃ r0 ∈ rows, r = rotR t rows.length r0 := fun r hr => by
    have := rotL_mem hr
    rw [hR] at this
    obtain ⟨r0, h0, e⟩ := List.mem_map.mp this
    exact ⟨r0, h0, e.symm⟩
  refine ⟨h.ins, by show 1 ≤ (rotL t R).length; omega, by show (rotL t R).length ≤ 5; omega, ?_, ?_, ?_, ?_, ?_, ?_, ?_⟩
  · intro r hr
    obtain ⟨r0, h0, rfl⟩ := hmem r hr
    unfold rotR
    rw [List.length_map]
    exact h.few r0 h0
  · intro r hr a ha
    obtain ⟨r0, h0, rfl⟩ := hmem r hr
    obtain ⟨a0, ha0, rfl⟩ := List.mem_map.mp ha
    obtain ⟨h1, h2, h3⟩ := h.arc r0 h0 a0 ha0
    show srcOk i0 (rotL t R).length _ ∧ _
    rw [hlen]
    exact ⟨rotS_ok (by omega) (by omega) h1, h2, h3⟩
  · show ((rotL t R).map fun r => (r.map fun a => a.2.2).sum).sum ≤ 8
    have e1 : ((rotL t R).map fun r => (r.map fun a => a.2.2).sum).sum = (R.map fun r => (r.map fun a => a.2.2).sum).sum := by
      unfold rotL
      have := congrArg (fun l : Rows => (l.map fun r => (r.map fun a => a.2.2).sum).sum) (List.take_append_drop (R.length - t) R)
      simp only [List.map_append, List.sum_append] at this ⊢
      omega
    have e2 : (R.map fun r => (r.map fun a => a.2.2).sum) = rows.map fun r => (r.map fun a => a.2.2).sum := by
      rw [hR, List.map_map]
      exact List.map_congr_left fun r _ => backs_rot t rows.length r
    rw [e1, e2]
    exact h.back
  · obtain ⟨rk, hrk⟩ := h.rank
    refine ⟨fun j => rk ((j + (rows.length - t)) % rows.length), fun i a ha hb j hj => ?_⟩
    have ha : a ∈ (rotL t R).getD i [] := ha
    by_cases hi : i < rows.length
    · obtain ⟨i1, hi1, e1⟩ : ∃ i1, i1 < rows.length ∧ (i1 + t) % rows.length = i := by
        by_cases hjt : i < t
        · refine ⟨rows.length - t + i, by omega, ?_⟩
          rw [show rows.length - t + i + t = rows.length + i by omega, Nat.add_mod_left, Nat.mod_eq_of_lt hi]
        · refine ⟨i - t, by omega, ?_⟩
          rw [show i - t + t = i by omega, Nat.mod_eq_of_lt hi]
      have e2 := rotL_at (t := t) (rs := R) (by omega) (i := i1) (by omega)
      rw [hRl, e1] at e2
      rw [List.getD_eq_getElem?_getD, e2, hR, List.getElem?_map, List.getElem?_eq_getElem hi1] at ha
      have ha : a ∈ rotR t rows.length rows[i1] := ha
      obtain ⟨a0, ha0, rfl⟩ := List.mem_map.mp ha
      obtain ⟨k, hk, hjk⟩ := rot_ev (by omega) (by omega) hj
      have hkm : k < rows.length := by
        have := h.src rows[i1] (List.getElem_mem hi1) a0 ha0 k hk
        exact this
      have := hrk i1 a0 (by
        show a0 ∈ rows.getD i1 []
        rw [List.getD_eq_getElem?_getD, List.getElem?_eq_getElem hi1]
        exact ha0) hb k hk
      show rk ((j + (rows.length - t)) % rows.length) < rk ((i + (rows.length - t)) % rows.length)
      rw [hjk, mod_back hkm ht, ← e1, mod_back hi1 ht]
      exact this
    · rw [List.getD_eq_getElem?_getD, List.getElem?_eq_none (by omega)] at ha
      simp at ha
  · show 1 ≤ (outs.map _).length
    rw [List.length_map]
    exact h.o1
  · show (outs.map _).length ≤ 3
    rw [List.length_map]
    exact h.o3
  · intro o ho
    obtain ⟨o0, h0, rfl⟩ := List.mem_map.mp ho
    show (o0 + t) % rows.length < (rotL t R).length
    rw [hlen]
    exact Nat.mod_lt _ (by omega)
end Rn
end

section
set_option Elab.async false
set_option linter.all false
set_option maxRecDepth 100000
set_option maxHeartbeats 4000000
/-! NetO: _law_renamed. -/
namespace Rn
open PySem PySem.Spec L2
abbrev rQ (d net : D) (m t : Nat) (x4 x5 x6 x7 x8 x9 x10 : Cell) : Rho := [.bw d, .fz net, .fz (.int (m : Nat)), .fz (.int (t : Nat)), x4, x5, x6, x7, x8, x9, x10, .no]
theorem mod_nat {a m : Nat} (h : 0 < m) : modF (.int (a : Int)) (.int (m : Int)) = some (.int ((a % m : Nat) : Int)) := by
  rw [md0 (by omega)]
  simp
theorem mod_inj {i j t m : Nat} (hi : i < m) (hj : j < m) (ht : t < m) (h : (i + t) % m = (j + t) % m) : i = j := by
  have h1 := mod_back hi ht
  have h2 := mod_back hj ht
  rw [h] at h1
  omega
theorem arc_rot {d net : D} {m t : Nat} (hm0 : 0 < m) (hm : m ≤ 9) {x4 x5 x6 : Cell} {some' : List Arc} {a : Arc} (hl : some'.length ≤ 100) :
    Wp l0__law_renamed (fun r => ∃ y8, r = rQ d net m t x4 x5 x6 (owR (some' ++ [(rotS t m a.1, a.2)])) y8 (.fz (.int (a.2.1 : Nat))) (.fz (.int (a.2.2 : Nat))))
      (rQ d net m t x4 x5 x6 (owR some') (.fz (srcD a.1)) (.fz (.int (a.2.1 : Nat))) (.fz (.int (a.2.2 : Nat)))) := by
  obtain ⟨s, dl, bk⟩ := a
  have last : ∀ s' : Src, Wp (sAppend 7 (mTup (mCons (mVar 8) (mCons (mVar 9) (mCons (mVar 10) (mNil)))))) (fun r => ∃ y8, r = rQ d net m t x4 x5 x6 (owR (some' ++ [(s', dl, bk)])) y8 (.fz (.int (dl : Nat))) (.fz (.int (bk : Nat)))) (rQ d net m t x4 x5 x6 (owR some') (.fz (srcD s')) (.fz (.int (dl : Nat))) (.fz (.int (bk : Nat)))) := fun s' => by
    refine wp_app (r := []) (ds := some'.map arcD) (d := arcD (s', dl, bk)) rfl (tup_ok (cons_ok rfl (cons_ok rfl (cons_ok rfl rfl))) (show (3 : Nat) ≤ 100 by decide)) (by rw [List.length_map]; omega) rfl ⟨.fz (srcD s'), ?_⟩
    unfold owR
    rw [List.map_append]
    rfl
  have hd := src_head s
  have eh := eqF_s (srcH s) "e"
  rcases s with _ | ⟨_ | _, k⟩
  · rw [decide_eq_false (show ¬ srcH none = "e" by decide)] at eh
    exact wp_seq (wp_not (tst_ok (op_ok (mT_ok (op_ok rfl (mT_ok rfl) rfl rfl hd)) (mT_ok rfl) rfl rfl eh)) (last none))
  · rw [decide_eq_false (show ¬ srcH (some (false, k)) = "e" by show ¬ (("u" : Str) = "e"); decide)] at eh
    exact wp_seq (wp_not (tst_ok (op_ok (mT_ok (op_ok rfl (mT_ok rfl) rfl rfl hd)) (mT_ok rfl) rfl rfl eh)) (last (some (false, k))))
  · rw [decide_eq_true (show srcH (some (true, k)) = "e" from rfl)] at eh
    have tl := src_tail k
    have di := dig_i k
    have hlt := Nat.mod_lt (k.val + t) hm0
    have hlt10 : (k.val + t) % m < 10 := by omega
    have num : mCB intF (mCons (mT (mSl slF (mVarT 8) (mPart (ret (.int 1))) (mNoPart))) (mNil)) (rQ d net m t x4 x5 x6 (owR some') (.fz (srcD (some (true, k)))) (.fz (.int (dl : Nat))) (.fz (.int (bk : Nat)))) = .ok (.int (k.val : Int)) (rQ d net m t x4 x5 x6 (owR some') (.fz (srcD (some (true, k)))) (.fz (.int (dl : Nat))) (.fz (.int (bk : Nat)))) := by
      have sl : mSl slF (mVarT 8) (mPart (ret (.int 1))) (mNoPart) (rQ d net m t x4 x5 x6 (owR some') (.fz (srcD (some (true, k)))) (.fz (.int (dl : Nat))) (.fz (.int (bk : Nat)))) = .ok (.str (toString (k.val : Int))) (rQ d net m t x4 x5 x6 (owR some') (.fz (srcD (some (true, k)))) (.fz (.int (dl : Nat))) (.fz (.int (bk : Nat)))) := by
        show lft (slF (srcD (some (true, k))) (some 1) none) _ = _
        rw [tl]
        rfl
      exact cb_ok (cons_ok (mT_ok sl) rfl) rfl di
    have ea : addF (.int (k.val : Int)) (.int (t : Int)) = some (.int ((k.val + t : Nat) : Int)) := by
      rw [ev_add]
      rfl
    have ds := dig_s ⟨(k.val + t) % m, hlt10⟩
    have de := dig_e ⟨(k.val + t) % m, hlt10⟩
    have er : rotS t m (some (true, k)) = some (true, ⟨(k.val + t) % m, hlt10⟩) := by
      show some (true, Fin.ofNat 10 ((k.val + t) % m)) = _
      rw [ofNat_eq hlt10]
    rw [er]
    refine wp_seq (wp_if (tst_ok (op_ok (mT_ok (op_ok rfl (mT_ok rfl) rfl rfl hd)) (mT_ok rfl) rfl rfl eh)) (fun _ => ?_) (fun z => by cases z))
    exact wp_set (d := srcD (some (true, ⟨(k.val + t) % m, hlt10⟩))) (op_ok (mT_ok rfl) (mT_ok (cb_ok (cons_ok (mT_ok (op_ok (mT_ok (op_ok (mT_ok num) rfl rfl rfl ea)) rfl rfl rfl (mod_nat hm0))) rfl) rfl ds)) rfl rfl de) rfl (last _)
theorem row_rot {d net : D} {m t i : Nat} (hm0 : 0 < m) (hm : m ≤ 9) {L : Rows} (hL : L.length = m) {row : List Arc} (hrow : row.length ≤ 50) {x7 x8 x9 x10 : Cell} :
    Wp l1__law_renamed (fun r => ∃ y7 y8 y9 y10, r = rQ d net m t (owRs (L.set ((i + t) % m) (rotR t m row))) (.fz (.int (i : Nat))) (.fz (rowD row)) y7 y8 y9 y10)
      (rQ d net m t (owRs L) (.fz (.int (i : Nat))) (.fz (rowD row)) x7 x8 x9 x10) := by
  refine wp_seq (wp_own (d := .list []) rfl ?_)
  refine wp_seq (wp_for arcD row (fun pre r => ∃ y8 y9 y10, r = rQ d net m t (owRs L) (.fz (.int (i : Nat))) (.fz (rowD row)) (owR (rotR t m pre)) y8 y9 y10) (ρ0 := rQ d net m t (owRs L) (.fz (.int (i : Nat))) (.fz (rowD row)) (owR []) x8 x9 x10) (seqT_ok rfl) ⟨x8, x9, x10, rfl⟩ ?_ ?_)
  · rintro pre a post ex r ⟨y8, y9, y10, rfl⟩
    have hl : pre.length ≤ row.length := by
      have := congrArg List.length ex
      rw [List.length_append] at this
      omega
    refine ⟨rQ d net m t (owRs L) (.fz (.int (i : Nat))) (.fz (rowD row)) (owR (rotR t m pre)) (.fz (srcD a.1)) (.fz (.int (a.2.1 : Nat))) (.fz (.int (a.2.2 : Nat))), rfl, ?_⟩
    obtain ⟨r2, e2, z8, hr2⟩ := arc_rot (d := d) (net := net) (t := t) hm0 hm (x4 := owRs L) (x5 := .fz (.int (i : Nat))) (x6 := .fz (rowD row)) (some' := rotR t m pre) (a := a) (by unfold rotR; rw [List.length_map]; omega)
    refine ⟨r2, e2, z8, .fz (.int (a.2.1 : Nat)), .fz (.int (a.2.2 : Nat)), ?_⟩
    rw [hr2]
    unfold rotR
    rw [List.map_append]
    rfl
  · rintro r ⟨y8, y9, y10, rfl⟩
    have ea : addF (.int (i : Int)) (.int (t : Int)) = some (.int ((i + t : Nat) : Int)) := by
      rw [ev_add]
      rfl
    have hlt := Nat.mod_lt (i + t) hm0
    refine wp_setitem (d := rowD (rotR t m row)) (r := rQ d net m t (owRs L) (.fz (.int (i : Nat))) (.fz (rowD row)) (owR (rotR t m row)) y8 y9 y10) (r2 := rQ d net m t (owRs L) (.fz (.int (i : Nat))) (.fz (rowD row)) (owR (rotR t m row)) y8 y9 y10) (k := (((i + t) % m : Nat) : Int)) (cb_ok (cons_ok rfl rfl) rfl rfl) rfl (op_ok (mT_ok (op_ok rfl rfl rfl rfl ea)) rfl rfl rfl (mod_nat hm0)) (setD_ok (n := (i + t) % m) rfl rfl (by rw [List.length_map]; omega) rfl) ⟨owR (rotR t m row), y8, y9, y10, ?_⟩
    unfold owRs
    rw [List.map_set]
    rfl
theorem w_renamed {d : D} (hd : IsDice d) {n : Net} (h : NetOk n) : ∃ (n' : Net) (d' : D), IsDice d' ∧ NetOk n' ∧ noEx c__law_renamed d [netD n] = .ok (netD n') d' := by
  obtain ⟨i0, rows, outs⟩ := n
  have hr1 : 1 ≤ rows.length := h.r1
  have hr5 : rows.length ≤ 5 := h.r5
  have ho3 : outs.length ≤ 3 := h.o3
  obtain ⟨x, d1, hx, hd1, q1⟩ := roll_n hd 2 2 rfl (by decide) (by decide)
  obtain ⟨N, hN⟩ : ∃ N, N = netD (i0, rows, outs) := ⟨_, rfl⟩
  have i1 : ixF N (.int 1) = some (rowsD rows) := by rw [hN]; rfl
  have i2 : ixF N (.int 2) = some (outsD outs) := by rw [hN]; rfl
  have i3 : ixF N (.int 0) = some (.int (i0 : Nat)) := by rw [hN]; rfl
  have ex := good_nat.eqF x 0
  have s1 : sAsg (mCB lenF (mCons (mT (mOp ixF (mVarT 1) (mT (ret (.int 1))))) (mNil))) (hName 2) [.bw d, .fz N, .no, .no, .no, .no, .no, .no, .no, .no, .no, .no] = .nx [.bw d, .fz N, .fz (.int (rows.length : Nat)), .no, .no, .no, .no, .no, .no, .no, .no, .no] := asg_ok (cb_ok (cons_ok (mT_ok (op_ok rfl (mT_ok rfl) rfl rfl i1)) rfl) rfl (rows_len rows)) rfl
  have fin : ∀ (n' : Net) (d' : D) (r : Rho), IsDice d' → NetOk n' → b__law_renamed [.bw d, .fz N, .no, .no, .no, .no, .no, .no, .no, .no, .no, .no] = .rt (netD n') r → bwOf r = some d' → ∃ (n' : Net) (d' : D), IsDice d' ∧ NetOk n' ∧ noEx c__law_renamed d [N] = .ok (netD n') d' := by
    intro n' d' r hd' hn' e hb
    refine ⟨n', d', hd', hn', ?_⟩
    have e' : c__law_renamed d [N] = .ok (netD n') d' := by
      unfold c__law_renamed callB
      rw [if_pos (show [N].length + 1 = 2 from rfl)]
      show finB (b__law_renamed [.bw d, .fz N, .no, .no, .no, .no, .no, .no, .no, .no, .no, .no]) = _
      rw [e]
      show (match bwOf r with | some d1 => RB.ok (netD n') d1 | none => RB.no) = _
      rw [hb]
    unfold noEx
    rw [e']
  rw [← hN]
  by_cases hx0 : x = 0
  · rw [decide_eq_true hx0] at ex
    refine fin (i0, rows, outs) d1 [.bw d1, .fz N, .fz (.int (rows.length : Nat)), .no, .no, .no, .no, .no, .no, .no, .no, .no] hd1 h ?_ rfl
    rw [← hN]
    exact seq_to s1 (seq_rt (ifs_t (tst_ok (op_ok (mT_ok (callB_ok rfl rfl rfl q1 rfl)) (mT_ok rfl) rfl rfl ex)) rfl))
  · rw [decide_eq_false hx0] at ex
    obtain ⟨t, d2, ht, hd2, q2⟩ := roll_n hd1 (rows.length : Nat) rows.length rfl (by omega) (by omega)
    have rep := rep_one (d := PyData.tuple []) (j := (rows.length : Int)) (n := rows.length) rfl (by omega)
    have rep' : repF (.list [.tuple []]) (.int (rows.length : Int)) = some (.list ((List.replicate rows.length ([] : List Arc)).map rowD)) := by
      rw [rep, List.map_replicate]
      rfl
    obtain ⟨R, hR⟩ : ∃ R, R = rows.map (rotR t rows.length) := ⟨_, rfl⟩
    have hRl : R.length = rows.length := by rw [hR, List.length_map]
    obtain ⟨r, e, L, y5, y6, y7, y8, y9, y10, hLl, hLat, hr⟩ := for_inv (h := hTup 2 (hCons (hName 5) (hCons (hName 6) (hNil)))) (b := l1__law_renamed) (fun p : List Arc × Nat => PyData.tuple [.int (p.2 : Nat), rowD p.1]) (fun pre ρ => ∃ (L : Rows) (y5 y6 y7 y8 y9 y10 : Cell), L.length = rows.length ∧ (∀ i, i < pre.length → L[(i + t) % rows.length]? = R[i]?) ∧ ρ = rQ d2 N rows.length t (owRs L) y5 y6 y7 y8 y9 y10) rows.zipIdx (ρ0 := rQ d2 N rows.length t (owRs (List.replicate rows.length [])) .no .no .no .no .no .no) ⟨List.replicate rows.length [], .no, .no, .no, .no, .no, .no, by simp, fun i hi => by simp at hi, rfl⟩ (fun pre p post ex ρ hI => by
        obtain ⟨row, i⟩ := p
        obtain ⟨L, y5, y6, y7, y8, y9, y10, hLl, hLat, rfl⟩ := hI
        have hp : (rows.zipIdx)[pre.length]? = some (row, i) := by rw [ex]; simp
        have hpl : pre.length < rows.length := by
          have := congrArg List.length ex
          rw [List.length_zipIdx, List.length_append, List.length_cons] at this
          omega
        rw [List.getElem?_zipIdx, List.getElem?_eq_getElem hpl] at hp
        have hp2 : rows[pre.length] = row ∧ pre.length = i := by simpa using hp
        obtain ⟨hp1, hpi⟩ := hp2
        have hrow : row.length ≤ 50 := by
          rw [← hp1]
          exact Nat.le_trans (h.few _ (List.getElem_mem hpl)) (by decide)
        obtain ⟨r2, e2, z7, z8, z9, z10, hr2⟩ := row_rot (d := d2) (net := N) (t := t) (i := i) (m := rows.length) (by omega) (by omega) (L := L) hLl (row := row) hrow (x7 := y7) (x8 := y8) (x9 := y9) (x10 := y10)
        refine ⟨rQ d2 N rows.length t (owRs L) (.fz (.int (i : Nat))) (.fz (rowD row)) y7 y8 y9 y10, r2, rfl, .inl e2, L.set ((i + t) % rows.length) (rotR t rows.length row), _, _, z7, z8, z9, z10, by rw [List.length_set]; exact hLl, fun k hk => ?_, hr2⟩
        rw [List.length_append, List.length_singleton] at hk
        have hmi := Nat.mod_lt (i + t) (show rows.length > 0 by omega)
        rw [List.getElem?_set]
        by_cases hki : k = i
        · subst hki
          rw [if_pos rfl, if_pos (by omega), hR, List.getElem?_map, ← hpi, List.getElem?_eq_getElem hpl, hp1]
          rfl
        · have hne : ¬ (i + t) % rows.length = (k + t) % rows.length := fun z => hki (mod_inj (by omega) (by omega) ht z.symm)
          rw [if_neg hne]
          exact hLat k (by omega))
    rw [List.length_zipIdx] at hLat
    have hLR : L = rotL t R := rot_uniq (by omega) (by omega) (fun i hi => by rw [hRl]; exact hLat i (by omega))
    have ho := h.rot (t := t) ht
    have eN : rotN t (i0, rows, outs) = (i0, L, outs.map fun o => (o + t) % rows.length) := by rw [hLR, hR]; rfl
    rw [eN] at ho
    refine fin _ d2 (rQ d2 N rows.length t (owRs L) y5 y6 y7 y8 y9 y10) hd2 ho ?_ rfl
    have lo : mLc (mSeqI (mOp ixF (mVarT 1) (mT (ret (.int 2))))) (hName 11) (mYes) (e2__law_renamed) [11] (rQ d2 N rows.length t (owRs L) y5 y6 y7 y8 y9 y10) = .ok (.list ((outs.map fun o => (o + t) % rows.length).map fun n : Nat => PyData.int (n : Int))) (rQ d2 N rows.length t (owRs L) y5 y6 y7 y8 y9 y10) := by
      rw [List.map_map]
      refine mlc_map0 outs (fun n : Nat => PyData.int (n : Int)) _ (seqT_ok (op_ok rfl (mT_ok rfl) rfl rfl i2)) (by simp [big]; omega) rfl (fun o ho => ⟨_, rfl, ?_, rfl⟩)
      have ea : addF (.int (o : Int)) (.int (t : Int)) = some (.int ((o + t : Nat) : Int)) := by
        rw [ev_add]
        rfl
      exact op_ok (mT_ok (op_ok rfl rfl rfl rfl ea)) rfl rfl rfl (mod_nat (by omega))
    have s2 : sIf (mTst (mOp eqF (mT (mCallB (noEx c__law_roll) 0 (mCons (ret (.int 2)) (mNil)))) (mT (ret (.int 0))))) (sRet (mVar 1)) (sNext) [.bw d, .fz N, .fz (.int (rows.length : Nat)), .no, .no, .no, .no, .no, .no, .no, .no, .no] = .nx [.bw d1, .fz N, .fz (.int (rows.length : Nat)), .no, .no, .no, .no, .no, .no, .no, .no, .no] := ifs_f (tst_ok (op_ok (mT_ok (callB_ok rfl rfl rfl q1 rfl)) (mT_ok rfl) rfl rfl ex)) rfl
    have s3 : sAsg (mCallB (noEx c__law_roll) 0 (mCons (mVar 2) (mNil))) (hName 3) [.bw d1, .fz N, .fz (.int (rows.length : Nat)), .no, .no, .no, .no, .no, .no, .no, .no, .no] = .nx (rQ d2 N rows.length t .no .no .no .no .no .no .no) := asg_ok (callB_ok rfl (cons_ok rfl rfl) rfl q2 rfl) rfl
    have s4 : sOwn (mOp repF (mT (mLst (mCons (mTup (mNil)) (mNil)))) (mVarT 2)) 4 (rQ d2 N rows.length t .no .no .no .no .no .no .no) = .nx (rQ d2 N rows.length t (owRs (List.replicate rows.length [])) .no .no .no .no .no .no) := by
      have e4 : mOp repF (mT (mLst (mCons (mTup (mNil)) (mNil)))) (mVarT 2) (rQ d2 N rows.length t .no .no .no .no .no .no .no) = .ok (.list ((List.replicate rows.length ([] : List Arc)).map rowD)) (rQ d2 N rows.length t .no .no .no .no .no .no .no) := op_ok (mT_ok rfl) rfl rfl rfl rep'
      exact own_ok e4
    have s5 : sFor (mEnum (mCons (mOp ixF (mVarT 1) (mT (ret (.int 1)))) (mNil))) (hTup 2 (hCons (hName 5) (hCons (hName 6) (hNil)))) (l1__law_renamed) (rQ d2 N rows.length t (owRs (List.replicate rows.length [])) .no .no .no .no .no .no) = .nx (rQ d2 N rows.length t (owRs L) y5 y6 y7 y8 y9 y10) := by
      rw [← hr]
      exact for_ok (enum_ok (d := rowsD rows) (cons_ok (op_ok rfl (mT_ok rfl) rfl rfl i1) rfl) rfl) e
    exact seq_to s1 (seq_to s2 (seq_to s3 (seq_to s4 (seq_to s5 (ret_ok (tup_ok (cons_ok (op_ok rfl (mT_ok rfl) rfl rfl i3) (cons_ok (cb_ok (cons_ok rfl rfl) rfl rfl) (cons_ok (cb_ok (cons_ok (mT_ok lo) rfl) rfl rfl) rfl))) (show (3 : Nat) ≤ 100 by decide)))))))
end Rn
end

section
set_option Elab.async false
set_option linter.all false
set_option maxRecDepth 100000
set_option maxHeartbeats 4000000
/-! NetP: _law_net draws a good net. -/
namespace Rn
open PySem PySem.Spec L2
theorem ok_of_pre {given many : Nat} {rows : Rows} {outs : List Nat} (hg : given ≤ 2) (hm0 : 0 < many) (hm : many ≤ 5) (hl : rows.length = many) (hf : ∀ r ∈ rows, r.length ≤ 4) (hp : ∀ i, ∀ a ∈ rows.getD i [], ArcPre given many i a) (hb : (rows.map backs).sum ≤ 8) (ho1 : 1 ≤ outs.length) (ho3 : outs.length ≤ 3) (ho : ∀ o ∈ outs, o < many) : NetOk (given, rows, outs) := by
  subst hl
  refine ⟨hg, hm0, hm, hf, fun r hr a ha => ?_, hb, ⟨fun i => i, fun i a ha hb0 j hj => (hp i a ha).low hb0 j hj⟩, ho1, ho3, ho⟩
  obtain ⟨i, hi, e⟩ := List.mem_iff_getElem.mp hr
  have := hp i a (by rw [List.getD_eq_getElem?_getD, List.getElem?_eq_getElem hi, e]; exact ha)
  exact ⟨this.src, this.dl, this.bk⟩
theorem outs_go {most inp many given left : Nat} (hm0 : 0 < many) (hm : many ≤ 9) {x5 x7 x8 x9 x11 x12 x13 : Cell} : ∀ (ds : List D) (d : D), IsDice d → ∃ (os : List Nat) (d' : D), IsDice d' ∧ os.length = ds.length ∧ (∀ o ∈ os, o < many) ∧
    lcGo (hName 10) mYes e2__law_net [10] ds (rN d most inp many given x5 left x7 x8 x9 .no x11 x12 x13) = .ok (os.map fun n : Nat => PyData.int (n : Int)) (rN d' most inp many given x5 left x7 x8 x9 .no x11 x12 x13)
  | [], d, hd => ⟨[], d, hd, rfl, by simp, rfl⟩
  | y :: ds, d, hd => by
    obtain ⟨x, d1, hx, hd1, q1⟩ := roll_n hd (many : Nat) many rfl hm0 (by omega)
    obtain ⟨os, d', hd', hl, ho, e2⟩ := outs_go (most := most) (inp := inp) (many := many) (given := given) (left := left) hm0 hm (x5 := x5) (x7 := x7) (x8 := x8) (x9 := x9) (x11 := x11) (x12 := x12) (x13 := x13) ds d1 hd1
    refine ⟨x :: os, d', hd', by simp [hl], fun o h => ?_, ?_⟩
    · rcases List.mem_cons.mp h with z | z
      · rw [z]; exact hx
      · exact ho o z
    · exact lcgo_cons (ρ1 := rN d most inp many given x5 left x7 x8 x9 (.fz y) x11 x12 x13) rfl (callB_ok rfl (cons_ok rfl rfl) rfl q1 rfl) e2
/-- outputs, and the rest -/
theorem tail_ok {d : D} (hd : IsDice d) {most inp many given left : Nat} {rows : Rows} (hg : given ≤ 2) (hm0 : 0 < many) (hm : many ≤ 5) (hl : rows.length = many) (hf : ∀ r ∈ rows, r.length ≤ 4) (hp : ∀ i, ∀ a ∈ rows.getD i [], ArcPre given many i a) (hb : (rows.map backs).sum ≤ 8) {x7 x8 x9 x10 x11 x12 x13 : Cell} :
    Rt (sSeq (sAsg (mCB tupleF (mCons (mT (mLc (mRng1 (mCons (mOp addF (mT (ret (.int 1))) (mT (mCallB (noEx c__law_roll) 0 (mCons (ret (.int 2)) (mNil))))) (mNil))) (hName 10) (mYes) (e2__law_net) [10])) (mNil))) (hName 8))
      (sRet (mCallB (noEx c__law_renamed) 0 (mCons (mTup (mCons (mVar 4) (mCons (mCB tupleF (mCons (mVarT 5) (mNil))) (mCons (mVar 8) (mNil))))) (mNil))))) (fun u r => ∃ (n : Net) (d' : D), IsDice d' ∧ NetOk n ∧ u = netD n ∧ bwOf r = some d')
      (rN d most inp many given (owRs rows) left x7 x8 x9 x10 x11 x12 x13) := by
  obtain ⟨x, d1, hx, hd1, q1⟩ := roll_n hd 2 2 rfl (by decide) (by decide)
  have ea : addF (.int 1) (.int (x : Int)) = some (.int ((x + 1 : Nat) : Int)) := by
    rw [ev_add, show (1 : Int) + (x : Int) = ((x + 1 : Nat) : Int) by omega]
  obtain ⟨os, d2, hd2, hol, ho, e2⟩ := outs_go (most := most) (inp := inp) (many := many) (given := given) (left := left) hm0 (by omega) (x5 := owRs rows) (x7 := x7) (x8 := x8) (x9 := x9) (x11 := x11) (x12 := x12) (x13 := x13) ((List.range (x + 1)).map fun k : Nat => PyData.int (0 + (k : Int))) d1 hd1
  rw [List.length_map, List.length_range] at hol
  have hi : mRng1 (mCons (mOp addF (mT (ret (.int 1))) (mT (mCallB (noEx c__law_roll) 0 (mCons (ret (.int 2)) (mNil))))) (mNil)) (rN d most inp many given (owRs rows) left x7 x8 x9 x10 x11 x12 x13) = .ok ((List.range (x + 1)).map fun k : Nat => PyData.int (0 + (k : Int))) (rN d1 most inp many given (owRs rows) left x7 x8 x9 x10 x11 x12 x13) := rng1_s (cons_ok (op_ok (mT_ok rfl) (mT_ok (callB_ok rfl rfl rfl q1 rfl)) rfl rfl ea) rfl) (by omega)
  have lc : mLc (mRng1 (mCons (mOp addF (mT (ret (.int 1))) (mT (mCallB (noEx c__law_roll) 0 (mCons (ret (.int 2)) (mNil))))) (mNil))) (hName 10) (mYes) (e2__law_net) [10] (rN d most inp many given (owRs rows) left x7 x8 x9 x10 x11 x12 x13) = .ok (.list (os.map fun n : Nat => PyData.int (n : Int))) (rN d2 most inp many given (owRs rows) left x7 x8 x9 x10 x11 x12 x13) := by
    unfold mLc bnd
    rw [hi]
    simp only [if_pos (show ((List.range (x + 1)).map fun k : Nat => PyData.int (0 + (k : Int))).length ≤ big by simp [big]; omega)]
    have e2' : lcGo (hName 10) mYes e2__law_net [10] ((List.range (x + 1)).map fun k : Nat => PyData.int (0 + (k : Int))) (wipeR (rN d1 most inp many given (owRs rows) left x7 x8 x9 x10 x11 x12 x13) [10]) = .ok (os.map fun n : Nat => PyData.int (n : Int)) (rN d2 most inp many given (owRs rows) left x7 x8 x9 .no x11 x12 x13) := e2
    rw [e2']
    rfl
  have hnet := ok_of_pre (outs := os) hg hm0 hm hl hf hp hb (by omega) (by omega) ho
  refine rt_seq (wp_set (d := outsD os) (cb_ok (cons_ok (mT_ok lc) rfl) rfl rfl) rfl ?_)
  obtain ⟨n', d3, hd3, hn', q3⟩ := w_renamed hd2 hnet
  exact rt_ret (callB_ok rfl (cons_ok (tup_ok (cons_ok rfl (cons_ok (cb_ok (cons_ok rfl rfl) rfl rfl) (cons_ok rfl rfl))) (show (3 : Nat) ≤ 100 by decide)) rfl) rfl q3 rfl) ⟨n', d3, hd3, hn', rfl, rfl⟩
theorem w_law_net {d : D} (hd : IsDice d) {most inp : Nat} (h1 : 0 < most) (h5 : most ≤ 5) (hi : inp ≤ 2) : ∃ (n : Net) (d' : D), IsDice d' ∧ NetOk n ∧ noEx c__law_net d [.int (most : Nat), .int (inp : Nat)] = .ok (netD n) d' := by
  obtain ⟨m0, d1, hm, hd1, q1⟩ := roll_n hd (most : Nat) most rfl h1 (by omega)
  obtain ⟨given, d2, hg, hd2, q2⟩ := roll_n hd1 ((inp : Int) + 1) (inp + 1) (by simp) (by omega) (by omega)
  obtain ⟨many, hmany⟩ : ∃ many, many = m0 + 1 := ⟨_, rfl⟩
  have ea : addF (.int 1) (.int (m0 : Int)) = some (.int (many : Nat)) := by
    rw [ev_add, show (1 : Int) + (m0 : Int) = (many : Int) by omega]
  have body : Rt b__law_net (fun u r => ∃ (n : Net) (d' : D), IsDice d' ∧ NetOk n ∧ u = netD n ∧ bwOf r = some d') [.bw d, .fz (.int (most : Nat)), .fz (.int (inp : Nat)), .no, .no, .no, .no, .no, .no, .no, .no, .no, .no, .no] := by
    refine rt_seq (wp_par (ds := [.int (many : Nat), .int (given : Nat)]) (r := [.bw d2, .fz (.int (most : Nat)), .fz (.int (inp : Nat)), .no, .no, .no, .no, .no, .no, .no, .no, .no, .no, .no]) (cons_ok (op_ok (mT_ok rfl) (mT_ok (callB_ok rfl (cons_ok rfl rfl) rfl q1 rfl)) rfl rfl ea) (cons_ok (callB_ok rfl (cons_ok (op_ok rfl (mT_ok rfl) rfl rfl rfl) rfl) rfl q2 rfl) rfl)) rfl ?_)
    refine rt_seq (wp_par (ds := [.list [], .int 8]) rfl rfl ?_)
    refine rt_seq (rows_draw hd2 (most := most) (inp := inp) (many := many) (given := given) (by omega) (by omega) (by omega) (x7 := .no) (x8 := .no) (x9 := .no) (x10 := .no) (x11 := .no) (x12 := .no) (x13 := .no) ?_)
    intro d3 left rows y7 y9 y10 y11 y12 y13 hd3 hl hpre hsum
    have hfew : ∀ r ∈ rows, r.length ≤ 4 := fun r hr => Nat.le_trans (hpre.few r hr) (by decide)
    have hl0 : 0 < rows.length := by omega
    have hr0 : (rows.getD 0 []).length ≤ 3 := by
      rw [List.getD_eq_getElem?_getD, List.getElem?_eq_getElem hl0]
      exact hpre.few _ (List.getElem_mem hl0)
    have at0 : ixF (.list (rows.map rowD)) (.int 0) = some (rowD (rows.getD 0 [])) := rows_at (i := 0) hl0
    have len0 : lenF [rowD (rows.getD 0 [])] = some (.int ((rows.getD 0 []).length : Int)) := by
      show some (PyData.int (((rows.getD 0 []).map arcD).length : Int)) = _
      rw [List.length_map]
    have lt4 : ltF (.int ((rows.getD 0 []).length : Int)) (.int 4) = some (.bool true) := by
      unfold ltF
      rw [ev_cmp, decide_eq_true (by omega)]
    obtain ⟨x, d4, hx, hd4, q4⟩ := roll_n hd3 3 3 rfl (by decide) (by decide)
    have gx : gtF (.int (x : Int)) (.int 0) = some (.bool (decide ((0 : Int) < (x : Int)))) := rfl
    refine rt_seq (wp_if (b := decide ((0 : Int) < (x : Int)) && true) (r := rN d4 most inp many given (owRs rows) left y7 .no y9 y10 y11 y12 y13) (and_ok (tst_ok (op_ok (mT_ok (callB_ok rfl rfl rfl q4 rfl)) (mT_ok rfl) rfl rfl gx)) (fun _ => tst_ok (op_ok (mT_ok (cb_ok (cons_ok (mT_ok (op_ok rfl (mT_ok rfl) rfl rfl at0)) rfl) rfl len0)) (mT_ok rfl) rfl rfl lt4))) (fun _ => ?_) (fun _ => ?_))
    · obtain ⟨dl, d5, hdl, hd5, q5⟩ := roll_n hd4 10 10 rfl (by decide) (by decide)
      obtain ⟨row, hrow⟩ : ∃ row, row = rows.getD 0 [] ++ [((none : Src), dl, 0)] := ⟨_, rfl⟩
      have ad : addF (rowD (rows.getD 0 [])) (.tuple [arcD (none, dl, 0)]) = some (rowD row) := by
        have := add_tt ((rows.getD 0 []).map arcD) [arcD (none, dl, 0)] (by rw [List.length_map, List.length_singleton]; omega)
        refine this.trans ?_
        rw [hrow]
        unfold rowD
        rw [List.map_append]
        rfl
      refine wp_setitem (d := rowD row) (r := rN d5 most inp many given (owRs rows) left y7 .no y9 y10 y11 y12 y13) (r2 := rN d5 most inp many given (owRs rows) left y7 .no y9 y10 y11 y12 y13) (k := 0) (op_ok (mT_ok (op_ok rfl (mT_ok rfl) rfl rfl at0)) (mT_ok (tup_ok (cons_ok (tup_ok (cons_ok rfl (cons_ok (callB_ok rfl rfl rfl q5 rfl) (cons_ok rfl rfl))) (show (3 : Nat) ≤ 100 by decide)) rfl) (show (1 : Nat) ≤ 100 by decide))) rfl rfl ad) rfl rfl (setD_ok (n := 0) rfl rfl (by rw [List.length_map]; omega) rfl) ?_
      have em : (rows.map rowD).set 0 (rowD row) = (rows.set 0 row).map rowD := by rw [List.map_set]
      rw [em]
      have g0 : rows.getD 0 [] = rows[0] := by rw [List.getD_eq_getElem?_getD, List.getElem?_eq_getElem hl0]; rfl
      refine tail_ok hd5 (by omega) (by omega) (by omega) (by rw [List.length_set]; exact hl) (fun r hr => ?_) (fun i a ha => ?_) ?_
      · rcases List.mem_or_eq_of_mem_set hr with w | w
        · exact hfew r w
        · rw [w, hrow, List.length_append, List.length_singleton]; omega
      · rw [List.getD_eq_getElem?_getD, List.getElem?_set] at ha
        by_cases hi0 : 0 = i
        · subst hi0
          rw [if_pos rfl, if_pos hl0] at ha
          have ha : a ∈ row := ha
          rw [hrow] at ha
          rcases List.mem_append.mp ha with w | w
          · exact hpre.pre 0 a w
          · rw [List.mem_singleton.mp w]
            exact ⟨trivial, by simp only; omega, by simp, fun _ j hj => by cases hj⟩
        · rw [if_neg hi0, ← List.getD_eq_getElem?_getD] at ha
          exact hpre.pre i a ha
      · have hbk : backs row = backs (rows.getD 0 []) := by rw [hrow, backs_snoc]; rfl
        have : ((rows.set 0 row).map backs) = rows.map backs := by
          rw [List.map_set]
          refine List.ext_getElem? fun k => ?_
          rw [List.getElem?_set]
          by_cases hk : 0 = k
          · subst hk
            rw [if_pos rfl, if_pos (by rw [List.length_map]; exact hl0), List.getElem?_map, List.getElem?_eq_getElem hl0, hbk, g0]
            rfl
          · rw [if_neg hk]
        rw [this]
        omega
    · exact wp_next (tail_ok hd4 (by omega) (by omega) (by omega) hl hfew hpre.pre (by omega))
  obtain ⟨u, r, e, n, d', hd', hn, rfl, hb⟩ := body
  refine ⟨n, d', hd', hn, ?_⟩
  have e' : c__law_net d [.int (most : Nat), .int (inp : Nat)] = .ok (netD n) d' := by
    unfold c__law_net callB
    rw [if_pos (show [PyData.int (most : Nat), PyData.int (inp : Nat)].length + 1 = 3 from rfl)]
    show finB (b__law_net [.bw d, .fz (.int (most : Nat)), .fz (.int (inp : Nat)), .no, .no, .no, .no, .no, .no, .no, .no, .no, .no, .no]) = _
    rw [e]
    show (match bwOf r with | some d1 => RB.ok (netD n) d1 | none => RB.no) = _
    rw [hb]
  unfold noEx
  rw [e']
end Rn
end

section
set_option Elab.async false
set_option linter.all false
set_option maxRecDepth 100000
set_option maxHeartbeats 4000000
/-! NetQ: _law_overtaken draws a good net. -/
namespace Rn
open PySem PySem.Spec L2
theorem srcE0 : srcD (some (true, 0)) = .str "e0" := rfl
theorem srcE1 : srcD (some (true, 1)) = .str "e1" := rfl
theorem w_overtaken {d : D} (hd : IsDice d) : ∃ (n : Net) (d' : D), IsDice d' ∧ NetOk n ∧ noEx c__law_overtaken d [] = .ok (netD n) d' := by
  obtain ⟨one, d1, h1, hd1, q1⟩ := roll_n hd 4 4 rfl (by decide) (by decide)
  obtain ⟨two, d2, h2, hd2, q2⟩ := roll_n hd1 9 9 rfl (by decide) (by decide)
  obtain ⟨a, d3, h3, hd3, q3⟩ := roll_n hd2 10 10 rfl (by decide) (by decide)
  obtain ⟨b, d4, h4, hd4, q4⟩ := roll_n hd3 2 2 rfl (by decide) (by decide)
  obtain ⟨c, d5, h5, hd5, q5⟩ := roll_n hd4 2 2 rfl (by decide) (by decide)
  obtain ⟨e, d6, h6, hd6, q6⟩ := roll_n hd5 2 2 rfl (by decide) (by decide)
  obtain ⟨f, d7, h7, hd7, q7⟩ := roll_n hd6 10 10 rfl (by decide) (by decide)
  obtain ⟨g, d8, h8, hd8, q8⟩ := roll_n hd7 3 3 rfl (by decide) (by decide)
  obtain ⟨k, d9, h9, hd9, q9⟩ := roll_n hd8 2 2 rfl (by decide) (by decide)
  have eb : addF (.int 1) (.int (b : Int)) = some (.int ((b + 1 : Nat) : Int)) := by
    rw [ev_add, show (1 : Int) + (b : Int) = ((b + 1 : Nat) : Int) by omega]
  have ee : addF (.int 1) (.int (e : Int)) = some (.int ((e + 1 : Nat) : Int)) := by
    rw [ev_add, show (1 : Int) + (e : Int) = ((e + 1 : Nat) : Int) by omega]
  obtain ⟨r0, hr0⟩ : ∃ r0 : List Arc, r0 = [(none, a, 0), (some (true, 0), one, b + 1)] := ⟨_, rfl⟩
  obtain ⟨r1, hr1⟩ : ∃ r1 : List Arc, r1 = [(none, 0, c), (some (true, 1), two, e + 1)] := ⟨_, rfl⟩
  obtain ⟨r2, hr2⟩ : ∃ r2 : List Arc, r2 = [(some (true, 0), f, 0), (some (true, 1), g, k)] := ⟨_, rfl⟩
  have hnet : NetOk (0, [r0, r1, r2], [2, 1]) := by
    refine ok_of_pre (many := 3) (by decide) (by decide) (by decide) rfl (fun r hr => ?_) (fun i x hx => ?_) ?_ (by decide) (by decide) (fun o ho => ?_)
    · simp only [List.mem_cons, List.not_mem_nil, or_false] at hr
      rcases hr with rfl | rfl | rfl
      · rw [hr0]; exact (show (2 : Nat) ≤ 4 by decide)
      · rw [hr1]; exact (show (2 : Nat) ≤ 4 by decide)
      · rw [hr2]; exact (show (2 : Nat) ≤ 4 by decide)
    · match i with
      | 0 =>
        have hx : x ∈ r0 := hx
        rw [hr0] at hx
        simp only [List.mem_cons, List.not_mem_nil, or_false] at hx
        rcases hx with rfl | rfl
        · exact ⟨trivial, by simp only; omega, by simp, fun _ j hj => by cases hj⟩
        · exact ⟨show (0 : Nat) < 3 by decide, by simp only; omega, by simp only; omega, fun h => by simp at h⟩
      | 1 =>
        have hx : x ∈ r1 := hx
        rw [hr1] at hx
        simp only [List.mem_cons, List.not_mem_nil, or_false] at hx
        rcases hx with rfl | rfl
        · exact ⟨trivial, by simp, by simp only; omega, fun _ j hj => by cases hj⟩
        · exact ⟨show (1 : Nat) < 3 by decide, by simp only; omega, by simp only; omega, fun h => by simp at h⟩
      | 2 =>
        have hx : x ∈ r2 := hx
        rw [hr2] at hx
        simp only [List.mem_cons, List.not_mem_nil, or_false] at hx
        rcases hx with rfl | rfl
        · exact ⟨show (0 : Nat) < 3 by decide, by simp only; omega, by simp, fun _ j hj => by
            have : 0 = j := Option.some.inj hj
            omega⟩
        · exact ⟨show (1 : Nat) < 3 by decide, by simp only; omega, by simp only; omega, fun _ j hj => by
            have : 1 = j := Option.some.inj hj
            omega⟩
      | i + 3 =>
        rw [List.getD_eq_getElem?_getD, List.getElem?_eq_none (by simp)] at hx
        simp at hx
    · rw [hr0, hr1, hr2]
      simp [backs]
      omega
    · simp only [List.mem_cons, List.not_mem_nil, or_false] at ho
      rcases ho with rfl | rfl <;> decide
  obtain ⟨n, d', hd', hn, q⟩ := w_renamed hd9 hnet
  have a0 : .tuple [.tuple [.str "s", .int (a : Nat), .int 0], .tuple [.str "e0", .int (one : Nat), .int ((b + 1 : Nat) : Int)]] = rowD r0 := by rw [hr0]; rfl
  have a1 : .tuple [.tuple [.str "s", .int 0, .int (c : Nat)], .tuple [.str "e1", .int (two : Nat), .int ((e + 1 : Nat) : Int)]] = rowD r1 := by rw [hr1]; rfl
  have a2 : .tuple [.tuple [.str "e0", .int (f : Nat), .int 0], .tuple [.str "e1", .int (g : Nat), .int (k : Nat)]] = rowD r2 := by rw [hr2]; rfl
  have body : Rt b__law_overtaken (fun u r => u = netD n ∧ bwOf r = some d') [.bw d, .no, .no, .no] := by
    refine rt_seq (wp_par (ds := [.int (one : Nat), .int (two : Nat)]) (r := [.bw d2, .no, .no, .no]) (cons_ok (callB_ok rfl rfl rfl q1 rfl) (cons_ok (callB_ok rfl rfl rfl q2 rfl) rfl)) rfl ?_)
    refine rt_seq (wp_own (d := .list [rowD r0]) (r := [.bw d4, .fz (.int (one : Nat)), .fz (.int (two : Nat)), .no]) ?_ ?_)
    · rw [← a0]
      exact lst_ok (cons_ok (tup_ok (cons_ok (tup_ok (cons_ok rfl (cons_ok (callB_ok rfl rfl rfl q3 rfl) (cons_ok rfl rfl))) (show (3 : Nat) ≤ 100 by decide)) (cons_ok (tup_ok (cons_ok rfl (cons_ok rfl (cons_ok (op_ok (mT_ok rfl) (mT_ok (callB_ok rfl rfl rfl q4 rfl)) rfl rfl eb) rfl))) (show (3 : Nat) ≤ 100 by decide)) rfl)) (show (2 : Nat) ≤ 100 by decide)) rfl) (show (1 : Nat) ≤ 100 by decide)
    refine rt_seq (wp_append (d := rowD r1) (ds := [rowD r0]) (es := [rowD r0]) (r := [.bw d6, .fz (.int (one : Nat)), .fz (.int (two : Nat)), .ow (.list [rowD r0])]) rfl ?_ rfl (show (1 : Nat) < 1000000 by decide) rfl ?_)
    · rw [← a1]
      exact tup_ok (cons_ok (tup_ok (cons_ok rfl (cons_ok rfl (cons_ok (callB_ok rfl rfl rfl q5 rfl) rfl))) (show (3 : Nat) ≤ 100 by decide)) (cons_ok (tup_ok (cons_ok rfl (cons_ok rfl (cons_ok (op_ok (mT_ok rfl) (mT_ok (callB_ok rfl rfl rfl q6 rfl)) rfl rfl ee) rfl))) (show (3 : Nat) ≤ 100 by decide)) rfl)) (show (2 : Nat) ≤ 100 by decide)
    refine rt_seq (wp_append (d := rowD r2) (ds := [rowD r0, rowD r1]) (es := [rowD r0, rowD r1]) (r := [.bw d9, .fz (.int (one : Nat)), .fz (.int (two : Nat)), .ow (.list [rowD r0, rowD r1])]) rfl ?_ rfl (show (2 : Nat) < 1000000 by decide) rfl ?_)
    · rw [← a2]
      exact tup_ok (cons_ok (tup_ok (cons_ok rfl (cons_ok (callB_ok rfl rfl rfl q7 rfl) (cons_ok rfl rfl))) (show (3 : Nat) ≤ 100 by decide)) (cons_ok (tup_ok (cons_ok rfl (cons_ok (callB_ok rfl rfl rfl q8 rfl) (cons_ok (callB_ok rfl rfl rfl q9 rfl) rfl))) (show (3 : Nat) ≤ 100 by decide)) rfl)) (show (2 : Nat) ≤ 100 by decide)
    exact rt_ret (callB_ok rfl rfl rfl q rfl) ⟨rfl, rfl⟩
  obtain ⟨u, r, e', hu, hb⟩ := body
  refine ⟨n, d', hd', hn, ?_⟩
  have e2 : c__law_overtaken d [] = .ok (netD n) d' := by
    unfold c__law_overtaken callB
    rw [if_pos (show ([] : List D).length + 1 = 1 from rfl)]
    show finB (b__law_overtaken [.bw d, .no, .no, .no]) = _
    rw [e', hu]
    show (match bwOf r with | some d1 => RB.ok (netD n) d1 | none => RB.no) = _
    rw [hb]
  unfold noEx
  rw [e2]
end Rn
end

section
set_option Elab.async false
set_option linter.all false
set_option maxRecDepth 100000
set_option maxHeartbeats 4000000
/-! NetR: rings of a good net: within the rows, with at least one round back; their sums. -/
namespace Rn
open PySem PySem.Spec L2
def arcAt (rows : Rows) (p : Nat × Nat) : Arc := (rows.getD p.1 []).getD p.2 (none, 0, 0)
def dlW (rows : Rows) (w : Way) : Nat := (w.map fun p => (arcAt rows p).2.1).sum
def bkW (rows : Rows) (w : Way) : Nat := (w.map fun p => (arcAt rows p).2.2).sum
def WayOk (rows : Rows) (w : Way) : Prop := ∀ p ∈ w, p.1 < rows.length ∧ p.2 < (rows.getD p.1 []).length
theorem WayOk.snoc {rows : Rows} {w : Way} (h : WayOk rows w) {p : Nat × Nat} (h1 : p.1 < rows.length) (h2 : p.2 < (rows.getD p.1 []).length) : WayOk rows (w ++ [p]) := fun x hx => by
  rcases List.mem_append.mp hx with z | z
  · exact h x z
  · rw [List.mem_singleton.mp z]; exact ⟨h1, h2⟩
theorem bkW_snoc (rows : Rows) (w : Way) (p : Nat × Nat) : bkW rows (w ++ [p]) = bkW rows w + (arcAt rows p).2.2 := by simp [bkW]
structure RingOk (rows : Rows) (w : Way) : Prop where
  way : WayOk rows w
  len : w.length ≤ rows.length + 1
  bk1 : 1 ≤ bkW rows w
structure NdInv (rows : Rows) (first : Nat) (rk : Nat → Nat) (n : Nd) : Prop where
  ok : NdOk rows first n
  way : WayOk rows n.2
  low : bkW rows n.2 = 0 → rk n.1 ≤ rk first
theorem zip_arc {rows : Rows} {i : Nat} {a : Arc} {p : Nat} (h : (a, p) ∈ (rows.getD i []).zipIdx) : p < (rows.getD i []).length ∧ arcAt rows (i, p) = a ∧ a ∈ rows.getD i [] := by
  have h2 := List.mem_zipIdx' h
  obtain ⟨h3, h4⟩ := h2
  refine ⟨h3, ?_, ?_⟩
  · unfold arcAt
    rw [List.getD_eq_getElem?_getD (l := rows.getD i []), List.getElem?_eq_getElem h3, ← h4]
    rfl
  · rw [h4]
    exact List.getElem_mem _
theorem close_ok {rows : Rows} {first : Nat} {rk : Nat → Nat} (hrk : ∀ i, ∀ a ∈ rows.getD i [], a.2.2 = 0 → ∀ j, evOf a.1 = some j → rk j < rk i) {n : Nd} (hn : NdInv rows first rk n) : ∀ w ∈ closes rows first n, RingOk rows w := fun w hw => by
  obtain ⟨⟨a, p⟩, hp, rfl⟩ := List.mem_map.mp hw
  obtain ⟨h1, h2⟩ := List.mem_filter.mp hp
  obtain ⟨h3, h4, h5⟩ := zip_arc h1
  have h2 : evOf a.1 = some first := of_decide_eq_true h2
  refine ⟨hn.way.snoc hn.ok.1 h3, ?_, ?_⟩
  · have := hn.ok.2
    rw [List.length_append, List.length_singleton]
    omega
  · rw [bkW_snoc, h4]
    by_cases hb : bkW rows n.2 = 0
    · by_cases ha : a.2.2 = 0
      · have := hrk n.1 a h5 ha first h2
        have := hn.low hb
        omega
      · omega
    · omega
theorem open_inv {rows : Rows} (hs : SrcOk rows) {first : Nat} {rk : Nat → Nat} (hrk : ∀ i, ∀ a ∈ rows.getD i [], a.2.2 = 0 → ∀ j, evOf a.1 = some j → rk j < rk i) {n : Nd} (hn : NdInv rows first rk n) : ∀ m ∈ opens rows first n, NdInv rows first rk m := fun m hm => by
  refine ⟨hn.ok.next hs hm, ?_, ?_⟩
  · obtain ⟨⟨a, p⟩, hp, rfl⟩ := List.mem_map.mp hm
    obtain ⟨h1, h2⟩ := List.mem_filter.mp hp
    obtain ⟨h3, h4, h5⟩ := zip_arc h1
    exact hn.way.snoc hn.ok.1 h3
  · obtain ⟨⟨a, p⟩, hp, rfl⟩ := List.mem_map.mp hm
    obtain ⟨h1, h2⟩ := List.mem_filter.mp hp
    obtain ⟨h3, h4, h5⟩ := zip_arc h1
    intro hb
    rw [bkW_snoc, h4] at hb
    have h2 : openB first n a.1 = true := h2
    unfold openB at h2
    cases q : evOf a.1 with
    | none => rw [q] at h2; cases h2
    | some j =>
      have := hrk n.1 a h5 (by omega) j q
      have := hn.low (by omega)
      show rk j ≤ rk first
      omega
theorem tree_ok {rows : Rows} (hs : SrcOk rows) {first : Nat} {rk : Nat → Nat} (hrk : ∀ i, ∀ a ∈ rows.getD i [], a.2.2 = 0 → ∀ j, evOf a.1 = some j → rk j < rk i) : ∀ (k : Nat) (n : Nd), NdInv rows first rk n → ∀ w ∈ tree rows first k n, RingOk rows w
  | 0, n, hn, w, hw => close_ok hrk hn w hw
  | k + 1, n, hn, w, hw => by
    rcases List.mem_append.mp hw with h | h
    · exact close_ok hrk hn w h
    · obtain ⟨m, hm, h⟩ := List.mem_flatMap.mp h
      exact tree_ok hs hrk k m (open_inv hs hrk hn m hm) w h
theorem NetOk.ring {n : Net} (h : NetOk n) : ∀ w ∈ allW n.2.1 n.2.1.length, RingOk n.2.1 w := fun w hw => by
  obtain ⟨f, hf, hw⟩ := List.mem_flatMap.mp hw
  obtain ⟨rk, hrk⟩ := h.rank
  have hf := List.mem_range.mp hf
  have hc := cands_le n.2.1 f (f, [])
  have hi : NdInv n.2.1 f rk (f, []) := ⟨⟨hf, by rw [List.length_nil, Nat.zero_add]; exact hc⟩, fun p hp => by simp at hp, fun _ => Nat.le_refl _⟩
  exact tree_ok h.src hrk _ _ hi w hw
theorem NetOk.rows {n : Net} (h : NetOk n) : RowsOk n.2.1 4 ∧ n.2.1.length * (4 * bnd' 4 n.2.1.length) < 800000 := by
  have h5 := h.r5
  have hb : bnd' 4 n.2.1.length ≤ 1365 := by
    generalize n.2.1.length = l at h5
    match l, h5 with
    | 0, _ => decide
    | 1, _ => decide
    | 2, _ => decide
    | 3, _ => decide
    | 4, _ => decide
    | 5, _ => decide
  refine ⟨⟨h.src, h.few, by omega, by omega⟩, ?_⟩
  have : n.2.1.length * (4 * bnd' 4 n.2.1.length) ≤ 5 * (4 * 1365) := Nat.mul_le_mul h5 (by omega)
  omega
/-- the bounds of the sums -/
theorem NetOk.sums {n : Net} (h : NetOk n) {w : Way} (hw : RingOk n.2.1 w) : dlW n.2.1 w ≤ 54 ∧ bkW n.2.1 w ≤ 18 := by
  have h5 := h.r5
  have hl := hw.len
  have harc : ∀ p ∈ w, (arcAt n.2.1 p).2.1 ≤ 9 ∧ (arcAt n.2.1 p).2.2 ≤ 3 := fun p hp => by
    obtain ⟨h1, h2⟩ := hw.way p hp
    have hm : arcAt n.2.1 p ∈ n.2.1.getD p.1 [] := by
      unfold arcAt
      rw [List.getD_eq_getElem?_getD (l := n.2.1.getD p.1 []), List.getElem?_eq_getElem h2]
      exact List.getElem_mem _
    obtain ⟨r, hr, har⟩ := getD_memR hm
    exact (h.arc r hr _ har).2
  have d := sum_le (f := fun p => (arcAt n.2.1 p).2.1) (b := 9) (xs := w) fun p hp => (harc p hp).1
  have b := sum_le (f := fun p => (arcAt n.2.1 p).2.2) (b := 3) (xs := w) fun p hp => (harc p hp).2
  unfold dlW bkW
  omega
theorem arc_at {rows : Rows} {p : Nat × Nat} (h1 : p.1 < rows.length) (h2 : p.2 < (rows.getD p.1 []).length) : ixF (rowsD rows) (.int (p.1 : Nat)) = some (rowD (rows.getD p.1 [])) ∧ ixF (rowD (rows.getD p.1 [])) (.int (p.2 : Nat)) = some (arcD (arcAt rows p)) := by
  refine ⟨rows_at h1, ?_⟩
  have := atMap arcD (rows.getD p.1 []) (i := (p.2 : Int)) (n := p.2) rfl h2
  show atI ((rows.getD p.1 []).map arcD) (p.2 : Int) = _
  rw [this]
  unfold arcAt
  rw [List.getD_eq_getElem?_getD (l := rows.getD p.1 []), List.getElem?_eq_getElem h2]
  rfl
theorem w_measure {rows : Rows} {w : Way} (hw : WayOk rows w) (hl : w.length ≤ 1000) : g_measure [rowsD rows, ringT w] = .ok (.tuple [.int (dlW rows w : Nat), .int (bkW rows w : Nat)]) := by
  obtain ⟨as, has⟩ : ∃ as : List Arc, as = w.map (arcAt rows) := ⟨_, rfl⟩
  have hal : as.length ≤ 1000 := by rw [has, List.length_map]; exact hl
  have l1 : mLc (mSeqI (mVar 1)) (hTup 2 (hCons (hName 3) (hCons (hName 4) (hNil)))) (mYes) (e0_measure) [3, 4] [.fz (rowsD rows), .fz (ringT w), .no, .no, .no, .no] = .ok (.list (as.map arcD)) [.fz (rowsD rows), .fz (ringT w), .no, .no, .no, .no] := by
    rw [has, List.map_map]
    refine mlc_map0 w pairD _ (seqT_ok rfl) (by simp only [big]; omega) rfl (fun p hp => ⟨[.fz (rowsD rows), .fz (ringT w), .no, .fz (.int (p.1 : Nat)), .fz (.int (p.2 : Nat)), .no], rfl, ?_, rfl⟩)
    obtain ⟨h1, h2⟩ := hw p hp
    obtain ⟨e1, e2⟩ := arc_at h1 h2
    exact op_ok (mT_ok (op_ok rfl rfl rfl rfl e1)) rfl rfl rfl e2
  have l2 : mLc (mSeqI (mVar 2)) (hName 5) (mYes) (e2_measure) [5] [.fz (rowsD rows), .fz (ringT w), .fz (.list (as.map arcD)), .no, .no, .no] = .ok (.list ((as.map fun a => a.2.1).map fun n : Nat => PyData.int (n : Int))) [.fz (rowsD rows), .fz (ringT w), .fz (.list (as.map arcD)), .no, .no, .no] := by
    rw [List.map_map]
    exact mlc_map0 as arcD _ (seqL_ok rfl) (by simp only [big]; omega) rfl (fun a ha => ⟨_, rfl, op_ok rfl (mT_ok rfl) rfl rfl rfl, rfl⟩)
  have l3 : mLc (mSeqI (mVar 2)) (hName 5) (mYes) (e1_measure) [5] [.fz (rowsD rows), .fz (ringT w), .fz (.list (as.map arcD)), .no, .no, .no] = .ok (.list ((as.map fun a => a.2.2).map fun n : Nat => PyData.int (n : Int))) [.fz (rowsD rows), .fz (ringT w), .fz (.list (as.map arcD)), .no, .no, .no] := by
    rw [List.map_map]
    exact mlc_map0 as arcD _ (seqL_ok rfl) (by simp only [big]; omega) rfl (fun a ha => ⟨_, rfl, op_ok rfl (mT_ok rfl) rfl rfl rfl, rfl⟩)
  have s1 := sum_int (as.map fun a => a.2.1)
  have s2 := sum_int (as.map fun a => a.2.2)
  have d1 : (as.map fun a => a.2.1).sum = dlW rows w := by rw [has, List.map_map]; rfl
  have d2 : (as.map fun a => a.2.2).sum = bkW rows w := by rw [has, List.map_map]; rfl
  rw [d1] at s1
  rw [d2] at s2
  unfold g_measure
  rw [call2 (m := 4)]
  unfold b_measure
  exact fin_rt (seq_to (asg_ok l1 rfl) (ret_ok (tup_ok (cons_ok (cb_ok (cons_ok (mT_ok l2) rfl) rfl s1) (cons_ok (cb_ok (cons_ok (mT_ok l3) rfl) rfl s2) rfl)) (show (2 : Nat) ≤ 100 by decide))))
end Rn
end

section
set_option Elab.async false
set_option linter.all false
set_option maxRecDepth 100000
set_option maxHeartbeats 4000000
/-! NetS: lowest terms, ratio, the slowest. -/
namespace Rn
open PySem PySem.Spec L2
theorem w_is_less (p q r s : Int) (h1 : isSmall s = true) (h2 : isSmall q = true) : g_is_less [.tuple [.int p, .int q], .tuple [.int r, .int s]] = .ok (.bool (decide (p * s < r * q))) := by
  simp -implicitDefEqProofs [g_is_less, b_is_less, ev_foc, ev_fo0, ev_app, ev_enm, ev_rs, ev_lc', ev_g0, ev_gc, ev_y, big, ev_bnd, ev_ret, ev_lfS, ev_lfN, ev_stk, ev_vr, ev_vrT, ev_mT, ev_cF, ev_cO, ev_cB, ev_dd, ev_ds, ev_d0, ev_dc, ev_opr, ev_unr, ev_nl, ev_cns, ev_cbr, ev_ab, ev_ai, ev_tst', ev_an, ev_orr, ev_nt, ev_anV, ev_orV', ev_ntV, ev_ifm, ev_ch, ev_tp, ev_ls, ev_cl, ev_cl0, ev_isr, ev_sqI, ev_sqL, ev_sqT, ev_sb, ev_ss, ev_sn, ev_sa, ev_so, ev_sr, ev_sdr, ev_si, ev_sp, ev_p0, ev_pF, ev_pT, ev_sf, ev_hn, ev_ht, ev_hc, ev_h0, ev_cal, ev_f1, ev_f2, ev_f3, ev_f4, ev_cmp, ev_add, ev_sub, ev_mod, ev_fdv, ev_isn, ev_n1, ev_n2, ev_n3, ev_n4, ev_ixL, ev_ixT, ev_a0, ev_a1, ev_a2, ev_lL, ev_lT, ev_tL, ev_tT, ev_liT, ev_abs, ev_mx, ev_mn, ev_mx3, ev_t1, ev_t2, ev_t3, ev_eqI, ev_neI, List.getElem?_cons_zero, List.getElem?_cons_succ, List.set_cons_zero, List.set_cons_succ, List.length_cons, List.length_nil, List.map_cons, List.map_nil, List.replicate_succ, List.replicate_zero, List.cons_append, List.nil_append, List.append_nil, Option.bind_some, Option.map_some, Nat.reduceAdd, Nat.reduceSub, Nat.reduceLT, Nat.reduceLeDiff, Nat.reduceEqDiff, if_true, if_false, reduceIte, Bool.false_eq_true, wipeR, restR, ev_mul, h1, h2]
/-! ### the greatest fraction -/
abbrev Fr := Int × Int
def encF (f : Fr) : D := .tuple [.int f.1, .int f.2]
def encO : Option Fr → D
  | none => .none
  | some f => encF f
def grt (o : Option Fr) (f : Fr) : Option Fr := match o with
  | none => some f
  | some g => if g.1 * f.2 < f.1 * g.2 then some f else some g
theorem grt_mem {fs : List Fr} : ∀ {o : Option Fr} {gs : List Fr}, (∀ f ∈ gs, f ∈ fs) → (∀ g, o = some g → g ∈ fs) → ∀ g, gs.foldl grt o = some g → g ∈ fs
  | o, [], _, h2, g, e => h2 g e
  | o, f :: gs, h1, h2, g, e => by
    refine grt_mem (o := grt o f) (gs := gs) (fun x hx => h1 x (List.mem_cons_of_mem _ hx)) (fun y hy => ?_) g e
    unfold grt at hy
    cases o with
    | none => cases hy; exact h1 f (List.mem_cons_self ..)
    | some k =>
      simp only at hy
      split at hy
      · cases hy; exact h1 f (List.mem_cons_self ..)
      · cases hy; exact h2 _ rfl
def smallF (f : Fr) : Bool := isSmall f.1 && isSmall f.2
def grSt (fs : List D) (x : D) (o : Option Fr) : Rho := [.fz (.list fs), .fz (encO o), .fz x]
theorem gr_step (fs : List D) (o : Option Fr) (x : Cell) (f : Fr) (hf : isSmall f.2 = true) (ho : ∀ g, o = some g → isSmall g.2 = true) :
    (sAsg (mIf (mOr (mTst (mOp (isF false) (mVarT 1) (mT (ret .none)))) (mTst (mCall0 g_is_less (mCons (mVar 1) (mCons (mVar 2) (mNil)))))) (mVar 2) (mVar 1)) (hName 1)) [.fz (.list fs), .fz (encO o), .fz (encF f)] = .nx [.fz (.list fs), .fz (encO (grt o f)), .fz (encF f)] := by
  cases o with
  | none => simp -implicitDefEqProofs [ev_foc, ev_fo0, ev_app, ev_enm, ev_rs, ev_lc', ev_g0, ev_gc, ev_y, big, ev_bnd, ev_ret, ev_lfS, ev_lfN, ev_stk, ev_vr, ev_vrT, ev_mT, ev_cF, ev_cO, ev_cB, ev_dd, ev_ds, ev_d0, ev_dc, ev_opr, ev_unr, ev_nl, ev_cns, ev_cbr, ev_ab, ev_ai, ev_tst', ev_an, ev_orr, ev_nt, ev_anV, ev_orV', ev_ntV, ev_ifm, ev_ch, ev_tp, ev_ls, ev_cl, ev_cl0, ev_isr, ev_sqI, ev_sqL, ev_sqT, ev_sb, ev_ss, ev_sn, ev_sa, ev_so, ev_sr, ev_sdr, ev_si, ev_sp, ev_p0, ev_pF, ev_pT, ev_sf, ev_hn, ev_ht, ev_hc, ev_h0, ev_cal, ev_f1, ev_f2, ev_f3, ev_f4, ev_cmp, ev_add, ev_sub, ev_mod, ev_fdv, ev_isn, ev_n1, ev_n2, ev_n3, ev_n4, ev_ixL, ev_ixT, ev_a0, ev_a1, ev_a2, ev_lL, ev_lT, ev_tL, ev_tT, ev_liT, ev_abs, ev_mx, ev_mn, ev_mx3, ev_t1, ev_t2, ev_t3, ev_eqI, ev_neI, List.getElem?_cons_zero, List.getElem?_cons_succ, List.set_cons_zero, List.set_cons_succ, List.length_cons, List.length_nil, List.map_cons, List.map_nil, List.replicate_succ, List.replicate_zero, List.cons_append, List.nil_append, List.append_nil, Option.bind_some, Option.map_some, Nat.reduceAdd, Nat.reduceSub, Nat.reduceLT, Nat.reduceLeDiff, Nat.reduceEqDiff, if_true, if_false, reduceIte, Bool.false_eq_true, wipeR, restR, encO, grt]
  | some g =>
    have hl := w_is_less g.1 g.2 f.1 f.2 hf (ho g rfl)
    simp -implicitDefEqProofs only [ev_foc, ev_fo0, ev_app, ev_enm, ev_rs, ev_lc', ev_g0, ev_gc, ev_y, big, ev_bnd, ev_ret, ev_lfS, ev_lfN, ev_stk, ev_vr, ev_vrT, ev_mT, ev_cF, ev_cO, ev_cB, ev_dd, ev_ds, ev_d0, ev_dc, ev_opr, ev_unr, ev_nl, ev_cns, ev_cbr, ev_ab, ev_ai, ev_tst', ev_an, ev_orr, ev_nt, ev_anV, ev_orV', ev_ntV, ev_ifm, ev_ch, ev_tp, ev_ls, ev_cl, ev_cl0, ev_isr, ev_sqI, ev_sqL, ev_sqT, ev_sb, ev_ss, ev_sn, ev_sa, ev_so, ev_sr, ev_sdr, ev_si, ev_sp, ev_p0, ev_pF, ev_pT, ev_sf, ev_hn, ev_ht, ev_hc, ev_h0, ev_cal, ev_f1, ev_f2, ev_f3, ev_f4, ev_cmp, ev_add, ev_sub, ev_mod, ev_fdv, ev_isn, ev_n1, ev_n2, ev_n3, ev_n4, ev_ixL, ev_ixT, ev_a0, ev_a1, ev_a2, ev_lL, ev_lT, ev_tL, ev_tT, ev_liT, ev_abs, ev_mx, ev_mn, ev_mx3, ev_t1, ev_t2, ev_t3, ev_eqI, ev_neI, List.getElem?_cons_zero, List.getElem?_cons_succ, List.set_cons_zero, List.set_cons_succ, List.length_cons, List.length_nil, List.map_cons, List.map_nil, List.replicate_succ, List.replicate_zero, List.cons_append, List.nil_append, List.append_nil, Option.bind_some, Option.map_some, Nat.reduceAdd, Nat.reduceSub, Nat.reduceLT, Nat.reduceLeDiff, Nat.reduceEqDiff, if_true, if_false, reduceIte, Bool.false_eq_true, wipeR, restR, encO, encF] at hl ⊢
    rw [hl]
    by_cases h : g.1 * f.2 < f.1 * g.2
    · simp -implicitDefEqProofs [ev_foc, ev_fo0, ev_app, ev_enm, ev_rs, ev_lc', ev_g0, ev_gc, ev_y, big, ev_bnd, ev_ret, ev_lfS, ev_lfN, ev_stk, ev_vr, ev_vrT, ev_mT, ev_cF, ev_cO, ev_cB, ev_dd, ev_ds, ev_d0, ev_dc, ev_opr, ev_unr, ev_nl, ev_cns, ev_cbr, ev_ab, ev_ai, ev_tst', ev_an, ev_orr, ev_nt, ev_anV, ev_orV', ev_ntV, ev_ifm, ev_ch, ev_tp, ev_ls, ev_cl, ev_cl0, ev_isr, ev_sqI, ev_sqL, ev_sqT, ev_sb, ev_ss, ev_sn, ev_sa, ev_so, ev_sr, ev_sdr, ev_si, ev_sp, ev_p0, ev_pF, ev_pT, ev_sf, ev_hn, ev_ht, ev_hc, ev_h0, ev_cal, ev_f1, ev_f2, ev_f3, ev_f4, ev_cmp, ev_add, ev_sub, ev_mod, ev_fdv, ev_isn, ev_n1, ev_n2, ev_n3, ev_n4, ev_ixL, ev_ixT, ev_a0, ev_a1, ev_a2, ev_lL, ev_lT, ev_tL, ev_tT, ev_liT, ev_abs, ev_mx, ev_mn, ev_mx3, ev_t1, ev_t2, ev_t3, ev_eqI, ev_neI, List.getElem?_cons_zero, List.getElem?_cons_succ, List.set_cons_zero, List.set_cons_succ, List.length_cons, List.length_nil, List.map_cons, List.map_nil, List.replicate_succ, List.replicate_zero, List.cons_append, List.nil_append, List.append_nil, Option.bind_some, Option.map_some, Nat.reduceAdd, Nat.reduceSub, Nat.reduceLT, Nat.reduceLeDiff, Nat.reduceEqDiff, if_true, if_false, reduceIte, Bool.false_eq_true, wipeR, restR, grt, h, encO, encF]
    · simp -implicitDefEqProofs [ev_foc, ev_fo0, ev_app, ev_enm, ev_rs, ev_lc', ev_g0, ev_gc, ev_y, big, ev_bnd, ev_ret, ev_lfS, ev_lfN, ev_stk, ev_vr, ev_vrT, ev_mT, ev_cF, ev_cO, ev_cB, ev_dd, ev_ds, ev_d0, ev_dc, ev_opr, ev_unr, ev_nl, ev_cns, ev_cbr, ev_ab, ev_ai, ev_tst', ev_an, ev_orr, ev_nt, ev_anV, ev_orV', ev_ntV, ev_ifm, ev_ch, ev_tp, ev_ls, ev_cl, ev_cl0, ev_isr, ev_sqI, ev_sqL, ev_sqT, ev_sb, ev_ss, ev_sn, ev_sa, ev_so, ev_sr, ev_sdr, ev_si, ev_sp, ev_p0, ev_pF, ev_pT, ev_sf, ev_hn, ev_ht, ev_hc, ev_h0, ev_cal, ev_f1, ev_f2, ev_f3, ev_f4, ev_cmp, ev_add, ev_sub, ev_mod, ev_fdv, ev_isn, ev_n1, ev_n2, ev_n3, ev_n4, ev_ixL, ev_ixT, ev_a0, ev_a1, ev_a2, ev_lL, ev_lT, ev_tL, ev_tT, ev_liT, ev_abs, ev_mx, ev_mn, ev_mx3, ev_t1, ev_t2, ev_t3, ev_eqI, ev_neI, List.getElem?_cons_zero, List.getElem?_cons_succ, List.set_cons_zero, List.set_cons_succ, List.length_cons, List.length_nil, List.map_cons, List.map_nil, List.replicate_succ, List.replicate_zero, List.cons_append, List.nil_append, List.append_nil, Option.bind_some, Option.map_some, Nat.reduceAdd, Nat.reduceSub, Nat.reduceLT, Nat.reduceLeDiff, Nat.reduceEqDiff, if_true, if_false, reduceIte, Bool.false_eq_true, wipeR, restR, grt, h, encO, encF]
theorem gr_loop (gs : List D) : ∀ (fs : List Fr) (o : Option Fr) (x : Cell), (∀ f ∈ fs, isSmall f.2 = true) → (∀ g, o = some g → isSmall g.2 = true) → ∃ y,
    forGo (hName 2) (sAsg (mIf (mOr (mTst (mOp (isF false) (mVarT 1) (mT (ret .none)))) (mTst (mCall0 g_is_less (mCons (mVar 1) (mCons (mVar 2) (mNil)))))) (mVar 2) (mVar 1)) (hName 1)) (fs.map encF) [.fz (.list gs), .fz (encO o), x] = .nx [.fz (.list gs), .fz (encO (fs.foldl grt o)), y]
  | [], o, x, _, _ => ⟨x, rfl⟩
  | f :: fs, o, x, h1, h2 => by
    have hf := h1 f (List.mem_cons_self ..)
    obtain ⟨y, ih⟩ := gr_loop gs fs (grt o f) (.fz (encF f)) (fun z hz => h1 z (List.mem_cons_of_mem _ hz)) (fun g hg => by
      unfold grt at hg
      cases o with
      | none => cases hg; exact hf
      | some k =>
        simp only at hg
        split at hg
        · cases hg; exact hf
        · cases hg; exact h2 _ rfl)
    refine ⟨y, ?_⟩
    have st := gr_step gs o x f hf h2
    rw [List.map_cons]
    unfold forGo
    simp only [hName, List.set_cons_succ, List.set_cons_zero] at st ih ⊢
    rw [st]
    simp only [ih, List.foldl_cons]
theorem w_greatest (fs : List Fr) (h : ∀ f ∈ fs, isSmall f.2 = true) : g_greatest [.list (fs.map encF)] = .ok (encO (fs.foldl grt none)) := by
  obtain ⟨y, e⟩ := gr_loop (fs.map encF) fs none .no h (by simp)
  change forGo _ _ _ [Cell.fz (.list (fs.map encF)), Cell.fz .none, Cell.no] = _ at e
  simp -implicitDefEqProofs only [g_greatest, b_greatest, ev_foc, ev_fo0, ev_app, ev_enm, ev_rs, ev_lc', ev_g0, ev_gc, ev_y, big, ev_bnd, ev_ret, ev_lfS, ev_lfN, ev_stk, ev_vr, ev_vrT, ev_mT, ev_cF, ev_cO, ev_cB, ev_dd, ev_ds, ev_d0, ev_dc, ev_opr, ev_unr, ev_nl, ev_cns, ev_cbr, ev_ab, ev_ai, ev_tst', ev_an, ev_orr, ev_nt, ev_anV, ev_orV', ev_ntV, ev_ifm, ev_ch, ev_tp, ev_ls, ev_cl, ev_cl0, ev_isr, ev_sqI, ev_sqL, ev_sqT, ev_sb, ev_ss, ev_sn, ev_sa, ev_so, ev_sr, ev_sdr, ev_si, ev_sp, ev_p0, ev_pF, ev_pT, ev_sf, ev_hn, ev_ht, ev_hc, ev_h0, ev_cal, ev_f1, ev_f2, ev_f3, ev_f4, ev_cmp, ev_add, ev_sub, ev_mod, ev_fdv, ev_isn, ev_n1, ev_n2, ev_n3, ev_n4, ev_ixL, ev_ixT, ev_a0, ev_a1, ev_a2, ev_lL, ev_lT, ev_tL, ev_tT, ev_liT, ev_abs, ev_mx, ev_mn, ev_mx3, ev_t1, ev_t2, ev_t3, ev_eqI, ev_neI, List.getElem?_cons_zero, List.getElem?_cons_succ, List.set_cons_zero, List.set_cons_succ, List.length_cons, List.length_nil, List.map_cons, List.map_nil, List.replicate_succ, List.replicate_zero, List.cons_append, List.nil_append, List.append_nil, Option.bind_some, Option.map_some, Nat.reduceAdd, Nat.reduceSub, Nat.reduceLT, Nat.reduceLeDiff, Nat.reduceEqDiff, if_true, if_false, reduceIte, Bool.false_eq_true, wipeR, restR]
  simp only [l0_greatest]
  rw [e]
  simp -implicitDefEqProofs only [ev_foc, ev_fo0, ev_app, ev_enm, ev_rs, ev_lc', ev_g0, ev_gc, ev_y, big, ev_bnd, ev_ret, ev_lfS, ev_lfN, ev_stk, ev_vr, ev_vrT, ev_mT, ev_cF, ev_cO, ev_cB, ev_dd, ev_ds, ev_d0, ev_dc, ev_opr, ev_unr, ev_nl, ev_cns, ev_cbr, ev_ab, ev_ai, ev_tst', ev_an, ev_orr, ev_nt, ev_anV, ev_orV', ev_ntV, ev_ifm, ev_ch, ev_tp, ev_ls, ev_cl, ev_cl0, ev_isr, ev_sqI, ev_sqL, ev_sqT, ev_sb, ev_ss, ev_sn, ev_sa, ev_so, ev_sr, ev_sdr, ev_si, ev_sp, ev_p0, ev_pF, ev_pT, ev_sf, ev_hn, ev_ht, ev_hc, ev_h0, ev_cal, ev_f1, ev_f2, ev_f3, ev_f4, ev_cmp, ev_add, ev_sub, ev_mod, ev_fdv, ev_isn, ev_n1, ev_n2, ev_n3, ev_n4, ev_ixL, ev_ixT, ev_a0, ev_a1, ev_a2, ev_lL, ev_lT, ev_tL, ev_tT, ev_liT, ev_abs, ev_mx, ev_mn, ev_mx3, ev_t1, ev_t2, ev_t3, ev_eqI, ev_neI, List.getElem?_cons_zero, List.getElem?_cons_succ, List.set_cons_zero, List.set_cons_succ, List.length_cons, List.length_nil, List.map_cons, List.map_nil, List.replicate_succ, List.replicate_zero, List.cons_append, List.nil_append, List.append_nil, Option.bind_some, Option.map_some, Nat.reduceAdd, Nat.reduceSub, Nat.reduceLT, Nat.reduceLeDiff, Nat.reduceEqDiff, if_true, if_false, reduceIte, Bool.false_eq_true, wipeR, restR]
/-! ### lowest terms -/
theorem div_loop : ∀ (n x y : Nat), y < n → whileGo c0_divisor l1_divisor n [.fz (.int x), .fz (.int y)] = .nx [.fz (.int (Nat.gcd x y)), .fz (.int 0)]
  | 0, _, _, h => absurd h (Nat.not_lt_zero _)
  | n + 1, x, y, h => by
    unfold whileGo
    by_cases h0 : y = 0
    · subst h0
      simp -implicitDefEqProofs [c0_divisor, ev_foc, ev_fo0, ev_app, ev_enm, ev_rs, ev_lc', ev_g0, ev_gc, ev_y, big, ev_bnd, ev_ret, ev_lfS, ev_lfN, ev_stk, ev_vr, ev_vrT, ev_mT, ev_cF, ev_cO, ev_cB, ev_dd, ev_ds, ev_d0, ev_dc, ev_opr, ev_unr, ev_nl, ev_cns, ev_cbr, ev_ab, ev_ai, ev_tst', ev_an, ev_orr, ev_nt, ev_anV, ev_orV', ev_ntV, ev_ifm, ev_ch, ev_tp, ev_ls, ev_cl, ev_cl0, ev_isr, ev_sqI, ev_sqL, ev_sqT, ev_sb, ev_ss, ev_sn, ev_sa, ev_so, ev_sr, ev_sdr, ev_si, ev_sp, ev_p0, ev_pF, ev_pT, ev_sf, ev_hn, ev_ht, ev_hc, ev_h0, ev_cal, ev_f1, ev_f2, ev_f3, ev_f4, ev_cmp, ev_add, ev_sub, ev_mod, ev_fdv, ev_isn, ev_n1, ev_n2, ev_n3, ev_n4, ev_ixL, ev_ixT, ev_a0, ev_a1, ev_a2, ev_lL, ev_lT, ev_tL, ev_tT, ev_liT, ev_abs, ev_mx, ev_mn, ev_mx3, ev_t1, ev_t2, ev_t3, ev_eqI, ev_neI, List.getElem?_cons_zero, List.getElem?_cons_succ, List.set_cons_zero, List.set_cons_succ, List.length_cons, List.length_nil, List.map_cons, List.map_nil, List.replicate_succ, List.replicate_zero, List.cons_append, List.nil_append, List.append_nil, Option.bind_some, Option.map_some, Nat.reduceAdd, Nat.reduceSub, Nat.reduceLT, Nat.reduceLeDiff, Nat.reduceEqDiff, if_true, if_false, reduceIte, Bool.false_eq_true, wipeR, restR, ev_neI]
    · have hp : 0 < y := Nat.pos_of_ne_zero h0
      have hi : (0 : Int) < (y : Int) := by omega
      have hne : ((y : Int) = 0) = False := by simp; omega
      have ih := div_loop n y (x % y) (Nat.lt_of_lt_of_le (Nat.mod_lt _ hp) (Nat.le_of_lt_succ h))
      have e : (x : Int) % (y : Int) = ((x % y : Nat) : Int) := by simp
      simp -implicitDefEqProofs only [c0_divisor, l1_divisor, ev_foc, ev_fo0, ev_app, ev_enm, ev_rs, ev_lc', ev_g0, ev_gc, ev_y, big, ev_bnd, ev_ret, ev_lfS, ev_lfN, ev_stk, ev_vr, ev_vrT, ev_mT, ev_cF, ev_cO, ev_cB, ev_dd, ev_ds, ev_d0, ev_dc, ev_opr, ev_unr, ev_nl, ev_cns, ev_cbr, ev_ab, ev_ai, ev_tst', ev_an, ev_orr, ev_nt, ev_anV, ev_orV', ev_ntV, ev_ifm, ev_ch, ev_tp, ev_ls, ev_cl, ev_cl0, ev_isr, ev_sqI, ev_sqL, ev_sqT, ev_sb, ev_ss, ev_sn, ev_sa, ev_so, ev_sr, ev_sdr, ev_si, ev_sp, ev_p0, ev_pF, ev_pT, ev_sf, ev_hn, ev_ht, ev_hc, ev_h0, ev_cal, ev_f1, ev_f2, ev_f3, ev_f4, ev_cmp, ev_add, ev_sub, ev_mod, ev_fdv, ev_isn, ev_n1, ev_n2, ev_n3, ev_n4, ev_ixL, ev_ixT, ev_a0, ev_a1, ev_a2, ev_lL, ev_lT, ev_tL, ev_tT, ev_liT, ev_abs, ev_mx, ev_mn, ev_mx3, ev_t1, ev_t2, ev_t3, ev_eqI, ev_neI, List.getElem?_cons_zero, List.getElem?_cons_succ, List.set_cons_zero, List.set_cons_succ, List.length_cons, List.length_nil, List.map_cons, List.map_nil, List.replicate_succ, List.replicate_zero, List.cons_append, List.nil_append, List.append_nil, Option.bind_some, Option.map_some, Nat.reduceAdd, Nat.reduceSub, Nat.reduceLT, Nat.reduceLeDiff, Nat.reduceEqDiff, if_true, if_false, reduceIte, Bool.false_eq_true, wipeR, restR, ev_neI, hne, hi, decide_false, Bool.not_false, e, ih]
      rw [Nat.gcd_comm x y, Nat.gcd_rec y x, Nat.gcd_comm]
      exact ih
theorem w_divisor (x y : Nat) (h : y < 1000000) : g_divisor [.int x, .int y] = .ok (.int (Nat.gcd x y)) := by
  simp -implicitDefEqProofs only [g_divisor, b_divisor, ev_foc, ev_fo0, ev_app, ev_enm, ev_rs, ev_lc', ev_g0, ev_gc, ev_y, big, ev_bnd, ev_ret, ev_lfS, ev_lfN, ev_stk, ev_vr, ev_vrT, ev_mT, ev_cF, ev_cO, ev_cB, ev_dd, ev_ds, ev_d0, ev_dc, ev_opr, ev_unr, ev_nl, ev_cns, ev_cbr, ev_ab, ev_ai, ev_tst', ev_an, ev_orr, ev_nt, ev_anV, ev_orV', ev_ntV, ev_ifm, ev_ch, ev_tp, ev_ls, ev_cl, ev_cl0, ev_isr, ev_sqI, ev_sqL, ev_sqT, ev_sb, ev_ss, ev_sn, ev_sa, ev_so, ev_sr, ev_sdr, ev_si, ev_sp, ev_p0, ev_pF, ev_pT, ev_sf, ev_hn, ev_ht, ev_hc, ev_h0, ev_cal, ev_f1, ev_f2, ev_f3, ev_f4, ev_cmp, ev_add, ev_sub, ev_mod, ev_fdv, ev_isn, ev_n1, ev_n2, ev_n3, ev_n4, ev_ixL, ev_ixT, ev_a0, ev_a1, ev_a2, ev_lL, ev_lT, ev_tL, ev_tT, ev_liT, ev_abs, ev_mx, ev_mn, ev_mx3, ev_t1, ev_t2, ev_t3, ev_eqI, ev_neI, List.getElem?_cons_zero, List.getElem?_cons_succ, List.set_cons_zero, List.set_cons_succ, List.length_cons, List.length_nil, List.map_cons, List.map_nil, List.replicate_succ, List.replicate_zero, List.cons_append, List.nil_append, List.append_nil, Option.bind_some, Option.map_some, Nat.reduceAdd, Nat.reduceSub, Nat.reduceLT, Nat.reduceLeDiff, Nat.reduceEqDiff, if_true, if_false, reduceIte, Bool.false_eq_true, wipeR, restR, div_loop _ x y h]
theorem w_lowest (t b : Nat) (h0 : 0 < b) (h : b < 1000000) : g_lowest [.int t, .int b] = .ok (.tuple [.int (t / Nat.gcd t b : Nat), .int (b / Nat.gcd t b : Nat)]) := by
  have hg : 0 < Nat.gcd t b := Nat.gcd_pos_of_pos_right t h0
  have hg2 : Nat.gcd t b ≤ b := Nat.gcd_le_right t h0
  have hi : (0 : Int) < (Nat.gcd t b : Int) ∧ (Nat.gcd t b : Int).natAbs < 2 ^ 400 := by
    refine ⟨by omega, ?_⟩
    have : (Nat.gcd t b : Int).natAbs = Nat.gcd t b := by omega
    rw [this]
    exact Nat.lt_of_lt_of_le (Nat.lt_of_le_of_lt hg2 h) (by decide)
  have hn : ¬ ((t : Int) < 0) := by omega
  simp -implicitDefEqProofs only [g_lowest, b_lowest, ev_foc, ev_fo0, ev_app, ev_enm, ev_rs, ev_lc', ev_g0, ev_gc, ev_y, big, ev_bnd, ev_ret, ev_lfS, ev_lfN, ev_stk, ev_vr, ev_vrT, ev_mT, ev_cF, ev_cO, ev_cB, ev_dd, ev_ds, ev_d0, ev_dc, ev_opr, ev_unr, ev_nl, ev_cns, ev_cbr, ev_ab, ev_ai, ev_tst', ev_an, ev_orr, ev_nt, ev_anV, ev_orV', ev_ntV, ev_ifm, ev_ch, ev_tp, ev_ls, ev_cl, ev_cl0, ev_isr, ev_sqI, ev_sqL, ev_sqT, ev_sb, ev_ss, ev_sn, ev_sa, ev_so, ev_sr, ev_sdr, ev_si, ev_sp, ev_p0, ev_pF, ev_pT, ev_sf, ev_hn, ev_ht, ev_hc, ev_h0, ev_cal, ev_f1, ev_f2, ev_f3, ev_f4, ev_cmp, ev_add, ev_sub, ev_mod, ev_fdv, ev_isn, ev_n1, ev_n2, ev_n3, ev_n4, ev_ixL, ev_ixT, ev_a0, ev_a1, ev_a2, ev_lL, ev_lT, ev_tL, ev_tT, ev_liT, ev_abs, ev_mx, ev_mn, ev_mx3, ev_t1, ev_t2, ev_t3, ev_eqI, ev_neI, List.getElem?_cons_zero, List.getElem?_cons_succ, List.set_cons_zero, List.set_cons_succ, List.length_cons, List.length_nil, List.map_cons, List.map_nil, List.replicate_succ, List.replicate_zero, List.cons_append, List.nil_append, List.append_nil, Option.bind_some, Option.map_some, Nat.reduceAdd, Nat.reduceSub, Nat.reduceLT, Nat.reduceLeDiff, Nat.reduceEqDiff, if_true, if_false, reduceIte, Bool.false_eq_true, wipeR, restR, hn, w_divisor t b h, hi, and_self, Int.natCast_ediv]
def lowF (t b : Nat) : Fr := (((t / Nat.gcd t b : Nat) : Int), ((b / Nat.gcd t b : Nat) : Int))
theorem w_ratio {rows : Rows} {w : Way} (hw : WayOk rows w) (hl : w.length ≤ 1000) (h0 : 0 < bkW rows w) (h : bkW rows w < 1000000) : g_ratio [rowsD rows, ringT w] = .ok (encF (lowF (dlW rows w) (bkW rows w))) := by
  have e := w_lowest (dlW rows w) (bkW rows w) h0 h
  unfold g_ratio
  rw [call2 (m := 2)]
  unfold b_ratio
  exact fin_rt (seq_to (asg_ok (call_ok rfl (w_measure hw hl)) rfl) (ret_ok (call_ok rfl e)))
end Rn
end

section
set_option Elab.async false
set_option linter.all false
set_option maxRecDepth 100000
set_option maxHeartbeats 4000000
/-! NetT: rings, slowest, slowest_rings of a good net. -/
namespace Rn
open PySem PySem.Spec L2
theorem pre_list {α : Type} {f : α → D} {P : α → Prop} : ∀ {l : List D}, (∀ d ∈ l, ∃ w, P w ∧ f w = d) → ∃ ys : List α, l = ys.map f ∧ ∀ w ∈ ys, P w
  | [], _ => ⟨[], rfl, by simp⟩
  | d :: l, h => by
    obtain ⟨w, hw, e⟩ := h d (List.mem_cons_self ..)
    obtain ⟨ys, e2, h2⟩ := pre_list (l := l) fun x hx => h x (List.mem_cons_of_mem _ hx)
    refine ⟨w :: ys, by rw [List.map_cons, e, e2], fun x hx => ?_⟩
    rcases List.mem_cons.mp hx with z | z
    · rw [z]; exact hw
    · exact h2 x z
def frW (rows : Rows) (w : Way) : Fr := lowF (dlW rows w) (bkW rows w)
/-- the rings of a good net, as ways -/
theorem NetOk.ways {n : Net} (h : NetOk n) : ∃ ws : List Way, RG n.2.1 = ws.map ringT ∧ (∀ w ∈ ws, RingOk n.2.1 w) ∧ ws.length ≤ 100000 := by
  obtain ⟨ok, hs⟩ := h.rows
  obtain ⟨ws, e, hw⟩ := pre_list (f := ringT) (P := RingOk n.2.1) (l := RG n.2.1) fun d hd => by
    have := (isort_perm ((allW n.2.1 n.2.1.length).map ringT)).mem_iff.mp hd
    obtain ⟨w, hw, e⟩ := List.mem_map.mp this
    exact ⟨w, h.ring w hw, e⟩
  refine ⟨ws, e, hw, ?_⟩
  have h1 : ws.length = (RG n.2.1).length := by rw [e, List.length_map]
  have h2 : (RG n.2.1).length = (allW n.2.1 n.2.1.length).length := by
    unfold RG
    rw [(isort_perm _).length_eq, List.length_map]
  have h3 := allW_len ok n.2.1.length
  have h5 := h.r5
  have hb : bnd' 4 n.2.1.length ≤ 1365 := by
    generalize n.2.1.length = l at h5
    match l, h5 with
    | 0, _ => decide
    | 1, _ => decide
    | 2, _ => decide
    | 3, _ => decide
    | 4, _ => decide
    | 5, _ => decide
  have : n.2.1.length * (4 * bnd' 4 n.2.1.length) ≤ 5 * (4 * 1365) := Nat.mul_le_mul h5 (by omega)
  omega
theorem NetOk.w_rings_of {n : Net} (h : NetOk n) : g_rings_of [rowsD n.2.1] = .ok (.list (RG n.2.1)) := by
  obtain ⟨ok, hs⟩ := h.rows
  exact Rn.w_rings_of ok (by omega)
theorem NetOk.w_law_rings {n : Net} (h : NetOk n) : g__law_rings [netD n] = .ok (.list (RG n.2.1)) := by
  obtain ⟨i0, rows, outs⟩ := n
  obtain ⟨ok, hs⟩ := h.rows
  exact Rn.w_law_rings ok hs
theorem NetOk.w_rings {n : Net} (h : NetOk n) : g_rings [netD n] = .ok (.tuple (RG n.2.1)) := by
  have row1 : ixF (netD n) (.int 1) = some (rowsD n.2.1) := rfl
  unfold g_rings
  rw [call1 (m := 0)]
  exact fin_rt (seq_to (drop_ok (callX_ok rfl h.need)) (ret_ok (cb_ok (cons_ok (mT_ok (call_ok (cons_ok (op_ok rfl (mT_ok rfl) rfl rfl row1) rfl) h.w_rings_of)) rfl) rfl rfl)))
theorem fr_small {rows : Rows} {w : Way} (h : bkW rows w ≤ 18) : isSmall (frW rows w).2 = true := by
  obtain ⟨k, hk, hk2⟩ : ∃ k : Nat, (frW rows w).2 = (k : Int) ∧ k ≤ 18 := ⟨_, rfl, Nat.le_trans (Nat.div_le_self _ _) h⟩
  rw [hk]
  unfold isSmall
  rw [Bool.and_eq_true]
  exact ⟨decide_eq_true (by omega), decide_eq_true (by omega)⟩
theorem NetOk.w_ratio {n : Net} (h : NetOk n) {w : Way} (hw : RingOk n.2.1 w) : g_ratio [rowsD n.2.1, ringT w] = .ok (encF (frW n.2.1 w)) := by
  have h1 := h.sums hw
  have h2 := hw.len
  have h3 := hw.bk1
  have h5 := h.r5
  exact Rn.w_ratio hw.way (by omega) (by omega) (by omega)
theorem NetOk.w_slowest_of {n : Net} (h : NetOk n) {ws : List Way} (e : RG n.2.1 = ws.map ringT) (hw : ∀ w ∈ ws, RingOk n.2.1 w) (hl : ws.length ≤ 100000) : g_slowest_of [rowsD n.2.1] = .ok (encO ((ws.map (frW n.2.1)).foldl grt none)) := by
  have hr := h.w_rings_of
  rw [e] at hr
  have lc : mLc (mSeqI (mCall0 g_rings_of (mCons (mVar 0) (mNil)))) (hName 1) (mYes) (e0_slowest_of) [1] [.fz (rowsD n.2.1), .no] = .ok (.list ((ws.map (frW n.2.1)).map encF)) [.fz (rowsD n.2.1), .no] := by
    rw [List.map_map]
    exact mlc_map0 ws ringT _ (seqL_ok (call_ok rfl hr)) (by simp only [big]; omega) rfl (fun w hw' => ⟨_, rfl, call_ok rfl (h.w_ratio (hw w hw')), rfl⟩)
  have g := w_greatest (ws.map (frW n.2.1)) (fun f hf => by
    obtain ⟨w, hw', rfl⟩ := List.mem_map.mp hf
    exact fr_small (h.sums (hw w hw')).2)
  unfold g_slowest_of
  rw [call1 (m := 1)]
  exact fin_rt (ret_ok (call_ok (cons_ok lc rfl) g))
theorem NetOk.w_slowest {n : Net} (h : NetOk n) {ws : List Way} (e : RG n.2.1 = ws.map ringT) (hw : ∀ w ∈ ws, RingOk n.2.1 w) (hl : ws.length ≤ 100000) : g_slowest [netD n] = .ok (encO ((ws.map (frW n.2.1)).foldl grt none)) := by
  have row1 : ixF (netD n) (.int 1) = some (rowsD n.2.1) := rfl
  unfold g_slowest
  rw [call1 (m := 0)]
  exact fin_rt (seq_to (drop_ok (callX_ok rfl h.need)) (ret_ok (call_ok (cons_ok (op_ok rfl (mT_ok rfl) rfl rfl row1) rfl) (h.w_slowest_of e hw hl))))
end Rn
end

section
set_option Elab.async false
set_option linter.all false
set_option maxRecDepth 100000
set_option maxHeartbeats 4000000
/-! NetU: the greatest fraction, the law's sums, slowest_rings. -/
namespace Rn
open PySem PySem.Spec L2
theorem grt_some (fs : List Fr) : ∀ (g : Fr), ∃ m, fs.foldl grt (some g) = some m := by
  induction fs with
  | nil => exact fun g => ⟨g, rfl⟩
  | cons f fs ih =>
    intro g
    rw [List.foldl_cons]
    show ∃ m, fs.foldl grt (if g.1 * f.2 < f.1 * g.2 then some f else some g) = some m
    split
    · exact ih f
    · exact ih g
theorem fr_trans {x y z : Fr} (hy : 0 < y.2) (hx : 0 < x.2) (hz : 0 < z.2) (h1 : x.1 * y.2 ≤ y.1 * x.2) (h2 : y.1 * z.2 ≤ z.1 * y.2) : x.1 * z.2 ≤ z.1 * x.2 := by
  have a : (x.1 * y.2) * z.2 ≤ (y.1 * x.2) * z.2 := Int.mul_le_mul_of_nonneg_right h1 (Int.le_of_lt hz)
  have b : (y.1 * z.2) * x.2 ≤ (z.1 * y.2) * x.2 := Int.mul_le_mul_of_nonneg_right h2 (Int.le_of_lt hx)
  have e : (x.1 * z.2) * y.2 ≤ (z.1 * x.2) * y.2 := by
    calc (x.1 * z.2) * y.2 = (x.1 * y.2) * z.2 := by rw [Int.mul_assoc, Int.mul_comm z.2, ← Int.mul_assoc]
      _ ≤ (y.1 * x.2) * z.2 := a
      _ = (y.1 * z.2) * x.2 := by rw [Int.mul_assoc, Int.mul_comm x.2, ← Int.mul_assoc]
      _ ≤ (z.1 * y.2) * x.2 := b
      _ = (z.1 * x.2) * y.2 := by rw [Int.mul_assoc, Int.mul_comm y.2, ← Int.mul_assoc]
  exact Int.le_of_mul_le_mul_right e hy
theorem grt_spec : ∀ (fs : List Fr) (g m : Fr), 0 < g.2 → (∀ f ∈ fs, 0 < f.2) → fs.foldl grt (some g) = some m → (m = g ∨ m ∈ fs) ∧ g.1 * m.2 ≤ m.1 * g.2 ∧ ∀ f ∈ fs, f.1 * m.2 ≤ m.1 * f.2
  | [], g, m, _, _, e => by cases e; exact ⟨.inl rfl, Int.le_refl _, by simp⟩
  | f :: fs, g, m, hg, hf, e => by
    have hf0 := hf f (List.mem_cons_self ..)
    have hf1 : ∀ x ∈ fs, 0 < x.2 := fun x hx => hf x (List.mem_cons_of_mem _ hx)
    rw [List.foldl_cons] at e
    change fs.foldl grt (if g.1 * f.2 < f.1 * g.2 then some f else some g) = some m at e
    split at e
    · next hlt =>
      obtain ⟨h1, h2, h3⟩ := grt_spec fs f m hf0 hf1 e
      have hm : 0 < m.2 := by
        rcases h1 with h1 | h1
        · rw [h1]; exact hf0
        · exact hf1 m h1
      refine ⟨.inr ?_, fr_trans hf0 hg hm (Int.le_of_lt hlt) h2, fun x hx => ?_⟩
      · rcases h1 with h1 | h1
        · rw [h1]; exact List.mem_cons_self ..
        · exact List.mem_cons_of_mem _ h1
      · rcases List.mem_cons.mp hx with rfl | hx
        · exact h2
        · exact h3 x hx
    · next hlt =>
      obtain ⟨h1, h2, h3⟩ := grt_spec fs g m hg hf1 e
      have hm : 0 < m.2 := by
        rcases h1 with h1 | h1
        · rw [h1]; exact hg
        · exact hf1 m h1
      refine ⟨?_, h2, fun x hx => ?_⟩
      · rcases h1 with h1 | h1
        · exact .inl h1
        · exact .inr (List.mem_cons_of_mem _ h1)
      · rcases List.mem_cons.mp hx with rfl | hx
        · exact fr_trans hg hf0 hm (Int.not_lt.mp hlt) h2
        · exact h3 x hx
/-- all fractions are at most p -/
theorem w_law_sums {i0 : Nat} {outs : List Nat} {rows : Rows} {w : Way} (hw : WayOk rows w) (hl : w.length ≤ 1000) : g__law_sums [netD (i0, rows, outs), ringT w] = .ok (.tuple [.int (dlW rows w : Nat), .int (bkW rows w : Nat)]) := by
  obtain ⟨as, has⟩ : ∃ as : List Arc, as = w.map (arcAt rows) := ⟨_, rfl⟩
  have hal : as.length ≤ 1000 := by rw [has, List.length_map]; exact hl
  obtain ⟨N, hN⟩ : ∃ N, N = netD (i0, rows, outs) := ⟨_, rfl⟩
  have row1 : ixF N (.int 1) = some (rowsD rows) := by rw [hN]; rfl
  rw [← hN]
  have l1 : mLc (mSeqI (mVar 1)) (hTup 2 (hCons (hName 3) (hCons (hName 4) (hNil)))) (mYes) (e0__law_sums) [3, 4] [.fz N, .fz (ringT w), .no, .no, .no, .no] = .ok (.list (as.map arcD)) [.fz N, .fz (ringT w), .no, .no, .no, .no] := by
    rw [has, List.map_map]
    refine mlc_map0 w pairD _ (seqT_ok rfl) (by simp only [big]; omega) rfl (fun p hp => ⟨[.fz N, .fz (ringT w), .no, .fz (.int (p.1 : Nat)), .fz (.int (p.2 : Nat)), .no], rfl, ?_, rfl⟩)
    obtain ⟨h1, h2⟩ := hw p hp
    obtain ⟨e1, e2⟩ := arc_at h1 h2
    exact op_ok (mT_ok (op_ok (mT_ok (op_ok rfl (mT_ok rfl) rfl rfl row1)) rfl rfl rfl e1)) rfl rfl rfl e2
  have l2 : mLc (mSeqI (mVar 2)) (hName 5) (mYes) (e2__law_sums) [5] [.fz N, .fz (ringT w), .fz (.list (as.map arcD)), .no, .no, .no] = .ok (.list ((as.map fun a => a.2.1).map fun n : Nat => PyData.int (n : Int))) [.fz N, .fz (ringT w), .fz (.list (as.map arcD)), .no, .no, .no] := by
    rw [List.map_map]
    exact mlc_map0 as arcD _ (seqL_ok rfl) (by simp only [big]; omega) rfl (fun a ha => ⟨_, rfl, op_ok rfl (mT_ok rfl) rfl rfl rfl, rfl⟩)
  have l3 : mLc (mSeqI (mVar 2)) (hName 5) (mYes) (e1__law_sums) [5] [.fz N, .fz (ringT w), .fz (.list (as.map arcD)), .no, .no, .no] = .ok (.list ((as.map fun a => a.2.2).map fun n : Nat => PyData.int (n : Int))) [.fz N, .fz (ringT w), .fz (.list (as.map arcD)), .no, .no, .no] := by
    rw [List.map_map]
    exact mlc_map0 as arcD _ (seqL_ok rfl) (by simp only [big]; omega) rfl (fun a ha => ⟨_, rfl, op_ok rfl (mT_ok rfl) rfl rfl rfl, rfl⟩)
  have s1 := sum_int (as.map fun a => a.2.1)
  have s2 := sum_int (as.map fun a => a.2.2)
  have d1 : (as.map fun a => a.2.1).sum = dlW rows w := by rw [has, List.map_map]; rfl
  have d2 : (as.map fun a => a.2.2).sum = bkW rows w := by rw [has, List.map_map]; rfl
  rw [d1] at s1
  rw [d2] at s2
  unfold g__law_sums
  rw [call2 (m := 4)]
  unfold b__law_sums
  exact fin_rt (seq_to (asg_ok l1 rfl) (ret_ok (tup_ok (cons_ok (cb_ok (cons_ok (mT_ok l2) rfl) rfl s1) (cons_ok (cb_ok (cons_ok (mT_ok l3) rfl) rfl s2) rfl)) (show (2 : Nat) ≤ 100 by decide))))
theorem good_F : Good 1 encF := good_int.pair good_int
theorem eq_O (f : Fr) (o : Option Fr) : eqF (encF f) (encO o) = some (.bool (decide (some f = o))) := by
  cases o with
  | some g =>
    have := good_F.eqF f g
    show eqF (encF f) (encF g) = _
    rw [this]
    exact congrArg (fun b => some (PyData.bool b)) (decide_eq_decide.mpr (by simp))
  | none =>
    show eqF (.tuple [.int f.1, .int f.2]) .none = _
    rfl
theorem NetOk.w_slowest_rings {n : Net} (h : NetOk n) {ws : List Way} (e : RG n.2.1 = ws.map ringT) (hw : ∀ w ∈ ws, RingOk n.2.1 w) (hl : ws.length ≤ 100000) : g_slowest_rings [netD n] = .ok (.tuple ((ws.filter fun w => decide (some (frW n.2.1 w) = (ws.map (frW n.2.1)).foldl grt none)).map ringT)) := by
  have row1 : ixF (netD n) (.int 1) = some (rowsD n.2.1) := rfl
  have hr := h.w_rings_of
  rw [e] at hr
  have hs := h.w_slowest_of e hw hl
  generalize (ws.map (frW n.2.1)).foldl grt none = most at hs ⊢
  have lc : mLc (mSeqI (mCall0 g_rings_of (mCons (mOp ixF (mVarT 0) (mT (ret (.int 1)))) (mNil)))) (hName 2) (t0_slowest_rings) (e1_slowest_rings) [2] [.fz (netD n), .fz (encO most), .no] = .ok (.list ((ws.filter fun w => decide (some (frW n.2.1 w) = most)).map ringT)) [.fz (netD n), .fz (encO most), .no] := by
    refine mlc_map ws ringT (fun w => decide (some (frW n.2.1 w) = most)) ringT (seqL_ok (call_ok (cons_ok (op_ok rfl (mT_ok rfl) rfl rfl row1) rfl) hr)) (by simp only [big]; omega) rfl (fun w hw' => ⟨[.fz (netD n), .fz (encO most), .fz (ringT w)], rfl, ?_, fun _ => rfl, rfl⟩)
    exact tst_ok (op_ok (mT_ok (call_ok (cons_ok (op_ok rfl (mT_ok rfl) rfl rfl row1) (cons_ok rfl rfl)) (h.w_ratio (hw w hw')))) rfl rfl rfl (eq_O _ _))
  unfold g_slowest_rings
  rw [call1 (m := 2)]
  exact fin_rt (seq_to (drop_ok (callX_ok rfl h.need)) (seq_to (asg_ok (call_ok (cons_ok (op_ok rfl (mT_ok rfl) rfl rfl row1) rfl) hs) rfl) (ret_ok (cb_ok (cons_ok (mT_ok lc) rfl) rfl rfl))))
end Rn
end

section
set_option Elab.async false
set_option linter.all false
set_option maxRecDepth 100000
set_option maxHeartbeats 4000000
/-! L07a: fractions in lowest terms. -/
namespace Rn
open PySem PySem.Spec L2
theorem low_parts {a b : Nat} (hb : 0 < b) : ∃ g x y : Nat, 0 < g ∧ 0 < y ∧ a = g * x ∧ b = g * y ∧ Nat.gcd x y = 1 ∧ lowF a b = ((x : Int), (y : Int)) := by
  have hg : 0 < Nat.gcd a b := Nat.gcd_pos_of_pos_right a hb
  obtain ⟨x, hx⟩ := Nat.gcd_dvd_left a b
  obtain ⟨y, hy⟩ := Nat.gcd_dvd_right a b
  generalize hG : Nat.gcd a b = g at hg hx hy
  have e1 : a / g = x := by rw [hx]; exact Nat.mul_div_cancel_left x hg
  have e2 : b / g = y := by rw [hy]; exact Nat.mul_div_cancel_left y hg
  have hy0 : 0 < y := by
    rcases Nat.eq_zero_or_pos y with z | z
    · rw [z, Nat.mul_zero] at hy; omega
    · exact z
  refine ⟨g, x, y, hg, hy0, hx, hy, ?_, ?_⟩
  · rw [hx, hy, Nat.gcd_mul_left] at hG
    exact Nat.eq_of_mul_eq_mul_left hg (by rw [hG, Nat.mul_one])
  · unfold lowF
    rw [hG, e1, e2]
theorem low_uniq {x y z u : Nat} (hy : 0 < y) (hu : 0 < u) (h1 : Nat.gcd x y = 1) (h2 : Nat.gcd z u = 1) (h : x * u = z * y) : x = z ∧ y = u := by
  have d1 : y ∣ u := Nat.Coprime.dvd_of_dvd_mul_left (show Nat.Coprime y x from (Nat.gcd_comm y x).trans h1) ⟨z, by rw [h, Nat.mul_comm]⟩
  have d2 : u ∣ y := Nat.Coprime.dvd_of_dvd_mul_left (show Nat.Coprime u z from (Nat.gcd_comm u z).trans h2) ⟨x, by rw [← h, Nat.mul_comm]⟩
  have e : y = u := Nat.dvd_antisymm d1 d2
  subst e
  exact ⟨Nat.eq_of_mul_eq_mul_right hy h, rfl⟩
theorem low_iff {a b c d : Nat} (hb : 0 < b) (hd : 0 < d) : lowF a b = lowF c d ↔ a * d = c * b := by
  obtain ⟨g, x, y, hg, hy, rfl, rfl, h1, e1⟩ := low_parts (a := a) hb
  obtain ⟨k, z, u, hk, hu, rfl, rfl, h2, e2⟩ := low_parts (a := c) hd
  rw [e1, e2]
  constructor
  · intro h
    have hx : x = z := by have := congrArg Prod.fst h; simp only at this; omega
    have hy' : y = u := by have := congrArg Prod.snd h; simp only at this; omega
    subst hx
    subst hy'
    rw [Nat.mul_mul_mul_comm, Nat.mul_comm g k, Nat.mul_mul_mul_comm k x g y]
  · intro h
    have e : (g * k) * (x * u) = (g * k) * (z * y) := by
      rw [Nat.mul_mul_mul_comm, h, Nat.mul_mul_mul_comm, Nat.mul_comm k g]
    have e := Nat.eq_of_mul_eq_mul_left (Nat.mul_pos hg hk) e
    obtain ⟨q1, q2⟩ := low_uniq hy hu h1 h2 e
    rw [q1, q2]
end Rn
end

section
set_option Elab.async false
set_option linter.all false
set_option maxRecDepth 100000
set_option maxHeartbeats 4000000
/-! L07b: the law's best and what slowest tells choose the same ring. -/
namespace Rn
open PySem PySem.Spec L2
def rawW (rows : Rows) (w : Way) : Fr := ((dlW rows w : Int), (bkW rows w : Int))
/-- both none, or of one and the same ring -/
def Pair (rows : Rows) (P : Way → Prop) (o o' : Option Fr) : Prop := (o = none ∧ o' = none) ∨ ∃ w, P w ∧ o = some (rawW rows w) ∧ o' = some (frW rows w)
theorem less_iff {a b c d : Nat} (hb : 0 < b) (hd : 0 < d) : ((lowF a b).1 * (lowF c d).2 < (lowF c d).1 * (lowF a b).2) ↔ ((a : Int) * (d : Int) < (c : Int) * (b : Int)) := by
  obtain ⟨g, x, y, hg, hy, rfl, rfl, h1, e1⟩ := low_parts (a := a) hb
  obtain ⟨k, z, u, hk, hu, rfl, rfl, h2, e2⟩ := low_parts (a := c) hd
  rw [e1, e2]
  simp only
  have e3 : ((g * x : Nat) : Int) * ((k * u : Nat) : Int) = ((g * k : Nat) : Int) * ((x : Int) * (u : Int)) := by
    rw [← Int.natCast_mul, ← Int.natCast_mul, ← Int.natCast_mul, Nat.mul_mul_mul_comm]
  have e4 : ((k * z : Nat) : Int) * ((g * y : Nat) : Int) = ((g * k : Nat) : Int) * ((z : Int) * (y : Int)) := by
    rw [← Int.natCast_mul, ← Int.natCast_mul, ← Int.natCast_mul, Nat.mul_mul_mul_comm, Nat.mul_comm k g]
  rw [e3, e4]
  have hp : (0 : Int) < ((g * k : Nat) : Int) := by
    have := Nat.mul_pos hg hk
    omega
  exact (Int.mul_lt_mul_left hp).symm
theorem pair_step {rows : Rows} {P : Way → Prop} (hP : ∀ w, P w → 0 < bkW rows w) {o o' : Option Fr} (h : Pair rows P o o') {w : Way} (hw : P w) : Pair rows P (grt o (rawW rows w)) (grt o' (frW rows w)) := by
  rcases h with ⟨rfl, rfl⟩ | ⟨v, hv, rfl, rfl⟩
  · exact .inr ⟨w, hw, rfl, rfl⟩
  · have l := less_iff (a := dlW rows v) (b := bkW rows v) (c := dlW rows w) (d := bkW rows w) (hP v hv) (hP w hw)
    by_cases c : (dlW rows v : Int) * (bkW rows w : Int) < (dlW rows w : Int) * (bkW rows v : Int)
    · refine .inr ⟨w, hw, ?_, ?_⟩
      · exact if_pos c
      · exact if_pos (l.mpr c)
    · refine .inr ⟨v, hv, ?_, ?_⟩
      · exact if_neg c
      · exact if_neg (fun z => c (l.mp z))
theorem pair_all {rows : Rows} {P : Way → Prop} (hP : ∀ w, P w → 0 < bkW rows w) : ∀ (ws : List Way) {o o' : Option Fr}, (∀ w ∈ ws, P w) → Pair rows P o o' → Pair rows P ((ws.map (rawW rows)).foldl grt o) ((ws.map (frW rows)).foldl grt o')
  | [], _, _, _, h => h
  | w :: ws, o, o', hw, h => pair_all hP ws (fun v hv => hw v (List.mem_cons_of_mem _ hv)) (pair_step hP h (hw w (List.mem_cons_self ..)))
end Rn
end

section
set_option Elab.async false
set_option linter.all false
set_option maxRecDepth 100000
set_option maxHeartbeats 4000000
/-! L07c: the law of k07. -/
namespace Rn
open PySem PySem.Spec L2
abbrev rZ (d : D) (x2 x3 x4 x5 x6 x7 x8 x9 : Cell) : Rho := [.no, .bw d, x2, x3, x4, x5, x6, x7, x8, x9, .no]
theorem excNet : excN.contains "InvalidNet" = true := by decide
theorem none_net : g_rings [.none] = .ex "InvalidNet" := by kernel_rfl
theorem small_k {k : Nat} (h : k ≤ 1000) : isSmall (k : Int) = true := by
  unfold isSmall
  rw [Bool.and_eq_true]
  exact ⟨decide_eq_true (by omega), decide_eq_true (by omega)⟩
/-- the loop that looks for the best -/
theorem best_loop {n : Net} (h : NetOk n) {ws : List Way} (hw : ∀ w ∈ ws, RingOk n.2.1 w) {d : D} {x5 x6 x7 x8 x9 : Cell} {Q : Rho → Prop}
    (q : ∀ y5 y7 y8, Q (rZ d (.fz (netD n)) (.fz (.list (ws.map ringT))) (.fz (encO ((ws.map (rawW n.2.1)).foldl grt none))) y5 x6 y7 y8 x9)) :
    Wp s15_law Q (rZ d (.fz (netD n)) (.fz (.list (ws.map ringT))) (.fz .none) x5 x6 x7 x8 x9) := by
  refine wp_for ringT ws (fun pre r => ∃ y5 y7 y8, r = rZ d (.fz (netD n)) (.fz (.list (ws.map ringT))) (.fz (encO ((pre.map (rawW n.2.1)).foldl grt none))) y5 x6 y7 y8 x9) (ρ0 := rZ d (.fz (netD n)) (.fz (.list (ws.map ringT))) (.fz .none) x5 x6 x7 x8 x9) (seqL_ok rfl) ⟨x5, x7, x8, rfl⟩ ?_ ?_
  · rintro pre w post ex r ⟨y5, y7, y8, rfl⟩
    have hwr := hw w (by rw [ex]; simp)
    have hs := h.sums hwr
    have hb1 := hwr.bk1
    have hlen := hwr.len
    have hr5 := h.r5
    refine ⟨rZ d (.fz (netD n)) (.fz (.list (ws.map ringT))) (.fz (encO ((pre.map (rawW n.2.1)).foldl grt none))) (.fz (ringT w)) x6 y7 y8 x9, rfl, ?_⟩
    have wsum : g__law_sums [netD n, ringT w] = .ok (.tuple [.int (dlW n.2.1 w : Nat), .int (bkW n.2.1 w : Nat)]) := by
      obtain ⟨i0, rows, outs⟩ := n
      exact w_law_sums hwr.way (by omega)
    have lt : ltF (.int (bkW n.2.1 w : Int)) (.int 1) = some (.bool false) := by
      unfold ltF
      rw [ev_cmp, decide_eq_false (by omega)]
    refine wp_seq (wp_set (call_ok rfl wsum) rfl ?_)
    refine wp_seq (wp_not (tst_ok (op_ok rfl (mT_ok rfl) rfl rfl lt)) ?_)
    have hsb : ∀ g, (pre.map (rawW n.2.1)).foldl grt none = some g → isSmall g.2 = true := fun g hg => by
      have := grt_mem (fs := pre.map (rawW n.2.1)) (o := none) (gs := pre.map (rawW n.2.1)) (fun f hf => hf) (fun g hg => by cases hg) g hg
      obtain ⟨v, hv, rfl⟩ := List.mem_map.mp this
      have := (h.sums (hw v (by rw [ex]; simp [hv]))).2
      exact small_k (by omega)
    rw [List.map_append, List.map_cons, List.map_nil, List.foldl_append, List.foldl_cons, List.foldl_nil]
    generalize (pre.map (rawW n.2.1)).foldl grt none = o at hsb ⊢
    have hkb : isSmall (bkW n.2.1 w : Int) = true := small_k (by omega)
    cases o with
    | none =>
      refine wp_if (b := true) (or_t (tst_ok (op_ok rfl (mT_ok rfl) rfl rfl rfl))) (fun _ => ?_) (fun z => by cases z)
      exact wp_set (d := encF (rawW n.2.1 w)) rfl rfl ⟨_, _, _, rfl⟩
    | some g =>
      have m1 : mulF (.int (dlW n.2.1 w : Int)) (.int g.2) = some (.int ((dlW n.2.1 w : Int) * g.2)) := ev_mul _ _ (by rw [hsb g rfl, Bool.or_true])
      have m2 : mulF (.int g.1) (.int (bkW n.2.1 w : Int)) = some (.int (g.1 * (bkW n.2.1 w : Int))) := ev_mul _ _ (by rw [hkb, Bool.or_true])
      have gt : gtF (.int ((dlW n.2.1 w : Int) * g.2)) (.int (g.1 * (bkW n.2.1 w : Int))) = some (.bool (decide (g.1 * (bkW n.2.1 w : Int) < (dlW n.2.1 w : Int) * g.2))) := rfl
      refine wp_if (b := decide (g.1 * (bkW n.2.1 w : Int) < (dlW n.2.1 w : Int) * g.2)) (or_f (tst_ok (op_ok rfl (mT_ok rfl) rfl rfl rfl)) (tst_ok (op_ok (mT_ok (op_ok rfl (mT_ok (op_ok rfl (mT_ok rfl) rfl rfl rfl)) rfl rfl m1)) (mT_ok (op_ok (mT_ok (op_ok rfl (mT_ok rfl) rfl rfl rfl)) rfl rfl rfl m2)) rfl rfl gt))) (fun z => ?_) (fun z => ?_)
      · have e : grt (some g) (rawW n.2.1 w) = some (rawW n.2.1 w) := if_pos (of_decide_eq_true z)
        rw [e]
        exact wp_set (d := encF (rawW n.2.1 w)) rfl rfl ⟨_, _, _, rfl⟩
      · have e : grt (some g) (rawW n.2.1 w) = some g := if_neg (of_decide_eq_false z)
        rw [e]
        exact wp_next ⟨_, _, _, rfl⟩
  · rintro r ⟨y5, y7, y8, rfl⟩
    exact q y5 y7 y8
end Rn
end

section
set_option Elab.async false
set_option linter.all false
set_option maxRecDepth 100000
set_option maxHeartbeats 4000000
/-! L07d: the law of k07. -/
namespace Rn
open PySem PySem.Spec L2
theorem no_common {x y : Nat} (h : Nat.gcd x y = 1) {p : Nat} (hp : 2 ≤ p) : ¬ (x % p = 0 ∧ y % p = 0) := fun ⟨h1, h2⟩ => by
  have : p ∣ Nat.gcd x y := Nat.dvd_gcd (Nat.dvd_of_mod_eq_zero h1) (Nat.dvd_of_mod_eq_zero h2)
  rw [h] at this
  have := Nat.le_of_dvd (by decide) this
  omega
theorem anyP {α : Type} (p : α → Bool) (xs : List α) : anyF [.list (xs.map fun x => PyData.bool (p x))] = some (.bool (xs.any p)) := by
  have : ∀ xs : List α, allOf asBool (xs.map fun x => PyData.bool (p x)) = some (xs.map p) := fun xs => by
    induction xs with
    | nil => rfl
    | cons x xs ih =>
      simp only [List.map_cons]
      unfold allOf
      rw [ih]
      rfl
  unfold anyF
  simp only [this, Option.map_some]
  congr 2
  induction xs with
  | nil => rfl
  | cons x xs ih => simp [ih]
/-- the part where there is a best -/
theorem some_ok {n : Net} (h : NetOk n) {ws : List Way} (e : RG n.2.1 = ws.map ringT) (hw : ∀ w ∈ ws, RingOk n.2.1 w) (hl : ws.length ≤ 100000) {v : Way} (hv : RingOk n.2.1 v) (he : (ws.map (frW n.2.1)).foldl grt none = some (frW n.2.1 v)) {d : D} {x5 x7 x8 : Cell} {Q : Rho → Prop}
    (q : ∀ y9, Q (rZ d (.fz (netD n)) (.fz (.list (ws.map ringT))) (.fz (encF (rawW n.2.1 v))) x5 (.fz (encF (frW n.2.1 v))) x7 x8 y9)) (hr5 : restR (rZ d (.fz (netD n)) (.fz (.list (ws.map ringT))) (.fz (encF (rawW n.2.1 v))) x5 (.fz (encF (frW n.2.1 v))) x7 x8 .no) (wipeR (rZ d (.fz (netD n)) (.fz (.list (ws.map ringT))) (.fz (encF (rawW n.2.1 v))) x5 (.fz (encF (frW n.2.1 v))) x7 x8 .no) [5]) [5] = (rZ d (.fz (netD n)) (.fz (.list (ws.map ringT))) (.fz (encF (rawW n.2.1 v))) x5 (.fz (encF (frW n.2.1 v))) x7 x8 .no)) :
    Wp (sSeq (s7_law) (sSeq (s8_law) (sSeq (s9_law) (s10_law)))) Q (rZ d (.fz (netD n)) (.fz (.list (ws.map ringT))) (.fz (encF (rawW n.2.1 v))) x5 (.fz (encF (frW n.2.1 v))) x7 x8 .no) := by
  have hsv := h.sums hv
  have hbv := hv.bk1
  have hn5 := h.r5
  obtain ⟨g, x, y, hg, hy, hgx, hgy, hc, hlow⟩ := low_parts (a := dlW n.2.1 v) (b := bkW n.2.1 v) (by omega)
  have hfr : frW n.2.1 v = ((x : Int), (y : Int)) := hlow
  have hsr := h.w_slowest_rings e hw hl
  rw [he] at hsr
  have hyb : y ≤ 18 := by
    have : y ≤ g * y := Nat.le_mul_of_pos_left y hg
    omega
  have m1 : mulF (.int (x : Int)) (.int (bkW n.2.1 v : Int)) = some (.int ((x * (g * y) : Nat) : Int)) := by
    rw [ev_mul _ _ (by rw [small_k (k := bkW n.2.1 v) (by omega), Bool.or_true]), hgy]
    rfl
  have m2 : mulF (.int (dlW n.2.1 v : Int)) (.int (y : Int)) = some (.int ((g * x * y : Nat) : Int)) := by
    rw [ev_mul _ _ (by rw [small_k (k := y) (by omega), Bool.or_true]), hgx]
    rfl
  have eq : x * (g * y) = g * x * y := by rw [← Nat.mul_assoc, Nat.mul_comm x g]
  rw [eq] at m1
  have ne : neF (.int ((g * x * y : Nat) : Int)) (.int ((g * x * y : Nat) : Int)) = some (.bool false) := ne_self good_nat _
  rw [hfr] at q hr5 hsr ⊢
  refine wp_seq (wp_not (tst_ok (op_ok (mT_ok (op_ok (mT_ok (op_ok rfl (mT_ok rfl) rfl rfl rfl)) (mT_ok (op_ok rfl (mT_ok rfl) rfl rfl rfl)) rfl rfl m1)) (mT_ok (op_ok (mT_ok (op_ok rfl (mT_ok rfl) rfl rfl rfl)) (mT_ok (op_ok rfl (mT_ok rfl) rfl rfl rfl)) rfl rfl m2)) rfl rfl ne)) ?_)
  have lc : mLc (mRng2 (mCons (ret (.int 2)) (mCons (ret (.int 9)) (mNil)))) (hName 10) (mYes) (e4_law) [10] (rZ d (.fz (netD n)) (.fz (.list (ws.map ringT))) (.fz (encF (rawW n.2.1 v))) x5 (.fz (encF ((x : Int), (y : Int)))) x7 x8 .no) = .ok (.list ((List.range 7).map fun k => PyData.bool (decide (x % (k + 2) = 0) && decide (y % (k + 2) = 0)))) (rZ d (.fz (netD n)) (.fz (.list (ws.map ringT))) (.fz (encF (rawW n.2.1 v))) x5 (.fz (encF ((x : Int), (y : Int)))) x7 x8 .no) := by
    refine mlc_map0 (List.range 7) (fun k : Nat => PyData.int (2 + (k : Int))) _ (rng2_n (lo := 2) (hi := 9) rfl (by omega)) (by simp [big]) rfl (fun k hk => ⟨rZ d (.fz (netD n)) (.fz (.list (ws.map ringT))) (.fz (encF (rawW n.2.1 v))) x5 (.fz (encF ((x : Int), (y : Int)))) x7 x8 .no |>.set 10 (.fz (.int (2 + (k : Int)))), rfl, ?_, rfl⟩)
    have mm : ∀ z : Nat, modF (.int (z : Int)) (.int (2 + (k : Int))) = some (.int ((z % (k + 2) : Nat) : Int)) := fun z => by
      rw [show (2 : Int) + (k : Int) = ((k + 2 : Nat) : Int) by omega]
      exact mod_nat (by omega)
    exact andV_ok (op_ok (mT_ok (op_ok (mT_ok (op_ok rfl (mT_ok rfl) rfl rfl rfl)) rfl rfl rfl (mm x))) (mT_ok rfl) rfl rfl (good_nat.eqF (x % (k + 2)) 0)) (fun _ => op_ok (mT_ok (op_ok (mT_ok (op_ok rfl (mT_ok rfl) rfl rfl rfl)) rfl rfl rfl (mm y))) (mT_ok rfl) rfl rfl (good_nat.eqF (y % (k + 2)) 0))
  have an := anyP (fun k : Nat => decide (x % (k + 2) = 0) && decide (y % (k + 2) = 0)) (List.range 7)
  have hf : (List.range 7).any (fun k : Nat => decide (x % (k + 2) = 0) && decide (y % (k + 2) = 0)) = false := by
    rw [List.any_eq_false]
    intro k _
    rw [Bool.and_eq_true, decide_eq_true_iff, decide_eq_true_iff]
    exact no_common hc (by omega)
  rw [hf] at an
  refine wp_seq (wp_not (tst_ok (cb_ok (cons_ok (mT_ok lc) rfl) rfl an)) ?_)
  -- those with the greatest ratio
  have lm : mLc (mSeqI (mVar 3)) (hName 5) (t5_law) (e6_law) [5] (rZ d (.fz (netD n)) (.fz (.list (ws.map ringT))) (.fz (encF (rawW n.2.1 v))) x5 (.fz (encF ((x : Int), (y : Int)))) x7 x8 .no) = .ok (.list ((ws.filter fun w => decide (some (frW n.2.1 w) = some ((x : Int), (y : Int)))).map ringT)) (rZ d (.fz (netD n)) (.fz (.list (ws.map ringT))) (.fz (encF (rawW n.2.1 v))) x5 (.fz (encF ((x : Int), (y : Int)))) x7 x8 .no) := by
    refine mlc_map ws ringT (fun w => decide (some (frW n.2.1 w) = some ((x : Int), (y : Int)))) ringT (seqL_ok rfl) (by simp only [big]; omega) hr5 (fun w hw' => ⟨rZ d (.fz (netD n)) (.fz (.list (ws.map ringT))) (.fz (encF (rawW n.2.1 v))) (.fz (ringT w)) (.fz (encF ((x : Int), (y : Int)))) x7 x8 .no, rfl, ?_, fun _ => rfl, rfl⟩)
    have hwr := hw w hw'
    have hsw := h.sums hwr
    have hbw := hwr.bk1
    have hlw := hwr.len
    have wsum : g__law_sums [netD n, ringT w] = .ok (.tuple [.int (dlW n.2.1 w : Nat), .int (bkW n.2.1 w : Nat)]) := by
      obtain ⟨i0, rows, outs⟩ := n
      exact w_law_sums hwr.way (by omega)
    have k1 : mulF (.int (dlW n.2.1 w : Int)) (.int (bkW n.2.1 v : Int)) = some (.int ((dlW n.2.1 w * bkW n.2.1 v : Nat) : Int)) := by
      rw [ev_mul _ _ (by rw [small_k (k := bkW n.2.1 v) (by omega), Bool.or_true])]
      rfl
    have k2 : mulF (.int (dlW n.2.1 v : Int)) (.int (bkW n.2.1 w : Int)) = some (.int ((dlW n.2.1 v * bkW n.2.1 w : Nat) : Int)) := by
      rw [ev_mul _ _ (by rw [small_k (k := bkW n.2.1 w) (by omega), Bool.or_true])]
      rfl
    have ke : eqF (.int ((dlW n.2.1 w * bkW n.2.1 v : Nat) : Int)) (.int ((dlW n.2.1 v * bkW n.2.1 w : Nat) : Int)) = some (.bool (decide (some (frW n.2.1 w) = some ((x : Int), (y : Int))))) := by
      have := good_nat.eqF (dlW n.2.1 w * bkW n.2.1 v) (dlW n.2.1 v * bkW n.2.1 w)
      refine this.trans (congrArg (fun b => some (PyData.bool b)) (decide_eq_decide.mpr ?_))
      rw [Option.some.injEq, ← hfr]
      exact (low_iff (a := dlW n.2.1 w) (b := bkW n.2.1 w) (c := dlW n.2.1 v) (d := bkW n.2.1 v) (by omega) (by omega)).symm
    exact tst_ok (op_ok (mT_ok (op_ok (mT_ok (op_ok (mT_ok (call_ok rfl wsum)) (mT_ok rfl) rfl rfl rfl)) (mT_ok (op_ok rfl (mT_ok rfl) rfl rfl rfl)) rfl rfl k1)) (mT_ok (op_ok (mT_ok (op_ok rfl (mT_ok rfl) rfl rfl rfl)) (mT_ok (op_ok (mT_ok (call_ok rfl wsum)) (mT_ok rfl) rfl rfl rfl)) rfl rfl k2)) rfl rfl ke)
  refine wp_seq (wp_set lm rfl ?_)
  generalize (ws.filter fun w => decide (some (frW n.2.1 w) = some ((x : Int), (y : Int)))) = ms at hsr ⊢
  have ne2 : neF (.tuple (ms.map ringT)) (.tuple (ms.map ringT)) = some (.bool false) := ne_self good_ring.tup ms
  exact wp_not (tst_ok (op_ok (mT_ok (callX_ok rfl hsr)) (mT_ok (cb_ok (cons_ok rfl rfl) rfl rfl)) rfl rfl ne2)) (q _)
end Rn
end

section
set_option Elab.async false
set_option linter.all false
set_option maxRecDepth 100000
set_option maxHeartbeats 4000000
/-! L07e: the law of k07, joined. -/
namespace Rn
open PySem PySem.Spec L2
theorem rest_ok {d : D} {n : Net} (h : NetOk n) : Wp (sSeq s12_law (sSeq s13_law (sSeq s14_law (sSeq s15_law (sSeq s16_law (sSeq s17_law (sSeq s18_law s19_law))))))) (fun _ => True) (rZ d (.fz (netD n)) .no .no .no .no .no .no .no) := by
  obtain ⟨ws, e, hw, hl⟩ := h.ways
  have hr := h.w_law_rings
  have hr2 := h.w_rings
  rw [e] at hr hr2
  refine wp_seq (wp_set (call_ok rfl hr) rfl ?_)
  have ne0 : neF (.tuple (ws.map ringT)) (.tuple (ws.map ringT)) = some (.bool false) := ne_self good_ring.tup ws
  refine wp_seq (wp_not (tst_ok (op_ok (mT_ok (callX_ok rfl hr2)) (mT_ok (cb_ok (cons_ok rfl rfl) rfl rfl)) rfl rfl ne0)) ?_)
  refine wp_seq (wp_set (d := .none) rfl rfl ?_)
  refine wp_seq (best_loop h hw fun y5 y7 y8 => ?_)
  have hsl := h.w_slowest e hw hl
  have hP := pair_all (rows := n.2.1) (P := RingOk n.2.1) (fun w hw => hw.bk1) ws hw (.inl ⟨rfl, rfl⟩)
  have last : ∀ (x4 x5 x6 x7 x8 x9 : Cell), Wp s19_law (fun _ => True) (rZ d (.fz (netD n)) (.fz (.list (ws.map ringT))) x4 x5 x6 x7 x8 x9) := fun x4 x5 x6 x7 x8 x9 => wp_not (tst_ok (op_ok (mT_ok (told_ex (callX_ex rfl none_net) excNet)) (mT_ok rfl) rfl rfl (term_eq "InvalidNet"))) trivial
  have nb : neF (.bool false) (.bool false) = some (.bool false) := ne_self good_bool false
  have nt : neF (.bool true) (.bool true) = some (.bool false) := ne_self good_bool true
  rcases hP with ⟨e1, e2⟩ | ⟨v, hv, e1, e2⟩
  · have hsr := h.w_slowest_rings e hw hl
    rw [e2] at hsl hsr
    rw [e1]
    have hws : ws = [] := by
      cases ws with
      | nil => rfl
      | cons w ws =>
        obtain ⟨m, hm⟩ := grt_some (ws.map (frW n.2.1)) (frW n.2.1 w)
        rw [List.map_cons, List.foldl_cons] at e2
        exact absurd (hm.symm.trans e2) (by simp)
    subst hws
    refine wp_seq (wp_set (callX_ok rfl hsl) rfl ?_)
    refine wp_seq (wp_not (tst_ok (op_ok (mT_ok (op_ok rfl (mT_ok rfl) rfl rfl rfl)) (mT_ok (op_ok rfl (mT_ok rfl) rfl rfl rfl)) rfl rfl nt)) ?_)
    have ne2 : neF (.tuple []) (.tuple []) = some (.bool false) := ne_self good_ring.tup []
    refine wp_seq (wp_if (b := false) (tst_ok (op_ok rfl (mT_ok rfl) rfl rfl rfl)) (fun z => by cases z) (fun _ => ?_))
    exact wp_not (tst_ok (op_ok (mT_ok (callX_ok rfl hsr)) (mT_ok rfl) rfl rfl ne2)) (last _ _ _ _ _ _)
  · rw [e2] at hsl
    rw [e1]
    refine wp_seq (wp_set (callX_ok rfl hsl) rfl ?_)
    refine wp_seq (wp_not (tst_ok (op_ok (mT_ok (op_ok rfl (mT_ok rfl) rfl rfl rfl)) (mT_ok (op_ok rfl (mT_ok rfl) rfl rfl rfl)) rfl rfl nb)) ?_)
    refine wp_seq (wp_if (b := true) (tst_ok (op_ok rfl (mT_ok rfl) rfl rfl rfl)) (fun _ => ?_) (fun z => by cases z))
    exact some_ok h e hw hl hv e2 (fun y9 => last _ _ _ _ _ _) rfl
theorem round_ok : RoundOk lawN.length b_law := roundOk_of fun c0 => by
  obtain ⟨d0, hd0, e0⟩ := rho0_dice 11 c0
  rw [show lawN.length = 11 from rfl, e0]
  obtain ⟨x, d1, hx, hd1, q1⟩ := roll_n hd0 4 4 rfl (by decide) (by decide)
  have gx : gtF (.int (x : Int)) (.int 0) = some (.bool (decide ((0 : Int) < (x : Int)))) := rfl
  by_cases hx0 : (0 : Int) < (x : Int)
  · rw [decide_eq_true hx0] at gx
    obtain ⟨n, d2, hd2, hn, q2⟩ := w_law_net hd1 (most := 5) (inp := 1) (by decide) (by decide) (by decide)
    refine wp_seq (wp_set (d := netD n) (r := rZ d2 .no .no .no .no .no .no .no .no) (if_ok (t := true) (r := rZ d1 .no .no .no .no .no .no .no .no) (tst_ok (op_ok (mT_ok (callB_ok rfl rfl rfl q1 rfl)) (mT_ok rfl) rfl rfl gx)) (fun _ => callB_ok rfl rfl rfl q2 rfl) (fun z => by cases z)) rfl (rest_ok hn))
  · rw [decide_eq_false hx0] at gx
    obtain ⟨n, d2, hd2, hn, q2⟩ := w_overtaken hd1
    refine wp_seq (wp_set (d := netD n) (r := rZ d2 .no .no .no .no .no .no .no .no) (if_ok (t := false) (r := rZ d1 .no .no .no .no .no .no .no .no) (tst_ok (op_ok (mT_ok (callB_ok rfl rfl rfl q1 rfl)) (mT_ok rfl) rfl rfl gx)) (fun z => by cases z) (fun _ => callB_ok rfl rfl rfl q2 rfl)) rfl (rest_ok hn))
end Rn
end

section
set_option Elab.async false
set_option linter.all false
set_option maxRecDepth 100000
set_option maxHeartbeats 4000000
namespace Rn
open PySem PySem.Spec L2

def top (i : Nat) : Stmt := PySem.Challenge.pw_roundnets_k07_whole_rings.main.body.getD i (.Pass ⟨0, 0, 0, 0⟩)
/-- what the text leaves free, its numbers, its errors -/
structure Nm (K : PySem.W.Frag) (mg : Str → Option Value) (C : Str → Addr) : Prop where
  ValueError : mg "ValueError" = none
  abs : mg "abs" = none
  all : mg "all" = none
  any : mg "any" = none
  bool : mg "bool" = none
  enumerate : mg "enumerate" = none
  int : mg "int" = none
  isinstance : mg "isinstance" = none
  len : mg "len" = none
  max : mg "max" = none
  min : mg "min" = none
  range : mg "range" = none
  sorted : mg "sorted" = none
  str : mg "str" = none
  sum : mg "sum" = none
  tuple : mg "tuple" = none
  MOST_EVENTS : ∃ t, mg "MOST_EVENTS" = some (.int 5 t)
  MOST_BACK : ∃ t, mg "MOST_BACK" = some (.int 8 t)
  X_RoundError : ExcF K mg C "RoundError"
  X_InvalidNet : ExcF K mg C "InvalidNet"
  X_InvalidStreams : ExcF K mg C "InvalidStreams"
  X_InvalidRound : ExcF K mg C "InvalidRound"
  X_InvalidEvent : ExcF K mg C "InvalidEvent"
  X_InvalidInput : ExcF K mg C "InvalidInput"
  X_InvalidArc : ExcF K mg C "InvalidArc"
  X_InvalidNumber : ExcF K mg C "InvalidNumber"
  X_InvalidForm : ExcF K mg C "InvalidForm"
  X_InvalidStores : ExcF K mg C "InvalidStores"
  X_InvalidDues : ExcF K mg C "InvalidDues"
  X_InvalidText : ExcF K mg C "InvalidText"
  X_Standstill : ExcF K mg C "Standstill"
  X_NoTime : ExcF K mg C "NoTime"
  X_Broken : ExcF K mg C "Broken"
  X_NoFit : ExcF K mg C "NoFit"
  X_TooMany : ExcF K mg C "TooMany"
  X_NothingToUndo : ExcF K mg C "NothingToUndo"

/-! ### _law_drawn -/
abbrev s__law_drawn : Stmt := top 48
theorem sc__law_drawn : FnScope ["cell", "k", "more"] ["cell", "k"] (defScope s__law_drawn) := ⟨rfl, rfl, rfl, by decide +kernel, rfl, by decide +kernel, by decide +kernel⟩
theorem ok__law_drawn {P : Program} {w : World} {K : PySem.W.Frag} {mg : Str → Option Value} {base : Heap} {C : Str → Addr} (nm : Nm K mg C) (h : HasF K mg "_law_drawn" s__law_drawn ["cell", "k"]) : DefV P w K mg base CX0 C "_law_drawn" ["cell", "k"] 1 g__law_drawn := by
  have nd := sc__law_drawn.nd
  refine' def_v0 (k := 0) (N := ["cell", "k", "more"]) h sc__law_drawn ?hb
  intro f cdv A outer s H E hr
  refine' ⟨_, ?hc⟩
  case hc =>
    intro B EX
    refine' jss_cons ?k1_0 ?k1_1
    case k1_0 =>
      refine' js_set 2 nd ?k2_0
      case k2_0 =>
        refine' je_mod ?k3_0 ?k3_1
        case k3_0 =>
          refine' jr_of ?k4_0
          case k4_0 =>
            refine' je_add (K := K) ?k5_0 ?k5_1
            case k5_0 =>
              refine' jr_of ?k6_0
              case k6_0 =>
                refine' je_mul (K := K) ?k7_0 ?k7_1
                case k7_0 =>
                  exact jr_var 0
                case k7_1 =>
                  refine' jr_of ?k8_0
                  case k8_0 =>
                    exact je_int
            case k5_1 =>
              refine' jr_of ?k9_0
              case k9_0 =>
                refine' je_mul (K := K) ?k10_0 ?k10_1
                case k10_0 =>
                  refine' jr_of ?k11_0
                  case k11_0 =>
                    refine' je_add (K := K) ?k12_0 ?k12_1
                    case k12_0 =>
                      exact jr_var 1
                    case k12_1 =>
                      refine' jr_of ?k13_0
                      case k13_0 =>
                        exact je_int
                case k10_1 =>
                  refine' jr_of ?k14_0
                  case k14_0 =>
                    exact je_int
        case k3_1 =>
          refine' jr_of ?k15_0
          case k15_0 =>
            exact je_int
    case k1_1 =>
      refine' jss_cons ?k16_0 ?k16_1
      case k16_0 =>
        refine' js_set 2 nd ?k17_0
        case k17_0 =>
          refine' je_mod ?k18_0 ?k18_1
          case k18_0 =>
            refine' jr_of ?k19_0
            case k19_0 =>
              refine' je_mul (K := K) ?k20_0 ?k20_1
              case k20_0 =>
                exact jr_var 2
              case k20_1 =>
                exact jr_var 2
          case k18_1 =>
            refine' jr_of ?k21_0
            case k21_0 =>
              exact je_int
      case k16_1 =>
        refine' jss_cons ?k22_0 ?k22_1
        case k22_0 =>
          refine' js_set 2 nd ?k23_0
          case k23_0 =>
            refine' je_mul (K := K) ?k24_0 ?k24_1
            case k24_0 =>
              refine' jr_of ?k25_0
              case k25_0 =>
                refine' je_mul (K := K) ?k26_0 ?k26_1
                case k26_0 =>
                  refine' jr_of ?k27_0
                  case k27_0 =>
                    refine' je_add (K := K) ?k28_0 ?k28_1
                    case k28_0 =>
                      refine' jr_of ?k29_0
                      case k29_0 =>
                        refine' je_mod ?k30_0 ?k30_1
                        case k30_0 =>
                          exact jr_var 2
                        case k30_1 =>
                          refine' jr_of ?k31_0
                          case k31_0 =>
                            exact je_int
                    case k28_1 =>
                      refine' jr_of ?k32_0
                      case k32_0 =>
                        exact je_int
                case k26_1 =>
                  refine' jr_of ?k33_0
                  case k33_0 =>
                    refine' je_add (K := K) ?k34_0 ?k34_1
                    case k34_0 =>
                      refine' jr_of ?k35_0
                      case k35_0 =>
                        refine' je_fdiv ?k36_0 ?k36_1
                        case k36_0 =>
                          exact jr_var 2
                        case k36_1 =>
                          refine' jr_of ?k37_0
                          case k37_0 =>
                            exact je_int
                    case k34_1 =>
                      refine' jr_of ?k38_0
                      case k38_0 =>
                        exact je_int
            case k24_1 =>
              exact jr_var 2
        case k22_1 =>
          refine' jss_one ?k39_0
          case k39_0 =>
            refine' js_ret ?k40_0
            case k40_0 =>
              refine' je_mod ?k41_0 ?k41_1
              case k41_0 =>
                exact jr_var 2
              case k41_1 =>
                refine' jr_of ?k42_0
                case k42_0 =>
                  exact je_int


/-! ### _law_roll -/
abbrev s__law_roll : Stmt := top 49
theorem sc__law_roll : FnScope ["dice", "many", "told"] ["dice", "many"] (defScope s__law_roll) := ⟨rfl, rfl, rfl, by decide +kernel, rfl, by decide +kernel, by decide +kernel⟩
theorem ok__law_roll {P : Program} {w : World} {K : PySem.W.Frag} {mg : Str → Option Value} {base : Heap} {C : Str → Addr} (nm : Nm K mg C) (h : HasF K mg "_law_roll" s__law_roll ["dice", "many"]) (D__law_drawn : DefV P w K mg base CX0 C "_law_drawn" ["cell", "k"] 1 g__law_drawn) : DefB P w K mg base CX0 C "_law_roll" ["dice", "many"] 2 (noEx c__law_roll) := by
  have nd := sc__law_roll.nd
  refine' def_b0 (k := 1) (y := "dice") (N := ["many", "told"]) h sc__law_roll ?hb
  intro f cdv A outer s H E hr
  refine' ⟨_, ?hc⟩
  case hc =>
    intro B EX
    refine' jss_cons ?k43_0 ?k43_1
    case k43_0 =>
      refine' js_if ?k44_0 ?k44_1 ?k44_2
      case k44_0 =>
        refine' jb_ge ?k45_0 ?k45_1
        case k45_0 =>
          refine' jr_of ?k46_0
          case k46_0 =>
            refine' je_ix (K := K) ?k47_0 ?k47_1
            case k47_0 =>
              exact jr_var 0
            case k47_1 =>
              refine' jr_of ?k48_0
              case k48_0 =>
                exact je_int
        case k45_1 =>
          refine' jr_of ?k49_0
          case k49_0 =>
            refine' je_pow ?k50_0 ?k50_1
            case k50_0 =>
              refine' jr_of ?k51_0
              case k51_0 =>
                exact je_int
            case k50_1 =>
              refine' jr_of ?k52_0
              case k52_0 =>
                exact je_int
      case k44_1 =>
        refine' jss_cons ?k53_0 ?k53_1
        case k53_0 =>
          refine' js_set 2 nd ?k54_0
          case k54_0 =>
            refine' je_mod ?k55_0 ?k55_1
            case k55_0 =>
              refine' jr_of ?k56_0
              case k56_0 =>
                refine' je_ix (K := K) ?k57_0 ?k57_1
                case k57_0 =>
                  exact jr_var 0
                case k57_1 =>
                  refine' jr_of ?k58_0
                  case k58_0 =>
                    exact je_int
            case k55_1 =>
              exact jr_var 1
        case k53_1 =>
          refine' jss_cons ?k59_0 ?k59_1
          case k59_0 =>
            refine' js_setitem 0 ?k60_0 ?k60_1
            case k60_0 =>
              refine' je_fdiv ?k61_0 ?k61_1
              case k61_0 =>
                refine' jr_of ?k62_0
                case k62_0 =>
                  refine' je_ix (K := K) ?k63_0 ?k63_1
                  case k63_0 =>
                    exact jr_var 0
                  case k63_1 =>
                    refine' jr_of ?k64_0
                    case k64_0 =>
                      exact je_int
              case k61_1 =>
                exact jr_var 1
            case k60_1 =>
              exact je_int
          case k59_1 =>
            refine' jss_one ?k65_0
            case k65_0 =>
              refine' js_ret ?k66_0
              case k66_0 =>
                exact je_var 2
      case k44_2 =>
        exact jss_nil
    case k43_1 =>
      refine' jss_cons ?k67_0 ?k67_1
      case k67_0 =>
        refine' js_setitem 0 ?k68_0 ?k68_1
        case k68_0 =>
          refine' je_add (K := K) ?k69_0 ?k69_1
          case k69_0 =>
            refine' jr_of ?k70_0
            case k70_0 =>
              refine' je_ix (K := K) ?k71_0 ?k71_1
              case k71_0 =>
                exact jr_var 0
              case k71_1 =>
                refine' jr_of ?k72_0
                case k72_0 =>
                  exact je_int
          case k69_1 =>
            refine' jr_of ?k73_0
            case k73_0 =>
              exact je_int
        case k68_1 =>
          exact je_int
      case k67_1 =>
        refine' jss_one ?k74_0
        case k74_0 =>
          refine' js_ret ?k75_0
          case k75_0 =>
            refine' je_mod ?k76_0 ?k76_1
            case k76_0 =>
              refine' jr_of ?k77_0
              case k77_0 =>
                refine' je_fdiv ?k78_0 ?k78_1
                case k78_0 =>
                  refine' jr_of ?k79_0
                  case k79_0 =>
                    refine' je_call0 D__law_drawn hr ?k80_0
                    case k80_0 =>
                      refine' ja_cons ?k81_0 ?k81_1
                      case k81_0 =>
                        refine' je_ix (K := K) ?k82_0 ?k82_1
                        case k82_0 =>
                          exact jr_var 0
                        case k82_1 =>
                          refine' jr_of ?k83_0
                          case k83_0 =>
                            exact je_int
                      case k81_1 =>
                        refine' ja_cons ?k84_0 ?k84_1
                        case k84_0 =>
                          refine' je_ix (K := K) ?k85_0 ?k85_1
                          case k85_0 =>
                            exact jr_var 0
                          case k85_1 =>
                            refine' jr_of ?k86_0
                            case k86_0 =>
                              exact je_int
                        case k84_1 =>
                          exact ja_nil
                case k78_1 =>
                  refine' jr_of ?k87_0
                  case k87_0 =>
                    exact je_int
            case k76_1 =>
              exact jr_var 1


/-! ### _law_renamed -/
abbrev s__law_renamed : Stmt := top 54
theorem sc__law_renamed : FnScope ["dice", "net", "many", "turn", "rows", "event", "row", "some", "source", "delay", "back", "one"] ["dice", "net"] (defScope s__law_renamed) := ⟨rfl, rfl, rfl, by decide +kernel, rfl, by decide +kernel, by decide +kernel⟩
theorem ok__law_renamed {P : Program} {w : World} {K : PySem.W.Frag} {mg : Str → Option Value} {base : Heap} {C : Str → Addr} (nm : Nm K mg C) (h : HasF K mg "_law_renamed" s__law_renamed ["dice", "net"]) (D__law_roll : DefB P w K mg base CX0 C "_law_roll" ["dice", "many"] 2 (noEx c__law_roll)) : DefB P w K mg base CX0 C "_law_renamed" ["dice", "net"] 3 (noEx c__law_renamed) := by
  have nd := sc__law_renamed.nd
  refine' def_b0 (k := 2) (y := "dice") (N := ["net", "many", "turn", "rows", "event", "row", "some", "source", "delay", "back", "one"]) h sc__law_renamed ?hb
  intro f cdv A outer s H E hr
  refine' ⟨_, ?hc⟩
  case hc =>
    intro B EX
    refine' jss_cons ?k88_0 ?k88_1
    case k88_0 =>
      refine' js_set 2 nd ?k89_0
      case k89_0 =>
        refine' je_cb (cK_len (K := K) rfl) okK_len PySem.boot_len nm.len ?k90_0
        case k90_0 =>
          refine' jar_cons ?k91_0 ?k91_1
          case k91_0 =>
            refine' jr_of ?k92_0
            case k92_0 =>
              refine' je_ix (K := K) ?k93_0 ?k93_1
              case k93_0 =>
                exact jr_var 1
              case k93_1 =>
                refine' jr_of ?k94_0
                case k94_0 =>
                  exact je_int
          case k91_1 =>
            exact jar_nil
    case k88_1 =>
      refine' jss_cons ?k95_0 ?k95_1
      case k95_0 =>
        refine' js_if ?k96_0 ?k96_1 ?k96_2
        case k96_0 =>
          refine' jb_eq (K := K) hr.units ?k97_0 ?k97_1
          case k97_0 =>
            refine' jr_of ?k98_0
            case k98_0 =>
              refine' je_callB0 0 D__law_roll hr ?k99_0
              case k99_0 =>
                refine' ja_cons ?k100_0 ?k100_1
                case k100_0 =>
                  exact je_int
                case k100_1 =>
                  exact ja_nil
          case k97_1 =>
            refine' jr_of ?k101_0
            case k101_0 =>
              exact je_int
        case k96_1 =>
          refine' jss_one ?k102_0
          case k102_0 =>
            refine' js_ret ?k103_0
            case k103_0 =>
              exact je_var 1
        case k96_2 =>
          exact jss_nil
      case k95_1 =>
        refine' jss_cons ?k104_0 ?k104_1
        case k104_0 =>
          refine' js_set 3 nd ?k105_0
          case k105_0 =>
            refine' je_callB0 0 D__law_roll hr ?k106_0
            case k106_0 =>
              refine' ja_cons ?k107_0 ?k107_1
              case k107_0 =>
                exact je_var 2
              case k107_1 =>
                exact ja_nil
        case k104_1 =>
          refine' jss_cons ?k108_0 ?k108_1
          case k108_0 =>
            refine' js_own 4 nd ?k109_0
            case k109_0 =>
              refine' jf_rep ?k110_0 ?k110_1
              case k110_0 =>
                refine' jr_of ?k111_0
                case k111_0 =>
                  refine' je_of ?k112_0
                  case k112_0 =>
                    refine' jf_lst ?k113_0
                    case k113_0 =>
                      refine' ja_cons ?k114_0 ?k114_1
                      case k114_0 =>
                        refine' je_tup ?k115_0
                        case k115_0 =>
                          exact ja_nil
                      case k114_1 =>
                        exact ja_nil
              case k110_1 =>
                exact jr_var 2
          case k108_1 =>
            refine' jss_cons ?k116_0 ?k116_1
            case k116_0 =>
              refine' js_for PassesOwn.never ?k117_0 ?k117_1 ?k117_2
              case k117_0 =>
                refine' ji_enum (K := K) nm.enumerate ?k118_0
                case k118_0 =>
                  refine' ja_cons ?k119_0 ?k119_1
                  case k119_0 =>
                    refine' je_ix (K := K) ?k120_0 ?k120_1
                    case k120_0 =>
                      exact jr_var 1
                    case k120_1 =>
                      refine' jr_of ?k121_0
                      case k121_0 =>
                        exact je_int
                  case k119_1 =>
                    exact ja_nil
              case k117_1 =>
                refine' jg_tup (K := K) ?k122_0
                case k122_0 =>
                  refine' jgs_cons ?k123_0 ?k123_1
                  case k123_0 =>
                    exact jg_name 5 nd
                  case k123_1 =>
                    refine' jgs_cons ?k124_0 ?k124_1
                    case k124_0 =>
                      exact jg_name 6 nd
                    case k124_1 =>
                      exact jgs_nil
              case k117_2 =>
                refine' jss_cons ?k125_0 ?k125_1
                case k125_0 =>
                  refine' js_own 7 nd ?k126_0
                  case k126_0 =>
                    refine' jf_lst ?k127_0
                    case k127_0 =>
                      exact ja_nil
                case k125_1 =>
                  refine' jss_cons ?k128_0 ?k128_1
                  case k128_0 =>
                    refine' js_for PassesOwn.never ?k129_0 ?k129_1 ?k129_2
                    case k129_0 =>
                      refine' ji_seq (K := K) ?k130_0
                      case k130_0 =>
                        exact je_var 6
                    case k129_1 =>
                      refine' jg_tup (K := K) ?k131_0
                      case k131_0 =>
                        refine' jgs_cons ?k132_0 ?k132_1
                        case k132_0 =>
                          exact jg_name 8 nd
                        case k132_1 =>
                          refine' jgs_cons ?k133_0 ?k133_1
                          case k133_0 =>
                            exact jg_name 9 nd
                          case k133_1 =>
                            refine' jgs_cons ?k134_0 ?k134_1
                            case k134_0 =>
                              exact jg_name 10 nd
                            case k134_1 =>
                              exact jgs_nil
                    case k129_2 =>
                      refine' jss_cons ?k135_0 ?k135_1
                      case k135_0 =>
                        refine' js_if ?k136_0 ?k136_1 ?k136_2
                        case k136_0 =>
                          refine' jb_eq (K := K) hr.units ?k137_0 ?k137_1
                          case k137_0 =>
                            refine' jr_of ?k138_0
                            case k138_0 =>
                              refine' je_ix (K := K) ?k139_0 ?k139_1
                              case k139_0 =>
                                exact jr_var 8
                              case k139_1 =>
                                refine' jr_of ?k140_0
                                case k140_0 =>
                                  exact je_int
                          case k137_1 =>
                            refine' jr_of ?k141_0
                            case k141_0 =>
                              exact je_str
                        case k136_1 =>
                          refine' jss_one ?k142_0
                          case k142_0 =>
                            refine' js_set 8 nd ?k143_0
                            case k143_0 =>
                              refine' je_add (K := K) ?k144_0 ?k144_1
                              case k144_0 =>
                                refine' jr_of ?k145_0
                                case k145_0 =>
                                  exact je_str
                              case k144_1 =>
                                refine' jr_of ?k146_0
                                case k146_0 =>
                                  refine' je_ct call_str_int ok_str PyProof.Rows.boot_str nm.str ?k147_0
                                  case k147_0 =>
                                    refine' jar_cons ?k148_0 ?k148_1
                                    case k148_0 =>
                                      refine' jr_of ?k149_0
                                      case k149_0 =>
                                        refine' je_mod ?k150_0 ?k150_1
                                        case k150_0 =>
                                          refine' jr_of ?k151_0
                                          case k151_0 =>
                                            refine' je_add (K := K) ?k152_0 ?k152_1
                                            case k152_0 =>
                                              refine' jr_of ?k153_0
                                              case k153_0 =>
                                                refine' je_ct call_intA ok_int PyProof.Rows.boot_int nm.int ?k154_0
                                                case k154_0 =>
                                                  refine' jar_cons ?k155_0 ?k155_1
                                                  case k155_0 =>
                                                    refine' jr_of ?k156_0
                                                    case k156_0 =>
                                                      refine' je_sl (K := K) ?k157_0 ?k157_1 ?k157_2
                                                      case k157_0 =>
                                                        exact jr_var 8
                                                      case k157_1 =>
                                                        refine' jo_some ?k158_0
                                                        case k158_0 =>
                                                          exact je_int
                                                      case k157_2 =>
                                                        exact jo_none
                                                  case k155_1 =>
                                                    exact jar_nil
                                            case k152_1 =>
                                              exact jr_var 3
                                        case k150_1 =>
                                          exact jr_var 2
                                    case k148_1 =>
                                      exact jar_nil
                        case k136_2 =>
                          exact jss_nil
                      case k135_1 =>
                        refine' jss_one ?k159_0
                        case k159_0 =>
                          refine' js_append (K := K) 7 ?k160_0
                          case k160_0 =>
                            refine' je_tup ?k161_0
                            case k161_0 =>
                              refine' ja_cons ?k162_0 ?k162_1
                              case k162_0 =>
                                exact je_var 8
                              case k162_1 =>
                                refine' ja_cons ?k163_0 ?k163_1
                                case k163_0 =>
                                  exact je_var 9
                                case k163_1 =>
                                  refine' ja_cons ?k164_0 ?k164_1
                                  case k164_0 =>
                                    exact je_var 10
                                  case k164_1 =>
                                    exact ja_nil
                  case k128_1 =>
                    refine' jss_one ?k165_0
                    case k165_0 =>
                      refine' js_setitem 4 ?k166_0 ?k166_1
                      case k166_0 =>
                        refine' je_ct (cK_tuple (K := K) rfl) okK_tuple PyProof.Rows.boot_tuple nm.tuple ?k167_0
                        case k167_0 =>
                          refine' jar_cons ?k168_0 ?k168_1
                          case k168_0 =>
                            exact jr_var 7
                          case k168_1 =>
                            exact jar_nil
                      case k166_1 =>
                        refine' je_mod ?k169_0 ?k169_1
                        case k169_0 =>
                          refine' jr_of ?k170_0
                          case k170_0 =>
                            refine' je_add (K := K) ?k171_0 ?k171_1
                            case k171_0 =>
                              exact jr_var 5
                            case k171_1 =>
                              exact jr_var 3
                        case k169_1 =>
                          exact jr_var 2
            case k116_1 =>
              refine' jss_one ?k172_0
              case k172_0 =>
                refine' js_ret ?k173_0
                case k173_0 =>
                  refine' je_tup ?k174_0
                  case k174_0 =>
                    refine' ja_cons ?k175_0 ?k175_1
                    case k175_0 =>
                      refine' je_ix (K := K) ?k176_0 ?k176_1
                      case k176_0 =>
                        exact jr_var 1
                      case k176_1 =>
                        refine' jr_of ?k177_0
                        case k177_0 =>
                          exact je_int
                    case k175_1 =>
                      refine' ja_cons ?k178_0 ?k178_1
                      case k178_0 =>
                        refine' je_ct (cK_tuple (K := K) rfl) okK_tuple PyProof.Rows.boot_tuple nm.tuple ?k179_0
                        case k179_0 =>
                          refine' jar_cons ?k180_0 ?k180_1
                          case k180_0 =>
                            exact jr_var 4
                          case k180_1 =>
                            exact jar_nil
                      case k178_1 =>
                        refine' ja_cons ?k181_0 ?k181_1
                        case k181_0 =>
                          refine' je_ct (cK_tuple (K := K) rfl) okK_tuple PyProof.Rows.boot_tuple nm.tuple ?k182_0
                          case k182_0 =>
                            refine' jar_cons ?k183_0 ?k183_1
                            case k183_0 =>
                              refine' jr_of ?k184_0
                              case k184_0 =>
                                refine' je_of ?k185_0
                                case k185_0 =>
                                  refine' jf_lc (own := [("one", 11)]) (L := [11]) nd (blkOk_by (by kernel_rfl)) ?k186_0 ?k186_1 ?k186_2 ?k186_3
                                  case k186_0 =>
                                    refine' ji_seq (K := K) ?k187_0
                                    case k187_0 =>
                                      refine' je_ix (K := K) ?k188_0 ?k188_1
                                      case k188_0 =>
                                        exact jr_var 1
                                      case k188_1 =>
                                        refine' jr_of ?k189_0
                                        case k189_0 =>
                                          exact je_int
                                  case k186_1 =>
                                    intro _ _ _ _ _
                                    exact jg_name 11 nd
                                  case k186_2 =>
                                    intro _ _ _ _ _
                                    exact jbs_nil
                                  case k186_3 =>
                                    intro _ _ _ _ _
                                    refine' je_mod ?k190_0 ?k190_1
                                    case k190_0 =>
                                      refine' jr_of ?k191_0
                                      case k191_0 =>
                                        refine' je_add (K := K) ?k192_0 ?k192_1
                                        case k192_0 =>
                                          exact jr_var 11
                                        case k192_1 =>
                                          exact jr_var 3
                                    case k190_1 =>
                                      exact jr_var 2
                            case k183_1 =>
                              exact jar_nil
                        case k181_1 =>
                          exact ja_nil


/-! ### _law_net -/
abbrev s__law_net : Stmt := top 53
theorem sc__law_net : FnScope ["dice", "most", "inputs", "many", "given", "rows", "left", "event", "outputs", "row", "turn", "back", "pick", "source"] ["dice", "most", "inputs"] (defScope s__law_net) := ⟨rfl, rfl, rfl, by decide +kernel, rfl, by decide +kernel, by decide +kernel⟩
theorem ok__law_net {P : Program} {w : World} {K : PySem.W.Frag} {mg : Str → Option Value} {base : Heap} {C : Str → Addr} (nm : Nm K mg C) (h : HasF K mg "_law_net" s__law_net ["dice", "most", "inputs"]) (D__law_roll : DefB P w K mg base CX0 C "_law_roll" ["dice", "many"] 2 (noEx c__law_roll)) (D__law_renamed : DefB P w K mg base CX0 C "_law_renamed" ["dice", "net"] 3 (noEx c__law_renamed)) : DefB P w K mg base CX0 C "_law_net" ["dice", "most", "inputs"] 4 (noEx c__law_net) := by
  have nd := sc__law_net.nd
  refine' def_b0 (k := 3) (y := "dice") (N := ["most", "inputs", "many", "given", "rows", "left", "event", "outputs", "row", "turn", "back", "pick", "source"]) h sc__law_net ?hb
  intro f cdv A outer s H E hr
  refine' ⟨_, ?hc⟩
  case hc =>
    intro B EX
    refine' jss_cons ?k193_0 ?k193_1
    case k193_0 =>
      refine' js_parT (K := K) (is := [3, 4]) ?k194_0 ?k194_1
      case k194_0 =>
        refine' jam_cons ?k195_0 ?k195_1
        case k195_0 =>
          refine' je_add (K := K) ?k196_0 ?k196_1
          case k196_0 =>
            refine' jr_of ?k197_0
            case k197_0 =>
              exact je_int
          case k196_1 =>
            refine' jr_of ?k198_0
            case k198_0 =>
              refine' je_callB0 0 D__law_roll hr ?k199_0
              case k199_0 =>
                refine' ja_cons ?k200_0 ?k200_1
                case k200_0 =>
                  exact je_var 1
                case k200_1 =>
                  exact ja_nil
        case k195_1 =>
          refine' jam_cons ?k201_0 ?k201_1
          case k201_0 =>
            refine' je_callB0 0 D__law_roll hr ?k202_0
            case k202_0 =>
              refine' ja_cons ?k203_0 ?k203_1
              case k203_0 =>
                refine' je_add (K := K) ?k204_0 ?k204_1
                case k204_0 =>
                  exact jr_var 2
                case k204_1 =>
                  refine' jr_of ?k205_0
                  case k205_0 =>
                    exact je_int
              case k203_1 =>
                exact ja_nil
          case k201_1 =>
            exact jam_nil
      case k194_1 =>
        exact (pg_tup rfl (pgs_cons (pg_name (i := 3) nd rfl (by first | exact Or.inl rfl | exact Or.inr rfl)) (pgs_cons (pg_name (i := 4) nd rfl (by first | exact Or.inl rfl | exact Or.inr rfl)) (pgs_nil))))
    case k193_1 =>
      refine' jss_cons ?k206_0 ?k206_1
      case k206_0 =>
        refine' js_par2 5 6 nd ?k207_0
        case k207_0 =>
          refine' jam_own ?k208_0 ?k208_1
          case k208_0 =>
            refine' jf_lst ?k209_0
            case k209_0 =>
              exact ja_nil
          case k208_1 =>
            refine' jam_cons ?k210_0 ?k210_1
            case k210_0 =>
              exact je_int
            case k210_1 =>
              exact jam_nil
      case k206_1 =>
        refine' jss_cons ?k211_0 ?k211_1
        case k211_0 =>
          refine' js_for PassesOwn.never ?k212_0 ?k212_1 ?k212_2
          case k212_0 =>
            refine' ji_rng1 nm.range ?k213_0
            case k213_0 =>
              refine' ja_cons ?k214_0 ?k214_1
              case k214_0 =>
                exact je_var 3
              case k214_1 =>
                exact ja_nil
          case k212_1 =>
            exact jg_name 7 nd
          case k212_2 =>
            refine' jss_cons ?k215_0 ?k215_1
            case k215_0 =>
              refine' js_own 9 nd ?k216_0
              case k216_0 =>
                refine' jf_lst ?k217_0
                case k217_0 =>
                  exact ja_nil
            case k215_1 =>
              refine' jss_cons ?k218_0 ?k218_1
              case k218_0 =>
                refine' js_for PassesOwn.never ?k219_0 ?k219_1 ?k219_2
                case k219_0 =>
                  refine' ji_rng1 nm.range ?k220_0
                  case k220_0 =>
                    refine' ja_cons ?k221_0 ?k221_1
                    case k221_0 =>
                      refine' je_callB0 0 D__law_roll hr ?k222_0
                      case k222_0 =>
                        refine' ja_cons ?k223_0 ?k223_1
                        case k223_0 =>
                          exact je_int
                        case k223_1 =>
                          exact ja_nil
                    case k221_1 =>
                      exact ja_nil
                case k219_1 =>
                  exact jg_name 10 nd
                case k219_2 =>
                  refine' jss_cons ?k224_0 ?k224_1
                  case k224_0 =>
                    refine' js_set 11 nd ?k225_0
                    case k225_0 =>
                      refine' je_ix (K := K) ?k226_0 ?k226_1
                      case k226_0 =>
                        refine' jr_of ?k227_0
                        case k227_0 =>
                          refine' je_of ?k228_0
                          case k228_0 =>
                            refine' jf_lst ?k229_0
                            case k229_0 =>
                              refine' ja_cons ?k230_0 ?k230_1
                              case k230_0 =>
                                exact je_int
                              case k230_1 =>
                                refine' ja_cons ?k231_0 ?k231_1
                                case k231_0 =>
                                  exact je_int
                                case k231_1 =>
                                  refine' ja_cons ?k232_0 ?k232_1
                                  case k232_0 =>
                                    exact je_int
                                  case k232_1 =>
                                    refine' ja_cons ?k233_0 ?k233_1
                                    case k233_0 =>
                                      exact je_int
                                    case k233_1 =>
                                      refine' ja_cons ?k234_0 ?k234_1
                                      case k234_0 =>
                                        exact je_int
                                      case k234_1 =>
                                        refine' ja_cons ?k235_0 ?k235_1
                                        case k235_0 =>
                                          exact je_int
                                        case k235_1 =>
                                          exact ja_nil
                      case k226_1 =>
                        refine' jr_of ?k236_0
                        case k236_0 =>
                          refine' je_callB0 0 D__law_roll hr ?k237_0
                          case k237_0 =>
                            refine' ja_cons ?k238_0 ?k238_1
                            case k238_0 =>
                              exact je_int
                            case k238_1 =>
                              exact ja_nil
                  case k224_1 =>
                    refine' jss_cons ?k239_0 ?k239_1
                    case k239_0 =>
                      refine' js_set 12 nd ?k240_0
                      case k240_0 =>
                        refine' je_callB0 0 D__law_roll hr ?k241_0
                        case k241_0 =>
                          refine' ja_cons ?k242_0 ?k242_1
                          case k242_0 =>
                            exact je_int
                          case k242_1 =>
                            exact ja_nil
                    case k239_1 =>
                      refine' jss_cons ?k243_0 ?k243_1
                      case k243_0 =>
                        refine' js_set 13 nd ?k244_0
                        case k244_0 =>
                          refine' je_add (K := K) ?k245_0 ?k245_1
                          case k245_0 =>
                            refine' jr_of ?k246_0
                            case k246_0 =>
                              exact je_str
                          case k245_1 =>
                            refine' jr_of ?k247_0
                            case k247_0 =>
                              refine' je_ct call_str_int ok_str PyProof.Rows.boot_str nm.str ?k248_0
                              case k248_0 =>
                                refine' jar_cons ?k249_0 ?k249_1
                                case k249_0 =>
                                  refine' jr_of ?k250_0
                                  case k250_0 =>
                                    refine' je_callB0 0 D__law_roll hr ?k251_0
                                    case k251_0 =>
                                      refine' ja_cons ?k252_0 ?k252_1
                                      case k252_0 =>
                                        exact je_var 3
                                      case k252_1 =>
                                        exact ja_nil
                                case k249_1 =>
                                  exact jar_nil
                      case k243_1 =>
                        refine' jss_cons ?k253_0 ?k253_1
                        case k253_0 =>
                          refine' js_if ?k254_0 ?k254_1 ?k254_2
                          case k254_0 =>
                            refine' jb_eq (K := K) hr.units ?k255_0 ?k255_1
                            case k255_0 =>
                              exact jr_var 12
                            case k255_1 =>
                              refine' jr_of ?k256_0
                              case k256_0 =>
                                exact je_int
                          case k254_1 =>
                            refine' jss_one ?k257_0
                            case k257_0 =>
                              refine' js_set 13 nd ?k258_0
                              case k258_0 =>
                                exact je_str
                          case k254_2 =>
                            exact jss_nil
                        case k253_1 =>
                          refine' jss_cons ?k259_0 ?k259_1
                          case k259_0 =>
                            refine' js_if ?k260_0 ?k260_1 ?k260_2
                            case k260_0 =>
                              refine' jb_w ?k261_0
                              case k261_0 =>
                                refine' jw_and ?k262_0 ?k262_1
                                case k262_0 =>
                                  refine' jb_eq (K := K) hr.units ?k263_0 ?k263_1
                                  case k263_0 =>
                                    exact jr_var 12
                                  case k263_1 =>
                                    refine' jr_of ?k264_0
                                    case k264_0 =>
                                      exact je_int
                                case k262_1 =>
                                  refine' jw_and1 ?k265_0
                                  case k265_0 =>
                                    refine' jb_gt ?k266_0 ?k266_1
                                    case k266_0 =>
                                      exact jr_var 4
                                    case k266_1 =>
                                      refine' jr_of ?k267_0
                                      case k267_0 =>
                                        exact je_int
                            case k260_1 =>
                              refine' jss_one ?k268_0
                              case k268_0 =>
                                refine' js_set 13 nd ?k269_0
                                case k269_0 =>
                                  refine' je_add (K := K) ?k270_0 ?k270_1
                                  case k270_0 =>
                                    refine' jr_of ?k271_0
                                    case k271_0 =>
                                      exact je_str
                                  case k270_1 =>
                                    refine' jr_of ?k272_0
                                    case k272_0 =>
                                      refine' je_ct call_str_int ok_str PyProof.Rows.boot_str nm.str ?k273_0
                                      case k273_0 =>
                                        refine' jar_cons ?k274_0 ?k274_1
                                        case k274_0 =>
                                          refine' jr_of ?k275_0
                                          case k275_0 =>
                                            refine' je_callB0 0 D__law_roll hr ?k276_0
                                            case k276_0 =>
                                              refine' ja_cons ?k277_0 ?k277_1
                                              case k277_0 =>
                                                exact je_var 4
                                              case k277_1 =>
                                                exact ja_nil
                                        case k274_1 =>
                                          exact jar_nil
                            case k260_2 =>
                              exact jss_nil
                          case k259_1 =>
                            refine' jss_cons ?k278_0 ?k278_1
                            case k278_0 =>
                              refine' js_if ?k279_0 ?k279_1 ?k279_2
                              case k279_0 =>
                                refine' jb_w ?k280_0
                                case k280_0 =>
                                  refine' jw_and ?k281_0 ?k281_1
                                  case k281_0 =>
                                    refine' jb_eq (K := K) hr.units ?k282_0 ?k282_1
                                    case k282_0 =>
                                      refine' jr_of ?k283_0
                                      case k283_0 =>
                                        refine' je_ix (K := K) ?k284_0 ?k284_1
                                        case k284_0 =>
                                          exact jr_var 13
                                        case k284_1 =>
                                          refine' jr_of ?k285_0
                                          case k285_0 =>
                                            exact je_int
                                    case k282_1 =>
                                      refine' jr_of ?k286_0
                                      case k286_0 =>
                                        exact je_str
                                  case k281_1 =>
                                    refine' jw_and ?k287_0 ?k287_1
                                    case k287_0 =>
                                      refine' jb_ge ?k288_0 ?k288_1
                                      case k288_0 =>
                                        refine' jr_of ?k289_0
                                        case k289_0 =>
                                          refine' je_ct call_intA ok_int PyProof.Rows.boot_int nm.int ?k290_0
                                          case k290_0 =>
                                            refine' jar_cons ?k291_0 ?k291_1
                                            case k291_0 =>
                                              refine' jr_of ?k292_0
                                              case k292_0 =>
                                                refine' je_sl (K := K) ?k293_0 ?k293_1 ?k293_2
                                                case k293_0 =>
                                                  exact jr_var 13
                                                case k293_1 =>
                                                  refine' jo_some ?k294_0
                                                  case k294_0 =>
                                                    exact je_int
                                                case k293_2 =>
                                                  exact jo_none
                                            case k291_1 =>
                                              exact jar_nil
                                      case k288_1 =>
                                        exact jr_var 7
                                    case k287_1 =>
                                      refine' jw_and1 ?k295_0
                                      case k295_0 =>
                                        refine' jb_eq (K := K) hr.units ?k296_0 ?k296_1
                                        case k296_0 =>
                                          exact jr_var 11
                                        case k296_1 =>
                                          refine' jr_of ?k297_0
                                          case k297_0 =>
                                            exact je_int
                              case k279_1 =>
                                refine' jss_one ?k298_0
                                case k298_0 =>
                                  refine' js_set 11 nd ?k299_0
                                  case k299_0 =>
                                    exact je_int
                              case k279_2 =>
                                exact jss_nil
                            case k278_1 =>
                              refine' jss_one ?k300_0
                              case k300_0 =>
                                refine' js_if ?k301_0 ?k301_1 ?k301_2
                                case k301_0 =>
                                  refine' jb_le ?k302_0 ?k302_1
                                  case k302_0 =>
                                    exact jr_var 11
                                  case k302_1 =>
                                    exact jr_var 6
                                case k301_1 =>
                                  refine' jss_cons ?k303_0 ?k303_1
                                  case k303_0 =>
                                    refine' js_set 6 nd ?k304_0
                                    case k304_0 =>
                                      refine' je_sub ?k305_0 ?k305_1
                                      case k305_0 =>
                                        exact jr_var 6
                                      case k305_1 =>
                                        exact jr_var 11
                                  case k303_1 =>
                                    refine' jss_one ?k306_0
                                    case k306_0 =>
                                      refine' js_append (K := K) 9 ?k307_0
                                      case k307_0 =>
                                        refine' je_tup ?k308_0
                                        case k308_0 =>
                                          refine' ja_cons ?k309_0 ?k309_1
                                          case k309_0 =>
                                            exact je_var 13
                                          case k309_1 =>
                                            refine' ja_cons ?k310_0 ?k310_1
                                            case k310_0 =>
                                              refine' je_callB0 0 D__law_roll hr ?k311_0
                                              case k311_0 =>
                                                refine' ja_cons ?k312_0 ?k312_1
                                                case k312_0 =>
                                                  exact je_int
                                                case k312_1 =>
                                                  exact ja_nil
                                            case k310_1 =>
                                              refine' ja_cons ?k313_0 ?k313_1
                                              case k313_0 =>
                                                exact je_var 11
                                              case k313_1 =>
                                                exact ja_nil
                                case k301_2 =>
                                  exact jss_nil
              case k218_1 =>
                refine' jss_one ?k314_0
                case k314_0 =>
                  refine' js_append (K := K) 5 ?k315_0
                  case k315_0 =>
                    refine' je_ct (cK_tuple (K := K) rfl) okK_tuple PyProof.Rows.boot_tuple nm.tuple ?k316_0
                    case k316_0 =>
                      refine' jar_cons ?k317_0 ?k317_1
                      case k317_0 =>
                        exact jr_var 9
                      case k317_1 =>
                        exact jar_nil
        case k211_1 =>
          refine' jss_cons ?k318_0 ?k318_1
          case k318_0 =>
            refine' js_if ?k319_0 ?k319_1 ?k319_2
            case k319_0 =>
              refine' jb_w ?k320_0
              case k320_0 =>
                refine' jw_and ?k321_0 ?k321_1
                case k321_0 =>
                  refine' jb_gt ?k322_0 ?k322_1
                  case k322_0 =>
                    refine' jr_of ?k323_0
                    case k323_0 =>
                      refine' je_callB0 0 D__law_roll hr ?k324_0
                      case k324_0 =>
                        refine' ja_cons ?k325_0 ?k325_1
                        case k325_0 =>
                          exact je_int
                        case k325_1 =>
                          exact ja_nil
                  case k322_1 =>
                    refine' jr_of ?k326_0
                    case k326_0 =>
                      exact je_int
                case k321_1 =>
                  refine' jw_and1 ?k327_0
                  case k327_0 =>
                    refine' jb_lt ?k328_0 ?k328_1
                    case k328_0 =>
                      refine' jr_of ?k329_0
                      case k329_0 =>
                        refine' je_cb (cK_len (K := K) rfl) okK_len PySem.boot_len nm.len ?k330_0
                        case k330_0 =>
                          refine' jar_cons ?k331_0 ?k331_1
                          case k331_0 =>
                            refine' jr_of ?k332_0
                            case k332_0 =>
                              refine' je_ix (K := K) ?k333_0 ?k333_1
                              case k333_0 =>
                                exact jr_var 5
                              case k333_1 =>
                                refine' jr_of ?k334_0
                                case k334_0 =>
                                  exact je_int
                          case k331_1 =>
                            exact jar_nil
                    case k328_1 =>
                      refine' jr_of ?k335_0
                      case k335_0 =>
                        exact je_int
            case k319_1 =>
              refine' jss_one ?k336_0
              case k336_0 =>
                refine' js_setitem 5 ?k337_0 ?k337_1
                case k337_0 =>
                  refine' je_add (K := K) ?k338_0 ?k338_1
                  case k338_0 =>
                    refine' jr_of ?k339_0
                    case k339_0 =>
                      refine' je_ix (K := K) ?k340_0 ?k340_1
                      case k340_0 =>
                        exact jr_var 5
                      case k340_1 =>
                        refine' jr_of ?k341_0
                        case k341_0 =>
                          exact je_int
                  case k338_1 =>
                    refine' jr_of ?k342_0
                    case k342_0 =>
                      refine' je_tup ?k343_0
                      case k343_0 =>
                        refine' ja_cons ?k344_0 ?k344_1
                        case k344_0 =>
                          refine' je_tup ?k345_0
                          case k345_0 =>
                            refine' ja_cons ?k346_0 ?k346_1
                            case k346_0 =>
                              exact je_str
                            case k346_1 =>
                              refine' ja_cons ?k347_0 ?k347_1
                              case k347_0 =>
                                refine' je_callB0 0 D__law_roll hr ?k348_0
                                case k348_0 =>
                                  refine' ja_cons ?k349_0 ?k349_1
                                  case k349_0 =>
                                    exact je_int
                                  case k349_1 =>
                                    exact ja_nil
                              case k347_1 =>
                                refine' ja_cons ?k350_0 ?k350_1
                                case k350_0 =>
                                  exact je_int
                                case k350_1 =>
                                  exact ja_nil
                        case k344_1 =>
                          exact ja_nil
                case k337_1 =>
                  exact je_int
            case k319_2 =>
              exact jss_nil
          case k318_1 =>
            refine' jss_cons ?k351_0 ?k351_1
            case k351_0 =>
              refine' js_set 8 nd ?k352_0
              case k352_0 =>
                refine' je_ct (cK_tuple (K := K) rfl) okK_tuple PyProof.Rows.boot_tuple nm.tuple ?k353_0
                case k353_0 =>
                  refine' jar_cons ?k354_0 ?k354_1
                  case k354_0 =>
                    refine' jr_of ?k355_0
                    case k355_0 =>
                      refine' je_of ?k356_0
                      case k356_0 =>
                        refine' jf_lc (own := [("turn", 10)]) (L := [10]) nd (blkOk_by (by kernel_rfl)) ?k357_0 ?k357_1 ?k357_2 ?k357_3
                        case k357_0 =>
                          refine' ji_rng1 nm.range ?k358_0
                          case k358_0 =>
                            refine' ja_cons ?k359_0 ?k359_1
                            case k359_0 =>
                              refine' je_add (K := K) ?k360_0 ?k360_1
                              case k360_0 =>
                                refine' jr_of ?k361_0
                                case k361_0 =>
                                  exact je_int
                              case k360_1 =>
                                refine' jr_of ?k362_0
                                case k362_0 =>
                                  refine' je_callB0 0 D__law_roll hr ?k363_0
                                  case k363_0 =>
                                    refine' ja_cons ?k364_0 ?k364_1
                                    case k364_0 =>
                                      exact je_int
                                    case k364_1 =>
                                      exact ja_nil
                            case k359_1 =>
                              exact ja_nil
                        case k357_1 =>
                          intro _ _ _ _ _
                          exact jg_name 10 nd
                        case k357_2 =>
                          intro _ _ _ _ _
                          exact jbs_nil
                        case k357_3 =>
                          intro _ _ _ _ _
                          refine' je_callB0 0 D__law_roll hr ?k365_0
                          case k365_0 =>
                            refine' ja_cons ?k366_0 ?k366_1
                            case k366_0 =>
                              exact je_var 3
                            case k366_1 =>
                              exact ja_nil
                  case k354_1 =>
                    exact jar_nil
            case k351_1 =>
              refine' jss_one ?k367_0
              case k367_0 =>
                refine' js_ret ?k368_0
                case k368_0 =>
                  refine' je_callB0 0 D__law_renamed hr ?k369_0
                  case k369_0 =>
                    refine' ja_cons ?k370_0 ?k370_1
                    case k370_0 =>
                      refine' je_tup ?k371_0
                      case k371_0 =>
                        refine' ja_cons ?k372_0 ?k372_1
                        case k372_0 =>
                          exact je_var 4
                        case k372_1 =>
                          refine' ja_cons ?k373_0 ?k373_1
                          case k373_0 =>
                            refine' je_ct (cK_tuple (K := K) rfl) okK_tuple PyProof.Rows.boot_tuple nm.tuple ?k374_0
                            case k374_0 =>
                              refine' jar_cons ?k375_0 ?k375_1
                              case k375_0 =>
                                exact jr_var 5
                              case k375_1 =>
                                exact jar_nil
                          case k373_1 =>
                            refine' ja_cons ?k376_0 ?k376_1
                            case k376_0 =>
                              exact je_var 8
                            case k376_1 =>
                              exact ja_nil
                    case k370_1 =>
                      exact ja_nil


/-! ### _law_overtaken -/
abbrev s__law_overtaken : Stmt := top 55
theorem sc__law_overtaken : FnScope ["dice", "one", "two", "rows"] ["dice"] (defScope s__law_overtaken) := ⟨rfl, rfl, rfl, by decide +kernel, rfl, by decide +kernel, by decide +kernel⟩
theorem ok__law_overtaken {P : Program} {w : World} {K : PySem.W.Frag} {mg : Str → Option Value} {base : Heap} {C : Str → Addr} (nm : Nm K mg C) (h : HasF K mg "_law_overtaken" s__law_overtaken ["dice"]) (D__law_roll : DefB P w K mg base CX0 C "_law_roll" ["dice", "many"] 2 (noEx c__law_roll)) (D__law_renamed : DefB P w K mg base CX0 C "_law_renamed" ["dice", "net"] 3 (noEx c__law_renamed)) : DefB P w K mg base CX0 C "_law_overtaken" ["dice"] 4 (noEx c__law_overtaken) := by
  have nd := sc__law_overtaken.nd
  refine' def_b0 (k := 3) (y := "dice") (N := ["one", "two", "rows"]) h sc__law_overtaken ?hb
  intro f cdv A outer s H E hr
  refine' ⟨_, ?hc⟩
  case hc =>
    intro B EX
    refine' jss_cons ?k377_0 ?k377_1
    case k377_0 =>
      refine' js_par2 1 2 nd ?k378_0
      case k378_0 =>
        refine' jam_cons ?k379_0 ?k379_1
        case k379_0 =>
          refine' je_callB0 0 D__law_roll hr ?k380_0
          case k380_0 =>
            refine' ja_cons ?k381_0 ?k381_1
            case k381_0 =>
              exact je_int
            case k381_1 =>
              exact ja_nil
        case k379_1 =>
          refine' jam_cons ?k382_0 ?k382_1
          case k382_0 =>
            refine' je_callB0 0 D__law_roll hr ?k383_0
            case k383_0 =>
              refine' ja_cons ?k384_0 ?k384_1
              case k384_0 =>
                exact je_int
              case k384_1 =>
                exact ja_nil
          case k382_1 =>
            exact jam_nil
    case k377_1 =>
      refine' jss_cons ?k385_0 ?k385_1
      case k385_0 =>
        refine' js_own 3 nd ?k386_0
        case k386_0 =>
          refine' jf_lst ?k387_0
          case k387_0 =>
            refine' ja_cons ?k388_0 ?k388_1
            case k388_0 =>
              refine' je_tup ?k389_0
              case k389_0 =>
                refine' ja_cons ?k390_0 ?k390_1
                case k390_0 =>
                  refine' je_tup ?k391_0
                  case k391_0 =>
                    refine' ja_cons ?k392_0 ?k392_1
                    case k392_0 =>
                      exact je_str
                    case k392_1 =>
                      refine' ja_cons ?k393_0 ?k393_1
                      case k393_0 =>
                        refine' je_callB0 0 D__law_roll hr ?k394_0
                        case k394_0 =>
                          refine' ja_cons ?k395_0 ?k395_1
                          case k395_0 =>
                            exact je_int
                          case k395_1 =>
                            exact ja_nil
                      case k393_1 =>
                        refine' ja_cons ?k396_0 ?k396_1
                        case k396_0 =>
                          exact je_int
                        case k396_1 =>
                          exact ja_nil
                case k390_1 =>
                  refine' ja_cons ?k397_0 ?k397_1
                  case k397_0 =>
                    refine' je_tup ?k398_0
                    case k398_0 =>
                      refine' ja_cons ?k399_0 ?k399_1
                      case k399_0 =>
                        exact je_str
                      case k399_1 =>
                        refine' ja_cons ?k400_0 ?k400_1
                        case k400_0 =>
                          exact je_var 1
                        case k400_1 =>
                          refine' ja_cons ?k401_0 ?k401_1
                          case k401_0 =>
                            refine' je_add (K := K) ?k402_0 ?k402_1
                            case k402_0 =>
                              refine' jr_of ?k403_0
                              case k403_0 =>
                                exact je_int
                            case k402_1 =>
                              refine' jr_of ?k404_0
                              case k404_0 =>
                                refine' je_callB0 0 D__law_roll hr ?k405_0
                                case k405_0 =>
                                  refine' ja_cons ?k406_0 ?k406_1
                                  case k406_0 =>
                                    exact je_int
                                  case k406_1 =>
                                    exact ja_nil
                          case k401_1 =>
                            exact ja_nil
                  case k397_1 =>
                    exact ja_nil
            case k388_1 =>
              exact ja_nil
      case k385_1 =>
        refine' jss_cons ?k407_0 ?k407_1
        case k407_0 =>
          refine' js_append (K := K) 3 ?k408_0
          case k408_0 =>
            refine' je_tup ?k409_0
            case k409_0 =>
              refine' ja_cons ?k410_0 ?k410_1
              case k410_0 =>
                refine' je_tup ?k411_0
                case k411_0 =>
                  refine' ja_cons ?k412_0 ?k412_1
                  case k412_0 =>
                    exact je_str
                  case k412_1 =>
                    refine' ja_cons ?k413_0 ?k413_1
                    case k413_0 =>
                      exact je_int
                    case k413_1 =>
                      refine' ja_cons ?k414_0 ?k414_1
                      case k414_0 =>
                        refine' je_callB0 0 D__law_roll hr ?k415_0
                        case k415_0 =>
                          refine' ja_cons ?k416_0 ?k416_1
                          case k416_0 =>
                            exact je_int
                          case k416_1 =>
                            exact ja_nil
                      case k414_1 =>
                        exact ja_nil
              case k410_1 =>
                refine' ja_cons ?k417_0 ?k417_1
                case k417_0 =>
                  refine' je_tup ?k418_0
                  case k418_0 =>
                    refine' ja_cons ?k419_0 ?k419_1
                    case k419_0 =>
                      exact je_str
                    case k419_1 =>
                      refine' ja_cons ?k420_0 ?k420_1
                      case k420_0 =>
                        exact je_var 2
                      case k420_1 =>
                        refine' ja_cons ?k421_0 ?k421_1
                        case k421_0 =>
                          refine' je_add (K := K) ?k422_0 ?k422_1
                          case k422_0 =>
                            refine' jr_of ?k423_0
                            case k423_0 =>
                              exact je_int
                          case k422_1 =>
                            refine' jr_of ?k424_0
                            case k424_0 =>
                              refine' je_callB0 0 D__law_roll hr ?k425_0
                              case k425_0 =>
                                refine' ja_cons ?k426_0 ?k426_1
                                case k426_0 =>
                                  exact je_int
                                case k426_1 =>
                                  exact ja_nil
                        case k421_1 =>
                          exact ja_nil
                case k417_1 =>
                  exact ja_nil
        case k407_1 =>
          refine' jss_cons ?k427_0 ?k427_1
          case k427_0 =>
            refine' js_append (K := K) 3 ?k428_0
            case k428_0 =>
              refine' je_tup ?k429_0
              case k429_0 =>
                refine' ja_cons ?k430_0 ?k430_1
                case k430_0 =>
                  refine' je_tup ?k431_0
                  case k431_0 =>
                    refine' ja_cons ?k432_0 ?k432_1
                    case k432_0 =>
                      exact je_str
                    case k432_1 =>
                      refine' ja_cons ?k433_0 ?k433_1
                      case k433_0 =>
                        refine' je_callB0 0 D__law_roll hr ?k434_0
                        case k434_0 =>
                          refine' ja_cons ?k435_0 ?k435_1
                          case k435_0 =>
                            exact je_int
                          case k435_1 =>
                            exact ja_nil
                      case k433_1 =>
                        refine' ja_cons ?k436_0 ?k436_1
                        case k436_0 =>
                          exact je_int
                        case k436_1 =>
                          exact ja_nil
                case k430_1 =>
                  refine' ja_cons ?k437_0 ?k437_1
                  case k437_0 =>
                    refine' je_tup ?k438_0
                    case k438_0 =>
                      refine' ja_cons ?k439_0 ?k439_1
                      case k439_0 =>
                        exact je_str
                      case k439_1 =>
                        refine' ja_cons ?k440_0 ?k440_1
                        case k440_0 =>
                          refine' je_callB0 0 D__law_roll hr ?k441_0
                          case k441_0 =>
                            refine' ja_cons ?k442_0 ?k442_1
                            case k442_0 =>
                              exact je_int
                            case k442_1 =>
                              exact ja_nil
                        case k440_1 =>
                          refine' ja_cons ?k443_0 ?k443_1
                          case k443_0 =>
                            refine' je_callB0 0 D__law_roll hr ?k444_0
                            case k444_0 =>
                              refine' ja_cons ?k445_0 ?k445_1
                              case k445_0 =>
                                exact je_int
                              case k445_1 =>
                                exact ja_nil
                          case k443_1 =>
                            exact ja_nil
                  case k437_1 =>
                    exact ja_nil
          case k427_1 =>
            refine' jss_one ?k446_0
            case k446_0 =>
              refine' js_ret ?k447_0
              case k447_0 =>
                refine' je_callB0 0 D__law_renamed hr ?k448_0
                case k448_0 =>
                  refine' ja_cons ?k449_0 ?k449_1
                  case k449_0 =>
                    refine' je_tup ?k450_0
                    case k450_0 =>
                      refine' ja_cons ?k451_0 ?k451_1
                      case k451_0 =>
                        exact je_int
                      case k451_1 =>
                        refine' ja_cons ?k452_0 ?k452_1
                        case k452_0 =>
                          refine' je_ct (cK_tuple (K := K) rfl) okK_tuple PyProof.Rows.boot_tuple nm.tuple ?k453_0
                          case k453_0 =>
                            refine' jar_cons ?k454_0 ?k454_1
                            case k454_0 =>
                              exact jr_var 3
                            case k454_1 =>
                              exact jar_nil
                        case k452_1 =>
                          refine' ja_cons ?k455_0 ?k455_1
                          case k455_0 =>
                            refine' je_tup ?k456_0
                            case k456_0 =>
                              refine' ja_cons ?k457_0 ?k457_1
                              case k457_0 =>
                                exact je_int
                              case k457_1 =>
                                refine' ja_cons ?k458_0 ?k458_1
                                case k458_0 =>
                                  exact je_int
                                case k458_1 =>
                                  exact ja_nil
                          case k455_1 =>
                            exact ja_nil
                  case k449_1 =>
                    exact ja_nil


/-! ### _law_rings -/
abbrev s__law_rings : Stmt := top 56
theorem sc__law_rings : FnScope ["net", "found", "first", "level", "longer_ways", "way", "event", "passed", "place", "arc", "one", "spot"] ["net"] (defScope s__law_rings) := ⟨rfl, rfl, rfl, by decide +kernel, rfl, by decide +kernel, by decide +kernel⟩
theorem ok__law_rings {P : Program} {w : World} {K : PySem.W.Frag} {mg : Str → Option Value} {base : Heap} {C : Str → Addr} (nm : Nm K mg C) (h : HasF K mg "_law_rings" s__law_rings ["net"]) : DefV P w K mg base CX0 C "_law_rings" ["net"] 1 g__law_rings := by
  have nd := sc__law_rings.nd
  refine' def_v0 (k := 0) (N := ["net", "found", "first", "level", "longer_ways", "way", "event", "passed", "place", "arc", "one", "spot"]) h sc__law_rings ?hb
  intro f cdv A outer s H E hr
  refine' ⟨_, ?hc⟩
  case hc =>
    intro B EX
    refine' jss_cons ?k459_0 ?k459_1
    case k459_0 =>
      refine' js_own 1 nd ?k460_0
      case k460_0 =>
        refine' jf_lst ?k461_0
        case k461_0 =>
          exact ja_nil
    case k459_1 =>
      refine' jss_cons ?k462_0 ?k462_1
      case k462_0 =>
        refine' js_for PassesOwn.never ?k463_0 ?k463_1 ?k463_2
        case k463_0 =>
          refine' ji_rng1 nm.range ?k464_0
          case k464_0 =>
            refine' ja_cons ?k465_0 ?k465_1
            case k465_0 =>
              refine' je_cb (cK_len (K := K) rfl) okK_len PySem.boot_len nm.len ?k466_0
              case k466_0 =>
                refine' jar_cons ?k467_0 ?k467_1
                case k467_0 =>
                  refine' jr_of ?k468_0
                  case k468_0 =>
                    refine' je_ix (K := K) ?k469_0 ?k469_1
                    case k469_0 =>
                      exact jr_var 0
                    case k469_1 =>
                      refine' jr_of ?k470_0
                      case k470_0 =>
                        exact je_int
                case k467_1 =>
                  exact jar_nil
            case k465_1 =>
              exact ja_nil
        case k463_1 =>
          exact jg_name 2 nd
        case k463_2 =>
          refine' jss_cons ?k471_0 ?k471_1
          case k471_0 =>
            refine' js_set 3 nd ?k472_0
            case k472_0 =>
              refine' je_of ?k473_0
              case k473_0 =>
                refine' jf_lst ?k474_0
                case k474_0 =>
                  refine' ja_cons ?k475_0 ?k475_1
                  case k475_0 =>
                    refine' je_tup ?k476_0
                    case k476_0 =>
                      refine' ja_cons ?k477_0 ?k477_1
                      case k477_0 =>
                        refine' je_tup ?k478_0
                        case k478_0 =>
                          exact ja_nil
                      case k477_1 =>
                        refine' ja_cons ?k479_0 ?k479_1
                        case k479_0 =>
                          exact je_var 2
                        case k479_1 =>
                          exact ja_nil
                  case k475_1 =>
                    exact ja_nil
          case k471_1 =>
            refine' jss_one ?k480_0
            case k480_0 =>
              refine' js_while 1000000 PassesOwn.never ?k481_0 ?k481_1
              case k481_0 =>
                refine' jb_ne (K := K) hr.units ?k482_0 ?k482_1
                case k482_0 =>
                  exact jr_var 3
                case k482_1 =>
                  refine' jr_of ?k483_0
                  case k483_0 =>
                    refine' je_of ?k484_0
                    case k484_0 =>
                      refine' jf_lst ?k485_0
                      case k485_0 =>
                        exact ja_nil
              case k481_1 =>
                refine' jss_cons ?k486_0 ?k486_1
                case k486_0 =>
                  refine' js_own 4 nd ?k487_0
                  case k487_0 =>
                    refine' jf_lst ?k488_0
                    case k488_0 =>
                      exact ja_nil
                case k486_1 =>
                  refine' jss_cons ?k489_0 ?k489_1
                  case k489_0 =>
                    refine' js_for PassesOwn.never ?k490_0 ?k490_1 ?k490_2
                    case k490_0 =>
                      refine' ji_seq (K := K) ?k491_0
                      case k491_0 =>
                        exact je_var 3
                    case k490_1 =>
                      refine' jg_tup (K := K) ?k492_0
                      case k492_0 =>
                        refine' jgs_cons ?k493_0 ?k493_1
                        case k493_0 =>
                          exact jg_name 5 nd
                        case k493_1 =>
                          refine' jgs_cons ?k494_0 ?k494_1
                          case k494_0 =>
                            exact jg_name 6 nd
                          case k494_1 =>
                            exact jgs_nil
                    case k490_2 =>
                      refine' jss_cons ?k495_0 ?k495_1
                      case k495_0 =>
                        refine' js_set 7 nd ?k496_0
                        case k496_0 =>
                          refine' je_add (K := K) ?k497_0 ?k497_1
                          case k497_0 =>
                            refine' jr_of ?k498_0
                            case k498_0 =>
                              refine' je_of ?k499_0
                              case k499_0 =>
                                refine' jf_lc (own := [("one", 10), ("spot", 11)]) (L := ([10] ++ ([11] ++ []))) nd (blkOk_by (by kernel_rfl)) ?k500_0 ?k500_1 ?k500_2 ?k500_3
                                case k500_0 =>
                                  refine' ji_seq (K := K) ?k501_0
                                  case k501_0 =>
                                    exact je_var 5
                                case k500_1 =>
                                  intro _ _ _ _ _
                                  refine' jg_tup (K := K) ?k502_0
                                  case k502_0 =>
                                    refine' jgs_cons ?k503_0 ?k503_1
                                    case k503_0 =>
                                      exact jg_name 10 nd
                                    case k503_1 =>
                                      refine' jgs_cons ?k504_0 ?k504_1
                                      case k504_0 =>
                                        exact jg_name 11 nd
                                      case k504_1 =>
                                        exact jgs_nil
                                case k500_2 =>
                                  intro _ _ _ _ _
                                  exact jbs_nil
                                case k500_3 =>
                                  intro _ _ _ _ _
                                  exact je_var 10
                          case k497_1 =>
                            refine' jr_of ?k505_0
                            case k505_0 =>
                              refine' je_of ?k506_0
                              case k506_0 =>
                                refine' jf_lst ?k507_0
                                case k507_0 =>
                                  refine' ja_cons ?k508_0 ?k508_1
                                  case k508_0 =>
                                    exact je_var 6
                                  case k508_1 =>
                                    exact ja_nil
                      case k495_1 =>
                        refine' jss_one ?k509_0
                        case k509_0 =>
                          refine' js_for PassesOwn.never ?k510_0 ?k510_1 ?k510_2
                          case k510_0 =>
                            refine' ji_enum (K := K) nm.enumerate ?k511_0
                            case k511_0 =>
                              refine' ja_cons ?k512_0 ?k512_1
                              case k512_0 =>
                                refine' je_ix (K := K) ?k513_0 ?k513_1
                                case k513_0 =>
                                  refine' jr_of ?k514_0
                                  case k514_0 =>
                                    refine' je_ix (K := K) ?k515_0 ?k515_1
                                    case k515_0 =>
                                      exact jr_var 0
                                    case k515_1 =>
                                      refine' jr_of ?k516_0
                                      case k516_0 =>
                                        exact je_int
                                case k513_1 =>
                                  exact jr_var 6
                              case k512_1 =>
                                exact ja_nil
                          case k510_1 =>
                            refine' jg_tup (K := K) ?k517_0
                            case k517_0 =>
                              refine' jgs_cons ?k518_0 ?k518_1
                              case k518_0 =>
                                exact jg_name 8 nd
                              case k518_1 =>
                                refine' jgs_cons ?k519_0 ?k519_1
                                case k519_0 =>
                                  exact jg_name 9 nd
                                case k519_1 =>
                                  exact jgs_nil
                          case k510_2 =>
                            refine' jss_one ?k520_0
                            case k520_0 =>
                              refine' js_if ?k521_0 ?k521_1 ?k521_2
                              case k521_0 =>
                                refine' jb_eq (K := K) hr.units ?k522_0 ?k522_1
                                case k522_0 =>
                                  refine' jr_of ?k523_0
                                  case k523_0 =>
                                    refine' je_ix (K := K) ?k524_0 ?k524_1
                                    case k524_0 =>
                                      exact jr_var 9
                                    case k524_1 =>
                                      refine' jr_of ?k525_0
                                      case k525_0 =>
                                        exact je_int
                                case k522_1 =>
                                  refine' jr_of ?k526_0
                                  case k526_0 =>
                                    refine' je_add (K := K) ?k527_0 ?k527_1
                                    case k527_0 =>
                                      refine' jr_of ?k528_0
                                      case k528_0 =>
                                        exact je_str
                                    case k527_1 =>
                                      refine' jr_of ?k529_0
                                      case k529_0 =>
                                        refine' je_ct call_str_int ok_str PyProof.Rows.boot_str nm.str ?k530_0
                                        case k530_0 =>
                                          refine' jar_cons ?k531_0 ?k531_1
                                          case k531_0 =>
                                            exact jr_var 2
                                          case k531_1 =>
                                            exact jar_nil
                              case k521_1 =>
                                refine' jss_one ?k532_0
                                case k532_0 =>
                                  refine' js_append (K := K) 1 ?k533_0
                                  case k533_0 =>
                                    refine' je_add (K := K) ?k534_0 ?k534_1
                                    case k534_0 =>
                                      exact jr_var 5
                                    case k534_1 =>
                                      refine' jr_of ?k535_0
                                      case k535_0 =>
                                        refine' je_tup ?k536_0
                                        case k536_0 =>
                                          refine' ja_cons ?k537_0 ?k537_1
                                          case k537_0 =>
                                            refine' je_tup ?k538_0
                                            case k538_0 =>
                                              refine' ja_cons ?k539_0 ?k539_1
                                              case k539_0 =>
                                                exact je_var 6
                                              case k539_1 =>
                                                refine' ja_cons ?k540_0 ?k540_1
                                                case k540_0 =>
                                                  exact je_var 8
                                                case k540_1 =>
                                                  exact ja_nil
                                          case k537_1 =>
                                            exact ja_nil
                              case k521_2 =>
                                refine' jss_one ?k541_0
                                case k541_0 =>
                                  refine' js_if ?k542_0 ?k542_1 ?k542_2
                                  case k542_0 =>
                                    refine' jb_w ?k543_0
                                    case k543_0 =>
                                      refine' jw_and ?k544_0 ?k544_1
                                      case k544_0 =>
                                        refine' jb_eq (K := K) hr.units ?k545_0 ?k545_1
                                        case k545_0 =>
                                          refine' jr_of ?k546_0
                                          case k546_0 =>
                                            refine' je_ix (K := K) ?k547_0 ?k547_1
                                            case k547_0 =>
                                              refine' jr_of ?k548_0
                                              case k548_0 =>
                                                refine' je_ix (K := K) ?k549_0 ?k549_1
                                                case k549_0 =>
                                                  exact jr_var 9
                                                case k549_1 =>
                                                  refine' jr_of ?k550_0
                                                  case k550_0 =>
                                                    exact je_int
                                            case k547_1 =>
                                              refine' jr_of ?k551_0
                                              case k551_0 =>
                                                exact je_int
                                        case k545_1 =>
                                          refine' jr_of ?k552_0
                                          case k552_0 =>
                                            exact je_str
                                      case k544_1 =>
                                        refine' jw_and ?k553_0 ?k553_1
                                        case k553_0 =>
                                          refine' jb_gt ?k554_0 ?k554_1
                                          case k554_0 =>
                                            refine' jr_of ?k555_0
                                            case k555_0 =>
                                              refine' je_ct call_intA ok_int PyProof.Rows.boot_int nm.int ?k556_0
                                              case k556_0 =>
                                                refine' jar_cons ?k557_0 ?k557_1
                                                case k557_0 =>
                                                  refine' jr_of ?k558_0
                                                  case k558_0 =>
                                                    refine' je_sl (K := K) ?k559_0 ?k559_1 ?k559_2
                                                    case k559_0 =>
                                                      refine' jr_of ?k560_0
                                                      case k560_0 =>
                                                        refine' je_ix (K := K) ?k561_0 ?k561_1
                                                        case k561_0 =>
                                                          exact jr_var 9
                                                        case k561_1 =>
                                                          refine' jr_of ?k562_0
                                                          case k562_0 =>
                                                            exact je_int
                                                    case k559_1 =>
                                                      refine' jo_some ?k563_0
                                                      case k563_0 =>
                                                        exact je_int
                                                    case k559_2 =>
                                                      exact jo_none
                                                case k557_1 =>
                                                  exact jar_nil
                                          case k554_1 =>
                                            exact jr_var 2
                                        case k553_1 =>
                                          refine' jw_and1 ?k564_0
                                          case k564_0 =>
                                            refine' jb_notin (K := K) hr.units ?k565_0 ?k565_1
                                            case k565_0 =>
                                              refine' jr_of ?k566_0
                                              case k566_0 =>
                                                refine' je_ct call_intA ok_int PyProof.Rows.boot_int nm.int ?k567_0
                                                case k567_0 =>
                                                  refine' jar_cons ?k568_0 ?k568_1
                                                  case k568_0 =>
                                                    refine' jr_of ?k569_0
                                                    case k569_0 =>
                                                      refine' je_sl (K := K) ?k570_0 ?k570_1 ?k570_2
                                                      case k570_0 =>
                                                        refine' jr_of ?k571_0
                                                        case k571_0 =>
                                                          refine' je_ix (K := K) ?k572_0 ?k572_1
                                                          case k572_0 =>
                                                            exact jr_var 9
                                                          case k572_1 =>
                                                            refine' jr_of ?k573_0
                                                            case k573_0 =>
                                                              exact je_int
                                                      case k570_1 =>
                                                        refine' jo_some ?k574_0
                                                        case k574_0 =>
                                                          exact je_int
                                                      case k570_2 =>
                                                        exact jo_none
                                                  case k568_1 =>
                                                    exact jar_nil
                                            case k565_1 =>
                                              exact jr_var 7
                                  case k542_1 =>
                                    refine' jss_one ?k575_0
                                    case k575_0 =>
                                      refine' js_append (K := K) 4 ?k576_0
                                      case k576_0 =>
                                        refine' je_tup ?k577_0
                                        case k577_0 =>
                                          refine' ja_cons ?k578_0 ?k578_1
                                          case k578_0 =>
                                            refine' je_add (K := K) ?k579_0 ?k579_1
                                            case k579_0 =>
                                              exact jr_var 5
                                            case k579_1 =>
                                              refine' jr_of ?k580_0
                                              case k580_0 =>
                                                refine' je_tup ?k581_0
                                                case k581_0 =>
                                                  refine' ja_cons ?k582_0 ?k582_1
                                                  case k582_0 =>
                                                    refine' je_tup ?k583_0
                                                    case k583_0 =>
                                                      refine' ja_cons ?k584_0 ?k584_1
                                                      case k584_0 =>
                                                        exact je_var 6
                                                      case k584_1 =>
                                                        refine' ja_cons ?k585_0 ?k585_1
                                                        case k585_0 =>
                                                          exact je_var 8
                                                        case k585_1 =>
                                                          exact ja_nil
                                                  case k582_1 =>
                                                    exact ja_nil
                                          case k578_1 =>
                                            refine' ja_cons ?k586_0 ?k586_1
                                            case k586_0 =>
                                              refine' je_ct call_intA ok_int PyProof.Rows.boot_int nm.int ?k587_0
                                              case k587_0 =>
                                                refine' jar_cons ?k588_0 ?k588_1
                                                case k588_0 =>
                                                  refine' jr_of ?k589_0
                                                  case k589_0 =>
                                                    refine' je_sl (K := K) ?k590_0 ?k590_1 ?k590_2
                                                    case k590_0 =>
                                                      refine' jr_of ?k591_0
                                                      case k591_0 =>
                                                        refine' je_ix (K := K) ?k592_0 ?k592_1
                                                        case k592_0 =>
                                                          exact jr_var 9
                                                        case k592_1 =>
                                                          refine' jr_of ?k593_0
                                                          case k593_0 =>
                                                            exact je_int
                                                    case k590_1 =>
                                                      refine' jo_some ?k594_0
                                                      case k594_0 =>
                                                        exact je_int
                                                    case k590_2 =>
                                                      exact jo_none
                                                case k588_1 =>
                                                  exact jar_nil
                                            case k586_1 =>
                                              exact ja_nil
                                  case k542_2 =>
                                    exact jss_nil
                  case k489_1 =>
                    refine' jss_one ?k595_0
                    case k595_0 =>
                      refine' js_set 3 nd ?k596_0
                      case k596_0 =>
                        exact je_var 4
      case k462_1 =>
        refine' jss_one ?k597_0
        case k597_0 =>
          refine' js_ret ?k598_0
          case k598_0 =>
            refine' je_of ?k599_0
            case k599_0 =>
              refine' jf_cb (cK_sort (K := K) rfl hr.units) okF_sort PyProof.Rows.boot_sorted nm.sorted ?k600_0
              case k600_0 =>
                refine' jar_cons ?k601_0 ?k601_1
                case k601_0 =>
                  exact jr_var 1
                case k601_1 =>
                  exact jar_nil


/-! ### is_whole -/
abbrev s_is_whole : Stmt := top 22
theorem sc_is_whole : FnScope ["value", "low", "high"] ["value", "low", "high"] (defScope s_is_whole) := ⟨rfl, rfl, rfl, by decide +kernel, rfl, by decide +kernel, by decide +kernel⟩
theorem ok_is_whole {P : Program} {w : World} {K : PySem.W.Frag} {mg : Str → Option Value} {base : Heap} {C : Str → Addr} (nm : Nm K mg C) (h : HasF K mg "is_whole" s_is_whole ["value", "low", "high"]) : DefV P w K mg base CX0 C "is_whole" ["value", "low", "high"] 1 g_is_whole := by
  have nd := sc_is_whole.nd
  refine' def_v0 (k := 0) (N := ["value", "low", "high"]) h sc_is_whole ?hb
  intro f cdv A outer s H E hr
  refine' ⟨_, ?hc⟩
  case hc =>
    intro B EX
    refine' jss_one ?k602_0
    case k602_0 =>
      refine' js_ret ?k603_0
      case k603_0 =>
        refine' je_and ?k604_0 ?k604_1
        case k604_0 =>
          refine' je_isi (K := K) tab_int PyProof.Rows.boot_int nm.int nm.isinstance ?k605_0
          case k605_0 =>
            exact jr_var 0
        case k604_1 =>
          refine' je_and ?k606_0 ?k606_1
          case k606_0 =>
            refine' je_not ?k607_0
            case k607_0 =>
              refine' je_isi (K := K) tab_bool PyProof.Rows.boot_bool nm.bool nm.isinstance ?k608_0
              case k608_0 =>
                exact jr_var 0
          case k606_1 =>
            refine' je_one ?k609_0
            case k609_0 =>
              refine' je_chain op_le op_le ok_cmpI ok_cmpI ?k610_0 ?k610_1 ?k610_2
              case k610_0 =>
                exact jr_var 1
              case k610_1 =>
                exact jr_var 0
              case k610_2 =>
                exact jr_var 2


/-! ### is_source -/
abbrev s_is_source : Stmt := top 24
theorem sc_is_source : FnScope ["value", "inputs", "events", "at"] ["value", "inputs", "events"] (defScope s_is_source) := ⟨rfl, rfl, rfl, by decide +kernel, rfl, by decide +kernel, by decide +kernel⟩
theorem ok_is_source {P : Program} {w : World} {K : PySem.W.Frag} {mg : Str → Option Value} {base : Heap} {C : Str → Addr} (nm : Nm K mg C) (h : HasF K mg "is_source" s_is_source ["value", "inputs", "events"]) : DefV P w K mg base CX0 C "is_source" ["value", "inputs", "events"] 1 g_is_source := by
  have nd := sc_is_source.nd
  refine' def_v0 (k := 0) (N := ["value", "inputs", "events", "at"]) h sc_is_source ?hb
  intro f cdv A outer s H E hr
  refine' ⟨_, ?hc⟩
  case hc =>
    intro B EX
    refine' jss_cons ?k611_0 ?k611_1
    case k611_0 =>
      refine' js_if ?k612_0 ?k612_1 ?k612_2
      case k612_0 =>
        refine' jb_not ?k613_0
        case k613_0 =>
          refine' jb_val ?k614_0
          case k614_0 =>
            refine' je_isi (K := K) tab_str PyProof.Rows.boot_str nm.str nm.isinstance ?k615_0
            case k615_0 =>
              exact jr_var 0
      case k612_1 =>
        refine' jss_one ?k616_0
        case k616_0 =>
          refine' js_ret ?k617_0
          case k617_0 =>
            exact je_bl
      case k612_2 =>
        exact jss_nil
    case k611_1 =>
      refine' jss_one ?k618_0
      case k618_0 =>
        refine' js_ret ?k619_0
        case k619_0 =>
          refine' je_or ?k620_0 ?k620_1
          case k620_0 =>
            refine' je_eq (K := K) hr.units ?k621_0 ?k621_1
            case k621_0 =>
              exact jr_var 0
            case k621_1 =>
              refine' jr_of ?k622_0
              case k622_0 =>
                exact je_str
          case k620_1 =>
            refine' je_one ?k623_0
            case k623_0 =>
              refine' je_in (K := K) hr.units ?k624_0 ?k624_1
              case k624_0 =>
                exact jr_var 0
              case k624_1 =>
                refine' jr_of ?k625_0
                case k625_0 =>
                  refine' je_add (K := K) ?k626_0 ?k626_1
                  case k626_0 =>
                    refine' jr_of ?k627_0
                    case k627_0 =>
                      refine' je_of ?k628_0
                      case k628_0 =>
                        refine' jf_lc (own := [("at", 3)]) (L := [3]) nd (blkOk_by (by kernel_rfl)) ?k629_0 ?k629_1 ?k629_2 ?k629_3
                        case k629_0 =>
                          refine' ji_rng1 nm.range ?k630_0
                          case k630_0 =>
                            refine' ja_cons ?k631_0 ?k631_1
                            case k631_0 =>
                              exact je_var 1
                            case k631_1 =>
                              exact ja_nil
                        case k629_1 =>
                          intro _ _ _ _ _
                          exact jg_name 3 nd
                        case k629_2 =>
                          intro _ _ _ _ _
                          exact jbs_nil
                        case k629_3 =>
                          intro _ _ _ _ _
                          refine' je_add (K := K) ?k632_0 ?k632_1
                          case k632_0 =>
                            refine' jr_of ?k633_0
                            case k633_0 =>
                              exact je_str
                          case k632_1 =>
                            refine' jr_of ?k634_0
                            case k634_0 =>
                              refine' je_ct call_str_int ok_str PyProof.Rows.boot_str nm.str ?k635_0
                              case k635_0 =>
                                refine' jar_cons ?k636_0 ?k636_1
                                case k636_0 =>
                                  exact jr_var 3
                                case k636_1 =>
                                  exact jar_nil
                  case k626_1 =>
                    refine' jr_of ?k637_0
                    case k637_0 =>
                      refine' je_of ?k638_0
                      case k638_0 =>
                        refine' jf_lc (own := [("at", 3)]) (L := [3]) nd (blkOk_by (by kernel_rfl)) ?k639_0 ?k639_1 ?k639_2 ?k639_3
                        case k639_0 =>
                          refine' ji_rng1 nm.range ?k640_0
                          case k640_0 =>
                            refine' ja_cons ?k641_0 ?k641_1
                            case k641_0 =>
                              exact je_var 2
                            case k641_1 =>
                              exact ja_nil
                        case k639_1 =>
                          intro _ _ _ _ _
                          exact jg_name 3 nd
                        case k639_2 =>
                          intro _ _ _ _ _
                          exact jbs_nil
                        case k639_3 =>
                          intro _ _ _ _ _
                          refine' je_add (K := K) ?k642_0 ?k642_1
                          case k642_0 =>
                            refine' jr_of ?k643_0
                            case k643_0 =>
                              exact je_str
                          case k642_1 =>
                            refine' jr_of ?k644_0
                            case k644_0 =>
                              refine' je_ct call_str_int ok_str PyProof.Rows.boot_str nm.str ?k645_0
                              case k645_0 =>
                                refine' jar_cons ?k646_0 ?k646_1
                                case k646_0 =>
                                  exact jr_var 3
                                case k646_1 =>
                                  exact jar_nil


/-! ### is_arc -/
abbrev s_is_arc : Stmt := top 25
theorem sc_is_arc : FnScope ["value", "inputs", "events"] ["value", "inputs", "events"] (defScope s_is_arc) := ⟨rfl, rfl, rfl, by decide +kernel, rfl, by decide +kernel, by decide +kernel⟩
theorem ok_is_arc {P : Program} {w : World} {K : PySem.W.Frag} {mg : Str → Option Value} {base : Heap} {C : Str → Addr} (nm : Nm K mg C) (h : HasF K mg "is_arc" s_is_arc ["value", "inputs", "events"]) (D_is_source : DefV P w K mg base CX0 C "is_source" ["value", "inputs", "events"] 1 g_is_source) (D_is_whole : DefV P w K mg base CX0 C "is_whole" ["value", "low", "high"] 1 g_is_whole) : DefV P w K mg base CX0 C "is_arc" ["value", "inputs", "events"] 2 g_is_arc := by
  have nd := sc_is_arc.nd
  refine' def_v0 (k := 1) (N := ["value", "inputs", "events"]) h sc_is_arc ?hb
  intro f cdv A outer s H E hr
  refine' ⟨_, ?hc⟩
  case hc =>
    intro B EX
    refine' jss_cons ?k647_0 ?k647_1
    case k647_0 =>
      refine' js_if ?k648_0 ?k648_1 ?k648_2
      case k648_0 =>
        refine' jb_w ?k649_0
        case k649_0 =>
          refine' jw_or ?k650_0 ?k650_1
          case k650_0 =>
            refine' jb_not ?k651_0
            case k651_0 =>
              refine' jb_val ?k652_0
              case k652_0 =>
                refine' je_isi (K := K) tab_tuple PyProof.Rows.boot_tuple nm.tuple nm.isinstance ?k653_0
                case k653_0 =>
                  exact jr_var 0
          case k650_1 =>
            refine' jw_or ?k654_0 ?k654_1
            case k654_0 =>
              refine' jb_ne (K := K) hr.units ?k655_0 ?k655_1
              case k655_0 =>
                refine' jr_of ?k656_0
                case k656_0 =>
                  refine' je_cb (cK_len (K := K) rfl) okK_len PySem.boot_len nm.len ?k657_0
                  case k657_0 =>
                    refine' jar_cons ?k658_0 ?k658_1
                    case k658_0 =>
                      exact jr_var 0
                    case k658_1 =>
                      exact jar_nil
              case k655_1 =>
                refine' jr_of ?k659_0
                case k659_0 =>
                  exact je_int
            case k654_1 =>
              refine' jw_or1 ?k660_0
              case k660_0 =>
                refine' jb_not ?k661_0
                case k661_0 =>
                  refine' jb_val ?k662_0
                  case k662_0 =>
                    refine' je_call0 D_is_source hr ?k663_0
                    case k663_0 =>
                      refine' ja_cons ?k664_0 ?k664_1
                      case k664_0 =>
                        refine' je_ix (K := K) ?k665_0 ?k665_1
                        case k665_0 =>
                          exact jr_var 0
                        case k665_1 =>
                          refine' jr_of ?k666_0
                          case k666_0 =>
                            exact je_int
                      case k664_1 =>
                        refine' ja_cons ?k667_0 ?k667_1
                        case k667_0 =>
                          exact je_var 1
                        case k667_1 =>
                          refine' ja_cons ?k668_0 ?k668_1
                          case k668_0 =>
                            exact je_var 2
                          case k668_1 =>
                            exact ja_nil
      case k648_1 =>
        refine' jss_one ?k669_0
        case k669_0 =>
          refine' js_ret ?k670_0
          case k670_0 =>
            exact je_bl
      case k648_2 =>
        exact jss_nil
    case k647_1 =>
      refine' jss_one ?k671_0
      case k671_0 =>
        refine' js_ret ?k672_0
        case k672_0 =>
          refine' je_and ?k673_0 ?k673_1
          case k673_0 =>
            refine' je_call0 D_is_whole hr ?k674_0
            case k674_0 =>
              refine' ja_cons ?k675_0 ?k675_1
              case k675_0 =>
                refine' je_ix (K := K) ?k676_0 ?k676_1
                case k676_0 =>
                  exact jr_var 0
                case k676_1 =>
                  refine' jr_of ?k677_0
                  case k677_0 =>
                    exact je_int
              case k675_1 =>
                refine' ja_cons ?k678_0 ?k678_1
                case k678_0 =>
                  exact je_int
                case k678_1 =>
                  refine' ja_cons ?k679_0 ?k679_1
                  case k679_0 =>
                    exact je_int
                  case k679_1 =>
                    exact ja_nil
          case k673_1 =>
            refine' je_one ?k680_0
            case k680_0 =>
              refine' je_call0 D_is_whole hr ?k681_0
              case k681_0 =>
                refine' ja_cons ?k682_0 ?k682_1
                case k682_0 =>
                  refine' je_ix (K := K) ?k683_0 ?k683_1
                  case k683_0 =>
                    exact jr_var 0
                  case k683_1 =>
                    refine' jr_of ?k684_0
                    case k684_0 =>
                      exact je_int
                case k682_1 =>
                  refine' ja_cons ?k685_0 ?k685_1
                  case k685_0 =>
                    exact je_int
                  case k685_1 =>
                    refine' ja_cons ?k686_0 ?k686_1
                    case k686_0 =>
                      exact je_int
                    case k686_1 =>
                      exact ja_nil


/-! ### is_row -/
abbrev s_is_row : Stmt := top 26
theorem sc_is_row : FnScope ["value", "inputs", "events", "one"] ["value", "inputs", "events"] (defScope s_is_row) := ⟨rfl, rfl, rfl, by decide +kernel, rfl, by decide +kernel, by decide +kernel⟩
theorem ok_is_row {P : Program} {w : World} {K : PySem.W.Frag} {mg : Str → Option Value} {base : Heap} {C : Str → Addr} (nm : Nm K mg C) (h : HasF K mg "is_row" s_is_row ["value", "inputs", "events"]) (D_is_arc : DefV P w K mg base CX0 C "is_arc" ["value", "inputs", "events"] 2 g_is_arc) : DefV P w K mg base CX0 C "is_row" ["value", "inputs", "events"] 3 g_is_row := by
  have nd := sc_is_row.nd
  refine' def_v0 (k := 2) (N := ["value", "inputs", "events", "one"]) h sc_is_row ?hb
  intro f cdv A outer s H E hr
  refine' ⟨_, ?hc⟩
  case hc =>
    intro B EX
    refine' jss_one ?k687_0
    case k687_0 =>
      refine' js_ret ?k688_0
      case k688_0 =>
        refine' je_and ?k689_0 ?k689_1
        case k689_0 =>
          refine' je_isi (K := K) tab_tuple PyProof.Rows.boot_tuple nm.tuple nm.isinstance ?k690_0
          case k690_0 =>
            exact jr_var 0
        case k689_1 =>
          refine' je_and ?k691_0 ?k691_1
          case k691_0 =>
            refine' je_le ?k692_0 ?k692_1
            case k692_0 =>
              refine' jr_of ?k693_0
              case k693_0 =>
                refine' je_cb (cK_len (K := K) rfl) okK_len PySem.boot_len nm.len ?k694_0
                case k694_0 =>
                  refine' jar_cons ?k695_0 ?k695_1
                  case k695_0 =>
                    exact jr_var 0
                  case k695_1 =>
                    exact jar_nil
            case k692_1 =>
              refine' jr_of ?k696_0
              case k696_0 =>
                exact je_int
          case k691_1 =>
            refine' je_one ?k697_0
            case k697_0 =>
              refine' je_cb (cK_all (K := K) rfl rfl) ok_all PyProof.Rows.boot_all nm.all ?k698_0
              case k698_0 =>
                refine' jar_cons ?k699_0 ?k699_1
                case k699_0 =>
                  refine' jr_of ?k700_0
                  case k700_0 =>
                    refine' je_of ?k701_0
                    case k701_0 =>
                      refine' jf_lc (own := [("one", 3)]) (L := [3]) nd (blkOk_by (by kernel_rfl)) ?k702_0 ?k702_1 ?k702_2 ?k702_3
                      case k702_0 =>
                        refine' ji_seq (K := K) ?k703_0
                        case k703_0 =>
                          exact je_var 0
                      case k702_1 =>
                        intro _ _ _ _ _
                        exact jg_name 3 nd
                      case k702_2 =>
                        intro _ _ _ _ _
                        exact jbs_nil
                      case k702_3 =>
                        intro _ _ _ _ _
                        refine' je_call0 D_is_arc hr ?k704_0
                        case k704_0 =>
                          refine' ja_cons ?k705_0 ?k705_1
                          case k705_0 =>
                            exact je_var 3
                          case k705_1 =>
                            refine' ja_cons ?k706_0 ?k706_1
                            case k706_0 =>
                              exact je_var 1
                            case k706_1 =>
                              refine' ja_cons ?k707_0 ?k707_1
                              case k707_0 =>
                                exact je_var 2
                              case k707_1 =>
                                exact ja_nil
                case k699_1 =>
                  exact jar_nil


/-! ### is_shaped -/
abbrev s_is_shaped : Stmt := top 27
theorem sc_is_shaped : FnScope ["value", "inputs", "rows", "outputs", "one", "row"] ["value"] (defScope s_is_shaped) := ⟨rfl, rfl, rfl, by decide +kernel, rfl, by decide +kernel, by decide +kernel⟩
theorem ok_is_shaped {P : Program} {w : World} {K : PySem.W.Frag} {mg : Str → Option Value} {base : Heap} {C : Str → Addr} (nm : Nm K mg C) (h : HasF K mg "is_shaped" s_is_shaped ["value"]) (D_is_whole : DefV P w K mg base CX0 C "is_whole" ["value", "low", "high"] 1 g_is_whole) (D_is_row : DefV P w K mg base CX0 C "is_row" ["value", "inputs", "events"] 3 g_is_row) : DefV P w K mg base CX0 C "is_shaped" ["value"] 4 g_is_shaped := by
  have nd := sc_is_shaped.nd
  refine' def_v0 (k := 3) (N := ["value", "inputs", "rows", "outputs", "one", "row"]) h sc_is_shaped ?hb
  intro f cdv A outer s H E hr
  refine' ⟨_, ?hc⟩
  case hc =>
    intro B EX
    refine' jss_cons ?k708_0 ?k708_1
    case k708_0 =>
      refine' js_if ?k709_0 ?k709_1 ?k709_2
      case k709_0 =>
        refine' jb_w ?k710_0
        case k710_0 =>
          refine' jw_or ?k711_0 ?k711_1
          case k711_0 =>
            refine' jb_not ?k712_0
            case k712_0 =>
              refine' jb_val ?k713_0
              case k713_0 =>
                refine' je_isi (K := K) tab_tuple PyProof.Rows.boot_tuple nm.tuple nm.isinstance ?k714_0
                case k714_0 =>
                  exact jr_var 0
          case k711_1 =>
            refine' jw_or ?k715_0 ?k715_1
            case k715_0 =>
              refine' jb_ne (K := K) hr.units ?k716_0 ?k716_1
              case k716_0 =>
                refine' jr_of ?k717_0
                case k717_0 =>
                  refine' je_cb (cK_len (K := K) rfl) okK_len PySem.boot_len nm.len ?k718_0
                  case k718_0 =>
                    refine' jar_cons ?k719_0 ?k719_1
                    case k719_0 =>
                      exact jr_var 0
                    case k719_1 =>
                      exact jar_nil
              case k716_1 =>
                refine' jr_of ?k720_0
                case k720_0 =>
                  exact je_int
            case k715_1 =>
              refine' jw_or1 ?k721_0
              case k721_0 =>
                refine' jb_not ?k722_0
                case k722_0 =>
                  refine' jb_val ?k723_0
                  case k723_0 =>
                    refine' je_call0 D_is_whole hr ?k724_0
                    case k724_0 =>
                      refine' ja_cons ?k725_0 ?k725_1
                      case k725_0 =>
                        refine' je_ix (K := K) ?k726_0 ?k726_1
                        case k726_0 =>
                          exact jr_var 0
                        case k726_1 =>
                          refine' jr_of ?k727_0
                          case k727_0 =>
                            exact je_int
                      case k725_1 =>
                        refine' ja_cons ?k728_0 ?k728_1
                        case k728_0 =>
                          exact je_int
                        case k728_1 =>
                          refine' ja_cons ?k729_0 ?k729_1
                          case k729_0 =>
                            exact je_int
                          case k729_1 =>
                            exact ja_nil
      case k709_1 =>
        refine' jss_one ?k730_0
        case k730_0 =>
          refine' js_ret ?k731_0
          case k731_0 =>
            exact je_bl
      case k709_2 =>
        exact jss_nil
    case k708_1 =>
      refine' jss_cons ?k732_0 ?k732_1
      case k732_0 =>
        refine' js_asg ?k733_0 ?k733_1
        case k733_0 =>
          exact je_var 0
        case k733_1 =>
          refine' jg_tup (K := K) ?k734_0
          case k734_0 =>
            refine' jgs_cons ?k735_0 ?k735_1
            case k735_0 =>
              exact jg_name 1 nd
            case k735_1 =>
              refine' jgs_cons ?k736_0 ?k736_1
              case k736_0 =>
                exact jg_name 2 nd
              case k736_1 =>
                refine' jgs_cons ?k737_0 ?k737_1
                case k737_0 =>
                  exact jg_name 3 nd
                case k737_1 =>
                  exact jgs_nil
      case k732_1 =>
        refine' jss_cons ?k738_0 ?k738_1
        case k738_0 =>
          refine' js_if ?k739_0 ?k739_1 ?k739_2
          case k739_0 =>
            refine' jb_w ?k740_0
            case k740_0 =>
              refine' jw_or ?k741_0 ?k741_1
              case k741_0 =>
                refine' jb_not ?k742_0
                case k742_0 =>
                  refine' jb_val ?k743_0
                  case k743_0 =>
                    refine' je_isi (K := K) tab_tuple PyProof.Rows.boot_tuple nm.tuple nm.isinstance ?k744_0
                    case k744_0 =>
                      exact jr_var 2
              case k741_1 =>
                refine' jw_or1 ?k745_0
                case k745_0 =>
                  refine' jb_not ?k746_0
                  case k746_0 =>
                    refine' jb_chain op_le op_le ok_cmpI ok_cmpI ?k747_0 ?k747_1 ?k747_2
                    case k747_0 =>
                      refine' jr_of ?k748_0
                      case k748_0 =>
                        exact je_int
                    case k747_1 =>
                      refine' jr_of ?k749_0
                      case k749_0 =>
                        refine' je_cb (cK_len (K := K) rfl) okK_len PySem.boot_len nm.len ?k750_0
                        case k750_0 =>
                          refine' jar_cons ?k751_0 ?k751_1
                          case k751_0 =>
                            exact jr_var 2
                          case k751_1 =>
                            exact jar_nil
                    case k747_2 =>
                      refine' jr_of ?k752_0
                      case k752_0 =>
                        exact je_gi nm.MOST_EVENTS
          case k739_1 =>
            refine' jss_one ?k753_0
            case k753_0 =>
              refine' js_ret ?k754_0
              case k754_0 =>
                exact je_bl
          case k739_2 =>
            exact jss_nil
        case k738_1 =>
          refine' jss_cons ?k755_0 ?k755_1
          case k755_0 =>
            refine' js_if ?k756_0 ?k756_1 ?k756_2
            case k756_0 =>
              refine' jb_not ?k757_0
              case k757_0 =>
                refine' jb_val ?k758_0
                case k758_0 =>
                  refine' je_cb (cK_all (K := K) rfl rfl) ok_all PyProof.Rows.boot_all nm.all ?k759_0
                  case k759_0 =>
                    refine' jar_cons ?k760_0 ?k760_1
                    case k760_0 =>
                      refine' jr_of ?k761_0
                      case k761_0 =>
                        refine' je_of ?k762_0
                        case k762_0 =>
                          refine' jf_lc (own := [("row", 5)]) (L := [5]) nd (blkOk_by (by kernel_rfl)) ?k763_0 ?k763_1 ?k763_2 ?k763_3
                          case k763_0 =>
                            refine' ji_seq (K := K) ?k764_0
                            case k764_0 =>
                              exact je_var 2
                          case k763_1 =>
                            intro _ _ _ _ _
                            exact jg_name 5 nd
                          case k763_2 =>
                            intro _ _ _ _ _
                            exact jbs_nil
                          case k763_3 =>
                            intro _ _ _ _ _
                            refine' je_call0 D_is_row hr ?k765_0
                            case k765_0 =>
                              refine' ja_cons ?k766_0 ?k766_1
                              case k766_0 =>
                                exact je_var 5
                              case k766_1 =>
                                refine' ja_cons ?k767_0 ?k767_1
                                case k767_0 =>
                                  exact je_var 1
                                case k767_1 =>
                                  refine' ja_cons ?k768_0 ?k768_1
                                  case k768_0 =>
                                    refine' je_cb (cK_len (K := K) rfl) okK_len PySem.boot_len nm.len ?k769_0
                                    case k769_0 =>
                                      refine' jar_cons ?k770_0 ?k770_1
                                      case k770_0 =>
                                        exact jr_var 2
                                      case k770_1 =>
                                        exact jar_nil
                                  case k768_1 =>
                                    exact ja_nil
                    case k760_1 =>
                      exact jar_nil
            case k756_1 =>
              refine' jss_one ?k771_0
              case k771_0 =>
                refine' js_ret ?k772_0
                case k772_0 =>
                  exact je_bl
            case k756_2 =>
              exact jss_nil
          case k755_1 =>
            refine' jss_cons ?k773_0 ?k773_1
            case k773_0 =>
              refine' js_if ?k774_0 ?k774_1 ?k774_2
              case k774_0 =>
                refine' jb_w ?k775_0
                case k775_0 =>
                  refine' jw_or ?k776_0 ?k776_1
                  case k776_0 =>
                    refine' jb_not ?k777_0
                    case k777_0 =>
                      refine' jb_val ?k778_0
                      case k778_0 =>
                        refine' je_isi (K := K) tab_tuple PyProof.Rows.boot_tuple nm.tuple nm.isinstance ?k779_0
                        case k779_0 =>
                          exact jr_var 3
                  case k776_1 =>
                    refine' jw_or1 ?k780_0
                    case k780_0 =>
                      refine' jb_not ?k781_0
                      case k781_0 =>
                        refine' jb_chain op_le op_le ok_cmpI ok_cmpI ?k782_0 ?k782_1 ?k782_2
                        case k782_0 =>
                          refine' jr_of ?k783_0
                          case k783_0 =>
                            exact je_int
                        case k782_1 =>
                          refine' jr_of ?k784_0
                          case k784_0 =>
                            refine' je_cb (cK_len (K := K) rfl) okK_len PySem.boot_len nm.len ?k785_0
                            case k785_0 =>
                              refine' jar_cons ?k786_0 ?k786_1
                              case k786_0 =>
                                exact jr_var 3
                              case k786_1 =>
                                exact jar_nil
                        case k782_2 =>
                          refine' jr_of ?k787_0
                          case k787_0 =>
                            exact je_int
              case k774_1 =>
                refine' jss_one ?k788_0
                case k788_0 =>
                  refine' js_ret ?k789_0
                  case k789_0 =>
                    exact je_bl
              case k774_2 =>
                exact jss_nil
            case k773_1 =>
              refine' jss_one ?k790_0
              case k790_0 =>
                refine' js_ret ?k791_0
                case k791_0 =>
                  refine' je_cb (cK_all (K := K) rfl rfl) ok_all PyProof.Rows.boot_all nm.all ?k792_0
                  case k792_0 =>
                    refine' jar_cons ?k793_0 ?k793_1
                    case k793_0 =>
                      refine' jr_of ?k794_0
                      case k794_0 =>
                        refine' je_of ?k795_0
                        case k795_0 =>
                          refine' jf_lc (own := [("one", 4)]) (L := [4]) nd (blkOk_by (by kernel_rfl)) ?k796_0 ?k796_1 ?k796_2 ?k796_3
                          case k796_0 =>
                            refine' ji_seq (K := K) ?k797_0
                            case k797_0 =>
                              exact je_var 3
                          case k796_1 =>
                            intro _ _ _ _ _
                            exact jg_name 4 nd
                          case k796_2 =>
                            intro _ _ _ _ _
                            exact jbs_nil
                          case k796_3 =>
                            intro _ _ _ _ _
                            refine' je_call0 D_is_whole hr ?k798_0
                            case k798_0 =>
                              refine' ja_cons ?k799_0 ?k799_1
                              case k799_0 =>
                                exact je_var 4
                              case k799_1 =>
                                refine' ja_cons ?k800_0 ?k800_1
                                case k800_0 =>
                                  exact je_int
                                case k800_1 =>
                                  refine' ja_cons ?k801_0 ?k801_1
                                  case k801_0 =>
                                    refine' je_sub ?k802_0 ?k802_1
                                    case k802_0 =>
                                      refine' jr_of ?k803_0
                                      case k803_0 =>
                                        refine' je_cb (cK_len (K := K) rfl) okK_len PySem.boot_len nm.len ?k804_0
                                        case k804_0 =>
                                          refine' jar_cons ?k805_0 ?k805_1
                                          case k805_0 =>
                                            exact jr_var 2
                                          case k805_1 =>
                                            exact jar_nil
                                    case k802_1 =>
                                      refine' jr_of ?k806_0
                                      case k806_0 =>
                                        exact je_int
                                  case k801_1 =>
                                    exact ja_nil
                    case k793_1 =>
                      exact jar_nil


/-! ### all_back -/
abbrev s_all_back : Stmt := top 30
theorem sc_all_back : FnScope ["rows", "row", "source", "delay", "back"] ["rows"] (defScope s_all_back) := ⟨rfl, rfl, rfl, by decide +kernel, rfl, by decide +kernel, by decide +kernel⟩
theorem ok_all_back {P : Program} {w : World} {K : PySem.W.Frag} {mg : Str → Option Value} {base : Heap} {C : Str → Addr} (nm : Nm K mg C) (h : HasF K mg "all_back" s_all_back ["rows"]) : DefV P w K mg base CX0 C "all_back" ["rows"] 1 g_all_back := by
  have nd := sc_all_back.nd
  refine' def_v0 (k := 0) (N := ["rows", "row", "source", "delay", "back"]) h sc_all_back ?hb
  intro f cdv A outer s H E hr
  refine' ⟨_, ?hc⟩
  case hc =>
    intro B EX
    refine' jss_one ?k807_0
    case k807_0 =>
      refine' js_ret ?k808_0
      case k808_0 =>
        refine' je_cb (cK_sum (K := K) rfl rfl) ok_sum PyProof.Rows.boot_sum nm.sum ?k809_0
        case k809_0 =>
          refine' jar_cons ?k810_0 ?k810_1
          case k810_0 =>
            refine' jr_of ?k811_0
            case k811_0 =>
              refine' je_of ?k812_0
              case k812_0 =>
                refine' jf_lc (own := [("row", 1)]) (L := [1]) nd (blkOk_by (by kernel_rfl)) ?k813_0 ?k813_1 ?k813_2 ?k813_3
                case k813_0 =>
                  refine' ji_seq (K := K) ?k814_0
                  case k814_0 =>
                    exact je_var 0
                case k813_1 =>
                  intro _ _ _ _ _
                  exact jg_name 1 nd
                case k813_2 =>
                  intro _ _ _ _ _
                  exact jbs_nil
                case k813_3 =>
                  intro _ _ _ _ _
                  refine' je_cb (cK_sum (K := K) rfl rfl) ok_sum PyProof.Rows.boot_sum nm.sum ?k815_0
                  case k815_0 =>
                    refine' jar_cons ?k816_0 ?k816_1
                    case k816_0 =>
                      refine' jr_of ?k817_0
                      case k817_0 =>
                        refine' je_of ?k818_0
                        case k818_0 =>
                          refine' jf_lc (own := [("source", 2), ("delay", 3), ("back", 4)]) (L := ([2] ++ ([3] ++ ([4] ++ [])))) nd (blkOk_by (by kernel_rfl)) ?k819_0 ?k819_1 ?k819_2 ?k819_3
                          case k819_0 =>
                            refine' ji_seq (K := K) ?k820_0
                            case k820_0 =>
                              exact je_var 1
                          case k819_1 =>
                            intro _ _ _ _ _
                            refine' jg_tup (K := K) ?k821_0
                            case k821_0 =>
                              refine' jgs_cons ?k822_0 ?k822_1
                              case k822_0 =>
                                exact jg_name 2 nd
                              case k822_1 =>
                                refine' jgs_cons ?k823_0 ?k823_1
                                case k823_0 =>
                                  exact jg_name 3 nd
                                case k823_1 =>
                                  refine' jgs_cons ?k824_0 ?k824_1
                                  case k824_0 =>
                                    exact jg_name 4 nd
                                  case k824_1 =>
                                    exact jgs_nil
                          case k819_2 =>
                            intro _ _ _ _ _
                            exact jbs_nil
                          case k819_3 =>
                            intro _ _ _ _ _
                            exact je_var 4
                    case k816_1 =>
                      exact jar_nil
          case k810_1 =>
            exact jar_nil


/-! ### event_of -/
abbrev s_event_of : Stmt := top 23
theorem sc_event_of : FnScope ["source"] ["source"] (defScope s_event_of) := ⟨rfl, rfl, rfl, by decide +kernel, rfl, by decide +kernel, by decide +kernel⟩
theorem ok_event_of {P : Program} {w : World} {K : PySem.W.Frag} {mg : Str → Option Value} {base : Heap} {C : Str → Addr} (nm : Nm K mg C) (h : HasF K mg "event_of" s_event_of ["source"]) : DefV P w K mg base CX0 C "event_of" ["source"] 1 g_event_of := by
  have nd := sc_event_of.nd
  refine' def_v0 (k := 0) (N := ["source"]) h sc_event_of ?hb
  intro f cdv A outer s H E hr
  refine' ⟨_, ?hc⟩
  case hc =>
    intro B EX
    refine' jss_one ?k825_0
    case k825_0 =>
      refine' js_ret ?k826_0
      case k826_0 =>
        refine' je_if ?k827_0 ?k827_1 ?k827_2
        case k827_0 =>
          refine' jb_eq (K := K) hr.units ?k828_0 ?k828_1
          case k828_0 =>
            refine' jr_of ?k829_0
            case k829_0 =>
              refine' je_ix (K := K) ?k830_0 ?k830_1
              case k830_0 =>
                exact jr_var 0
              case k830_1 =>
                refine' jr_of ?k831_0
                case k831_0 =>
                  exact je_int
          case k828_1 =>
            refine' jr_of ?k832_0
            case k832_0 =>
              exact je_str
        case k827_1 =>
          refine' je_ct call_intA ok_int PyProof.Rows.boot_int nm.int ?k833_0
          case k833_0 =>
            refine' jar_cons ?k834_0 ?k834_1
            case k834_0 =>
              refine' jr_of ?k835_0
              case k835_0 =>
                refine' je_sl (K := K) ?k836_0 ?k836_1 ?k836_2
                case k836_0 =>
                  exact jr_var 0
                case k836_1 =>
                  refine' jo_some ?k837_0
                  case k837_0 =>
                    exact je_int
                case k836_2 =>
                  exact jo_none
            case k834_1 =>
              exact jar_nil
        case k827_2 =>
          exact je_non


/-! ### same_round -/
abbrev s_same_round : Stmt := top 28
theorem sc_same_round : FnScope ["rows", "found", "row", "some", "source", "delay", "back", "one"] ["rows"] (defScope s_same_round) := ⟨rfl, rfl, rfl, by decide +kernel, rfl, by decide +kernel, by decide +kernel⟩
theorem ok_same_round {P : Program} {w : World} {K : PySem.W.Frag} {mg : Str → Option Value} {base : Heap} {C : Str → Addr} (nm : Nm K mg C) (h : HasF K mg "same_round" s_same_round ["rows"]) (D_event_of : DefV P w K mg base CX0 C "event_of" ["source"] 1 g_event_of) : DefV P w K mg base CX0 C "same_round" ["rows"] 2 g_same_round := by
  have nd := sc_same_round.nd
  refine' def_v0 (k := 1) (N := ["rows", "found", "row", "some", "source", "delay", "back", "one"]) h sc_same_round ?hb
  intro f cdv A outer s H E hr
  refine' ⟨_, ?hc⟩
  case hc =>
    intro B EX
    refine' jss_cons ?k838_0 ?k838_1
    case k838_0 =>
      refine' js_own 1 nd ?k839_0
      case k839_0 =>
        refine' jf_lst ?k840_0
        case k840_0 =>
          exact ja_nil
    case k838_1 =>
      refine' jss_cons ?k841_0 ?k841_1
      case k841_0 =>
        refine' js_for PassesOwn.never ?k842_0 ?k842_1 ?k842_2
        case k842_0 =>
          refine' ji_seq (K := K) ?k843_0
          case k843_0 =>
            exact je_var 0
        case k842_1 =>
          exact jg_name 2 nd
        case k842_2 =>
          refine' jss_cons ?k844_0 ?k844_1
          case k844_0 =>
            refine' js_setLc 3 (own := [("source", 4), ("delay", 5), ("back", 6)]) (L := ([4] ++ ([5] ++ ([6] ++ [])))) nd (blkOk_by (by kernel_rfl)) ?k845_0 ?k845_1 ?k845_2 ?k845_3 (sw_true rfl rfl rfl (by kernel_rfl))
            case k845_0 =>
              refine' ji_seq (K := K) ?k846_0
              case k846_0 =>
                exact je_var 2
            case k845_1 =>
              intro _ _ _ _ _
              refine' jg_tup (K := K) ?k847_0
              case k847_0 =>
                refine' jgs_cons ?k848_0 ?k848_1
                case k848_0 =>
                  exact jg_name 4 nd
                case k848_1 =>
                  refine' jgs_cons ?k849_0 ?k849_1
                  case k849_0 =>
                    exact jg_name 5 nd
                  case k849_1 =>
                    refine' jgs_cons ?k850_0 ?k850_1
                    case k850_0 =>
                      exact jg_name 6 nd
                    case k850_1 =>
                      exact jgs_nil
            case k845_2 =>
              intro _ _ _ _ _
              refine' jbs_one ?k851_0
              case k851_0 =>
                refine' jb_eq (K := K) hr.units ?k852_0 ?k852_1
                case k852_0 =>
                  exact jr_var 6
                case k852_1 =>
                  refine' jr_of ?k853_0
                  case k853_0 =>
                    exact je_int
            case k845_3 =>
              intro _ _ _ _ _
              refine' je_call0 D_event_of hr ?k854_0
              case k854_0 =>
                refine' ja_cons ?k855_0 ?k855_1
                case k855_0 =>
                  exact je_var 4
                case k855_1 =>
                  exact ja_nil
          case k844_1 =>
            refine' jss_one ?k856_0
            case k856_0 =>
              refine' js_append (K := K) 1 ?k857_0
              case k857_0 =>
                refine' je_of ?k858_0
                case k858_0 =>
                  refine' jf_lc (own := [("one", 7)]) (L := [7]) nd (blkOk_by (by kernel_rfl)) ?k859_0 ?k859_1 ?k859_2 ?k859_3
                  case k859_0 =>
                    refine' ji_seq (K := K) ?k860_0
                    case k860_0 =>
                      exact je_var 3
                  case k859_1 =>
                    intro _ _ _ _ _
                    exact jg_name 7 nd
                  case k859_2 =>
                    intro _ _ _ _ _
                    refine' jbs_one ?k861_0
                    case k861_0 =>
                      refine' jb_isnot ?k862_0 ?k862_1
                      case k862_0 =>
                        exact jr_var 7
                      case k862_1 =>
                        refine' jr_of ?k863_0
                        case k863_0 =>
                          exact je_non
                  case k859_3 =>
                    intro _ _ _ _ _
                    exact je_var 7
      case k841_1 =>
        refine' jss_one ?k864_0
        case k864_0 =>
          refine' js_ret ?k865_0
          case k865_0 =>
            exact je_var 1


/-! ### order_of -/
abbrev s_order_of : Stmt := top 29
theorem sc_order_of : FnScope ["rows", "waits", "found", "free", "at", "one"] ["rows"] (defScope s_order_of) := ⟨rfl, rfl, rfl, by decide +kernel, rfl, by decide +kernel, by decide +kernel⟩
theorem ok_order_of {P : Program} {w : World} {K : PySem.W.Frag} {mg : Str → Option Value} {base : Heap} {C : Str → Addr} (nm : Nm K mg C) (h : HasF K mg "order_of" s_order_of ["rows"]) (D_same_round : DefV P w K mg base CX0 C "same_round" ["rows"] 2 g_same_round) : DefV P w K mg base CX0 C "order_of" ["rows"] 3 g_order_of := by
  have nd := sc_order_of.nd
  refine' def_v0 (k := 2) (N := ["rows", "waits", "found", "free", "at", "one"]) h sc_order_of ?hb
  intro f cdv A outer s H E hr
  refine' ⟨_, ?hc⟩
  case hc =>
    intro B EX
    refine' jss_cons ?k866_0 ?k866_1
    case k866_0 =>
      refine' js_parT (K := K) (is := [1, 2]) ?k867_0 ?k867_1
      case k867_0 =>
        refine' jam_cons ?k868_0 ?k868_1
        case k868_0 =>
          refine' je_call0 D_same_round hr ?k869_0
          case k869_0 =>
            refine' ja_cons ?k870_0 ?k870_1
            case k870_0 =>
              exact je_var 0
            case k870_1 =>
              exact ja_nil
        case k868_1 =>
          refine' jam_own ?k871_0 ?k871_1
          case k871_0 =>
            refine' jf_lst ?k872_0
            case k872_0 =>
              exact ja_nil
          case k871_1 =>
            exact jam_nil
      case k867_1 =>
        exact (pg_tup rfl (pgs_cons (pg_name (i := 1) nd rfl (by first | exact Or.inl rfl | exact Or.inr rfl)) (pgs_cons (pg_name (i := 2) nd rfl (by first | exact Or.inl rfl | exact Or.inr rfl)) (pgs_nil))))
    case k866_1 =>
      refine' jss_cons ?k873_0 ?k873_1
      case k873_0 =>
        refine' js_while 1000000 PassesOwn.never ?k874_0 ?k874_1
        case k874_0 =>
          refine' jb_lt ?k875_0 ?k875_1
          case k875_0 =>
            refine' jr_of ?k876_0
            case k876_0 =>
              refine' je_cb (cK_len (K := K) rfl) okK_len PySem.boot_len nm.len ?k877_0
              case k877_0 =>
                refine' jar_cons ?k878_0 ?k878_1
                case k878_0 =>
                  exact jr_var 2
                case k878_1 =>
                  exact jar_nil
          case k875_1 =>
            refine' jr_of ?k879_0
            case k879_0 =>
              refine' je_cb (cK_len (K := K) rfl) okK_len PySem.boot_len nm.len ?k880_0
              case k880_0 =>
                refine' jar_cons ?k881_0 ?k881_1
                case k881_0 =>
                  exact jr_var 0
                case k881_1 =>
                  exact jar_nil
        case k874_1 =>
          refine' jss_cons ?k882_0 ?k882_1
          case k882_0 =>
            refine' js_setLc 3 (own := [("at", 4)]) (L := [4]) nd (blkOk_by (by kernel_rfl)) ?k883_0 ?k883_1 ?k883_2 ?k883_3 (sw_true rfl rfl rfl (by kernel_rfl))
            case k883_0 =>
              refine' ji_rng1 nm.range ?k884_0
              case k884_0 =>
                refine' ja_cons ?k885_0 ?k885_1
                case k885_0 =>
                  refine' je_cb (cK_len (K := K) rfl) okK_len PySem.boot_len nm.len ?k886_0
                  case k886_0 =>
                    refine' jar_cons ?k887_0 ?k887_1
                    case k887_0 =>
                      exact jr_var 0
                    case k887_1 =>
                      exact jar_nil
                case k885_1 =>
                  exact ja_nil
            case k883_1 =>
              intro _ _ _ _ _
              exact jg_name 4 nd
            case k883_2 =>
              intro _ _ _ _ _
              refine' jbs_one ?k888_0
              case k888_0 =>
                refine' jb_w ?k889_0
                case k889_0 =>
                  refine' jw_and ?k890_0 ?k890_1
                  case k890_0 =>
                    refine' jb_notin (K := K) hr.units ?k891_0 ?k891_1
                    case k891_0 =>
                      exact jr_var 4
                    case k891_1 =>
                      exact jr_var 2
                  case k890_1 =>
                    refine' jw_and1 ?k892_0
                    case k892_0 =>
                      refine' jb_val ?k893_0
                      case k893_0 =>
                        refine' je_cb (cK_all (K := K) rfl rfl) ok_all PyProof.Rows.boot_all nm.all ?k894_0
                        case k894_0 =>
                          refine' jar_cons ?k895_0 ?k895_1
                          case k895_0 =>
                            refine' jr_of ?k896_0
                            case k896_0 =>
                              refine' je_of ?k897_0
                              case k897_0 =>
                                refine' jf_lc (own := [("one", 5)]) (L := [5]) nd (blkOk_by (by kernel_rfl)) ?k898_0 ?k898_1 ?k898_2 ?k898_3
                                case k898_0 =>
                                  refine' ji_seq (K := K) ?k899_0
                                  case k899_0 =>
                                    refine' je_ix (K := K) ?k900_0 ?k900_1
                                    case k900_0 =>
                                      exact jr_var 1
                                    case k900_1 =>
                                      exact jr_var 4
                                case k898_1 =>
                                  intro _ _ _ _ _
                                  exact jg_name 5 nd
                                case k898_2 =>
                                  intro _ _ _ _ _
                                  exact jbs_nil
                                case k898_3 =>
                                  intro _ _ _ _ _
                                  refine' je_in (K := K) hr.units ?k901_0 ?k901_1
                                  case k901_0 =>
                                    exact jr_var 5
                                  case k901_1 =>
                                    exact jr_var 2
                          case k895_1 =>
                            exact jar_nil
            case k883_3 =>
              intro _ _ _ _ _
              exact je_var 4
          case k882_1 =>
            refine' jss_cons ?k902_0 ?k902_1
            case k902_0 =>
              refine' js_if ?k903_0 ?k903_1 ?k903_2
              case k903_0 =>
                refine' jb_eq (K := K) hr.units ?k904_0 ?k904_1
                case k904_0 =>
                  exact jr_var 3
                case k904_1 =>
                  refine' jr_of ?k905_0
                  case k905_0 =>
                    refine' je_of ?k906_0
                    case k906_0 =>
                      refine' jf_lst ?k907_0
                      case k907_0 =>
                        exact ja_nil
              case k903_1 =>
                refine' jss_one ?k908_0
                case k908_0 =>
                  refine' js_ret ?k909_0
                  case k909_0 =>
                    exact je_non
              case k903_2 =>
                exact jss_nil
            case k902_1 =>
              refine' jss_one ?k910_0
              case k910_0 =>
                refine' js_append (K := K) 2 ?k911_0
                case k911_0 =>
                  refine' je_ix (K := K) ?k912_0 ?k912_1
                  case k912_0 =>
                    exact jr_var 3
                  case k912_1 =>
                    refine' jr_of ?k913_0
                    case k913_0 =>
                      exact je_int
      case k873_1 =>
        refine' jss_one ?k914_0
        case k914_0 =>
          refine' js_ret ?k915_0
          case k915_0 =>
            exact je_var 2


/-! ### is_net -/
abbrev s_is_net : Stmt := top 31
theorem sc_is_net : FnScope ["value"] ["value"] (defScope s_is_net) := ⟨rfl, rfl, rfl, by decide +kernel, rfl, by decide +kernel, by decide +kernel⟩
theorem ok_is_net {P : Program} {w : World} {K : PySem.W.Frag} {mg : Str → Option Value} {base : Heap} {C : Str → Addr} (nm : Nm K mg C) (h : HasF K mg "is_net" s_is_net ["value"]) (D_is_shaped : DefV P w K mg base CX0 C "is_shaped" ["value"] 4 g_is_shaped) (D_all_back : DefV P w K mg base CX0 C "all_back" ["rows"] 1 g_all_back) (D_order_of : DefV P w K mg base CX0 C "order_of" ["rows"] 3 g_order_of) : DefV P w K mg base CX0 C "is_net" ["value"] 5 g_is_net := by
  have nd := sc_is_net.nd
  refine' def_v0 (k := 4) (N := ["value"]) h sc_is_net ?hb
  intro f cdv A outer s H E hr
  refine' ⟨_, ?hc⟩
  case hc =>
    intro B EX
    refine' jss_one ?k916_0
    case k916_0 =>
      refine' js_ret ?k917_0
      case k917_0 =>
        refine' je_and ?k918_0 ?k918_1
        case k918_0 =>
          refine' je_call0 D_is_shaped hr ?k919_0
          case k919_0 =>
            refine' ja_cons ?k920_0 ?k920_1
            case k920_0 =>
              exact je_var 0
            case k920_1 =>
              exact ja_nil
        case k918_1 =>
          refine' je_and ?k921_0 ?k921_1
          case k921_0 =>
            refine' je_le ?k922_0 ?k922_1
            case k922_0 =>
              refine' jr_of ?k923_0
              case k923_0 =>
                refine' je_call0 D_all_back hr ?k924_0
                case k924_0 =>
                  refine' ja_cons ?k925_0 ?k925_1
                  case k925_0 =>
                    refine' je_ix (K := K) ?k926_0 ?k926_1
                    case k926_0 =>
                      exact jr_var 0
                    case k926_1 =>
                      refine' jr_of ?k927_0
                      case k927_0 =>
                        exact je_int
                  case k925_1 =>
                    exact ja_nil
            case k922_1 =>
              refine' jr_of ?k928_0
              case k928_0 =>
                exact je_gi nm.MOST_BACK
          case k921_1 =>
            refine' je_one ?k929_0
            case k929_0 =>
              refine' je_isnot ?k930_0 ?k930_1
              case k930_0 =>
                refine' jr_of ?k931_0
                case k931_0 =>
                  refine' je_call0 D_order_of hr ?k932_0
                  case k932_0 =>
                    refine' ja_cons ?k933_0 ?k933_1
                    case k933_0 =>
                      refine' je_ix (K := K) ?k934_0 ?k934_1
                      case k934_0 =>
                        exact jr_var 0
                      case k934_1 =>
                        refine' jr_of ?k935_0
                        case k935_0 =>
                          exact je_int
                    case k933_1 =>
                      exact ja_nil
              case k930_1 =>
                refine' jr_of ?k936_0
                case k936_0 =>
                  exact je_non


/-! ### need_net -/
abbrev s_need_net : Stmt := top 32
theorem sc_need_net : FnScope ["net"] ["net"] (defScope s_need_net) := ⟨rfl, rfl, rfl, by decide +kernel, rfl, by decide +kernel, by decide +kernel⟩
theorem ok_need_net {P : Program} {w : World} {K : PySem.W.Frag} {mg : Str → Option Value} {base : Heap} {C : Str → Addr} (nm : Nm K mg C) (h : HasF K mg "need_net" s_need_net ["net"]) (D_is_net : DefV P w K mg base CX0 C "is_net" ["value"] 5 g_is_net) : DefV P w K mg base (L2N.CX P w) C "need_net" ["net"] 6 g_need_net := by
  have nd := sc_need_net.nd
  refine' def_vX (k := 5) (N := ["net"]) h sc_need_net ?hb
  intro f cdv A outer s H E hr
  refine' ⟨_, ?hc⟩
  case hc =>
    intro B
    refine' jss_one ?k937_0
    case k937_0 =>
      refine' js_if ?k938_0 ?k938_1 ?k938_2
      case k938_0 =>
        refine' jb_not ?k939_0
        case k939_0 =>
          refine' jb_val ?k940_0
          case k940_0 =>
            refine' je_call0 D_is_net hr ?k941_0
            case k941_0 =>
              refine' ja_cons ?k942_0 ?k942_1
              case k942_0 =>
                exact je_var 0
              case k942_1 =>
                exact ja_nil
      case k938_1 =>
        refine' jss_one ?k943_0
        case k943_0 =>
          exact js_raise nm.X_InvalidNet
      case k938_2 =>
        exact jss_nil


/-! ### rings_from -/
abbrev s_rings_from : Stmt := top 36
theorem sc_rings_from : FnScope ["rows", "first", "found", "waiting", "event", "way", "passed", "place", "arc", "source", "one"] ["rows", "first"] (defScope s_rings_from) := ⟨rfl, rfl, rfl, by decide +kernel, rfl, by decide +kernel, by decide +kernel⟩
theorem ok_rings_from {P : Program} {w : World} {K : PySem.W.Frag} {mg : Str → Option Value} {base : Heap} {C : Str → Addr} (nm : Nm K mg C) (h : HasF K mg "rings_from" s_rings_from ["rows", "first"]) (D_event_of : DefV P w K mg base CX0 C "event_of" ["source"] 1 g_event_of) : DefV P w K mg base CX0 C "rings_from" ["rows", "first"] 2 g_rings_from := by
  have nd := sc_rings_from.nd
  refine' def_v0 (k := 1) (N := ["rows", "first", "found", "waiting", "event", "way", "passed", "place", "arc", "source", "one"]) h sc_rings_from ?hb
  intro f cdv A outer s H E hr
  refine' ⟨_, ?hc⟩
  case hc =>
    intro B EX
    refine' jss_cons ?k944_0 ?k944_1
    case k944_0 =>
      refine' js_par2 2 3 nd ?k945_0
      case k945_0 =>
        refine' jam_own ?k946_0 ?k946_1
        case k946_0 =>
          refine' jf_lst ?k947_0
          case k947_0 =>
            exact ja_nil
        case k946_1 =>
          refine' jam_own ?k948_0 ?k948_1
          case k948_0 =>
            refine' jf_lst ?k949_0
            case k949_0 =>
              refine' ja_cons ?k950_0 ?k950_1
              case k950_0 =>
                refine' je_tup ?k951_0
                case k951_0 =>
                  refine' ja_cons ?k952_0 ?k952_1
                  case k952_0 =>
                    exact je_var 1
                  case k952_1 =>
                    refine' ja_cons ?k953_0 ?k953_1
                    case k953_0 =>
                      refine' je_of ?k954_0
                      case k954_0 =>
                        refine' jf_lst ?k955_0
                        case k955_0 =>
                          exact ja_nil
                    case k953_1 =>
                      exact ja_nil
              case k950_1 =>
                exact ja_nil
          case k948_1 =>
            exact jam_nil
    case k944_1 =>
      refine' jss_cons ?k956_0 ?k956_1
      case k956_0 =>
        refine' js_while 1000000 PassesOwn.never ?k957_0 ?k957_1
        case k957_0 =>
          refine' jb_ne (K := K) hr.units ?k958_0 ?k958_1
          case k958_0 =>
            exact jr_var 3
          case k958_1 =>
            refine' jr_of ?k959_0
            case k959_0 =>
              refine' je_of ?k960_0
              case k960_0 =>
                refine' jf_lst ?k961_0
                case k961_0 =>
                  exact ja_nil
        case k957_1 =>
          refine' jss_cons ?k962_0 ?k962_1
          case k962_0 =>
            refine' js_asg ?k963_0 ?k963_1
            case k963_0 =>
              exact je_pop (K := K) 3
            case k963_1 =>
              refine' jg_tup (K := K) ?k964_0
              case k964_0 =>
                refine' jgs_cons ?k965_0 ?k965_1
                case k965_0 =>
                  exact jg_name 4 nd
                case k965_1 =>
                  refine' jgs_cons ?k966_0 ?k966_1
                  case k966_0 =>
                    exact jg_name 5 nd
                  case k966_1 =>
                    exact jgs_nil
          case k962_1 =>
            refine' jss_cons ?k967_0 ?k967_1
            case k967_0 =>
              refine' js_setLc 6 (own := [("one", 10), ("place", 7)]) (L := ([10] ++ ([7] ++ []))) nd (blkOk_by (by kernel_rfl)) ?k968_0 ?k968_1 ?k968_2 ?k968_3 (sw_true rfl rfl rfl (by kernel_rfl))
              case k968_0 =>
                refine' ji_seq (K := K) ?k969_0
                case k969_0 =>
                  exact je_var 5
              case k968_1 =>
                intro _ _ _ _ _
                refine' jg_tup (K := K) ?k970_0
                case k970_0 =>
                  refine' jgs_cons ?k971_0 ?k971_1
                  case k971_0 =>
                    exact jg_name 10 nd
                  case k971_1 =>
                    refine' jgs_cons ?k972_0 ?k972_1
                    case k972_0 =>
                      exact jg_name 7 nd
                    case k972_1 =>
                      exact jgs_nil
              case k968_2 =>
                intro _ _ _ _ _
                exact jbs_nil
              case k968_3 =>
                intro _ _ _ _ _
                exact je_var 10
            case k967_1 =>
              refine' jss_one ?k973_0
              case k973_0 =>
                refine' js_for PassesOwn.never ?k974_0 ?k974_1 ?k974_2
                case k974_0 =>
                  refine' ji_enum (K := K) nm.enumerate ?k975_0
                  case k975_0 =>
                    refine' ja_cons ?k976_0 ?k976_1
                    case k976_0 =>
                      refine' je_ix (K := K) ?k977_0 ?k977_1
                      case k977_0 =>
                        exact jr_var 0
                      case k977_1 =>
                        exact jr_var 4
                    case k976_1 =>
                      exact ja_nil
                case k974_1 =>
                  refine' jg_tup (K := K) ?k978_0
                  case k978_0 =>
                    refine' jgs_cons ?k979_0 ?k979_1
                    case k979_0 =>
                      exact jg_name 7 nd
                    case k979_1 =>
                      refine' jgs_cons ?k980_0 ?k980_1
                      case k980_0 =>
                        exact jg_name 8 nd
                      case k980_1 =>
                        exact jgs_nil
                case k974_2 =>
                  refine' jss_cons ?k981_0 ?k981_1
                  case k981_0 =>
                    refine' js_set 9 nd ?k982_0
                    case k982_0 =>
                      refine' je_call0 D_event_of hr ?k983_0
                      case k983_0 =>
                        refine' ja_cons ?k984_0 ?k984_1
                        case k984_0 =>
                          refine' je_ix (K := K) ?k985_0 ?k985_1
                          case k985_0 =>
                            exact jr_var 8
                          case k985_1 =>
                            refine' jr_of ?k986_0
                            case k986_0 =>
                              exact je_int
                        case k984_1 =>
                          exact ja_nil
                  case k981_1 =>
                    refine' jss_one ?k987_0
                    case k987_0 =>
                      refine' js_if ?k988_0 ?k988_1 ?k988_2
                      case k988_0 =>
                        refine' jb_eq (K := K) hr.units ?k989_0 ?k989_1
                        case k989_0 =>
                          exact jr_var 9
                        case k989_1 =>
                          exact jr_var 1
                      case k988_1 =>
                        refine' jss_one ?k990_0
                        case k990_0 =>
                          refine' js_append (K := K) 2 ?k991_0
                          case k991_0 =>
                            refine' je_add (K := K) ?k992_0 ?k992_1
                            case k992_0 =>
                              exact jr_var 5
                            case k992_1 =>
                              refine' jr_of ?k993_0
                              case k993_0 =>
                                refine' je_of ?k994_0
                                case k994_0 =>
                                  refine' jf_lst ?k995_0
                                  case k995_0 =>
                                    refine' ja_cons ?k996_0 ?k996_1
                                    case k996_0 =>
                                      refine' je_tup ?k997_0
                                      case k997_0 =>
                                        refine' ja_cons ?k998_0 ?k998_1
                                        case k998_0 =>
                                          exact je_var 4
                                        case k998_1 =>
                                          refine' ja_cons ?k999_0 ?k999_1
                                          case k999_0 =>
                                            exact je_var 7
                                          case k999_1 =>
                                            exact ja_nil
                                    case k996_1 =>
                                      exact ja_nil
                      case k988_2 =>
                        refine' jss_one ?k1000_0
                        case k1000_0 =>
                          refine' js_if ?k1001_0 ?k1001_1 ?k1001_2
                          case k1001_0 =>
                            refine' jb_w ?k1002_0
                            case k1002_0 =>
                              refine' jw_and ?k1003_0 ?k1003_1
                              case k1003_0 =>
                                refine' jb_isnot ?k1004_0 ?k1004_1
                                case k1004_0 =>
                                  exact jr_var 9
                                case k1004_1 =>
                                  refine' jr_of ?k1005_0
                                  case k1005_0 =>
                                    exact je_non
                              case k1003_1 =>
                                refine' jw_and ?k1006_0 ?k1006_1
                                case k1006_0 =>
                                  refine' jb_gt ?k1007_0 ?k1007_1
                                  case k1007_0 =>
                                    exact jr_var 9
                                  case k1007_1 =>
                                    exact jr_var 1
                                case k1006_1 =>
                                  refine' jw_and ?k1008_0 ?k1008_1
                                  case k1008_0 =>
                                    refine' jb_notin (K := K) hr.units ?k1009_0 ?k1009_1
                                    case k1009_0 =>
                                      exact jr_var 9
                                    case k1009_1 =>
                                      exact jr_var 6
                                  case k1008_1 =>
                                    refine' jw_and1 ?k1010_0
                                    case k1010_0 =>
                                      refine' jb_ne (K := K) hr.units ?k1011_0 ?k1011_1
                                      case k1011_0 =>
                                        exact jr_var 9
                                      case k1011_1 =>
                                        exact jr_var 4
                          case k1001_1 =>
                            refine' jss_one ?k1012_0
                            case k1012_0 =>
                              refine' js_append (K := K) 3 ?k1013_0
                              case k1013_0 =>
                                refine' je_tup ?k1014_0
                                case k1014_0 =>
                                  refine' ja_cons ?k1015_0 ?k1015_1
                                  case k1015_0 =>
                                    exact je_var 9
                                  case k1015_1 =>
                                    refine' ja_cons ?k1016_0 ?k1016_1
                                    case k1016_0 =>
                                      refine' je_add (K := K) ?k1017_0 ?k1017_1
                                      case k1017_0 =>
                                        exact jr_var 5
                                      case k1017_1 =>
                                        refine' jr_of ?k1018_0
                                        case k1018_0 =>
                                          refine' je_of ?k1019_0
                                          case k1019_0 =>
                                            refine' jf_lst ?k1020_0
                                            case k1020_0 =>
                                              refine' ja_cons ?k1021_0 ?k1021_1
                                              case k1021_0 =>
                                                refine' je_tup ?k1022_0
                                                case k1022_0 =>
                                                  refine' ja_cons ?k1023_0 ?k1023_1
                                                  case k1023_0 =>
                                                    exact je_var 4
                                                  case k1023_1 =>
                                                    refine' ja_cons ?k1024_0 ?k1024_1
                                                    case k1024_0 =>
                                                      exact je_var 7
                                                    case k1024_1 =>
                                                      exact ja_nil
                                              case k1021_1 =>
                                                exact ja_nil
                                    case k1016_1 =>
                                      exact ja_nil
                          case k1001_2 =>
                            exact jss_nil
      case k956_1 =>
        refine' jss_one ?k1025_0
        case k1025_0 =>
          refine' js_ret ?k1026_0
          case k1026_0 =>
            exact je_var 2


/-! ### rings_of -/
abbrev s_rings_of : Stmt := top 37
theorem sc_rings_of : FnScope ["rows", "found", "first", "ring"] ["rows"] (defScope s_rings_of) := ⟨rfl, rfl, rfl, by decide +kernel, rfl, by decide +kernel, by decide +kernel⟩
theorem ok_rings_of {P : Program} {w : World} {K : PySem.W.Frag} {mg : Str → Option Value} {base : Heap} {C : Str → Addr} (nm : Nm K mg C) (h : HasF K mg "rings_of" s_rings_of ["rows"]) (D_rings_from : DefV P w K mg base CX0 C "rings_from" ["rows", "first"] 2 g_rings_from) : DefV P w K mg base CX0 C "rings_of" ["rows"] 3 g_rings_of := by
  have nd := sc_rings_of.nd
  refine' def_v0 (k := 2) (N := ["rows", "found", "first", "ring"]) h sc_rings_of ?hb
  intro f cdv A outer s H E hr
  refine' ⟨_, ?hc⟩
  case hc =>
    intro B EX
    refine' jss_cons ?k1027_0 ?k1027_1
    case k1027_0 =>
      refine' js_set 1 nd ?k1028_0
      case k1028_0 =>
        refine' je_of ?k1029_0
        case k1029_0 =>
          refine' jf_lst ?k1030_0
          case k1030_0 =>
            exact ja_nil
    case k1027_1 =>
      refine' jss_cons ?k1031_0 ?k1031_1
      case k1031_0 =>
        refine' js_for PassesOwn.never ?k1032_0 ?k1032_1 ?k1032_2
        case k1032_0 =>
          refine' ji_rng1 nm.range ?k1033_0
          case k1033_0 =>
            refine' ja_cons ?k1034_0 ?k1034_1
            case k1034_0 =>
              refine' je_cb (cK_len (K := K) rfl) okK_len PySem.boot_len nm.len ?k1035_0
              case k1035_0 =>
                refine' jar_cons ?k1036_0 ?k1036_1
                case k1036_0 =>
                  exact jr_var 0
                case k1036_1 =>
                  exact jar_nil
            case k1034_1 =>
              exact ja_nil
        case k1032_1 =>
          exact jg_name 2 nd
        case k1032_2 =>
          refine' jss_one ?k1037_0
          case k1037_0 =>
            refine' js_set 1 nd ?k1038_0
            case k1038_0 =>
              refine' je_add (K := K) ?k1039_0 ?k1039_1
              case k1039_0 =>
                exact jr_var 1
              case k1039_1 =>
                refine' jr_of ?k1040_0
                case k1040_0 =>
                  refine' je_of ?k1041_0
                  case k1041_0 =>
                    refine' jf_lc (own := [("ring", 3)]) (L := [3]) nd (blkOk_by (by kernel_rfl)) ?k1042_0 ?k1042_1 ?k1042_2 ?k1042_3
                    case k1042_0 =>
                      refine' ji_seq (K := K) ?k1043_0
                      case k1043_0 =>
                        refine' je_call0 D_rings_from hr ?k1044_0
                        case k1044_0 =>
                          refine' ja_cons ?k1045_0 ?k1045_1
                          case k1045_0 =>
                            exact je_var 0
                          case k1045_1 =>
                            refine' ja_cons ?k1046_0 ?k1046_1
                            case k1046_0 =>
                              exact je_var 2
                            case k1046_1 =>
                              exact ja_nil
                    case k1042_1 =>
                      intro _ _ _ _ _
                      exact jg_name 3 nd
                    case k1042_2 =>
                      intro _ _ _ _ _
                      exact jbs_nil
                    case k1042_3 =>
                      intro _ _ _ _ _
                      refine' je_ct (cK_tuple (K := K) rfl) okK_tuple PyProof.Rows.boot_tuple nm.tuple ?k1047_0
                      case k1047_0 =>
                        refine' jar_cons ?k1048_0 ?k1048_1
                        case k1048_0 =>
                          exact jr_var 3
                        case k1048_1 =>
                          exact jar_nil
      case k1031_1 =>
        refine' jss_one ?k1049_0
        case k1049_0 =>
          refine' js_ret ?k1050_0
          case k1050_0 =>
            refine' je_of ?k1051_0
            case k1051_0 =>
              refine' jf_cb (cK_sort (K := K) rfl hr.units) okF_sort PyProof.Rows.boot_sorted nm.sorted ?k1052_0
              case k1052_0 =>
                refine' jar_cons ?k1053_0 ?k1053_1
                case k1053_0 =>
                  exact jr_var 1
                case k1053_1 =>
                  exact jar_nil


/-! ### rings -/
abbrev s_rings : Stmt := top 38
theorem sc_rings : FnScope ["net"] ["net"] (defScope s_rings) := ⟨rfl, rfl, rfl, by decide +kernel, rfl, by decide +kernel, by decide +kernel⟩
theorem ok_rings {P : Program} {w : World} {K : PySem.W.Frag} {mg : Str → Option Value} {base : Heap} {C : Str → Addr} (nm : Nm K mg C) (h : HasF K mg "rings" s_rings ["net"]) (D_need_net : DefV P w K mg base (L2N.CX P w) C "need_net" ["net"] 6 g_need_net) (D_rings_of : DefV P w K mg base CX0 C "rings_of" ["rows"] 3 g_rings_of) : DefV P w K mg base (L2N.CX P w) C "rings" ["net"] 7 g_rings := by
  have nd := sc_rings.nd
  refine' def_vX (k := 6) (N := ["net"]) h sc_rings ?hb
  intro f cdv A outer s H E hr
  refine' ⟨_, ?hc⟩
  case hc =>
    intro B
    refine' jss_cons ?k1054_0 ?k1054_1
    case k1054_0 =>
      refine' js_expr ?k1055_0
      case k1055_0 =>
        refine' je_call D_need_net hr ?k1056_0
        case k1056_0 =>
          refine' ja_cons ?k1057_0 ?k1057_1
          case k1057_0 =>
            exact je_var 0
          case k1057_1 =>
            exact ja_nil
    case k1054_1 =>
      refine' jss_one ?k1058_0
      case k1058_0 =>
        refine' js_ret ?k1059_0
        case k1059_0 =>
          refine' je_ct (cK_tuple (K := K) rfl) okK_tuple PyProof.Rows.boot_tuple nm.tuple ?k1060_0
          case k1060_0 =>
            refine' jar_cons ?k1061_0 ?k1061_1
            case k1061_0 =>
              refine' jr_of ?k1062_0
              case k1062_0 =>
                refine' je_call0 D_rings_of hr ?k1063_0
                case k1063_0 =>
                  refine' ja_cons ?k1064_0 ?k1064_1
                  case k1064_0 =>
                    refine' je_ix (K := K) ?k1065_0 ?k1065_1
                    case k1065_0 =>
                      exact jr_var 0
                    case k1065_1 =>
                      refine' jr_of ?k1066_0
                      case k1066_0 =>
                        exact je_int
                  case k1064_1 =>
                    exact ja_nil
            case k1061_1 =>
              exact jar_nil


/-! ### _law_sums -/
abbrev s__law_sums : Stmt := top 57
theorem sc__law_sums : FnScope ["net", "ring", "arcs", "event", "place", "arc"] ["net", "ring"] (defScope s__law_sums) := ⟨rfl, rfl, rfl, by decide +kernel, rfl, by decide +kernel, by decide +kernel⟩
theorem ok__law_sums {P : Program} {w : World} {K : PySem.W.Frag} {mg : Str → Option Value} {base : Heap} {C : Str → Addr} (nm : Nm K mg C) (h : HasF K mg "_law_sums" s__law_sums ["net", "ring"]) : DefV P w K mg base CX0 C "_law_sums" ["net", "ring"] 1 g__law_sums := by
  have nd := sc__law_sums.nd
  refine' def_v0 (k := 0) (N := ["net", "ring", "arcs", "event", "place", "arc"]) h sc__law_sums ?hb
  intro f cdv A outer s H E hr
  refine' ⟨_, ?hc⟩
  case hc =>
    intro B EX
    refine' jss_cons ?k1067_0 ?k1067_1
    case k1067_0 =>
      refine' js_setLc 2 (own := [("event", 3), ("place", 4)]) (L := ([3] ++ ([4] ++ []))) nd (blkOk_by (by kernel_rfl)) ?k1068_0 ?k1068_1 ?k1068_2 ?k1068_3 (sw_true rfl rfl rfl (by kernel_rfl))
      case k1068_0 =>
        refine' ji_seq (K := K) ?k1069_0
        case k1069_0 =>
          exact je_var 1
      case k1068_1 =>
        intro _ _ _ _ _
        refine' jg_tup (K := K) ?k1070_0
        case k1070_0 =>
          refine' jgs_cons ?k1071_0 ?k1071_1
          case k1071_0 =>
            exact jg_name 3 nd
          case k1071_1 =>
            refine' jgs_cons ?k1072_0 ?k1072_1
            case k1072_0 =>
              exact jg_name 4 nd
            case k1072_1 =>
              exact jgs_nil
      case k1068_2 =>
        intro _ _ _ _ _
        exact jbs_nil
      case k1068_3 =>
        intro _ _ _ _ _
        refine' je_ix (K := K) ?k1073_0 ?k1073_1
        case k1073_0 =>
          refine' jr_of ?k1074_0
          case k1074_0 =>
            refine' je_ix (K := K) ?k1075_0 ?k1075_1
            case k1075_0 =>
              refine' jr_of ?k1076_0
              case k1076_0 =>
                refine' je_ix (K := K) ?k1077_0 ?k1077_1
                case k1077_0 =>
                  exact jr_var 0
                case k1077_1 =>
                  refine' jr_of ?k1078_0
                  case k1078_0 =>
                    exact je_int
            case k1075_1 =>
              exact jr_var 3
        case k1073_1 =>
          exact jr_var 4
    case k1067_1 =>
      refine' jss_one ?k1079_0
      case k1079_0 =>
        refine' js_ret ?k1080_0
        case k1080_0 =>
          refine' je_tup ?k1081_0
          case k1081_0 =>
            refine' ja_cons ?k1082_0 ?k1082_1
            case k1082_0 =>
              refine' je_cb (cK_sum (K := K) rfl rfl) ok_sum PyProof.Rows.boot_sum nm.sum ?k1083_0
              case k1083_0 =>
                refine' jar_cons ?k1084_0 ?k1084_1
                case k1084_0 =>
                  refine' jr_of ?k1085_0
                  case k1085_0 =>
                    refine' je_of ?k1086_0
                    case k1086_0 =>
                      refine' jf_lc (own := [("arc", 5)]) (L := [5]) nd (blkOk_by (by kernel_rfl)) ?k1087_0 ?k1087_1 ?k1087_2 ?k1087_3
                      case k1087_0 =>
                        refine' ji_seq (K := K) ?k1088_0
                        case k1088_0 =>
                          exact je_var 2
                      case k1087_1 =>
                        intro _ _ _ _ _
                        exact jg_name 5 nd
                      case k1087_2 =>
                        intro _ _ _ _ _
                        exact jbs_nil
                      case k1087_3 =>
                        intro _ _ _ _ _
                        refine' je_ix (K := K) ?k1089_0 ?k1089_1
                        case k1089_0 =>
                          exact jr_var 5
                        case k1089_1 =>
                          refine' jr_of ?k1090_0
                          case k1090_0 =>
                            exact je_int
                case k1084_1 =>
                  exact jar_nil
            case k1082_1 =>
              refine' ja_cons ?k1091_0 ?k1091_1
              case k1091_0 =>
                refine' je_cb (cK_sum (K := K) rfl rfl) ok_sum PyProof.Rows.boot_sum nm.sum ?k1092_0
                case k1092_0 =>
                  refine' jar_cons ?k1093_0 ?k1093_1
                  case k1093_0 =>
                    refine' jr_of ?k1094_0
                    case k1094_0 =>
                      refine' je_of ?k1095_0
                      case k1095_0 =>
                        refine' jf_lc (own := [("arc", 5)]) (L := [5]) nd (blkOk_by (by kernel_rfl)) ?k1096_0 ?k1096_1 ?k1096_2 ?k1096_3
                        case k1096_0 =>
                          refine' ji_seq (K := K) ?k1097_0
                          case k1097_0 =>
                            exact je_var 2
                        case k1096_1 =>
                          intro _ _ _ _ _
                          exact jg_name 5 nd
                        case k1096_2 =>
                          intro _ _ _ _ _
                          exact jbs_nil
                        case k1096_3 =>
                          intro _ _ _ _ _
                          refine' je_ix (K := K) ?k1098_0 ?k1098_1
                          case k1098_0 =>
                            exact jr_var 5
                          case k1098_1 =>
                            refine' jr_of ?k1099_0
                            case k1099_0 =>
                              exact je_int
                  case k1093_1 =>
                    exact jar_nil
              case k1091_1 =>
                exact ja_nil


/-! ### is_less -/
abbrev s_is_less : Stmt := top 41
theorem sc_is_less : FnScope ["one", "other"] ["one", "other"] (defScope s_is_less) := ⟨rfl, rfl, rfl, by decide +kernel, rfl, by decide +kernel, by decide +kernel⟩
theorem ok_is_less {P : Program} {w : World} {K : PySem.W.Frag} {mg : Str → Option Value} {base : Heap} {C : Str → Addr} (nm : Nm K mg C) (h : HasF K mg "is_less" s_is_less ["one", "other"]) : DefV P w K mg base CX0 C "is_less" ["one", "other"] 1 g_is_less := by
  have nd := sc_is_less.nd
  refine' def_v0 (k := 0) (N := ["one", "other"]) h sc_is_less ?hb
  intro f cdv A outer s H E hr
  refine' ⟨_, ?hc⟩
  case hc =>
    intro B EX
    refine' jss_one ?k1100_0
    case k1100_0 =>
      refine' js_ret ?k1101_0
      case k1101_0 =>
        refine' je_lt ?k1102_0 ?k1102_1
        case k1102_0 =>
          refine' jr_of ?k1103_0
          case k1103_0 =>
            refine' je_mul (K := K) ?k1104_0 ?k1104_1
            case k1104_0 =>
              refine' jr_of ?k1105_0
              case k1105_0 =>
                refine' je_ix (K := K) ?k1106_0 ?k1106_1
                case k1106_0 =>
                  exact jr_var 0
                case k1106_1 =>
                  refine' jr_of ?k1107_0
                  case k1107_0 =>
                    exact je_int
            case k1104_1 =>
              refine' jr_of ?k1108_0
              case k1108_0 =>
                refine' je_ix (K := K) ?k1109_0 ?k1109_1
                case k1109_0 =>
                  exact jr_var 1
                case k1109_1 =>
                  refine' jr_of ?k1110_0
                  case k1110_0 =>
                    exact je_int
        case k1102_1 =>
          refine' jr_of ?k1111_0
          case k1111_0 =>
            refine' je_mul (K := K) ?k1112_0 ?k1112_1
            case k1112_0 =>
              refine' jr_of ?k1113_0
              case k1113_0 =>
                refine' je_ix (K := K) ?k1114_0 ?k1114_1
                case k1114_0 =>
                  exact jr_var 1
                case k1114_1 =>
                  refine' jr_of ?k1115_0
                  case k1115_0 =>
                    exact je_int
            case k1112_1 =>
              refine' jr_of ?k1116_0
              case k1116_0 =>
                refine' je_ix (K := K) ?k1117_0 ?k1117_1
                case k1117_0 =>
                  exact jr_var 0
                case k1117_1 =>
                  refine' jr_of ?k1118_0
                  case k1118_0 =>
                    exact je_int


/-! ### greatest -/
abbrev s_greatest : Stmt := top 42
theorem sc_greatest : FnScope ["fractions", "found", "one"] ["fractions"] (defScope s_greatest) := ⟨rfl, rfl, rfl, by decide +kernel, rfl, by decide +kernel, by decide +kernel⟩
theorem ok_greatest {P : Program} {w : World} {K : PySem.W.Frag} {mg : Str → Option Value} {base : Heap} {C : Str → Addr} (nm : Nm K mg C) (h : HasF K mg "greatest" s_greatest ["fractions"]) (D_is_less : DefV P w K mg base CX0 C "is_less" ["one", "other"] 1 g_is_less) : DefV P w K mg base CX0 C "greatest" ["fractions"] 2 g_greatest := by
  have nd := sc_greatest.nd
  refine' def_v0 (k := 1) (N := ["fractions", "found", "one"]) h sc_greatest ?hb
  intro f cdv A outer s H E hr
  refine' ⟨_, ?hc⟩
  case hc =>
    intro B EX
    refine' jss_cons ?k1119_0 ?k1119_1
    case k1119_0 =>
      refine' js_set 1 nd ?k1120_0
      case k1120_0 =>
        exact je_non
    case k1119_1 =>
      refine' jss_cons ?k1121_0 ?k1121_1
      case k1121_0 =>
        refine' js_for PassesOwn.never ?k1122_0 ?k1122_1 ?k1122_2
        case k1122_0 =>
          refine' ji_seq (K := K) ?k1123_0
          case k1123_0 =>
            exact je_var 0
        case k1122_1 =>
          exact jg_name 2 nd
        case k1122_2 =>
          refine' jss_one ?k1124_0
          case k1124_0 =>
            refine' js_set 1 nd ?k1125_0
            case k1125_0 =>
              refine' je_if ?k1126_0 ?k1126_1 ?k1126_2
              case k1126_0 =>
                refine' jb_w ?k1127_0
                case k1127_0 =>
                  refine' jw_or ?k1128_0 ?k1128_1
                  case k1128_0 =>
                    refine' jb_is ?k1129_0 ?k1129_1
                    case k1129_0 =>
                      exact jr_var 1
                    case k1129_1 =>
                      refine' jr_of ?k1130_0
                      case k1130_0 =>
                        exact je_non
                  case k1128_1 =>
                    refine' jw_or1 ?k1131_0
                    case k1131_0 =>
                      refine' jb_val ?k1132_0
                      case k1132_0 =>
                        refine' je_call0 D_is_less hr ?k1133_0
                        case k1133_0 =>
                          refine' ja_cons ?k1134_0 ?k1134_1
                          case k1134_0 =>
                            exact je_var 1
                          case k1134_1 =>
                            refine' ja_cons ?k1135_0 ?k1135_1
                            case k1135_0 =>
                              exact je_var 2
                            case k1135_1 =>
                              exact ja_nil
              case k1126_1 =>
                exact je_var 2
              case k1126_2 =>
                exact je_var 1
      case k1121_1 =>
        refine' jss_one ?k1136_0
        case k1136_0 =>
          refine' js_ret ?k1137_0
          case k1137_0 =>
            exact je_var 1


/-! ### measure -/
abbrev s_measure : Stmt := top 39
theorem sc_measure : FnScope ["rows", "ring", "arcs", "event", "place", "arc"] ["rows", "ring"] (defScope s_measure) := ⟨rfl, rfl, rfl, by decide +kernel, rfl, by decide +kernel, by decide +kernel⟩
theorem ok_measure {P : Program} {w : World} {K : PySem.W.Frag} {mg : Str → Option Value} {base : Heap} {C : Str → Addr} (nm : Nm K mg C) (h : HasF K mg "measure" s_measure ["rows", "ring"]) : DefV P w K mg base CX0 C "measure" ["rows", "ring"] 1 g_measure := by
  have nd := sc_measure.nd
  refine' def_v0 (k := 0) (N := ["rows", "ring", "arcs", "event", "place", "arc"]) h sc_measure ?hb
  intro f cdv A outer s H E hr
  refine' ⟨_, ?hc⟩
  case hc =>
    intro B EX
    refine' jss_cons ?k1138_0 ?k1138_1
    case k1138_0 =>
      refine' js_setLc 2 (own := [("event", 3), ("place", 4)]) (L := ([3] ++ ([4] ++ []))) nd (blkOk_by (by kernel_rfl)) ?k1139_0 ?k1139_1 ?k1139_2 ?k1139_3 (sw_true rfl rfl rfl (by kernel_rfl))
      case k1139_0 =>
        refine' ji_seq (K := K) ?k1140_0
        case k1140_0 =>
          exact je_var 1
      case k1139_1 =>
        intro _ _ _ _ _
        refine' jg_tup (K := K) ?k1141_0
        case k1141_0 =>
          refine' jgs_cons ?k1142_0 ?k1142_1
          case k1142_0 =>
            exact jg_name 3 nd
          case k1142_1 =>
            refine' jgs_cons ?k1143_0 ?k1143_1
            case k1143_0 =>
              exact jg_name 4 nd
            case k1143_1 =>
              exact jgs_nil
      case k1139_2 =>
        intro _ _ _ _ _
        exact jbs_nil
      case k1139_3 =>
        intro _ _ _ _ _
        refine' je_ix (K := K) ?k1144_0 ?k1144_1
        case k1144_0 =>
          refine' jr_of ?k1145_0
          case k1145_0 =>
            refine' je_ix (K := K) ?k1146_0 ?k1146_1
            case k1146_0 =>
              exact jr_var 0
            case k1146_1 =>
              exact jr_var 3
        case k1144_1 =>
          exact jr_var 4
    case k1138_1 =>
      refine' jss_one ?k1147_0
      case k1147_0 =>
        refine' js_ret ?k1148_0
        case k1148_0 =>
          refine' je_tup ?k1149_0
          case k1149_0 =>
            refine' ja_cons ?k1150_0 ?k1150_1
            case k1150_0 =>
              refine' je_cb (cK_sum (K := K) rfl rfl) ok_sum PyProof.Rows.boot_sum nm.sum ?k1151_0
              case k1151_0 =>
                refine' jar_cons ?k1152_0 ?k1152_1
                case k1152_0 =>
                  refine' jr_of ?k1153_0
                  case k1153_0 =>
                    refine' je_of ?k1154_0
                    case k1154_0 =>
                      refine' jf_lc (own := [("arc", 5)]) (L := [5]) nd (blkOk_by (by kernel_rfl)) ?k1155_0 ?k1155_1 ?k1155_2 ?k1155_3
                      case k1155_0 =>
                        refine' ji_seq (K := K) ?k1156_0
                        case k1156_0 =>
                          exact je_var 2
                      case k1155_1 =>
                        intro _ _ _ _ _
                        exact jg_name 5 nd
                      case k1155_2 =>
                        intro _ _ _ _ _
                        exact jbs_nil
                      case k1155_3 =>
                        intro _ _ _ _ _
                        refine' je_ix (K := K) ?k1157_0 ?k1157_1
                        case k1157_0 =>
                          exact jr_var 5
                        case k1157_1 =>
                          refine' jr_of ?k1158_0
                          case k1158_0 =>
                            exact je_int
                case k1152_1 =>
                  exact jar_nil
            case k1150_1 =>
              refine' ja_cons ?k1159_0 ?k1159_1
              case k1159_0 =>
                refine' je_cb (cK_sum (K := K) rfl rfl) ok_sum PyProof.Rows.boot_sum nm.sum ?k1160_0
                case k1160_0 =>
                  refine' jar_cons ?k1161_0 ?k1161_1
                  case k1161_0 =>
                    refine' jr_of ?k1162_0
                    case k1162_0 =>
                      refine' je_of ?k1163_0
                      case k1163_0 =>
                        refine' jf_lc (own := [("arc", 5)]) (L := [5]) nd (blkOk_by (by kernel_rfl)) ?k1164_0 ?k1164_1 ?k1164_2 ?k1164_3
                        case k1164_0 =>
                          refine' ji_seq (K := K) ?k1165_0
                          case k1165_0 =>
                            exact je_var 2
                        case k1164_1 =>
                          intro _ _ _ _ _
                          exact jg_name 5 nd
                        case k1164_2 =>
                          intro _ _ _ _ _
                          exact jbs_nil
                        case k1164_3 =>
                          intro _ _ _ _ _
                          refine' je_ix (K := K) ?k1166_0 ?k1166_1
                          case k1166_0 =>
                            exact jr_var 5
                          case k1166_1 =>
                            refine' jr_of ?k1167_0
                            case k1167_0 =>
                              exact je_int
                  case k1161_1 =>
                    exact jar_nil
              case k1159_1 =>
                exact ja_nil


/-! ### divisor -/
abbrev s_divisor : Stmt := top 34
theorem sc_divisor : FnScope ["one", "other"] ["one", "other"] (defScope s_divisor) := ⟨rfl, rfl, rfl, by decide +kernel, rfl, by decide +kernel, by decide +kernel⟩
theorem ok_divisor {P : Program} {w : World} {K : PySem.W.Frag} {mg : Str → Option Value} {base : Heap} {C : Str → Addr} (nm : Nm K mg C) (h : HasF K mg "divisor" s_divisor ["one", "other"]) : DefV P w K mg base CX0 C "divisor" ["one", "other"] 1 g_divisor := by
  have nd := sc_divisor.nd
  refine' def_v0 (k := 0) (N := ["one", "other"]) h sc_divisor ?hb
  intro f cdv A outer s H E hr
  refine' ⟨_, ?hc⟩
  case hc =>
    intro B EX
    refine' jss_cons ?k1168_0 ?k1168_1
    case k1168_0 =>
      refine' js_while 1000000 PassesOwn.never ?k1169_0 ?k1169_1
      case k1169_0 =>
        refine' jb_ne (K := K) hr.units ?k1170_0 ?k1170_1
        case k1170_0 =>
          exact jr_var 1
        case k1170_1 =>
          refine' jr_of ?k1171_0
          case k1171_0 =>
            exact je_int
      case k1169_1 =>
        refine' jss_one ?k1172_0
        case k1172_0 =>
          refine' js_par2 0 1 nd ?k1173_0
          case k1173_0 =>
            refine' jam_cons ?k1174_0 ?k1174_1
            case k1174_0 =>
              exact je_var 1
            case k1174_1 =>
              refine' jam_cons ?k1175_0 ?k1175_1
              case k1175_0 =>
                refine' je_mod ?k1176_0 ?k1176_1
                case k1176_0 =>
                  exact jr_var 0
                case k1176_1 =>
                  exact jr_var 1
              case k1175_1 =>
                exact jam_nil
    case k1168_1 =>
      refine' jss_one ?k1177_0
      case k1177_0 =>
        refine' js_ret ?k1178_0
        case k1178_0 =>
          exact je_var 0


/-! ### lowest -/
abbrev s_lowest : Stmt := top 35
theorem sc_lowest : FnScope ["top", "bottom", "common"] ["top", "bottom"] (defScope s_lowest) := ⟨rfl, rfl, rfl, by decide +kernel, rfl, by decide +kernel, by decide +kernel⟩
theorem ok_lowest {P : Program} {w : World} {K : PySem.W.Frag} {mg : Str → Option Value} {base : Heap} {C : Str → Addr} (nm : Nm K mg C) (h : HasF K mg "lowest" s_lowest ["top", "bottom"]) (D_divisor : DefV P w K mg base CX0 C "divisor" ["one", "other"] 1 g_divisor) : DefV P w K mg base CX0 C "lowest" ["top", "bottom"] 2 g_lowest := by
  have nd := sc_lowest.nd
  refine' def_v0 (k := 1) (N := ["top", "bottom", "common"]) h sc_lowest ?hb
  intro f cdv A outer s H E hr
  refine' ⟨_, ?hc⟩
  case hc =>
    intro B EX
    refine' jss_cons ?k1179_0 ?k1179_1
    case k1179_0 =>
      refine' js_set 2 nd ?k1180_0
      case k1180_0 =>
        refine' je_call0 D_divisor hr ?k1181_0
        case k1181_0 =>
          refine' ja_cons ?k1182_0 ?k1182_1
          case k1182_0 =>
            refine' je_cb call_abs ok_abs PyProof.Rows.boot_abs nm.abs ?k1183_0
            case k1183_0 =>
              refine' jar_cons ?k1184_0 ?k1184_1
              case k1184_0 =>
                exact jr_var 0
              case k1184_1 =>
                exact jar_nil
          case k1182_1 =>
            refine' ja_cons ?k1185_0 ?k1185_1
            case k1185_0 =>
              exact je_var 1
            case k1185_1 =>
              exact ja_nil
    case k1179_1 =>
      refine' jss_one ?k1186_0
      case k1186_0 =>
        refine' js_ret ?k1187_0
        case k1187_0 =>
          refine' je_tup ?k1188_0
          case k1188_0 =>
            refine' ja_cons ?k1189_0 ?k1189_1
            case k1189_0 =>
              refine' je_fdiv ?k1190_0 ?k1190_1
              case k1190_0 =>
                exact jr_var 0
              case k1190_1 =>
                exact jr_var 2
            case k1189_1 =>
              refine' ja_cons ?k1191_0 ?k1191_1
              case k1191_0 =>
                refine' je_fdiv ?k1192_0 ?k1192_1
                case k1192_0 =>
                  exact jr_var 1
                case k1192_1 =>
                  exact jr_var 2
              case k1191_1 =>
                exact ja_nil


/-! ### ratio -/
abbrev s_ratio : Stmt := top 40
theorem sc_ratio : FnScope ["rows", "ring", "delay", "back"] ["rows", "ring"] (defScope s_ratio) := ⟨rfl, rfl, rfl, by decide +kernel, rfl, by decide +kernel, by decide +kernel⟩
theorem ok_ratio {P : Program} {w : World} {K : PySem.W.Frag} {mg : Str → Option Value} {base : Heap} {C : Str → Addr} (nm : Nm K mg C) (h : HasF K mg "ratio" s_ratio ["rows", "ring"]) (D_measure : DefV P w K mg base CX0 C "measure" ["rows", "ring"] 1 g_measure) (D_lowest : DefV P w K mg base CX0 C "lowest" ["top", "bottom"] 2 g_lowest) : DefV P w K mg base CX0 C "ratio" ["rows", "ring"] 3 g_ratio := by
  have nd := sc_ratio.nd
  refine' def_v0 (k := 2) (N := ["rows", "ring", "delay", "back"]) h sc_ratio ?hb
  intro f cdv A outer s H E hr
  refine' ⟨_, ?hc⟩
  case hc =>
    intro B EX
    refine' jss_cons ?k1193_0 ?k1193_1
    case k1193_0 =>
      refine' js_asg ?k1194_0 ?k1194_1
      case k1194_0 =>
        refine' je_call0 D_measure hr ?k1195_0
        case k1195_0 =>
          refine' ja_cons ?k1196_0 ?k1196_1
          case k1196_0 =>
            exact je_var 0
          case k1196_1 =>
            refine' ja_cons ?k1197_0 ?k1197_1
            case k1197_0 =>
              exact je_var 1
            case k1197_1 =>
              exact ja_nil
      case k1194_1 =>
        refine' jg_tup (K := K) ?k1198_0
        case k1198_0 =>
          refine' jgs_cons ?k1199_0 ?k1199_1
          case k1199_0 =>
            exact jg_name 2 nd
          case k1199_1 =>
            refine' jgs_cons ?k1200_0 ?k1200_1
            case k1200_0 =>
              exact jg_name 3 nd
            case k1200_1 =>
              exact jgs_nil
    case k1193_1 =>
      refine' jss_one ?k1201_0
      case k1201_0 =>
        refine' js_ret ?k1202_0
        case k1202_0 =>
          refine' je_call0 D_lowest hr ?k1203_0
          case k1203_0 =>
            refine' ja_cons ?k1204_0 ?k1204_1
            case k1204_0 =>
              exact je_var 2
            case k1204_1 =>
              refine' ja_cons ?k1205_0 ?k1205_1
              case k1205_0 =>
                exact je_var 3
              case k1205_1 =>
                exact ja_nil


/-! ### slowest_of -/
abbrev s_slowest_of : Stmt := top 43
theorem sc_slowest_of : FnScope ["rows", "ring"] ["rows"] (defScope s_slowest_of) := ⟨rfl, rfl, rfl, by decide +kernel, rfl, by decide +kernel, by decide +kernel⟩
theorem ok_slowest_of {P : Program} {w : World} {K : PySem.W.Frag} {mg : Str → Option Value} {base : Heap} {C : Str → Addr} (nm : Nm K mg C) (h : HasF K mg "slowest_of" s_slowest_of ["rows"]) (D_greatest : DefV P w K mg base CX0 C "greatest" ["fractions"] 2 g_greatest) (D_rings_of : DefV P w K mg base CX0 C "rings_of" ["rows"] 3 g_rings_of) (D_ratio : DefV P w K mg base CX0 C "ratio" ["rows", "ring"] 3 g_ratio) : DefV P w K mg base CX0 C "slowest_of" ["rows"] 4 g_slowest_of := by
  have nd := sc_slowest_of.nd
  refine' def_v0 (k := 3) (N := ["rows", "ring"]) h sc_slowest_of ?hb
  intro f cdv A outer s H E hr
  refine' ⟨_, ?hc⟩
  case hc =>
    intro B EX
    refine' jss_one ?k1206_0
    case k1206_0 =>
      refine' js_ret ?k1207_0
      case k1207_0 =>
        refine' je_call0 D_greatest hr ?k1208_0
        case k1208_0 =>
          refine' ja_cons ?k1209_0 ?k1209_1
          case k1209_0 =>
            refine' je_of ?k1210_0
            case k1210_0 =>
              refine' jf_lc (own := [("ring", 1)]) (L := [1]) nd (blkOk_by (by kernel_rfl)) ?k1211_0 ?k1211_1 ?k1211_2 ?k1211_3
              case k1211_0 =>
                refine' ji_seq (K := K) ?k1212_0
                case k1212_0 =>
                  refine' je_call0 D_rings_of hr ?k1213_0
                  case k1213_0 =>
                    refine' ja_cons ?k1214_0 ?k1214_1
                    case k1214_0 =>
                      exact je_var 0
                    case k1214_1 =>
                      exact ja_nil
              case k1211_1 =>
                intro _ _ _ _ _
                exact jg_name 1 nd
              case k1211_2 =>
                intro _ _ _ _ _
                exact jbs_nil
              case k1211_3 =>
                intro _ _ _ _ _
                refine' je_call0 D_ratio hr ?k1215_0
                case k1215_0 =>
                  refine' ja_cons ?k1216_0 ?k1216_1
                  case k1216_0 =>
                    exact je_var 0
                  case k1216_1 =>
                    refine' ja_cons ?k1217_0 ?k1217_1
                    case k1217_0 =>
                      exact je_var 1
                    case k1217_1 =>
                      exact ja_nil
          case k1209_1 =>
            exact ja_nil


/-! ### slowest -/
abbrev s_slowest : Stmt := top 44
theorem sc_slowest : FnScope ["net"] ["net"] (defScope s_slowest) := ⟨rfl, rfl, rfl, by decide +kernel, rfl, by decide +kernel, by decide +kernel⟩
theorem ok_slowest {P : Program} {w : World} {K : PySem.W.Frag} {mg : Str → Option Value} {base : Heap} {C : Str → Addr} (nm : Nm K mg C) (h : HasF K mg "slowest" s_slowest ["net"]) (D_need_net : DefV P w K mg base (L2N.CX P w) C "need_net" ["net"] 6 g_need_net) (D_slowest_of : DefV P w K mg base CX0 C "slowest_of" ["rows"] 4 g_slowest_of) : DefV P w K mg base (L2N.CX P w) C "slowest" ["net"] 7 g_slowest := by
  have nd := sc_slowest.nd
  refine' def_vX (k := 6) (N := ["net"]) h sc_slowest ?hb
  intro f cdv A outer s H E hr
  refine' ⟨_, ?hc⟩
  case hc =>
    intro B
    refine' jss_cons ?k1218_0 ?k1218_1
    case k1218_0 =>
      refine' js_expr ?k1219_0
      case k1219_0 =>
        refine' je_call D_need_net hr ?k1220_0
        case k1220_0 =>
          refine' ja_cons ?k1221_0 ?k1221_1
          case k1221_0 =>
            exact je_var 0
          case k1221_1 =>
            exact ja_nil
    case k1218_1 =>
      refine' jss_one ?k1222_0
      case k1222_0 =>
        refine' js_ret ?k1223_0
        case k1223_0 =>
          refine' je_call0 D_slowest_of hr ?k1224_0
          case k1224_0 =>
            refine' ja_cons ?k1225_0 ?k1225_1
            case k1225_0 =>
              refine' je_ix (K := K) ?k1226_0 ?k1226_1
              case k1226_0 =>
                exact jr_var 0
              case k1226_1 =>
                refine' jr_of ?k1227_0
                case k1227_0 =>
                  exact je_int
            case k1225_1 =>
              exact ja_nil


/-! ### slowest_rings -/
abbrev s_slowest_rings : Stmt := top 45
theorem sc_slowest_rings : FnScope ["net", "most", "ring"] ["net"] (defScope s_slowest_rings) := ⟨rfl, rfl, rfl, by decide +kernel, rfl, by decide +kernel, by decide +kernel⟩
theorem ok_slowest_rings {P : Program} {w : World} {K : PySem.W.Frag} {mg : Str → Option Value} {base : Heap} {C : Str → Addr} (nm : Nm K mg C) (h : HasF K mg "slowest_rings" s_slowest_rings ["net"]) (D_need_net : DefV P w K mg base (L2N.CX P w) C "need_net" ["net"] 6 g_need_net) (D_slowest_of : DefV P w K mg base CX0 C "slowest_of" ["rows"] 4 g_slowest_of) (D_rings_of : DefV P w K mg base CX0 C "rings_of" ["rows"] 3 g_rings_of) (D_ratio : DefV P w K mg base CX0 C "ratio" ["rows", "ring"] 3 g_ratio) : DefV P w K mg base (L2N.CX P w) C "slowest_rings" ["net"] 7 g_slowest_rings := by
  have nd := sc_slowest_rings.nd
  refine' def_vX (k := 6) (N := ["net", "most", "ring"]) h sc_slowest_rings ?hb
  intro f cdv A outer s H E hr
  refine' ⟨_, ?hc⟩
  case hc =>
    intro B
    refine' jss_cons ?k1228_0 ?k1228_1
    case k1228_0 =>
      refine' js_expr ?k1229_0
      case k1229_0 =>
        refine' je_call D_need_net hr ?k1230_0
        case k1230_0 =>
          refine' ja_cons ?k1231_0 ?k1231_1
          case k1231_0 =>
            exact je_var 0
          case k1231_1 =>
            exact ja_nil
    case k1228_1 =>
      refine' jss_cons ?k1232_0 ?k1232_1
      case k1232_0 =>
        refine' js_set 1 nd ?k1233_0
        case k1233_0 =>
          refine' je_call0 D_slowest_of hr ?k1234_0
          case k1234_0 =>
            refine' ja_cons ?k1235_0 ?k1235_1
            case k1235_0 =>
              refine' je_ix (K := K) ?k1236_0 ?k1236_1
              case k1236_0 =>
                exact jr_var 0
              case k1236_1 =>
                refine' jr_of ?k1237_0
                case k1237_0 =>
                  exact je_int
            case k1235_1 =>
              exact ja_nil
      case k1232_1 =>
        refine' jss_one ?k1238_0
        case k1238_0 =>
          refine' js_ret ?k1239_0
          case k1239_0 =>
            refine' je_ct (cK_tuple (K := K) rfl) okK_tuple PyProof.Rows.boot_tuple nm.tuple ?k1240_0
            case k1240_0 =>
              refine' jar_cons ?k1241_0 ?k1241_1
              case k1241_0 =>
                refine' jr_of ?k1242_0
                case k1242_0 =>
                  refine' je_of ?k1243_0
                  case k1243_0 =>
                    refine' jf_lc (own := [("ring", 2)]) (L := [2]) nd (blkOk_by (by kernel_rfl)) ?k1244_0 ?k1244_1 ?k1244_2 ?k1244_3
                    case k1244_0 =>
                      refine' ji_seq (K := K) ?k1245_0
                      case k1245_0 =>
                        refine' je_call0 D_rings_of hr ?k1246_0
                        case k1246_0 =>
                          refine' ja_cons ?k1247_0 ?k1247_1
                          case k1247_0 =>
                            refine' je_ix (K := K) ?k1248_0 ?k1248_1
                            case k1248_0 =>
                              exact jr_var 0
                            case k1248_1 =>
                              refine' jr_of ?k1249_0
                              case k1249_0 =>
                                exact je_int
                          case k1247_1 =>
                            exact ja_nil
                    case k1244_1 =>
                      intro _ _ _ _ _
                      exact jg_name 2 nd
                    case k1244_2 =>
                      intro _ _ _ _ _
                      refine' jbs_one ?k1250_0
                      case k1250_0 =>
                        refine' jb_eq (K := K) hr.units ?k1251_0 ?k1251_1
                        case k1251_0 =>
                          refine' jr_of ?k1252_0
                          case k1252_0 =>
                            refine' je_call0 D_ratio hr ?k1253_0
                            case k1253_0 =>
                              refine' ja_cons ?k1254_0 ?k1254_1
                              case k1254_0 =>
                                refine' je_ix (K := K) ?k1255_0 ?k1255_1
                                case k1255_0 =>
                                  exact jr_var 0
                                case k1255_1 =>
                                  refine' jr_of ?k1256_0
                                  case k1256_0 =>
                                    exact je_int
                              case k1254_1 =>
                                refine' ja_cons ?k1257_0 ?k1257_1
                                case k1257_0 =>
                                  exact je_var 2
                                case k1257_1 =>
                                  exact ja_nil
                        case k1251_1 =>
                          exact jr_var 1
                    case k1244_3 =>
                      intro _ _ _ _ _
                      exact je_var 2
              case k1241_1 =>
                exact jar_nil


/-! ### _law_cell, _law_rounds -/
abbrev s__law_cell : Stmt := top 47
abbrev s__law_rounds : Stmt := top 50
theorem sc__law_cell : FnScope ["script", "k"] ["script", "k"] (defScope s__law_cell) := ⟨rfl, rfl, rfl, by decide +kernel, rfl, by decide +kernel, by decide +kernel⟩
theorem sc__law_rounds : FnScope ["script", "most", "k"] ["script", "most"] (defScope s__law_rounds) := ⟨rfl, rfl, rfl, by decide +kernel, rfl, by decide +kernel, by decide +kernel⟩
theorem ok__law_cell {P : Program} {w : World} {K : PySem.W.Frag} {mg : Str → Option Value} {base : Heap} {C : Str → Addr} (nm : Nm K mg C) (h : HasF K mg "_law_cell" s__law_cell ["script", "k"]) : DefS P w K mg base CX0 "_law_cell" ["script", "k"] 1 (spCellS K) := by
  have nd := sc__law_cell.nd
  obtain ⟨f, fd, F, hm, hb⟩ := h
  refine ⟨f, fd, F.ok (k := 0) sc__law_cell (fun vs H Q E h => ?_) (fun cdv A outer s H vs Q E hr h => ⟨tCellS K, PSs.nox ?_, cell_run h⟩), hm, F.kp, hb⟩
  · obtain ⟨a, ns, k, rfl, _⟩ := h
    rfl
  · have j : ∀ B EX, ∃ ff, JSs (cxOf CX0 P w K mg base ["script", "k"] "_law_cell" (defScope s__law_cell) f cdv A outer s H E).nox B EX (defBody s__law_cell) (tCellS K) ff := fun B EX => ⟨_, jss_cons (js_if (jb_eq (K := K) hr.units (jr_var 0) (jr_of (je_of (jf_lst ja_nil)))) (jss_one (js_ret (je_mul (K := K) (jr_var 1) (jr_of je_int)))) jss_nil)
        (jss_one (js_ret (je_add (K := K) (jr_of (je_ix (K := K) (jr_var 0) (jr_of (je_mod (jr_var 1) (jr_of (je_cb (cK_len (K := K) rfl) okK_len PySem.boot_len nm.len (jar_cons (jr_var 0) jar_nil))))))) (jr_of (je_mul (K := K) (jr_of (je_fdiv (jr_var 1) (jr_of (je_cb (cK_len (K := K) rfl) okK_len PySem.boot_len nm.len (jar_cons (jr_var 0) jar_nil))))) (jr_of je_int))))))⟩
    obtain ⟨_, q⟩ := j ⟨H, H, [], [], []⟩ EX0
    exact q.p
theorem ok__law_rounds {P : Program} {w : World} {K : PySem.W.Frag} {mg : Str → Option Value} {base : Heap} {C : Str → Addr} (nm : Nm K mg C) (h : HasF K mg "_law_rounds" s__law_rounds ["script", "most"]) (D : DefS P w K mg base CX0 "_law_cell" ["script", "k"] 1 (spCellS K)) : DefS P w K mg base CX0 "_law_rounds" ["script", "most"] 2 (spRoundsS K) := by
  have nd := sc__law_rounds.nd
  obtain ⟨f, fd, F, hm, hb⟩ := h
  obtain ⟨f2, fd2, F2, hm2, hk2, hb2⟩ := D
  refine ⟨f, fd, F.ok (k := 1) sc__law_rounds (fun vs H Q E h => ?_) (fun cdv A outer s H vs Q E hr h => ⟨tRoundsS K, PSs.nox ?_, rounds_run h⟩), hm, F.kp, hb⟩
  · obtain ⟨a, ns, k, rfl, _⟩ := h
    rfl
  · refine pss_one (ps_ret (pe_lc (own := [("k", 2)]) rfl nd (pi_range1 rfl nm.range (pa_cons (pe_callB (call_max2 rfl) rfl nm.max PyProof.Rows.boot_max (pa_cons pe_int (pa_cons (pe_callB (call_min2 rfl) rfl nm.min PyProof.Rows.boot_min (pa_cons (pv 1) (pa_cons (pe_callB (cK_len (K := K) rfl) rfl nm.len PySem.boot_len (pa_cons (pv 0) pa_nil)) pa_nil))) pa_nil))) pa_nil)) (blkOk_by (by kernel_rfl)) (fun _ _ _ _ _ => ?_) (fun _ _ _ _ _ => ?_) (fun _ _ _ _ _ => ?_)))
    · exact pg_name (i := 2) nd rfl (by first | exact Or.inl rfl | exact Or.inr rfl)
    · exact pts_nil
    · exact pe_lst (pa_cons (pe_call F2 hr rfl hm2 hk2 hb2 .nil pass0 (pa_cons (pv 0) (pa_cons (pv 2) pa_nil))) (pa_cons pe_int pa_nil))

/-! ### _law_term, _law_told -/
abbrev s__law_term : Stmt := top 51
abbrev s__law_told : Stmt := top 52
def b__law_term (c : Str) : S := sSeq (sOwn (mLst (mCons (mIsE (c == "InvalidNet")) (mCons (mIsE (c == "InvalidStreams")) (mCons (mIsE (c == "InvalidRound")) (mNil))))) 1)
 (sSeq (sOwn (mOp catF (mVarT 1) (mT (mLst (mCons (mIsE (c == "InvalidEvent")) (mCons (mIsE (c == "InvalidInput")) (mCons (mIsE (c == "InvalidArc")) (mNil))))))) 1)
 (sSeq (sOwn (mOp catF (mVarT 1) (mT (mLst (mCons (mIsE (c == "InvalidNumber")) (mCons (mIsE (c == "InvalidForm")) (mCons (mIsE (c == "InvalidStores")) (mNil))))))) 1)
 (sSeq (sOwn (mOp catF (mVarT 1) (mT (mLst (mCons (mIsE (c == "InvalidDues")) (mCons (mIsE (c == "InvalidText")) (mCons (mIsE (c == "Standstill")) (mNil))))))) 1)
 (sSeq (sOwn (mOp catF (mVarT 1) (mT (mLst (mCons (mIsE (c == "NoTime")) (mCons (mIsE (c == "Broken")) (mCons (mIsE (c == "NoFit")) (mCons (mIsE (c == "TooMany")) (mNil)))))))) 1)
 (sSeq (sAppend 1 (mIsE (c == "NothingToUndo")))
 (sSeq (sAsg (mLst (mCons (ret (.str "InvalidNet")) (mCons (ret (.str "InvalidStreams")) (mCons (ret (.str "InvalidRound")) (mCons (ret (.str "InvalidEvent")) (mCons (ret (.str "InvalidInput")) (mCons (ret (.str "InvalidArc")) (mNil)))))))) (hName 2))
 (sSeq (sAsg (mOp addF (mVarT 2) (mT (mLst (mCons (ret (.str "InvalidNumber")) (mCons (ret (.str "InvalidForm")) (mCons (ret (.str "InvalidStores")) (mCons (ret (.str "InvalidDues")) (mCons (ret (.str "InvalidText")) (mCons (ret (.str "Standstill")) (mNil)))))))))) (hName 2))
 (sSeq (sAsg (mOp addF (mVarT 2) (mT (mLst (mCons (ret (.str "NoTime")) (mCons (ret (.str "Broken")) (mCons (ret (.str "NoFit")) (mCons (ret (.str "TooMany")) (mCons (ret (.str "NothingToUndo")) (mNil))))))))) (hName 2))
 (sSeq (sIf (mOr (mTst (mOp neF (mT (mCB sumF (mCons (mT (mLc (mSeqL (mVar 1)) (hName 3) mYes (mCB intF (mCons (mVarT 3) (mNil))) [3])) (mNil)))) (mT (ret (.int 1))))) (mNot (mTst (mIsE true)))) (sRet (mTup (mCons (ret (.str "error")) (mCons (ret (.str "other")) (mNil))))) (sNext))
 (sRet (mTup (mCons (ret (.str "error")) (mCons (mOp ixF (mVarT 2) (mT (mIdx (mVar 1)))) (mNil))))))))))))))
theorem sc__law_term : FnScope ["e", "flags", "kinds", "flag"] ["e"] (defScope s__law_term) := ⟨rfl, rfl, rfl, by decide +kernel, rfl, by decide +kernel, by decide +kernel⟩
theorem told_st : ToldSt s__law_told := ⟨⟨_, _, _, _, _, _, _, _, _, _, rfl⟩, ⟨rfl, rfl, rfl, by decide +kernel, rfl, by decide +kernel, by decide +kernel⟩, rfl, rfl, rfl, rfl⟩
theorem term_val : ∀ c, c ∈ excN → ∃ r, b__law_term c (Cell.va 0 :: List.replicate 3 .no) = .rt (termD c) r := by
  intro c hc
  simp only [excN, List.mem_cons, List.not_mem_nil, or_false] at hc
  rcases hc with rfl | rfl | rfl | rfl | rfl | rfl | rfl | rfl | rfl | rfl | rfl | rfl | rfl | rfl | rfl | rfl | rfl
  all_goals exact outD_rt (by kernel_rfl)
theorem ok__law_term {P : Program} {w : World} {K : PySem.W.Frag} {mg : Str → Option Value} {base : Heap} {C : Str → Addr} (nm : Nm K mg C) (er : ErrF K C) (h : HasF K mg "_law_term" s__law_term ["e"]) : TermDef P w K mg base C excN := by
  have nd := sc__law_term.nd
  obtain ⟨f, fd, F, hm, hbd⟩ := h
  refine' ⟨f, fd, termOk_of (body := b__law_term) F sc__law_term term_val (by decide) ?hb, hm, F.kp, hbd⟩
  intro c cdv A outer s H p hc hot1 hz hr
  have hot : L2H.HotC (ctxT P w K mg base ["e", "flags", "kinds", "flag"] (defScope s__law_term) f cdv A outer s H p) := hotc_T hot1
  have hp : (p.1, p.2) ∈ (ctxT P w K mg base ["e", "flags", "kinds", "flag"] (defScope s__law_term) f cdv A outer s H p).pn := List.mem_singleton.mpr rfl
  have hf : ∃ vs, p.2.data = .fields vs := let ⟨_, vs, h1, _⟩ := hot1; ⟨vs, h1⟩
  refine' ⟨_, ?hc⟩
  case hc =>
    intro B EX hB
    refine' jss_cons ?k1258_0 ?k1258_1
    case k1258_0 =>
      refine' js_own 1 nd ?k1259_0
      case k1259_0 =>
        refine' jf_lst ?k1260_0
        case k1260_0 =>
          refine' ja_cons ?k1261_0 ?k1261_1
          case k1261_0 =>
            exact je_isE hp (er.exc c hc) hz hf hB nm.isinstance nm.X_InvalidNet.g (er.kit c hc "InvalidNet" (by decide))
          case k1261_1 =>
            refine' ja_cons ?k1262_0 ?k1262_1
            case k1262_0 =>
              exact je_isE hp (er.exc c hc) hz hf hB nm.isinstance nm.X_InvalidStreams.g (er.kit c hc "InvalidStreams" (by decide))
            case k1262_1 =>
              refine' ja_cons ?k1263_0 ?k1263_1
              case k1263_0 =>
                exact je_isE hp (er.exc c hc) hz hf hB nm.isinstance nm.X_InvalidRound.g (er.kit c hc "InvalidRound" (by decide))
              case k1263_1 =>
                exact ja_nil
    case k1258_1 =>
      refine' jss_cons ?k1264_0 ?k1264_1
      case k1264_0 =>
        refine' js_own 1 nd ?k1265_0
        case k1265_0 =>
          refine' jf_cat ?k1266_0 ?k1266_1
          case k1266_0 =>
            exact jr_var 1
          case k1266_1 =>
            refine' jr_of ?k1267_0
            case k1267_0 =>
              refine' je_of ?k1268_0
              case k1268_0 =>
                refine' jf_lst ?k1269_0
                case k1269_0 =>
                  refine' ja_cons ?k1270_0 ?k1270_1
                  case k1270_0 =>
                    exact je_isE hp (er.exc c hc) hz hf hB nm.isinstance nm.X_InvalidEvent.g (er.kit c hc "InvalidEvent" (by decide))
                  case k1270_1 =>
                    refine' ja_cons ?k1271_0 ?k1271_1
                    case k1271_0 =>
                      exact je_isE hp (er.exc c hc) hz hf hB nm.isinstance nm.X_InvalidInput.g (er.kit c hc "InvalidInput" (by decide))
                    case k1271_1 =>
                      refine' ja_cons ?k1272_0 ?k1272_1
                      case k1272_0 =>
                        exact je_isE hp (er.exc c hc) hz hf hB nm.isinstance nm.X_InvalidArc.g (er.kit c hc "InvalidArc" (by decide))
                      case k1272_1 =>
                        exact ja_nil
      case k1264_1 =>
        refine' jss_cons ?k1273_0 ?k1273_1
        case k1273_0 =>
          refine' js_own 1 nd ?k1274_0
          case k1274_0 =>
            refine' jf_cat ?k1275_0 ?k1275_1
            case k1275_0 =>
              exact jr_var 1
            case k1275_1 =>
              refine' jr_of ?k1276_0
              case k1276_0 =>
                refine' je_of ?k1277_0
                case k1277_0 =>
                  refine' jf_lst ?k1278_0
                  case k1278_0 =>
                    refine' ja_cons ?k1279_0 ?k1279_1
                    case k1279_0 =>
                      exact je_isE hp (er.exc c hc) hz hf hB nm.isinstance nm.X_InvalidNumber.g (er.kit c hc "InvalidNumber" (by decide))
                    case k1279_1 =>
                      refine' ja_cons ?k1280_0 ?k1280_1
                      case k1280_0 =>
                        exact je_isE hp (er.exc c hc) hz hf hB nm.isinstance nm.X_InvalidForm.g (er.kit c hc "InvalidForm" (by decide))
                      case k1280_1 =>
                        refine' ja_cons ?k1281_0 ?k1281_1
                        case k1281_0 =>
                          exact je_isE hp (er.exc c hc) hz hf hB nm.isinstance nm.X_InvalidStores.g (er.kit c hc "InvalidStores" (by decide))
                        case k1281_1 =>
                          exact ja_nil
        case k1273_1 =>
          refine' jss_cons ?k1282_0 ?k1282_1
          case k1282_0 =>
            refine' js_own 1 nd ?k1283_0
            case k1283_0 =>
              refine' jf_cat ?k1284_0 ?k1284_1
              case k1284_0 =>
                exact jr_var 1
              case k1284_1 =>
                refine' jr_of ?k1285_0
                case k1285_0 =>
                  refine' je_of ?k1286_0
                  case k1286_0 =>
                    refine' jf_lst ?k1287_0
                    case k1287_0 =>
                      refine' ja_cons ?k1288_0 ?k1288_1
                      case k1288_0 =>
                        exact je_isE hp (er.exc c hc) hz hf hB nm.isinstance nm.X_InvalidDues.g (er.kit c hc "InvalidDues" (by decide))
                      case k1288_1 =>
                        refine' ja_cons ?k1289_0 ?k1289_1
                        case k1289_0 =>
                          exact je_isE hp (er.exc c hc) hz hf hB nm.isinstance nm.X_InvalidText.g (er.kit c hc "InvalidText" (by decide))
                        case k1289_1 =>
                          refine' ja_cons ?k1290_0 ?k1290_1
                          case k1290_0 =>
                            exact je_isE hp (er.exc c hc) hz hf hB nm.isinstance nm.X_Standstill.g (er.kit c hc "Standstill" (by decide))
                          case k1290_1 =>
                            exact ja_nil
          case k1282_1 =>
            refine' jss_cons ?k1291_0 ?k1291_1
            case k1291_0 =>
              refine' js_own 1 nd ?k1292_0
              case k1292_0 =>
                refine' jf_cat ?k1293_0 ?k1293_1
                case k1293_0 =>
                  exact jr_var 1
                case k1293_1 =>
                  refine' jr_of ?k1294_0
                  case k1294_0 =>
                    refine' je_of ?k1295_0
                    case k1295_0 =>
                      refine' jf_lst ?k1296_0
                      case k1296_0 =>
                        refine' ja_cons ?k1297_0 ?k1297_1
                        case k1297_0 =>
                          exact je_isE hp (er.exc c hc) hz hf hB nm.isinstance nm.X_NoTime.g (er.kit c hc "NoTime" (by decide))
                        case k1297_1 =>
                          refine' ja_cons ?k1298_0 ?k1298_1
                          case k1298_0 =>
                            exact je_isE hp (er.exc c hc) hz hf hB nm.isinstance nm.X_Broken.g (er.kit c hc "Broken" (by decide))
                          case k1298_1 =>
                            refine' ja_cons ?k1299_0 ?k1299_1
                            case k1299_0 =>
                              exact je_isE hp (er.exc c hc) hz hf hB nm.isinstance nm.X_NoFit.g (er.kit c hc "NoFit" (by decide))
                            case k1299_1 =>
                              refine' ja_cons ?k1300_0 ?k1300_1
                              case k1300_0 =>
                                exact je_isE hp (er.exc c hc) hz hf hB nm.isinstance nm.X_TooMany.g (er.kit c hc "TooMany" (by decide))
                              case k1300_1 =>
                                exact ja_nil
            case k1291_1 =>
              refine' jss_cons ?k1301_0 ?k1301_1
              case k1301_0 =>
                refine' js_append (K := K) 1 ?k1302_0
                case k1302_0 =>
                  exact je_isE hp (er.exc c hc) hz hf hB nm.isinstance nm.X_NothingToUndo.g (er.kit c hc "NothingToUndo" (by decide))
              case k1301_1 =>
                refine' jss_cons ?k1303_0 ?k1303_1
                case k1303_0 =>
                  refine' js_set 2 nd ?k1304_0
                  case k1304_0 =>
                    refine' je_of ?k1305_0
                    case k1305_0 =>
                      refine' jf_lst ?k1306_0
                      case k1306_0 =>
                        refine' ja_cons ?k1307_0 ?k1307_1
                        case k1307_0 =>
                          exact je_str
                        case k1307_1 =>
                          refine' ja_cons ?k1308_0 ?k1308_1
                          case k1308_0 =>
                            exact je_str
                          case k1308_1 =>
                            refine' ja_cons ?k1309_0 ?k1309_1
                            case k1309_0 =>
                              exact je_str
                            case k1309_1 =>
                              refine' ja_cons ?k1310_0 ?k1310_1
                              case k1310_0 =>
                                exact je_str
                              case k1310_1 =>
                                refine' ja_cons ?k1311_0 ?k1311_1
                                case k1311_0 =>
                                  exact je_str
                                case k1311_1 =>
                                  refine' ja_cons ?k1312_0 ?k1312_1
                                  case k1312_0 =>
                                    exact je_str
                                  case k1312_1 =>
                                    exact ja_nil
                case k1303_1 =>
                  refine' jss_cons ?k1313_0 ?k1313_1
                  case k1313_0 =>
                    refine' js_set 2 nd ?k1314_0
                    case k1314_0 =>
                      refine' je_add (K := K) ?k1315_0 ?k1315_1
                      case k1315_0 =>
                        exact jr_var 2
                      case k1315_1 =>
                        refine' jr_of ?k1316_0
                        case k1316_0 =>
                          refine' je_of ?k1317_0
                          case k1317_0 =>
                            refine' jf_lst ?k1318_0
                            case k1318_0 =>
                              refine' ja_cons ?k1319_0 ?k1319_1
                              case k1319_0 =>
                                exact je_str
                              case k1319_1 =>
                                refine' ja_cons ?k1320_0 ?k1320_1
                                case k1320_0 =>
                                  exact je_str
                                case k1320_1 =>
                                  refine' ja_cons ?k1321_0 ?k1321_1
                                  case k1321_0 =>
                                    exact je_str
                                  case k1321_1 =>
                                    refine' ja_cons ?k1322_0 ?k1322_1
                                    case k1322_0 =>
                                      exact je_str
                                    case k1322_1 =>
                                      refine' ja_cons ?k1323_0 ?k1323_1
                                      case k1323_0 =>
                                        exact je_str
                                      case k1323_1 =>
                                        refine' ja_cons ?k1324_0 ?k1324_1
                                        case k1324_0 =>
                                          exact je_str
                                        case k1324_1 =>
                                          exact ja_nil
                  case k1313_1 =>
                    refine' jss_cons ?k1325_0 ?k1325_1
                    case k1325_0 =>
                      refine' js_set 2 nd ?k1326_0
                      case k1326_0 =>
                        refine' je_add (K := K) ?k1327_0 ?k1327_1
                        case k1327_0 =>
                          exact jr_var 2
                        case k1327_1 =>
                          refine' jr_of ?k1328_0
                          case k1328_0 =>
                            refine' je_of ?k1329_0
                            case k1329_0 =>
                              refine' jf_lst ?k1330_0
                              case k1330_0 =>
                                refine' ja_cons ?k1331_0 ?k1331_1
                                case k1331_0 =>
                                  exact je_str
                                case k1331_1 =>
                                  refine' ja_cons ?k1332_0 ?k1332_1
                                  case k1332_0 =>
                                    exact je_str
                                  case k1332_1 =>
                                    refine' ja_cons ?k1333_0 ?k1333_1
                                    case k1333_0 =>
                                      exact je_str
                                    case k1333_1 =>
                                      refine' ja_cons ?k1334_0 ?k1334_1
                                      case k1334_0 =>
                                        exact je_str
                                      case k1334_1 =>
                                        refine' ja_cons ?k1335_0 ?k1335_1
                                        case k1335_0 =>
                                          exact je_str
                                        case k1335_1 =>
                                          exact ja_nil
                    case k1325_1 =>
                      refine' jss_cons ?k1336_0 ?k1336_1
                      case k1336_0 =>
                        refine' js_if ?k1337_0 ?k1337_1 ?k1337_2
                        case k1337_0 =>
                          refine' jb_w ?k1338_0
                          case k1338_0 =>
                            refine' jw_or ?k1339_0 ?k1339_1
                            case k1339_0 =>
                              refine' jb_ne (K := K) hr.units ?k1340_0 ?k1340_1
                              case k1340_0 =>
                                refine' jr_of ?k1341_0
                                case k1341_0 =>
                                  refine' je_cb (cK_sumH (K := K) rfl hot) ok_sum PyProof.Rows.boot_sum nm.sum ?k1342_0
                                  case k1342_0 =>
                                    refine' jar_cons ?k1343_0 ?k1343_1
                                    case k1343_0 =>
                                      refine' jr_of ?k1344_0
                                      case k1344_0 =>
                                        refine' je_of ?k1345_0
                                        case k1345_0 =>
                                          refine' jf_lcH (K := K) (own := [("flag", 3)]) (L := [3]) hot nd (blkOk_by (by kernel_rfl)) ?k1346_0 ?k1346_1 ?k1346_2
                                          case k1346_0 =>
                                            exact je_var 1
                                          case k1346_1 =>
                                            intro _ _ _ _ _
                                            exact jg_name 3 nd
                                          case k1346_2 =>
                                            intro _ _ _ _ _
                                            refine' je_ct call_intA ok_int PyProof.Rows.boot_int nm.int ?k1347_0
                                            case k1347_0 =>
                                              refine' jar_cons ?k1348_0 ?k1348_1
                                              case k1348_0 =>
                                                exact jr_var 3
                                              case k1348_1 =>
                                                exact jar_nil
                                    case k1343_1 =>
                                      exact jar_nil
                              case k1340_1 =>
                                refine' jr_of ?k1349_0
                                case k1349_0 =>
                                  exact je_int
                            case k1339_1 =>
                              refine' jw_or1 ?k1350_0
                              case k1350_0 =>
                                refine' jb_not ?k1351_0
                                case k1351_0 =>
                                  refine' jb_val ?k1352_0
                                  case k1352_0 =>
                                    exact je_isV hp (er.exc c hc) hz hf hB nm.isinstance nm.ValueError (er.val c hc)
                        case k1337_1 =>
                          refine' jss_one ?k1353_0
                          case k1353_0 =>
                            refine' js_ret ?k1354_0
                            case k1354_0 =>
                              refine' je_tup ?k1355_0
                              case k1355_0 =>
                                refine' ja_cons ?k1356_0 ?k1356_1
                                case k1356_0 =>
                                  exact je_str
                                case k1356_1 =>
                                  refine' ja_cons ?k1357_0 ?k1357_1
                                  case k1357_0 =>
                                    exact je_str
                                  case k1357_1 =>
                                    exact ja_nil
                        case k1337_2 =>
                          exact jss_nil
                      case k1336_1 =>
                        refine' jss_one ?k1358_0
                        case k1358_0 =>
                          refine' js_ret ?k1359_0
                          case k1359_0 =>
                            refine' je_tup ?k1360_0
                            case k1360_0 =>
                              refine' ja_cons ?k1361_0 ?k1361_1
                              case k1361_0 =>
                                exact je_str
                              case k1361_1 =>
                                refine' ja_cons ?k1362_0 ?k1362_1
                                case k1362_0 =>
                                  refine' je_ix (K := K) ?k1363_0 ?k1363_1
                                  case k1363_0 =>
                                    exact jr_var 2
                                  case k1363_1 =>
                                    refine' jr_of ?k1364_0
                                    case k1364_0 =>
                                      exact je_idx (K := K) 1
                                case k1362_1 =>
                                  exact ja_nil


abbrev s_law : Stmt := top 58
theorem sc_law : FnScope lawN ["script"] (defScope s_law) := ⟨rfl, rfl, rfl, by decide +kernel, rfl, by decide +kernel, by decide +kernel⟩
abbrev lamQ : Str := (PyProof.Rows.envOfC "law" (defScope s_law) 0 0 .none).qual ++ "<lambda>"
theorem ok_law {P : Program} {w : World} {K : PySem.W.Frag} {mg : Str → Option Value} {base : Heap} {C : Str → Addr} (nm : Nm K mg C) {f : Addr} {fd : FuncData} (F : FnP K "law" s_law f fd) (DR : DefS P w K mg base CX0 "_law_rounds" ["script", "most"] 2 (spRoundsS K)) (D__law_roll : DefB P w K mg base CX0 C "_law_roll" ["dice", "many"] 2 (noEx c__law_roll)) (D__law_net : DefB P w K mg base CX0 C "_law_net" ["dice", "most", "inputs"] 4 (noEx c__law_net)) (D__law_overtaken : DefB P w K mg base CX0 C "_law_overtaken" ["dice"] 4 (noEx c__law_overtaken)) (D__law_rings : DefV P w K mg base CX0 C "_law_rings" ["net"] 1 g__law_rings) (D_rings : DefV P w K mg base (L2N.CX P w) C "rings" ["net"] 7 g_rings) (D__law_sums : DefV P w K mg base CX0 C "_law_sums" ["net", "ring"] 1 g__law_sums) (D_slowest : DefV P w K mg base (L2N.CX P w) C "slowest" ["net"] 7 g_slowest) (D_slowest_rings : DefV P w K mg base (L2N.CX P w) C "slowest_rings" ["net"] 7 g_slowest_rings) (er : ErrF K C) (HT : HasF K mg "_law_told" s__law_told ["deed"]) (TD : TermDef P w K mg base C excN) {c Pt : Addr} (TB : LamX.TabB base mg c Pt) (hcd : fd.code = .ref c) (rk : RoundOk lawN.length b_law) : FnOk P w K mg base (L2N.CX P w) 11 f fd ["script"] (spLawS K [(Pt, lamQ)]) := by
  have nd := sc_law.nd
  obtain ⟨f2, fd2, F2, hm2, hk2, hb2⟩ := DR
  refine law_ok (k := 10) F hcd sc_law (fun vs H Q E h => ?_) (fun A outer s H vs Q E hr h => ?_)
  · obtain ⟨a, ns, rfl, _⟩ := h
    rfl
  · have j : ∃ t, ∀ B : Bd, B.T = [(Pt, lamQ)] → JSs (cxOf (L2N.CX P w) P w K mg base lawN "law" (defScope s_law) f (.ref c) A outer s H E) B (fun c H' => E (.ref (C c)) none H') (forBody (defBody s_law)) t b_law := by
      refine' ⟨_, ?hc⟩
      case hc =>
        intro B hBT
        have c0 : ToldCx (cxOf (L2N.CX P w) P w K mg base lawN "law" (defScope s_law) f (.ref c) A outer s H E) B C s__law_told c Pt := ⟨HT, TD, ⟨_, nm.X_RoundError.g, er.rnd⟩, TB, rfl, hBT⟩
        refine' jss_cons ?k1365_0 ?k1365_1
        case k1365_0 =>
          refine' js_set 2 nd ?k1366_0
          case k1366_0 =>
            refine' je_if ?k1367_0 ?k1367_1 ?k1367_2
            case k1367_0 =>
              refine' jb_gt ?k1368_0 ?k1368_1
              case k1368_0 =>
                refine' jr_of ?k1369_0
                case k1369_0 =>
                  refine' je_callB0 1 D__law_roll hr ?k1370_0
                  case k1370_0 =>
                    refine' ja_cons ?k1371_0 ?k1371_1
                    case k1371_0 =>
                      exact je_int
                    case k1371_1 =>
                      exact ja_nil
              case k1368_1 =>
                refine' jr_of ?k1372_0
                case k1372_0 =>
                  exact je_int
            case k1367_1 =>
              refine' je_callB0 1 D__law_net hr ?k1373_0
              case k1373_0 =>
                refine' ja_cons ?k1374_0 ?k1374_1
                case k1374_0 =>
                  exact je_int
                case k1374_1 =>
                  refine' ja_cons ?k1375_0 ?k1375_1
                  case k1375_0 =>
                    exact je_int
                  case k1375_1 =>
                    exact ja_nil
            case k1367_2 =>
              refine' je_callB0 1 D__law_overtaken hr ?k1376_0
              case k1376_0 =>
                exact ja_nil
        case k1365_1 =>
          refine' jss_cons ?k1377_0 ?k1377_1
          case k1377_0 =>
            refine' js_set 3 nd ?k1378_0
            case k1378_0 =>
              refine' je_call0 D__law_rings hr ?k1379_0
              case k1379_0 =>
                refine' ja_cons ?k1380_0 ?k1380_1
                case k1380_0 =>
                  exact je_var 2
                case k1380_1 =>
                  exact ja_nil
          case k1377_1 =>
            refine' jss_cons ?k1381_0 ?k1381_1
            case k1381_0 =>
              refine' js_if ?k1382_0 ?k1382_1 ?k1382_2
              case k1382_0 =>
                refine' jb_ne (K := K) hr.units ?k1383_0 ?k1383_1
                case k1383_0 =>
                  refine' jr_of ?k1384_0
                  case k1384_0 =>
                    refine' je_call D_rings hr ?k1385_0
                    case k1385_0 =>
                      refine' ja_cons ?k1386_0 ?k1386_1
                      case k1386_0 =>
                        exact je_var 2
                      case k1386_1 =>
                        exact ja_nil
                case k1383_1 =>
                  refine' jr_of ?k1387_0
                  case k1387_0 =>
                    refine' je_ct (cK_tuple (K := K) rfl) okK_tuple PyProof.Rows.boot_tuple nm.tuple ?k1388_0
                    case k1388_0 =>
                      refine' jar_cons ?k1389_0 ?k1389_1
                      case k1389_0 =>
                        exact jr_var 3
                      case k1389_1 =>
                        exact jar_nil
              case k1382_1 =>
                refine' jss_one ?k1390_0
                case k1390_0 =>
                  refine' js_ret ?k1391_0
                  case k1391_0 =>
                    exact je_bl
              case k1382_2 =>
                exact jss_nil
            case k1381_1 =>
              refine' jss_cons ?k1392_0 ?k1392_1
              case k1392_0 =>
                refine' js_set 4 nd ?k1393_0
                case k1393_0 =>
                  exact je_non
              case k1392_1 =>
                refine' jss_cons ?k1394_0 ?k1394_1
                case k1394_0 =>
                  refine' js_for pass_own ?k1395_0 ?k1395_1 ?k1395_2
                  case k1395_0 =>
                    refine' ji_seq (K := K) ?k1396_0
                    case k1396_0 =>
                      exact je_var 3
                  case k1395_1 =>
                    exact jg_name 5 nd
                  case k1395_2 =>
                    refine' jss_cons ?k1397_0 ?k1397_1
                    case k1397_0 =>
                      refine' js_asg ?k1398_0 ?k1398_1
                      case k1398_0 =>
                        refine' je_call0 D__law_sums hr ?k1399_0
                        case k1399_0 =>
                          refine' ja_cons ?k1400_0 ?k1400_1
                          case k1400_0 =>
                            exact je_var 2
                          case k1400_1 =>
                            refine' ja_cons ?k1401_0 ?k1401_1
                            case k1401_0 =>
                              exact je_var 5
                            case k1401_1 =>
                              exact ja_nil
                      case k1398_1 =>
                        refine' jg_tup (K := K) ?k1402_0
                        case k1402_0 =>
                          refine' jgs_cons ?k1403_0 ?k1403_1
                          case k1403_0 =>
                            exact jg_name 7 nd
                          case k1403_1 =>
                            refine' jgs_cons ?k1404_0 ?k1404_1
                            case k1404_0 =>
                              exact jg_name 8 nd
                            case k1404_1 =>
                              exact jgs_nil
                    case k1397_1 =>
                      refine' jss_cons ?k1405_0 ?k1405_1
                      case k1405_0 =>
                        refine' js_if ?k1406_0 ?k1406_1 ?k1406_2
                        case k1406_0 =>
                          refine' jb_lt ?k1407_0 ?k1407_1
                          case k1407_0 =>
                            exact jr_var 8
                          case k1407_1 =>
                            refine' jr_of ?k1408_0
                            case k1408_0 =>
                              exact je_int
                        case k1406_1 =>
                          refine' jss_one ?k1409_0
                          case k1409_0 =>
                            refine' js_ret ?k1410_0
                            case k1410_0 =>
                              exact je_bl
                        case k1406_2 =>
                          exact jss_nil
                      case k1405_1 =>
                        refine' jss_one ?k1411_0
                        case k1411_0 =>
                          refine' js_if ?k1412_0 ?k1412_1 ?k1412_2
                          case k1412_0 =>
                            refine' jb_w ?k1413_0
                            case k1413_0 =>
                              refine' jw_or ?k1414_0 ?k1414_1
                              case k1414_0 =>
                                refine' jb_is ?k1415_0 ?k1415_1
                                case k1415_0 =>
                                  exact jr_var 4
                                case k1415_1 =>
                                  refine' jr_of ?k1416_0
                                  case k1416_0 =>
                                    exact je_non
                              case k1414_1 =>
                                refine' jw_or1 ?k1417_0
                                case k1417_0 =>
                                  refine' jb_gt ?k1418_0 ?k1418_1
                                  case k1418_0 =>
                                    refine' jr_of ?k1419_0
                                    case k1419_0 =>
                                      refine' je_mul (K := K) ?k1420_0 ?k1420_1
                                      case k1420_0 =>
                                        exact jr_var 7
                                      case k1420_1 =>
                                        refine' jr_of ?k1421_0
                                        case k1421_0 =>
                                          refine' je_ix (K := K) ?k1422_0 ?k1422_1
                                          case k1422_0 =>
                                            exact jr_var 4
                                          case k1422_1 =>
                                            refine' jr_of ?k1423_0
                                            case k1423_0 =>
                                              exact je_int
                                  case k1418_1 =>
                                    refine' jr_of ?k1424_0
                                    case k1424_0 =>
                                      refine' je_mul (K := K) ?k1425_0 ?k1425_1
                                      case k1425_0 =>
                                        refine' jr_of ?k1426_0
                                        case k1426_0 =>
                                          refine' je_ix (K := K) ?k1427_0 ?k1427_1
                                          case k1427_0 =>
                                            exact jr_var 4
                                          case k1427_1 =>
                                            refine' jr_of ?k1428_0
                                            case k1428_0 =>
                                              exact je_int
                                      case k1425_1 =>
                                        exact jr_var 8
                          case k1412_1 =>
                            refine' jss_one ?k1429_0
                            case k1429_0 =>
                              refine' js_set 4 nd ?k1430_0
                              case k1430_0 =>
                                refine' je_tup ?k1431_0
                                case k1431_0 =>
                                  refine' ja_cons ?k1432_0 ?k1432_1
                                  case k1432_0 =>
                                    exact je_var 7
                                  case k1432_1 =>
                                    refine' ja_cons ?k1433_0 ?k1433_1
                                    case k1433_0 =>
                                      exact je_var 8
                                    case k1433_1 =>
                                      exact ja_nil
                          case k1412_2 =>
                            exact jss_nil
                case k1394_1 =>
                  refine' jss_cons ?k1434_0 ?k1434_1
                  case k1434_0 =>
                    refine' js_set 6 nd ?k1435_0
                    case k1435_0 =>
                      refine' je_call D_slowest hr ?k1436_0
                      case k1436_0 =>
                        refine' ja_cons ?k1437_0 ?k1437_1
                        case k1437_0 =>
                          exact je_var 2
                        case k1437_1 =>
                          exact ja_nil
                  case k1434_1 =>
                    refine' jss_cons ?k1438_0 ?k1438_1
                    case k1438_0 =>
                      refine' js_if ?k1439_0 ?k1439_1 ?k1439_2
                      case k1439_0 =>
                        refine' jb_ne (K := K) hr.units ?k1440_0 ?k1440_1
                        case k1440_0 =>
                          refine' jr_of ?k1441_0
                          case k1441_0 =>
                            refine' je_is ?k1442_0 ?k1442_1
                            case k1442_0 =>
                              exact jr_var 6
                            case k1442_1 =>
                              refine' jr_of ?k1443_0
                              case k1443_0 =>
                                exact je_non
                        case k1440_1 =>
                          refine' jr_of ?k1444_0
                          case k1444_0 =>
                            refine' je_is ?k1445_0 ?k1445_1
                            case k1445_0 =>
                              exact jr_var 4
                            case k1445_1 =>
                              refine' jr_of ?k1446_0
                              case k1446_0 =>
                                exact je_non
                      case k1439_1 =>
                        refine' jss_one ?k1447_0
                        case k1447_0 =>
                          refine' js_ret ?k1448_0
                          case k1448_0 =>
                            exact je_bl
                      case k1439_2 =>
                        exact jss_nil
                    case k1438_1 =>
                      refine' jss_cons ?k1449_0 ?k1449_1
                      case k1449_0 =>
                        refine' js_if ?k1450_0 ?k1450_1 ?k1450_2
                        case k1450_0 =>
                          refine' jb_isnot ?k1451_0 ?k1451_1
                          case k1451_0 =>
                            exact jr_var 4
                          case k1451_1 =>
                            refine' jr_of ?k1452_0
                            case k1452_0 =>
                              exact je_non
                        case k1450_1 =>
                          refine' jss_cons ?k1453_0 ?k1453_1
                          case k1453_0 =>
                            refine' js_if ?k1454_0 ?k1454_1 ?k1454_2
                            case k1454_0 =>
                              refine' jb_ne (K := K) hr.units ?k1455_0 ?k1455_1
                              case k1455_0 =>
                                refine' jr_of ?k1456_0
                                case k1456_0 =>
                                  refine' je_mul (K := K) ?k1457_0 ?k1457_1
                                  case k1457_0 =>
                                    refine' jr_of ?k1458_0
                                    case k1458_0 =>
                                      refine' je_ix (K := K) ?k1459_0 ?k1459_1
                                      case k1459_0 =>
                                        exact jr_var 6
                                      case k1459_1 =>
                                        refine' jr_of ?k1460_0
                                        case k1460_0 =>
                                          exact je_int
                                  case k1457_1 =>
                                    refine' jr_of ?k1461_0
                                    case k1461_0 =>
                                      refine' je_ix (K := K) ?k1462_0 ?k1462_1
                                      case k1462_0 =>
                                        exact jr_var 4
                                      case k1462_1 =>
                                        refine' jr_of ?k1463_0
                                        case k1463_0 =>
                                          exact je_int
                              case k1455_1 =>
                                refine' jr_of ?k1464_0
                                case k1464_0 =>
                                  refine' je_mul (K := K) ?k1465_0 ?k1465_1
                                  case k1465_0 =>
                                    refine' jr_of ?k1466_0
                                    case k1466_0 =>
                                      refine' je_ix (K := K) ?k1467_0 ?k1467_1
                                      case k1467_0 =>
                                        exact jr_var 4
                                      case k1467_1 =>
                                        refine' jr_of ?k1468_0
                                        case k1468_0 =>
                                          exact je_int
                                  case k1465_1 =>
                                    refine' jr_of ?k1469_0
                                    case k1469_0 =>
                                      refine' je_ix (K := K) ?k1470_0 ?k1470_1
                                      case k1470_0 =>
                                        exact jr_var 6
                                      case k1470_1 =>
                                        refine' jr_of ?k1471_0
                                        case k1471_0 =>
                                          exact je_int
                            case k1454_1 =>
                              refine' jss_one ?k1472_0
                              case k1472_0 =>
                                refine' js_ret ?k1473_0
                                case k1473_0 =>
                                  exact je_bl
                            case k1454_2 =>
                              exact jss_nil
                          case k1453_1 =>
                            refine' jss_cons ?k1474_0 ?k1474_1
                            case k1474_0 =>
                              refine' js_if ?k1475_0 ?k1475_1 ?k1475_2
                              case k1475_0 =>
                                refine' jb_val ?k1476_0
                                case k1476_0 =>
                                  refine' je_cb (cK_any (K := K) rfl rfl) ok_any PyProof.Rows.boot_any nm.any ?k1477_0
                                  case k1477_0 =>
                                    refine' jar_cons ?k1478_0 ?k1478_1
                                    case k1478_0 =>
                                      refine' jr_of ?k1479_0
                                      case k1479_0 =>
                                        refine' je_of ?k1480_0
                                        case k1480_0 =>
                                          refine' jf_lc (own := [("p", 10)]) (L := [10]) nd (blkOk_by (by kernel_rfl)) ?k1481_0 ?k1481_1 ?k1481_2 ?k1481_3
                                          case k1481_0 =>
                                            refine' ji_rng2 nm.range ?k1482_0
                                            case k1482_0 =>
                                              refine' ja_cons ?k1483_0 ?k1483_1
                                              case k1483_0 =>
                                                exact je_int
                                              case k1483_1 =>
                                                refine' ja_cons ?k1484_0 ?k1484_1
                                                case k1484_0 =>
                                                  exact je_int
                                                case k1484_1 =>
                                                  exact ja_nil
                                          case k1481_1 =>
                                            intro _ _ _ _ _
                                            exact jg_name 10 nd
                                          case k1481_2 =>
                                            intro _ _ _ _ _
                                            exact jbs_nil
                                          case k1481_3 =>
                                            intro _ _ _ _ _
                                            refine' je_and ?k1485_0 ?k1485_1
                                            case k1485_0 =>
                                              refine' je_eq (K := K) hr.units ?k1486_0 ?k1486_1
                                              case k1486_0 =>
                                                refine' jr_of ?k1487_0
                                                case k1487_0 =>
                                                  refine' je_mod ?k1488_0 ?k1488_1
                                                  case k1488_0 =>
                                                    refine' jr_of ?k1489_0
                                                    case k1489_0 =>
                                                      refine' je_ix (K := K) ?k1490_0 ?k1490_1
                                                      case k1490_0 =>
                                                        exact jr_var 6
                                                      case k1490_1 =>
                                                        refine' jr_of ?k1491_0
                                                        case k1491_0 =>
                                                          exact je_int
                                                  case k1488_1 =>
                                                    exact jr_var 10
                                              case k1486_1 =>
                                                refine' jr_of ?k1492_0
                                                case k1492_0 =>
                                                  exact je_int
                                            case k1485_1 =>
                                              refine' je_one ?k1493_0
                                              case k1493_0 =>
                                                refine' je_eq (K := K) hr.units ?k1494_0 ?k1494_1
                                                case k1494_0 =>
                                                  refine' jr_of ?k1495_0
                                                  case k1495_0 =>
                                                    refine' je_mod ?k1496_0 ?k1496_1
                                                    case k1496_0 =>
                                                      refine' jr_of ?k1497_0
                                                      case k1497_0 =>
                                                        refine' je_ix (K := K) ?k1498_0 ?k1498_1
                                                        case k1498_0 =>
                                                          exact jr_var 6
                                                        case k1498_1 =>
                                                          refine' jr_of ?k1499_0
                                                          case k1499_0 =>
                                                            exact je_int
                                                    case k1496_1 =>
                                                      exact jr_var 10
                                                case k1494_1 =>
                                                  refine' jr_of ?k1500_0
                                                  case k1500_0 =>
                                                    exact je_int
                                    case k1478_1 =>
                                      exact jar_nil
                              case k1475_1 =>
                                refine' jss_one ?k1501_0
                                case k1501_0 =>
                                  refine' js_ret ?k1502_0
                                  case k1502_0 =>
                                    exact je_bl
                              case k1475_2 =>
                                exact jss_nil
                            case k1474_1 =>
                              refine' jss_cons ?k1503_0 ?k1503_1
                              case k1503_0 =>
                                refine' js_setLc 9 (own := [("ring", 5)]) (L := [5]) nd (blkOk_by (by kernel_rfl)) ?k1504_0 ?k1504_1 ?k1504_2 ?k1504_3 (sw_true rfl rfl rfl (by kernel_rfl))
                                case k1504_0 =>
                                  refine' ji_seq (K := K) ?k1505_0
                                  case k1505_0 =>
                                    exact je_var 3
                                case k1504_1 =>
                                  intro _ _ _ _ _
                                  exact jg_name 5 nd
                                case k1504_2 =>
                                  intro _ _ _ _ _
                                  refine' jbs_one ?k1506_0
                                  case k1506_0 =>
                                    refine' jb_eq (K := K) hr.units ?k1507_0 ?k1507_1
                                    case k1507_0 =>
                                      refine' jr_of ?k1508_0
                                      case k1508_0 =>
                                        refine' je_mul (K := K) ?k1509_0 ?k1509_1
                                        case k1509_0 =>
                                          refine' jr_of ?k1510_0
                                          case k1510_0 =>
                                            refine' je_ix (K := K) ?k1511_0 ?k1511_1
                                            case k1511_0 =>
                                              refine' jr_of ?k1512_0
                                              case k1512_0 =>
                                                refine' je_call0 D__law_sums hr ?k1513_0
                                                case k1513_0 =>
                                                  refine' ja_cons ?k1514_0 ?k1514_1
                                                  case k1514_0 =>
                                                    exact je_var 2
                                                  case k1514_1 =>
                                                    refine' ja_cons ?k1515_0 ?k1515_1
                                                    case k1515_0 =>
                                                      exact je_var 5
                                                    case k1515_1 =>
                                                      exact ja_nil
                                            case k1511_1 =>
                                              refine' jr_of ?k1516_0
                                              case k1516_0 =>
                                                exact je_int
                                        case k1509_1 =>
                                          refine' jr_of ?k1517_0
                                          case k1517_0 =>
                                            refine' je_ix (K := K) ?k1518_0 ?k1518_1
                                            case k1518_0 =>
                                              exact jr_var 4
                                            case k1518_1 =>
                                              refine' jr_of ?k1519_0
                                              case k1519_0 =>
                                                exact je_int
                                    case k1507_1 =>
                                      refine' jr_of ?k1520_0
                                      case k1520_0 =>
                                        refine' je_mul (K := K) ?k1521_0 ?k1521_1
                                        case k1521_0 =>
                                          refine' jr_of ?k1522_0
                                          case k1522_0 =>
                                            refine' je_ix (K := K) ?k1523_0 ?k1523_1
                                            case k1523_0 =>
                                              exact jr_var 4
                                            case k1523_1 =>
                                              refine' jr_of ?k1524_0
                                              case k1524_0 =>
                                                exact je_int
                                        case k1521_1 =>
                                          refine' jr_of ?k1525_0
                                          case k1525_0 =>
                                            refine' je_ix (K := K) ?k1526_0 ?k1526_1
                                            case k1526_0 =>
                                              refine' jr_of ?k1527_0
                                              case k1527_0 =>
                                                refine' je_call0 D__law_sums hr ?k1528_0
                                                case k1528_0 =>
                                                  refine' ja_cons ?k1529_0 ?k1529_1
                                                  case k1529_0 =>
                                                    exact je_var 2
                                                  case k1529_1 =>
                                                    refine' ja_cons ?k1530_0 ?k1530_1
                                                    case k1530_0 =>
                                                      exact je_var 5
                                                    case k1530_1 =>
                                                      exact ja_nil
                                            case k1526_1 =>
                                              refine' jr_of ?k1531_0
                                              case k1531_0 =>
                                                exact je_int
                                case k1504_3 =>
                                  intro _ _ _ _ _
                                  exact je_var 5
                              case k1503_1 =>
                                refine' jss_one ?k1532_0
                                case k1532_0 =>
                                  refine' js_if ?k1533_0 ?k1533_1 ?k1533_2
                                  case k1533_0 =>
                                    refine' jb_ne (K := K) hr.units ?k1534_0 ?k1534_1
                                    case k1534_0 =>
                                      refine' jr_of ?k1535_0
                                      case k1535_0 =>
                                        refine' je_call D_slowest_rings hr ?k1536_0
                                        case k1536_0 =>
                                          refine' ja_cons ?k1537_0 ?k1537_1
                                          case k1537_0 =>
                                            exact je_var 2
                                          case k1537_1 =>
                                            exact ja_nil
                                    case k1534_1 =>
                                      refine' jr_of ?k1538_0
                                      case k1538_0 =>
                                        refine' je_ct (cK_tuple (K := K) rfl) okK_tuple PyProof.Rows.boot_tuple nm.tuple ?k1539_0
                                        case k1539_0 =>
                                          refine' jar_cons ?k1540_0 ?k1540_1
                                          case k1540_0 =>
                                            exact jr_var 9
                                          case k1540_1 =>
                                            exact jar_nil
                                  case k1533_1 =>
                                    refine' jss_one ?k1541_0
                                    case k1541_0 =>
                                      refine' js_ret ?k1542_0
                                      case k1542_0 =>
                                        exact je_bl
                                  case k1533_2 =>
                                    exact jss_nil
                        case k1450_2 =>
                          refine' jss_one ?k1543_0
                          case k1543_0 =>
                            refine' js_if ?k1544_0 ?k1544_1 ?k1544_2
                            case k1544_0 =>
                              refine' jb_ne (K := K) hr.units ?k1545_0 ?k1545_1
                              case k1545_0 =>
                                refine' jr_of ?k1546_0
                                case k1546_0 =>
                                  refine' je_call D_slowest_rings hr ?k1547_0
                                  case k1547_0 =>
                                    refine' ja_cons ?k1548_0 ?k1548_1
                                    case k1548_0 =>
                                      exact je_var 2
                                    case k1548_1 =>
                                      exact ja_nil
                              case k1545_1 =>
                                refine' jr_of ?k1549_0
                                case k1549_0 =>
                                  refine' je_tup ?k1550_0
                                  case k1550_0 =>
                                    exact ja_nil
                            case k1544_1 =>
                              refine' jss_one ?k1551_0
                              case k1551_0 =>
                                refine' js_ret ?k1552_0
                                case k1552_0 =>
                                  exact je_bl
                            case k1544_2 =>
                              exact jss_nil
                      case k1449_1 =>
                        refine' jss_one ?k1553_0
                        case k1553_0 =>
                          refine' js_if ?k1554_0 ?k1554_1 ?k1554_2
                          case k1554_0 =>
                            refine' jb_ne (K := K) hr.units ?k1555_0 ?k1555_1
                            case k1555_0 =>
                              refine' jr_of ?k1556_0
                              case k1556_0 =>
                                refine' je_told (k := 7) told_st c0 hr ?k1557_0
                                case k1557_0 =>
                                  intro _ _ _ _ _ _ _ hr
                                  refine' je_callL D_rings hr ?k1558_0
                                  case k1558_0 =>
                                    refine' ja_cons ?k1559_0 ?k1559_1
                                    case k1559_0 =>
                                      exact je_non
                                    case k1559_1 =>
                                      exact ja_nil
                            case k1555_1 =>
                              refine' jr_of ?k1560_0
                              case k1560_0 =>
                                refine' je_tup ?k1561_0
                                case k1561_0 =>
                                  refine' ja_cons ?k1562_0 ?k1562_1
                                  case k1562_0 =>
                                    exact je_str
                                  case k1562_1 =>
                                    refine' ja_cons ?k1563_0 ?k1563_1
                                    case k1563_0 =>
                                      exact je_str
                                    case k1563_1 =>
                                      exact ja_nil
                          case k1554_1 =>
                            refine' jss_one ?k1564_0
                            case k1564_0 =>
                              refine' js_ret ?k1565_0
                              case k1565_0 =>
                                exact je_bl
                          case k1554_2 =>
                            exact jss_nil

    obtain ⟨t, j⟩ := j
    refine ⟨tLawS K lawN.length 4 t, ?_, law_run (by decide) (by decide) (fun B hB => (j B hB).v) rk h⟩
    refine pss_cons (ps_for pass_own rfl (pi_seq (pe_call F2 (hr.mono (by decide)) rfl hm2 hk2 hb2 .nil pass0 (pa_cons (pv 0) (pa_cons pe_int pa_nil)))) (pg_name (i := 1) nd rfl (by first | exact Or.inl rfl | exact Or.inr rfl)) ?_) (pss_one (ps_ret pe_bl))
    exact pss_ln (j ⟨H, H, [], [(Pt, lamQ)], []⟩ rfl).p

end Rn
end

set_option Elab.async false
set_option linter.all false
set_option maxRecDepth 100000
set_option maxHeartbeats 0
namespace Rn
open PySem PySem.Spec PyProof.Rows L2
def hd__law_drawn : He.DefD := ⟨("_law_drawn", none), "_law_drawn", "_law_drawn", defArgs s__law_drawn, defBody s__law_drawn, defScope s__law_drawn, [], []⟩
def hd__law_roll : He.DefD := ⟨("_law_roll", none), "_law_roll", "_law_roll", defArgs s__law_roll, defBody s__law_roll, defScope s__law_roll, [], []⟩
def hd__law_renamed : He.DefD := ⟨("_law_renamed", none), "_law_renamed", "_law_renamed", defArgs s__law_renamed, defBody s__law_renamed, defScope s__law_renamed, [], []⟩
def hd__law_net : He.DefD := ⟨("_law_net", none), "_law_net", "_law_net", defArgs s__law_net, defBody s__law_net, defScope s__law_net, [], []⟩
def hd__law_overtaken : He.DefD := ⟨("_law_overtaken", none), "_law_overtaken", "_law_overtaken", defArgs s__law_overtaken, defBody s__law_overtaken, defScope s__law_overtaken, [], []⟩
def hd__law_rings : He.DefD := ⟨("_law_rings", none), "_law_rings", "_law_rings", defArgs s__law_rings, defBody s__law_rings, defScope s__law_rings, [], []⟩
def hd_is_whole : He.DefD := ⟨("is_whole", none), "is_whole", "is_whole", defArgs s_is_whole, defBody s_is_whole, defScope s_is_whole, [], []⟩
def hd_is_source : He.DefD := ⟨("is_source", none), "is_source", "is_source", defArgs s_is_source, defBody s_is_source, defScope s_is_source, [], []⟩
def hd_is_arc : He.DefD := ⟨("is_arc", none), "is_arc", "is_arc", defArgs s_is_arc, defBody s_is_arc, defScope s_is_arc, [], []⟩
def hd_is_row : He.DefD := ⟨("is_row", none), "is_row", "is_row", defArgs s_is_row, defBody s_is_row, defScope s_is_row, [], []⟩
def hd_is_shaped : He.DefD := ⟨("is_shaped", none), "is_shaped", "is_shaped", defArgs s_is_shaped, defBody s_is_shaped, defScope s_is_shaped, [], []⟩
def hd_all_back : He.DefD := ⟨("all_back", none), "all_back", "all_back", defArgs s_all_back, defBody s_all_back, defScope s_all_back, [], []⟩
def hd_event_of : He.DefD := ⟨("event_of", none), "event_of", "event_of", defArgs s_event_of, defBody s_event_of, defScope s_event_of, [], []⟩
def hd_same_round : He.DefD := ⟨("same_round", none), "same_round", "same_round", defArgs s_same_round, defBody s_same_round, defScope s_same_round, [], []⟩
def hd_order_of : He.DefD := ⟨("order_of", none), "order_of", "order_of", defArgs s_order_of, defBody s_order_of, defScope s_order_of, [], []⟩
def hd_is_net : He.DefD := ⟨("is_net", none), "is_net", "is_net", defArgs s_is_net, defBody s_is_net, defScope s_is_net, [], []⟩
def hd_need_net : He.DefD := ⟨("need_net", none), "need_net", "need_net", defArgs s_need_net, defBody s_need_net, defScope s_need_net, [], []⟩
def hd_rings_from : He.DefD := ⟨("rings_from", none), "rings_from", "rings_from", defArgs s_rings_from, defBody s_rings_from, defScope s_rings_from, [], []⟩
def hd_rings_of : He.DefD := ⟨("rings_of", none), "rings_of", "rings_of", defArgs s_rings_of, defBody s_rings_of, defScope s_rings_of, [], []⟩
def hd_rings : He.DefD := ⟨("rings", none), "rings", "rings", defArgs s_rings, defBody s_rings, defScope s_rings, [], []⟩
def hd__law_sums : He.DefD := ⟨("_law_sums", none), "_law_sums", "_law_sums", defArgs s__law_sums, defBody s__law_sums, defScope s__law_sums, [], []⟩
def hd_is_less : He.DefD := ⟨("is_less", none), "is_less", "is_less", defArgs s_is_less, defBody s_is_less, defScope s_is_less, [], []⟩
def hd_greatest : He.DefD := ⟨("greatest", none), "greatest", "greatest", defArgs s_greatest, defBody s_greatest, defScope s_greatest, [], []⟩
def hd_measure : He.DefD := ⟨("measure", none), "measure", "measure", defArgs s_measure, defBody s_measure, defScope s_measure, [], []⟩
def hd_divisor : He.DefD := ⟨("divisor", none), "divisor", "divisor", defArgs s_divisor, defBody s_divisor, defScope s_divisor, [], []⟩
def hd_lowest : He.DefD := ⟨("lowest", none), "lowest", "lowest", defArgs s_lowest, defBody s_lowest, defScope s_lowest, [], []⟩
def hd_ratio : He.DefD := ⟨("ratio", none), "ratio", "ratio", defArgs s_ratio, defBody s_ratio, defScope s_ratio, [], []⟩
def hd_slowest_of : He.DefD := ⟨("slowest_of", none), "slowest_of", "slowest_of", defArgs s_slowest_of, defBody s_slowest_of, defScope s_slowest_of, [], []⟩
def hd_slowest : He.DefD := ⟨("slowest", none), "slowest", "slowest", defArgs s_slowest, defBody s_slowest, defScope s_slowest, [], []⟩
def hd_slowest_rings : He.DefD := ⟨("slowest_rings", none), "slowest_rings", "slowest_rings", defArgs s_slowest_rings, defBody s_slowest_rings, defScope s_slowest_rings, [], []⟩
def hd__law_cell : He.DefD := ⟨("_law_cell", none), "_law_cell", "_law_cell", defArgs s__law_cell, defBody s__law_cell, defScope s__law_cell, [], []⟩
def hd__law_rounds : He.DefD := ⟨("_law_rounds", none), "_law_rounds", "_law_rounds", defArgs s__law_rounds, defBody s__law_rounds, defScope s__law_rounds, [], []⟩
def hd__law_term : He.DefD := ⟨("_law_term", none), "_law_term", "_law_term", defArgs s__law_term, defBody s__law_term, defScope s__law_term, [], []⟩
def hd__law_told : He.DefD := ⟨("_law_told", none), "_law_told", "_law_told", defArgs s__law_told, defBody s__law_told, defScope s__law_told, [], []⟩
def hd_law : He.DefD := ⟨("law", none), "law", "law", defArgs s_law, defBody s_law, defScope s_law, [], []⟩
def hfn0 : List He.DefD := [hd__law_drawn, hd__law_roll, hd__law_renamed, hd__law_net, hd__law_overtaken, hd__law_rings, hd_is_whole, hd_is_source, hd_is_arc, hd_is_row, hd_is_shaped, hd_all_back, hd_event_of, hd_same_round, hd_order_of]
def hfn1 : List He.DefD := [hd_is_net, hd_need_net, hd_rings_from, hd_rings_of, hd_rings, hd__law_sums, hd_is_less, hd_greatest, hd_measure, hd_divisor, hd_lowest, hd_ratio, hd_slowest_of, hd_slowest, hd_slowest_rings]
def hfn2 : List He.DefD := [hd__law_cell, hd__law_rounds, hd__law_term, hd__law_told, hd_law]
def hfn : List He.DefD := hfn0 ++ hfn1 ++ hfn2
def hfa0 : List He.Fa := [.glo "_law_drawn", .glo "_law_roll", .glo "_law_renamed", .glo "_law_net", .glo "_law_overtaken", .glo "_law_rings", .glo "is_whole", .glo "is_source", .glo "is_arc", .glo "is_row", .glo "is_shaped", .glo "all_back", .glo "event_of", .glo "same_round", .glo "order_of"]
def hfa1 : List He.Fa := [.glo "is_net", .glo "need_net", .glo "rings_from", .glo "rings_of", .glo "rings", .glo "_law_sums", .glo "is_less", .glo "greatest", .glo "measure", .glo "divisor", .glo "lowest", .glo "ratio", .glo "slowest_of", .glo "slowest", .glo "slowest_rings"]
def hfa2 : List He.Fa := [.glo "_law_cell", .glo "_law_rounds", .glo "_law_term", .glo "_law_told", .glo "law", .free "ValueError", .free "abs", .free "all", .free "any", .free "bool", .free "enumerate", .free "int", .free "isinstance", .free "len", .free "max"]
def hfa3 : List He.Fa := [.free "min", .free "range", .free "sorted", .free "str", .free "sum", .free "tuple", .int "MOST_EVENTS" 5, .int "MOST_BACK" 8, .glo "RoundError", .glo "InvalidNet", .glo "InvalidStreams", .glo "InvalidRound", .glo "InvalidEvent", .glo "InvalidInput", .glo "InvalidArc"]
def hfa4 : List He.Fa := [.glo "InvalidNumber", .glo "InvalidForm", .glo "InvalidStores", .glo "InvalidDues", .glo "InvalidText", .glo "Standstill", .glo "NoTime", .glo "Broken", .glo "NoFit", .glo "TooMany", .glo "NothingToUndo", .exc "RoundError", .exc "InvalidNet", .exc "InvalidStreams", .exc "InvalidRound"]
def hfa5 : List He.Fa := [.exc "InvalidEvent", .exc "InvalidInput", .exc "InvalidArc", .exc "InvalidNumber", .exc "InvalidForm", .exc "InvalidStores", .exc "InvalidDues", .exc "InvalidText", .exc "Standstill", .exc "NoTime", .exc "Broken", .exc "NoFit", .exc "TooMany", .exc "NothingToUndo"]
def hfa : List He.Fa := hfa0 ++ hfa1 ++ hfa2 ++ hfa3 ++ hfa4 ++ hfa5
def loose0 : List PySem.Str := ["RoundError", "InvalidNet", "InvalidStreams", "InvalidRound", "InvalidEvent", "InvalidInput", "InvalidArc", "InvalidNumber", "InvalidForm", "InvalidStores", "InvalidDues", "InvalidText", "Standstill", "NoTime", "Broken"]
def loose1 : List PySem.Str := ["NoFit", "TooMany", "NothingToUndo", "MOST_EVENTS", "MOST_BACK", "is_whole", "event_of", "is_source", "is_arc", "is_row", "is_shaped", "same_round", "order_of", "all_back", "is_net"]
def loose2 : List PySem.Str := ["need_net", "divisor", "lowest", "rings_from", "rings_of", "rings", "measure", "ratio", "is_less", "greatest", "slowest_of", "slowest", "slowest_rings", "_law_cell", "_law_drawn"]
def loose3 : List PySem.Str := ["_law_roll", "_law_rounds", "_law_term", "_law_told", "_law_net", "_law_renamed", "_law_overtaken", "_law_rings", "_law_sums"]
def loose : List PySem.Str := loose0 ++ loose1 ++ loose2 ++ loose3
abbrev R0 : PySem.W.OpenRow := PySem.W.OpenLaw.row PySem.Challenge.rw_roundnets_k07_whole_rings
abbrev hk : PySem.W.Hook := He.hookX 4 hfa hfn [] [("law", none)] errB
def ob (s : PySem.W.SharedT) : He.AlX := He.obsX 4 hfa hfn [] [("law", none)] errB (HandSHeadRun.getT s)
theorem ob_eq (s : PySem.W.SharedT) : ob s = hk.obs s.abs := He.obsX_eq (HandSHeadRun.getT_eq s)
theorem head_run (w : World) : HandSHeadRun.RunEq R0 (PySem.W.view R0.prog [58]) hk ob 30000 loose w := by
  intro os
  kernel_rfl
section
variable {P : Program} {w : World} {K : PySem.W.Frag} {h : Heap} {mg : Str → Option Value} {base : Heap}
theorem h_nm (X : K.In h) (G : h.Ns mainGlobals mg) (c : He.SaysD hfa hfn K) : Nm K mg (He.ga K) where
  ValueError := He.free_ok X G (c.fact 35 (f := .free "ValueError") rfl)
  abs := He.free_ok X G (c.fact 36 (f := .free "abs") rfl)
  all := He.free_ok X G (c.fact 37 (f := .free "all") rfl)
  any := He.free_ok X G (c.fact 38 (f := .free "any") rfl)
  bool := He.free_ok X G (c.fact 39 (f := .free "bool") rfl)
  enumerate := He.free_ok X G (c.fact 40 (f := .free "enumerate") rfl)
  int := He.free_ok X G (c.fact 41 (f := .free "int") rfl)
  isinstance := He.free_ok X G (c.fact 42 (f := .free "isinstance") rfl)
  len := He.free_ok X G (c.fact 43 (f := .free "len") rfl)
  max := He.free_ok X G (c.fact 44 (f := .free "max") rfl)
  min := He.free_ok X G (c.fact 45 (f := .free "min") rfl)
  range := He.free_ok X G (c.fact 46 (f := .free "range") rfl)
  sorted := He.free_ok X G (c.fact 47 (f := .free "sorted") rfl)
  str := He.free_ok X G (c.fact 48 (f := .free "str") rfl)
  sum := He.free_ok X G (c.fact 49 (f := .free "sum") rfl)
  tuple := He.free_ok X G (c.fact 50 (f := .free "tuple") rfl)
  MOST_EVENTS := He.int_ok X G (c.fact 51 (f := .int "MOST_EVENTS" 5) rfl)
  MOST_BACK := He.int_ok X G (c.fact 52 (f := .int "MOST_BACK" 8) rfl)
  X_RoundError := let e := He.exc_ok (c.fact 71 (f := .exc "RoundError") rfl); ⟨He.glo_ok X G (c.fact 53 (f := .glo "RoundError") rfl), e.1, e.2.1, e.2.2.1, e.2.2.2⟩
  X_InvalidNet := let e := He.exc_ok (c.fact 72 (f := .exc "InvalidNet") rfl); ⟨He.glo_ok X G (c.fact 54 (f := .glo "InvalidNet") rfl), e.1, e.2.1, e.2.2.1, e.2.2.2⟩
  X_InvalidStreams := let e := He.exc_ok (c.fact 73 (f := .exc "InvalidStreams") rfl); ⟨He.glo_ok X G (c.fact 55 (f := .glo "InvalidStreams") rfl), e.1, e.2.1, e.2.2.1, e.2.2.2⟩
  X_InvalidRound := let e := He.exc_ok (c.fact 74 (f := .exc "InvalidRound") rfl); ⟨He.glo_ok X G (c.fact 56 (f := .glo "InvalidRound") rfl), e.1, e.2.1, e.2.2.1, e.2.2.2⟩
  X_InvalidEvent := let e := He.exc_ok (c.fact 75 (f := .exc "InvalidEvent") rfl); ⟨He.glo_ok X G (c.fact 57 (f := .glo "InvalidEvent") rfl), e.1, e.2.1, e.2.2.1, e.2.2.2⟩
  X_InvalidInput := let e := He.exc_ok (c.fact 76 (f := .exc "InvalidInput") rfl); ⟨He.glo_ok X G (c.fact 58 (f := .glo "InvalidInput") rfl), e.1, e.2.1, e.2.2.1, e.2.2.2⟩
  X_InvalidArc := let e := He.exc_ok (c.fact 77 (f := .exc "InvalidArc") rfl); ⟨He.glo_ok X G (c.fact 59 (f := .glo "InvalidArc") rfl), e.1, e.2.1, e.2.2.1, e.2.2.2⟩
  X_InvalidNumber := let e := He.exc_ok (c.fact 78 (f := .exc "InvalidNumber") rfl); ⟨He.glo_ok X G (c.fact 60 (f := .glo "InvalidNumber") rfl), e.1, e.2.1, e.2.2.1, e.2.2.2⟩
  X_InvalidForm := let e := He.exc_ok (c.fact 79 (f := .exc "InvalidForm") rfl); ⟨He.glo_ok X G (c.fact 61 (f := .glo "InvalidForm") rfl), e.1, e.2.1, e.2.2.1, e.2.2.2⟩
  X_InvalidStores := let e := He.exc_ok (c.fact 80 (f := .exc "InvalidStores") rfl); ⟨He.glo_ok X G (c.fact 62 (f := .glo "InvalidStores") rfl), e.1, e.2.1, e.2.2.1, e.2.2.2⟩
  X_InvalidDues := let e := He.exc_ok (c.fact 81 (f := .exc "InvalidDues") rfl); ⟨He.glo_ok X G (c.fact 63 (f := .glo "InvalidDues") rfl), e.1, e.2.1, e.2.2.1, e.2.2.2⟩
  X_InvalidText := let e := He.exc_ok (c.fact 82 (f := .exc "InvalidText") rfl); ⟨He.glo_ok X G (c.fact 64 (f := .glo "InvalidText") rfl), e.1, e.2.1, e.2.2.1, e.2.2.2⟩
  X_Standstill := let e := He.exc_ok (c.fact 83 (f := .exc "Standstill") rfl); ⟨He.glo_ok X G (c.fact 65 (f := .glo "Standstill") rfl), e.1, e.2.1, e.2.2.1, e.2.2.2⟩
  X_NoTime := let e := He.exc_ok (c.fact 84 (f := .exc "NoTime") rfl); ⟨He.glo_ok X G (c.fact 66 (f := .glo "NoTime") rfl), e.1, e.2.1, e.2.2.1, e.2.2.2⟩
  X_Broken := let e := He.exc_ok (c.fact 85 (f := .exc "Broken") rfl); ⟨He.glo_ok X G (c.fact 67 (f := .glo "Broken") rfl), e.1, e.2.1, e.2.2.1, e.2.2.2⟩
  X_NoFit := let e := He.exc_ok (c.fact 86 (f := .exc "NoFit") rfl); ⟨He.glo_ok X G (c.fact 68 (f := .glo "NoFit") rfl), e.1, e.2.1, e.2.2.1, e.2.2.2⟩
  X_TooMany := let e := He.exc_ok (c.fact 87 (f := .exc "TooMany") rfl); ⟨He.glo_ok X G (c.fact 69 (f := .glo "TooMany") rfl), e.1, e.2.1, e.2.2.1, e.2.2.2⟩
  X_NothingToUndo := let e := He.exc_ok (c.fact 88 (f := .exc "NothingToUndo") rfl); ⟨He.glo_ok X G (c.fact 70 (f := .glo "NothingToUndo") rfl), e.1, e.2.1, e.2.2.1, e.2.2.2⟩
theorem h__law_drawn (X : K.In h) (G : h.Ns mainGlobals mg) (c : He.SaysD hfa hfn K) : HasF K mg "_law_drawn" s__law_drawn ["cell", "k"] := by
  obtain ⟨fd, F⟩ := c.def_ 0 (d := hd__law_drawn) rfl
  exact ⟨He.ga K "_law_drawn", fd, F, He.glo_ok X G (c.fact 0 (f := .glo "_law_drawn") rfl), FunD.bindsN F fun _ _ _ _ _ _ us hl => match us, hl with | [_, _], _ => rfl⟩
theorem h__law_roll (X : K.In h) (G : h.Ns mainGlobals mg) (c : He.SaysD hfa hfn K) : HasF K mg "_law_roll" s__law_roll ["dice", "many"] := by
  obtain ⟨fd, F⟩ := c.def_ 1 (d := hd__law_roll) rfl
  exact ⟨He.ga K "_law_roll", fd, F, He.glo_ok X G (c.fact 1 (f := .glo "_law_roll") rfl), FunD.bindsN F fun _ _ _ _ _ _ us hl => match us, hl with | [_, _], _ => rfl⟩
theorem h__law_renamed (X : K.In h) (G : h.Ns mainGlobals mg) (c : He.SaysD hfa hfn K) : HasF K mg "_law_renamed" s__law_renamed ["dice", "net"] := by
  obtain ⟨fd, F⟩ := c.def_ 2 (d := hd__law_renamed) rfl
  exact ⟨He.ga K "_law_renamed", fd, F, He.glo_ok X G (c.fact 2 (f := .glo "_law_renamed") rfl), FunD.bindsN F fun _ _ _ _ _ _ us hl => match us, hl with | [_, _], _ => rfl⟩
theorem h__law_net (X : K.In h) (G : h.Ns mainGlobals mg) (c : He.SaysD hfa hfn K) : HasF K mg "_law_net" s__law_net ["dice", "most", "inputs"] := by
  obtain ⟨fd, F⟩ := c.def_ 3 (d := hd__law_net) rfl
  exact ⟨He.ga K "_law_net", fd, F, He.glo_ok X G (c.fact 3 (f := .glo "_law_net") rfl), FunD.bindsN F fun _ _ _ _ _ _ us hl => match us, hl with | [_, _, _], _ => rfl⟩
theorem h__law_overtaken (X : K.In h) (G : h.Ns mainGlobals mg) (c : He.SaysD hfa hfn K) : HasF K mg "_law_overtaken" s__law_overtaken ["dice"] := by
  obtain ⟨fd, F⟩ := c.def_ 4 (d := hd__law_overtaken) rfl
  exact ⟨He.ga K "_law_overtaken", fd, F, He.glo_ok X G (c.fact 4 (f := .glo "_law_overtaken") rfl), FunD.bindsN F fun _ _ _ _ _ _ us hl => match us, hl with | [_], _ => rfl⟩
theorem h__law_rings (X : K.In h) (G : h.Ns mainGlobals mg) (c : He.SaysD hfa hfn K) : HasF K mg "_law_rings" s__law_rings ["net"] := by
  obtain ⟨fd, F⟩ := c.def_ 5 (d := hd__law_rings) rfl
  exact ⟨He.ga K "_law_rings", fd, F, He.glo_ok X G (c.fact 5 (f := .glo "_law_rings") rfl), FunD.bindsN F fun _ _ _ _ _ _ us hl => match us, hl with | [_], _ => rfl⟩
theorem h_is_whole (X : K.In h) (G : h.Ns mainGlobals mg) (c : He.SaysD hfa hfn K) : HasF K mg "is_whole" s_is_whole ["value", "low", "high"] := by
  obtain ⟨fd, F⟩ := c.def_ 6 (d := hd_is_whole) rfl
  exact ⟨He.ga K "is_whole", fd, F, He.glo_ok X G (c.fact 6 (f := .glo "is_whole") rfl), FunD.bindsN F fun _ _ _ _ _ _ us hl => match us, hl with | [_, _, _], _ => rfl⟩
theorem h_is_source (X : K.In h) (G : h.Ns mainGlobals mg) (c : He.SaysD hfa hfn K) : HasF K mg "is_source" s_is_source ["value", "inputs", "events"] := by
  obtain ⟨fd, F⟩ := c.def_ 7 (d := hd_is_source) rfl
  exact ⟨He.ga K "is_source", fd, F, He.glo_ok X G (c.fact 7 (f := .glo "is_source") rfl), FunD.bindsN F fun _ _ _ _ _ _ us hl => match us, hl with | [_, _, _], _ => rfl⟩
theorem h_is_arc (X : K.In h) (G : h.Ns mainGlobals mg) (c : He.SaysD hfa hfn K) : HasF K mg "is_arc" s_is_arc ["value", "inputs", "events"] := by
  obtain ⟨fd, F⟩ := c.def_ 8 (d := hd_is_arc) rfl
  exact ⟨He.ga K "is_arc", fd, F, He.glo_ok X G (c.fact 8 (f := .glo "is_arc") rfl), FunD.bindsN F fun _ _ _ _ _ _ us hl => match us, hl with | [_, _, _], _ => rfl⟩
theorem h_is_row (X : K.In h) (G : h.Ns mainGlobals mg) (c : He.SaysD hfa hfn K) : HasF K mg "is_row" s_is_row ["value", "inputs", "events"] := by
  obtain ⟨fd, F⟩ := c.def_ 9 (d := hd_is_row) rfl
  exact ⟨He.ga K "is_row", fd, F, He.glo_ok X G (c.fact 9 (f := .glo "is_row") rfl), FunD.bindsN F fun _ _ _ _ _ _ us hl => match us, hl with | [_, _, _], _ => rfl⟩
theorem h_is_shaped (X : K.In h) (G : h.Ns mainGlobals mg) (c : He.SaysD hfa hfn K) : HasF K mg "is_shaped" s_is_shaped ["value"] := by
  obtain ⟨fd, F⟩ := c.def_ 10 (d := hd_is_shaped) rfl
  exact ⟨He.ga K "is_shaped", fd, F, He.glo_ok X G (c.fact 10 (f := .glo "is_shaped") rfl), FunD.bindsN F fun _ _ _ _ _ _ us hl => match us, hl with | [_], _ => rfl⟩
theorem h_all_back (X : K.In h) (G : h.Ns mainGlobals mg) (c : He.SaysD hfa hfn K) : HasF K mg "all_back" s_all_back ["rows"] := by
  obtain ⟨fd, F⟩ := c.def_ 11 (d := hd_all_back) rfl
  exact ⟨He.ga K "all_back", fd, F, He.glo_ok X G (c.fact 11 (f := .glo "all_back") rfl), FunD.bindsN F fun _ _ _ _ _ _ us hl => match us, hl with | [_], _ => rfl⟩
theorem h_event_of (X : K.In h) (G : h.Ns mainGlobals mg) (c : He.SaysD hfa hfn K) : HasF K mg "event_of" s_event_of ["source"] := by
  obtain ⟨fd, F⟩ := c.def_ 12 (d := hd_event_of) rfl
  exact ⟨He.ga K "event_of", fd, F, He.glo_ok X G (c.fact 12 (f := .glo "event_of") rfl), FunD.bindsN F fun _ _ _ _ _ _ us hl => match us, hl with | [_], _ => rfl⟩
theorem h_same_round (X : K.In h) (G : h.Ns mainGlobals mg) (c : He.SaysD hfa hfn K) : HasF K mg "same_round" s_same_round ["rows"] := by
  obtain ⟨fd, F⟩ := c.def_ 13 (d := hd_same_round) rfl
  exact ⟨He.ga K "same_round", fd, F, He.glo_ok X G (c.fact 13 (f := .glo "same_round") rfl), FunD.bindsN F fun _ _ _ _ _ _ us hl => match us, hl with | [_], _ => rfl⟩
theorem h_order_of (X : K.In h) (G : h.Ns mainGlobals mg) (c : He.SaysD hfa hfn K) : HasF K mg "order_of" s_order_of ["rows"] := by
  obtain ⟨fd, F⟩ := c.def_ 14 (d := hd_order_of) rfl
  exact ⟨He.ga K "order_of", fd, F, He.glo_ok X G (c.fact 14 (f := .glo "order_of") rfl), FunD.bindsN F fun _ _ _ _ _ _ us hl => match us, hl with | [_], _ => rfl⟩
theorem h_is_net (X : K.In h) (G : h.Ns mainGlobals mg) (c : He.SaysD hfa hfn K) : HasF K mg "is_net" s_is_net ["value"] := by
  obtain ⟨fd, F⟩ := c.def_ 15 (d := hd_is_net) rfl
  exact ⟨He.ga K "is_net", fd, F, He.glo_ok X G (c.fact 15 (f := .glo "is_net") rfl), FunD.bindsN F fun _ _ _ _ _ _ us hl => match us, hl with | [_], _ => rfl⟩
theorem h_need_net (X : K.In h) (G : h.Ns mainGlobals mg) (c : He.SaysD hfa hfn K) : HasF K mg "need_net" s_need_net ["net"] := by
  obtain ⟨fd, F⟩ := c.def_ 16 (d := hd_need_net) rfl
  exact ⟨He.ga K "need_net", fd, F, He.glo_ok X G (c.fact 16 (f := .glo "need_net") rfl), FunD.bindsN F fun _ _ _ _ _ _ us hl => match us, hl with | [_], _ => rfl⟩
theorem h_rings_from (X : K.In h) (G : h.Ns mainGlobals mg) (c : He.SaysD hfa hfn K) : HasF K mg "rings_from" s_rings_from ["rows", "first"] := by
  obtain ⟨fd, F⟩ := c.def_ 17 (d := hd_rings_from) rfl
  exact ⟨He.ga K "rings_from", fd, F, He.glo_ok X G (c.fact 17 (f := .glo "rings_from") rfl), FunD.bindsN F fun _ _ _ _ _ _ us hl => match us, hl with | [_, _], _ => rfl⟩
theorem h_rings_of (X : K.In h) (G : h.Ns mainGlobals mg) (c : He.SaysD hfa hfn K) : HasF K mg "rings_of" s_rings_of ["rows"] := by
  obtain ⟨fd, F⟩ := c.def_ 18 (d := hd_rings_of) rfl
  exact ⟨He.ga K "rings_of", fd, F, He.glo_ok X G (c.fact 18 (f := .glo "rings_of") rfl), FunD.bindsN F fun _ _ _ _ _ _ us hl => match us, hl with | [_], _ => rfl⟩
theorem h_rings (X : K.In h) (G : h.Ns mainGlobals mg) (c : He.SaysD hfa hfn K) : HasF K mg "rings" s_rings ["net"] := by
  obtain ⟨fd, F⟩ := c.def_ 19 (d := hd_rings) rfl
  exact ⟨He.ga K "rings", fd, F, He.glo_ok X G (c.fact 19 (f := .glo "rings") rfl), FunD.bindsN F fun _ _ _ _ _ _ us hl => match us, hl with | [_], _ => rfl⟩
theorem h__law_sums (X : K.In h) (G : h.Ns mainGlobals mg) (c : He.SaysD hfa hfn K) : HasF K mg "_law_sums" s__law_sums ["net", "ring"] := by
  obtain ⟨fd, F⟩ := c.def_ 20 (d := hd__law_sums) rfl
  exact ⟨He.ga K "_law_sums", fd, F, He.glo_ok X G (c.fact 20 (f := .glo "_law_sums") rfl), FunD.bindsN F fun _ _ _ _ _ _ us hl => match us, hl with | [_, _], _ => rfl⟩
theorem h_is_less (X : K.In h) (G : h.Ns mainGlobals mg) (c : He.SaysD hfa hfn K) : HasF K mg "is_less" s_is_less ["one", "other"] := by
  obtain ⟨fd, F⟩ := c.def_ 21 (d := hd_is_less) rfl
  exact ⟨He.ga K "is_less", fd, F, He.glo_ok X G (c.fact 21 (f := .glo "is_less") rfl), FunD.bindsN F fun _ _ _ _ _ _ us hl => match us, hl with | [_, _], _ => rfl⟩
theorem h_greatest (X : K.In h) (G : h.Ns mainGlobals mg) (c : He.SaysD hfa hfn K) : HasF K mg "greatest" s_greatest ["fractions"] := by
  obtain ⟨fd, F⟩ := c.def_ 22 (d := hd_greatest) rfl
  exact ⟨He.ga K "greatest", fd, F, He.glo_ok X G (c.fact 22 (f := .glo "greatest") rfl), FunD.bindsN F fun _ _ _ _ _ _ us hl => match us, hl with | [_], _ => rfl⟩
theorem h_measure (X : K.In h) (G : h.Ns mainGlobals mg) (c : He.SaysD hfa hfn K) : HasF K mg "measure" s_measure ["rows", "ring"] := by
  obtain ⟨fd, F⟩ := c.def_ 23 (d := hd_measure) rfl
  exact ⟨He.ga K "measure", fd, F, He.glo_ok X G (c.fact 23 (f := .glo "measure") rfl), FunD.bindsN F fun _ _ _ _ _ _ us hl => match us, hl with | [_, _], _ => rfl⟩
theorem h_divisor (X : K.In h) (G : h.Ns mainGlobals mg) (c : He.SaysD hfa hfn K) : HasF K mg "divisor" s_divisor ["one", "other"] := by
  obtain ⟨fd, F⟩ := c.def_ 24 (d := hd_divisor) rfl
  exact ⟨He.ga K "divisor", fd, F, He.glo_ok X G (c.fact 24 (f := .glo "divisor") rfl), FunD.bindsN F fun _ _ _ _ _ _ us hl => match us, hl with | [_, _], _ => rfl⟩
theorem h_lowest (X : K.In h) (G : h.Ns mainGlobals mg) (c : He.SaysD hfa hfn K) : HasF K mg "lowest" s_lowest ["top", "bottom"] := by
  obtain ⟨fd, F⟩ := c.def_ 25 (d := hd_lowest) rfl
  exact ⟨He.ga K "lowest", fd, F, He.glo_ok X G (c.fact 25 (f := .glo "lowest") rfl), FunD.bindsN F fun _ _ _ _ _ _ us hl => match us, hl with | [_, _], _ => rfl⟩
theorem h_ratio (X : K.In h) (G : h.Ns mainGlobals mg) (c : He.SaysD hfa hfn K) : HasF K mg "ratio" s_ratio ["rows", "ring"] := by
  obtain ⟨fd, F⟩ := c.def_ 26 (d := hd_ratio) rfl
  exact ⟨He.ga K "ratio", fd, F, He.glo_ok X G (c.fact 26 (f := .glo "ratio") rfl), FunD.bindsN F fun _ _ _ _ _ _ us hl => match us, hl with | [_, _], _ => rfl⟩
theorem h_slowest_of (X : K.In h) (G : h.Ns mainGlobals mg) (c : He.SaysD hfa hfn K) : HasF K mg "slowest_of" s_slowest_of ["rows"] := by
  obtain ⟨fd, F⟩ := c.def_ 27 (d := hd_slowest_of) rfl
  exact ⟨He.ga K "slowest_of", fd, F, He.glo_ok X G (c.fact 27 (f := .glo "slowest_of") rfl), FunD.bindsN F fun _ _ _ _ _ _ us hl => match us, hl with | [_], _ => rfl⟩
theorem h_slowest (X : K.In h) (G : h.Ns mainGlobals mg) (c : He.SaysD hfa hfn K) : HasF K mg "slowest" s_slowest ["net"] := by
  obtain ⟨fd, F⟩ := c.def_ 28 (d := hd_slowest) rfl
  exact ⟨He.ga K "slowest", fd, F, He.glo_ok X G (c.fact 28 (f := .glo "slowest") rfl), FunD.bindsN F fun _ _ _ _ _ _ us hl => match us, hl with | [_], _ => rfl⟩
theorem h_slowest_rings (X : K.In h) (G : h.Ns mainGlobals mg) (c : He.SaysD hfa hfn K) : HasF K mg "slowest_rings" s_slowest_rings ["net"] := by
  obtain ⟨fd, F⟩ := c.def_ 29 (d := hd_slowest_rings) rfl
  exact ⟨He.ga K "slowest_rings", fd, F, He.glo_ok X G (c.fact 29 (f := .glo "slowest_rings") rfl), FunD.bindsN F fun _ _ _ _ _ _ us hl => match us, hl with | [_], _ => rfl⟩
theorem h__law_cell (X : K.In h) (G : h.Ns mainGlobals mg) (c : He.SaysD hfa hfn K) : HasF K mg "_law_cell" s__law_cell ["script", "k"] := by
  obtain ⟨fd, F⟩ := c.def_ 30 (d := hd__law_cell) rfl
  exact ⟨He.ga K "_law_cell", fd, F, He.glo_ok X G (c.fact 30 (f := .glo "_law_cell") rfl), FunD.bindsN F fun _ _ _ _ _ _ us hl => match us, hl with | [_, _], _ => rfl⟩
theorem h__law_rounds (X : K.In h) (G : h.Ns mainGlobals mg) (c : He.SaysD hfa hfn K) : HasF K mg "_law_rounds" s__law_rounds ["script", "most"] := by
  obtain ⟨fd, F⟩ := c.def_ 31 (d := hd__law_rounds) rfl
  exact ⟨He.ga K "_law_rounds", fd, F, He.glo_ok X G (c.fact 31 (f := .glo "_law_rounds") rfl), FunD.bindsN F fun _ _ _ _ _ _ us hl => match us, hl with | [_, _], _ => rfl⟩
theorem h__law_term (X : K.In h) (G : h.Ns mainGlobals mg) (c : He.SaysD hfa hfn K) : HasF K mg "_law_term" s__law_term ["e"] := by
  obtain ⟨fd, F⟩ := c.def_ 32 (d := hd__law_term) rfl
  exact ⟨He.ga K "_law_term", fd, F, He.glo_ok X G (c.fact 32 (f := .glo "_law_term") rfl), FunD.bindsN F fun _ _ _ _ _ _ us hl => match us, hl with | [_], _ => rfl⟩
theorem h__law_told (X : K.In h) (G : h.Ns mainGlobals mg) (c : He.SaysD hfa hfn K) : HasF K mg "_law_told" s__law_told ["deed"] := by
  obtain ⟨fd, F⟩ := c.def_ 33 (d := hd__law_told) rfl
  exact ⟨He.ga K "_law_told", fd, F, He.glo_ok X G (c.fact 33 (f := .glo "_law_told") rfl), FunD.bindsN F fun _ _ _ _ _ _ us hl => match us, hl with | [_], _ => rfl⟩
theorem h_law (X : K.In h) (G : h.Ns mainGlobals mg) (c : He.SaysD hfa hfn K) : HasF K mg "law" s_law ["script"] := by
  obtain ⟨fd, F⟩ := c.def_ 34 (d := hd_law) rfl
  exact ⟨He.ga K "law", fd, F, He.glo_ok X G (c.fact 34 (f := .glo "law") rfl), FunD.bindsN F fun _ _ _ _ _ _ us hl => match us, hl with | [_], _ => rfl⟩
theorem h_ends (X : K.In h) (G : h.Ns mainGlobals mg) (c : He.SaysD hfa hfn K) {f : Addr} {fd : FuncData} (F : FnP K "law" s_law f fd) (er : ErrF K (He.ga K)) {c0 Pt : Addr} (TB : LamX.TabB base mg c0 Pt) (hcd : fd.code = .ref c0) : FnOk P w K mg base (L2N.CX P w) 11 f fd ["script"] (spLawS K [(Pt, lamQ)]) := by
  have nm := h_nm X G c
  have D__law_drawn := ok__law_drawn (P := P) (w := w) (base := base) nm (h__law_drawn X G c)
  have D__law_roll := ok__law_roll (P := P) (w := w) (base := base) nm (h__law_roll X G c) D__law_drawn
  have D__law_renamed := ok__law_renamed (P := P) (w := w) (base := base) nm (h__law_renamed X G c) D__law_roll
  have D__law_net := ok__law_net (P := P) (w := w) (base := base) nm (h__law_net X G c) D__law_roll D__law_renamed
  have D__law_overtaken := ok__law_overtaken (P := P) (w := w) (base := base) nm (h__law_overtaken X G c) D__law_roll D__law_renamed
  have D__law_rings := ok__law_rings (P := P) (w := w) (base := base) nm (h__law_rings X G c)
  have D_is_whole := ok_is_whole (P := P) (w := w) (base := base) nm (h_is_whole X G c)
  have D_is_source := ok_is_source (P := P) (w := w) (base := base) nm (h_is_source X G c)
  have D_is_arc := ok_is_arc (P := P) (w := w) (base := base) nm (h_is_arc X G c) D_is_source D_is_whole
  have D_is_row := ok_is_row (P := P) (w := w) (base := base) nm (h_is_row X G c) D_is_arc
  have D_is_shaped := ok_is_shaped (P := P) (w := w) (base := base) nm (h_is_shaped X G c) D_is_whole D_is_row
  have D_all_back := ok_all_back (P := P) (w := w) (base := base) nm (h_all_back X G c)
  have D_event_of := ok_event_of (P := P) (w := w) (base := base) nm (h_event_of X G c)
  have D_same_round := ok_same_round (P := P) (w := w) (base := base) nm (h_same_round X G c) D_event_of
  have D_order_of := ok_order_of (P := P) (w := w) (base := base) nm (h_order_of X G c) D_same_round
  have D_is_net := ok_is_net (P := P) (w := w) (base := base) nm (h_is_net X G c) D_is_shaped D_all_back D_order_of
  have D_need_net := ok_need_net (P := P) (w := w) (base := base) nm (h_need_net X G c) D_is_net
  have D_rings_from := ok_rings_from (P := P) (w := w) (base := base) nm (h_rings_from X G c) D_event_of
  have D_rings_of := ok_rings_of (P := P) (w := w) (base := base) nm (h_rings_of X G c) D_rings_from
  have D_rings := ok_rings (P := P) (w := w) (base := base) nm (h_rings X G c) D_need_net D_rings_of
  have D__law_sums := ok__law_sums (P := P) (w := w) (base := base) nm (h__law_sums X G c)
  have D_is_less := ok_is_less (P := P) (w := w) (base := base) nm (h_is_less X G c)
  have D_greatest := ok_greatest (P := P) (w := w) (base := base) nm (h_greatest X G c) D_is_less
  have D_measure := ok_measure (P := P) (w := w) (base := base) nm (h_measure X G c)
  have D_divisor := ok_divisor (P := P) (w := w) (base := base) nm (h_divisor X G c)
  have D_lowest := ok_lowest (P := P) (w := w) (base := base) nm (h_lowest X G c) D_divisor
  have D_ratio := ok_ratio (P := P) (w := w) (base := base) nm (h_ratio X G c) D_measure D_lowest
  have D_slowest_of := ok_slowest_of (P := P) (w := w) (base := base) nm (h_slowest_of X G c) D_greatest D_rings_of D_ratio
  have D_slowest := ok_slowest (P := P) (w := w) (base := base) nm (h_slowest X G c) D_need_net D_slowest_of
  have D_slowest_rings := ok_slowest_rings (P := P) (w := w) (base := base) nm (h_slowest_rings X G c) D_need_net D_slowest_of D_rings_of D_ratio
  have D__law_cell := ok__law_cell (P := P) (w := w) (base := base) nm (h__law_cell X G c)
  have D__law_rounds := ok__law_rounds (P := P) (w := w) (base := base) nm (h__law_rounds X G c) D__law_cell
  have TD := ok__law_term (P := P) (w := w) (base := base) nm er (h__law_term X G c)
  exact ok_law nm F D__law_rounds D__law_roll D__law_net D__law_overtaken D__law_rings D_rings D__law_sums D_slowest D_slowest_rings er (h__law_told X G c) TD TB hcd round_ok
end
end Rn
open PySem PySem.W PySem.Calls PyProof.Rows
theorem PySem.Challenge.cw_roundnets_k07_whole_rings_holds : PySem.Challenge.rw_roundnets_k07_whole_rings.Holds := by
  w_on; o_law
  refine HandSHeadRun.head_any (r := OpenLaw.row PySem.Challenge.rw_roundnets_k07_whole_rings) (q := view (OpenLaw.row PySem.Challenge.rw_roundnets_k07_whole_rings).prog [58]) (H := Rn.hk) (ob := Rn.ob) (M := 30000) (loose := Rn.loose) (d := HandSHeadRun.topDef (OpenLaw.row PySem.Challenge.rw_roundnets_k07_whole_rings).prog 58) (kwd := []) Rn.ob_eq
    (by kernel_rfl) (fun s => by kernel_rfl) Rn.head_run (by kernel_rfl) (by kernel_rfl) (by kernel_rfl) (by rfl) (by first | assumption | decide +kernel) (by decide +kernel) ⟨rfl, rfl, rfl, rfl, rfl, by decide +kernel⟩ ?hw ?hc
  case hw => w_witness2
  case hc =>
    refine LamX.walk_ofTsE (l := PySem.Challenge.rw_roundnets_k07_whole_rings) (n := 63) (k := 11) (CX := fun w => L2N.CX (PySem.Challenge.rw_roundnets_k07_whole_rings).prog w) (x := "script") rfl (by decide) (by kernel_rfl) ⟨rfl, by decide, by decide⟩ ?F ?G
    case G =>
      rintro w H s e s' ⟨_, _, _, _, _, _, _, _, _, _, _, _, z⟩
      exact z
    case F =>
      intro w mg fa h Y G hmg0
      obtain ⟨K, KX, c⟩ := Y
      have hmg : mg ("law" : PySem.Str) = some (.ref fa) := by
        have e : (HandSHeadRun.topDef (OpenLaw.row PySem.Challenge.rw_roundnets_k07_whole_rings).prog 58).name = ("law" : PySem.Str) := by kernel_rfl
        rw [← e]
        exact hmg0
      obtain ⟨fd, F⟩ := c.t.d.def_ 34 (d := Rn.hd_law) rfl
      have e := hmg.symm.trans (He.glo_ok KX G (c.t.d.fact 34 (f := .glo "law") rfl))
      cases e
      have b := L2.FunD.bindsA (ps := ["script"]) F fun _ _ _ _ _ _ us hl => match us, hl with | [_], _ => rfl
      have hcode : fd.code = .ref (He.cT K ("law", none)).1 := by
        obtain ⟨oc, od, dV, kV, doc, pm, an, cdv, ct, osl, rfl, lk, hcd, _, _⟩ := F.ex
        obtain ⟨c1, rfl⟩ := He.codeIn_ref hcd
        have := He.codeOf_eq (p := ("law", none)) lk rfl
        show Value.ref c1 = .ref (He.codeOf K ("law", none))
        rw [this]
      refine ⟨K, KX, fd, [He.cT K ("law", none)], Rn.spLawS K [((He.cT K ("law", none)).2, Rn.lamQ)], fun p hp => ?_, fun p hp => ?_, fun p hp => ?_, fun s v => b s [v] rfl, fun H a ns hl _ hT hS => ⟨a, ns, rfl, hS, hl, fun q hq => ?_, fun _ => rfl⟩, fun base _ _ hTB => Rn.h_ends KX G c.t.d F (Rn.errB_ok c.more) (hTB _ (List.mem_singleton.mpr rfl)) hcode⟩
      · rw [List.mem_singleton.mp hp]; exact c.empty _ (List.mem_singleton.mpr rfl)
      · rw [List.mem_singleton.mp hp]; exact c.out _ (List.mem_singleton.mpr rfl)
      · rw [List.mem_singleton.mp hp]; exact PySem.W.codeHd_of_K KX (c.hd _ (List.mem_singleton.mpr rfl))
      · rw [List.mem_singleton.mp hq]; exact LamX.TabS.nil (hT _ (List.mem_singleton.mpr rfl))
