import PyProof.Rows.All
import Wide.All
import OpenK.AllK
import Wide.FinOn
import KE.DataEq
import HandS.ForMost
import HandS.ForExc
import HandS.IsInst
import HandS.Wide
import HandS.Lambda
import HandS.ExcCtx
import HandS.HotCalls
import HandS.ExcIs
import HandS.TupMul
import HandS.TupAny
import HandS.Dict
import HandS.Small
import KE.GoesMore
import HandS.Style
import HandS.Defaults
import HandS.HeadHook1
import KE.SortData
import HandS.Flt
import HandS.Iter
import HandS.ExcBuiltin
import KE.KStateDown
import Lean
import HandS.Base
import HandS.Call
import HandS.Ends
import HandS.More
import HandS.Words
import HandS.WordsExc
import HandS.Head0
import HandS.Head1
import HandS.Head2
import HandS.HeadEnd
import HandS.HeadHook2
import HandS.HeadHook3
import HandS.HeadHook4
import HandS.EndTab
import HandS.EndOwn
import HandS.HeadWalk
import PySem.Challenge.RW_roundnets_k06_whole_first_places
section
set_option Elab.async false
set_option linter.all false
set_option maxRecDepth 100000
/-! Core1: plain data in a frozen part of the heap, cells, environments, steps. -/
namespace Rn
open PySem PySem.Spec L2

abbrev D := PyData

def keyD : Key → D
  | .inl i => .int i
  | .inr x => .str x

mutual
/-- the value v is the data d, by objects of F alone -/
def Den (F : Hp) : D → V → Prop
  | .none, v => v = .non
  | .bool b, v => v = .bl b
  | .int i, v => v = .int i
  | .str x, v => v = .str x
  | .list ds, v => ∃ a vs, v = .ref a ∧ F a = some (.lst vs) ∧ DenL F ds vs
  | .tuple ds, v => ∃ a vs, v = .ref a ∧ F a = some (.tup vs) ∧ DenL F ds vs
  | .dict kds, v => ∃ a kvs, v = .ref a ∧ F a = some (.dK kvs) ∧ DenK F kds kvs
def DenL (F : Hp) : List D → List V → Prop
  | [], vs => vs = []
  | d :: ds, vs => ∃ v r, vs = v :: r ∧ Den F d v ∧ DenL F ds r
def DenK (F : Hp) : List (D × D) → List (Key × V) → Prop
  | [], kvs => kvs = []
  | (k, d) :: ds, kvs => ∃ q v r, kvs = (q, v) :: r ∧ keyD q = k ∧ Den F d v ∧ DenK F ds r
end

mutual
theorem Den.mono {F F' : Hp} (s : Same F F') : ∀ {d : D} {v : V}, Den F d v → Den F' d v
  | .none, _, h => h
  | .bool _, _, h => h
  | .int _, _, h => h
  | .str _, _, h => h
  | .list ds, _, ⟨a, vs, e, h, l⟩ => ⟨a, vs, e, s _ _ h, DenL.mono s l⟩
  | .tuple ds, _, ⟨a, vs, e, h, l⟩ => ⟨a, vs, e, s _ _ h, DenL.mono s l⟩
  | .dict kds, _, ⟨a, vs, e, h, l⟩ => ⟨a, vs, e, s _ _ h, DenK.mono s l⟩
theorem DenL.mono {F F' : Hp} (s : Same F F') : ∀ {ds : List D} {vs : List V}, DenL F ds vs → DenL F' ds vs
  | [], _, h => h
  | _ :: _, _, ⟨v, r, e, h, l⟩ => ⟨v, r, e, Den.mono s h, DenL.mono s l⟩
theorem DenK.mono {F F' : Hp} (s : Same F F') : ∀ {ds : List (D × D)} {vs : List (Key × V)}, DenK F ds vs → DenK F' ds vs
  | [], _, h => h
  | (_, _) :: _, _, ⟨q, v, r, e, k, h, l⟩ => ⟨q, v, r, e, k, Den.mono s h, DenK.mono s l⟩
end

theorem DenL.len {F : Hp} : ∀ {ds : List D} {vs : List V}, DenL F ds vs → ds.length = vs.length
  | [], _, h => by cases h; rfl
  | _ :: _, _, ⟨v, r, e, _, l⟩ => by cases e; simp [DenL.len l]
theorem DenL.get {F : Hp} : ∀ {ds : List D} {vs : List V} {i : Nat} {d : D}, DenL F ds vs → ds[i]? = some d → ∃ v, vs[i]? = some v ∧ Den F d v
  | [], _, _, _, _, e => by simp at e
  | _ :: _, _, 0, _, ⟨v, r, q, h, l⟩, e => by cases q; simp at e; subst e; exact ⟨v, rfl, h⟩
  | _ :: _, _, i + 1, d, ⟨v, r, q, h, l⟩, e => by
    cases q
    obtain ⟨u, h1, h2⟩ := DenL.get (i := i) (d := d) l (by simpa using e)
    exact ⟨u, by simpa using h1, h2⟩
theorem DenL.got {F : Hp} : ∀ {ds : List D} {vs : List V} {i : Nat} {v : V}, DenL F ds vs → vs[i]? = some v → ∃ d, ds[i]? = some d ∧ Den F d v
  | [], _, _, _, h, e => by cases h; simp at e
  | d :: _, _, 0, _, ⟨v, r, q, h, l⟩, e => by cases q; simp at e; subst e; exact ⟨d, rfl, h⟩
  | _ :: _, _, i + 1, d, ⟨v, r, q, h, l⟩, e => by
    cases q
    obtain ⟨u, h1, h2⟩ := DenL.got (i := i) (v := d) l (by simpa using e)
    exact ⟨u, by simpa using h1, h2⟩
theorem DenL.of_get {F : Hp} : ∀ {ds : List D} {vs : List V}, ds.length = vs.length → (∀ (i : Nat) d v, ds[i]? = some d → vs[i]? = some v → Den F d v) → DenL F ds vs
  | [], [], _, _ => rfl
  | [], _ :: _, h, _ => by simp at h
  | _ :: _, [], h, _ => by simp at h
  | d :: ds, v :: vs, h, g => ⟨v, vs, rfl, g 0 d v rfl rfl, DenL.of_get (by simpa using h) fun i d v a b => g (i + 1) d v (by simpa using a) (by simpa using b)⟩
theorem DenL.app {F : Hp} : ∀ {ds es : List D} {vs ws : List V}, DenL F ds vs → DenL F es ws → DenL F (ds ++ es) (vs ++ ws)
  | [], _, _, _, h, g => by cases h; exact g
  | _ :: _, _, _, _, ⟨v, r, q, h, l⟩, g => by cases q; exact ⟨v, _, rfl, h, DenL.app l g⟩
theorem DenL.one {F : Hp} {d : D} {v : V} (h : Den F d v) : DenL F [d] [v] := ⟨v, [], rfl, h, rfl⟩
theorem DenL.take {F : Hp} : ∀ {ds : List D} {vs : List V} (n : Nat), DenL F ds vs → DenL F (ds.take n) (vs.take n)
  | [], _, n, h => by cases h; simp [DenL]
  | _ :: _, _, 0, h => by simp [DenL]
  | _ :: _, _, n + 1, ⟨v, r, q, h, l⟩ => by cases q; exact ⟨v, _, rfl, h, DenL.take n l⟩
theorem DenL.drop {F : Hp} : ∀ {ds : List D} {vs : List V} (n : Nat), DenL F ds vs → DenL F (ds.drop n) (vs.drop n)
  | [], _, n, h => by cases h; simp [DenL]
  | _ :: _, _, 0, h => h
  | _ :: _, _, n + 1, ⟨v, r, q, h, l⟩ => by cases q; exact DenL.drop n l
theorem DenL.set {F : Hp} {d : D} {v : V} (g : Den F d v) : ∀ {ds : List D} {vs : List V} (n : Nat), DenL F ds vs → DenL F (ds.set n d) (vs.set n v)
  | [], _, n, h => by cases h; simp [DenL]
  | _ :: _, _, 0, ⟨u, r, q, h, l⟩ => by cases q; exact ⟨v, r, rfl, g, l⟩
  | _ :: _, _, n + 1, ⟨u, r, q, h, l⟩ => by cases q; exact ⟨u, _, rfl, h, DenL.set g n l⟩
theorem DenL.dropLast {F : Hp} {ds : List D} {vs : List V} (h : DenL F ds vs) : DenL F ds.dropLast vs.dropLast := by
  rw [List.dropLast_eq_take, List.dropLast_eq_take, ← h.len]
  exact h.take _
theorem DenL.rep {F : Hp} {ds : List D} {vs : List V} (h : DenL F ds vs) : ∀ k : Nat, DenL F (List.replicate k ds).flatten (List.replicate k vs).flatten
  | 0 => rfl
  | k + 1 => by
    rw [List.replicate_succ, List.replicate_succ, List.flatten_cons, List.flatten_cons]
    exact h.app (DenL.rep h k)
theorem DenL.ints {F : Hp} : ∀ {ns : List Int}, DenL F (ns.map PyData.int) (ns.map V.int)
  | [] => rfl
  | n :: ns => ⟨.int n, _, rfl, rfl, DenL.ints⟩
theorem DenL.of_ints {F : Hp} : ∀ {ns : List Int} {vs : List V}, DenL F (ns.map PyData.int) vs → vs = ns.map V.int
  | [], _, h => h
  | n :: ns, _, ⟨v, r, e, h, l⟩ => by subst e; rw [DenL.of_ints l, show v = V.int n from h]; rfl
theorem DenL.of_bools {F : Hp} : ∀ {bs : List Bool} {vs : List V}, DenL F (bs.map PyData.bool) vs → vs = bs.map V.bl
  | [], _, h => h
  | n :: ns, _, ⟨v, r, e, h, l⟩ => by subst e; rw [DenL.of_bools l, show v = V.bl n from h]; rfl

/-- the object o is the list or dict d -/
def Shal (F : Hp) : D → HO → Prop
  | .list ds, .lst vs => DenL F ds vs
  | .dict kds, .dK kvs => DenK F kds kvs
  | _, _ => False
theorem Shal.mono {F F' : Hp} (s : Same F F') {d : D} {o : HO} (h : Shal F d o) : Shal F' d o := by
  cases d <;> cases o <;> first | exact h | exact DenL.mono s h | exact DenK.mono s h
theorem Shal.den {F : Hp} {d : D} {o : HO} {a : Addr} (h : Shal F d o) (e : F a = some o) : Den F d (.ref a) := by
  cases d <;> cases o <;> first | exact h.elim | exact ⟨_, _, rfl, e, h⟩
theorem Shal.lst {F : Hp} {ds : List D} {o : HO} (h : Shal F (.list ds) o) : ∃ vs, o = .lst vs ∧ DenL F ds vs := by
  cases o <;> first | exact h.elim | exact ⟨_, rfl, h⟩
theorem Shal.dic {F : Hp} {ds : List (D × D)} {o : HO} (h : Shal F (.dict ds) o) : ∃ vs, o = .dK vs ∧ DenK F ds vs := by
  cases o <;> first | exact h.elim | exact ⟨_, rfl, h⟩
theorem Shal.cases {F : Hp} {d : D} {o : HO} (h : Shal F d o) : (∃ ds vs, d = .list ds ∧ o = .lst vs ∧ DenL F ds vs) ∨ ∃ ds vs, d = .dict ds ∧ o = .dK vs ∧ DenK F ds vs := by
  cases d <;> cases o <;> first | exact h.elim | exact .inl ⟨_, _, rfl, rfl, h⟩ | exact .inr ⟨_, _, rfl, rfl, h⟩

/-! ### cells and environments -/
inductive Cell where
  | no
  | fz (d : D)
  | ow (d : D)
  | va (k : Nat)
  | bw (d : D)
abbrev Rho := List Cell
def Cell.own : Cell → Bool
  | .ow _ => true
  | .bw _ => true
  | _ => false

inductive R (α : Type) where
  | ok (a : α) (r : Rho)
  | ex (c : Str) (r : Rho)
  | no
abbrev M (α : Type) := Rho → R α

structure Bd where
  H0 : Hp
  F0 : Hp
  bs : List Addr
  T : List (Addr × Str)
  vals : List V
/-- a list or a dict -/
def LD (o : HO) : Prop := (∃ vs, o = .lst vs) ∨ ∃ kvs, o = .dK kvs
theorem LD.tbl {ps : Array Value} (h : LD (.tbl ps)) : False := by
  rcases h with ⟨_, h⟩ | ⟨_, h⟩ <;> cases h
theorem LD.code {c : Addr} {q : Str} (h : LD (LamX.CodeO c q)) : False := by
  unfold LamX.CodeO at h
  rcases h with ⟨_, h⟩ | ⟨_, h⟩ <;> cases h
theorem Shal.ld {F : Hp} {d : D} {o : HO} (h : Shal F d o) : LD o := by
  rcases h.cases with ⟨_, vs, _, e, _⟩ | ⟨_, vs, _, e, _⟩
  · exact .inl ⟨vs, e⟩
  · exact .inr ⟨vs, e⟩
/-- the tables stay when no more than a list or a dict changes -/
theorem tabs_but {T : List (Addr × Str)} {H H' : Hp} {a : Addr} (t : LamX.Tabs T H) (hb : ∀ b x, H b = some x → b ≠ a → H' b = some x) (ha : ∀ x, H a = some x → LD x) : LamX.Tabs T H' := by
  intro p hp
  obtain ⟨ps, h1, h2, h3⟩ := t p hp
  refine ⟨ps, hb _ _ h1 (fun z => ?_), h2, fun pos cv hc => ?_⟩
  · rw [z] at h1
    exact (ha _ h1).tbl
  · obtain ⟨c, e, hc'⟩ := h3 pos cv hc
    refine ⟨c, e, hb _ _ hc' fun z => ?_⟩
    rw [z] at hc'
    exact (ha _ hc').code
theorem tabs_at {T : List (Addr × Str)} {H : Hp} (t : LamX.Tabs T H) {a : Addr} (h : ∀ ps, H a ≠ some (.tbl ps)) : ∀ q ∈ T, q.1 ≠ a := fun q hq e => by
  obtain ⟨ps, h1, _⟩ := t q hq
  rw [e] at h1
  exact h ps h1
theorem none_tbl {H : Hp} {a : Addr} (h : H a = none) : ∀ ps, H a ≠ some (.tbl ps) := fun ps e => by rw [h] at e; cases e
theorem ld_tbl {H : Hp} {a : Addr} {o : HO} (h : H a = some o) (l : LD o) : ∀ ps, H a ≠ some (.tbl ps) := fun ps e => by
  rw [h] at e
  cases e
  exact l.tbl

def CellOk (B : Bd) (F H : Hp) (v : Option V) : Cell → Prop
  | .no => True
  | .fz d => ∃ u, v = some u ∧ Den F d u
  | .ow d => ∃ a o, v = some (.ref a) ∧ H a = some o ∧ Shal F d o ∧ F a = none ∧ B.H0 a = none
  | .bw d => ∃ a o, v = some (.ref a) ∧ H a = some o ∧ Shal F d o ∧ F a = none ∧ a ∈ B.bs
  | .va k => ∃ u, B.vals[k]? = some u ∧ v = some u

def Owns (σ : L2.St) (ρ : Rho) (a : Addr) : Prop := ∃ (i : Nat) (c : Cell), σ[i]? = some (some (V.ref a)) ∧ ρ[i]? = some c ∧ c.own = true

structure Mt (B : Bd) (F H : Hp) (σ : L2.St) (ρ : Rho) : Prop where
  sub : Same F H
  old : Same B.F0 F
  new : ∀ a o, F a = some o → B.F0 a = some o ∨ B.H0 a = none
  frm : ∀ a o, B.H0 a = some o → a ∉ B.bs → (∀ q ∈ B.T, q.1 ≠ a) → H a = some o
  dom : ∀ a, H a = none → B.H0 a = none
  len : ρ.length = σ.length
  cell : ∀ (i : Nat) (v : Option V) (c : Cell), σ[i]? = some v → ρ[i]? = some c → CellOk B F H v c
  apart : ∀ (i j : Nat) (a : Addr) (c c' : Cell), σ[i]? = some (some (.ref a)) → σ[j]? = some (some (.ref a)) → ρ[i]? = some c → ρ[j]? = some c' → c.own = true → c'.own = true → i = j
  tabs : LamX.Tabs B.T H
  ntab : ∀ q ∈ B.T, F q.1 = none

/-- what an expression may do to a cell -/
def KStep : Cell → Cell → Prop
  | .no, .no => True
  | .fz d, .fz e => d = e
  | .ow _, .ow _ => True
  | .ow _, .fz _ => True
  | .bw _, .bw _ => True
  | .va u, .va w => u = w
  | _, _ => False
theorem KStep.refl : ∀ c : Cell, KStep c c
  | .no => trivial
  | .fz _ => rfl
  | .ow _ => trivial
  | .bw _ => trivial
  | .va _ => rfl
theorem KStep.trans : ∀ {a b c : Cell}, KStep a b → KStep b c → KStep a c := by
  intro a b c h g
  cases a <;> cases b <;> cases c <;> first | exact h.elim | exact g.elim | exact trivial | exact (show _ = _ from h).trans g

structure Stp (B : Bd) (F H : Hp) (σ : L2.St) (ρ : Rho) (F' H' : Hp) (ρ' : Rho) : Prop where
  mt : Mt B F' H' σ ρ'
  old : Same F F'
  new : ∀ a o, F' a = some o → F a = some o ∨ H a = none ∨ Owns σ ρ a
  frm : ∀ a o, H a = some o → ¬ Owns σ ρ a → (∀ q ∈ B.T, q.1 ≠ a) → H' a = some o
  dom : ∀ a, H' a = none → H a = none
  own : ∀ a, Owns σ ρ' a → Owns σ ρ a
  kind : ∀ (i : Nat) (c : Cell), ρ[i]? = some c → ∃ c', ρ'[i]? = some c' ∧ KStep c c'

structure Ext (F H F' H' : Hp) : Prop where
  same : Same H H'
  old : Same F F'
  sub : Same F' H'
  new : ∀ a o, F' a = some o → F a = some o ∨ H a = none

theorem Ext.refl {F H : Hp} (h : Same F H) : Ext F H F H := ⟨Same.refl _, Same.refl _, h, fun _ _ e => .inl e⟩
theorem Ext.trans {F H F1 H1 F2 H2 : Hp} (x : Ext F H F1 H1) (y : Ext F1 H1 F2 H2) : Ext F H F2 H2 where
  same := x.same.trans y.same
  old := x.old.trans y.old
  sub := y.sub
  new := fun a o e => by
    rcases y.new a o e with h | h
    · exact x.new a o h
    · exact .inr (x.same.free h)
theorem same_upd {H : Hp} {p : Addr} {o : HO} (h : H p = none) : Same H (upd H p o) := fun b x e => by
  rw [upd_ne (ne_of_none e h)]
  exact e
theorem same_upd2 {F H : Hp} (s : Same F H) (p : Addr) (o : HO) : Same (upd F p o) (upd H p o) := fun b x e => by
  by_cases hb : b = p
  · subst hb; rw [upd_same] at e ⊢; exact e
  · rw [upd_ne hb] at e ⊢; exact s _ _ e
/-- a new object, frozen -/
theorem Ext.laid {F H : Hp} (s : Same F H) {p : Addr} (n : H p = none) (o : HO) : Ext F H (upd F p o) (upd H p o) where
  same := same_upd n
  old := same_upd (s.free n)
  sub := same_upd2 s p o
  new := fun a x e => by
    by_cases hb : a = p
    · subst hb; exact .inr n
    · rw [upd_ne hb] at e; exact .inl e
/-- a new object, not frozen -/
theorem Ext.loose {F H : Hp} (s : Same F H) {p : Addr} (n : H p = none) (o : HO) : Ext F H F (upd H p o) where
  same := same_upd n
  old := Same.refl _
  sub := s.trans (same_upd n)
  new := fun a x e => .inl e

section
variable {B : Bd} {F H F' H' F2 H2 : Hp} {σ : L2.St} {ρ ρ' ρ2 : Rho}
theorem Mt.refl (m : Mt B F H σ ρ) : Stp B F H σ ρ F H ρ := ⟨m, Same.refl _, fun _ _ e => .inl e, fun _ _ e _ _ => e, fun _ e => e, fun _ e => e, fun _ c e => ⟨c, e, KStep.refl c⟩⟩
theorem Mt.hasOwn (m : Mt B F H σ ρ) {a : Addr} (h : Owns σ ρ a) : F a = none ∧ ∃ o, H a = some o := by
  obtain ⟨i, c, h1, h2, h3⟩ := h
  have q := m.cell i _ c h1 h2
  cases c with
  | no => cases h3
  | fz d => cases h3
  | ow d => obtain ⟨b, o, e, f, _, g, _⟩ := q; cases e; exact ⟨g, o, f⟩
  | va d => cases h3
  | bw d => obtain ⟨b, o, e, f, _, g, _⟩ := q; cases e; exact ⟨g, o, f⟩
theorem Mt.noOwn (m : Mt B F H σ ρ) {a : Addr} (h : H a = none) : ¬ Owns σ ρ a := fun x => by
  obtain ⟨_, o, e⟩ := m.hasOwn x
  rw [h] at e; cases e
theorem Stp.trans (x : Stp B F H σ ρ F' H' ρ') (y : Stp B F' H' σ ρ' F2 H2 ρ2) : Stp B F H σ ρ F2 H2 ρ2 where
  mt := y.mt
  old := x.old.trans y.old
  new := fun a o e => by
    rcases y.new a o e with h | h | h
    · exact x.new a o h
    · exact .inr (.inl (x.dom _ h))
    · exact .inr (.inr (x.own _ h))
  frm := fun a o e n t => y.frm a o (x.frm a o e n t) (fun q => n (x.own _ q)) t
  dom := fun a e => x.dom _ (y.dom _ e)
  own := fun a e => x.own _ (y.own _ e)
  kind := fun i c e => by
    obtain ⟨c1, e1, k1⟩ := x.kind i c e
    obtain ⟨c2, e2, k2⟩ := y.kind i c1 e1
    exact ⟨c2, e2, k1.trans k2⟩
/-- the heap grows -/
theorem Mt.grow (m : Mt B F H σ ρ) (e : Ext F H F' H') : Mt B F' H' σ ρ where
  sub := e.sub
  old := m.old.trans e.old
  new := fun a o h => by
    rcases e.new a o h with q | q
    · exact m.new a o q
    · exact .inr (m.dom _ q)
  frm := fun a o h n t => e.same _ _ (m.frm a o h n t)
  dom := fun a h => m.dom _ (e.same.free h)
  len := m.len
  cell := fun i v c h1 h2 => by
    have q := m.cell i v c h1 h2
    cases c with
    | no => trivial
    | fz d => obtain ⟨u, a, b⟩ := q; exact ⟨u, a, b.mono e.old⟩
    | ow d =>
      obtain ⟨a, o, h1, h2, h3, h4, h5⟩ := q
      refine ⟨a, o, h1, e.same _ _ h2, h3.mono e.old, ?_, h5⟩
      cases w : F' a with
      | none => rfl
      | some u =>
        rcases e.new a u w with z | z
        · rw [h4] at z; cases z
        · rw [h2] at z; cases z
    | va d => exact q
    | bw d =>
      obtain ⟨a, o, h1, h2, h3, h4, h5⟩ := q
      refine ⟨a, o, h1, e.same _ _ h2, h3.mono e.old, ?_, h5⟩
      cases w : F' a with
      | none => rfl
      | some u =>
        rcases e.new a u w with z | z
        · rw [h4] at z; cases z
        · rw [h2] at z; cases z
  apart := m.apart
  tabs := m.tabs.ext e.same
  ntab := fun q hq => by
    cases w : F' q.1 with
    | none => rfl
    | some o =>
      rcases e.new _ o w with z | z
      · rw [m.ntab q hq] at z; cases z
      · obtain ⟨ps, h1, _⟩ := m.tabs q hq
        rw [h1] at z; cases z
theorem Mt.ext (m : Mt B F H σ ρ) (e : Ext F H F' H') : Stp B F H σ ρ F' H' ρ :=
  ⟨m.grow e, e.old, fun a o h => (e.new a o h).elim .inl fun q => .inr (.inl q), fun _ _ h _ _ => e.same _ _ h, fun _ h => e.same.free h, fun _ h => h, fun _ c h => ⟨c, h, KStep.refl c⟩⟩
theorem Stp.ext (x : Stp B F H σ ρ F' H' ρ') (e : Ext F' H' F2 H2) : Stp B F H σ ρ F2 H2 ρ' := x.trans (x.mt.ext e)

theorem set_get {α : Type} {l : List α} {i j : Nat} {x y : α} (h : (l.set i x)[j]? = some y) : (i = j ∧ x = y) ∨ (i ≠ j ∧ l[j]? = some y) := by
  rw [List.getElem?_set] at h
  by_cases e : i = j
  · rw [if_pos e] at h
    split at h
    · exact .inl ⟨e, Option.some.inj h⟩
    · cases h
  · rw [if_neg e] at h
    exact .inr ⟨e, h⟩
/-- an owned list or dict is frozen -/
theorem Mt.freeze (m : Mt B F H σ ρ) {i : Nat} {d : D} {a : Addr} {o : HO} (hs : σ[i]? = some (some (.ref a))) (hc : ρ[i]? = some (.ow d)) (ho : H a = some o) (sh : Shal F d o) (hn : F a = none) (h0 : B.H0 a = none) :
    Stp B F H σ ρ (upd F a o) H (ρ.set i (.fz d)) := by
  have sF : Same F (upd F a o) := same_upd hn
  have il : i < ρ.length := (List.getElem?_eq_some_iff.mp hc).1
  have own_a : Owns σ ρ a := ⟨i, _, hs, hc, rfl⟩
  refine ⟨⟨fun b u e => ?_, m.old.trans sF, fun b u e => ?_, m.frm, m.dom, by rw [List.length_set]; exact m.len, fun j v c h1 h2 => ?_, fun j k b c c' h1 h2 h3 h4 h5 h6 => ?_, m.tabs, fun q hq => by rw [upd_ne (tabs_at m.tabs (ld_tbl ho sh.ld) q hq)]; exact m.ntab q hq⟩, sF, fun b u e => ?_, fun b u e _ _ => e, fun _ e => e, fun b e => ?_, fun j c e => ?_⟩
  · by_cases hb : b = a
    · subst hb; rw [upd_same] at e; cases e; exact ho
    · rw [upd_ne hb] at e; exact m.sub _ _ e
  · by_cases hb : b = a
    · subst hb; exact .inr h0
    · rw [upd_ne hb] at e; exact m.new _ _ e
  · rcases set_get h2 with ⟨rfl, rfl⟩ | ⟨ne, h2⟩
    · rw [hs] at h1; cases h1
      exact ⟨_, rfl, (sh.mono sF).den upd_same⟩
    · have q := m.cell j v c h1 h2
      cases c with
      | no => trivial
      | fz d' => obtain ⟨u, x, y⟩ := q; exact ⟨u, x, y.mono sF⟩
      | ow d' =>
        obtain ⟨b, u, rfl, x2, x3, x4, x5⟩ := q
        refine ⟨b, u, rfl, x2, x3.mono sF, ?_, x5⟩
        rw [upd_ne (fun z => ne (m.apart i j a _ _ hs (by rw [h1, z]) hc h2 rfl rfl))]
        exact x4
      | va d' => exact q
      | bw d' =>
        obtain ⟨b, u, rfl, x2, x3, x4, x5⟩ := q
        refine ⟨b, u, rfl, x2, x3.mono sF, ?_, x5⟩
        rw [upd_ne (fun z => ne (m.apart i j a _ _ hs (by rw [h1, z]) hc h2 rfl rfl))]
        exact x4
  · rcases set_get h3 with ⟨rfl, rfl⟩ | ⟨ne, h3⟩
    · cases h5
    · rcases set_get h4 with ⟨rfl, rfl⟩ | ⟨ne, h4⟩
      · cases h6
      · exact m.apart j k b c c' h1 h2 h3 h4 h5 h6
  · by_cases hb : b = a
    · subst hb; exact .inr (.inr own_a)
    · rw [upd_ne hb] at e; exact .inl e
  · obtain ⟨j, c, x1, x2, x3⟩ := e
    rcases set_get x2 with ⟨rfl, rfl⟩ | ⟨ne, x2⟩
    · cases x3
    · exact ⟨j, c, x1, x2, x3⟩
  · by_cases hj : i = j
    · subst hj
      rw [hc] at e; cases e
      exact ⟨.fz d, by rw [List.getElem?_set]; simp [il], trivial⟩
    · exact ⟨c, by rw [List.getElem?_set]; simp [hj, e], KStep.refl c⟩
/-- the content of an owned list or dict changes -/
theorem Mt.write (m : Mt B F H σ ρ) {i : Nat} {c d : Cell} {a : Addr} {o : HO} {z : D} (hs : σ[i]? = some (some (.ref a))) (hc : ρ[i]? = some c) (hown : c.own = true) (sh : Shal F z o)
    (hd : (∃ y, c = .ow y ∧ d = .ow z) ∨ ∃ y, c = .bw y ∧ d = .bw z) :
    Stp B F H σ ρ F (upd H a o) (ρ.set i d) := by
  have il : i < ρ.length := (List.getElem?_eq_some_iff.mp hc).1
  have own_a : Owns σ ρ a := ⟨i, _, hs, hc, hown⟩
  obtain ⟨hn, oa, ha⟩ := m.hasOwn own_a
  have dn : d.own = true := by rcases hd with ⟨y, _, rfl⟩ | ⟨y, _, rfl⟩ <;> rfl
  have nb : ∀ b u, B.H0 b = some u → b ∉ B.bs → b ≠ a := fun b u e n q => by
    have w := m.cell i _ c hs hc
    subst q
    rcases hd with ⟨y, rfl, _⟩ | ⟨y, rfl, _⟩
    · obtain ⟨b', o', q1, _, _, _, q5⟩ := w; cases q1; rw [e] at q5; cases q5
    · obtain ⟨b', o', q1, _, _, _, q5⟩ := w; cases q1; exact n q5
  have la : LD oa := by
    have w := m.cell i _ c hs hc
    rcases hd with ⟨y, rfl, _⟩ | ⟨y, rfl, _⟩
    · obtain ⟨b', o', q1, q2, q3, _, _⟩ := w; cases q1; rw [ha] at q2; cases q2; exact q3.ld
    · obtain ⟨b', o', q1, q2, q3, _, _⟩ := w; cases q1; rw [ha] at q2; cases q2; exact q3.ld
  refine ⟨⟨fun b u e => ?_, m.old, m.new, fun b u e n t => ?_, fun b e => ?_, by rw [List.length_set]; exact m.len, fun j v c' h1 h2 => ?_, fun j k b c1 c2 h1 h2 h3 h4 h5 h6 => ?_, tabs_but m.tabs (a := a) (fun b x z w => by rw [upd_ne w]; exact z) (fun x z => by rw [ha] at z; cases z; exact la), m.ntab⟩, Same.refl _, fun _ _ e => .inl e, fun b u e n t => ?_, fun b e => ?_, fun b e => ?_, fun j c' e => ?_⟩
  · rw [upd_ne (ne_of_none e hn)]; exact m.sub _ _ e
  · rw [upd_ne (nb b u e n)]; exact m.frm b u e n t
  · by_cases hb : b = a
    · subst hb; rw [upd_same] at e; cases e
    · rw [upd_ne hb] at e; exact m.dom _ e
  · rcases set_get h2 with ⟨rfl, rfl⟩ | ⟨ne, h2⟩
    · rw [hs] at h1; cases h1
      have w := m.cell i _ c hs hc
      rcases hd with ⟨y, rfl, rfl⟩ | ⟨y, rfl, rfl⟩
      · obtain ⟨b', o', q1, _, _, q4, q5⟩ := w; cases q1; exact ⟨a, o, rfl, upd_same, sh, q4, q5⟩
      · obtain ⟨b', o', q1, _, _, q4, q5⟩ := w; cases q1; exact ⟨a, o, rfl, upd_same, sh, q4, q5⟩
    · have q := m.cell j v c' h1 h2
      cases c' with
      | no => trivial
      | fz d' => exact q
      | ow d' =>
        obtain ⟨b, u, rfl, x2, x3, x4, x5⟩ := q
        refine ⟨b, u, rfl, ?_, x3, x4, x5⟩
        rw [upd_ne (fun z => ne (m.apart i j a _ _ hs (by rw [h1, z]) hc h2 hown rfl))]
        exact x2
      | va d' => exact q
      | bw d' =>
        obtain ⟨b, u, rfl, x2, x3, x4, x5⟩ := q
        refine ⟨b, u, rfl, ?_, x3, x4, x5⟩
        rw [upd_ne (fun z => ne (m.apart i j a _ _ hs (by rw [h1, z]) hc h2 hown rfl))]
        exact x2
  · have g : ∀ (j : Nat) (e : Cell), (ρ.set i d)[j]? = some e → e.own = true → ∃ e', ρ[j]? = some e' ∧ e'.own = true := fun j e x y => by
      rcases set_get x with ⟨rfl, rfl⟩ | ⟨_, x⟩
      · exact ⟨c, hc, hown⟩
      · exact ⟨e, x, y⟩
    obtain ⟨e1, y1, z1⟩ := g j c1 h3 h5
    obtain ⟨e2, y2, z2⟩ := g k c2 h4 h6
    exact m.apart j k b e1 e2 h1 h2 y1 y2 z1 z2
  · rw [upd_ne (fun q => n (by rw [q]; exact own_a))]; exact e
  · by_cases hb : b = a
    · subst hb; rw [upd_same] at e; cases e
    · rw [upd_ne hb] at e; exact e
  · obtain ⟨j, c', x1, x2, x3⟩ := e
    rcases set_get x2 with ⟨rfl, rfl⟩ | ⟨ne, x2⟩
    · exact ⟨i, c, x1, hc, hown⟩
    · exact ⟨j, c', x1, x2, x3⟩
  · by_cases hj : i = j
    · subst hj
      rw [hc] at e; cases e
      refine ⟨d, by rw [List.getElem?_set]; simp [il], ?_⟩
      rcases hd with ⟨y, rfl, rfl⟩ | ⟨y, rfl, rfl⟩ <;> trivial
    · exact ⟨c', by rw [List.getElem?_set]; simp [hj, e], KStep.refl c'⟩
/-- a slot gets a frozen value -/
theorem Mt.put (m : Mt B F H σ ρ) {i : Nat} {v : V} {d : D} (h : Den F d v) : Mt B F H (σ.set i (some v)) (ρ.set i (.fz d)) := by
  refine ⟨m.sub, m.old, m.new, m.frm, m.dom, by rw [List.length_set, List.length_set]; exact m.len, fun j u c h1 h2 => ?_, fun j k b c1 c2 h1 h2 h3 h4 h5 h6 => ?_, m.tabs, m.ntab⟩
  · rcases set_get h2 with ⟨rfl, rfl⟩ | ⟨ne, h2⟩
    · rcases set_get h1 with ⟨_, rfl⟩ | ⟨ne, h1⟩
      · exact ⟨v, rfl, h⟩
      · exact absurd rfl ne
    · rcases set_get h1 with ⟨e, _⟩ | ⟨_, h1⟩
      · exact absurd e ne
      · exact m.cell j u c h1 h2
  · rcases set_get h3 with ⟨_, rfl⟩ | ⟨n3, h3⟩
    · cases h5
    · rcases set_get h4 with ⟨_, rfl⟩ | ⟨n4, h4⟩
      · cases h6
      · rcases set_get h1 with ⟨e, _⟩ | ⟨_, h1⟩
        · exact absurd e n3
        · rcases set_get h2 with ⟨e, _⟩ | ⟨_, h2⟩
          · exact absurd e n4
          · exact m.apart j k b c1 c2 h1 h2 h3 h4 h5 h6
/-- a slot gets a new list or dict of its own -/
theorem Mt.putOwn (m : Mt B F H σ ρ) {i : Nat} {a : Addr} {o : HO} {d : D} (ho : H a = some o) (sh : Shal F d o) (hn : F a = none) (h0 : B.H0 a = none) (na : ¬ Owns σ ρ a) : Mt B F H (σ.set i (some (.ref a))) (ρ.set i (.ow d)) := by
  have g : ∀ (j : Nat) (c : Cell) (b : Addr), (σ.set i (some (.ref a)))[j]? = some (some (.ref b)) → (ρ.set i (.ow d))[j]? = some c → c.own = true → (j = i ∧ b = a) ∨ (σ[j]? = some (some (.ref b)) ∧ ρ[j]? = some c ∧ b ≠ a) := fun j c b h1 h2 h3 => by
    rcases set_get h2 with ⟨rfl, rfl⟩ | ⟨ne, h2⟩
    · rcases set_get h1 with ⟨_, e⟩ | ⟨ne, h1⟩
      · cases e; exact .inl ⟨rfl, rfl⟩
      · exact absurd rfl ne
    · rcases set_get h1 with ⟨e, _⟩ | ⟨_, h1⟩
      · exact absurd e ne
      · exact .inr ⟨h1, h2, fun q => na ⟨j, c, by rw [h1, q], h2, h3⟩⟩
  refine ⟨m.sub, m.old, m.new, m.frm, m.dom, by rw [List.length_set, List.length_set]; exact m.len, fun j u c h1 h2 => ?_, fun j k b c1 c2 h1 h2 h3 h4 h5 h6 => ?_, m.tabs, m.ntab⟩
  · rcases set_get h2 with ⟨rfl, rfl⟩ | ⟨ne, h2⟩
    · rcases set_get h1 with ⟨_, rfl⟩ | ⟨ne, h1⟩
      · exact ⟨a, o, rfl, ho, sh, hn, h0⟩
      · exact absurd rfl ne
    · rcases set_get h1 with ⟨e, _⟩ | ⟨_, h1⟩
      · exact absurd e ne
      · exact m.cell j u c h1 h2
  · rcases g j c1 b h1 h3 h5 with ⟨e1, e2⟩ | ⟨y1, y2, y3⟩
    · rcases g k c2 b h2 h4 h6 with ⟨z1, z2⟩ | ⟨z1, z2, z3⟩
      · rw [e1, z1]
      · exact absurd e2 z3
    · rcases g k c2 b h2 h4 h6 with ⟨z1, z2⟩ | ⟨z1, z2, z3⟩
      · exact absurd z2 y3
      · exact m.apart j k b c1 c2 y1 z1 y2 z2 h5 h6
/-- slots are forgotten -/
theorem Mt.drop (m : Mt B F H σ ρ) {σ' : L2.St} {ρ' : Rho} (hl : ρ'.length = σ'.length) (h : ∀ (i : Nat) c, ρ'[i]? = some c → c = .no ∨ (ρ[i]? = some c ∧ σ'[i]? = σ[i]?)) : Mt B F H σ' ρ' := by
  refine ⟨m.sub, m.old, m.new, m.frm, m.dom, hl, fun j u c h1 h2 => ?_, fun j k b c1 c2 h1 h2 h3 h4 h5 h6 => ?_, m.tabs, m.ntab⟩
  · rcases h j c h2 with rfl | ⟨x, y⟩
    · trivial
    · rw [y] at h1; exact m.cell j u c h1 x
  · rcases h j c1 h3 with rfl | ⟨x, y⟩
    · cases h5
    · rcases h k c2 h4 with rfl | ⟨x', y'⟩
      · cases h6
      · rw [y] at h1; rw [y'] at h2
        exact m.apart j k b c1 c2 h1 h2 x x' h5 h6
end
end Rn
end

section
set_option Elab.async false
set_option linter.all false
set_option maxRecDepth 100000
/-! Core2: judgements over readings: what a piece of syntax computes on environments. -/
namespace Rn
open PySem PySem.Spec L2

def bnd {α β : Type} (x : M α) (k : α → M β) : M β := fun ρ => match x ρ with
  | .ok a r => k a r
  | .ex c r => .ex c r
  | .no => .no
def ret {α : Type} (a : α) : M α := fun ρ => .ok a ρ
def lft {α : Type} (o : Option α) : M α := fun ρ => match o with
  | some a => .ok a ρ
  | none => .no
def stuck {α : Type} : M α := fun _ => .no

/-! ### transient values -/
inductive TV where
  | d (x : D)
  | s (i : Nat)
def cellD : Option Cell → Option D
  | some (.fz d) => some d
  | some (.ow d) => some d
  | some (.bw d) => some d
  | _ => none
def deref (ρ : Rho) : TV → Option D
  | .d x => some x
  | .s i => cellD ρ[i]?
def NowD (F H : Hp) (v : V) (d : D) : Prop := Den F d v ∨ ∃ a o, v = .ref a ∧ H a = some o ∧ Shal F d o
def TvOk (σ : L2.St) (F H : Hp) (ρ : Rho) : TV → V → Prop
  | .d x, v => Den F x v
  | .s i, v => σ[i]? = some (some v) ∧ ∃ d, cellD ρ[i]? = some d

section
variable {B : Bd} {F H F' H' F2 H2 : Hp} {σ : L2.St} {ρ ρ' ρ2 : Rho}
theorem TvOk.step {t : TV} {v : V} (h : TvOk σ F H ρ t v) (x : Stp B F H σ ρ F' H' ρ') : TvOk σ F' H' ρ' t v := by
  cases t with
  | d y => exact Den.mono x.old h
  | s i =>
    obtain ⟨h1, d, h2⟩ := h
    refine ⟨h1, ?_⟩
    cases e : ρ[i]? with
    | none => rw [e] at h2; cases h2
    | some c =>
      obtain ⟨c', e', k⟩ := x.kind i c e
      rw [e] at h2
      rw [e']
      cases c <;> cases c' <;> first | exact k.elim | exact ⟨_, rfl⟩ | cases h2
theorem TvOk.now {t : TV} {v : V} {d : D} (m : Mt B F H σ ρ) (h : TvOk σ F H ρ t v) (e : deref ρ t = some d) : NowD F H v d := by
  cases t with
  | d y => cases e; exact .inl h
  | s i =>
    obtain ⟨h1, _⟩ := h
    have e' : cellD ρ[i]? = some d := e
    cases q : ρ[i]? with
    | none => rw [q] at e'; cases e'
    | some c =>
      have w := m.cell i _ c h1 q
      rw [q] at e'
      cases c with
      | no => cases e'
      | fz y => cases e'; obtain ⟨u, z, g⟩ := w; cases z; exact .inl g
      | ow y => cases e'; obtain ⟨a, o, z, g, sh, _⟩ := w; cases z; exact .inr ⟨a, o, rfl, g, sh⟩
      | va y => cases e'
      | bw y => cases e'; obtain ⟨a, o, z, g, sh, _⟩ := w; cases z; exact .inr ⟨a, o, rfl, g, sh⟩
end

/-! ### what follows -/
def Post {α β : Type} (B : Bd) (EX : Str → Hp → Prop) (F H : Hp) (σ : L2.St) (ρ : Rho) (VP : L2.St → Hp → Hp → Rho → α → β → Prop) (r : R α) (Q : β → Hp → Prop) : Prop := match r with
  | .ok a ρ' => ∀ (v : β) (F' H' : Hp), Stp B F H σ ρ F' H' ρ' → VP σ F' H' ρ' a v → Q v H'
  | .ex c ρ' => ∀ (F' H' : Hp), Stp B F H σ ρ F' H' ρ' → EX c H'
  | .no => False
theorem Post.from {α β : Type} {B : Bd} {EX : Str → Hp → Prop} {F H F' H' : Hp} {σ : L2.St} {ρ ρ' : Rho} {VP : L2.St → Hp → Hp → Rho → α → β → Prop} {r : R α} {Q : β → Hp → Prop} (h : Post B EX F H σ ρ VP r Q) (x : Stp B F H σ ρ F' H' ρ') :
    Post B EX F' H' σ ρ' VP r Q := by
  cases r with
  | ok a r => exact fun v F2 H2 y p => h v F2 H2 (x.trans y) p
  | ex c r => exact fun F2 H2 y => h F2 H2 (x.trans y)
  | no => exact h

abbrev Rd1 (β : Type) := L2.St → Hp → (β → Hp → Prop) → Prop
def Ev {α β : Type} (B : Bd) (EX : Str → Hp → Prop) (VP : L2.St → Hp → Hp → Rho → α → β → Prop) (t : Rd1 β) (f : M α) : Prop :=
  ∀ (F H : Hp) (σ : L2.St) (ρ : Rho) (Q : β → Hp → Prop), Mt B F H σ ρ → Post B EX F H σ ρ VP (f ρ) Q → t σ H Q

/-- values of an expression: frozen; transient; a truth value; lists of such -/
abbrev VD : L2.St → Hp → Hp → Rho → D → V → Prop := fun _ F _ _ d v => Den F d v
abbrev VT : L2.St → Hp → Hp → Rho → TV → V → Prop := fun σ F H ρ t v => TvOk σ F H ρ t v
abbrev VB : L2.St → Hp → Hp → Rho → Bool → Bool → Prop := fun _ _ _ _ b v => v = b
abbrev VL : L2.St → Hp → Hp → Rho → List D → List V → Prop := fun _ F _ _ d v => DenL F d v
def TvAll (σ : L2.St) (F H : Hp) (ρ : Rho) : List TV → List V → Prop
  | [], vs => vs = []
  | t :: ts, vs => ∃ v r, vs = v :: r ∧ TvOk σ F H ρ t v ∧ TvAll σ F H ρ ts r
abbrev VTs : L2.St → Hp → Hp → Rho → List TV → List V → Prop := fun σ F H ρ t v => TvAll σ F H ρ t v
theorem TvAll.step {B : Bd} {F H F' H' : Hp} {σ : L2.St} {ρ ρ' : Rho} (x : Stp B F H σ ρ F' H' ρ') : ∀ {ts : List TV} {vs : List V}, TvAll σ F H ρ ts vs → TvAll σ F' H' ρ' ts vs
  | [], _, h => h
  | _ :: _, _, ⟨v, r, e, h, l⟩ => ⟨v, r, e, h.step x, TvAll.step x l⟩

/-- one piece, then another that leans on its value -/
theorem Ev.bind {α β γ δ : Type} {B : Bd} {EX : Str → Hp → Prop} {VP : L2.St → Hp → Hp → Rho → α → β → Prop} {VQ : L2.St → Hp → Hp → Rho → γ → δ → Prop} {ta : Rd1 β} {tb : β → Rd1 δ} {fa : M α} {k : α → M γ} (ha : Ev B EX VP ta fa)
    (hb : ∀ (a : α) (x : β) (F H : Hp) (σ : L2.St) (ρ : Rho) (Q : δ → Hp → Prop), Mt B F H σ ρ → VP σ F H ρ a x → Post B EX F H σ ρ VQ (k a ρ) Q → tb x σ H Q) :
    Ev B EX VQ (fun σ H Q => ta σ H fun x H1 => tb x σ H1 Q) (bnd fa k) := by
  intro F H σ ρ Q m h
  refine ha F H σ ρ _ m ?_
  unfold bnd at h
  cases e : fa ρ with
  | ok a r => rw [e] at h; exact fun v F' H' x p => hb a v F' H' σ r Q x.mt p (h.from x)
  | ex c r => rw [e] at h; exact h
  | no => rw [e] at h; exact h
/-- at a state: one more value from values that are there -/
theorem Post.ext {α : Type} {B : Bd} {EX : Str → Hp → Prop} {F H : Hp} {σ : L2.St} {ρ : Rho} {d : D} {Q : VK} (m : Mt B F H σ ρ) (h : Post B EX F H σ ρ VD (.ok d ρ) Q) : ∀ v F' H', Ext F H F' H' → Den F' d v → Q v H' :=
  fun v F' H' e p => h v F' H' (m.ext e) p

/-! ### names, constants -/
def mVar (i : Nat) : M D := fun ρ => match ρ[i]? with
  | some (.fz d) => .ok d ρ
  | some (.ow d) => .ok d (ρ.set i (.fz d))
  | _ => .no
def mVarT (i : Nat) : M TV := fun ρ => match cellD ρ[i]? with
  | some _ => .ok (.s i) ρ
  | none => .no
def mT (f : M D) : M TV := bnd f fun d => ret (.d d)
section
variable {B : Bd} {EX : Str → Hp → Prop}
theorem ev_var {i : Nat} : Ev B EX VD (tVar i) (mVar i) := by
  intro F H σ ρ Q m h
  unfold mVar at h
  cases e : ρ[i]? with
  | none => rw [e] at h; exact h.elim
  | some c =>
    have hi : i < σ.length := by rw [← m.len]; exact (List.getElem?_eq_some_iff.mp e).1
    have hv := List.getElem?_eq_getElem hi
    rw [e] at h
    have w := m.cell i _ c hv e
    cases c with
    | no => exact h.elim
    | va d => exact h.elim
    | bw d => exact h.elim
    | fz d => obtain ⟨u, e1, e2⟩ := w; exact ⟨u, by rw [hv, e1], h u F H m.refl e2⟩
    | ow d =>
      obtain ⟨a, o, e1, e2, e3, e4, e5⟩ := w
      rw [e1] at hv
      exact ⟨.ref a, hv, h (.ref a) (upd F a o) H (m.freeze hv e e2 e3 e4 e5) ((e3.mono (same_upd e4)).den upd_same)⟩
theorem ev_varT {i : Nat} : Ev B EX VT (tVar i) (mVarT i) := by
  intro F H σ ρ Q m h
  unfold mVarT at h
  cases q : cellD ρ[i]? with
  | none => rw [q] at h; exact h.elim
  | some d =>
    rw [q] at h
    cases e : ρ[i]? with
    | none => rw [e] at q; cases q
    | some c =>
      have hi : i < σ.length := by rw [← m.len]; exact (List.getElem?_eq_some_iff.mp e).1
      have hv := List.getElem?_eq_getElem hi
      have w := m.cell i _ c hv e
      have g : ∃ u, σ[i]? = some (some u) := by
        cases c with
        | no => rw [e] at q; cases q
        | fz d => obtain ⟨u, e1, e2⟩ := w; exact ⟨u, by rw [hv, e1]⟩
        | ow d => obtain ⟨a, o, e1, _⟩ := w; exact ⟨.ref a, by rw [hv, e1]⟩
        | va d => rw [e] at q; cases q
        | bw d => obtain ⟨a, o, e1, _⟩ := w; exact ⟨.ref a, by rw [hv, e1]⟩
      obtain ⟨u, hu⟩ := g
      exact ⟨u, hu, h u F H m.refl ⟨hu, d, q⟩⟩
theorem ev_T {t : TE} {f : M D} (h : Ev B EX VD t f) : Ev B EX VT t (mT f) := by
  refine Ev.bind (tb := fun x σ H Q => Q x H) h fun a x F H σ ρ Q m p q => ?_
  exact q x F H m.refl p
theorem ev_const {v : V} {d : D} (hd : ∀ F, Den F d v) : Ev B EX VD (tC v) (ret d) := fun F H σ ρ Q m h => h v F H m.refl (hd F)

/-! ### operators -/
def OpOk (r : R2) (f : D → D → Option D) : Prop := ∀ {F H : Hp} {v w : V} {d e z : D} {Q : VK}, Same F H → NowD F H v d → NowD F H w e → f d e = some z → (∀ v' F' H', Ext F H F' H' → Den F' z v' → Q v' H') → r v w H Q
def UnOk (r : V → Hp → VK → Prop) (f : D → Option D) : Prop := ∀ {F H : Hp} {v : V} {d z : D} {Q : VK}, Same F H → NowD F H v d → f d = some z → (∀ v' F' H', Ext F H F' H' → Den F' z v' → Q v' H') → r v H Q
def mOp (f : D → D → Option D) (a b : M TV) : M D := bnd a fun x => bnd b fun y => fun ρ => match deref ρ x, deref ρ y with
  | some d, some e => lft (f d e) ρ
  | _, _ => .no
def mUn (f : D → Option D) (a : M TV) : M D := bnd a fun x => fun ρ => match deref ρ x with
  | some d => lft (f d) ρ
  | _ => .no
theorem ev_op {r : R2} {f : D → D → Option D} {ta tb : TE} {fa fb : M TV} (ho : OpOk r f) (ha : Ev B EX VT ta fa) (hb : Ev B EX VT tb fb) : Ev B EX VD (tOp r ta tb) (mOp f fa fb) := by
  refine Ev.bind (tb := fun x σ H Q => tb σ H fun y H2 => r x y H2 Q) ha fun a x F H σ ρ Q m p q => ?_
  refine hb F H σ ρ _ m ?_
  unfold bnd at q
  cases e : fb ρ with
  | ex c r => rw [e] at q; exact q
  | no => rw [e] at q; exact q
  | ok b ρ1 =>
    rw [e] at q
    intro y F1 H1 s1 py
    have m1 := s1.mt
    have px := p.step s1
    cases e1 : deref ρ1 a with
    | none => simp only [e1] at q; exact q.elim
    | some d =>
      cases e2 : deref ρ1 b with
      | none => simp only [e1, e2] at q; exact q.elim
      | some d2 =>
        simp only [e1, e2] at q
        unfold lft at q
        cases e3 : f d d2 with
        | none => rw [e3] at q; exact q.elim
        | some z =>
          rw [e3] at q
          exact ho m1.sub (px.now m1 e1) (TvOk.now m1 py e2) e3 fun v' F' H' x' dz => q v' F' H' (s1.ext x') dz
theorem ev_un {r : V → Hp → VK → Prop} {f : D → Option D} {ta : TE} {fa : M TV} (ho : UnOk r f) (ha : Ev B EX VT ta fa) : Ev B EX VD (tUn r ta) (mUn f fa) := by
  refine Ev.bind (tb := fun x σ H Q => r x H Q) ha fun a x F H σ ρ Q m p q => ?_
  cases e1 : deref ρ a with
  | none => simp only [e1] at q; exact q.elim
  | some d =>
    simp only [e1] at q
    unfold lft at q
    cases e3 : f d with
    | none => rw [e3] at q; exact q.elim
    | some z =>
      rw [e3] at q
      exact ho m.sub (p.now m e1) e3 fun v' F' H' x' dz => q v' F' H' (m.ext x') dz

/-! ### arguments -/
def mNil {α : Type} : M (List α) := ret []
def mCons {α : Type} (a : M α) (r : M (List α)) : M (List α) := bnd a fun x => bnd r fun xs => ret (x :: xs)
theorem ev_nil : Ev B EX VL tNil mNil := fun F H σ ρ Q m h => h [] F H m.refl rfl
theorem ev_cons {ta : TE} {tr : TA} {fa : M D} {fr : M (List D)} (ha : Ev B EX VD ta fa) (hr : Ev B EX VL tr fr) : Ev B EX VL (tCons ta tr) (mCons fa fr) := by
  refine Ev.bind (tb := fun x σ H Q => tr σ H fun xs H2 => Q (x :: xs) H2) ha fun a x F H σ ρ Q m p q => ?_
  refine hr F H σ ρ _ m ?_
  unfold bnd at q
  cases e : fr ρ with
  | ex c r => rw [e] at q; exact q
  | no => rw [e] at q; exact q
  | ok b ρ1 =>
    rw [e] at q
    exact fun xs F1 H1 s1 pxs => q (x :: xs) F1 H1 s1 ⟨x, xs, rfl, Den.mono s1.old p, pxs⟩
theorem ev_nilT : Ev B EX VTs tNil mNil := fun F H σ ρ Q m h => h [] F H m.refl rfl
theorem ev_consT {ta : TE} {tr : TA} {fa : M TV} {fr : M (List TV)} (ha : Ev B EX VT ta fa) (hr : Ev B EX VTs tr fr) : Ev B EX VTs (tCons ta tr) (mCons fa fr) := by
  refine Ev.bind (tb := fun x σ H Q => tr σ H fun xs H2 => Q (x :: xs) H2) ha fun a x F H σ ρ Q m p q => ?_
  refine hr F H σ ρ _ m ?_
  unfold bnd at q
  cases e : fr ρ with
  | ex c r => rw [e] at q; exact q
  | no => rw [e] at q; exact q
  | ok b ρ1 =>
    rw [e] at q
    exact fun xs F1 H1 s1 pxs => q (x :: xs) F1 H1 s1 ⟨x, xs, rfl, p.step s1, pxs⟩
/-! ### calls of built-ins -/
def NowAll (F H : Hp) : List V → List D → Prop
  | vs, [] => vs = []
  | vs, d :: ds => ∃ v r, vs = v :: r ∧ NowD F H v d ∧ NowAll F H r ds
def derefs (ρ : Rho) : List TV → Option (List D)
  | [] => some []
  | t :: ts => match deref ρ t, derefs ρ ts with
    | some d, some ds => some (d :: ds)
    | _, _ => none
theorem TvAll.now {F H : Hp} {σ : L2.St} {ρ : Rho} (m : Mt B F H σ ρ) : ∀ {ts : List TV} {vs : List V} {ds : List D}, TvAll σ F H ρ ts vs → derefs ρ ts = some ds → NowAll F H vs ds
  | [], _, _, h, e => by cases e; exact h
  | t :: ts, _, ds, ⟨v, r, e, h, l⟩, q => by
    unfold derefs at q
    cases e1 : deref ρ t with
    | none => simp [e1] at q
    | some d =>
      cases e2 : derefs ρ ts with
      | none => simp [e1, e2] at q
      | some ds' =>
        simp [e1, e2] at q
        subst q
        exact ⟨v, r, e, h.now m e1, TvAll.now m l e2⟩
def CallOk (r : List V → Hp → VK → Prop) (f : List D → Option D) : Prop := ∀ {F H : Hp} {vs : List V} {ds : List D} {z : D} {Q : VK}, Same F H → NowAll F H vs ds → f ds = some z → (∀ v' F' H', Ext F H F' H' → Den F' z v' → Q v' H') → r vs H Q
def mCB (f : List D → Option D) (a : M (List TV)) : M D := bnd a fun xs => fun ρ => match derefs ρ xs with
  | some ds => lft (f ds) ρ
  | none => .no
theorem ev_cb {r : List V → Hp → VK → Prop} {f : List D → Option D} {ta : TA} {fa : M (List TV)} (ho : CallOk r f) (ha : Ev B EX VTs ta fa) : Ev B EX VD (tCB r ta) (mCB f fa) := by
  refine Ev.bind (tb := fun x σ H Q => r x H Q) ha fun a x F H σ ρ Q m p q => ?_
  cases e1 : derefs ρ a with
  | none => simp only [e1] at q; exact q.elim
  | some d =>
    simp only [e1] at q
    unfold lft at q
    cases e3 : f d with
    | none => rw [e3] at q; exact q.elim
    | some z =>
      rw [e3] at q
      exact ho m.sub (TvAll.now m p e1) e3 fun v' F' H' x' dz => q v' F' H' (m.ext x') dz
/-! ### displays -/
def mTup (a : M (List D)) : M D := bnd a fun ds => fun ρ => if ds.length ≤ 100 then .ok (.tuple ds) ρ else .no
theorem fewer {n : Nat} (h : n ≤ 100) : n ≤ sizeLine := Nat.le_trans h (by decide)
theorem ev_tup {ta : TA} {fa : M (List D)} (ha : Ev B EX VL ta fa) : Ev B EX VD (tTup ta) (mTup fa) := by
  refine Ev.bind (tb := fun xs σ H Q => xs.length ≤ sizeLine ∧ ∀ p, H p = none → Q (V.ref p) (upd H p (.tup xs))) ha fun a x F H σ ρ Q m p q => ?_
  by_cases hl : a.length ≤ 100
  · simp only [if_pos hl] at q
    refine ⟨by rw [← DenL.len p]; exact fewer hl, fun c hc => ?_⟩
    have e := Ext.laid m.sub hc (.tup x)
    exact q (.ref c) _ _ (m.ext e) ⟨c, x, rfl, upd_same, DenL.mono e.old p⟩
  · simp only [if_neg hl] at q; exact q.elim
/-! ### fresh lists -/
def VFr (H : Hp) (F' H' : Hp) (d : D) (v : V) : Prop := ∃ a o, v = .ref a ∧ H' a = some o ∧ Shal F' d o ∧ F' a = none ∧ H a = none
def EvF (B : Bd) (EX : Str → Hp → Prop) (t : TE) (f : M D) : Prop :=
  ∀ (F H : Hp) (σ : L2.St) (ρ : Rho) (Q : VK), Mt B F H σ ρ → Post B EX F H σ ρ (fun _ F' H' _ d v => VFr H F' H' d v) (f ρ) Q → t σ H Q
theorem Mt.freeze0 {F H : Hp} {σ : L2.St} {ρ : Rho} (m : Mt B F H σ ρ) {a : Addr} {o : HO} (ho : H a = some o) (hn : F a = none) (h0 : B.H0 a = none) (na : ¬ Owns σ ρ a) (nt : ∀ q ∈ B.T, q.1 ≠ a) : Mt B (upd F a o) H σ ρ := by
  have sF : Same F (upd F a o) := same_upd hn
  refine ⟨fun b u e => ?_, m.old.trans sF, fun b u e => ?_, m.frm, m.dom, m.len, fun j v c h1 h2 => ?_, m.apart, m.tabs, fun q hq => by rw [upd_ne (nt q hq)]; exact m.ntab q hq⟩
  · by_cases hb : b = a
    · subst hb; rw [upd_same] at e; cases e; exact ho
    · rw [upd_ne hb] at e; exact m.sub _ _ e
  · by_cases hb : b = a
    · subst hb; exact .inr h0
    · rw [upd_ne hb] at e; exact m.new _ _ e
  · have q := m.cell j v c h1 h2
    cases c with
    | no => trivial
    | fz d' => obtain ⟨u, x, y⟩ := q; exact ⟨u, x, y.mono sF⟩
    | ow d' =>
      obtain ⟨b, u, rfl, x2, x3, x4, x5⟩ := q
      refine ⟨b, u, rfl, x2, x3.mono sF, ?_, x5⟩
      rw [upd_ne (fun z => na ⟨j, _, by rw [h1, z], h2, rfl⟩)]
      exact x4
    | va d' => exact q
    | bw d' =>
      obtain ⟨b, u, rfl, x2, x3, x4, x5⟩ := q
      refine ⟨b, u, rfl, x2, x3.mono sF, ?_, x5⟩
      rw [upd_ne (fun z => na ⟨j, _, by rw [h1, z], h2, rfl⟩)]
      exact x4
theorem Stp.freeze0 {F H F' H' : Hp} {σ : L2.St} {ρ ρ' : Rho} (m : Mt B F H σ ρ) (x : Stp B F H σ ρ F' H' ρ') {a : Addr} {o : HO} (ho : H' a = some o) (hn : F' a = none) (h0 : H a = none) : Stp B F H σ ρ (upd F' a o) H' ρ' := by
  have na : ¬ Owns σ ρ' a := fun q => m.noOwn h0 (x.own _ q)
  refine ⟨x.mt.freeze0 ho hn (m.dom _ h0) na (tabs_at m.tabs (none_tbl h0)), x.old.trans (same_upd hn), fun b u e => ?_, x.frm, x.dom, x.own, x.kind⟩
  by_cases hb : b = a
  · subst hb; exact .inr (.inl h0)
  · rw [upd_ne hb] at e; exact x.new _ _ e
/-- a fresh list as a frozen value -/
theorem ev_ofF {t : TE} {f : M D} (h : EvF B EX t f) : Ev B EX VD t f := by
  intro F H σ ρ Q m p
  refine h F H σ ρ Q m ?_
  cases e : f ρ with
  | no => rw [e] at p; exact p
  | ex c r => rw [e] at p; exact p
  | ok d r =>
    rw [e] at p
    rintro v F' H' x ⟨a, o, rfl, h1, h2, h3, h4⟩
    exact p (.ref a) (upd F' a o) H' (Stp.freeze0 m x h1 h3 h4) ((h2.mono (same_upd h3)).den upd_same)
def mLst (a : M (List D)) : M D := bnd a fun ds => fun ρ => if ds.length ≤ 100 then .ok (.list ds) ρ else .no
theorem evf_bind {α β : Type} {VP : L2.St → Hp → Hp → Rho → α → β → Prop} {ta : Rd1 β} {tb : β → TE} {fa : M α} {k : α → M D} (ha : Ev B EX VP ta fa)
    (hb : ∀ (a : α) (x : β) (F H : Hp) (σ : L2.St) (ρ : Rho) (Q : VK), Mt B F H σ ρ → VP σ F H ρ a x → Post B EX F H σ ρ (fun _ F' H' _ d v => VFr H F' H' d v) (k a ρ) Q → tb x σ H Q) :
    EvF B EX (fun σ H Q => ta σ H fun x H1 => tb x σ H1 Q) (bnd fa k) := by
  intro F H σ ρ Q m h
  refine ha F H σ ρ _ m ?_
  unfold bnd at h
  cases e : fa ρ with
  | ok a r =>
    rw [e] at h
    intro v F' H' x p
    refine hb a v F' H' σ r Q x.mt p ?_
    have h' : Post B EX F H σ ρ (fun _ F' H' _ d v => VFr H F' H' d v) (k a r) Q := h
    cases e2 : k a r with
    | no => rw [e2] at h'; exact h'
    | ex c r' => rw [e2] at h'; exact fun F2 H2 y => h' F2 H2 (x.trans y)
    | ok d r' =>
      rw [e2] at h'
      rintro u F2 H2 y ⟨b, o, h1, h2, h3, h4, h5⟩
      exact h' u F2 H2 (x.trans y) ⟨b, o, h1, h2, h3, h4, x.dom _ h5⟩
  | ex c r => rw [e] at h; exact h
  | no => rw [e] at h; exact h
theorem evf_lst {ta : TA} {fa : M (List D)} (ha : Ev B EX VL ta fa) : EvF B EX (tLst ta) (mLst fa) := by
  refine evf_bind (tb := fun xs σ H Q => xs.length ≤ sizeLine ∧ ∀ p, H p = none → Q (V.ref p) (upd H p (.lst xs))) ha fun a x F H σ ρ Q m p q => ?_
  by_cases hl : a.length ≤ 100
  · simp only [if_pos hl] at q
    refine ⟨by rw [← DenL.len p]; exact fewer hl, fun c hc => ?_⟩
    exact q (.ref c) F _ (m.ext (Ext.loose m.sub hc (.lst x))) ⟨c, _, rfl, upd_same, p, m.sub.free hc, hc⟩
  · simp only [if_neg hl] at q; exact q.elim
/-- operations that make a fresh list -/
def OpOkF (r : R2) (f : D → D → Option D) : Prop := ∀ {F H : Hp} {v w : V} {d e z : D} {Q : VK}, Same F H → NowD F H v d → NowD F H w e → f d e = some z → (∀ p o, H p = none → Shal F z o → Q (.ref p) (upd H p o)) → r v w H Q
theorem evf_op {r : R2} {f : D → D → Option D} {ta tb : TE} {fa fb : M TV} (ho : OpOkF r f) (ha : Ev B EX VT ta fa) (hb : Ev B EX VT tb fb) : EvF B EX (tOp r ta tb) (mOp f fa fb) := by
  refine evf_bind (tb := fun x σ H Q => tb σ H fun y H2 => r x y H2 Q) ha fun a x F H σ ρ Q m p q => ?_
  refine hb F H σ ρ _ m ?_
  unfold bnd at q
  cases e : fb ρ with
  | ex c r => rw [e] at q; exact q
  | no => rw [e] at q; exact q
  | ok b ρ1 =>
    rw [e] at q
    intro y F1 H1 s1 py
    have m1 := s1.mt
    have px := p.step s1
    cases e1 : deref ρ1 a with
    | none => simp only [e1] at q; exact q.elim
    | some d =>
      cases e2 : deref ρ1 b with
      | none => simp only [e1, e2] at q; exact q.elim
      | some d2 =>
        simp only [e1, e2] at q
        unfold lft at q
        cases e3 : f d d2 with
        | none => rw [e3] at q; exact q.elim
        | some z =>
          rw [e3] at q
          refine ho m1.sub (px.now m1 e1) (TvOk.now m1 py e2) e3 fun c o hc sh => ?_
          exact q (.ref c) F1 _ (s1.ext (Ext.loose m1.sub hc o)) ⟨c, o, rfl, upd_same, sh, m1.sub.free hc, s1.dom _ hc⟩
def CallOkF (r : List V → Hp → VK → Prop) (f : List D → Option D) : Prop := ∀ {F H : Hp} {vs : List V} {ds : List D} {z : D} {Q : VK}, Same F H → NowAll F H vs ds → f ds = some z → (∀ p o, H p = none → Shal F z o → Q (.ref p) (upd H p o)) → r vs H Q
theorem evf_cb {r : List V → Hp → VK → Prop} {f : List D → Option D} {ta : TA} {fa : M (List TV)} (ho : CallOkF r f) (ha : Ev B EX VTs ta fa) : EvF B EX (tCB r ta) (mCB f fa) := by
  refine evf_bind (tb := fun x σ H Q => r x H Q) ha fun a x F H σ ρ Q m p q => ?_
  cases e1 : derefs ρ a with
  | none => simp only [e1] at q; exact q.elim
  | some d =>
    simp only [e1] at q
    unfold lft at q
    cases e3 : f d with
    | none => rw [e3] at q; exact q.elim
    | some z =>
      rw [e3] at q
      refine ho m.sub (TvAll.now m p e1) e3 fun c o hc sh => ?_
      exact q (.ref c) F _ (m.ext (Ext.loose m.sub hc o)) ⟨c, o, rfl, upd_same, sh, m.sub.free hc, hc⟩
/-! ### tests -/
def asBool : D → Option Bool
  | .bool b => some b
  | _ => none
def mTst (f : M D) : M Bool := bnd f fun d => lft (asBool d)
theorem asBool_eq {d : D} {b : Bool} (h : asBool d = some b) : d = .bool b := by
  cases d <;> simp [asBool] at h
  rw [h]
theorem ev_tst {t : TE} {f : M D} (h : Ev B EX VD t f) : Ev B EX VB (tTest t) (mTst f) := by
  refine Ev.bind (tb := fun x σ H Q => ∃ k, x = .bl k ∧ Q k H) h fun a x F H σ ρ Q m p q => ?_
  unfold lft at q
  cases e : asBool a with
  | none => rw [e] at q; exact q.elim
  | some b =>
    rw [e] at q
    have e2 := asBool_eq e
    subst e2
    exact ⟨b, p, q b F H m.refl rfl⟩
def mAnd (a b : M Bool) : M Bool := bnd a fun x => if x = true then b else ret false
def mOr (a b : M Bool) : M Bool := bnd a fun x => if x = true then ret true else b
def mNot (a : M Bool) : M Bool := bnd a fun x => ret (!x)
theorem ev_and {t u : TT} {f g : M Bool} (h : Ev B EX VB t f) (h2 : Ev B EX VB u g) : Ev B EX VB (tAnd t u) (mAnd f g) := by
  refine Ev.bind (tb := fun c σ H Q => if c = true then u σ H Q else Q false H) h fun a x F H σ ρ Q m p q => ?_
  cases p
  cases a with
  | true => exact h2 F H σ ρ Q m q
  | false => exact q false F H m.refl rfl
theorem ev_or {t u : TT} {f g : M Bool} (h : Ev B EX VB t f) (h2 : Ev B EX VB u g) : Ev B EX VB (tOr t u) (mOr f g) := by
  refine Ev.bind (tb := fun c σ H Q => if c = true then Q true H else u σ H Q) h fun a x F H σ ρ Q m p q => ?_
  cases p
  cases a with
  | false => exact h2 F H σ ρ Q m q
  | true => exact q true F H m.refl rfl
theorem ev_not {t : TT} {f : M Bool} (h : Ev B EX VB t f) : Ev B EX VB (tNot t) (mNot f) := by
  refine Ev.bind (tb := fun c σ H Q => Q (!c) H) h fun a x F H σ ρ Q m p q => ?_
  cases p
  exact q (!a) F H m.refl rfl
/-- and, or, not as values -/
def mAndV (a b : M D) : M D := bnd a fun x => match asBool x with
  | some true => b
  | some false => ret (.bool false)
  | none => stuck
def mOrV (a b : M D) : M D := bnd a fun x => match asBool x with
  | some true => ret (.bool true)
  | some false => b
  | none => stuck
def mNotV (a : M D) : M D := bnd a fun x => match asBool x with
  | some b => ret (.bool (!b))
  | none => stuck
theorem ev_andV {t u : TE} {f g : M D} (h : Ev B EX VD t f) (h2 : Ev B EX VD u g) : Ev B EX VD (tAndV t u) (mAndV f g) := by
  refine Ev.bind (tb := fun x σ H Q => ∃ c, x = .bl c ∧ if c = true then u σ H Q else Q (.bl false) H) h fun a x F H σ ρ Q m p q => ?_
  cases e : asBool a with
  | none => simp only [e] at q; exact q.elim
  | some b =>
    simp only [e] at q
    have e2 := asBool_eq e
    subst e2
    cases b with
    | true => exact ⟨true, p, h2 F H σ ρ Q m q⟩
    | false => exact ⟨false, p, q (.bl false) F H m.refl rfl⟩
theorem ev_orV {t u : TE} {f g : M D} (h : Ev B EX VD t f) (h2 : Ev B EX VD u g) : Ev B EX VD (tOrV t u) (mOrV f g) := by
  refine Ev.bind (tb := fun x σ H Q => ∃ c, x = .bl c ∧ if c = true then Q (.bl true) H else u σ H Q) h fun a x F H σ ρ Q m p q => ?_
  cases e : asBool a with
  | none => simp only [e] at q; exact q.elim
  | some b =>
    simp only [e] at q
    have e2 := asBool_eq e
    subst e2
    cases b with
    | false => exact ⟨false, p, h2 F H σ ρ Q m q⟩
    | true => exact ⟨true, p, q (.bl true) F H m.refl rfl⟩
theorem ev_notV {t : TE} {f : M D} (h : Ev B EX VD t f) : Ev B EX VD (tNotV t) (mNotV f) := by
  refine Ev.bind (tb := fun x σ H Q => ∃ c, x = V.bl c ∧ Q (V.bl (!c)) H) h fun a x F H σ ρ Q m p q => ?_
  cases e : asBool a with
  | none => simp only [e] at q; exact q.elim
  | some b =>
    simp only [e] at q
    have e2 := asBool_eq e
    subst e2
    exact ⟨b, p, q (.bl (!b)) F H m.refl rfl⟩
def mIf {α : Type} (c : M Bool) (a b : M α) : M α := bnd c fun x => if x = true then a else b
theorem ev_if {c : TT} {ta tb : TE} {fc : M Bool} {fa fb : M D} (hc : Ev B EX VB c fc) (ha : Ev B EX VD ta fa) (hb : Ev B EX VD tb fb) : Ev B EX VD (tIf c ta tb) (mIf fc fa fb) := by
  refine Ev.bind (tb := fun c σ H Q => if c = true then ta σ H Q else tb σ H Q) hc fun a x F H σ ρ Q m p q => ?_
  cases p
  cases a with
  | true => exact ha F H σ ρ Q m q
  | false => exact hb F H σ ρ Q m q
/-- a op b op c -/
def mChain (f g : D → D → Option D) (a b c : M TV) : M D := bnd a fun x => bnd b fun y => fun ρ => match deref ρ x, deref ρ y with
  | some d, some e => (match (f d e).bind asBool with
    | some true => bnd c (fun z => fun ρ => match deref ρ y, deref ρ z with
      | some e, some k => lft (g e k) ρ
      | _, _ => .no) ρ
    | some false => .ok (.bool false) ρ
    | none => .no)
  | _, _ => .no
theorem ev_chain {r r' : R2} {f g : D → D → Option D} {ta tb tc : TE} {fa fb fc : M TV} (ho : OpOk r f) (ho' : OpOk r' g) (ha : Ev B EX VT ta fa) (hb : Ev B EX VT tb fb) (hc : Ev B EX VT tc fc) : Ev B EX VD (tChain r r' ta tb tc) (mChain f g fa fb fc) := by
  refine Ev.bind (tb := fun x σ H Q => tb σ H fun y H2 => r x y H2 fun z H3 => ∃ k, z = .bl k ∧ (if k = true then tc σ H3 fun w' H4 => r' y w' H4 Q else Q (.bl false) H3)) ha fun a x F H σ ρ Q m p q => ?_
  refine hb F H σ ρ _ m ?_
  unfold bnd at q
  cases e : fb ρ with
  | ex c r => rw [e] at q; exact q
  | no => rw [e] at q; exact q
  | ok b ρ1 =>
    rw [e] at q
    intro y F1 H1 s1 py
    have m1 := s1.mt
    have px := p.step s1
    cases e1 : deref ρ1 a with
    | none => simp only [e1] at q; exact q.elim
    | some d =>
      cases e2 : deref ρ1 b with
      | none => simp only [e1, e2] at q; exact q.elim
      | some d2 =>
        simp only [e1, e2] at q
        cases e3 : f d d2 with
        | none => rw [e3] at q; exact q.elim
        | some z =>
          rw [e3] at q
          cases e4 : asBool z with
          | none => simp only [Option.bind, e4] at q; exact q.elim
          | some k =>
            simp only [Option.bind, e4] at q
            have e5 := asBool_eq e4
            subst e5
            refine ho m1.sub (px.now m1 e1) (TvOk.now m1 py e2) e3 fun v' F2 H2 x2 dz => ⟨k, dz, ?_⟩
            have s2 := m1.ext x2
            cases k with
            | false => exact q (.bl false) F2 H2 (s1.trans s2) rfl
            | true =>
              refine hc F2 H2 σ ρ1 _ s2.mt ?_
              have q2 : Post B EX F2 H2 σ ρ1 VD (bnd fc (fun z => fun ρ => match deref ρ b, deref ρ z with
                | some e, some k => lft (g e k) ρ
                | _, _ => .no) ρ1) Q := Post.from q (s1.trans s2)
              unfold bnd at q2
              cases e6 : fc ρ1 with
              | ex c r => rw [e6] at q2; exact q2
              | no => rw [e6] at q2; exact q2
              | ok c ρ3 =>
                rw [e6] at q2
                intro w F3 H3 s3 pw
                have py3 := (TvOk.step py s2).step s3
                cases e7 : deref ρ3 b with
                | none => simp only [e7] at q2; exact q2.elim
                | some d7 =>
                  cases e8 : deref ρ3 c with
                  | none => simp only [e7, e8] at q2; exact q2.elim
                  | some d8 =>
                    simp only [e7, e8] at q2
                    unfold lft at q2
                    cases e9 : g d7 d8 with
                    | none => rw [e9] at q2; exact q2.elim
                    | some z9 =>
                      rw [e9] at q2
                      exact ho' s3.mt.sub (py3.now s3.mt e7) (TvOk.now s3.mt pw e8) e9 fun v' F' H' x' dz => q2 v' F' H' (s3.ext x') dz
end
end Rn
end

section
set_option Elab.async false
set_option linter.all false
set_option autoImplicit false
set_option maxRecDepth 100000
set_option maxHeartbeats 4000000
/-! CoreT: tuple * int, also by 0 and 1. -/
namespace Rn
open PySem PySem.Spec PyProof.Rows L2
theorem tuple_mul1 (l : Addr) (items : Array Value) (n : Nat) (dd : Option Addr) (sl : Array (Option Value)) (u : Tok) :
    Meets (Builtin.«tuple.__mul__» ⟨[.ref l, .int 1 u], []⟩) (fun _ R s => s.heap.get? l = some { cls := .type "tuple", dict := dd, data := .seq items n, slots := sl } ∧ R (.ok (.ret (Value.ref l))) s) :=
  .of_wp fun prog w A R s h => by
    obtain ⟨hp, g, d, tk, os⟩ := s
    obtain ⟨hl, h⟩ := h
    have f1 := AutoSeq1.idx_int
    have c0 : (decide ((1 : Int) < -(2 ^ 63)) || decide ((1 : Int) ≥ 2 ^ 63)) = false := by decide
    have c1 : (items.isEmpty || (1 : Int) == 1) = true := by simp
    wp_walk using wpAny_loadPart' hl
    repeat (first
      | (refine wpAny_ite_false (decide_eq_false (by rw [c0]; exact Bool.false_ne_true)) ?_; wp_walk using wpAny_loadPart' hl)
      | (refine wpAny_ite_true (decide_eq_true (by rw [c1])) ?_; wp_walk using wpAny_loadPart' hl))
    exact ⟨_, rfl, h⟩
theorem tuple_mul0 (l : Addr) (items : Array Value) (n : Nat) (dd : Option Addr) (sl : Array (Option Value)) (x : Int) (u : Tok) (c0 : (decide (x < -(2 ^ 63)) || decide (x ≥ 2 ^ 63)) = false) (c1 : (items.isEmpty || x == 1) = false) (c2 : (decide (x ≤ 0) || items.isEmpty) = true) :
    Meets (Builtin.«tuple.__mul__» ⟨[.ref l, .int x u], []⟩) (fun _ R s => s.heap.get? l = some { cls := .type "tuple", dict := dd, data := .seq items n, slots := sl } ∧
      R (.ok (.ret (Value.ref s.heap.objs.size))) { s with heap := s.heap.push { cls := Value.type "tuple", data := Data.seq #[] }, toks := s.toks }) :=
  .of_wp fun prog w A R s h => by
    obtain ⟨hp, g, d, tk, os⟩ := s
    obtain ⟨hl, h⟩ := h
    have f1 := AutoSeq1.idx_int
    wp_walk using wpAny_loadPart' hl
    repeat (first
      | (refine wpAny_ite_false (decide_eq_false (by rw [c0]; exact Bool.false_ne_true)) ?_; wp_walk using wpAny_loadPart' hl)
      | (refine wpAny_ite_false (decide_eq_false (by rw [c1]; exact Bool.false_ne_true)) ?_; wp_walk using wpAny_loadPart' hl)
      | (refine wpAny_ite_true (decide_eq_true (by rw [c2])) ?_; wp_walk using wpAny_loadPart' hl))
    exact ⟨_, rfl, h⟩
def rRepA (K : PySem.W.Frag) : R2 := fun x y H Q => ∃ l k xs, x = .ref l ∧ y = .int k ∧ SqT K H l xs ∧ xs ≠ [] ∧ -1000 ≤ k ∧ k ≤ 1000 ∧ xs.length ≤ 1000 ∧ (2 ≤ k → ∀ p, H p = none → Q (.ref p) (upd H p (.tup (List.replicate k.toNat xs).flatten))) ∧ (k = 1 → Q (.ref l) H) ∧ (k ≤ 0 → ∀ p, H p = none → Q (.ref p) (upd H p (.tup [])))
section
variable {X : Cx}
theorem op_repA : OpR X (binaryOp .Mult) (rRepA X.K) := by
  intro pins s σ H x y v u Q I rx ry h
  obtain ⟨l, k, xs, rfl, rfl, hT, hne, h0, h1, hz, q2, q1, q0⟩ := h
  by_cases hk2 : 2 ≤ k
  · exact op_repT pins s σ H _ _ v u Q I rx ry ⟨l, k, xs, rfl, rfl, hT, hne, hk2, h1, hz, q2 hk2⟩
  cases rx
  obtain ⟨t, rfl⟩ := ry
  obtain ⟨its, r, ⟨⟨cls, dd, data, sl⟩, ho, hc, n, hd⟩, hs⟩ := I.tuple hT
  simp only at hc hd
  subst hc hd
  have hle : its.length = xs.length := r.length.symm
  have hi : its.toArray.isEmpty = false := by
    cases its with
    | nil => exact absurd (List.eq_nil_of_length_eq_zero hle.symm) hne
    | cons a b => rfl
  have c0 : (decide (k < -(2 ^ 63)) || decide (k ≥ 2 ^ 63)) = false := by
    rw [decide_eq_false (by omega), decide_eq_false (by omega)] <;> rfl
  by_cases hk1 : k = 1
  · subst hk1
    exact wpAny_binaryOp_repeat_ref (T := "tuple") (U := "int") (by decide) ⟨_, ho, rfl⟩ (fun s' => typeIs_int s' 1 t) noFill_tuple_mul F.fills_int_mul F.slot_int_rmul repeat_tuple F.slot_int_index.lookup
      (call_meets F.slot_int_rmul (typeIs_int s 1 t) F.entry_int_rmul (F.args_int_rmul_2 _ _) (int_rmul_tuple 1 t l its.toArray n dd sl)
        ⟨ho, rfl, ⟨_, ho, rfl⟩, call_meets F.slot_tuple_mul ⟨_, ho, rfl⟩ F.entry_tuple_mul (F.args_tuple_mul_2 _ _) (tuple_mul1 l its.toArray n dd sl t) ⟨ho, .ref l, H, I, rfl, q1 rfl⟩⟩)
  · have hk0 : k ≤ 0 := by omega
    have c1 : (its.toArray.isEmpty || k == 1) = false := by
      rw [hi, Bool.false_or]
      exact beq_eq_false_iff_ne.mpr hk1
    have c2 : (decide (k ≤ 0) || its.toArray.isEmpty) = true := by
      rw [decide_eq_true hk0]
      rfl
    refine wpAny_binaryOp_repeat_ref (T := "tuple") (U := "int") (by decide) ⟨_, ho, rfl⟩ (fun s' => typeIs_int s' k t) noFill_tuple_mul F.fills_int_mul F.slot_int_rmul repeat_tuple F.slot_int_index.lookup
      (call_meets F.slot_int_rmul (typeIs_int s k t) F.entry_int_rmul (F.args_int_rmul_2 _ _) (int_rmul_tuple k t l its.toArray n dd sl)
        ⟨ho, rfl, ⟨_, ho, rfl⟩, call_meets F.slot_tuple_mul ⟨_, ho, rfl⟩ F.entry_tuple_mul (F.args_tuple_mul_2 _ _) (tuple_mul0 l its.toArray n dd sl k t c0 c1 c2) ⟨ho, ?_⟩⟩)
    exact ⟨.ref s.heap.objs.size, _, I.laid (t' := s.toks) (o := .tup []) (fun b ob q => Heap.get?_push_of_some _ q) (Nat.le_refl _) ⟨Nat.zero_le _, [], .nil, IsTup.new _ _⟩, rfl, q0 hk0 _ (I.hok.fresh (Nat.le_refl _))⟩
end
end Rn
end

section
set_option Elab.async false
set_option linter.all false
set_option maxRecDepth 100000
/-! Core3: operations on data, and that the readings of the layer's rules give them. -/
namespace Rn
open PySem PySem.Spec L2

/-! ### now -/
section
variable {F H : Hp} {v : V}
theorem NowD.none (h : NowD F H v .none) : v = .non := by
  rcases h with h | ⟨a, o, _, _, h⟩
  · exact h
  · cases o <;> exact h.elim
theorem NowD.bool {b : Bool} (h : NowD F H v (.bool b)) : v = .bl b := by
  rcases h with h | ⟨a, o, _, _, h⟩
  · exact h
  · cases o <;> exact h.elim
theorem NowD.int {b : Int} (h : NowD F H v (.int b)) : v = .int b := by
  rcases h with h | ⟨a, o, _, _, h⟩
  · exact h
  · cases o <;> exact h.elim
theorem NowD.str {b : Str} (h : NowD F H v (.str b)) : v = .str b := by
  rcases h with h | ⟨a, o, _, _, h⟩
  · exact h
  · cases o <;> exact h.elim
theorem NowD.lst {ds : List D} (s : Same F H) (h : NowD F H v (.list ds)) : ∃ a vs, v = .ref a ∧ H a = some (.lst vs) ∧ DenL F ds vs := by
  rcases h with ⟨a, vs, e, h, l⟩ | ⟨a, o, e, h, l⟩
  · exact ⟨a, vs, e, s _ _ h, l⟩
  · obtain ⟨vs, rfl, q⟩ := l.lst
    exact ⟨a, vs, e, h, q⟩
theorem NowD.tup {ds : List D} (s : Same F H) (h : NowD F H v (.tuple ds)) : ∃ a vs, v = .ref a ∧ F a = some (.tup vs) ∧ H a = some (.tup vs) ∧ DenL F ds vs := by
  rcases h with ⟨a, vs, e, h, l⟩ | ⟨a, o, e, h, l⟩
  · exact ⟨a, vs, e, h, s _ _ h, l⟩
  · cases o <;> exact l.elim
theorem NowD.dic {ds : List (D × D)} (s : Same F H) (h : NowD F H v (.dict ds)) : ∃ a vs, v = .ref a ∧ H a = some (.dK vs) ∧ DenK F ds vs := by
  rcases h with ⟨a, vs, e, h, l⟩ | ⟨a, o, e, h, l⟩
  · exact ⟨a, vs, e, s _ _ h, l⟩
  · obtain ⟨vs, rfl, q⟩ := l.dic
    exact ⟨a, vs, e, h, q⟩
end
mutual
theorem Den.dp {K : PySem.W.Frag} {F H : Hp} (s : Same F H) : ∀ {d : D} {v : V}, d.plain = true → Den F d v → Dp K H v d
  | .none, _, _, h => by cases h; exact .non
  | .bool _, _, _, h => by cases h; exact .bl _
  | .int _, _, _, h => by cases h; exact .int _
  | .str _, _, _, h => by cases h; exact .str _
  | .list ds, _, p, ⟨a, vs, e, h, l⟩ => by subst e; exact .lst (SqL.of (s _ _ h)) (DenL.dp s p l)
  | .tuple ds, _, p, ⟨a, vs, e, h, l⟩ => by subst e; exact .tup (SqT.of (s _ _ h)) (DenL.dp s p l)
  | .dict kds, _, p, _ => by cases p
theorem DenL.dp {K : PySem.W.Frag} {F H : Hp} (s : Same F H) : ∀ {ds : List D} {vs : List V}, PyData.plainAll ds = true → DenL F ds vs → DpAll K H vs ds
  | [], _, _, h => by cases h; exact .nil
  | _ :: _, _, p, ⟨v, r, e, h, l⟩ => by
    subst e
    have p' := Bool.and_eq_true_iff.mp p
    exact .cons (Den.dp s p'.1 h) (DenL.dp s p'.2 l)
end
theorem NowD.dp {K : PySem.W.Frag} {F H : Hp} (s : Same F H) {d : D} {v : V} (p : d.plain = true) (h : NowD F H v d) : Dp K H v d := by
  rcases h with h | ⟨a, o, rfl, e, sh⟩
  · exact h.dp s p
  · rcases sh.cases with ⟨ds, vs, rfl, rfl, l⟩ | ⟨ds, vs, rfl, rfl, l⟩
    · exact .lst (SqL.of e) (DenL.dp s p l)
    · cases p

/-! ### == and in, over data -/
def dOk (d e : D) : Bool := d.plain && e.plain && decide (min d.depth e.depth ≤ 64)
def rEqP (K : PySem.W.Frag) : R2 := fun x y H Q => ∃ d e, Dp K H x d ∧ Dp K H y e ∧ dOk d e = true ∧ Q (.bl (PyData.eqv d e)) H
def rNeP (K : PySem.W.Frag) : R2 := fun x y H Q => ∃ d e, Dp K H x d ∧ Dp K H y e ∧ dOk d e = true ∧ Q (.bl (!PyData.eqv d e)) H
theorem dOk_parts {d e : D} (h : dOk d e = true) : d.plain = true ∧ e.plain = true ∧ min d.depth e.depth ≤ 64 := by
  unfold dOk at h
  rw [Bool.and_eq_true, Bool.and_eq_true] at h
  exact ⟨h.1.1, h.1.2, of_decide_eq_true h.2⟩
section
variable {X : Cx}
theorem op_eqP (hu : X.A.units + 64 < cLine) : OpR X (compareOp .Eq) (rEqP X.K) := by
  intro pins s σ H x y v u Q I rx ry h
  obtain ⟨d, e, h1, h2, ok, q⟩ := h
  obtain ⟨p1, p2, p3⟩ := dOk_parts ok
  obtain ⟨as, r1⟩ := Dp.reads I d x v h1 rx
  obtain ⟨bs, r2⟩ := Dp.reads I e y u h2 ry
  exact PySem.SeqAt.eq_plain r1 r2 p1 p2 (by omega) ⟨.bl _, H, I, rfl, q⟩
theorem op_neP (hu : X.A.units + 64 < cLine) : OpR X (compareOp .NotEq) (rNeP X.K) := by
  intro pins s σ H x y v u Q I rx ry h
  obtain ⟨d, e, h1, h2, ok, q⟩ := h
  obtain ⟨p1, p2, p3⟩ := dOk_parts ok
  obtain ⟨as, r1⟩ := Dp.reads I d x v h1 rx
  obtain ⟨bs, r2⟩ := Dp.reads I e y u h2 ry
  exact PySem.SeqAt.ne_plain r1 r2 p1 p2 (by omega) ⟨.bl _, H, I, rfl, q⟩
def isSeqD (d : D) (ds : List D) : Prop := d = .list ds ∨ d = .tuple ds
def inOk (d : D) (ds : List D) : Bool := d.plain && PyData.plainAll ds && decide (min (PyData.depthAll ds) d.depth ≤ 63)
def rInP (K : PySem.W.Frag) (neg : Bool) : R2 := fun x y H Q => ∃ d e ds, Dp K H x d ∧ Dp K H y e ∧ isSeqD e ds ∧ inOk d ds = true ∧ Q (.bl (if neg then !(ds.any fun z => PyData.eqv z d) else ds.any fun z => PyData.eqv z d)) H
theorem op_inP (hu : X.A.units + 64 < cLine) : OpR X (compareOp .In) (rInP X.K false) := by
  intro pins s σ H x y v u Q I rx ry h
  obtain ⟨d, e, ds, h1, h2, h3, ok, q⟩ := h
  unfold inOk at ok
  rw [Bool.and_eq_true, Bool.and_eq_true] at ok
  obtain ⟨⟨p1, p2⟩, p3⟩ := ok
  have p3 := of_decide_eq_true p3
  obtain ⟨as, r1⟩ := Dp.reads I d x v h1 rx
  obtain ⟨bs, r2⟩ := Dp.reads I e y u h2 ry
  rcases h3 with rfl | rfl
  · exact PySem.SeqAt.in_list_data r2 r1 p2 p1 (by omega) ⟨.bl _, H, I, rfl, q⟩
  · exact PySem.SeqAt.in_tuple_data r2 r1 p2 p1 (by omega) ⟨.bl _, H, I, rfl, q⟩
theorem op_notInP (hu : X.A.units + 64 < cLine) : OpR X (compareOp .NotIn) (rInP X.K true) := by
  intro pins s σ H x y v u Q I rx ry h
  obtain ⟨d, e, ds, h1, h2, h3, ok, q⟩ := h
  unfold inOk at ok
  rw [Bool.and_eq_true, Bool.and_eq_true] at ok
  obtain ⟨⟨p1, p2⟩, p3⟩ := ok
  have p3 := of_decide_eq_true p3
  obtain ⟨as, r1⟩ := Dp.reads I d x v h1 rx
  obtain ⟨bs, r2⟩ := Dp.reads I e y u h2 ry
  rcases h3 with rfl | rfl
  · exact PySem.SeqAt.notIn_list_data r2 r1 p2 p1 (by omega) ⟨.bl _, H, I, rfl, q⟩
  · exact PySem.SeqAt.notIn_tuple_data r2 r1 p2 p1 (by omega) ⟨.bl _, H, I, rfl, q⟩
end
def eqF (d e : D) : Option D := if dOk d e = true then some (.bool (PyData.eqv d e)) else none
def neF (d e : D) : Option D := if dOk d e = true then some (.bool (!PyData.eqv d e)) else none
theorem ok_eq {K : PySem.W.Frag} : OpOk (rEqP K) eqF := by
  intro F H v w d e z Q s h1 h2 h3 q
  unfold eqF at h3
  split at h3
  · next ok =>
    cases h3
    obtain ⟨p1, p2, p3⟩ := dOk_parts ok
    exact ⟨d, e, h1.dp s p1, h2.dp s p2, ok, q _ F H (Ext.refl s) rfl⟩
  · cases h3
theorem ok_ne {K : PySem.W.Frag} : OpOk (rNeP K) neF := by
  intro F H v w d e z Q s h1 h2 h3 q
  unfold neF at h3
  split at h3
  · next ok =>
    cases h3
    obtain ⟨p1, p2, p3⟩ := dOk_parts ok
    exact ⟨d, e, h1.dp s p1, h2.dp s p2, ok, q _ F H (Ext.refl s) rfl⟩
  · cases h3
def seqD : D → Option (List D)
  | .list ds => some ds
  | .tuple ds => some ds
  | _ => none
theorem seqD_is {e : D} {ds : List D} (h : seqD e = some ds) : isSeqD e ds := by
  cases e <;> simp [seqD] at h
  · exact .inl (by rw [h])
  · exact .inr (by rw [h])
def inF (neg : Bool) (d e : D) : Option D := match seqD e with
  | some ds => if inOk d ds = true then some (.bool (if neg then !(ds.any fun z => PyData.eqv z d) else ds.any fun z => PyData.eqv z d)) else none
  | none => none
theorem ok_in {K : PySem.W.Frag} {neg : Bool} : OpOk (rInP K neg) (inF neg) := by
  intro F H v w d e z Q s h1 h2 h3 q
  unfold inF at h3
  cases e1 : seqD e with
  | none => simp only [e1] at h3; cases h3
  | some ds =>
    simp only [e1] at h3
    split at h3
    · next ok =>
      cases h3
      have ok' := ok
      unfold inOk at ok'
      rw [Bool.and_eq_true, Bool.and_eq_true] at ok'
      obtain ⟨⟨p1, p2⟩, p3⟩ := ok'
      have pe : e.plain = true := by
        rcases seqD_is e1 with rfl | rfl <;> exact p2
      exact ⟨d, e, ds, h1.dp s p1, h2.dp s pe, seqD_is e1, ok, q _ F H (Ext.refl s) rfl⟩
    · cases h3

/-! ### ints, texts, lists, tuples -/
def big : Nat := 1000000
theorem big_le {n : Nat} (h : n ≤ big) : n ≤ sizeLine := Nat.le_trans h (by decide)
def rAddA (K : PySem.W.Frag) : R2 := fun x y H Q => (((rI0 fun i j => .int (i + j)) x y H Q ∨ ∃ i j, x = .str i ∧ y = .str j ∧ i.length + j.length ≤ sizeLine ∧ Q (.str (i ++ j)) H) ∨ rCat x y H Q) ∨ rCatA K x y H Q
theorem op_addA {X : Cx} : OpR X (binaryOp .Add) (rAddA X.K) := ((op_add.or op_add_str).or op_cat).or op_catA
def addF : D → D → Option D
  | .int i, .int j => some (.int (i + j))
  | .str i, .str j => if i.length + j.length ≤ big then some (.str (i ++ j)) else none
  | .list i, .list j => if i.length + j.length ≤ big then some (.list (i ++ j)) else none
  | .tuple i, .tuple j => if i.length + j.length ≤ big then some (.tuple (i ++ j)) else none
  | _, _ => none
theorem nil_of_len {α : Type} {l : List α} (h : l.length = 0) : l = [] := List.length_eq_zero_iff.mp h
theorem ok_add {K : PySem.W.Frag} : OpOk (rAddA K) addF := by
  intro F H v w d e z Q s h1 h2 h3 q
  unfold addF at h3
  split at h3
  · cases h3
    exact .inl (.inl (.inl ⟨_, _, h1.int, h2.int, q _ F H (Ext.refl s) rfl⟩))
  · split at h3
    · next hl => cases h3; exact .inl (.inl (.inr ⟨_, _, h1.str, h2.str, big_le hl, q _ F H (Ext.refl s) rfl⟩))
    · cases h3
  · split at h3
    · next hl =>
      cases h3
      obtain ⟨a, vs, rfl, e1, l1⟩ := h1.lst s
      obtain ⟨b, ws, rfl, e2, l2⟩ := h2.lst s
      refine .inl (.inr ⟨a, b, vs, ws, rfl, rfl, e1, e2, big_le (by rw [← l1.len, ← l2.len]; exact hl), fun p hp => ?_⟩)
      have x := Ext.laid s hp (.lst (vs ++ ws))
      exact q _ _ _ x ⟨p, _, rfl, upd_same, DenL.mono x.old (l1.app l2)⟩
    · cases h3
  · split at h3
    · next hl =>
      cases h3
      obtain ⟨a, vs, rfl, f1, e1, l1⟩ := h1.tup s
      obtain ⟨b, ws, rfl, f2, e2, l2⟩ := h2.tup s
      refine .inr ⟨a, b, vs, ws, rfl, rfl, SqT.of e1, SqT.of e2, big_le (by rw [← l1.len, ← l2.len]; exact hl), fun h => ?_, fun _ h => ?_, fun _ _ p hp => ?_⟩
      · subst h
        have l1' := nil_of_len l1.len
        subst l1'
        exact q _ F H (Ext.refl s) ⟨b, ws, rfl, f2, l2⟩
      · subst h
        have l2' := nil_of_len l2.len
        subst l2'
        exact q _ F H (Ext.refl s) ⟨a, vs, rfl, f1, by rw [List.append_nil]; exact l1⟩
      · have x := Ext.laid s hp (.tup (vs ++ ws))
        exact q _ _ _ x ⟨p, _, rfl, upd_same, DenL.mono x.old (l1.app l2)⟩
    · cases h3
  · cases h3
def catF : D → D → Option D
  | .list i, .list j => if i.length + j.length ≤ big then some (.list (i ++ j)) else none
  | _, _ => none
theorem okF_cat : OpOkF rCat catF := by
  intro F H v w d e z Q s h1 h2 h3 q
  unfold catF at h3
  split at h3
  · split at h3
    · next hl =>
      cases h3
      obtain ⟨a, vs, rfl, e1, l1⟩ := h1.lst s
      obtain ⟨b, ws, rfl, e2, l2⟩ := h2.lst s
      exact ⟨a, b, vs, ws, rfl, rfl, e1, e2, big_le (by rw [← l1.len, ← l2.len]; exact hl), fun p hp => q p _ hp (l1.app l2)⟩
    · cases h3
  · cases h3
def subF : D → D → Option D
  | .int i, .int j => some (.int (i - j))
  | _, _ => none
theorem ok_sub : OpOk (rI0 fun i j => .int (i - j)) subF := by
  intro F H v w d e z Q s h1 h2 h3 q
  unfold subF at h3
  split at h3
  · cases h3; exact ⟨_, _, h1.int, h2.int, q _ F H (Ext.refl s) rfl⟩
  · cases h3
def cmpI (p : Int → Int → Bool) : D → D → Option D
  | .int i, .int j => some (.bool (p i j))
  | _, _ => none
theorem ok_cmpI {p : Int → Int → Bool} : OpOk (rI0 fun i j => .bl (p i j)) (cmpI p) := by
  intro F H v w d e z Q s h1 h2 h3 q
  unfold cmpI at h3
  split at h3
  · cases h3; exact ⟨_, _, h1.int, h2.int, q _ F H (Ext.refl s) rfl⟩
  · cases h3
abbrev ltF := cmpI fun i j => decide (i < j)
abbrev leF := cmpI fun i j => decide (i ≤ j)
abbrev gtF := cmpI fun i j => decide (j < i)
abbrev geF := cmpI fun i j => decide (j ≤ i)
def rMulA (K : PySem.W.Frag) : R2 := fun x y H Q => (((rI CMul fun i j => .int (i * j)) x y H Q ∨ (rI CMulW fun i j => .int (i * j)) x y H Q) ∨ rRep x y H Q) ∨ rRepA K x y H Q
theorem op_mulA {X : Cx} : OpR X (binaryOp .Mult) (rMulA X.K) := ((op_mul.or op_mulW).or op_rep).or op_repA
def isSmall (i : Int) : Bool := decide (-(2 ^ 64) < i) && decide (i < 2 ^ 64)
def mulF : D → D → Option D
  | .int i, .int j => if (isSmall i || isSmall j) = true then some (.int (i * j)) else if i.natAbs < 2 ^ 400 ∧ j.natAbs < 2 ^ 400 then some (.int (i * j)) else none
  | .list i, .int j => if i.length ≤ 1000 ∧ 0 ≤ j ∧ j ≤ 1000 then some (.list (List.replicate j.toNat i).flatten) else none
  | .tuple i, .int j => if i ≠ [] ∧ i.length ≤ 1000 ∧ -1000 ≤ j ∧ j ≤ 1000 then some (.tuple (List.replicate j.toNat i).flatten) else none
  | _, _ => none
theorem small_is {i : Int} (h : isSmall i = true) : -(2 ^ 64) < i ∧ i < 2 ^ 64 := by
  unfold isSmall at h
  rw [Bool.and_eq_true] at h
  exact ⟨of_decide_eq_true h.1, of_decide_eq_true h.2⟩
theorem ok_mul {K : PySem.W.Frag} : OpOk (rMulA K) mulF := by
  intro F H v w d e z Q s h1 h2 h3 q
  unfold mulF at h3
  split at h3
  · split at h3
    · next hs =>
      cases h3
      refine .inl (.inl (.inl ⟨_, _, h1.int, h2.int, ?_, q _ F H (Ext.refl s) rfl⟩))
      rcases Bool.or_eq_true_iff.mp hs with h | h
      · exact .inl (small_is h)
      · exact .inr (small_is h)
    · split at h3
      · next hb => cases h3; exact .inl (.inl (.inr ⟨_, _, h1.int, h2.int, wide_mul hb.1 hb.2 (by decide) (by decide) (by decide), q _ F H (Ext.refl s) rfl⟩))
      · cases h3
  · split at h3
    · next hb =>
      cases h3
      obtain ⟨a, vs, rfl, e1, l1⟩ := h1.lst s
      obtain ⟨b1, b2, b3⟩ := hb
      refine .inl (.inr ⟨a, _, vs, rfl, h2.int, e1, by omega, by omega, ?_, fun p hp => ?_⟩)
      · rw [← l1.len]
        exact Nat.le_trans (Nat.mul_le_mul b1 (Int.toNat_le.mpr b3)) (by decide)
      · exact q _ _ _ (Ext.laid s hp _) ⟨p, _, rfl, upd_same, DenL.mono (same_upd (s.free hp)) (l1.rep _)⟩
    · cases h3
  · split at h3
    · next hb =>
      cases h3
      obtain ⟨b0, b1, b2, b3⟩ := hb
      obtain ⟨a, vs, rfl, e1, e2, l1⟩ := h1.tup s
      refine .inr ⟨a, _, vs, rfl, h2.int, SqT.of e2, fun z => b0 ?_, b2, b3, by rw [← l1.len]; exact b1, fun _ p hp => ?_, fun hk => ?_, fun hk p hp => ?_⟩
      · have := l1.len
        rw [z] at this
        exact List.eq_nil_of_length_eq_zero (by simpa using this)
      · exact q _ _ _ (Ext.laid s hp _) ⟨p, _, rfl, upd_same, DenL.mono (same_upd (s.free hp)) (l1.rep _)⟩
      · subst hk
        refine q _ F H (Ext.refl s) ?_
        simp only [Int.toNat_one, List.replicate_one, List.flatten_cons, List.flatten_nil, List.append_nil]
        exact ⟨a, vs, rfl, e1, l1⟩
      · rename_i j
        have e0 : Int.toNat j = 0 := by omega
        refine q _ _ _ (Ext.laid s hp _) ⟨p, _, rfl, upd_same, ?_⟩
        rw [e0]
        exact rfl
    · cases h3
  · cases h3
def repF : D → D → Option D
  | .list i, .int j => if i.length ≤ 1000 ∧ 0 ≤ j ∧ j ≤ 1000 then some (.list (List.replicate j.toNat i).flatten) else none
  | _, _ => none
theorem okF_rep : OpOkF rRep repF := by
  intro F H v w d e z Q s h1 h2 h3 q
  unfold repF at h3
  split at h3
  · split at h3
    · next hb =>
      cases h3
      obtain ⟨a, vs, rfl, e1, l1⟩ := h1.lst s
      obtain ⟨b1, b2, b3⟩ := hb
      refine ⟨a, _, vs, rfl, h2.int, e1, by omega, by omega, ?_, fun p hp => q p _ hp (l1.rep _)⟩
      rw [← l1.len]
      exact Nat.le_trans (Nat.mul_le_mul b1 (Int.toNat_le.mpr b3)) (by decide)
    · cases h3
  · cases h3
def fdivF : D → D → Option D
  | .int i, .int j => if 0 < j ∧ j.natAbs < 2 ^ 400 then some (.int (i / j)) else none
  | _, _ => none
theorem ok_fdiv : OpOk (rI CDivW fun i j => .int (i / j)) fdivF := by
  intro F H v w d e z Q s h1 h2 h3 q
  unfold fdivF at h3
  split at h3
  · split at h3
    · next hb => cases h3; exact ⟨_, _, h1.int, h2.int, wide_div hb.1 hb.2 (by decide) (by decide), q _ F H (Ext.refl s) rfl⟩
    · cases h3
  · cases h3
def modF : D → D → Option D
  | .int i, .int j => if 0 < j then some (.int (i % j)) else none
  | _, _ => none
theorem ok_mod : OpOk (rI (fun _ j => 0 < j) fun i j => .int (i % j)) modF := by
  intro F H v w d e z Q s h1 h2 h3 q
  unfold modF at h3
  split at h3
  · split at h3
    · next hb => cases h3; exact ⟨_, _, h1.int, h2.int, hb, q _ F H (Ext.refl s) rfl⟩
    · cases h3
  · cases h3
def powF : D → D → Option D
  | .int i, .int j => if 0 ≤ j ∧ j ≤ 100 ∧ i.natAbs < 2 ^ 64 then some (.int (i ^ j.toNat)) else none
  | _, _ => none
theorem ok_pow : OpOk (rI CPow fun i j => .int (i ^ j.toNat)) powF := by
  intro F H v w d e z Q s h1 h2 h3 q
  unfold powF at h3
  split at h3
  · split at h3
    · next hb => cases h3; exact ⟨_, _, h1.int, h2.int, ⟨hb.1, by have := hb.2.1; omega, hb.2.2⟩, q _ F H (Ext.refl s) rfl⟩
    · cases h3
  · cases h3
def negF : D → Option D
  | .int i => some (.int (-i))
  | _ => none
theorem ok_neg : UnOk (rU fun i => .int (-i)) negF := by
  intro F H v d z Q s h1 h3 q
  unfold negF at h3
  split at h3
  · cases h3; exact ⟨_, h1.int, q _ F H (Ext.refl s) rfl⟩
  · cases h3
/-! ### is None -/
def isNoneD : D → Bool
  | .none => true
  | _ => false
def isF (neg : Bool) : D → D → Option D
  | d, .none => some (.bool (if neg then !isNoneD d else isNoneD d))
  | _, _ => none
theorem now_none {F H : Hp} {v : V} {d : D} (h : NowD F H v d) : decide (v = .non) = isNoneD d := by
  cases d with
  | none => rw [h.none]; rfl
  | bool b => rw [h.bool]; rfl
  | int b => rw [h.int]; rfl
  | str b => rw [h.str]; rfl
  | list ds => rcases h with ⟨a, vs, rfl, _⟩ | ⟨a, o, rfl, _⟩ <;> rfl
  | tuple ds => rcases h with ⟨a, vs, rfl, _⟩ | ⟨a, o, rfl, _⟩ <;> rfl
  | dict ds => rcases h with ⟨a, vs, rfl, _⟩ | ⟨a, o, rfl, _⟩ <;> rfl
theorem ok_is : OpOk (fun x y H Q => y = .non ∧ Q (.bl (decide (x = .non))) H) (isF false) := by
  intro F H v w d e z Q s h1 h2 h3 q
  unfold isF at h3
  split at h3
  · cases h3; exact ⟨h2.none, by rw [now_none h1]; exact q _ F H (Ext.refl s) rfl⟩
  · cases h3
theorem ok_isnot : OpOk (fun x y H Q => y = .non ∧ Q (.bl (!decide (x = .non))) H) (isF true) := by
  intro F H v w d e z Q s h1 h2 h3 q
  unfold isF at h3
  split at h3
  · cases h3; exact ⟨h2.none, by rw [now_none h1]; exact q _ F H (Ext.refl s) rfl⟩
  · cases h3
/-! ### subscripts -/
def ixF : D → D → Option D
  | .list ds, .int i => atI ds i
  | .tuple ds, .int i => atI ds i
  | .str z, .int i => if z.length ≤ big then (atI z.cps.toList i).map fun c => .str ⟨#[c]⟩ else none
  | _, _ => none
theorem atI_den {F : Hp} {ds : List D} {vs : List V} {i : Int} {d : D} (l : DenL F ds vs) (h : atI ds i = some d) : ∃ v, atI vs i = some v ∧ Den F d v := by
  unfold atI at h ⊢
  rw [← l.len]
  cases e : ixN ds.length i with
  | none => rw [e] at h; cases h
  | some j =>
    rw [e] at h
    obtain ⟨v, h1, h2⟩ := l.get (i := j) (d := d) h
    exact ⟨v, h1, h2⟩
theorem ok_ix {K : PySem.W.Frag} : OpOk (rIx K) ixF := by
  intro F H v w d e z Q s h1 h2 h3 q
  unfold ixF at h3
  split at h3
  · obtain ⟨a, vs, rfl, e1, l1⟩ := h1.lst s
    obtain ⟨u, g1, g2⟩ := atI_den l1 h3
    exact .inl ⟨a, vs, _, u, rfl, h2.int, SqL.of e1, g1, q _ F H (Ext.refl s) g2⟩
  · obtain ⟨a, vs, rfl, f1, e1, l1⟩ := h1.tup s
    obtain ⟨u, g1, g2⟩ := atI_den l1 h3
    exact .inr (.inl ⟨a, vs, _, u, rfl, h2.int, SqT.of e1, g1, q _ F H (Ext.refl s) g2⟩)
  · split at h3
    · next hl =>
      cases e4 : atI (Array.toList _) _ with
      | none => rw [e4] at h3; cases h3
      | some c => rw [e4] at h3; cases h3; exact .inr (.inr ⟨_, _, c, h1.str, h2.int, big_le hl, e4, q _ F H (Ext.refl s) rfl⟩)
    · cases h3
  · cases h3
/-! ### slices -/
def VO : L2.St → Hp → Hp → Rho → Option Int → Option Int → Prop := fun _ _ _ _ b v => v = b
section
variable {B : Bd} {EX : Str → Hp → Prop}
def asInt : D → Option Int
  | .int i => some i
  | _ => none
def mPart (f : M D) : M (Option Int) := bnd f fun d => lft ((asInt d).map some)
def mNoPart : M (Option Int) := ret none
theorem ev_nopart : Ev B EX VO tNoPart mNoPart := fun F H σ ρ Q m h => h none F H m.refl rfl
theorem ev_part {t : TE} {f : M D} (h : Ev B EX VD t f) : Ev B EX VO (tPart t) (mPart f) := by
  refine Ev.bind (tb := fun x σ H Q => ∃ i, x = V.int i ∧ Q (some i) H) h fun a x F H σ ρ Q m p q => ?_
  cases a <;> first | exact q.elim | skip
  rename_i i
  exact ⟨i, p, q (some i) F H m.refl rfl⟩
def SlOk (r : V → Option Int → Option Int → Hp → VK → Prop) (f : D → Option Int → Option Int → Option D) : Prop := ∀ {F H : Hp} {v : V} {d z : D} {lo hi : Option Int} {Q : VK}, Same F H → NowD F H v d → f d lo hi = some z → (∀ v' F' H', Ext F H F' H' → Den F' z v' → Q v' H') → r v lo hi H Q
def mSl (f : D → Option Int → Option Int → Option D) (a : M TV) (b c : M (Option Int)) : M D := bnd a fun x => bnd b fun y => bnd c fun z => fun ρ => match deref ρ x with
  | some d => lft (f d y z) ρ
  | none => .no
theorem ev_sl {r : V → Option Int → Option Int → Hp → VK → Prop} {f : D → Option Int → Option Int → Option D} {te : TE} {tl th : TO} {fa : M TV} {fb fc : M (Option Int)} (ho : SlOk r f) (ha : Ev B EX VT te fa) (hb : Ev B EX VO tl fb) (hc : Ev B EX VO th fc) :
    Ev B EX VD (tSl r te tl th) (mSl f fa fb fc) := by
  refine Ev.bind (tb := fun x σ H Q => tl σ H fun l H2 => th σ H2 fun u H3 => r x l u H3 Q) ha fun a x F H σ ρ Q m p q => ?_
  refine hb F H σ ρ _ m ?_
  unfold bnd at q
  cases e : fb ρ with
  | ex c r => rw [e] at q; exact q
  | no => rw [e] at q; exact q
  | ok b ρ1 =>
    rw [e] at q
    intro y F1 H1 s1 py
    cases py
    refine hc F1 H1 σ ρ1 _ s1.mt ?_
    have q := Post.from q s1
    cases e2 : fc ρ1 with
    | ex c r => simp only [e2] at q; exact q
    | no => simp only [e2] at q; exact q
    | ok c ρ2 =>
      simp only [e2] at q
      intro w F2 H2 s2 pw
      cases pw
      have px := (p.step s1).step s2
      cases e1 : deref ρ2 a with
      | none => simp only [e1] at q; exact q.elim
      | some d =>
        simp only [e1] at q
        unfold lft at q
        cases e3 : f d b c with
        | none => rw [e3] at q; exact q.elim
        | some z =>
          rw [e3] at q
          exact ho s2.mt.sub (px.now s2.mt e1) e3 fun v' F' H' x' dz => q v' F' H' (s2.ext x') dz
end
def cutD (xs : List D) (lo hi : Option Int) : List D := (xs.drop (HT.sIx xs.length 0 lo)).take (HT.sIx xs.length xs.length hi - HT.sIx xs.length 0 lo)
theorem cut_den {F : Hp} {ds : List D} {vs : List V} (l : DenL F ds vs) (lo hi : Option Int) : DenL F (cutD ds lo hi) (cutV vs lo hi) := by
  unfold cutD cutV
  rw [l.len]
  exact (l.drop _).take _
def rSlAll (K : PySem.W.Frag) : V → Option Int → Option Int → Hp → VK → Prop := fun x lo hi H Q => (rSlL K x lo hi H Q ∨ rSlA K x lo hi H Q) ∨ (∃ z, x = .str z ∧ z.length ≤ sizeLine ∧ Q (.str (cutS z lo hi)) H)
def slF : D → Option Int → Option Int → Option D
  | .list ds, lo, hi => some (.list (cutD ds lo hi))
  | .tuple ds, lo, hi => some (.tuple (cutD ds lo hi))
  | .str z, lo, hi => if z.length ≤ big then some (.str (cutS z lo hi)) else none
  | _, _, _ => none
theorem whole_cut {α : Type} {xs : List α} {i j : Nat} (h1 : i = 0) (h2 : j = xs.length) : (xs.drop i).take (j - i) = xs := by
  subst h1; subst h2; simp
theorem ok_sl {K : PySem.W.Frag} : SlOk (rSlAll K) slF := by
  intro F H v d z lo hi Q s h1 h3 q
  unfold slF at h3
  split at h3
  · cases h3
    obtain ⟨a, vs, rfl, e1, l1⟩ := h1.lst s
    refine .inl (.inl ⟨a, vs, rfl, SqL.of e1, fun p hp => ?_⟩)
    exact q _ _ _ (Ext.laid s hp _) ⟨p, _, rfl, upd_same, DenL.mono (same_upd (s.free hp)) (cut_den l1 _ _)⟩
  · cases h3
    obtain ⟨a, vs, rfl, f1, e1, l1⟩ := h1.tup s
    refine .inl (.inr ⟨a, vs, rfl, SqT.of e1, fun hw => ?_, fun hw p hp => ?_⟩)
    · refine q _ F H (Ext.refl s) ⟨a, vs, rfl, f1, ?_⟩
      have e2 := cut_den l1 lo hi
      have e3 : cutV vs lo hi = vs := whole_cut hw.1 hw.2
      rw [e3] at e2
      exact e2
    · exact q _ _ _ (Ext.laid s hp _) ⟨p, _, rfl, upd_same, DenL.mono (same_upd (s.free hp)) (cut_den l1 _ _)⟩
  · split at h3
    · next hl => cases h3; exact .inr ⟨_, h1.str, big_le hl, q _ F H (Ext.refl s) rfl⟩
    · cases h3
  · cases h3
/-! ### built-in functions -/
theorem NowAll.one {F H : Hp} {vs : List V} {d : D} (h : NowAll F H vs [d]) : ∃ v, vs = [v] ∧ NowD F H v d := by
  obtain ⟨v, r, e, h1, h2⟩ := h
  cases h2
  exact ⟨v, e, h1⟩
theorem NowAll.two {F H : Hp} {vs : List V} {d e : D} (h : NowAll F H vs [d, e]) : ∃ v w, vs = [v, w] ∧ NowD F H v d ∧ NowD F H w e := by
  obtain ⟨v, r, rfl, h1, w, r2, rfl, h2, h3⟩ := h
  cases h3
  exact ⟨v, w, rfl, h1, h2⟩
theorem NowAll.three {F H : Hp} {vs : List V} {d e f : D} (h : NowAll F H vs [d, e, f]) : ∃ v w u, vs = [v, w, u] ∧ NowD F H v d ∧ NowD F H w e ∧ NowD F H u f := by
  obtain ⟨v, r, rfl, h1, w, r2, rfl, h2, u, r3, rfl, h3, h4⟩ := h
  cases h4
  exact ⟨v, w, u, rfl, h1, h2, h3⟩
def lenF : List D → Option D
  | [.list ds] => some (.int ds.length)
  | [.tuple ds] => some (.int ds.length)
  | [.str z] => if z.length ≤ big then some (.int z.length) else none
  | _ => none
theorem ok_len {K : PySem.W.Frag} : CallOk (fun xs H Q => ∃ x n, xs = [x] ∧ LenV K x H n ∧ Q (.int n) H) lenF := by
  intro F H vs ds z Q s h1 h3 q
  unfold lenF at h3
  split at h3
  · cases h3
    obtain ⟨v, rfl, h⟩ := h1.one
    obtain ⟨a, vs, rfl, e1, l1⟩ := h.lst s
    exact ⟨_, _, rfl, .inl ⟨vs, SqL.of e1, l1.len⟩, q _ F H (Ext.refl s) rfl⟩
  · cases h3
    obtain ⟨v, rfl, h⟩ := h1.one
    obtain ⟨a, vs, rfl, f1, e1, l1⟩ := h.tup s
    exact ⟨_, _, rfl, .inr ⟨vs, SqT.of e1, l1.len⟩, q _ F H (Ext.refl s) rfl⟩
  · split at h3
    · next hl =>
      cases h3
      obtain ⟨v, rfl, h⟩ := h1.one
      cases h.str
      exact ⟨_, _, rfl, ⟨big_le hl, rfl⟩, q _ F H (Ext.refl s) rfl⟩
    · cases h3
  · cases h3
def absF : List D → Option D
  | [.int i] => some (.int (if i < 0 then -i else i))
  | _ => none
theorem ok_abs : CallOk (fun xs H Q => ∃ i, xs = [.int i] ∧ Q (.int (if i < 0 then -i else i)) H) absF := by
  intro F H vs ds z Q s h1 h3 q
  unfold absF at h3
  split at h3
  · cases h3
    obtain ⟨v, rfl, h⟩ := h1.one
    cases h.int
    exact ⟨_, rfl, q _ F H (Ext.refl s) rfl⟩
  · cases h3
def max2F : List D → Option D
  | [.int i, .int j] => some (.int (if j > i then j else i))
  | _ => none
def min2F : List D → Option D
  | [.int i, .int j] => some (.int (if j < i then j else i))
  | _ => none
theorem ok_max2 : CallOk (fun xs H Q => ∃ i j, xs = [.int i, .int j] ∧ Q (.int (if j > i then j else i)) H) max2F := by
  intro F H vs ds z Q s h1 h3 q
  unfold max2F at h3
  split at h3
  · cases h3
    obtain ⟨v, w, rfl, h, h'⟩ := h1.two
    cases h.int; cases h'.int
    exact ⟨_, _, rfl, q _ F H (Ext.refl s) rfl⟩
  · cases h3
theorem ok_min2 : CallOk (fun xs H Q => ∃ i j, xs = [.int i, .int j] ∧ Q (.int (if j < i then j else i)) H) min2F := by
  intro F H vs ds z Q s h1 h3 q
  unfold min2F at h3
  split at h3
  · cases h3
    obtain ⟨v, w, rfl, h, h'⟩ := h1.two
    cases h.int; cases h'.int
    exact ⟨_, _, rfl, q _ F H (Ext.refl s) rfl⟩
  · cases h3
/-- int(x): an int, a bool, a text -/
def rIntA : List V → Hp → VK → Prop := fun xs H Q => ((∃ i, xs = [.int i] ∧ Q (.int i) H) ∨ ∃ k, xs = [.bl k] ∧ Q (.int (if k then 1 else 0)) H) ∨ ∃ a n, xs = [.str a] ∧ PySem.intText? a = some n ∧ a.length ≤ 640 ∧ Q (.int n) H
def intF : List D → Option D
  | [.int i] => some (.int i)
  | [.bool k] => some (.int (if k then 1 else 0))
  | [.str a] => if a.length ≤ 640 then (PySem.intText? a).map PyData.int else none
  | _ => none
theorem ok_int : CallOk rIntA intF := by
  intro F H vs ds z Q s h1 h3 q
  unfold intF at h3
  split at h3
  · cases h3
    obtain ⟨v, rfl, h⟩ := h1.one
    cases h.int
    exact .inl (.inl ⟨_, rfl, q _ F H (Ext.refl s) rfl⟩)
  · cases h3
    obtain ⟨v, rfl, h⟩ := h1.one
    cases h.bool
    exact .inl (.inr ⟨_, rfl, q _ F H (Ext.refl s) rfl⟩)
  · split at h3
    · next hl =>
      cases e : PySem.intText? _ with
      | none => rw [e] at h3; cases h3
      | some n =>
        rw [e] at h3; cases h3
        obtain ⟨v, rfl, h⟩ := h1.one
        cases h.str
        exact .inr ⟨_, n, rfl, e, hl, q _ F H (Ext.refl s) rfl⟩
    · cases h3
  · cases h3
def strF : List D → Option D
  | [.int i] => if i.natAbs.log2 < 1920 then some (.str (toString i)) else none
  | _ => none
theorem ok_str : CallOk (fun xs H Q => ∃ i, xs = [.int i] ∧ i.natAbs.log2 < 1920 ∧ Q (.str (toString i)) H) strF := by
  intro F H vs ds z Q s h1 h3 q
  unfold strF at h3
  split at h3
  · split at h3
    · next hl =>
      cases h3
      obtain ⟨v, rfl, h⟩ := h1.one
      cases h.int
      exact ⟨_, rfl, hl, q _ F H (Ext.refl s) rfl⟩
    · cases h3
  · cases h3
/-- tuple(x), list(x) -/
def tupleF : List D → Option D
  | [.list ds] => some (.tuple ds)
  | [.tuple ds] => some (.tuple ds)
  | _ => none
theorem ok_tuple {K : PySem.W.Frag} : CallOk (fun xs H Q => ∃ p ys, xs = [.ref p] ∧ ((SqL K H p ys ∧ ∀ l, H l = none → Q (.ref l) (upd H l (.tup ys))) ∨ (SqT K H p ys ∧ Q (.ref p) H))) tupleF := by
  intro F H vs ds z Q s h1 h3 q
  unfold tupleF at h3
  split at h3
  · cases h3
    obtain ⟨v, rfl, h⟩ := h1.one
    obtain ⟨a, vs, rfl, e1, l1⟩ := h.lst s
    refine ⟨a, vs, rfl, .inl ⟨SqL.of e1, fun p hp => ?_⟩⟩
    have x := Ext.laid s hp (.tup vs)
    exact q _ _ _ x ⟨p, _, rfl, upd_same, DenL.mono x.old l1⟩
  · cases h3
    obtain ⟨v, rfl, h⟩ := h1.one
    obtain ⟨a, vs, rfl, f1, e1, l1⟩ := h.tup s
    exact ⟨a, vs, rfl, .inr ⟨SqT.of e1, q _ F H (Ext.refl s) ⟨a, vs, rfl, f1, l1⟩⟩⟩
  · cases h3
def listF : List D → Option D
  | [.list ds] => some (.list ds)
  | [.tuple ds] => some (.list ds)
  | _ => none
theorem okF_list {K : PySem.W.Frag} : CallOkF (fun xs H Q => ∃ p ys, xs = [.ref p] ∧ (SqL K H p ys ∨ SqT K H p ys) ∧ ∀ l, H l = none → Q (.ref l) (upd H l (.lst ys))) listF := by
  intro F H vs ds z Q s h1 h3 q
  unfold listF at h3
  split at h3
  · cases h3
    obtain ⟨v, rfl, h⟩ := h1.one
    obtain ⟨a, vs, rfl, e1, l1⟩ := h.lst s
    exact ⟨a, vs, rfl, .inl (SqL.of e1), fun p hp => q p _ hp l1⟩
  · cases h3
    obtain ⟨v, rfl, h⟩ := h1.one
    obtain ⟨a, vs, rfl, f1, e1, l1⟩ := h.tup s
    exact ⟨a, vs, rfl, .inr (SqT.of e1), fun p hp => q p _ hp l1⟩
  · cases h3
/-! sums, all, any -/
def allOf {α : Type} (g : D → Option α) : List D → Option (List α)
  | [] => some []
  | d :: ds => match g d, allOf g ds with
    | some x, some xs => some (x :: xs)
    | _, _ => none
theorem allOf_eq {α : Type} {g : D → Option α} {c : α → D} (hc : ∀ d x, g d = some x → d = c x) : ∀ {ds : List D} {xs : List α}, allOf g ds = some xs → ds = xs.map c
  | [], _, h => by cases h; rfl
  | d :: ds, xs, h => by
    unfold allOf at h
    cases e1 : g d with
    | none => simp [e1] at h
    | some x =>
      cases e2 : allOf g ds with
      | none => simp [e1, e2] at h
      | some ys =>
        simp [e1, e2] at h
        subst h
        rw [hc d x e1, allOf_eq hc e2]
        rfl
theorem asInt_eq {d : D} {b : Int} (h : asInt d = some b) : d = .int b := by
  cases d <;> simp [asInt] at h
  rw [h]
def sumF : List D → Option D
  | [.list ds] => (allOf asInt ds).map fun ns => .int ns.sum
  | _ => none
theorem ok_sum {K : PySem.W.Frag} : CallOk (rSum K) sumF := by
  intro F H vs ds z Q s h1 h3 q
  unfold sumF at h3
  split at h3
  · next xs =>
    cases e : allOf asInt xs with
    | none => rw [e] at h3; cases h3
    | some ns =>
      rw [e] at h3; cases h3
      obtain ⟨v, rfl, h⟩ := h1.one
      obtain ⟨a, vs, rfl, e1, l1⟩ := h.lst s
      have e2 := allOf_eq (c := PyData.int) (fun _ _ => asInt_eq) e
      subst e2
      exact ⟨a, ns, rfl, by rw [← DenL.of_ints l1]; exact SqL.of e1, q _ F H (Ext.refl s) rfl⟩
  · cases h3
def allF : List D → Option D
  | [.list ds] => (allOf asBool ds).map fun ns => .bool (ns.all id)
  | _ => none
theorem ok_all {K : PySem.W.Frag} : CallOk (rAll K) allF := by
  intro F H vs ds z Q s h1 h3 q
  unfold allF at h3
  split at h3
  · next xs =>
    cases e : allOf asBool xs with
    | none => rw [e] at h3; cases h3
    | some ns =>
      rw [e] at h3; cases h3
      obtain ⟨v, rfl, h⟩ := h1.one
      obtain ⟨a, vs, rfl, e1, l1⟩ := h.lst s
      have e2 := allOf_eq (c := PyData.bool) (fun _ _ => asBool_eq) e
      subst e2
      exact ⟨a, ns, rfl, by rw [← DenL.of_bools l1]; exact SqL.of e1, q _ F H (Ext.refl s) rfl⟩
  · cases h3
def anyF : List D → Option D
  | [.list ds] => (allOf asBool ds).map fun ns => .bool (ns.any id)
  | _ => none
theorem ok_any {K : PySem.W.Frag} : CallOk (rAny K) anyF := by
  intro F H vs ds z Q s h1 h3 q
  unfold anyF at h3
  split at h3
  · next xs =>
    cases e : allOf asBool xs with
    | none => rw [e] at h3; cases h3
    | some ns =>
      rw [e] at h3; cases h3
      obtain ⟨v, rfl, h⟩ := h1.one
      obtain ⟨a, vs, rfl, e1, l1⟩ := h.lst s
      have e2 := allOf_eq (c := PyData.bool) (fun _ _ => asBool_eq) e
      subst e2
      exact ⟨a, ns, rfl, by rw [← DenL.of_bools l1]; exact SqL.of e1, q _ F H (Ext.refl s) rfl⟩
  · cases h3
/-! ### isinstance -/
def tyName : D → String
  | .none => "NoneType"
  | .bool _ => "bool"
  | .int _ => "int"
  | .str _ => "str"
  | .list _ => "list"
  | .tuple _ => "tuple"
  | .dict _ => "dict"
theorem now_ty {K : PySem.W.Frag} {F H : Hp} {v : V} {d : D} (s : Same F H) (h : NowD F H v d) : TyX K H v (.type (tyName d)) := by
  cases d with
  | none => rw [h.none]; exact .base .non
  | bool b => rw [h.bool]; exact .base (.bl _)
  | int b => rw [h.int]; exact .base (.int _)
  | str b => rw [h.str]; exact .base (.str _)
  | list ds => obtain ⟨a, vs, rfl, e, _⟩ := h.lst s; exact .base (.lst e)
  | tuple ds => obtain ⟨a, vs, rfl, _, e, _⟩ := h.tup s; exact .base (.tup e)
  | dict ds => obtain ⟨a, vs, rfl, e, _⟩ := h.dic s; exact .base (.dK e)
/-- what isinstance says of the seven kinds -/
structure IsiTab (T : String) (p : String → Bool) : Prop where
  n1 : kitB "NoneType" T = some (p "NoneType")
  n2 : kitB "bool" T = some (p "bool")
  n3 : kitB "int" T = some (p "int")
  n4 : kitB "str" T = some (p "str")
  n5 : kitB "list" T = some (p "list")
  n6 : kitB "tuple" T = some (p "tuple")
  n7 : kitB "dict" T = some (p "dict")
theorem IsiTab.at {T : String} {p : String → Bool} (h : IsiTab T p) (d : D) : kitB (tyName d) T = some (p (tyName d)) := by
  cases d
  · exact h.n1
  · exact h.n2
  · exact h.n3
  · exact h.n4
  · exact h.n5
  · exact h.n6
  · exact h.n7
def mIsi (p : String → Bool) (a : M TV) : M D := bnd a fun x => fun ρ => match deref ρ x with
  | some d => .ok (.bool (p (tyName d))) ρ
  | none => .no
section
variable {B : Bd} {EX : Str → Hp → Prop}
theorem ev_isi {K : PySem.W.Frag} {T : String} {p : String → Bool} {te : TE} {f : M TV} (tab : IsiTab T p) (h : Ev B EX VT te f) : Ev B EX VD (tCB (rIsi K) (tCons te (tCons (tC (.ty T)) tNil))) (mIsi p f) := by
  refine Ev.bind (tb := fun x σ H Q => rIsi K [x, .ty T] H Q) h fun a x F H σ ρ Q m p q => ?_
  cases e : deref ρ a with
  | none => simp only [e] at q; exact q.elim
  | some d =>
    simp only [e] at q
    exact ⟨x, .ty T, _, .type T, _, rfl, .ty T, now_ty m.sub (p.now m e), kit_ty (tab.at d), q _ F H m.refl rfl⟩
end
def pInt (n : String) : Bool := n == "int" || n == "bool"
def pIs (T n : String) : Bool := n == T
theorem tab_int : IsiTab "int" pInt := ⟨by decide +kernel, by decide +kernel, by decide +kernel, by decide +kernel, by decide +kernel, by decide +kernel, by decide +kernel⟩
theorem tab_bool : IsiTab "bool" (pIs "bool") := ⟨by decide +kernel, by decide +kernel, by decide +kernel, by decide +kernel, by decide +kernel, by decide +kernel, by decide +kernel⟩
theorem tab_str : IsiTab "str" (pIs "str") := ⟨by decide +kernel, by decide +kernel, by decide +kernel, by decide +kernel, by decide +kernel, by decide +kernel, by decide +kernel⟩
theorem tab_tuple : IsiTab "tuple" (pIs "tuple") := ⟨by decide +kernel, by decide +kernel, by decide +kernel, by decide +kernel, by decide +kernel, by decide +kernel, by decide +kernel⟩
end Rn
end

section
set_option Elab.async false
set_option linter.all false
set_option maxRecDepth 100000
/-! Core3d: dicts with whole numbers and texts as keys. -/
namespace Rn
open PySem PySem.Spec L2

def keyOf : D → Option Key
  | .int i => some (.inl i)
  | .str x => some (.inr x)
  | _ => none
theorem keyOf_eq {d : D} {k : Key} (h : keyOf d = some k) : d = keyD k := by
  cases d <;> simp [keyOf] at h <;> subst h <;> rfl
theorem keyD_inj {k k' : Key} (h : keyD k = keyD k') : k = k' := by
  cases k <;> cases k' <;> simp [keyD] at h <;> rw [h]
theorem den_key (F : Hp) (k : Key) : Den F (keyD k) (kV k) := by cases k <;> rfl
theorem key_den {F : Hp} {k : Key} {v : V} (h : Den F (keyD k) v) : v = kV k := by cases k <;> exact h
def keyEq : D → D → Bool
  | .int i, .int j => decide (i = j)
  | .str x, .str y => decide (x = y)
  | _, _ => false
theorem keyEq_key (k k' : Key) : keyEq (keyD k) (keyD k') = decide (k = k') := by
  cases k <;> cases k' <;> simp [keyD, keyEq]
def valD (kds : List (D × D)) (k : D) : Option D := (kds.find? fun kd => keyEq kd.1 k).map (·.2)
def putD (kds : List (D × D)) (k d : D) : List (D × D) :=
  if (kds.any fun kd => keyEq kd.1 k) = true then kds.map (fun kd => if keyEq kd.1 k = true then (kd.1, d) else kd) else kds ++ [(k, d)]
theorem DenK.val {F : Hp} {k : Key} : ∀ {kds : List (D × D)} {kvs : List (Key × V)}, DenK F kds kvs → (∀ d, valD kds (keyD k) = some d → ∃ v, valV kvs k = some v ∧ Den F d v) ∧ (valD kds (keyD k) = none → valV kvs k = none)
  | [], _, h => by
    cases h
    refine ⟨fun d e => ?_, fun _ => rfl⟩
    simp [valD] at e
  | (c, d) :: r, _, ⟨q, v, t, e, hq, hd, l⟩ => by
    subst e
    subst hq
    have ih := DenK.val (k := k) l
    unfold valD at ih ⊢
    rw [List.find?_cons, keyEq_key]
    by_cases e : q = k
    · rw [decide_eq_true e]
      refine ⟨fun d' e' => ?_, fun e' => by cases e'⟩
      cases e'
      exact ⟨v, valV_pos e, hd⟩
    · rw [decide_eq_false e, valV_neg e]
      exact ih
theorem DenK.some? {F : Hp} {k : Key} {kds : List (D × D)} {kvs : List (Key × V)} (h : DenK F kds kvs) : (valV kvs k).isSome = (valD kds (keyD k)).isSome := by
  cases e : valD kds (keyD k) with
  | none => rw [(h.val).2 e]; rfl
  | some d => obtain ⟨v, h1, _⟩ := (h.val).1 d e; rw [h1]; rfl
theorem DenK.len {F : Hp} : ∀ {kds : List (D × D)} {kvs : List (Key × V)}, DenK F kds kvs → kds.length = kvs.length
  | [], _, h => by cases h; rfl
  | (_, _) :: _, _, ⟨q, v, t, e, _, _, l⟩ => by subst e; simp [DenK.len l]
theorem DenK.app {F : Hp} {k : Key} {d : D} {v : V} (hd : Den F d v) : ∀ {kds : List (D × D)} {kvs : List (Key × V)}, DenK F kds kvs → DenK F (kds ++ [(keyD k, d)]) (kvs ++ [(k, v)])
  | [], _, h => by cases h; exact ⟨k, v, [], rfl, rfl, hd, rfl⟩
  | (_, _) :: _, _, ⟨q, u, t, e, hq, h, l⟩ => by subst e; exact ⟨q, u, _, rfl, hq, h, DenK.app hd l⟩
theorem DenK.upd {F : Hp} {k : Key} {d : D} {v : V} (hd : Den F d v) : ∀ {kds : List (D × D)} {kvs : List (Key × V)}, DenK F kds kvs → DenK F (kds.map fun kd => if keyEq kd.1 (keyD k) = true then (kd.1, d) else kd) (kvs.map fun kv => if kv.1 = k then (kv.1, v) else kv)
  | [], _, h => by cases h; rfl
  | (c, d') :: _, _, ⟨q, u, t, e, hq, h, l⟩ => by
    subst e
    subst hq
    have ih := DenK.upd (k := k) hd l
    rw [List.map_cons, List.map_cons]
    by_cases e : q = k
    · rw [if_pos (by rw [keyEq_key]; exact decide_eq_true e), if_pos e]
      exact ⟨q, v, _, rfl, rfl, hd, ih⟩
    · rw [if_neg (by rw [keyEq_key, decide_eq_false e]; decide), if_neg e]
      exact ⟨q, u, _, rfl, rfl, h, ih⟩
theorem DenK.put {F : Hp} {k : Key} {d : D} {v : V} {kds : List (D × D)} {kvs : List (Key × V)} (h : DenK F kds kvs) (hd : Den F d v) : DenK F (putD kds (keyD k) d) (putK kvs k v) := by
  have a : (kds.any fun kd => keyEq kd.1 (keyD k)) = kvs.any fun kv => decide (kv.1 = k) := by
    rw [valV_any, h.some?]
    unfold valD
    rw [Option.isSome_map, Bool.eq_iff_iff, List.find?_isSome, List.any_eq_true]
  unfold putD putK
  rw [a]
  split
  · exact h.upd hd
  · exact h.app hd

/-! ### in -/
def rDIn (neg : Bool) : R2 := fun y x H Q => ∃ a o, x = .ref a ∧ DGet H a y o ∧ Q (.bl (if neg then !o.isSome else o.isSome)) H
theorem op_din {X : Cx} (hu : X.A.units + 64 < cLine) : OpR X (compareOp .In) (rDIn false) := by
  intro pins s σ H y x v u Q I ry rx h
  obtain ⟨a, o, rfl, g, q⟩ := h
  obtain rfl : u = Value.ref a := rx
  exact d_in (by omega) I g ry fun s' I' => ⟨.bl o.isSome, H, I', rfl, q⟩
theorem op_dnotin {X : Cx} (hu : X.A.units + 64 < cLine) : OpR X (compareOp .NotIn) (rDIn true) := by
  intro pins s σ H y x v u Q I ry rx h
  obtain ⟨a, o, rfl, g, q⟩ := h
  obtain rfl : u = Value.ref a := rx
  exact d_notIn (by omega) I g ry fun s' I' => ⟨.bl (!o.isSome), H, I', rfl, q⟩
def rInA (K : PySem.W.Frag) (neg : Bool) : R2 := fun x y H Q => rInP K neg x y H Q ∨ rDIn neg x y H Q
theorem op_inA {X : Cx} (hu : X.A.units + 64 < cLine) : OpR X (compareOp .In) (rInA X.K false) := (op_inP hu).or (op_din hu)
theorem op_notInA {X : Cx} (hu : X.A.units + 64 < cLine) : OpR X (compareOp .NotIn) (rInA X.K true) := (op_notInP hu).or (op_dnotin hu)
def inAF (neg : Bool) (d e : D) : Option D := match e with
  | .dict kds => (match keyOf d with
    | some _ => some (.bool (if neg then !(valD kds d).isSome else (valD kds d).isSome))
    | none => none)
  | e => inF neg d e
theorem ok_inA {K : PySem.W.Frag} {neg : Bool} : OpOk (rInA K neg) (inAF neg) := by
  intro F H v w d e z Q s h1 h2 h3 q
  unfold inAF at h3
  split at h3
  · next kds =>
    cases e1 : keyOf d with
    | none => simp only [e1] at h3; cases h3
    | some k =>
      simp only [e1] at h3
      cases h3
      have e2 := keyOf_eq e1
      subst e2
      obtain ⟨a, kvs, rfl, ha, l⟩ := h2.dic s
      have hv : v = kV k := by
        rcases h1 with h1 | ⟨b, o, _, _, h1⟩
        · exact key_den h1
        · cases k <;> cases o <;> exact h1.elim
      subst hv
      refine .inr ⟨a, _, rfl, DGet.k ha, ?_⟩
      rw [l.some?]
      exact q _ F H (Ext.refl s) rfl
  · exact .inl (ok_in s h1 h2 h3 q)
end Rn
end

section
set_option Elab.async false
set_option linter.all false
set_option maxRecDepth 100000
set_option maxHeartbeats 1000000
/-! Core4: what is walked: a list or tuple, enumerate of either; the readings. -/
namespace Rn
open PySem PySem.Spec PyProof.Rows L2
open AutoSeq1 (wpAny_loadPart')

theorem meets_enumT {v : Value} {o : Obj} {H : Heap → Prop} (B : Begins v o H) :
    Meets (Builtin.«enumerate.__new__» ⟨[.type "enumerate", v], []⟩) (fun _ R s => H s.heap ∧
      R (.ok (.ret (.ref (s.heap.push o).objs.size))) { s with heap := (s.heap.push o).push { cls := .type "enumerate", data := .fields #[.none, .bool false, .ref s.heap.objs.size, rawInt 0, .none, .none] } }) :=
  .of_wp fun prog w A R s h => by
    obtain ⟨hp, g, d, tk, os⟩ := s; obtain ⟨h1, h⟩ := h
    have hsub := sub_enumerate
    have q1 : ∀ {A' : Around} {E : Value → Shared → Prop} {Q : Value → Shared → Prop}, Q (.ref hp.objs.size) ⟨hp.push o, g, d, tk, os⟩ → wpAny (model prog w) A' (pyIter v) Q E ⟨hp, g, d, tk, os⟩ :=
      fun q => B.iter prog w _ _ ⟨hp, g, d, tk, os⟩ _ h1 q
    wp_walk using q1
    refine wpAny_stack_any fun st => wpAny_pure ?_
    split
    · rename_i c _ _ _ _ _
      cases (c == Value.type "enumerate")
      · wp_walk using q1
        exact ⟨_, rfl, h⟩
      · wp_walk using q1
        exact ⟨_, rfl, h⟩
    · wp_walk using q1
      exact ⟨_, rfl, h⟩
theorem call_enumT {prog : Program} {w : World} {A : Around} {E : Value → Shared → Prop} {s : Shared} {v : Value} {o : Obj} {H : Heap → Prop} {Q : Value → Shared → Prop} (B : Begins v o H) (h1 : H s.heap)
    (h : ∀ h', IsEnum h' (s.heap.objs.size + 1) s.heap.objs.size 0 .none → h'.get? s.heap.objs.size = some o → h'.objs.size = s.heap.objs.size + 2 →
      (∀ b o, s.heap.get? b = some o → h'.get? b = some o) → Q (.ref (s.heap.objs.size + 1)) { s with heap := h' }) :
    wpAny (model prog w) A (call (.type "enumerate") [v]) Q E s := by
  refine callType_new F.called_enumerate (by decide) (F.typeCall_enumerate_1 _) (F.newCall_enumerate_1 _) (fun obj => F.args_object_init_2 obj _) F.entry_enumerate_new
    (meets_enumT B) ⟨h1, ?_⟩
  have hz : (s.heap.push o).objs.size = s.heap.objs.size + 1 := Heap.size_push ..
  show _ ∧ _
  rw [hz]
  have he : IsEnum ((s.heap.push o).push { cls := .type "enumerate", data := .fields #[.none, .bool false, .ref s.heap.objs.size, rawInt 0, .none, .none] }) (s.heap.objs.size + 1) s.heap.objs.size 0 .none := by
    have := Heap.get?_push_size (s.heap.push o) (o := { cls := .type "enumerate", data := .fields #[.none, .bool false, .ref s.heap.objs.size, rawInt 0, .none, .none] }) rfl
    rw [hz] at this; exact this
  refine ⟨⟨_, he, rfl⟩, h _ he (Heap.get?_push_of_some _ (Heap.get?_push_size _ B.free)) (by rw [Heap.size_push, hz]) fun b o x => Heap.get?_push_of_some _ (Heap.get?_push_of_some _ x)⟩

theorem enum_end_tuple {prog : Program} {w : World} {A : Around} {E : Value → Shared → Prop} {s : Shared} {e it t : Addr} {items : Array Value} {i : Nat} {j : Int} {old : Value} {Q : Option Value → Shared → Prop} (hh : A.handled = none)
    (he : IsEnum s.heap e it j old) (hit : s.heap.IsTupleIter it t i) (ht : s.heap.IsTuple t items) (hx : items[i]? = none)
    (hQ : ∀ h', Heap.ExtBut it s.heap h' → Q none { s with heap := h' }) : wpAny (model prog w) A (pyNext (.ref e)) Q E s := by
  have hT : s.TypeIs (.ref e) "enumerate" := ⟨_, he, rfl⟩
  unfold pyNext
  refine wpAny_bind (wpAny_attempt (wpAny_callSpecial?_slot (name := Str.ofString "__next__") hT F.slot_enumerate_next
    (wpAny_call_entry F.slot_enumerate_next hT F.entry_enumerate_next ?_ (F.args_enumerate_next_1 _))))
  show wpAny _ _ (field (.ref e) 2 >>= _) _ _ _
  refine wpAny_bind (wpAny_field he rfl (x := .ref it) rfl ?_)
  refine wpAny_bind (wpAny_nextOf_tuple_end (A := A.in1) hh hit ht hx fun h' x he' hx' => ?_)
  obtain ⟨o, ho, hc⟩ := hx'
  refine wpAny_bind (wpAny_isInstance (T := "StopIteration") (b := true) ⟨o, ho, hc⟩ isSubtype_stop ?_)
  exact wpAny_pure (hQ _ he')
/-- the tuple at a, each item in a new pair -/
def Itet (K : PySem.W.Frag) (a : Addr) : It :=
  ⟨fun i H => ∃ (xs : List V) (x : V), SqT K H a xs ∧ xs[i]? = some x, fun i H v H' => ∃ T x, v = .ref T ∧ H T = none ∧ H' = upd H T (.tup [.int (i : Nat), x]) ∧ ∀ xs, SqT K H a xs → xs[i]? = some x, fun i H => ∃ xs : List V, SqT K H a xs ∧ xs.length ≤ i⟩
theorem turn_enumT {P : Program} {w : World} {K : PySem.W.Frag} {elts : List Expr} {kk : Nat} {tpos : Pos} (a e it : Addr) (hai : a ≠ it) :
    Turn P w K (.Tuple elts kk tpos) (Itet K a) [e, it] e (fun i h => (∃ old, IsEnum h e it ((i : Nat) : Int) old) ∧ h.IsTupleIter it a i ∧ e ≠ it) where
  mem := by simp
  obj := fun i h st b hb => by
    obtain ⟨⟨old, he⟩, ⟨o, ho, hc, hd⟩, _⟩ := st
    have e' : b = e ∨ b = it := by simpa using hb
    rcases e' with z | z
    · rw [z]; exact ⟨_, he, fun v q => nomatch q⟩
    · rw [z]; exact ⟨o, ho, fun v q => by rw [hd] at q; cases q⟩
  keep := fun i h h' st k => let ⟨⟨old, he⟩, hi, hne⟩ := st; ⟨⟨old, k e (by simp) _ he⟩, hi.at fun o q => k it (by simp) o q, hne⟩
  item := by
    intro X hP hw hK hc i pins s σ H E I hf st hg
    subst hP hw hK
    obtain ⟨⟨old, he⟩, hit, hne⟩ := st
    obtain ⟨xs, x, hq, hx⟩ := hg
    obtain ⟨its, rv, p, hz⟩ := I.tuple hq
    obtain ⟨u, hu, ru⟩ := rv.get hx
    have hel : e < s.heap.objs.size := Heap.lt_size he
    have hil : it < s.heap.objs.size := by obtain ⟨_, q, _⟩ := hit; exact Heap.lt_size q
    have hlt : i < its.toArray.size := by
      have := (List.getElem?_eq_some_iff.mp hu).1
      simpa using this
    have hea : e ≠ a := fun q => by
      obtain ⟨o, ho, hcl, _⟩ := p
      rw [← q] at ho
      rw [he] at ho
      cases ho
      injection hcl with q
      exact absurd q (by decide)
    refine wpAny_pyNext_enum_itemD (Draws.tuple (A := X.A.in1) (I.ok.hd hc) it a hai its.toArray) he ⟨hit, p⟩ hlt hne (fun hm => by
      have e' : e = it ∨ e = a := by simpa using hm
      rcases e' with z | z
      · exact hne z
      · exact hea z) fun y h' tk hy ho hit' hT hsz hk => ?_
    have hyu : y = u := by
      have q : its.toArray[i]? = some y := hy
      rw [List.getElem?_toArray, hu] at q
      exact (Option.some.inj q).symm
    subst hyu
    refine ⟨_, rfl, wpAny_letOwnedTupleGo_enum (s := { s with heap := h', toks := tk + 1 }) ho fun h'' he' sb => ?_⟩
    have hT2 : h''.get? s.heap.objs.size = some { cls := .type "tuple", data := .seq #[.int i tk, y] } := (sb.2 _ (Nat.ne_of_gt hel)).trans hT
    have new : ObjOk X.prog X.w (upd H s.heap.objs.size (.tup [.int (i : Nat), x])) h'' s.heap.objs.size (.tup [.int (i : Nat), x]) :=
      ⟨by show 2 ≤ sizeLine; decide, [.int i tk, y], .cons ⟨_, rfl⟩ (.cons ru .nil), ⟨_, hT2, rfl, _, rfl⟩⟩
    have I1 : Inv X pins σ (upd H s.heap.objs.size (.tup [.int (i : Nat), x])) { s with heap := h'', toks := tk + 1 } :=
      I.turnedNew (ch := [e, it]) (fun b ob hb q => (sb.2 b (fun z => hb (by simp [z]))).trans (hk b ob (fun z => hb (by simp [z])) (fun z => hb (by simp [z])) q)) hf (Nat.le_refl _) new
    refine ⟨.ref s.heap.objs.size, _, I1, rfl, ⟨_, x, rfl, I.hok.fresh (Nat.le_refl _), rfl, fun ys hy => by rw [I.tuple_inj hy hq]; exact hx⟩, ⟨⟨y, ?_⟩, hit'.1.at fun o q => (sb.2 it (Ne.symm hne)).trans q, hne⟩, fun b hb => ?_⟩
    · have e1 : ((i + 1 : Nat) : Int) = (i : Int) + 1 := by omega
      rw [e1]; exact he'
    · have hb' : b < s.heap.objs.size := by
        have e' : b = e ∨ b = it := by simpa using hb
        rcases e' with z | z
        · rw [z]; exact hel
        · rw [z]; exact hil
      rw [upd_ne (Nat.ne_of_lt hb')]
      exact (hf b hb).1
  done := by
    intro X hP hw hK hc i pins s σ H E I hf st hg
    subst hP hw hK
    obtain ⟨⟨old, he⟩, hit, hne⟩ := st
    obtain ⟨xs, hq, hx⟩ := hg
    obtain ⟨its, rv, p, hz⟩ := I.tuple hq
    obtain ⟨f0, f1, f2, f3, f4, f5⟩ := hf it (by simp)
    have hl := rv.length
    exact enum_end_tuple (I.ok.hd hc) he hit (show s.heap.IsTuple a its.toArray from p) (by simp; omega) fun h' eb => ⟨rfl, I.turned (t' := s.toks) (fun b o hb q => eb b o hb q) f0 f1 f3 f4 f5⟩
  self := fun A i s Q E st h => let ⟨⟨_, he⟩, _⟩ := st; wpAny_pyIter_enum he h

section
variable {X : Cx} {tg : Expr}
/-- a list or a tuple -/
def iSeq (K : PySem.W.Frag) (tl : TE) : TI := fun σ H R => tl σ H fun x H1 => ∃ a, x = .ref a ∧ (((∃ xs, SqL K H1 a xs) ∧ R (Itl K a) H1) ∨ ((∃ xs, SqT K H1 a xs) ∧ R (Itt K a) H1))
theorem pi_seq {l : Expr} {tl : TE} (hl : PE X l tl) : PI X tg l (iSeq X.K tl) := by
  refine ⟨fun pins s σ H R I h => ?_⟩
  refine thn (hl.run pins s σ H _ I h) fun v s1 ⟨x, H1, I1, r1, q1⟩ => ?_
  obtain ⟨a, e, q⟩ := q1
  subst e
  cases r1
  rcases q with ⟨⟨xs, hq⟩, q⟩ | ⟨⟨xs, hq⟩, q⟩
  · obtain ⟨its, rv, p, hz⟩ := I1.list hq
    refine wpAny_pyIter_list p.isList ?_
    refine ⟨s1.heap.objs.size, [s1.heap.objs.size], _, _, H1, rfl, I1.kept (t' := s1.toks) fun b o e => Heap.get?_push_of_some _ e, turn_list a _, ⟨_, Heap.get?_push_size _ rfl, rfl, rfl⟩, fun b hb => ?_, q⟩
    have e : b = s1.heap.objs.size := by simpa using hb
    subst e
    exact I1.fpOk (Nat.le_refl _) (I1.hok.fresh (Nat.le_refl _))
  · obtain ⟨its, rv, p, hz⟩ := I1.tuple hq
    refine wpAny_pyIter_tuple (show s1.heap.IsTuple a its.toArray from p) ?_
    refine ⟨s1.heap.objs.size, [s1.heap.objs.size], _, _, H1, rfl, I1.kept (t' := s1.toks) fun b o e => Heap.get?_push_of_some _ e, turn_tuple a _, ⟨_, Heap.get?_push_size _ rfl, rfl, rfl⟩, fun b hb => ?_, q⟩
    have e : b = s1.heap.objs.size := by simpa using hb
    subst e
    exact I1.fpOk (Nat.le_refl _) (I1.hok.fresh (Nat.le_refl _))
/-- enumerate of a list or a tuple -/
def iEnumS (K : PySem.W.Frag) (ta : TA) : TI := fun σ H R => ta σ H fun vs H1 => ∃ a xs, vs = [.ref a] ∧ ((SqL K H1 a xs ∧ R (Ite K a) H1) ∨ (SqT K H1 a xs ∧ R (Itet K a) H1))
theorem pi_enumS {e : Expr} {ta : TA} {p pos tpos : Pos} {elts : List Expr} {kk : Nat} (hg : Gl X "enumerate") (hm : X.mg "enumerate" = none) (ha : PA X [e] ta) (hs : starEach [e] X.env = [(false, eval e X.env)] := by rfl) :
    PI X (.Tuple elts kk tpos) (.Call (.Name "enumerate" p) [e] [] pos) (iEnumS X.K ta) := by
  refine ⟨fun pins s σ H R I h => ?_⟩
  refine Call_ (ld_blt I hg hm boot_enumerate (PyProof.Rows.callWith_type1 (thn (ha.run pos pins s σ H _ I h) fun us s1 ⟨vs, H1, I1, r1, q1⟩ => ?_) hs rfl))
  obtain ⟨a, xs, ex, hq⟩ := q1
  subst ex
  cases r1 with
  | cons r rr =>
    cases rr
    cases r
    rcases hq with ⟨hq, q⟩ | ⟨hq, q⟩
    · obtain ⟨its, rv, p', hz⟩ := I1.list hq
      refine call_enumerate_list p'.isList fun h' he hit hsz hk => wpAny_pyIter_enum he ?_
      have I2 : Inv X pins σ H1 { s1 with heap := h' } := I1.kept (t' := s1.toks) hk
      refine ⟨s1.heap.objs.size + 1, [s1.heap.objs.size + 1, s1.heap.objs.size], _, _, H1, rfl, I2, turn_enum a (s1.heap.objs.size + 1) s1.heap.objs.size, ⟨⟨.none, he⟩, hit, Nat.succ_ne_self _⟩, fun b hb => ?_, q⟩
      have e' : b = s1.heap.objs.size + 1 ∨ b = s1.heap.objs.size := by simpa using hb
      have hle : s1.heap.objs.size ≤ b := by
        rcases e' with z | z
        · rw [z]; exact Nat.le_add_right _ _
        · rw [z]; exact Nat.le_refl _
      exact I1.fpOk hle (I1.hok.fresh hle)
    · obtain ⟨its, rv, p', hz⟩ := I1.tuple hq
      have p2 : s1.heap.IsTuple a its.toArray := p'
      refine call_enumT (begins_tuple a its.toArray) p2 fun h' he hit hsz hk => wpAny_pyIter_enum he ?_
      have I2 : Inv X pins σ H1 { s1 with heap := h' } := I1.kept (t' := s1.toks) hk
      have hal : a < s1.heap.objs.size := by obtain ⟨o, ho, _⟩ := p'; exact Heap.lt_size ho
      refine ⟨s1.heap.objs.size + 1, [s1.heap.objs.size + 1, s1.heap.objs.size], _, _, H1, rfl, I2, turn_enumT a (s1.heap.objs.size + 1) s1.heap.objs.size (Nat.ne_of_lt hal), ⟨⟨.none, he⟩, ⟨_, hit, rfl, rfl⟩, Nat.succ_ne_self _⟩, fun b hb => ?_, q⟩
      have e' : b = s1.heap.objs.size + 1 ∨ b = s1.heap.objs.size := by simpa using hb
      have hle : s1.heap.objs.size ≤ b := by
        rcases e' with z | z
        · rw [z]; exact Nat.le_add_right _ _
        · rw [z]; exact Nat.le_refl _
      exact I1.fpOk hle (I1.hok.fresh hle)
end
end Rn
end

section
set_option Elab.async false
set_option linter.all false
set_option maxRecDepth 100000
/-! Core5: iterables, targets, comprehensions. -/
namespace Rn
open PySem PySem.Spec L2

/-! ### iterables -/
def ItOk (F : Hp) (J : It) (items : List D) : Prop := ∀ (F1 H1 : Hp), Same F F1 → Same F1 H1 →
  (∀ i, items.length ≤ i → J.stop i H1) ∧ (∀ i, i < items.length → J.go i H1) ∧
  ∀ i x H2, i < items.length → J.yld i H1 x H2 → ∃ d F2, items[i]? = some d ∧ Ext F1 H1 F2 H2 ∧ Den F2 d x
abbrev VI : L2.St → Hp → Hp → Rho → List D → It → Prop := fun _ F _ _ ds J => ItOk F J ds
theorem ItOk.mono {F F' : Hp} {J : It} {items : List D} (h : ItOk F J items) (s : Same F F') : ItOk F' J items := fun F1 H1 a b => h F1 H1 (s.trans a) b
theorem itok_list {K : PySem.W.Frag} {F : Hp} {a : Addr} {vs : List V} {ds : List D} (h : F a = some (.lst vs)) (l : DenL F ds vs) : ItOk F (Itl K a) ds := by
  intro F1 H1 s1 s2
  have e : H1 a = some (.lst vs) := s2 _ _ (s1 _ _ h)
  refine ⟨fun i hi => ⟨vs, SqL.of e, by rw [← l.len]; exact hi⟩, fun i hi => ?_, fun i x H2 hi q => ?_⟩
  · rw [l.len] at hi
    exact ⟨vs, vs[i], SqL.of e, List.getElem?_eq_getElem hi⟩
  · obtain ⟨rfl, q⟩ := q
    obtain ⟨d, e1, e2⟩ := (l.mono s1).got (q vs (SqL.of e))
    exact ⟨d, F1, e1, Ext.refl s2, e2⟩
theorem itok_tup {K : PySem.W.Frag} {F : Hp} {a : Addr} {vs : List V} {ds : List D} (h : F a = some (.tup vs)) (l : DenL F ds vs) : ItOk F (Itt K a) ds := by
  intro F1 H1 s1 s2
  have e : H1 a = some (.tup vs) := s2 _ _ (s1 _ _ h)
  refine ⟨fun i hi => ⟨vs, SqT.of e, by rw [← l.len]; exact hi⟩, fun i hi => ?_, fun i x H2 hi q => ?_⟩
  · rw [l.len] at hi
    exact ⟨vs, vs[i], SqT.of e, List.getElem?_eq_getElem hi⟩
  · obtain ⟨rfl, q⟩ := q
    obtain ⟨d, e1, e2⟩ := (l.mono s1).got (q vs (SqT.of e))
    exact ⟨d, F1, e1, Ext.refl s2, e2⟩
def rangeD (lo : Int) (n : Nat) : List D := (List.range n).map fun (k : Nat) => PyData.int (lo + (k : Int))
theorem itok_range {F : Hp} {lo : Int} {n : Nat} : ItOk F (Itr lo n) (rangeD lo n) := by
  intro F1 H1 s1 s2
  have hl : (rangeD lo n).length = n := by simp [rangeD]
  refine ⟨fun i hi => by rw [hl] at hi; exact hi, fun i hi => by rw [hl] at hi; exact hi, fun i x H2 hi q => ?_⟩
  obtain ⟨rfl, rfl⟩ := q
  rw [hl] at hi
  exact ⟨.int (lo + i), F1, by simp [rangeD, hi], Ext.refl s2, rfl⟩
def enumD : Nat → List D → List D
  | _, [] => []
  | n, d :: ds => .tuple [.int (n : Nat), d] :: enumD (n + 1) ds
theorem enumD_len : ∀ (n : Nat) (ds : List D), (enumD n ds).length = ds.length
  | _, [] => rfl
  | n, _ :: ds => by simp [enumD, enumD_len (n + 1) ds]
theorem enumD_get : ∀ (n : Nat) (ds : List D) (i : Nat), (enumD n ds)[i]? = ds[i]?.map fun d => .tuple [.int ((n + i : Nat) : Int), d]
  | _, [], _ => by simp [enumD]
  | n, d :: ds, 0 => by simp [enumD]
  | n, d :: ds, i + 1 => by
    simp only [enumD, List.getElem?_cons_succ]
    rw [enumD_get (n + 1) ds i]
    rw [show n + 1 + i = n + (i + 1) by omega]
theorem pair_ext {F1 H1 : Hp} (s2 : Same F1 H1) {T : Addr} {i : Nat} {x : V} {d : D} (hT : H1 T = none) (hd : Den F1 d x) :
    Ext F1 H1 (upd F1 T (.tup [.int (i : Nat), x])) (upd H1 T (.tup [.int (i : Nat), x])) ∧ Den (upd F1 T (.tup [.int (i : Nat), x])) (.tuple [.int (i : Nat), d]) (.ref T) := by
  have e := Ext.laid s2 hT (.tup [.int (i : Nat), x])
  exact ⟨e, T, _, rfl, upd_same, .int i, [x], rfl, rfl, x, [], rfl, hd.mono e.old, rfl⟩
theorem itok_enumL {K : PySem.W.Frag} {F : Hp} {a : Addr} {vs : List V} {ds : List D} (h : F a = some (.lst vs)) (l : DenL F ds vs) : ItOk F (Ite K a) (enumD 0 ds) := by
  intro F1 H1 s1 s2
  have e : H1 a = some (.lst vs) := s2 _ _ (s1 _ _ h)
  refine ⟨fun i hi => ⟨vs, SqL.of e, by rw [← l.len, ← enumD_len 0 ds]; exact hi⟩, fun i hi => ?_, fun i x H2 hi q => ?_⟩
  · rw [enumD_len, l.len] at hi
    exact ⟨vs, vs[i], SqL.of e, List.getElem?_eq_getElem hi⟩
  · obtain ⟨T, y, rfl, hT, rfl, q⟩ := q
    obtain ⟨d, e1, e2⟩ := (l.mono s1).got (q vs (SqL.of e))
    obtain ⟨p1, p2⟩ := pair_ext (i := i) s2 hT e2
    exact ⟨_, _, by rw [enumD_get, e1]; simp, p1, p2⟩
theorem itok_enumT {K : PySem.W.Frag} {F : Hp} {a : Addr} {vs : List V} {ds : List D} (h : F a = some (.tup vs)) (l : DenL F ds vs) : ItOk F (Itet K a) (enumD 0 ds) := by
  intro F1 H1 s1 s2
  have e : H1 a = some (.tup vs) := s2 _ _ (s1 _ _ h)
  refine ⟨fun i hi => ⟨vs, SqT.of e, by rw [← l.len, ← enumD_len 0 ds]; exact hi⟩, fun i hi => ?_, fun i x H2 hi q => ?_⟩
  · rw [enumD_len, l.len] at hi
    exact ⟨vs, vs[i], SqT.of e, List.getElem?_eq_getElem hi⟩
  · obtain ⟨T, y, rfl, hT, rfl, q⟩ := q
    obtain ⟨d, e1, e2⟩ := (l.mono s1).got (q vs (SqT.of e))
    obtain ⟨p1, p2⟩ := pair_ext (i := i) s2 hT e2
    exact ⟨_, _, by rw [enumD_get, e1]; simp, p1, p2⟩
section
variable {B : Bd} {EX : Str → Hp → Prop}
def mSeqI (f : M D) : M (List D) := bnd f fun d => lft (seqD d)
theorem evi_seq {K : PySem.W.Frag} {t : TE} {f : M D} (h : Ev B EX VD t f) : Ev B EX VI (iSeq K t) (mSeqI f) := by
  refine Ev.bind (tb := fun x σ H R => ∃ a, x = .ref a ∧ (((∃ xs, SqL K H a xs) ∧ R (Itl K a) H) ∨ ((∃ xs, SqT K H a xs) ∧ R (Itt K a) H))) h fun d x F H σ ρ Q m p q => ?_
  cases d with
  | list ds =>
    obtain ⟨a, vs, rfl, e, l⟩ := p
    exact ⟨a, rfl, .inl ⟨⟨vs, SqL.of (m.sub _ _ e)⟩, q _ F H m.refl (itok_list e l)⟩⟩
  | tuple ds =>
    obtain ⟨a, vs, rfl, e, l⟩ := p
    exact ⟨a, rfl, .inr ⟨⟨vs, SqT.of (m.sub _ _ e)⟩, q _ F H m.refl (itok_tup e l)⟩⟩
  | none => exact q.elim
  | bool _ => exact q.elim
  | int _ => exact q.elim
  | str _ => exact q.elim
  | dict _ => exact q.elim
def mEnum (f : M (List D)) : M (List D) := bnd f fun ds => match ds with
  | [d] => lft ((seqD d).map (enumD 0))
  | _ => stuck
theorem evi_enum {K : PySem.W.Frag} {t : TA} {f : M (List D)} (h : Ev B EX VL t f) : Ev B EX VI (iEnumS K t) (mEnum f) := by
  refine Ev.bind (tb := fun vs σ H R => ∃ a xs, vs = [.ref a] ∧ ((SqL K H a xs ∧ R (Ite K a) H) ∨ (SqT K H a xs ∧ R (Itet K a) H))) h fun ds x F H σ ρ Q m p q => ?_
  match ds, p, q with
  | [], _, q => exact q.elim
  | _ :: _ :: _, _, q => exact q.elim
  | [.list ds], p, q =>
    obtain ⟨v, r, rfl, ⟨a, vs, rfl, e, l⟩, rfl⟩ := p
    exact ⟨a, vs, rfl, .inl ⟨SqL.of (m.sub _ _ e), q _ F H m.refl (itok_enumL e l)⟩⟩
  | [.tuple ds], p, q =>
    obtain ⟨v, r, rfl, ⟨a, vs, rfl, e, l⟩, rfl⟩ := p
    exact ⟨a, vs, rfl, .inr ⟨SqT.of (m.sub _ _ e), q _ F H m.refl (itok_enumT e l)⟩⟩
  | [.none], _, q => exact q.elim
  | [.bool _], _, q => exact q.elim
  | [.int _], _, q => exact q.elim
  | [.str _], _, q => exact q.elim
  | [.dict _], _, q => exact q.elim
def mRng1 (f : M (List D)) : M (List D) := bnd f fun ds => match ds with
  | [.int j] => if j ≤ 1000000 ∧ -1000000 ≤ j then ret (rangeD 0 j.toNat) else stuck
  | _ => stuck
def mRng2 (f : M (List D)) : M (List D) := bnd f fun ds => match ds with
  | [.int i, .int j] => if (j ≤ 1000000 ∧ -1000000 ≤ j) ∧ (i ≤ 1000000 ∧ -1000000 ≤ i) then ret (rangeD i (j - i).toNat) else stuck
  | _ => stuck
theorem evi_rng1 {t : TA} {f : M (List D)} (h : Ev B EX VL t f) : Ev B EX VI (iRng1 t) (mRng1 f) := by
  refine Ev.bind (tb := fun vs σ H R => ∃ j : Int, vs = [.int j] ∧ -(2 ^ 62) ≤ j ∧ j < 2 ^ 62 ∧ R (Itr 0 j.toNat) H) h fun ds x F H σ ρ Q m p q => ?_
  split at q
  · next j =>
    obtain ⟨v, r, rfl, rfl, rfl⟩ := p
    split at q
    · next hb => exact ⟨j, rfl, by omega, by omega, q _ F H m.refl itok_range⟩
    · exact q.elim
  · exact q.elim
theorem evi_rng2 {t : TA} {f : M (List D)} (h : Ev B EX VL t f) : Ev B EX VI (iRng2 t) (mRng2 f) := by
  refine Ev.bind (tb := fun vs σ H R => ∃ i j : Int, vs = [.int i, .int j] ∧ (-(2 ^ 62) ≤ i ∧ i < 2 ^ 62 ∧ -(2 ^ 62) ≤ j ∧ j < 2 ^ 62) ∧ R (Itr i (j - i).toNat) H) h fun ds x F H σ ρ Q m p q => ?_
  split at q
  · next i j =>
    obtain ⟨v, r, rfl, rfl, w, r2, rfl, rfl, rfl⟩ := p
    split at q
    · next hb => exact ⟨i, j, rfl, ⟨by omega, by omega, by omega, by omega⟩, q _ F H m.refl itok_range⟩
    · exact q.elim
  · exact q.elim
end

/-! ### targets -/
def UpL {α : Type} (L : List Nat) (l l' : List α) : Prop := l'.length = l.length ∧ ∀ j : Nat, j ∉ L → l'[j]? = l[j]?
theorem UpL.refl {α : Type} {L : List Nat} {l : List α} : UpL L l l := ⟨rfl, fun _ _ => rfl⟩
theorem UpL.trans {α : Type} {L L' : List Nat} {a b c : List α} (x : UpL L a b) (y : UpL L' b c) : UpL (L ++ L') a c :=
  ⟨y.1.trans x.1, fun j h => by
    have h1 : j ∉ L := fun q => h (List.mem_append_left _ q)
    have h2 : j ∉ L' := fun q => h (List.mem_append_right _ q)
    rw [y.2 j h2, x.2 j h1]⟩
theorem UpL.set {α : Type} (l : List α) (i : Nat) (x : α) : UpL [i] l (l.set i x) := ⟨List.length_set .., fun j h => by
  have : i ≠ j := fun q => h (by simp [q])
  rw [List.getElem?_set]; simp [this]⟩
structure EvG (B : Bd) (g : TG) (h : D → Rho → Option Rho) (L : List Nat) : Prop where
  run : ∀ (F H : Hp) (σ : L2.St) (ρ : Rho) (v : V) (d : D) (ρ' : Rho) (Q : L2.St → Hp → Prop), Mt B F H σ ρ → Den F d v → h d ρ = some ρ' → (∀ σ', Mt B F H σ' ρ' → UpL L σ σ' → Q σ' H) → g v σ H Q
  up : ∀ (d : D) (ρ ρ' : Rho), h d ρ = some ρ' → UpL L ρ ρ'
  fz : ∀ (d : D) (ρ ρ' : Rho) (j : Nat) (c : Cell), h d ρ = some ρ' → ρ'[j]? = some c → c.own = true → ρ[j]? = some c ∧ j ∉ L
structure EvGs (B : Bd) (g : TGs) (h : List D → Rho → Option Rho) (L : List Nat) : Prop where
  run : ∀ (F H : Hp) (σ : L2.St) (ρ : Rho) (v : List V) (d : List D) (ρ' : Rho) (Q : L2.St → Hp → Prop), Mt B F H σ ρ → DenL F d v → h d ρ = some ρ' → (∀ σ', Mt B F H σ' ρ' → UpL L σ σ' → Q σ' H) → g v σ H Q
  up : ∀ (d : List D) (ρ ρ' : Rho), h d ρ = some ρ' → UpL L ρ ρ'
  fz : ∀ (d : List D) (ρ ρ' : Rho) (j : Nat) (c : Cell), h d ρ = some ρ' → ρ'[j]? = some c → c.own = true → ρ[j]? = some c ∧ j ∉ L
def hName (i : Nat) : D → Rho → Option Rho := fun d ρ => some (ρ.set i (.fz d))
section
variable {B : Bd}
theorem eg_name {i : Nat} : EvG B (gName i) (hName i) [i] where
  run := fun F H σ ρ v d ρ' Q m p e q => by cases e; exact q _ (m.put p) (UpL.set _ _ _)
  up := fun d ρ ρ' e => by cases e; exact UpL.set _ _ _
  fz := fun d ρ ρ' j c e h1 h2 => by
    cases e
    rcases set_get h1 with ⟨rfl, rfl⟩ | ⟨ne, h1⟩
    · cases h2
    · exact ⟨h1, by simp; exact fun q => ne q.symm⟩
def hNil : List D → Rho → Option Rho := fun d ρ => match d with
  | [] => some ρ
  | _ => none
def hCons (a : D → Rho → Option Rho) (b : List D → Rho → Option Rho) : List D → Rho → Option Rho := fun d ρ => match d with
  | [] => none
  | x :: xs => (a x ρ).bind (b xs)
theorem egs_nil : EvGs B gNil hNil [] where
  run := fun F H σ ρ v d ρ' Q m p e q => by
    cases d with
    | nil => cases e; exact ⟨p, q σ m UpL.refl⟩
    | cons _ _ => cases e
  up := fun d ρ ρ' e => by
    cases d with
    | nil => cases e; exact UpL.refl
    | cons _ _ => cases e
  fz := fun d ρ ρ' j c e h1 h2 => by
    cases d with
    | nil => cases e; exact ⟨h1, by simp⟩
    | cons _ _ => cases e
theorem egs_cons {g : TG} {gs : TGs} {h : D → Rho → Option Rho} {hs : List D → Rho → Option Rho} {L Ls : List Nat} (a : EvG B g h L) (b : EvGs B gs hs Ls) : EvGs B (gCons g gs) (hCons h hs) (L ++ Ls) where
  run := fun F H σ ρ v d ρ' Q m p e q => by
    cases d with
    | nil => cases e
    | cons x xs =>
      obtain ⟨v, r, rfl, p1, p2⟩ := p
      have e' : (h x ρ).bind (hs xs) = some ρ' := e
      cases e1 : h x ρ with
      | none => rw [e1] at e'; cases e'
      | some ρ1 =>
        rw [e1] at e'
        refine ⟨v, r, rfl, a.run F H σ ρ v x ρ1 _ m p1 e1 fun σ1 m1 u1 => ?_⟩
        exact b.run F H σ1 ρ1 r xs ρ' Q m1 p2 e' fun σ2 m2 u2 => q σ2 m2 (u1.trans u2)
  up := fun d ρ ρ' e => by
    cases d with
    | nil => cases e
    | cons x xs =>
      have e' : (h x ρ).bind (hs xs) = some ρ' := e
      cases e1 : h x ρ with
      | none => rw [e1] at e'; cases e'
      | some ρ1 => rw [e1] at e'; exact (a.up x ρ ρ1 e1).trans (b.up xs ρ1 ρ' e')
  fz := fun d ρ ρ' j c e h1 h2 => by
    cases d with
    | nil => cases e
    | cons x xs =>
      have e' : (h x ρ).bind (hs xs) = some ρ' := e
      cases e1 : h x ρ with
      | none => rw [e1] at e'; cases e'
      | some ρ1 =>
        rw [e1] at e'
        obtain ⟨q1, q2⟩ := b.fz xs ρ1 ρ' j c e' h1 h2
        obtain ⟨q3, q4⟩ := a.fz x ρ ρ1 j c e1 q1 h2
        exact ⟨q3, fun z => (List.mem_append.mp z).elim q4 q2⟩
def hTup (n : Nat) (hs : List D → Rho → Option Rho) : D → Rho → Option Rho := fun d ρ => match d with
  | .tuple ds => if ds.length = n then hs ds ρ else none
  | _ => none
theorem eg_tup {K : PySem.W.Frag} {n : Nat} {gs : TGs} {hs : List D → Rho → Option Rho} {L : List Nat} (b : EvGs B gs hs L) : EvG B (gTup K n gs) (hTup n hs) L where
  run := fun F H σ ρ v d ρ' Q m p e q => by
    cases d with
    | tuple ds =>
      obtain ⟨a, vs, rfl, e1, l⟩ := p
      unfold hTup at e
      by_cases hn : ds.length = n
      · simp only [if_pos hn] at e
        exact ⟨a, vs, rfl, SqT.of (m.sub _ _ e1), by rw [← l.len]; exact hn, b.run F H σ ρ vs ds ρ' Q m l e q⟩
      · simp only [if_neg hn] at e; cases e
    | none => cases e
    | bool _ => cases e
    | int _ => cases e
    | str _ => cases e
    | list _ => cases e
    | dict _ => cases e
  up := fun d ρ ρ' e => by
    cases d with
    | tuple ds =>
      unfold hTup at e
      by_cases hn : ds.length = n
      · simp only [if_pos hn] at e; exact b.up ds ρ ρ' e
      · simp only [if_neg hn] at e; cases e
    | none => cases e
    | bool _ => cases e
    | int _ => cases e
    | str _ => cases e
    | list _ => cases e
    | dict _ => cases e
  fz := fun d ρ ρ' j c e h1 h2 => by
    cases d with
    | tuple ds =>
      unfold hTup at e
      by_cases hn : ds.length = n
      · simp only [if_pos hn] at e; exact b.fz ds ρ ρ' j c e h1 h2
      · simp only [if_neg hn] at e; cases e
    | none => cases e
    | bool _ => cases e
    | int _ => cases e
    | str _ => cases e
    | list _ => cases e
    | dict _ => cases e
end

/-! ### wiping slots -/
def wipeR (ρ : Rho) : List Nat → Rho
  | [] => ρ
  | v :: vs => (wipeR ρ vs).set v .no
def restR (ρ ρ1 : Rho) : List Nat → Rho
  | [] => ρ1
  | v :: vs => match ρ[v]? with
    | some c => (restR ρ ρ1 vs).set v c
    | none => restR ρ ρ1 vs
theorem wipeR_len (ρ : Rho) : ∀ vs : List Nat, (wipeR ρ vs).length = ρ.length
  | [] => rfl
  | v :: vs => by rw [wipeR, List.length_set, wipeR_len ρ vs]
theorem wipeR_in {ρ : Rho} {j : Nat} {c : Cell} : ∀ {vs : List Nat}, (wipeR ρ vs)[j]? = some c → c = .no ∨ (j ∉ vs ∧ ρ[j]? = some c)
  | [], h => .inr ⟨by simp, h⟩
  | v :: vs, h => by
    rcases set_get (show ((wipeR ρ vs).set v .no)[j]? = some c from h) with ⟨_, rfl⟩ | ⟨ne, h⟩
    · exact .inl rfl
    · rcases wipeR_in h with r | ⟨r1, r2⟩
      · exact .inl r
      · exact .inr ⟨fun q => (List.mem_cons.mp q).elim (fun z => ne z.symm) r1, r2⟩
theorem wipeR_out {ρ : Rho} {j : Nat} : ∀ {vs : List Nat}, j ∉ vs → (wipeR ρ vs)[j]? = ρ[j]?
  | [], _ => rfl
  | v :: vs, h => by
    have h1 : v ≠ j := fun q => h (by simp [q])
    have h2 : j ∉ vs := fun q => h (List.mem_cons_of_mem _ q)
    rw [wipeR, List.getElem?_set]; simp only [if_neg h1]; exact wipeR_out h2
theorem wipeR_no {ρ : Rho} {j : Nat} {c : Cell} : ∀ {vs : List Nat}, j ∈ vs → (wipeR ρ vs)[j]? = some c → c = .no := fun {vs} h e => by
  rcases wipeR_in e with r | ⟨r, _⟩
  · exact r
  · exact absurd h r
theorem restR_len (ρ ρ1 : Rho) : ∀ vs : List Nat, (restR ρ ρ1 vs).length = ρ1.length
  | [] => rfl
  | v :: vs => by
    unfold restR
    split
    · rw [List.length_set, restR_len ρ ρ1 vs]
    · exact restR_len ρ ρ1 vs
theorem restR_out {ρ ρ1 : Rho} {j : Nat} : ∀ {vs : List Nat}, j ∉ vs → (restR ρ ρ1 vs)[j]? = ρ1[j]?
  | [], _ => rfl
  | v :: vs, h => by
    have h1 : v ≠ j := fun q => h (by simp [q])
    have h2 : j ∉ vs := fun q => h (List.mem_cons_of_mem _ q)
    unfold restR
    split
    · rw [List.getElem?_set]; simp only [if_neg h1]; exact restR_out h2
    · exact restR_out h2
theorem restR_in {ρ ρ1 : Rho} {j : Nat} (hl : ρ.length = ρ1.length) : ∀ {vs : List Nat}, j ∈ vs → (restR ρ ρ1 vs)[j]? = ρ[j]?
  | v :: vs, h => by
    unfold restR
    by_cases e : v = j
    · subst e
      cases q : ρ[v]? with
      | some c =>
        simp only
        have : v < (restR ρ ρ1 vs).length := by rw [restR_len, ← hl]; exact (List.getElem?_eq_some_iff.mp q).1
        rw [List.getElem?_set]; simp [this]
      | none =>
        simp only
        have : ρ.length ≤ v := List.getElem?_eq_none_iff.mp q
        exact List.getElem?_eq_none_iff.mpr (by rw [restR_len, ← hl]; exact this)
    · have h2 : j ∈ vs := (List.mem_cons.mp h).elim (fun z => absurd z.symm e) id
      split
      · rw [List.getElem?_set]; simp only [if_neg e]; exact restR_in hl h2
      · exact restR_in hl h2
theorem wipe_get {σ : L2.St} {j : Nat} : ∀ {vs : List Nat}, (wipe σ vs)[j]? = if j ∈ vs then (if j < σ.length then some none else none) else σ[j]?
  | [] => by simp [wipe]
  | v :: vs => by
    rw [wipe, List.getElem?_set, wipe_length]
    by_cases e : v = j
    · subst e; simp
    · rw [if_neg e, wipe_get (vs := vs)]
      have : (j ∈ v :: vs) ↔ j ∈ vs := by
        rw [List.mem_cons]
        exact ⟨fun q => q.elim (fun z => absurd z.symm e) id, .inr⟩
      simp only [this]
theorem wipe_up {σ σ' : L2.St} {L vs : List Nat} (u : UpL L (wipe σ vs) σ') (h : ∀ i ∈ L, i ∈ vs) : wipe σ' vs = wipe σ vs := by
  have hl : σ'.length = σ.length := by rw [u.1, wipe_length]
  refine List.ext_getElem? fun j => ?_
  rw [wipe_get, wipe_get]
  by_cases hj : j ∈ vs
  · simp [hj, hl]
  · rw [if_neg hj, if_neg hj, u.2 j (fun q => hj (h j q)), wipe_get, if_neg hj]

/-! ### comprehensions -/
def lcGo (h : D → Rho → Option Rho) (ft : M Bool) (fe : M D) (vs : List Nat) : List D → Rho → R (List D)
  | [], ρ => .ok [] ρ
  | d :: ds, ρ => match h d ρ with
    | none => .no
    | some ρ1 => match ft ρ1 with
      | .ok true ρ2 => (match fe ρ2 with
        | .ok x ρ3 => (match lcGo h ft fe vs ds (wipeR ρ3 vs) with
          | .ok xs ρ4 => .ok (x :: xs) ρ4
          | _ => .no)
        | _ => .no)
      | .ok false ρ2 => lcGo h ft fe vs ds (wipeR ρ2 vs)
      | _ => .no
def mLc (fi : M (List D)) (h : D → Rho → Option Rho) (ft : M Bool) (fe : M D) (vs : List Nat) : M D := bnd fi fun items => fun ρ =>
  if items.length ≤ big then (match lcGo h ft fe vs items (wipeR ρ vs) with
    | .ok xs ρ1 => .ok (.list xs) (restR ρ ρ1 vs)
    | _ => .no) else .no
def mYes : M Bool := ret true
section
variable {B : Bd} {EX : Str → Hp → Prop}
theorem ev_yes : Ev B EX VB tYes mYes := fun F H σ ρ Q m h => h true F H m.refl rfl
theorem Mt.write0 {F H : Hp} {σ : L2.St} {ρ : Rho} (m : Mt B F H σ ρ) {a : Addr} {o : HO} (hn : F a = none) (h0 : B.H0 a = none) (na : ¬ Owns σ ρ a) (la : ∀ x, H a = some x → LD x) : Mt B F (upd H a o) σ ρ := by
  refine ⟨fun b u e => ?_, m.old, m.new, fun b u e n t => ?_, fun b e => ?_, m.len, fun j v c h1 h2 => ?_, m.apart, tabs_but m.tabs (a := a) (fun b x z w => by rw [upd_ne w]; exact z) la, m.ntab⟩
  · rw [upd_ne (ne_of_none e hn)]; exact m.sub _ _ e
  · rw [upd_ne (ne_of_none e h0)]; exact m.frm b u e n t
  · by_cases hb : b = a
    · subst hb; exact h0
    · rw [upd_ne hb] at e; exact m.dom _ e
  · have q := m.cell j v c h1 h2
    cases c with
    | no => trivial
    | fz d' => exact q
    | ow d' =>
      obtain ⟨b, u, rfl, x2, x3, x4, x5⟩ := q
      exact ⟨b, u, rfl, by rw [upd_ne (fun z => na ⟨j, _, by rw [h1, z], h2, rfl⟩)]; exact x2, x3, x4, x5⟩
    | va d' => exact q
    | bw d' =>
      obtain ⟨b, u, rfl, x2, x3, x4, x5⟩ := q
      exact ⟨b, u, rfl, by rw [upd_ne (fun z => na ⟨j, _, by rw [h1, z], h2, rfl⟩)]; exact x2, x3, x4, x5⟩
/-- where a comprehension's block stands: the list made so far is at A -/
structure Blk (B : Bd) (A : Addr) (F H : Hp) (σ : L2.St) (ρ : Rho) (F' H' : Hp) (ρ' : Rho) : Prop where
  mt : Mt B F' H' σ ρ'
  old : Same F F'
  new : ∀ a o, F' a = some o → F a = some o ∨ H a = none ∨ Owns σ ρ a
  frm : ∀ a o, H a = some o → ¬ Owns σ ρ a → (∀ q ∈ B.T, q.1 ≠ a) → H' a = some o
  dom : ∀ a, H' a = none → H a = none
  own : ∀ a, Owns σ ρ' a → Owns σ ρ a
  kind : ∀ (i : Nat) (c : Cell), ρ[i]? = some c → ∃ c', ρ'[i]? = some c' ∧ KStep c c'
  nA : F' A = none
theorem Blk.step {A : Addr} {F H F1 H1 F2 H2 : Hp} {σ σ1 : L2.St} {ρ ρ1 ρ2 ρ3 : Rho} {vs L : List Nat} {o' : HO} (hA : H A = none) (hA0 : B.H0 A = none) (hAo : ¬ Owns σ ρ A) (b : Blk B A F H σ ρ F1 H1 ρ1) (hA1 : ∃ o, H1 A = some o ∧ LD o)
    (hm : Mt B F1 H1 σ1 ρ2) (up : UpL L σ σ1) (fz : ∀ (j : Nat) (c : Cell), ρ2[j]? = some c → c.own = true → ρ1[j]? = some c ∧ j ∉ L) (ru : UpL L ρ1 ρ2) (hL : ∀ i ∈ L, i ∈ vs)
    (wσ : wipe σ vs = σ) (wρ : ∀ j ∈ vs, ∀ c, ρ[j]? = some c → c = .no) (s : Stp B F1 H1 σ1 ρ2 F2 H2 ρ3) :
    F2 A = none ∧ H2 A = H1 A ∧ ¬ Owns σ1 ρ3 A ∧ Blk B A F H σ ρ F2 (upd H2 A o') (wipeR ρ3 vs) ∧ Blk B A F H σ ρ F2 H2 (wipeR ρ3 vs) := by
  have own2 : ∀ a, Owns σ1 ρ2 a → Owns σ ρ1 a := fun a ⟨j, c, h1, h2, h3⟩ => by
    obtain ⟨q1, q2⟩ := fz j c h2 h3
    exact ⟨j, c, by rw [← up.2 j q2]; exact h1, q1, h3⟩
  have nA2 : ¬ Owns σ1 ρ2 A := fun q => hAo (b.own _ (own2 _ q))
  obtain ⟨oA, eA, lA⟩ := hA1
  have tA : ∀ q ∈ B.T, q.1 ≠ A := tabs_at b.mt.tabs (ld_tbl eA lA)
  have e1 : H2 A = H1 A := by rw [eA]; exact s.frm A oA eA nA2 tA
  have e2 : F2 A = none := by
    cases q : F2 A with
    | none => rfl
    | some u =>
      rcases s.new A u q with z | z | z
      · rw [b.nA] at z; cases z
      · rw [eA] at z; cases z
      · exact absurd z nA2
  have nA3 : ¬ Owns σ1 ρ3 A := fun q => nA2 (s.own _ q)
  have lρ3 : ρ3.length = σ.length := by rw [s.mt.len, up.1]
  have wf : ∀ (i : Nat) c, (wipeR ρ3 vs)[i]? = some c → c = .no ∨ (ρ3[i]? = some c ∧ σ[i]? = σ1[i]?) := fun i c e => by
    rcases wipeR_in e with r | ⟨r1, r2⟩
    · exact .inl r
    · exact .inr ⟨r2, (up.2 i (fun q => r1 (hL i q))).symm⟩
  have mW : Mt B F2 H2 σ (wipeR ρ3 vs) := s.mt.drop (by rw [wipeR_len]; exact lρ3) wf
  have ownW : ∀ a, Owns σ (wipeR ρ3 vs) a → Owns σ1 ρ3 a := fun a ⟨j, c, h1, h2, h3⟩ => by
    rcases wf j c h2 with rfl | ⟨q1, q2⟩
    · cases h3
    · exact ⟨j, c, by rw [← q2]; exact h1, q1, h3⟩
  have ownAll : ∀ a, Owns σ (wipeR ρ3 vs) a → Owns σ ρ a := fun a q => b.own _ (own2 _ (s.own _ (ownW _ q)))
  have old : Same F F2 := b.old.trans s.old
  have new : ∀ a o, F2 a = some o → F a = some o ∨ H a = none ∨ Owns σ ρ a := fun a o e => by
    rcases s.new a o e with z | z | z
    · exact b.new a o z
    · exact .inr (.inl (b.dom _ z))
    · exact .inr (.inr (b.own _ (own2 _ z)))
  have frm : ∀ a o, H a = some o → ¬ Owns σ ρ a → (∀ q ∈ B.T, q.1 ≠ a) → H2 a = some o := fun a o e n t => s.frm a o (b.frm a o e n t) (fun q => n (b.own _ (own2 _ q))) t
  have dom : ∀ a, H2 a = none → H a = none := fun a e => b.dom _ (s.dom _ e)
  have kind : ∀ (i : Nat) (c : Cell), ρ[i]? = some c → ∃ c', (wipeR ρ3 vs)[i]? = some c' ∧ KStep c c' := fun i c e => by
    by_cases hi : i ∈ vs
    · have := wρ i hi c e
      subst this
      have il : i < (wipeR ρ3 vs).length := by
        obtain ⟨c', q, _⟩ := b.kind i _ e
        have h1 := (List.getElem?_eq_some_iff.mp q).1
        rw [wipeR_len, lρ3, ← b.mt.len]; exact h1
      refine ⟨_, List.getElem?_eq_getElem il, ?_⟩
      rw [wipeR_no hi (List.getElem?_eq_getElem il)]
      trivial
    · obtain ⟨c1, q1, k1⟩ := b.kind i c e
      have q2 : ρ2[i]? = some c1 := by rw [ru.2 i (fun z => hi (hL i z))]; exact q1
      obtain ⟨c3, q3, k3⟩ := s.kind i c1 q2
      exact ⟨c3, by rw [wipeR_out hi]; exact q3, k1.trans k3⟩
  refine ⟨e2, e1, nA3, ⟨mW.write0 e2 hA0 (fun q => nA3 (ownW _ q)) (fun x z => by rw [e1, eA] at z; cases z; exact lA), old, new, fun a o e n t => ?_, fun a e => ?_, ownAll, kind, e2⟩, ⟨mW, old, new, frm, dom, ownAll, kind, e2⟩⟩
  · rw [upd_ne (ne_of_none e hA)]; exact frm a o e n t
  · by_cases ha : a = A
    · subst ha; exact hA
    · rw [upd_ne ha] at e; exact dom _ e
theorem Blk.ext {A : Addr} {F H F1 H1 F2 H2 : Hp} {σ : L2.St} {ρ ρ1 : Rho} (b : Blk B A F H σ ρ F1 H1 ρ1) (hA1 : ∃ o, H1 A = some o) (e : Ext F1 H1 F2 H2) : Blk B A F H σ ρ F2 H2 ρ1 := by
  refine ⟨b.mt.grow e, b.old.trans e.old, fun a o h => ?_, fun a o h n t => e.same _ _ (b.frm a o h n t), fun a h => b.dom _ (e.same.free h), b.own, b.kind, ?_⟩
  · rcases e.new a o h with z | z
    · exact b.new a o z
    · exact .inr (.inl (b.dom _ z))
  · cases q : F2 A with
    | none => rfl
    | some u =>
      obtain ⟨o, ho⟩ := hA1
      rcases e.new A u q with z | z
      · rw [b.nA] at z; cases z
      · rw [ho] at z; cases z
/-- the block is left -/
theorem Blk.out {A : Addr} {F H F1 H1 : Hp} {σ : L2.St} {ρ ρ1 : Rho} {vs : List Nat} (m : Mt B F H σ ρ) (b : Blk B A F H (wipe σ vs) (wipeR ρ vs) F1 H1 ρ1) : Stp B F H σ ρ F1 H1 (restR ρ ρ1 vs) := by
  have lρ : ρ.length = ρ1.length := by rw [b.mt.len, wipe_length, m.len]
  have σo : ∀ j, j ∉ vs → (wipe σ vs)[j]? = σ[j]? := fun j hj => by rw [wipe_get, if_neg hj]
  have own1 : ∀ a, Owns (wipe σ vs) (wipeR ρ vs) a → Owns σ ρ a ∧ ∀ j c, j ∈ vs → σ[j]? = some (some (V.ref a)) → ρ[j]? = some c → c.own = true → False := fun a ⟨j, c, h1, h2, h3⟩ => by
    rcases wipeR_in h2 with rfl | ⟨r1, r2⟩
    · cases h3
    · rw [σo j r1] at h1
      exact ⟨⟨j, c, h1, r2, h3⟩, fun k c' hk q1 q2 q3 => r1 (by rw [m.apart j k a c c' h1 q1 r2 q2 h3 q3]; exact hk)⟩
  have cellv : ∀ (j : Nat) v c, j ∈ vs → σ[j]? = some v → ρ[j]? = some c → CellOk B F1 H1 v c := fun j v c hj h1 h2 => by
    have q := m.cell j v c h1 h2
    cases c with
    | no => trivial
    | fz d => obtain ⟨u, x, y⟩ := q; exact ⟨u, x, y.mono b.old⟩
    | ow d =>
      obtain ⟨a, o, rfl, x2, x3, x4, x5⟩ := q
      have na : ¬ Owns (wipe σ vs) (wipeR ρ vs) a := fun z => (own1 a z).2 j _ hj h1 h2 rfl
      refine ⟨a, o, rfl, b.frm a o x2 na (tabs_at m.tabs (ld_tbl x2 x3.ld)), x3.mono b.old, ?_, x5⟩
      cases w : F1 a with
      | none => rfl
      | some u =>
        rcases b.new a u w with z | z | z
        · rw [x4] at z; cases z
        · rw [x2] at z; cases z
        · exact absurd z na
    | va d => exact q
    | bw d =>
      obtain ⟨a, o, rfl, x2, x3, x4, x5⟩ := q
      have na : ¬ Owns (wipe σ vs) (wipeR ρ vs) a := fun z => (own1 a z).2 j _ hj h1 h2 rfl
      refine ⟨a, o, rfl, b.frm a o x2 na (tabs_at m.tabs (ld_tbl x2 x3.ld)), x3.mono b.old, ?_, x5⟩
      cases w : F1 a with
      | none => rfl
      | some u =>
        rcases b.new a u w with z | z | z
        · rw [x4] at z; cases z
        · rw [x2] at z; cases z
        · exact absurd z na
  have ownR : ∀ (j : Nat) c a, σ[j]? = some (some (V.ref a)) → (restR ρ ρ1 vs)[j]? = some c → c.own = true → (j ∈ vs ∧ ρ[j]? = some c) ∨ (j ∉ vs ∧ ρ1[j]? = some c ∧ (wipe σ vs)[j]? = some (some (V.ref a))) := fun j c a h1 h2 h3 => by
    by_cases hj : j ∈ vs
    · rw [restR_in lρ hj] at h2; exact .inl ⟨hj, h2⟩
    · rw [restR_out hj] at h2; exact .inr ⟨hj, h2, by rw [σo j hj]; exact h1⟩
  have mt : Mt B F1 H1 σ (restR ρ ρ1 vs) := by
    refine ⟨b.mt.sub, b.mt.old, b.mt.new, b.mt.frm, b.mt.dom, by rw [restR_len, ← lρ]; exact m.len, fun j v c h1 h2 => ?_, fun j k a c c' h1 h2 h3 h4 h5 h6 => ?_, b.mt.tabs, b.mt.ntab⟩
    · by_cases hj : j ∈ vs
      · rw [restR_in lρ hj] at h2; exact cellv j v c hj h1 h2
      · rw [restR_out hj] at h2; exact b.mt.cell j v c (by rw [σo j hj]; exact h1) h2
    · rcases ownR j c a h1 h3 h5 with ⟨y1, y2⟩ | ⟨y1, y2, y3⟩
      · rcases ownR k c' a h2 h4 h6 with ⟨z1, z2⟩ | ⟨z1, z2, z3⟩
        · exact m.apart j k a c c' h1 h2 y2 z2 h5 h6
        · exact ((own1 a (b.own a ⟨k, c', z3, z2, h6⟩)).2 j c y1 h1 y2 h5).elim
      · rcases ownR k c' a h2 h4 h6 with ⟨z1, z2⟩ | ⟨z1, z2, z3⟩
        · exact ((own1 a (b.own a ⟨j, c, y3, y2, h5⟩)).2 k c' z1 h2 z2 h6).elim
        · exact b.mt.apart j k a c c' y3 z3 y2 z2 h5 h6
  refine ⟨mt, b.old, fun a o e => ?_, fun a o e n t => b.frm a o e (fun q => n (own1 a q).1) t, b.dom, fun a q => ?_, fun j c e => ?_⟩
  · rcases b.new a o e with z | z | z
    · exact .inl z
    · exact .inr (.inl z)
    · exact .inr (.inr (own1 a z).1)
  · obtain ⟨j, c, h1, h2, h3⟩ := q
    rcases ownR j c a h1 h2 h3 with ⟨y1, y2⟩ | ⟨y1, y2, y3⟩
    · exact ⟨j, c, h1, y2, h3⟩
    · exact (own1 a (b.own a ⟨j, c, y3, y2, h3⟩)).1
  · by_cases hj : j ∈ vs
    · exact ⟨c, by rw [restR_in lρ hj]; exact e, KStep.refl c⟩
    · obtain ⟨c', q1, q2⟩ := b.kind j c (by rw [wipeR_out hj]; exact e)
      exact ⟨c', by rw [restR_out hj]; exact q1, q2⟩
abbrev EX0 : Str → Hp → Prop := fun _ _ => False
theorem evf_lc {wi : TI} {g : TG} {tt : TT} {te : TE} {fi : M (List D)} {h : D → Rho → Option Rho} {ft : M Bool} {fe : M D} {vs L : List Nat} (hi : Ev B EX VI wi fi) (hg : EvG B g h L) (ht : Ev B EX0 VB tt ft) (he : Ev B EX0 VD te fe)
    (hL : ∀ i ∈ L, i ∈ vs) : EvF B EX (tLc wi g tt te vs) (mLc fi h ft fe vs) := by
  refine evf_bind (tb := fun J σ H1 Q => ∀ D, H1 D = none → ∃ W : Nat → Nat → Hp → Prop, (∃ m, W 0 m (upd H1 D (.lst []))) ∧ ∀ i m H, W i m H →
    (J.stop i H ∧ Q (V.ref D) H) ∨ (J.go i H ∧ ∃ Nx : Hp → Prop, (∀ H', Nx H' → ∃ m', m' < m ∧ W (i + 1) m' H') ∧ ∀ x H', J.yld i H x H' → g x (wipe σ vs) H' fun σ2 H2 => wipe σ2 vs = wipe σ vs ∧ tt σ2 H2 fun b H3 =>
      if b = true then te σ2 H3 fun y H4 => ∃ acc, H4 D = some (.lst acc) ∧ acc.length < sizeLine ∧ Nx (upd H4 D (.lst (acc ++ [y]))) else Nx H3)) hi fun items J F H σ ρ Q m ok q => ?_
  intro A hA
  by_cases hbig : items.length ≤ big
  · simp only [if_pos hbig] at q
    cases e : lcGo h ft fe vs items (wipeR ρ vs) with
    | no => rw [e] at q; exact q.elim
    | ex c r => rw [e] at q; exact q.elim
    | ok total ρe =>
      rw [e] at q
      have mw : Mt B F H (wipe σ vs) (wipeR ρ vs) := m.drop (by rw [wipeR_len, wipe_length]; exact m.len) fun i c h1 => by
        rcases wipeR_in h1 with r | ⟨r1, r2⟩
        · exact .inl r
        · exact .inr ⟨r2, by rw [wipe_get, if_neg r1]⟩
      have hAo : ¬ Owns (wipe σ vs) (wipeR ρ vs) A := mw.noOwn hA
      have hA0 : B.H0 A = none := m.dom _ hA
      have b0 : Blk B A F H (wipe σ vs) (wipeR ρ vs) F (upd H A (.lst [])) (wipeR ρ vs) :=
        ⟨mw.write0 (m.sub.free hA) hA0 hAo (fun x z => by rw [hA] at z; cases z), Same.refl _, fun _ _ z => .inl z, fun a o z _ _ => by rw [upd_ne (ne_of_none z hA)]; exact z, fun a z => by
          by_cases ha : a = A
          · subst ha; exact hA
          · rw [upd_ne ha] at z; exact z, fun _ z => z, fun i c z => ⟨c, z, KStep.refl c⟩, m.sub.free hA⟩
      refine ⟨fun i k Hc => i + k = items.length ∧ ∃ Fc ρc accD accV restD, Blk B A F H (wipe σ vs) (wipeR ρ vs) Fc Hc ρc ∧ Hc A = some (.lst accV) ∧ DenL Fc accD accV ∧ accD.length ≤ i ∧
        lcGo h ft fe vs (items.drop i) ρc = .ok restD ρe ∧ accD ++ restD = total, ⟨items.length, by omega, F, wipeR ρ vs, [], [], total, b0, upd_same, rfl, Nat.le_refl _, by rw [List.drop_zero]; exact e, rfl⟩, ?_⟩
      rintro i k Hc ⟨hik, Fc, ρc, accD, accV, restD, b, hcA, dacc, lacc, lc, tot⟩
      have it := ok Fc Hc b.old b.mt.sub
      by_cases hi : i < items.length
      · refine .inr ⟨it.2.1 i hi, fun Hc => (i + 1) + (k - 1) = items.length ∧ ∃ Fc ρc accD accV restD, Blk B A F H (wipe σ vs) (wipeR ρ vs) Fc Hc ρc ∧ Hc A = some (.lst accV) ∧ DenL Fc accD accV ∧ accD.length ≤ i + 1 ∧
          lcGo h ft fe vs (items.drop (i + 1)) ρc = .ok restD ρe ∧ accD ++ restD = total, fun H' hN => ⟨k - 1, by omega, hN⟩, fun x H2 hy => ?_⟩
        obtain ⟨d, F2, ed, ex, dx⟩ := it.2.2 i x H2 hi hy
        have hdrop : items.drop i = d :: items.drop (i + 1) := by
          rw [List.drop_eq_getElem_cons hi]
          rw [List.getElem?_eq_getElem hi] at ed
          rw [Option.some.inj ed]
        rw [hdrop] at lc
        unfold lcGo at lc
        have hA2 : H2 A = some (.lst accV) := ex.same _ _ hcA
        have b2 := b.ext ⟨_, hcA⟩ ex
        cases e1 : h d ρc with
        | none => rw [e1] at lc; cases lc
        | some ρ1 =>
          rw [e1] at lc
          simp only at lc
          refine hg.run F2 H2 (wipe σ vs) ρc x d ρ1 _ b2.mt dx e1 fun σ1 m3 up => ⟨wipe_up up hL, ?_⟩
          refine ht F2 H2 σ1 ρ1 _ m3 ?_
          have wσ : wipe (wipe σ vs) vs = wipe σ vs := wipe_up UpL.refl (fun i h => h)
          have wρ : ∀ j ∈ vs, ∀ c, (wipeR ρ vs)[j]? = some c → c = .no := fun j hj c z => wipeR_no hj z
          cases e2 : ft ρ1 with
          | no => rw [e2] at lc; cases lc
          | ex c r => rw [e2] at lc; cases lc
          | ok bb ρ2 =>
            rw [e2] at lc
            intro b' F3 H3 s3 eb
            subst eb
            cases b' with
            | true =>
              simp only at lc
              simp only [if_true]
              refine he F3 H3 σ1 ρ2 _ s3.mt ?_
              cases e3 : fe ρ2 with
              | no => rw [e3] at lc; cases lc
              | ex c r => rw [e3] at lc; cases lc
              | ok y ρ3 =>
                rw [e3] at lc
                simp only at lc
                intro v F4 H4 s4 dv
                obtain ⟨p1, p2, p3, p4, _⟩ := Blk.step (o' := .lst (accV ++ [v])) hA hA0 hAo b2 ⟨_, hA2, .inl ⟨_, rfl⟩⟩ m3 up (fun j c z1 z2 => hg.fz d ρc ρ1 j c e1 z1 z2) (hg.up d ρc ρ1 e1) hL wσ wρ (s3.trans s4)
                cases e4 : lcGo h ft fe vs (items.drop (i + 1)) (wipeR ρ3 vs) with
                | no => rw [e4] at lc; cases lc
                | ex c r => rw [e4] at lc; cases lc
                | ok xs ρ4 =>
                  rw [e4] at lc
                  cases lc
                  refine ⟨accV, by rw [p2]; exact hA2, ?_, by omega, F4, wipeR ρ3 vs, accD ++ [y], accV ++ [v], xs, p4, upd_same, (dacc.mono (ex.old.trans (s3.trans s4).old)).app (DenL.one dv), by simp; exact lacc, e4, by rw [List.append_assoc]; exact tot⟩
                  rw [← dacc.len]
                  exact Nat.lt_of_le_of_lt lacc (Nat.lt_of_lt_of_le hi (big_le hbig))
            | false =>
              simp only at lc
              simp only [Bool.false_eq_true, if_false]
              obtain ⟨p1, p2, p3, _, p4⟩ := Blk.step (o' := .lst accV) hA hA0 hAo b2 ⟨_, hA2, .inl ⟨_, rfl⟩⟩ m3 up (fun j c z1 z2 => hg.fz d ρc ρ1 j c e1 z1 z2) (hg.up d ρc ρ1 e1) hL wσ wρ s3
              exact ⟨by omega, F3, wipeR ρ2 vs, accD, accV, restD, p4, by rw [p2]; exact hA2, dacc.mono (ex.old.trans s3.old), by omega, lc, tot⟩
      · have hdrop : items.drop i = [] := List.drop_eq_nil_of_le (by omega)
        rw [hdrop] at lc
        cases lc
        rw [List.append_nil] at tot
        subst tot
        exact .inl ⟨it.1 i (by omega), q (.ref A) Fc Hc (b.out m) ⟨A, _, rfl, hcA, dacc, b.nA, hA⟩⟩
  · simp only [if_neg hbig] at q; exact q.elim
end
end Rn
end

section
set_option Elab.async false
set_option linter.all false
set_option maxRecDepth 100000
/-! Core6: statements, loops, defs. -/
namespace Rn
open PySem PySem.Spec L2

inductive Out where
  | nx (r : Rho)
  | rt (d : D) (r : Rho)
  | rf (d : D) (r : Rho)
  | bk (r : Rho)
  | ct (r : Rho)
  | ex (c : Str) (r : Rho)
  | no
abbrev S := Rho → Out

def PostS (B : Bd) (EX : Str → Hp → Prop) (F : Hp) (E : Ends) : Out → Prop
  | .nx ρ' => ∀ σ' F' H', Mt B F' H' σ' ρ' → Same F F' → E.nx σ' H'
  | .rt d ρ' => ∀ v σ' F' H', Mt B F' H' σ' ρ' → Same F F' → Den F' d v → E.rt v H'
  | .rf d ρ' => ∀ v σ' F' H', Mt B F' H' σ' ρ' → Same F F' → VFr B.H0 F' H' d v → E.rt v H'
  | .bk ρ' => ∀ σ' F' H', Mt B F' H' σ' ρ' → Same F F' → E.bk σ' H'
  | .ct ρ' => ∀ σ' F' H', Mt B F' H' σ' ρ' → Same F F' → E.ct σ' H'
  | .ex c ρ' => ∀ σ' F' H', Mt B F' H' σ' ρ' → EX c H'
  | .no => False
def EvS (B : Bd) (EX : Str → Hp → Prop) (t : TS) (f : S) : Prop :=
  ∀ (F H : Hp) (σ : L2.St) (ρ : Rho) (E : Ends), Mt B F H σ ρ → PostS B EX F E (f ρ) → t E σ H
section
variable {B : Bd} {EX : Str → Hp → Prop}
theorem PostS.from {F F' : Hp} {E : Ends} {o : Out} (h : PostS B EX F E o) (s : Same F F') : PostS B EX F' E o := by
  cases o with
  | nx r => exact fun σ' F2 H2 m q => h σ' F2 H2 m (s.trans q)
  | rt d r => exact fun v σ' F2 H2 m q => h v σ' F2 H2 m (s.trans q)
  | rf d r => exact fun v σ' F2 H2 m q => h v σ' F2 H2 m (s.trans q)
  | bk r => exact fun σ' F2 H2 m q => h σ' F2 H2 m (s.trans q)
  | ct r => exact fun σ' F2 H2 m q => h σ' F2 H2 m (s.trans q)
  | ex c r => exact h
  | no => exact h
/-- an expression, then what leans on its value -/
def sBind {α : Type} (f : M α) (k : α → S) : S := fun ρ => match f ρ with
  | .ok a r => k a r
  | .ex c r => .ex c r
  | .no => .no
theorem es_bind {α β : Type} {VP : L2.St → Hp → Hp → Rho → α → β → Prop} {ta : Rd1 β} {tb : β → TS} {f : M α} {k : α → S} (ha : Ev B EX VP ta f)
    (hb : ∀ (a : α) (x : β) (F H : Hp) (σ : L2.St) (ρ : Rho) (E : Ends), Mt B F H σ ρ → VP σ F H ρ a x → PostS B EX F E (k a ρ) → tb x E σ H) :
    EvS B EX (fun E σ H => ta σ H fun x H1 => tb x E σ H1) (sBind f k) := by
  intro F H σ ρ E m h
  refine ha F H σ ρ _ m ?_
  unfold sBind at h
  cases e : f ρ with
  | ok a r => rw [e] at h; exact fun v F' H' x p => hb a v F' H' σ r E x.mt p (h.from x.old)
  | ex c r => rw [e] at h; exact fun F' H' x => h σ F' H' x.mt
  | no => rw [e] at h; exact h
/-! ### small statements -/
def sNext : S := fun ρ => .nx ρ
def sSeq (f g : S) : S := fun ρ => match f ρ with
  | .nx r => g r
  | o => o
theorem es_next : EvS B EX tNext sNext := fun F H σ ρ E m h => h σ F H m (Same.refl _)
theorem es_seq {t u : TS} {f g : S} (h1 : EvS B EX t f) (h2 : EvS B EX u g) : EvS B EX (tSeq t u) (sSeq f g) := by
  intro F H σ ρ E m h
  refine h1 F H σ ρ _ m ?_
  unfold sSeq at h
  cases e : f ρ with
  | nx r => rw [e] at h; exact fun σ' F' H' m' s => h2 F' H' σ' r E m' (h.from s)
  | rt d r => rw [e] at h; exact h
  | rf d r => rw [e] at h; exact h
  | bk r => rw [e] at h; exact h
  | ct r => rw [e] at h; exact h
  | ex c r => rw [e] at h; exact h
  | no => rw [e] at h; exact h
def sDrop (f : M D) : S := sBind f fun _ => sNext
theorem es_drop {t : TE} {f : M D} (h : Ev B EX VD t f) : EvS B EX (tDrop t) (sDrop f) :=
  es_bind (tb := fun x E σ H => E.nx σ H) h fun a x F H σ ρ E m p q => q σ F H m (Same.refl _)
def sRet (f : M D) : S := sBind f fun d => fun ρ => .rt d ρ
theorem es_ret {t : TE} {f : M D} (h : Ev B EX VD t f) : EvS B EX (tRet t) (sRet f) :=
  es_bind (tb := fun x E σ H => E.rt x H) h fun a x F H σ ρ E m p q => q x σ F H m (Same.refl _) p
/-- return of a list or dict of the def's own, not frozen -/
def sRetF (i : Nat) : S := fun ρ => match ρ[i]? with
  | some (.ow d) => .rf d ρ
  | _ => .no
theorem es_retF {i : Nat} : EvS B EX (tRet (tVar i)) (sRetF i) := by
  intro F H σ ρ E m h
  unfold sRetF at h
  split at h
  · next d e =>
    have hl : i < σ.length := by rw [← m.len]; exact (List.getElem?_eq_some_iff.mp e).1
    have hs : σ[i]? = some σ[i] := List.getElem?_eq_getElem hl
    obtain ⟨a, o, h1, h2, h3, h4, h5⟩ := m.cell i _ _ hs e
    exact ⟨.ref a, by rw [hs, h1], h (.ref a) σ F H m (Same.refl _) ⟨a, o, rfl, h2, h3, h4, h5⟩⟩
  · exact h.elim
def sRetN : S := fun ρ => .rt .none ρ
theorem es_retN : EvS B EX tRetN sRetN := fun F H σ ρ E m h => h .non σ F H m (Same.refl _) rfl
def sIf (c : M Bool) (f g : S) : S := sBind c fun b => if b = true then f else g
theorem es_if {c : TT} {t u : TS} {fc : M Bool} {f g : S} (hc : Ev B EX VB c fc) (h1 : EvS B EX t f) (h2 : EvS B EX u g) : EvS B EX (tIfS c t u) (sIf fc f g) :=
  es_bind (tb := fun b E σ H => if b = true then t E σ H else u E σ H) hc fun a x F H σ ρ E m p q => by
    cases p
    cases a with
    | true => exact h1 F H σ ρ E m q
    | false => exact h2 F H σ ρ E m q
def sBreak : S := fun ρ => .bk ρ
def sCont : S := fun ρ => .ct ρ
theorem es_break : EvS B EX tBreak sBreak := fun F H σ ρ E m h => h σ F H m (Same.refl _)
theorem es_cont : EvS B EX tCont sCont := fun F H σ ρ E m h => h σ F H m (Same.refl _)
/-! ### assignments -/
def sAsg (f : M D) (h : D → Rho → Option Rho) : S := sBind f fun d => fun ρ => match h d ρ with
  | some r => .nx r
  | none => .no
theorem es_asg {t : TE} {f : M D} {g : TG} {h : D → Rho → Option Rho} {L : List Nat} (he : Ev B EX VD t f) (hg : EvG B g h L) : EvS B EX (tAsg t g) (sAsg f h) :=
  es_bind (tb := fun x E σ H => g x σ H E.nx) he fun a x F H σ ρ E m p q => by
    cases e : h a ρ with
    | none => simp only [e] at q; exact q.elim
    | some r =>
      simp only [e] at q
      exact hg.run F H σ ρ x a r _ m p e fun σ' m' _ => q σ' F H m' (Same.refl _)
def sOwn (f : M D) (i : Nat) : S := sBind f fun d => fun ρ => .nx (ρ.set i (.ow d))
theorem es_own {t : TE} {f : M D} {i : Nat} (he : EvF B EX t f) : EvS B EX (tAsg t (gName i)) (sOwn f i) := by
  intro F H σ ρ E m h
  refine he F H σ ρ _ m ?_
  unfold sOwn sBind at h
  cases e : f ρ with
  | ex c r => rw [e] at h; exact fun F' H' x => h σ F' H' x.mt
  | no => rw [e] at h; exact h
  | ok d r =>
    rw [e] at h
    rintro v F' H' x ⟨a, o, rfl, h1, h2, h3, h4⟩
    exact h _ F' H' (x.mt.putOwn h1 h2 h3 (m.dom _ h4) fun q => m.noOwn h4 (x.own _ q)) x.old
/-! ### several at once -/
def ownAt : List Bool → List V → List Addr
  | true :: ms, .ref a :: vs => a :: ownAt ms vs
  | _ :: ms, _ :: vs => ownAt ms vs
  | _, _ => []
def VM (Hs : Hp) : List Bool → Hp → Hp → List D → List V → Prop
  | [], _, _, [], vs => vs = []
  | true :: ms, F, H, d :: ds, vs => ∃ a o r, vs = .ref a :: r ∧ H a = some o ∧ Shal F d o ∧ F a = none ∧ Hs a = none ∧ a ∉ ownAt ms r ∧ VM Hs ms F H ds r
  | false :: ms, F, H, d :: ds, vs => ∃ v r, vs = v :: r ∧ Den F d v ∧ VM Hs ms F H ds r
  | _, _, _, _, _ => False
theorem VM.free {Hs : Hp} : ∀ {ms : List Bool} {F H : Hp} {ds : List D} {vs : List V} {a : Addr}, VM Hs ms F H ds vs → a ∈ ownAt ms vs → Hs a = none
  | [], _, _, [], _, a, h, q => by cases h; cases q
  | [], _, _, _ :: _, _, a, h, q => h.elim
  | true :: ms, F, H, [], vs, a, h, q => h.elim
  | false :: ms, F, H, [], vs, a, h, q => h.elim
  | true :: ms, F, H, d :: ds, vs, a, ⟨b, o, r, e, h1, h2, h3, h4, h5, h6⟩, q => by
    subst e
    rcases List.mem_cons.mp (show a ∈ b :: ownAt ms r from q) with rfl | q
    · exact h4
    · exact VM.free h6 q
  | false :: ms, F, H, d :: ds, vs, a, ⟨v, r, e, h1, h2⟩, q => by
    subst e
    have q' : a ∈ ownAt ms r := by
      cases v <;> exact q
    exact VM.free h2 q'
theorem VM.from {Hs Hs' : Hp} (k : ∀ a, Hs a = none → Hs' a = none) : ∀ {ms : List Bool} {F H : Hp} {ds : List D} {vs : List V}, VM Hs ms F H ds vs → VM Hs' ms F H ds vs
  | [], _, _, [], _, h => h
  | [], _, _, _ :: _, _, h => h.elim
  | true :: ms, F, H, [], vs, h => h.elim
  | false :: ms, F, H, [], vs, h => h.elim
  | true :: ms, F, H, d :: ds, vs, ⟨b, o, r, e, h1, h2, h3, h4, h5, h6⟩ => ⟨b, o, r, e, h1, h2, h3, k _ h4, h5, VM.from k h6⟩
  | false :: ms, F, H, d :: ds, vs, ⟨v, r, e, h1, h2⟩ => ⟨v, r, e, h1, VM.from k h2⟩
def EvM (B : Bd) (EX : Str → Hp → Prop) (ms : List Bool) (t : TA) (f : M (List D)) : Prop :=
  ∀ (F H : Hp) (σ : L2.St) (ρ : Rho) (Q : List V → Hp → Prop), Mt B F H σ ρ → Post B EX F H σ ρ (fun _ F' H' _ ds vs => VM H ms F' H' ds vs) (f ρ) Q → t σ H Q
theorem evm_nil : EvM B EX [] tNil mNil := fun F H σ ρ Q m h => h [] F H m.refl rfl
theorem evm_cons {ms : List Bool} {ta : TE} {tr : TA} {fa : M D} {fr : M (List D)} (ha : Ev B EX VD ta fa) (hr : EvM B EX ms tr fr) : EvM B EX (false :: ms) (tCons ta tr) (mCons fa fr) := by
  intro F H σ ρ Q m h
  refine ha F H σ ρ _ m ?_
  unfold mCons bnd at h
  cases e : fa ρ with
  | ex c r => rw [e] at h; exact h
  | no => rw [e] at h; exact h
  | ok d r =>
    rw [e] at h
    simp only at h
    intro v F1 H1 x1 dv
    refine hr F1 H1 σ r _ x1.mt ?_
    cases e2 : fr r with
    | ex c r2 => rw [e2] at h; exact fun F2 H2 x2 => h F2 H2 (x1.trans x2)
    | no => rw [e2] at h; exact h
    | ok ds r2 =>
      rw [e2] at h
      exact fun vs F2 H2 x2 hv => h (v :: vs) F2 H2 (x1.trans x2) ⟨v, vs, rfl, dv.mono x2.old, VM.from (fun a z => x1.dom _ z) hv⟩
theorem evm_own {ms : List Bool} {ta : TE} {tr : TA} {fa : M D} {fr : M (List D)} (ha : EvF B EX ta fa) (hr : EvM B EX ms tr fr) : EvM B EX (true :: ms) (tCons ta tr) (mCons fa fr) := by
  intro F H σ ρ Q m h
  refine ha F H σ ρ _ m ?_
  unfold mCons bnd at h
  cases e : fa ρ with
  | ex c r => rw [e] at h; exact h
  | no => rw [e] at h; exact h
  | ok d r =>
    rw [e] at h
    simp only at h
    rintro v F1 H1 x1 ⟨a, o, rfl, h1, h2, h3, h4⟩
    refine hr F1 H1 σ r _ x1.mt ?_
    have na : ¬ Owns σ r a := fun q => m.noOwn h4 (x1.own _ q)
    cases e2 : fr r with
    | ex c r2 => rw [e2] at h; exact fun F2 H2 x2 => h F2 H2 (x1.trans x2)
    | no => rw [e2] at h; exact h
    | ok ds r2 =>
      rw [e2] at h
      intro vs F2 H2 x2 hv
      refine h (.ref a :: vs) F2 H2 (x1.trans x2) ⟨a, o, vs, rfl, x2.frm a o h1 na (tabs_at x1.mt.tabs (ld_tbl h1 h2.ld)), h2.mono x2.old, ?_, h4, fun q => ?_, VM.from (fun a z => x1.dom _ z) hv⟩
      · cases w : F2 a with
        | none => rfl
        | some u =>
          rcases x2.new a u w with z | z | z
          · rw [h3] at z; cases z
          · rw [h1] at z; cases z
          · exact absurd z na
      · have z := VM.free hv q
        rw [h1] at z; cases z
def parSet : List Bool → List Nat → List D → Rho → Option Rho
  | [], [], [], ρ => some ρ
  | m :: ms, i :: is, d :: ds, ρ => parSet ms is ds (ρ.set i (if m = true then .ow d else .fz d))
  | _, _, _, _ => none
def setAll : List Nat → List V → L2.St → L2.St
  | i :: is, v :: vs, σ => setAll is vs (σ.set i (some v))
  | _, _, σ => σ
theorem par_set {Hs : Hp} {F H : Hp} (hs : ∀ a, Hs a = none → B.H0 a = none) : ∀ {ms : List Bool} {is : List Nat} {ds : List D} {vs : List V} {σ : L2.St} {ρ ρ' : Rho}, Mt B F H σ ρ → VM Hs ms F H ds vs → (∀ a ∈ ownAt ms vs, ¬ Owns σ ρ a) → parSet ms is ds ρ = some ρ' → Mt B F H (setAll is vs σ) ρ' ∧ vs.length = is.length
  | [], [], [], vs, σ, ρ, ρ', m, h, _, e => by cases h; cases e; exact ⟨m, rfl⟩
  | [], _ :: _, [], vs, σ, ρ, ρ', m, h, _, e => by cases e
  | [], _, _ :: _, vs, σ, ρ, ρ', m, h, _, e => h.elim
  | true :: ms, _, [], vs, σ, ρ, ρ', m, h, _, e => h.elim
  | false :: ms, _, [], vs, σ, ρ, ρ', m, h, _, e => h.elim
  | true :: ms, [], _ :: _, vs, σ, ρ, ρ', m, h, _, e => by cases e
  | false :: ms, [], _ :: _, vs, σ, ρ, ρ', m, h, _, e => by cases e
  | true :: ms, i :: is, d :: ds, vs, σ, ρ, ρ', m, ⟨a, o, r, ev, h1, h2, h3, h4, h5, h6⟩, na, e => by
    subst ev
    have na1 : ¬ Owns σ ρ a := na a (List.mem_cons_self ..)
    have m1 := m.putOwn (i := i) h1 h2 h3 (hs _ h4) na1
    have na2 : ∀ b ∈ ownAt ms r, ¬ Owns (σ.set i (some (.ref a))) (ρ.set i (.ow d)) b := fun b hb ⟨j, c, q1, q2, q3⟩ => by
      rcases set_get q1 with ⟨_, z⟩ | ⟨ne, q1⟩
      · cases z; exact h5 hb
      · rcases set_get q2 with ⟨z, _⟩ | ⟨_, q2⟩
        · exact absurd z ne
        · exact na b (List.mem_cons_of_mem _ hb) ⟨j, c, q1, q2, q3⟩
    obtain ⟨p1, p2⟩ := par_set hs (is := is) m1 h6 na2 (show parSet ms is ds (ρ.set i (.ow d)) = some ρ' from e)
    exact ⟨p1, by simp [p2]⟩
  | false :: ms, i :: is, d :: ds, vs, σ, ρ, ρ', m, ⟨v, r, ev, h1, h2⟩, na, e => by
    subst ev
    have m1 := m.put (i := i) h1
    have na2 : ∀ b ∈ ownAt ms r, ¬ Owns (σ.set i (some v)) (ρ.set i (.fz d)) b := fun b hb ⟨j, c, q1, q2, q3⟩ => by
      rcases set_get q2 with ⟨_, z⟩ | ⟨ne, q2⟩
      · subst z; cases q3
      · rcases set_get q1 with ⟨z, _⟩ | ⟨_, q1⟩
        · exact absurd z ne
        · refine na b ?_ ⟨j, c, q1, q2, q3⟩
          cases v <;> exact hb
    obtain ⟨p1, p2⟩ := par_set hs (is := is) m1 h2 na2 (show parSet ms is ds (ρ.set i (.fz d)) = some ρ' from e)
    exact ⟨p1, by simp [p2]⟩
def sPar (ms : List Bool) (is : List Nat) (f : M (List D)) : S := sBind f fun ds => fun ρ => match parSet ms is ds ρ with
  | some r => .nx r
  | none => .no
theorem es_parG {ms : List Bool} {is : List Nat} {ta : TA} {f : M (List D)} {tb : List V → TS} (ha : EvM B EX ms ta f)
    (hb : ∀ (vs : List V) (E : Ends) (σ : L2.St) (F H : Hp), Same F H → vs.length = is.length → (∀ H', Ext F H F H' → E.nx (setAll is vs σ) H') → tb vs E σ H) :
    EvS B EX (fun E σ H => ta σ H fun vs H1 => tb vs E σ H1) (sPar ms is f) := by
  intro F H σ ρ E m h
  refine ha F H σ ρ _ m ?_
  unfold sPar sBind at h
  cases e : f ρ with
  | ex c r => rw [e] at h; exact fun F' H' x => h σ F' H' x.mt
  | no => rw [e] at h; exact h
  | ok ds r =>
    rw [e] at h
    intro vs F' H' x hv
    cases e2 : parSet ms is ds r with
    | none => simp only [e2] at h; exact h.elim
    | some r2 =>
      simp only [e2] at h
      obtain ⟨p1, p2⟩ := par_set (fun a z => m.dom _ z) (is := is) x.mt hv (fun a q z => m.noOwn (VM.free hv q) (x.own _ z)) e2
      refine hb vs E σ F' H' x.mt.sub p2 fun H2 e => h _ F' H2 (p1.grow e) x.old
theorem es_par2 {ms : List Bool} {i j : Nat} {ta : TA} {f : M (List D)} (ha : EvM B EX ms ta f) : EvS B EX (tPar i j ta) (sPar ms [i, j] f) := by
  refine es_parG (tb := fun vs E σ H => ∃ v w, vs = [v, w] ∧ E.nx ((σ.set i (some v)).set j (some w)) H) ha fun vs E σ F H s hl q => ?_
  match vs, hl with
  | [v, w], _ => exact ⟨v, w, rfl, q H (Ext.refl s)⟩
theorem es_par3 {ms : List Bool} {i j l : Nat} {ta : TA} {f : M (List D)} (ha : EvM B EX ms ta f) : EvS B EX (tPar3 i j l ta) (sPar ms [i, j, l] f) := by
  refine es_parG (tb := fun vs E σ H => ∃ u v w, vs = [u, v, w] ∧ E.nx (((σ.set i (some u)).set j (some v)).set l (some w)) H) ha fun vs E σ F H s hl q => ?_
  match vs, hl with
  | [u, v, w], _ => exact ⟨u, v, w, rfl, q H (Ext.refl s)⟩
/-- .. by a tuple that is made and taken apart -/
def gNames : List Nat → TGs
  | [] => gNil
  | i :: is => gCons (gName i) (gNames is)
theorem gNames_run {H : Hp} : ∀ {is : List Nat} {vs : List V} {σ : L2.St} {Q : L2.St → Hp → Prop}, vs.length = is.length → Q (setAll is vs σ) H → gNames is vs σ H Q
  | [], [], σ, Q, _, h => ⟨rfl, h⟩
  | i :: is, v :: vs, σ, Q, hl, h => ⟨v, vs, rfl, gNames_run (is := is) (by simpa using hl) h⟩
  | [], _ :: _, _, _, hl, _ => by simp at hl
  | _ :: _, [], _, _, hl, _ => by simp at hl
theorem es_parT {K : PySem.W.Frag} {ms : List Bool} {is : List Nat} {n : Nat} {ta : TA} {f : M (List D)} (ha : EvM B EX ms ta f) (hn : is.length = n) (hn2 : n ≤ 100) : EvS B EX (tAsg (tTup ta) (gTup K n (gNames is))) (sPar ms is f) := by
  refine es_parG (tb := fun vs E σ H => vs.length ≤ sizeLine ∧ ∀ p, H p = none → gTup K n (gNames is) (V.ref p) σ (upd H p (.tup vs)) E.nx) ha fun vs E σ F H s hl q => ?_
  refine ⟨by rw [hl, hn]; exact fewer hn2, fun p hp => ⟨p, vs, rfl, SqT.of upd_same, by rw [hl]; exact hn, gNames_run hl (q _ (Ext.loose s hp _))⟩⟩
/-! ### lists that change -/
def putCell (ρ : Rho) (i : Nat) (d : D) : Option Rho := match ρ[i]? with
  | some (.ow _) => some (ρ.set i (.ow d))
  | some (.bw _) => some (ρ.set i (.bw d))
  | _ => none
theorem Mt.putCell {F H : Hp} {σ : L2.St} {ρ ρ' : Rho} (m : Mt B F H σ ρ) {i : Nat} {d : D} (h : putCell ρ i d = some ρ') : ∃ a o e, σ[i]? = some (some (.ref a)) ∧ cellD ρ[i]? = some e ∧ H a = some o ∧ Shal F e o ∧ ∀ o', Shal F d o' → Stp B F H σ ρ F (upd H a o') ρ' := by
  unfold Rn.putCell at h
  cases e : ρ[i]? with
  | none => rw [e] at h; cases h
  | some c =>
    rw [e] at h
    have hi : i < σ.length := by rw [← m.len]; exact (List.getElem?_eq_some_iff.mp e).1
    have hv := List.getElem?_eq_getElem hi
    have w := m.cell i _ c hv e
    cases c with
    | no => cases h
    | fz y => cases h
    | ow y =>
      cases h
      obtain ⟨a, o, e1, e2, e3, e4, e5⟩ := w
      rw [e1] at hv
      exact ⟨a, o, y, hv, rfl, e2, e3, fun o' sh => m.write hv e rfl sh (.inl ⟨y, rfl, rfl⟩)⟩
    | va y => cases h
    | bw y =>
      cases h
      obtain ⟨a, o, e1, e2, e3, e4, e5⟩ := w
      rw [e1] at hv
      exact ⟨a, o, y, hv, rfl, e2, e3, fun o' sh => m.write hv e rfl sh (.inr ⟨y, rfl, rfl⟩)⟩
theorem tVar_of {i : Nat} {v : V} {σ : L2.St} {H : Hp} {Q : VK} (h : σ[i]? = some (some v)) (q : Q v H) : tVar i σ H Q := ⟨v, h, q⟩
/-- xs.append(e) -/
def appendD (ρ : Rho) (i : Nat) (d : D) : Option Rho := match cellD ρ[i]? with
  | some (.list ds) => if ds.length < big then putCell ρ i (.list (ds ++ [d])) else none
  | _ => none
def sAppend (i : Nat) (f : M D) : S := fun ρ => match cellD ρ[i]? with
  | some (.list _) => sBind f (fun d => fun ρ => match appendD ρ i d with
    | some r => .nx r
    | none => .no) ρ
  | _ => .no
theorem es_append {K : PySem.W.Frag} {i : Nat} {te : TE} {f : M D} (h : Ev B EX VD te f) : EvS B EX (tDrop (tBM K "list" rAppend (tVar i) (tCons te tNil))) (sAppend i f) := by
  intro F H σ ρ E m q
  unfold sAppend at q
  cases e0 : cellD ρ[i]? with
  | none => rw [e0] at q; exact q.elim
  | some d0 =>
    rw [e0] at q
    cases d0 with
    | list ds0 =>
      simp only at q
      have hv : ∃ v, σ[i]? = some (some v) ∧ TvOk σ F H ρ (.s i) v := by
        cases e1 : ρ[i]? with
        | none => rw [e1] at e0; cases e0
        | some c =>
          have hi : i < σ.length := by rw [← m.len]; exact (List.getElem?_eq_some_iff.mp e1).1
          have hv := List.getElem?_eq_getElem hi
          have w := m.cell i _ c hv e1
          have g : ∃ u, σ[i]? = some (some u) := by
            cases c with
            | no => rw [e1] at e0; cases e0
            | fz d => obtain ⟨u, e1, e2⟩ := w; exact ⟨u, by rw [hv, e1]⟩
            | ow d => obtain ⟨a, o, e1, _⟩ := w; exact ⟨.ref a, by rw [hv, e1]⟩
            | va d => rw [e1] at e0; cases e0
            | bw d => obtain ⟨a, o, e1, _⟩ := w; exact ⟨.ref a, by rw [hv, e1]⟩
          obtain ⟨u, hu⟩ := g
          exact ⟨u, hu, hu, _, e0⟩
      obtain ⟨v, hv1, hv2⟩ := hv
      obtain ⟨a0, vs0, rfl, ha0, _⟩ := (hv2.now m e0).lst m.sub
      refine ⟨.ref a0, hv1, .inl ⟨rfl, vs0, SqL.of ha0⟩, ?_⟩
      refine h F H σ ρ _ m ?_
      unfold sBind at q
      cases e : f ρ with
      | ex c r => rw [e] at q; exact fun F' H' x => q σ F' H' x.mt
      | no => rw [e] at q; exact q
      | ok d r =>
        rw [e] at q
        simp only at q
        intro y F1 H1 x1 dy
        unfold appendD at q
        cases e2 : cellD r[i]? with
        | none => simp only [e2] at q; exact q.elim
        | some d2 =>
          simp only [e2] at q
          cases d2 with
          | list ds =>
            simp only at q
            by_cases hl : ds.length < big
            · simp only [if_pos hl] at q
              cases e3 : putCell r i (.list (ds ++ [d])) with
              | none => simp only [e3] at q; exact q.elim
              | some r2 =>
                simp only [e3] at q
                obtain ⟨a, o, e', k1, k2, k3, k4, k5⟩ := x1.mt.putCell e3
                rw [hv1] at k1
                cases k1
                rw [e2] at k2
                cases k2
                obtain ⟨vs, rfl, l⟩ := k4.lst
                refine ⟨a0, vs, y, rfl, rfl, k3, ?_, ?_⟩
                · rw [← l.len]; exact Nat.lt_of_lt_of_le hl (big_le (Nat.le_refl _))
                · have st := k5 (.lst (vs ++ [y])) (l.app (DenL.one dy))
                  exact q σ F1 _ st.mt (x1.old.trans st.old)
            · simp only [if_neg hl] at q; exact q.elim
          | none => exact q.elim
          | bool _ => exact q.elim
          | int _ => exact q.elim
          | str _ => exact q.elim
          | tuple _ => exact q.elim
          | dict _ => exact q.elim
    | none => exact q.elim
    | bool _ => exact q.elim
    | int _ => exact q.elim
    | str _ => exact q.elim
    | tuple _ => exact q.elim
    | dict _ => exact q.elim
/-- xs.pop() -/
def mPop (i : Nat) : M D := fun ρ => match cellD ρ[i]? with
  | some (.list ds) => (match ds[ds.length - 1]? with
    | some d => (match putCell ρ i (.list ds.dropLast) with
      | some r => .ok d r
      | none => .no)
    | none => .no)
  | _ => .no
theorem ev_pop {K : PySem.W.Frag} {i : Nat} : Ev B EX VD (tBM0 K "list" rPop (tVar i)) (mPop i) := by
  intro F H σ ρ Q m q
  unfold mPop at q
  cases e2 : cellD ρ[i]? with
  | none => simp only [e2] at q; exact q.elim
  | some d2 =>
    simp only [e2] at q
    cases d2 with
    | list ds =>
      simp only at q
      cases e4 : ds[ds.length - 1]? with
      | none => simp only [e4] at q; exact q.elim
      | some d =>
        simp only [e4] at q
        cases e3 : putCell ρ i (.list ds.dropLast) with
        | none => simp only [e3] at q; exact q.elim
        | some r2 =>
          simp only [e3] at q
          obtain ⟨a, o, e', k1, k2, k3, k4, k5⟩ := m.putCell e3
          rw [e2] at k2
          cases k2
          obtain ⟨vs, rfl, l⟩ := k4.lst
          obtain ⟨v, h1, h2⟩ := l.get e4
          refine ⟨.ref a, k1, .inl ⟨rfl, vs, SqL.of k3⟩, a, vs, v, rfl, rfl, k3, by rw [← l.len]; exact h1, ?_⟩
          exact q v F _ (k5 (.lst vs.dropLast) l.dropLast) h2
    | none => exact q.elim
    | bool _ => exact q.elim
    | int _ => exact q.elim
    | str _ => exact q.elim
    | tuple _ => exact q.elim
    | dict _ => exact q.elim
/-- xs[k] = e -/
def setD (ρ : Rho) (i : Nat) (k : Int) (d : D) : Option Rho := match cellD ρ[i]? with
  | some (.list ds) => (match ixN ds.length k with
    | some j => putCell ρ i (.list (ds.set j d))
    | none => none)
  | _ => none
def sSetItem (i : Nat) (fe fk : M D) : S := sBind fe fun d => fun ρ => match cellD ρ[i]? with
  | some _ => sBind fk (fun kd => fun ρ => match asInt kd with
    | some k => (match setD ρ i k d with
      | some r => .nx r
      | none => .no)
    | none => .no) ρ
  | none => .no
theorem slot_at {F H : Hp} {σ : L2.St} {ρ : Rho} {i : Nat} {d0 : D} (m : Mt B F H σ ρ) (e0 : cellD ρ[i]? = some d0) : ∃ v, σ[i]? = some (some v) ∧ TvOk σ F H ρ (.s i) v := by
  cases e1 : ρ[i]? with
  | none => rw [e1] at e0; cases e0
  | some c =>
    have hi : i < σ.length := by rw [← m.len]; exact (List.getElem?_eq_some_iff.mp e1).1
    have hv := List.getElem?_eq_getElem hi
    have w := m.cell i _ c hv e1
    have g : ∃ u, σ[i]? = some (some u) := by
      cases c with
      | no => rw [e1] at e0; cases e0
      | fz d => obtain ⟨u, e1, e2⟩ := w; exact ⟨u, by rw [hv, e1]⟩
      | ow d => obtain ⟨a, o, e1, _⟩ := w; exact ⟨.ref a, by rw [hv, e1]⟩
      | va d => rw [e1] at e0; cases e0
      | bw d => obtain ⟨a, o, e1, _⟩ := w; exact ⟨.ref a, by rw [hv, e1]⟩
    obtain ⟨u, hu⟩ := g
    exact ⟨u, hu, hu, _, e0⟩
theorem es_setitem {i : Nat} {te tk : TE} {fe fk : M D} (he : Ev B EX VD te fe) (hk : Ev B EX VD tk fk) : EvS B EX (tAsg te (gSub (tVar i) tk rSetL)) (sSetItem i fe fk) := by
  refine es_bind (tb := fun x E σ H => gSub (tVar i) tk rSetL x σ H E.nx) he fun d y F H σ ρ E m dy q => ?_
  cases e0 : cellD ρ[i]? with
  | none => simp only [e0] at q; exact q.elim
  | some d0 =>
    simp only [e0] at q
    obtain ⟨v, hv1, hv2⟩ := slot_at m e0
    refine ⟨v, hv1, ?_⟩
    refine hk F H σ ρ _ m ?_
    unfold sBind at q
    cases e : fk ρ with
    | ex c r => rw [e] at q; exact fun F' H' x => q σ F' H' x.mt
    | no => rw [e] at q; exact q
    | ok kd r =>
      rw [e] at q
      simp only at q
      intro w F1 H1 x1 dw
      cases e5 : asInt kd with
      | none => simp only [e5] at q; exact q.elim
      | some k =>
        simp only [e5] at q
        have e6 := asInt_eq e5
        subst e6
        have ew : w = V.int k := dw
        subst ew
        unfold setD at q
        cases e2 : cellD r[i]? with
        | none => simp only [e2] at q; exact q.elim
        | some d2 =>
          simp only [e2] at q
          cases d2 with
          | list ds =>
            simp only at q
            cases e7 : ixN ds.length k with
            | none => simp only [e7] at q; exact q.elim
            | some j =>
              simp only [e7] at q
              cases e3 : putCell r i (.list (ds.set j d)) with
              | none => simp only [e3] at q; exact q.elim
              | some r2 =>
                simp only [e3] at q
                obtain ⟨a, o, e', k1, k2, k3, k4, k5⟩ := x1.mt.putCell e3
                rw [hv1] at k1
                cases k1
                rw [e2] at k2
                cases k2
                obtain ⟨vs, rfl, l⟩ := k4.lst
                refine ⟨a, vs, k, j, rfl, rfl, k3, by rw [← l.len]; exact e7, ?_⟩
                have st := k5 (.lst (vs.set j y)) (DenL.set (dy.mono x1.old) j l)
                exact q σ F1 _ st.mt (x1.old.trans st.old)
          | none => exact q.elim
          | bool _ => exact q.elim
          | int _ => exact q.elim
          | str _ => exact q.elim
          | tuple _ => exact q.elim
          | dict _ => exact q.elim
/-! ### loops -/
def forGo (h : D → Rho → Option Rho) (b : S) : List D → S
  | [], ρ => .nx ρ
  | d :: ds, ρ => match h d ρ with
    | none => .no
    | some ρ1 => match b ρ1 with
      | .nx ρ2 => forGo h b ds ρ2
      | .ct ρ2 => forGo h b ds ρ2
      | .bk ρ2 => .nx ρ2
      | o => o
def sFor (fi : M (List D)) (h : D → Rho → Option Rho) (b : S) : S := sBind fi fun items => forGo h b items
theorem es_for {wi : TI} {g : TG} {tb : TS} {fi : M (List D)} {h : D → Rho → Option Rho} {L : List Nat} {fb : S} (hi : Ev B EX VI wi fi) (hg : EvG B g h L) (hb : EvS B EX tb fb) : EvS B EX (tFor wi g tb) (sFor fi h fb) := by
  refine es_bind (tb := fun J D σ H1 => ∃ W : Nat → Nat → L2.St → Hp → Prop, (∃ m, W 0 m σ H1) ∧ ∀ i m σ H, W i m σ H →
    (J.stop i H ∧ D.nx σ H) ∨ (J.go i H ∧ ∃ N : L2.St → Hp → Prop, (∀ σ' H', N σ' H' → ∃ m', m' < m ∧ W (i + 1) m' σ' H') ∧ ∀ x H', J.yld i H x H' → g x σ H' fun σ2 H2 => tb { D with nx := N, ct := N, bk := D.nx } σ2 H2)) hi fun items J F H σ ρ E m ok q => ?_
  refine ⟨fun i k σc Hc => i + k = items.length ∧ ∃ Fc ρc, Same F Fc ∧ Mt B Fc Hc σc ρc ∧ PostS B EX F E (forGo h fb (items.drop i) ρc), ⟨items.length, by omega, F, ρ, Same.refl _, m, by rw [List.drop_zero]; exact q⟩, ?_⟩
  rintro i k σc Hc ⟨hik, Fc, ρc, sc, mc, q⟩
  have it := ok Fc Hc sc mc.sub
  by_cases hi : i < items.length
  · refine .inr ⟨it.2.1 i hi, fun σc Hc => (i + 1) + (k - 1) = items.length ∧ ∃ Fc ρc, Same F Fc ∧ Mt B Fc Hc σc ρc ∧ PostS B EX F E (forGo h fb (items.drop (i + 1)) ρc), fun σ' H' hN => ⟨k - 1, by omega, hN⟩, fun x H2 hy => ?_⟩
    obtain ⟨d, F2, ed, ex, dx⟩ := it.2.2 i x H2 hi hy
    have hdrop : items.drop i = d :: items.drop (i + 1) := by
      rw [List.drop_eq_getElem_cons hi]
      rw [List.getElem?_eq_getElem hi] at ed
      rw [Option.some.inj ed]
    rw [hdrop] at q
    unfold forGo at q
    cases e1 : h d ρc with
    | none => rw [e1] at q; exact q.elim
    | some ρ1 =>
      rw [e1] at q
      simp only at q
      refine hg.run F2 H2 σc ρc x d ρ1 _ (mc.grow ex) dx e1 fun σ1 m3 up => ?_
      refine hb F2 H2 σ1 ρ1 _ m3 ?_
      have s2 : Same F F2 := sc.trans ex.old
      cases e2 : fb ρ1 with
      | nx r => rw [e2] at q; exact fun σ' F' H' m' s => ⟨by omega, F', r, s2.trans s, m', q⟩
      | ct r => rw [e2] at q; exact fun σ' F' H' m' s => ⟨by omega, F', r, s2.trans s, m', q⟩
      | bk r => rw [e2] at q; exact fun σ' F' H' m' s => q σ' F' H' m' (s2.trans s)
      | rt d r => rw [e2] at q; exact fun v σ' F' H' m' s => q v σ' F' H' m' (s2.trans s)
      | rf d r => rw [e2] at q; exact fun v σ' F' H' m' s => q v σ' F' H' m' (s2.trans s)
      | ex c r => rw [e2] at q; exact q
      | no => rw [e2] at q; exact q
  · have hdrop : items.drop i = [] := List.drop_eq_nil_of_le (by omega)
    rw [hdrop] at q
    exact .inl ⟨it.1 i (by omega), q σc Fc Hc mc sc⟩
def whileGo (c : M Bool) (b : S) : Nat → S
  | 0, _ => .no
  | n + 1, ρ => match c ρ with
    | .ok true ρ1 => (match b ρ1 with
      | .nx ρ2 => whileGo c b n ρ2
      | .ct ρ2 => whileGo c b n ρ2
      | .bk ρ2 => .nx ρ2
      | o => o)
    | .ok false ρ1 => .nx ρ1
    | .ex x r => .ex x r
    | .no => .no
theorem es_while {c : TT} {tb : TS} {fc : M Bool} {fb : S} {n : Nat} (hc : Ev B EX VB c fc) (hb : EvS B EX tb fb) : EvS B EX (tWhile c tb) (whileGo fc fb n) := by
  intro F H σ ρ E m q
  refine ⟨fun k σc Hc => ∃ Fc ρc, Same F Fc ∧ Mt B Fc Hc σc ρc ∧ PostS B EX F E (whileGo fc fb k ρc), ⟨n, F, ρ, Same.refl _, m, q⟩, ?_⟩
  rintro k σc Hc ⟨Fc, ρc, sc, mc, q⟩
  refine hc Fc Hc σc ρc _ mc ?_
  cases k with
  | zero => exact q.elim
  | succ k =>
    unfold whileGo at q
    cases e : fc ρc with
    | no => rw [e] at q; exact q.elim
    | ex x r => rw [e] at q; exact fun F' H' x => q σc F' H' x.mt
    | ok b r =>
      rw [e] at q
      intro b' F1 H1 x1 eb
      subst eb
      cases b' with
      | false => simp only [Bool.false_eq_true, if_false]; exact q σc F1 H1 x1.mt (sc.trans x1.old)
      | true =>
        simp only [if_true]
        simp only at q
        refine ⟨fun σ' H' => ∃ Fc ρc, Same F Fc ∧ Mt B Fc H' σ' ρc ∧ PostS B EX F E (whileGo fc fb k ρc), fun σ' H' hN => ⟨k, Nat.lt_succ_self _, hN⟩, ?_⟩
        refine hb F1 H1 σc r _ x1.mt ?_
        have s2 : Same F F1 := sc.trans x1.old
        cases e2 : fb r with
        | nx r => rw [e2] at q; exact fun σ' F' H' m' s => ⟨F', r, s2.trans s, m', q⟩
        | ct r => rw [e2] at q; exact fun σ' F' H' m' s => ⟨F', r, s2.trans s, m', q⟩
        | bk r => rw [e2] at q; exact fun σ' F' H' m' s => q σ' F' H' m' (s2.trans s)
        | rt d r => rw [e2] at q; exact fun v σ' F' H' m' s => q v σ' F' H' m' (s2.trans s)
        | rf d r => rw [e2] at q; exact fun v σ' F' H' m' s => q v σ' F' H' m' (s2.trans s)
        | ex c r => rw [e2] at q; exact q
        | no => rw [e2] at q; exact q
/-! ### raise -/
def sRaise (c : Str) : S := fun ρ => .ex c ρ
theorem es_raise {C : Addr} {c : Str} {E : XK} (hE : ∀ H, EX c H → E (.ref C) none H) : EvS B EX (fun _ σ H => (fun (_ : L2.St) H (Q : XK) => Q (.ref C) none H) σ H fun cls d H' => (fun cls d (_ : L2.St) H => E cls d H) cls d σ H') (sRaise c) := fun F H σ ρ E' m h => hE H (h σ F H m)
end

/-! ### defs -/
inductive RR where
  | ok (d : D)
  | fr (d : D)
  | ex (c : Str)
  | no
def finO : Out → RR
  | .nx _ => .ok .none
  | .rt d _ => .ok d
  | .rf d _ => .fr d
  | .ex c _ => .ex c
  | _ => .no
def startR (n : Nat) (ds : List D) : Rho := ds.map Cell.fz ++ List.replicate (n - ds.length) Cell.no
def callD (np n : Nat) (body : S) (ds : List D) : RR := if ds.length = np then finO (body (startR n ds)) else .no
def spV (C : Str → Addr) (g : List D → RR) : Sp := fun vs H Q E => ∃ (F : Hp) (ds : List D), Same F H ∧ DenL F ds vs ∧ (match g ds with
  | .ok d => ∀ v F' H', Ext F H F' H' → Den F' d v → Q v H'
  | .fr d => ∀ v F' H', Ext F H F' H' → VFr H F' H' d v → Q v H'
  | .ex c => ∀ H', Same H H' → E (.ref (C c)) none H'
  | .no => False)
def mCall (g : List D → RR) (fa : M (List D)) : M D := bnd fa fun ds => fun ρ => match g ds with
  | .ok d => .ok d ρ
  | .fr d => .ok d ρ
  | .ex c => .ex c ρ
  | .no => .no
def mCall0 (g : List D → RR) (fa : M (List D)) : M D := bnd fa fun ds => fun ρ => match g ds with
  | .ok d => .ok d ρ
  | .fr d => .ok d ρ
  | _ => .no
theorem Ext.frz {F H F' H' : Hp} {d : D} {v : V} (x : Ext F H F' H') (f : VFr H F' H' d v) : ∃ F2, Ext F H F2 H' ∧ Den F2 d v := by
  obtain ⟨a, o, rfl, h1, h2, h3, h4⟩ := f
  refine ⟨upd F' a o, ⟨x.same, x.old.trans (same_upd h3), fun b u e => ?_, fun b u e => ?_⟩, (h2.mono (same_upd h3)).den upd_same⟩
  · by_cases hb : b = a
    · subst hb; rw [upd_same] at e; cases e; exact h1
    · rw [upd_ne hb] at e; exact x.sub _ _ e
  · by_cases hb : b = a
    · subst hb; exact .inr h4
    · rw [upd_ne hb] at e; exact x.new _ _ e
section
variable {B : Bd} {EX : Str → Hp → Prop}
theorem ev_call {C : Str → Addr} {g : List D → RR} {E : XK} {ta : TA} {fa : M (List D)} (hE : ∀ c H, EX c H → E (.ref (C c)) none H) (ha : Ev B EX VL ta fa) : Ev B EX VD (tCall (spV C g) [] E ta) (mCall g fa) := by
  refine Ev.bind (tb := fun vs σ H Q => spV C g (vs ++ []) H Q E) ha fun ds vs F H σ ρ Q m p q => ?_
  rw [List.append_nil]
  refine ⟨F, ds, m.sub, p, ?_⟩
  cases e : g ds with
  | no => simp only [e] at q; exact q
  | ok d => simp only [e] at q; exact fun v F' H' x dv => q v F' H' (m.ext x) dv
  | fr d =>
    simp only [e] at q
    intro v F' H' x dv
    obtain ⟨F2, x2, d2⟩ := x.frz dv
    exact q v F2 H' (m.ext x2) d2
  | ex c => simp only [e] at q; exact fun H' s => hE c H' (q F H' (m.ext ⟨s, Same.refl _, m.sub.trans s, fun _ _ z => .inl z⟩))
theorem ev_call0 {C : Str → Addr} {g : List D → RR} {ta : TA} {fa : M (List D)} (ha : Ev B EX VL ta fa) : Ev B EX VD (tCall (spV C g) [] E0 ta) (mCall0 g fa) := by
  refine Ev.bind (tb := fun vs σ H Q => spV C g (vs ++ []) H Q E0) ha fun ds vs F H σ ρ Q m p q => ?_
  rw [List.append_nil]
  refine ⟨F, ds, m.sub, p, ?_⟩
  cases e : g ds with
  | no => simp only [e] at q; exact q
  | ok d => simp only [e] at q; exact fun v F' H' x dv => q v F' H' (m.ext x) dv
  | fr d =>
    simp only [e] at q
    intro v F' H' x dv
    obtain ⟨F2, x2, d2⟩ := x.frz dv
    exact q v F2 H' (m.ext x2) d2
  | ex c => simp only [e] at q; exact q.elim
end
/-- a call that gives a fresh list or dict -/
def mCallF (g : List D → RR) (fa : M (List D)) : M D := bnd fa fun ds => fun ρ => match g ds with
  | .fr d => .ok d ρ
  | .ex c => .ex c ρ
  | _ => .no
def mCallF0 (g : List D → RR) (fa : M (List D)) : M D := bnd fa fun ds => fun ρ => match g ds with
  | .fr d => .ok d ρ
  | _ => .no
section
variable {B : Bd} {EX : Str → Hp → Prop}
theorem evf_call {C : Str → Addr} {g : List D → RR} {E : XK} {ta : TA} {fa : M (List D)} (hE : ∀ c H, EX c H → E (.ref (C c)) none H) (ha : Ev B EX VL ta fa) : EvF B EX (tCall (spV C g) [] E ta) (mCallF g fa) := by
  refine evf_bind (tb := fun vs σ H Q => spV C g (vs ++ []) H Q E) ha fun ds vs F H σ ρ Q m p q => ?_
  rw [List.append_nil]
  refine ⟨F, ds, m.sub, p, ?_⟩
  cases e : g ds with
  | no => simp only [e] at q; exact q
  | ok d => simp only [e] at q; exact q.elim
  | fr d => simp only [e] at q; exact fun v F' H' x dv => q v F' H' (m.ext x) dv
  | ex c => simp only [e] at q; exact fun H' s => hE c H' (q F H' (m.ext ⟨s, Same.refl _, m.sub.trans s, fun _ _ z => .inl z⟩))
theorem evf_call0 {C : Str → Addr} {g : List D → RR} {ta : TA} {fa : M (List D)} (ha : Ev B EX VL ta fa) : EvF B EX (tCall (spV C g) [] E0 ta) (mCallF0 g fa) := by
  refine evf_bind (tb := fun vs σ H Q => spV C g (vs ++ []) H Q E0) ha fun ds vs F H σ ρ Q m p q => ?_
  rw [List.append_nil]
  refine ⟨F, ds, m.sub, p, ?_⟩
  cases e : g ds with
  | no => simp only [e] at q; exact q
  | ok d => simp only [e] at q; exact q.elim
  | fr d => simp only [e] at q; exact fun v F' H' x dv => q v F' H' (m.ext x) dv
  | ex c => simp only [e] at q; exact q.elim
end
theorem start_mt {F H : Hp} {ds : List D} {vs : List V} {N : List Str} (s : Same F H) (l : DenL F ds vs) : Mt ⟨H, F, [], [], []⟩ F H (L2.start N vs) (startR N.length ds) := by
  have hl := l.len
  refine ⟨s, Same.refl _, fun _ _ e => .inl e, fun _ _ e _ _ => e, fun _ e => e, ?_, fun j v c h1 h2 => ?_, fun j k a c c' h1 h2 h3 h4 h5 h6 => ?_, fun _ z => (nomatch z), fun _ z => (nomatch z)⟩
  · simp [startR, L2.start, hl]
  · unfold startR at h2
    unfold L2.start at h1
    rw [List.getElem?_append] at h1 h2
    rw [List.length_map] at h1 h2
    by_cases hj : j < ds.length
    · rw [if_pos hj] at h2
      rw [if_pos (by rw [← hl]; exact hj)] at h1
      rw [List.getElem?_map] at h1 h2
      cases e1 : ds[j]? with
      | none => rw [e1] at h2; cases h2
      | some d =>
        rw [e1] at h2
        obtain ⟨u, e2, e3⟩ := l.get e1
        rw [e2] at h1
        cases h1; cases h2
        exact ⟨u, rfl, e3⟩
    · rw [if_neg hj] at h2
      have : c = .no := by
        have := List.mem_of_getElem? h2
        exact (List.mem_replicate.mp this).2
      subst this
      trivial
  · have : ∀ (j : Nat) (c : Cell), (startR N.length ds)[j]? = some c → c.own = true → False := fun j c e o => by
      have q := List.mem_of_getElem? e
      unfold startR at q
      rcases List.mem_append.mp q with q | q
      · obtain ⟨d, _, rfl⟩ := List.mem_map.mp q
        cases o
      · rw [(List.mem_replicate.mp q).2] at o; cases o
    exact (this j c h3 h5).elim
theorem spV_len {C : Str → Addr} {np n : Nat} {body : S} {vs : List V} {H : Hp} {Q : VK} {E : XK} (h : spV C (callD np n body) vs H Q E) : vs.length = np := by
  obtain ⟨F, ds, s, l, q⟩ := h
  unfold callD at q
  by_cases e : ds.length = np
  · rw [← l.len]; exact e
  · simp only [if_neg e] at q
/-- a def's body keeps the promise -/
theorem body_ok {C : Str → Addr} {np : Nat} {body : S} {N : List Str} {vs : List V} {H : Hp} {Q : VK} {E : XK} {t : TS} (h : spV C (callD np N.length body) vs H Q E)
    (ev : ∀ F, EvS ⟨H, F, [], [], []⟩ (fun c H' => E (.ref (C c)) none H') t body) : t { nx := fun _ H' => Q .non H', rt := Q } (L2.start N vs) H := by
  obtain ⟨F, ds, s, l, q⟩ := h
  unfold callD at q
  by_cases e : ds.length = np
  · simp only [if_pos e] at q
    refine ev F F H (L2.start N vs) (startR N.length ds) _ (start_mt s l) ?_
    have ext : ∀ {F' H' : Hp} {σ' : L2.St} {ρ' : Rho}, Mt ⟨H, F, [], [], []⟩ F' H' σ' ρ' → Ext F H F' H' := fun m => ⟨fun a o z => m.frm a o z (by simp) (fun _ z => (nomatch z)), m.old, m.sub, m.new⟩
    cases e2 : body (startR N.length ds) with
    | nx r => rw [e2] at q; exact fun σ' F' H' m _ => q .non F' H' (ext m) rfl
    | rt d r => rw [e2] at q; exact fun v σ' F' H' m _ dv => q v F' H' (ext m) dv
    | rf d r => rw [e2] at q; exact fun v σ' F' H' m _ dv => q v F' H' (ext m) dv
    | bk r => rw [e2] at q; exact q.elim
    | ct r => rw [e2] at q; exact q.elim
    | ex c r => rw [e2] at q; exact fun σ' F' H' m => q H' (ext m).same
    | no => rw [e2] at q; exact q.elim
  · simp only [if_neg e] at q
end Rn
end

section
set_option Elab.async false
set_option linter.all false
set_option autoImplicit false
set_option maxRecDepth 100000
/-! Core7: a piece of syntax, its reading, and what it computes, in one. -/
namespace Rn
open PySem PySem.Spec L2

structure JE (X : Cx) (B : Bd) (EX : Str → Hp → Prop) (e : Expr) (t : TE) (f : M D) : Prop where
  p : PE X e t
  v : Ev B EX VD t f
structure JR (X : Cx) (B : Bd) (EX : Str → Hp → Prop) (e : Expr) (t : TE) (f : M TV) : Prop where
  p : PE X e t
  v : Ev B EX VT t f
structure JF (X : Cx) (B : Bd) (EX : Str → Hp → Prop) (e : Expr) (t : TE) (f : M D) : Prop where
  p : PE X e t
  v : EvF B EX t f
structure JB (X : Cx) (B : Bd) (EX : Str → Hp → Prop) (e : Expr) (t : TT) (f : M Bool) : Prop where
  p : PT X e t
  v : Ev B EX VB t f
structure JW (X : Cx) (B : Bd) (EX : Str → Hp → Prop) (e : Expr) (t : TT) (f : M Bool) : Prop where
  p : PW X e t
  v : Ev B EX VB t f
structure JBs (X : Cx) (B : Bd) (EX : Str → Hp → Prop) (e : List Expr) (t : TT) (f : M Bool) : Prop where
  p : PTs X e t
  v : Ev B EX VB t f
structure JA (X : Cx) (B : Bd) (EX : Str → Hp → Prop) (es : List Expr) (t : TA) (f : M (List D)) : Prop where
  p : PA X es t
  v : Ev B EX VL t f
structure JAR (X : Cx) (B : Bd) (EX : Str → Hp → Prop) (es : List Expr) (t : TA) (f : M (List TV)) : Prop where
  p : PA X es t
  v : Ev B EX VTs t f
structure JAM (X : Cx) (B : Bd) (EX : Str → Hp → Prop) (ms : List Bool) (es : List Expr) (t : TA) (f : M (List D)) : Prop where
  p : PA X es t
  v : EvM B EX ms t f
structure JO (X : Cx) (B : Bd) (EX : Str → Hp → Prop) (e : Option Expr) (t : TO) (f : M (Option Int)) : Prop where
  p : PO X e t
  v : Ev B EX VO t f
structure JI (X : Cx) (B : Bd) (EX : Str → Hp → Prop) (tg it : Expr) (t : TI) (f : M (List D)) : Prop where
  p : PI X tg it t
  v : Ev B EX VI t f
structure JG (X : Cx) (B : Bd) (tg : Expr) (g : TG) (h : D → Rho → Option Rho) (L : List Nat) : Prop where
  p : PG X tg g
  v : EvG B g h L
structure JGs (X : Cx) (B : Bd) (tg : List Expr) (g : TGs) (h : List D → Rho → Option Rho) (L : List Nat) : Prop where
  p : PGs X tg g
  v : EvGs B g h L
structure JS (X : Cx) (B : Bd) (EX : Str → Hp → Prop) (s : Stmt) (t : TS) (f : S) : Prop where
  p : PS X s t
  v : EvS B EX t f
structure JSs (X : Cx) (B : Bd) (EX : Str → Hp → Prop) (s : List Stmt) (t : TS) (f : S) : Prop where
  p : PSs X s t
  v : EvS B EX t f

section
variable {X : Cx} {B : Bd} {EX : Str → Hp → Prop} {a b c e : Expr} {es : List Expr} {ta tb tc te : TE} {fa fb fc fe : M D} {ra rb rc : M TV} {pos : Pos}
/-! ### names, constants -/
theorem je_var (i : Nat) {x : Str} (hN : X.N[i]? = some x := by rfl) (hv : Vis X.env.scope x := by first | exact Or.inl rfl | exact Or.inr (Or.inl rfl) | exact Or.inr (Or.inr rfl)) (hd : (x == ("__debug__" : Str)) = false := by decide)
    (hcd : (x == ("__classdict__" : Str)) = false := by decide) : JE X B EX (.Name x pos) (tVar i) (mVar i) := ⟨pv i hN hv hd hcd, ev_var⟩
theorem jr_var (i : Nat) {x : Str} (hN : X.N[i]? = some x := by rfl) (hv : Vis X.env.scope x := by first | exact Or.inl rfl | exact Or.inr (Or.inl rfl) | exact Or.inr (Or.inr rfl)) (hd : (x == ("__debug__" : Str)) = false := by decide)
    (hcd : (x == ("__classdict__" : Str)) = false := by decide) : JR X B EX (.Name x pos) (tVar i) (mVarT i) := ⟨pv i hN hv hd hcd, ev_varT⟩
theorem jr_of (h : JE X B EX e te fe) : JR X B EX e te (mT fe) := ⟨h.p, ev_T h.v⟩
theorem je_of (h : JF X B EX e te fe) : JE X B EX e te fe := ⟨h.p, ev_ofF h.v⟩
theorem je_int {i j} : JE X B EX (.Constant (.int i) j pos) (tC (.int i)) (ret (.int i)) := ⟨pe_int, ev_const fun _ => rfl⟩
theorem je_bl {i j} : JE X B EX (.Constant (.bool i) j pos) (tC (.bl i)) (ret (.bool i)) := ⟨pe_bl, ev_const fun _ => rfl⟩
theorem je_non {j} : JE X B EX (.Constant .none j pos) (tC .non) (ret .none) := ⟨pe_non, ev_const fun _ => rfl⟩
theorem je_str {x j} : JE X B EX (.Constant (.str x) j pos) (tC (.str x)) (ret (.str x)) := ⟨pe_str, ev_const fun _ => rfl⟩
theorem je_gint {x : Str} {i : Int} {t : Tok} (hm : X.mg x = some (.int i t)) (hg : Gl X x := by rfl) (hd : (x == ("__debug__" : Str)) = false := by decide) : JE X B EX (.Name x pos) (tC (.int i)) (ret (.int i)) := ⟨pe_glob hg hm ⟨t, rfl⟩ hd, ev_const fun _ => rfl⟩
/-! ### operators -/
theorem je_op {op : Operator} {r : R2} {f : D → D → Option D} (ho : OpR X (binaryOp op) r) (hk : OpOk r f) (ha : JR X B EX a ta ra) (hb : JR X B EX b tb rb) : JE X B EX (.BinOp a op b pos) (tOp r ta tb) (mOp f ra rb) := ⟨pe_op ho ha.p hb.p, ev_op hk ha.v hb.v⟩
theorem jf_op {op : Operator} {r : R2} {f : D → D → Option D} (ho : OpR X (binaryOp op) r) (hk : OpOkF r f) (ha : JR X B EX a ta ra) (hb : JR X B EX b tb rb) : JF X B EX (.BinOp a op b pos) (tOp r ta tb) (mOp f ra rb) := ⟨pe_op ho ha.p hb.p, evf_op hk ha.v hb.v⟩
theorem je_add {K : PySem.W.Frag} (ha : JR X B EX a ta ra) (hb : JR X B EX b tb rb) (hK : X.K = K := by rfl) : JE X B EX (.BinOp a .Add b pos) (tOp (rAddA K) ta tb) (mOp addF ra rb) := by
  subst hK
  exact je_op op_addA ok_add ha hb
theorem je_sub (ha : JR X B EX a ta ra) (hb : JR X B EX b tb rb) : JE X B EX (.BinOp a .Sub b pos) (tOp (rI0 fun i j => .int (i - j)) ta tb) (mOp subF ra rb) := je_op op_sub ok_sub ha hb
theorem je_mul {K : PySem.W.Frag} (ha : JR X B EX a ta ra) (hb : JR X B EX b tb rb) (hK : X.K = K := by rfl) : JE X B EX (.BinOp a .Mult b pos) (tOp (rMulA K) ta tb) (mOp mulF ra rb) := by
  subst hK
  exact je_op op_mulA ok_mul ha hb
theorem je_fdiv (ha : JR X B EX a ta ra) (hb : JR X B EX b tb rb) : JE X B EX (.BinOp a .FloorDiv b pos) (tOp (rI CDivW fun i j => .int (i / j)) ta tb) (mOp fdivF ra rb) := je_op op_fdivW ok_fdiv ha hb
theorem je_mod (ha : JR X B EX a ta ra) (hb : JR X B EX b tb rb) : JE X B EX (.BinOp a .Mod b pos) (tOp (rI (fun _ j => 0 < j) fun i j => .int (i % j)) ta tb) (mOp modF ra rb) := je_op op_mod ok_mod ha hb
theorem je_pow (ha : JR X B EX a ta ra) (hb : JR X B EX b tb rb) : JE X B EX (.BinOp a .Pow b pos) (tOp (rI CPow fun i j => .int (i ^ j.toNat)) ta tb) (mOp powF ra rb) := je_op op_pow ok_pow ha hb
theorem jf_cat (ha : JR X B EX a ta ra) (hb : JR X B EX b tb rb) : JF X B EX (.BinOp a .Add b pos) (tOp rCat ta tb) (mOp catF ra rb) := jf_op op_cat okF_cat ha hb
theorem jf_rep (ha : JR X B EX a ta ra) (hb : JR X B EX b tb rb) : JF X B EX (.BinOp a .Mult b pos) (tOp rRep ta tb) (mOp repF ra rb) := jf_op op_rep okF_rep ha hb
theorem je_neg (ha : JR X B EX a ta ra) : JE X B EX (.UnaryOp .USub a pos) (tUn (rU fun i => .int (-i)) ta) (mUn negF ra) := ⟨pe_un un_neg ha.p, ev_un ok_neg ha.v⟩
/-! ### comparisons -/
theorem je_cmp {op : CmpOp} {r : R2} {f : D → D → Option D} (ho : OpR X (compareOp op) r) (hk : OpOk r f) (ha : JR X B EX a ta ra) (hb : JR X B EX b tb rb) (hm : behindInMarks op b = false) : JE X B EX (.Compare a [op] [b] pos) (tOp r ta tb) (mOp f ra rb) := ⟨pe_cmpR ho ha.p hb.p hm, ev_op hk ha.v hb.v⟩
theorem je_lt (ha : JR X B EX a ta ra) (hb : JR X B EX b tb rb) : JE X B EX (.Compare a [.Lt] [b] pos) (tOp (rI0 fun i j => .bl (decide (i < j))) ta tb) (mOp ltF ra rb) := je_cmp op_lt ok_cmpI ha hb (nomark _)
theorem je_le (ha : JR X B EX a ta ra) (hb : JR X B EX b tb rb) : JE X B EX (.Compare a [.LtE] [b] pos) (tOp (rI0 fun i j => .bl (decide (i ≤ j))) ta tb) (mOp leF ra rb) := je_cmp op_le ok_cmpI ha hb (nomark _)
theorem je_gt (ha : JR X B EX a ta ra) (hb : JR X B EX b tb rb) : JE X B EX (.Compare a [.Gt] [b] pos) (tOp (rI0 fun i j => .bl (decide (j < i))) ta tb) (mOp gtF ra rb) := je_cmp op_gt ok_cmpI ha hb (nomark _)
theorem je_ge (ha : JR X B EX a ta ra) (hb : JR X B EX b tb rb) : JE X B EX (.Compare a [.GtE] [b] pos) (tOp (rI0 fun i j => .bl (decide (j ≤ i))) ta tb) (mOp geF ra rb) := je_cmp op_ge ok_cmpI ha hb (nomark _)
theorem je_eq {K : PySem.W.Frag} (hu : X.A.units + 64 < cLine) (ha : JR X B EX a ta ra) (hb : JR X B EX b tb rb) (hK : X.K = K := by rfl) : JE X B EX (.Compare a [.Eq] [b] pos) (tOp (rEqP K) ta tb) (mOp eqF ra rb) := by
  subst hK
  exact je_cmp (op_eqP hu) ok_eq ha hb (nomark _)
theorem je_ne {K : PySem.W.Frag} (hu : X.A.units + 64 < cLine) (ha : JR X B EX a ta ra) (hb : JR X B EX b tb rb) (hK : X.K = K := by rfl) : JE X B EX (.Compare a [.NotEq] [b] pos) (tOp (rNeP K) ta tb) (mOp neF ra rb) := by
  subst hK
  exact je_cmp (op_neP hu) ok_ne ha hb (nomark _)
theorem je_is (ha : JR X B EX a ta ra) (hb : JR X B EX b tb rb) : JE X B EX (.Compare a [.Is] [b] pos) (tOp (fun x y H Q => y = .non ∧ Q (.bl (decide (x = .non))) H) ta tb) (mOp (isF false) ra rb) := je_cmp op_isN ok_is ha hb (nomark _)
theorem je_isnot (ha : JR X B EX a ta ra) (hb : JR X B EX b tb rb) : JE X B EX (.Compare a [.IsNot] [b] pos) (tOp (fun x y H Q => y = .non ∧ Q (.bl (!decide (x = .non))) H) ta tb) (mOp (isF true) ra rb) := je_cmp op_notN ok_isnot ha hb (nomark _)
theorem je_in {K : PySem.W.Frag} (hu : X.A.units + 64 < cLine) (ha : JR X B EX a ta ra) (hb : JR X B EX b tb rb) (hm : behindInMarks .In b = false := by with_unfolding_all rfl) (hK : X.K = K := by rfl) : JE X B EX (.Compare a [.In] [b] pos) (tOp (rInA K false) ta tb) (mOp (inAF false) ra rb) := by
  subst hK
  exact je_cmp (op_inA hu) ok_inA ha hb hm
theorem je_notin {K : PySem.W.Frag} (hu : X.A.units + 64 < cLine) (ha : JR X B EX a ta ra) (hb : JR X B EX b tb rb) (hm : behindInMarks .NotIn b = false := by with_unfolding_all rfl) (hK : X.K = K := by rfl) : JE X B EX (.Compare a [.NotIn] [b] pos) (tOp (rInA K true) ta tb) (mOp (inAF true) ra rb) := by
  subst hK
  exact je_cmp (op_notInA hu) ok_inA ha hb hm
theorem je_chain {op op' : CmpOp} {r r' : R2} {f g : D → D → Option D} (ho : OpR X (compareOp op) r) (ho' : OpR X (compareOp op') r') (hk : OpOk r f) (hk' : OpOk r' g) (ha : JR X B EX a ta ra) (hb : JR X B EX b tb rb) (hc : JR X B EX c tc rc)
    (hm : lastMarks [op, op'] [b, c] = false := by with_unfolding_all rfl) : JE X B EX (.Compare a [op, op'] [b, c] pos) (tChain r r' ta tb tc) (mChain f g ra rb rc) := ⟨pe_chain ho ho' ha.p hb.p hc.p hm, ev_chain hk hk' ha.v hb.v hc.v⟩
/-! ### truth -/
variable {tA tB' tC' : TT} {gA gB gC : M Bool} {rest : List Expr}
theorem jb_val (h : JE X B EX e te fe) (he : ∀ whole, isTrue e X.env whole = (do let v ← whole; standAt e.pos; holding [v] (truthy v)) := by intro _; rfl) : JB X B EX e (tTest te) (mTst fe) := ⟨pt_val h.p he, ev_tst h.v⟩
theorem oK_eq {K : PySem.W.Frag} (hK : X.K = K) (hu : X.A.units + 64 < cLine) : OpR X (compareOp .Eq) (rEqP K) := by subst hK; exact op_eqP hu
theorem oK_ne {K : PySem.W.Frag} (hK : X.K = K) (hu : X.A.units + 64 < cLine) : OpR X (compareOp .NotEq) (rNeP K) := by subst hK; exact op_neP hu
theorem jb_cmp {op : CmpOp} {r : R2} {f : D → D → Option D} (ho : OpR X (compareOp op) r) (hk : OpOk r f) (ha : JR X B EX a ta ra) (hb : JR X B EX b tb rb) (hm : behindInMarks op b = false) : JB X B EX (.Compare a [op] [b] pos) (tTest (tOp r ta tb)) (mTst (mOp f ra rb)) := ⟨pt_cmpR ho ha.p hb.p hm, ev_tst (ev_op hk ha.v hb.v)⟩
theorem jb_lt (ha : JR X B EX a ta ra) (hb : JR X B EX b tb rb) : JB X B EX (.Compare a [.Lt] [b] pos) (tTest (tOp (rI0 fun i j => .bl (decide (i < j))) ta tb)) (mTst (mOp ltF ra rb)) := jb_cmp op_lt ok_cmpI ha hb (nomark _)
theorem jb_le (ha : JR X B EX a ta ra) (hb : JR X B EX b tb rb) : JB X B EX (.Compare a [.LtE] [b] pos) (tTest (tOp (rI0 fun i j => .bl (decide (i ≤ j))) ta tb)) (mTst (mOp leF ra rb)) := jb_cmp op_le ok_cmpI ha hb (nomark _)
theorem jb_gt (ha : JR X B EX a ta ra) (hb : JR X B EX b tb rb) : JB X B EX (.Compare a [.Gt] [b] pos) (tTest (tOp (rI0 fun i j => .bl (decide (j < i))) ta tb)) (mTst (mOp gtF ra rb)) := jb_cmp op_gt ok_cmpI ha hb (nomark _)
theorem jb_ge (ha : JR X B EX a ta ra) (hb : JR X B EX b tb rb) : JB X B EX (.Compare a [.GtE] [b] pos) (tTest (tOp (rI0 fun i j => .bl (decide (j ≤ i))) ta tb)) (mTst (mOp geF ra rb)) := jb_cmp op_ge ok_cmpI ha hb (nomark _)
theorem jb_eq {K : PySem.W.Frag} (hu : X.A.units + 64 < cLine) (ha : JR X B EX a ta ra) (hb : JR X B EX b tb rb) (hK : X.K = K := by rfl) : JB X B EX (.Compare a [.Eq] [b] pos) (tTest (tOp (rEqP K) ta tb)) (mTst (mOp eqF ra rb)) := by
  subst hK
  exact jb_cmp (op_eqP hu) ok_eq ha hb (nomark _)
theorem jb_ne {K : PySem.W.Frag} (hu : X.A.units + 64 < cLine) (ha : JR X B EX a ta ra) (hb : JR X B EX b tb rb) (hK : X.K = K := by rfl) : JB X B EX (.Compare a [.NotEq] [b] pos) (tTest (tOp (rNeP K) ta tb)) (mTst (mOp neF ra rb)) := by
  subst hK
  exact jb_cmp (op_neP hu) ok_ne ha hb (nomark _)
theorem jb_is (ha : JR X B EX a ta ra) (hb : JR X B EX b tb rb) : JB X B EX (.Compare a [.Is] [b] pos) (tTest (tOp (fun x y H Q => y = .non ∧ Q (.bl (decide (x = .non))) H) ta tb)) (mTst (mOp (isF false) ra rb)) := jb_cmp op_isN ok_is ha hb (nomark _)
theorem jb_isnot (ha : JR X B EX a ta ra) (hb : JR X B EX b tb rb) : JB X B EX (.Compare a [.IsNot] [b] pos) (tTest (tOp (fun x y H Q => y = .non ∧ Q (.bl (!decide (x = .non))) H) ta tb)) (mTst (mOp (isF true) ra rb)) := jb_cmp op_notN ok_isnot ha hb (nomark _)
theorem jb_in {K : PySem.W.Frag} (hu : X.A.units + 64 < cLine) (ha : JR X B EX a ta ra) (hb : JR X B EX b tb rb) (hm : behindInMarks .In b = false := by with_unfolding_all rfl) (hK : X.K = K := by rfl) : JB X B EX (.Compare a [.In] [b] pos) (tTest (tOp (rInA K false) ta tb)) (mTst (mOp (inAF false) ra rb)) := by
  subst hK
  exact jb_cmp (op_inA hu) ok_inA ha hb hm
theorem jb_notin {K : PySem.W.Frag} (hu : X.A.units + 64 < cLine) (ha : JR X B EX a ta ra) (hb : JR X B EX b tb rb) (hm : behindInMarks .NotIn b = false := by with_unfolding_all rfl) (hK : X.K = K := by rfl) : JB X B EX (.Compare a [.NotIn] [b] pos) (tTest (tOp (rInA K true) ta tb)) (mTst (mOp (inAF true) ra rb)) := by
  subst hK
  exact jb_cmp (op_notInA hu) ok_inA ha hb hm
theorem jb_chain {op op' : CmpOp} {r r' : R2} {f g : D → D → Option D} (ho : OpR X (compareOp op) r) (ho' : OpR X (compareOp op') r') (hk : OpOk r f) (hk' : OpOk r' g) (ha : JR X B EX a ta ra) (hb : JR X B EX b tb rb) (hc : JR X B EX c tc rc) (hm : lastMarks [op, op'] [b, c] = false := by with_unfolding_all rfl) : JB X B EX (.Compare a [op, op'] [b, c] pos) (tTest (tChain r r' ta tb tc)) (mTst (mChain f g ra rb rc)) := ⟨pt_chain ho ho' ha.p hb.p hc.p hm, ev_tst (ev_chain hk hk' ha.v hb.v hc.v)⟩
theorem jb_not (h : JB X B EX e tA gA) : JB X B EX (.UnaryOp .Not e pos) (tNot tA) (mNot gA) := ⟨pt_not h.p, ev_not h.v⟩
theorem jb_w (h : JW X B EX e tA gA) : JB X B EX e tA gA := ⟨h.p.pt, h.v⟩
theorem jw_and1 (h : JB X B EX a tA gA) : JW X B EX (.BoolOp .And [a] pos) tA gA := ⟨pw_and1 h.p, h.v⟩
theorem jw_or1 (h : JB X B EX a tA gA) : JW X B EX (.BoolOp .Or [a] pos) tA gA := ⟨pw_or1 h.p, h.v⟩
theorem jw_and (ha : JB X B EX a tA gA) (hb : JW X B EX (.BoolOp .And (b :: rest) pos) tB' gB) : JW X B EX (.BoolOp .And (a :: b :: rest) pos) (tAnd tA tB') (mAnd gA gB) := ⟨pw_and ha.p hb.p, ev_and ha.v hb.v⟩
theorem jw_or (ha : JB X B EX a tA gA) (hb : JW X B EX (.BoolOp .Or (b :: rest) pos) tB' gB) : JW X B EX (.BoolOp .Or (a :: b :: rest) pos) (tOr tA tB') (mOr gA gB) := ⟨pw_or ha.p hb.p, ev_or ha.v hb.v⟩
theorem je_one {op} (h : JE X B EX a ta fa) : JE X B EX (.BoolOp op [a] pos) ta fa := ⟨pe_one h.p, h.v⟩
theorem je_and (ha : JE X B EX a ta fa) (hb : JE X B EX (.BoolOp .And (b :: rest) pos) tb fb) : JE X B EX (.BoolOp .And (a :: b :: rest) pos) (tAndV ta tb) (mAndV fa fb) := ⟨pe_and ha.p hb.p, ev_andV ha.v hb.v⟩
theorem je_or (ha : JE X B EX a ta fa) (hb : JE X B EX (.BoolOp .Or (b :: rest) pos) tb fb) : JE X B EX (.BoolOp .Or (a :: b :: rest) pos) (tOrV ta tb) (mOrV fa fb) := ⟨pe_or ha.p hb.p, ev_orV ha.v hb.v⟩
theorem je_not (ha : JE X B EX a ta fa) : JE X B EX (.UnaryOp .Not a pos) (tNotV ta) (mNotV fa) := ⟨pe_not ha.p, ev_notV ha.v⟩
theorem je_if (hc : JB X B EX c tA gA) (ha : JE X B EX a ta fa) (hb : JE X B EX b tb fb) : JE X B EX (.IfExp c a b pos) (tIf tA ta tb) (mIf gA fa fb) := ⟨pe_ifExp hc.p ha.p hb.p, ev_if hc.v ha.v hb.v⟩
theorem jbs_nil : JBs X B EX [] tYes mYes := ⟨pts_nil, ev_yes⟩
theorem jbs_one (h : JB X B EX a tA gA) : JBs X B EX [a] tA gA := ⟨pts_one h.p, h.v⟩
/-! ### arguments -/
variable {tl : TA} {fl : M (List D)} {rl : M (List TV)}
theorem ja_nil : JA X B EX [] tNil mNil := ⟨pa_nil, ev_nil⟩
theorem ja_cons (ha : JE X B EX e te fe) (hr : JA X B EX es tl fl) (hs : starEach (e :: es) X.env = (false, eval e X.env) :: starEach es X.env := by rfl) : JA X B EX (e :: es) (tCons te tl) (mCons fe fl) := ⟨pa_cons ha.p hr.p hs, ev_cons ha.v hr.v⟩
theorem jar_nil : JAR X B EX [] tNil mNil := ⟨pa_nil, ev_nilT⟩
theorem jar_cons (ha : JR X B EX e te ra) (hr : JAR X B EX es tl rl) (hs : starEach (e :: es) X.env = (false, eval e X.env) :: starEach es X.env := by rfl) : JAR X B EX (e :: es) (tCons te tl) (mCons ra rl) := ⟨pa_cons ha.p hr.p hs, ev_consT ha.v hr.v⟩
theorem jam_nil : JAM X B EX [] [] tNil mNil := ⟨pa_nil, evm_nil⟩
theorem jam_cons {ms : List Bool} (ha : JE X B EX e te fe) (hr : JAM X B EX ms es tl fl) (hs : starEach (e :: es) X.env = (false, eval e X.env) :: starEach es X.env := by rfl) : JAM X B EX (false :: ms) (e :: es) (tCons te tl) (mCons fe fl) := ⟨pa_cons ha.p hr.p hs, evm_cons ha.v hr.v⟩
theorem jam_own {ms : List Bool} (ha : JF X B EX e te fe) (hr : JAM X B EX ms es tl fl) (hs : starEach (e :: es) X.env = (false, eval e X.env) :: starEach es X.env := by rfl) : JAM X B EX (true :: ms) (e :: es) (tCons te tl) (mCons fe fl) := ⟨pa_cons ha.p hr.p hs, evm_own ha.v hr.v⟩
/-! ### displays, subscripts, slices -/
theorem je_tup {x1} (h : JA X B EX es tl fl) : JE X B EX (.Tuple es x1 pos) (tTup tl) (mTup fl) := ⟨pe_tup h.p, ev_tup h.v⟩
theorem jf_lst (h : JA X B EX es tl fl) : JF X B EX (.List es pos) (tLst tl) (mLst fl) := ⟨pe_lst h.p, evf_lst h.v⟩
theorem je_ix {K : PySem.W.Frag} (ha : JR X B EX a ta ra) (hb : JR X B EX b tb rb) (hs : PlainIx b := by exact fun _ _ => rfl) (hK : X.K = K := by rfl) : JE X B EX (.Subscript a b pos) (tOp (rIx K) ta tb) (mOp ixF ra rb) := by
  subst hK
  exact ⟨pe_ix ix_seq ha.p hb.p hs, ev_op ok_ix ha.v hb.v⟩
theorem jo_none : JO X B EX none tNoPart mNoPart := ⟨po_none, ev_nopart⟩
theorem jo_some (h : JE X B EX e te fe) : JO X B EX (some e) (tPart te) (mPart fe) := ⟨po_some h.p, ev_part h.v⟩
theorem sl_all : SlR X (rSlAll X.K) := (sl_list.or sl_tupA).or sl_str
theorem je_sl {K : PySem.W.Frag} {lo hi : Option Expr} {t1 t2 : TO} {f1 f2 : M (Option Int)} {p2 : Pos} (ha : JR X B EX a ta ra) (hl : JO X B EX lo t1 f1) (hh : JO X B EX hi t2 f2) (hK : X.K = K := by rfl) : JE X B EX (.Subscript a (.Slice lo hi none p2) pos) (tSl (rSlAll K) ta t1 t2) (mSl slF ra f1 f2) := by
  subst hK
  exact ⟨pe_slice sl_all ha.p hl.p hh.p, ev_sl ok_sl ha.v hl.v hh.v⟩
/-! ### built-ins -/
variable {x : Str} {p : Pos}
theorem je_cb {id : String} {r : List V → Hp → VK → Prop} {f : List D → Option D} (hc : CallR X (.builtin id) r) (hk : CallOk r f) (hv : bootBuiltins x = some (.builtin id)) (hm : X.mg x = none) (ha : JAR X B EX (e :: es) tl rl) (hg : Gl X x := by rfl) (hn : x ≠ "__name__" := by decide) (hdb : (x == ("__debug__" : Str)) = false := by decide)
    (he : starEach (e :: es) X.env = (false, eval e X.env) :: starEach es X.env := by rfl) (hpl : (backTo pos (starEach es X.env)).any (·.1) = false := by rfl) : JE X B EX (.Call (.Name x p) (e :: es) [] pos) (tCB r tl) (mCB f rl) := ⟨pe_callB hc hg hm hv ha.p hn hdb he hpl, ev_cb hk ha.v⟩
theorem je_ct {T : String} {r : List V → Hp → VK → Prop} {f : List D → Option D} (hc : CallR X (.type T) r) (hk : CallOk r f) (hv : bootBuiltins x = some (.type T)) (hm : X.mg x = none) (ha : JAR X B EX (e :: es) tl rl) (hg : Gl X x := by rfl) (hn : x ≠ "__name__" := by decide) (hdb : (x == ("__debug__" : Str)) = false := by decide)
    (he : starEach (e :: es) X.env = (false, eval e X.env) :: starEach es X.env := by rfl) (hpl : (backTo pos (starEach es X.env)).any (·.1) = false := by rfl) : JE X B EX (.Call (.Name x p) (e :: es) [] pos) (tCB r tl) (mCB f rl) := ⟨pe_callTy hc hg hm hv ha.p hn hdb he hpl, ev_cb hk ha.v⟩
theorem jf_ct {T : String} {r : List V → Hp → VK → Prop} {f : List D → Option D} (hc : CallR X (.type T) r) (hk : CallOkF r f) (hv : bootBuiltins x = some (.type T)) (hm : X.mg x = none) (ha : JAR X B EX (e :: es) tl rl) (hg : Gl X x := by rfl) (hn : x ≠ "__name__" := by decide) (hdb : (x == ("__debug__" : Str)) = false := by decide)
    (he : starEach (e :: es) X.env = (false, eval e X.env) :: starEach es X.env := by rfl) (hpl : (backTo pos (starEach es X.env)).any (·.1) = false := by rfl) : JF X B EX (.Call (.Name x p) (e :: es) [] pos) (tCB r tl) (mCB f rl) := ⟨pe_callTy hc hg hm hv ha.p hn hdb he hpl, evf_cb hk ha.v⟩
def rLenK (K : PySem.W.Frag) : List V → Hp → VK → Prop := fun xs H Q => ∃ x n, xs = [x] ∧ LenV K x H n ∧ Q (.int n) H
def rTupK (K : PySem.W.Frag) : List V → Hp → VK → Prop := fun xs H Q => ∃ p ys, xs = [.ref p] ∧ ((SqL K H p ys ∧ ∀ l, H l = none → Q (.ref l) (upd H l (.tup ys))) ∨ (SqT K H p ys ∧ Q (.ref p) H))
def rListK (K : PySem.W.Frag) : List V → Hp → VK → Prop := fun xs H Q => ∃ p ys, xs = [.ref p] ∧ (SqL K H p ys ∨ SqT K H p ys) ∧ ∀ l, H l = none → Q (.ref l) (upd H l (.lst ys))
theorem cK_len {K : PySem.W.Frag} (hK : X.K = K) : CallR X (.builtin "len") (rLenK K) := by subst hK; exact call_len
theorem cK_tuple {K : PySem.W.Frag} (hK : X.K = K) : CallR X (.type "tuple") (rTupK K) := by subst hK; exact call_tuple_of
theorem cK_list {K : PySem.W.Frag} (hK : X.K = K) : CallR X (.type "list") (rListK K) := by subst hK; exact call_list_of
theorem cK_all {K : PySem.W.Frag} (hK : X.K = K) (hc : X.calm = true) : CallR X (.builtin "all") (rAll K) := by subst hK; exact cr_all hc
theorem cK_any {K : PySem.W.Frag} (hK : X.K = K) (hc : X.calm = true) : CallR X (.builtin "any") (rAny K) := by subst hK; exact cr_any hc
theorem cK_sum {K : PySem.W.Frag} (hK : X.K = K) (hc : X.calm = true) : CallR X (.builtin "sum") (rSum K) := by subst hK; exact cr_sum hc
theorem okK_len {K : PySem.W.Frag} : CallOk (rLenK K) lenF := ok_len
theorem okK_tuple {K : PySem.W.Frag} : CallOk (rTupK K) tupleF := ok_tuple
theorem okK_list {K : PySem.W.Frag} : CallOkF (rListK K) listF := okF_list
theorem call_intA : CallR X (.type "int") rIntA := call_int1.or call_int_str
/-- isinstance(e, T) -/
theorem je_isi {K : PySem.W.Frag} {T : Str} {n : String} {q : String → Bool} {p2 : Pos} (tab : IsiTab n q) (hb : bootBuiltins T = some (.type n)) (hmT : X.mg T = none) (hm : X.mg "isinstance" = none) (h : JR X B EX e te ra) (hgT : Gl X T := by rfl) (hg : Gl X "isinstance" := by rfl) (hnT : T ≠ "__name__" := by decide) (hdT : (T == ("__debug__" : Str)) = false := by decide)
    (h1 : starEach [e, .Name T p2] X.env = (false, eval e X.env) :: starEach [.Name T p2] X.env := by rfl) (h2 : starEach [.Name T p2] X.env = (false, eval (.Name T p2) X.env) :: starEach [] X.env := by rfl) (hpl : (backTo pos (starEach [.Name T p2] X.env)).any (·.1) = false := by rfl) (hK : X.K = K := by rfl) :
    JE X B EX (.Call (.Name "isinstance" p) [e, .Name T p2] [] pos) (tCB (rIsi K) (tCons te (tCons (tC (.ty n)) tNil))) (mIsi q ra) := by
  subst hK
  exact ⟨pe_callB call_isi hg hm PyProof.Rows.boot_isinstance (pa_cons h.p (pa_cons (pe_bltn (v := .ty n) hgT hmT hb rfl hnT hdT) pa_nil h2) h1) (by decide) (by decide) h1 hpl, ev_isi tab h.v⟩
/-! ### defs of the text -/
end

/-- a def of the text that keeps the promise g, by at most level k -/
def DefV (P : Program) (w : World) (K : PySem.W.Frag) (mg : Str → Option Value) (base : Heap) (CX : CXT) (C : Str → Addr) (x : Str) (ps : List Str) (k : Nat) (g : List D → RR) : Prop :=
  ∃ f fd, FnOk P w K mg base CX k f fd ps (spV C g) ∧ mg x = some (.ref f) ∧ PySem.W.keepIn K (.ref f) = true ∧ Binds K fd ps []
section
variable {X : Cx} {B : Bd} {EX : Str → Hp → Prop} {a b c e : Expr} {es : List Expr} {ta tb tc te : TE} {fa fb fc fe : M D} {ra rb rc : M TV} {pos : Pos} {tl : TA} {fl : M (List D)} {x : Str} {p : Pos}
theorem je_call0 {C : Str → Addr} {ps : List Str} {k j : Nat} {g : List D → RR} (d : DefV X.prog X.w X.K X.mg X.base CX0 C x ps k g) (hr : Room j X.A) (ha : JA X B EX (e :: es) tl fl) (hkj : k ≤ j := by decide) (hg : Gl X x := by rfl) (hdb : (x == ("__debug__" : Str)) = false := by decide)
    (he : starEach (e :: es) X.env = (false, eval e X.env) :: starEach es X.env := by rfl) (hpl : (backTo pos (starEach es X.env)).any (·.1) = false := by rfl) : JE X B EX (.Call (.Name x p) (e :: es) [] pos) (tCall (spV C g) [] E0 tl) (mCall0 g fl) := by
  obtain ⟨f, fd, F, hm, hk, hb⟩ := d
  exact ⟨pe_call F (hr.mono hkj) hg hm hk hb .nil pass0 ha.p hdb he hpl, ev_call0 ha.v⟩
theorem je_callX {C : Str → Addr} {ps : List Str} {k j : Nat} {g : List D → RR} {E : XK} (d : DefV X.prog X.w X.K X.mg X.base (L2N.CX X.prog X.w) C x ps k g) (hr : Room j X.A) (hx : Passes (L2N.CX X.prog X.w) X E) (hE : ∀ c H, EX c H → E (.ref (C c)) none H) (ha : JA X B EX (e :: es) tl fl) (hkj : k ≤ j := by decide) (hg : Gl X x := by rfl) (hdb : (x == ("__debug__" : Str)) = false := by decide)
    (he : starEach (e :: es) X.env = (false, eval e X.env) :: starEach es X.env := by rfl) (hpl : (backTo pos (starEach es X.env)).any (·.1) = false := by rfl) : JE X B EX (.Call (.Name x p) (e :: es) [] pos) (tCall (spV C g) [] E tl) (mCall g fl) := by
  obtain ⟨f, fd, F, hm, hk, hb⟩ := d
  exact ⟨pe_call F (hr.mono hkj) hg hm hk hb .nil hx ha.p hdb he hpl, ev_call hE ha.v⟩
/-! ### iterables, targets -/
variable {tg : Expr} {wi : TI} {fi : M (List D)}
theorem ji_seq {K : PySem.W.Frag} (h : JE X B EX e te fe) (hK : X.K = K := by rfl) : JI X B EX tg e (iSeq K te) (mSeqI fe) := by
  subst hK
  exact ⟨pi_seq h.p, evi_seq h.v⟩
theorem ji_rng1 (hm : X.mg "range" = none) (ha : JA X B EX [a] tl fl) (hg : Gl X "range" := by rfl) (hs : starEach [a] X.env = [(false, eval a X.env)] := by rfl) : JI X B EX tg (.Call (.Name "range" p) [a] [] pos) (iRng1 tl) (mRng1 fl) := ⟨pi_range1 hg hm ha.p hs, evi_rng1 ha.v⟩
theorem ji_rng2 (hm : X.mg "range" = none) (ha : JA X B EX [a, b] tl fl) (hg : Gl X "range" := by rfl) (hs : starEach [a, b] X.env = [(false, eval a X.env), (false, eval b X.env)] := by rfl) (hs2 : starEach [b] X.env = [(false, eval b X.env)] := by rfl) : JI X B EX tg (.Call (.Name "range" p) [a, b] [] pos) (iRng2 tl) (mRng2 fl) := ⟨pi_range2 hg hm ha.p hs hs2, evi_rng2 ha.v⟩
theorem ji_enum {K : PySem.W.Frag} {elts : List Expr} {kk : Nat} {tpos : Pos} (hm : X.mg "enumerate" = none) (ha : JA X B EX [a] tl fl) (hg : Gl X "enumerate" := by rfl) (hs : starEach [a] X.env = [(false, eval a X.env)] := by rfl) (hK : X.K = K := by rfl) : JI X B EX (.Tuple elts kk tpos) (.Call (.Name "enumerate" p) [a] [] pos) (iEnumS K tl) (mEnum fl) := by
  subst hK
  exact ⟨pi_enumS hg hm ha.p hs, evi_enum ha.v⟩
theorem jg_name (i : Nat) {y : Str} (hN : X.N.Nodup) (hi : X.N[i]? = some y := by rfl) (hx : Loc X.env.scope y := by first | exact Or.inl rfl | exact Or.inr rfl) (hf : X.fn y = true ∨ X.env.scope.names.lookup y = some .local := by first | exact .inl rfl | exact .inr rfl) : JG X B (.Name y pos) (gName i) (hName i) [i] := ⟨pg_name hN hi hx hf, eg_name⟩
theorem jgs_nil : JGs X B [] gNil hNil [] := ⟨pgs_nil, egs_nil⟩
theorem jgs_cons {gs : TGs} {g : TG} {h : D → Rho → Option Rho} {hs : List D → Rho → Option Rho} {L Ls : List Nat} (h1 : JG X B e g h L) (h2 : JGs X B es gs hs Ls) (hs' : (assignEach (e :: es) X.env).map (·.2) = assign e X.env :: (assignEach es X.env).map (·.2) := by rfl) : JGs X B (e :: es) (gCons g gs) (hCons h hs) (L ++ Ls) := ⟨pgs_cons h1.p h2.p hs', egs_cons h1.v h2.v⟩
theorem jg_tup {K : PySem.W.Frag} {k n : Nat} {gs : TGs} {hs : List D → Rho → Option Rho} {L : List Nat} (h : JGs X B es gs hs L) (hc : X.calm = true := by rfl) (hn : (assignEach es X.env).length = n := by rfl) (hst : (assignEach es X.env).findIdx? (·.1) = none := by rfl) (hK : X.K = K := by rfl) : JG X B (.Tuple es k pos) (gTup K n gs) (hTup n hs) L := by
  subst hK
  exact ⟨pg_tup hc h.p hn hst, eg_tup h.v⟩
/-! ### comprehensions -/
theorem jf_lc {elt iter : Expr} {ifs : List Expr} {scope : Scope} {own : List (Str × Nat)} {g : TG} {h : D → Rho → Option Rho} {L : List Nat} {tt : TT} {ft : M Bool} (hN : X.N.Nodup) (ok : BlkOk X.N X.env.scope scope own) (hi : JI X B EX tg iter wi fi)
    (hg : ∀ (s : Shared) (H : Hp) (C : Addr) (cl : List (Str × Addr)) (fp : List Addr), JG (X.blk s H scope (compEnvC scope cl C X.env) fp) B tg g h L) (ht : ∀ (s : Shared) (H : Hp) (C : Addr) (cl : List (Str × Addr)) (fp : List Addr), JBs (X.blk s H scope (compEnvC scope cl C X.env) fp) B EX0 ifs tt ft)
    (he : ∀ (s : Shared) (H : Hp) (C : Addr) (cl : List (Str × Addr)) (fp : List Addr), JE (X.blk s H scope (compEnvC scope cl C X.env) fp) B EX0 elt te fe) (hL : ∀ i ∈ L, i ∈ own.map (·.2) := by decide) (hc : X.calm = true := by rfl) (hs : ∀ x, foldedSetIterable iter X.env x = pure x := by intro _; rfl) :
    JF X B EX (.ListComp elt [⟨tg, iter, ifs, 0⟩] scope pos) (tLc wi g tt te (own.map (·.2))) (mLc fi h ft fe (own.map (·.2))) :=
  ⟨pe_lc hc hN hi.p ok (fun s H C cl fp => (hg s H C cl fp).p) (fun s H C cl fp => (ht s H C cl fp).p) (fun s H C cl fp => (he s H C cl fp).p) hs, evf_lc hi.v (hg X.s_0 X.H_0 0 [] []).v (ht X.s_0 X.H_0 0 [] []).v (he X.s_0 X.H_0 0 [] []).v hL⟩
/-! ### statements -/
variable {st : Stmt} {sts : List Stmt} {t u : TS} {f f' : S} {tA : TT} {gA : M Bool}
theorem jss_nil : JSs X B EX [] tNext sNext := ⟨pss_nil, es_next⟩
theorem jss_one (h : JS X B EX st t f) : JSs X B EX [st] t f := ⟨pss_one h.p, h.v⟩
theorem jss_cons (h : JS X B EX st t f) (h2 : JSs X B EX sts u f') : JSs X B EX (st :: sts) (tSeq t u) (sSeq f f') := ⟨pss_cons h.p h2.p, es_seq h.v h2.v⟩
theorem js_pass : JS X B EX (.Pass pos) tNext sNext := ⟨ps_pass, es_next⟩
theorem js_break : JS X B EX (.Break pos) tBreak sBreak := ⟨ps_break, es_break⟩
theorem js_cont : JS X B EX (.Continue pos) tCont sCont := ⟨ps_continue, es_cont⟩
theorem js_expr (h : JE X B EX e te fe) (hs : swapsWith e none pos.line X.env = pure false := by rfl) : JS X B EX (.Expr e pos) (tDrop te) (sDrop fe) := ⟨ps_expr h.p hs, es_drop h.v⟩
theorem js_ret (h : JE X B EX e te fe) : JS X B EX (.Return (some e) pos) (tRet te) (sRet fe) := ⟨ps_ret h.p, es_ret h.v⟩
theorem js_retN : JS X B EX (.Return none pos) tRetN sRetN := ⟨ps_retN, es_retN⟩
theorem js_if {a b : List Stmt} (hc : JB X B EX c tA gA) (ha : JSs X B EX a t f) (hb : JSs X B EX b u f') : JS X B EX (.If c a b pos) (tIfS tA t u) (sIf gA f f') := ⟨ps_if hc.p ha.p hb.p, es_if hc.v ha.v hb.v⟩
theorem js_set (i : Nat) {y : Str} {pos' : Pos} (hN : X.N.Nodup) (h : JE X B EX e te fe) (hi : X.N[i]? = some y := by rfl) (hx : Loc X.env.scope y := by first | exact Or.inl rfl | exact Or.inr rfl) (hs : swapsWith e (some (.Name y pos')) pos.line X.env = pure false := by rfl)
    (hf : X.fn y = true ∨ X.env.scope.names.lookup y = some .local := by first | exact .inl rfl | exact .inr rfl) : JS X B EX (.Assign [.Name y pos'] e pos) (tAsg te (gName i)) (sAsg fe (hName i)) := ⟨ps_set hN hi hx h.p hs hf, es_asg h.v eg_name⟩
theorem js_own (i : Nat) {y : Str} {pos' : Pos} (hN : X.N.Nodup) (h : JF X B EX e te fe) (hi : X.N[i]? = some y := by rfl) (hx : Loc X.env.scope y := by first | exact Or.inl rfl | exact Or.inr rfl) (hs : swapsWith e (some (.Name y pos')) pos.line X.env = pure false := by rfl)
    (hf : X.fn y = true ∨ X.env.scope.names.lookup y = some .local := by first | exact .inl rfl | exact .inr rfl) : JS X B EX (.Assign [.Name y pos'] e pos) (tAsg te (gName i)) (sOwn fe i) := ⟨ps_set hN hi hx h.p hs hf, es_own h.v⟩
theorem setLc_p (i : Nat) {y : Str} {py : Pos} {elt iter : Expr} {ifs : List Expr} {scope : Scope} {own : List (Str × Nat)} {g : TG} {h : D → Rho → Option Rho} {L : List Nat} {tt : TT} {ft : M Bool} (hN : X.N.Nodup) (ok : BlkOk X.N X.env.scope scope own) (hi : JI X B EX tg iter wi fi)
    (hg : ∀ (s : Shared) (H : Hp) (C : Addr) (cl : List (Str × Addr)) (fp : List Addr), JG (X.blk s H scope (compEnvC scope cl C X.env) fp) B tg g h L) (ht : ∀ (s : Shared) (H : Hp) (C : Addr) (cl : List (Str × Addr)) (fp : List Addr), JBs (X.blk s H scope (compEnvC scope cl C X.env) fp) B EX0 ifs tt ft)
    (he : ∀ (s : Shared) (H : Hp) (C : Addr) (cl : List (Str × Addr)) (fp : List Addr), JE (X.blk s H scope (compEnvC scope cl C X.env) fp) B EX0 elt te fe) (hc : X.calm = true) (hy : X.N[i]? = some y) (hyl : X.env.scope.names.lookup y = some .local)
    (hsw : swapsWith (.ListComp elt [⟨tg, iter, ifs, 0⟩] scope pos) (some (.Name y py)) p.line X.env = pure true) (hs : ∀ x, foldedSetIterable iter X.env x = pure x) :
    PS X (.Assign [.Name y py] (.ListComp elt [⟨tg, iter, ifs, 0⟩] scope pos) p) (tAsg (tLc wi g tt te (own.map (·.2))) (gName i)) :=
  ps_setLc hc hN hy hyl hsw hi.p ok (fun s H C cl fp => (hg s H C cl fp).p) (fun s H C cl fp => (ht s H C cl fp).p) (fun s H C cl fp => (he s H C cl fp).p) hs
/-- y = [..], y a local: frozen; owned -/
theorem js_setLc (i : Nat) {y : Str} {py : Pos} {elt iter : Expr} {ifs : List Expr} {scope : Scope} {own : List (Str × Nat)} {g : TG} {h : D → Rho → Option Rho} {L : List Nat} {tt : TT} {ft : M Bool} (hN : X.N.Nodup) (ok : BlkOk X.N X.env.scope scope own) (hi : JI X B EX tg iter wi fi)
    (hg : ∀ (s : Shared) (H : Hp) (C : Addr) (cl : List (Str × Addr)) (fp : List Addr), JG (X.blk s H scope (compEnvC scope cl C X.env) fp) B tg g h L) (ht : ∀ (s : Shared) (H : Hp) (C : Addr) (cl : List (Str × Addr)) (fp : List Addr), JBs (X.blk s H scope (compEnvC scope cl C X.env) fp) B EX0 ifs tt ft)
    (he : ∀ (s : Shared) (H : Hp) (C : Addr) (cl : List (Str × Addr)) (fp : List Addr), JE (X.blk s H scope (compEnvC scope cl C X.env) fp) B EX0 elt te fe) (hsw : swapsWith (.ListComp elt [⟨tg, iter, ifs, 0⟩] scope pos) (some (.Name y py)) p.line X.env = pure true) (hL : ∀ i ∈ L, i ∈ own.map (·.2) := by decide) (hc : X.calm = true := by rfl) (hy : X.N[i]? = some y := by rfl) (hyl : X.env.scope.names.lookup y = some .local := by rfl)
    (hs : ∀ x, foldedSetIterable iter X.env x = pure x := by intro _; rfl) :
    JS X B EX (.Assign [.Name y py] (.ListComp elt [⟨tg, iter, ifs, 0⟩] scope pos) p) (tAsg (tLc wi g tt te (own.map (·.2))) (gName i)) (sAsg (mLc fi h ft fe (own.map (·.2))) (hName i)) :=
  ⟨setLc_p i hN ok hi hg ht he hc hy hyl hsw hs, es_asg (ev_ofF (evf_lc hi.v (hg X.s_0 X.H_0 0 [] []).v (ht X.s_0 X.H_0 0 [] []).v (he X.s_0 X.H_0 0 [] []).v hL)) eg_name⟩
theorem js_ownLc (i : Nat) {y : Str} {py : Pos} {elt iter : Expr} {ifs : List Expr} {scope : Scope} {own : List (Str × Nat)} {g : TG} {h : D → Rho → Option Rho} {L : List Nat} {tt : TT} {ft : M Bool} (hN : X.N.Nodup) (ok : BlkOk X.N X.env.scope scope own) (hi : JI X B EX tg iter wi fi)
    (hg : ∀ (s : Shared) (H : Hp) (C : Addr) (cl : List (Str × Addr)) (fp : List Addr), JG (X.blk s H scope (compEnvC scope cl C X.env) fp) B tg g h L) (ht : ∀ (s : Shared) (H : Hp) (C : Addr) (cl : List (Str × Addr)) (fp : List Addr), JBs (X.blk s H scope (compEnvC scope cl C X.env) fp) B EX0 ifs tt ft)
    (he : ∀ (s : Shared) (H : Hp) (C : Addr) (cl : List (Str × Addr)) (fp : List Addr), JE (X.blk s H scope (compEnvC scope cl C X.env) fp) B EX0 elt te fe) (hsw : swapsWith (.ListComp elt [⟨tg, iter, ifs, 0⟩] scope pos) (some (.Name y py)) p.line X.env = pure true) (hL : ∀ i ∈ L, i ∈ own.map (·.2) := by decide) (hc : X.calm = true := by rfl) (hy : X.N[i]? = some y := by rfl) (hyl : X.env.scope.names.lookup y = some .local := by rfl)
    (hs : ∀ x, foldedSetIterable iter X.env x = pure x := by intro _; rfl) :
    JS X B EX (.Assign [.Name y py] (.ListComp elt [⟨tg, iter, ifs, 0⟩] scope pos) p) (tAsg (tLc wi g tt te (own.map (·.2))) (gName i)) (sOwn (mLc fi h ft fe (own.map (·.2))) i) :=
  ⟨setLc_p i hN ok hi hg ht he hc hy hyl hsw hs, es_own (evf_lc hi.v (hg X.s_0 X.H_0 0 [] []).v (ht X.s_0 X.H_0 0 [] []).v (he X.s_0 X.H_0 0 [] []).v hL)⟩
/-- target = e, any target -/
theorem js_asg {g : TG} {h : D → Rho → Option Rho} {L : List Nat} (he : JE X B EX e te fe) (hg : JG X B tg g h L) (hs : swapsWithSole [tg] e pos.line X.env = pure false := by rfl) (hw : swappedStores [tg] e X.env = pure none := by rfl)
    (h1 : (assignEach [tg] X.env).map (·.2) = [assign tg X.env] := by rfl) : JS X B EX (.Assign [tg] e pos) (tAsg te g) (sAsg fe h) := ⟨ps_asg he.p hg.p hs hw h1, es_asg he.v hg.v⟩
theorem js_par2 (i j : Nat) {ms : List Bool} {x y : Str} {px py pt pt2 : Pos} {kt k2} (hN : X.N.Nodup) (ha : JAM X B EX ms [a, b] tl fl) (hc : X.calm = true := by rfl) (hi : X.N[i]? = some x := by rfl) (hj : X.N[j]? = some y := by rfl) (hij : i ≠ j := by decide) (hx : X.env.scope.names.lookup x = some .local := by rfl) (hy : X.env.scope.names.lookup y = some .local := by rfl)
    (hw : swappedStores [.Tuple [.Name x px, .Name y py] kt pt] (.Tuple [a, b] k2 pt2) X.env = pure (some [x, y]) := by rfl) (hs : swapsWithSole [.Tuple [.Name x px, .Name y py] kt pt] (.Tuple [a, b] k2 pt2) pos.line X.env = pure false := by rfl) :
    JS X B EX (.Assign [.Tuple [.Name x px, .Name y py] kt pt] (.Tuple [a, b] k2 pt2) pos) (tPar i j tl) (sPar ms [i, j] fl) := ⟨ps_par hc hN hi hj hij hx hy ha.p hw hs, es_par2 ha.v⟩
theorem js_par3 (i j l : Nat) {ms : List Bool} {x y z : Str} {px py pz pt pt2 : Pos} {kt k2} (hN : X.N.Nodup) (ha : JAM X B EX ms [a, b, c] tl fl) (hc : X.calm = true := by rfl) (hi : X.N[i]? = some x := by rfl) (hj : X.N[j]? = some y := by rfl) (hl : X.N[l]? = some z := by rfl) (hij : i ≠ j := by decide) (hil : i ≠ l := by decide) (hjl : j ≠ l := by decide) (hx : X.env.scope.names.lookup x = some .local := by rfl) (hy : X.env.scope.names.lookup y = some .local := by rfl) (hz : X.env.scope.names.lookup z = some .local := by rfl)
    (hw : swappedStores [.Tuple [.Name x px, .Name y py, .Name z pz] kt pt] (.Tuple [a, b, c] k2 pt2) X.env = pure (some [x, y, z]) := by rfl) (hs : swapsWithSole [.Tuple [.Name x px, .Name y py, .Name z pz] kt pt] (.Tuple [a, b, c] k2 pt2) pos.line X.env = pure false := by rfl) :
    JS X B EX (.Assign [.Tuple [.Name x px, .Name y py, .Name z pz] kt pt] (.Tuple [a, b, c] k2 pt2) pos) (tPar3 i j l tl) (sPar ms [i, j, l] fl) := ⟨ps_par3 hc hN hi hj hl hij hil hjl hx hy hz ha.p hw hs, es_par3 ha.v⟩
/-- several names at once, some of them cells -/
theorem js_parT {K : PySem.W.Frag} {ms : List Bool} {is : List Nat} {n k2 : Nat} {pt2 : Pos} {tgs : List Expr} {kt : Nat} {pt : Pos} (ha : JAM X B EX ms es tl fl) (hg : PG X (.Tuple tgs kt pt) (gTup K n (gNames is))) (hn : is.length = n := by rfl) (hn2 : n ≤ 100 := by decide) (hs : swapsWithSole [.Tuple tgs kt pt] (.Tuple es k2 pt2) pos.line X.env = pure false := by rfl) (hw : swappedStores [.Tuple tgs kt pt] (.Tuple es k2 pt2) X.env = pure none := by rfl)
    (h1 : (assignEach [.Tuple tgs kt pt] X.env).map (·.2) = [assign (.Tuple tgs kt pt) X.env] := by rfl) (hK : X.K = K := by rfl) : JS X B EX (.Assign [.Tuple tgs kt pt] (.Tuple es k2 pt2) pos) (tAsg (tTup tl) (gTup K n (gNames is))) (sPar ms is fl) := by
  subst hK
  exact ⟨ps_asg (pe_tup ha.p) hg hs hw h1, es_parT ha.v hn hn2⟩
theorem js_append {K : PySem.W.Frag} (i : Nat) {y : Str} {p1 p2 p3 : Pos} (h : JE X B EX e te fe) (hN : X.N[i]? = some y := by rfl) (hv : Vis X.env.scope y := by first | exact Or.inl rfl | exact Or.inr (Or.inl rfl) | exact Or.inr (Or.inr rfl)) (hd : (y == ("__debug__" : Str)) = false := by decide) (hcd : (y == ("__classdict__" : Str)) = false := by decide)
    (hst : starEach [e] X.env = (false, eval e X.env) :: starEach [] X.env := by rfl) (hline : (p2.endLine == p3.line) = true := by rfl)
    (hfew : ((backTo p3 (starEach [e] X.env)).all (fun x => !x.1) && (backToKw p3 (keywordEach [] X.env)).all (fun x => x.1.isSome) && decide (([e] : List Expr).length + ([] : List Keyword).length + (if ([] : List Keyword).isEmpty then 0 else 1) < 30)) = true := by rfl)
    (hbase : attributeBase (.Name y p1) "append" X.env (eval (.Name y p1) X.env) = eval (.Name y p1) X.env := by rfl) (hpl : (backTo p3 (starEach [] X.env)).any (·.1) = false := by rfl) (hs : swapsWith (.Call (.Attribute (.Name y p1) "append" p2) [e] [] p3) none pos.line X.env = pure false := by rfl) (hK : X.K = K := by rfl) :
    JS X B EX (.Expr (.Call (.Attribute (.Name y p1) "append" p2) [e] [] p3) pos) (tDrop (tBM K "list" rAppend (tVar i) (tCons te tNil))) (sAppend i fe) := by
  subst hK
  exact ⟨ps_expr (pe_bm PySem.F.plainAttrs_list PySem.F.slot_list_append PySem.F.type_list_append mt_append (pv i hN hv hd hcd) (pa_cons h.p pa_nil hst) hbase hfew hline hst hpl) hs, es_append h.v⟩
theorem je_pop {K : PySem.W.Frag} (i : Nat) {y : Str} {p1 p2 : Pos} (hN : X.N[i]? = some y := by rfl) (hv : Vis X.env.scope y := by first | exact Or.inl rfl | exact Or.inr (Or.inl rfl) | exact Or.inr (Or.inr rfl)) (hd : (y == ("__debug__" : Str)) = false := by decide) (hcd : (y == ("__classdict__" : Str)) = false := by decide)
    (hbase : attributeBase (.Name y p1) "pop" X.env (eval (.Name y p1) X.env) = eval (.Name y p1) X.env := by rfl) (hline : (p2.endLine == pos.line) = true := by rfl) (hK : X.K = K := by rfl) : JE X B EX (.Call (.Attribute (.Name y p1) "pop" p2) [] [] pos) (tBM0 K "list" rPop (tVar i)) (mPop i) := by
  subst hK
  exact ⟨pe_bm0 PySem.F.plainAttrs_list PySem.F.slot_list_pop PySem.F.type_list_pop mt_pop (pv i hN hv hd hcd) hbase hline, ev_pop⟩
theorem js_setitem (i : Nat) {y : Str} {k : Expr} {tk : TE} {fk : M D} {p1 p2 : Pos} (he : JE X B EX e te fe) (hk : JE X B EX k tk fk) (hN : X.N[i]? = some y := by rfl) (hv : Vis X.env.scope y := by first | exact Or.inl rfl | exact Or.inr (Or.inl rfl) | exact Or.inr (Or.inr rfl)) (hd : (y == ("__debug__" : Str)) = false := by decide) (hcd : (y == ("__classdict__" : Str)) = false := by decide)
    (hsub : ∀ v, assign (.Subscript (.Name y p1) k p2) X.env v = (do
      let ov ← holding [v] (eval (.Name y p1) X.env)
      let iv ← holding [v, ov] (eval k X.env)
      standAt p2
      holding [v, ov, iv] (setItem ov iv v)
      release [v, ov, iv] []) := by intro _; rfl)
    (hs : swapsWithSole [.Subscript (.Name y p1) k p2] e pos.line X.env = pure false := by rfl) (hw : swappedStores [.Subscript (.Name y p1) k p2] e X.env = pure none := by rfl)
    (h1 : (assignEach [.Subscript (.Name y p1) k p2] X.env).map (·.2) = [assign (.Subscript (.Name y p1) k p2) X.env] := by rfl) :
    JS X B EX (.Assign [.Subscript (.Name y p1) k p2] e pos) (tAsg te (gSub (tVar i) tk rSetL)) (sSetItem i fe fk) :=
  ⟨ps_asg he.p (pg_sub (pv i hN hv hd hcd) hk.p set_list hsub) hs hw h1, es_setitem he.v hk.v⟩
theorem js_for {iter : Expr} {body : List Stmt} {g : TG} {h : D → Rho → Option Rho} {L : List Nat} (hp : PassesOwn (model X.prog X.w) X.A X.env X.xe) (hi : JI X B EX tg iter wi fi) (hg : JG X B tg g h L) (hb : JSs X B EX body t f) (hc : X.calm = true := by rfl) (hs : ∀ x, foldedSetIterable iter X.env x = pure x := by intro _; rfl) :
    JS X B EX (.For tg iter body [] pos) (tFor wi g t) (sFor fi h f) := ⟨ps_for hp hc hi.p hg.p hb.p hs, es_for hi.v hg.v hb.v⟩
theorem js_while {body : List Stmt} (n : Nat) (hp : PassesOwn (model X.prog X.w) X.A X.env X.xe) (hc : JB X B EX c tA gA) (hb : JSs X B EX body t f) : JS X B EX (.While c body [] pos) (tWhile tA t) (whileGo gA f n) := ⟨ps_while hp hc.p hb.p, es_while hc.v hb.v⟩
end

end Rn
end

section
set_option Elab.async false
set_option linter.all false
set_option autoImplicit false
set_option maxRecDepth 100000
/-! Core8: defs by what the head tells; raising. -/
namespace Rn
open PySem PySem.Spec L2

abbrev FnP (K : PySem.W.Frag) (x : Str) (st : Stmt) (f : Addr) (fd : FuncData) : Prop := FunD K x x (defArgs st) (defBody st) (defScope st) [] [] f fd
/-- a def of the text, with its name and parameters -/
def HasF (K : PySem.W.Frag) (mg : Str → Option Value) (x : Str) (st : Stmt) (ps : List Str) : Prop := ∃ f fd, FnP K x st f fd ∧ mg x = some (.ref f) ∧ Binds K fd ps []
structure ExcF (K : PySem.W.Frag) (mg : Str → Option Value) (C : Str → Addr) (x : Str) : Prop where
  g : mg x = some (.ref (C x))
  q : PySem.W.excIn K (C x) He.veBase "ValueError.__new__" = true
  k : PySem.W.keepIn K (.ref (C x)) = true
  s : PySem.W.subIn K (.ref (C x)) (.type "BaseException") = some true
  t : PySem.W.typeIn K (.ref (C x)) = some (.type "type")
section
variable {P : Program} {w : World} {K : PySem.W.Frag} {mg : Str → Option Value} {base : Heap} {C : Str → Addr}
theorem def_v0 {x : Str} {st : Stmt} {N ps : List Str} {k : Nat} {body : S} (h : HasF K mg x st ps) (Sc : FnScope N ps (defScope st))
    (hb : ∀ (f : Addr) (cdv : Value) (A : Around) (outer : List Env) (s : Shared) (H : Hp) (E : XK), Room k (A.deeper (PyProof.Rows.envOfC x (defScope st) s.heap.objs.size f cdv)) →
      ∃ t, ∀ (B : Bd) (EX : Str → Hp → Prop), JSs (cxOf CX0 P w K mg base N x (defScope st) f cdv A outer s H E).nox B EX (defBody st) t body) :
    DefV P w K mg base CX0 C x ps (k + 1) (callD ps.length N.length body) := by
  obtain ⟨f, fd, F, hm, hbd⟩ := h
  refine ⟨f, fd, F.ok Sc (fun vs H Q E h => spV_len h) (fun cdv A outer s H vs Q E hr h => ?_), hm, F.kp, hbd⟩
  obtain ⟨t, ht⟩ := hb f cdv A outer s H E hr
  exact ⟨t, PSs.nox (ht ⟨H, H, [], [], []⟩ EX0).p, body_ok h fun F => (ht _ _).v⟩
theorem def_vX {x : Str} {st : Stmt} {N ps : List Str} {k : Nat} {body : S} (h : HasF K mg x st ps) (Sc : FnScope N ps (defScope st))
    (hb : ∀ (f : Addr) (cdv : Value) (A : Around) (outer : List Env) (s : Shared) (H : Hp) (E : XK), Room k (A.deeper (PyProof.Rows.envOfC x (defScope st) s.heap.objs.size f cdv)) →
      ∃ t, ∀ (B : Bd), JSs (cxOf (L2N.CX P w) P w K mg base N x (defScope st) f cdv A outer s H E) B (fun c H' => E (.ref (C c)) none H') (defBody st) t body) :
    DefV P w K mg base (L2N.CX P w) C x ps (k + 1) (callD ps.length N.length body) := by
  obtain ⟨f, fd, F, hm, hbd⟩ := h
  refine ⟨f, fd, F.ok Sc (fun vs H Q E h => spV_len h) (fun cdv A outer s H vs Q E hr h => ?_), hm, F.kp, hbd⟩
  obtain ⟨t, ht⟩ := hb f cdv A outer s H E hr
  exact ⟨t, (ht ⟨H, H, [], [], []⟩).p, body_ok h fun F => (ht _).v⟩
/-- a call in the body of a def that may raise -/
theorem je_call {qual : Str} {N : List Str} {scope : Scope} {f : Addr} {cdv : Value} {A : Around} {outer : List Env} {s : Shared} {H : Hp} {E : XK} {B : Bd} {x : Str} {p pos : Pos} {e : Expr} {es : List Expr} {tl : TA} {fl : M (List D)} {ps : List Str} {k j : Nat} {g : List D → RR}
    (d : DefV P w K mg base (L2N.CX P w) C x ps k g) (hr : Room j (cxOf (L2N.CX P w) P w K mg base N qual scope f cdv A outer s H E).A) (ha : JA (cxOf (L2N.CX P w) P w K mg base N qual scope f cdv A outer s H E) B (fun c H' => E (.ref (C c)) none H') (e :: es) tl fl) (hkj : k ≤ j := by decide)
    (hg : Gl (cxOf (L2N.CX P w) P w K mg base N qual scope f cdv A outer s H E) x := by rfl) (hdb : (x == ("__debug__" : Str)) = false := by decide)
    (he : starEach (e :: es) (cxOf (L2N.CX P w) P w K mg base N qual scope f cdv A outer s H E).env = (false, eval e (cxOf (L2N.CX P w) P w K mg base N qual scope f cdv A outer s H E).env) :: starEach es (cxOf (L2N.CX P w) P w K mg base N qual scope f cdv A outer s H E).env := by rfl)
    (hpl : (backTo pos (starEach es (cxOf (L2N.CX P w) P w K mg base N qual scope f cdv A outer s H E).env)).any (·.1) = false := by rfl) :
    JE (cxOf (L2N.CX P w) P w K mg base N qual scope f cdv A outer s H E) B (fun c H' => E (.ref (C c)) none H') (.Call (.Name x p) (e :: es) [] pos) (tCall (spV C g) [] E tl) (mCall g fl) :=
  je_callX (X := cxOf (L2N.CX P w) P w K mg base N qual scope f cdv A outer s H E) d hr (L2N.passes_call (W := fun cls d _ H => E cls d H) (L2N.takes_of rfl rfl rfl rfl) (fun _ _ _ _ q => q)) (fun _ _ q => q) ha hkj hg hdb he hpl
theorem js_raise {qual : Str} {N : List Str} {scope : Scope} {f : Addr} {cdv : Value} {A : Around} {outer : List Env} {s : Shared} {H : Hp} {E : XK} {B : Bd} {x m : Str} {j : Nat} {p p2 p3 pos : Pos} (c : ExcF K mg C x) (hg : Gl (cxOf (L2N.CX P w) P w K mg base N qual scope f cdv A outer s H E) x := by rfl) (hdb : (x == ("__debug__" : Str)) = false := by decide) :
    JS (cxOf (L2N.CX P w) P w K mg base N qual scope f cdv A outer s H E) B (fun c H' => E (.ref (C c)) none H') (.Raise (some (.Call (.Name x p) [.Constant (.str m) j p2] [] p3)) none pos)
      (fun _ σ H => (fun (_ : L2.St) H (Q : XK) => Q (.ref (C x)) none H) σ H fun cls d H' => (fun cls d (_ : L2.St) H => E cls d H) cls d σ H') (sRaise x) :=
  ⟨L2N.ps_raise rfl (L2N.takes_of rfl rfl rfl rfl) (L2N.pmk_own PySem.F.excBase_ValueError c.q c.g c.k (raises_own c.s c.t) hg hdb), es_raise fun _ q => q⟩
theorem pass_own {qual : Str} {N : List Str} {scope : Scope} {f : Addr} {cdv : Value} {A : Around} {outer : List Env} {s : Shared} {H : Hp} {E : XK} : PassesOwn (model P w) (cxOf (L2N.CX P w) P w K mg base N qual scope f cdv A outer s H E).A (cxOf (L2N.CX P w) P w K mg base N qual scope f cdv A outer s H E).env (cxOf (L2N.CX P w) P w K mg base N qual scope f cdv A outer s H E).xe := passes_of rfl
theorem je_gi {X : Cx} {B : Bd} {EX : Str → Hp → Prop} {pos : Pos} {x : Str} {i : Int} (hm : ∃ t, X.mg x = some (.int i t)) (hg : Gl X x := by rfl) (hd : (x == ("__debug__" : Str)) = false := by decide) : JE X B EX (.Name x pos) (tC (.int i)) (ret (.int i)) := by
  obtain ⟨t, h⟩ := hm
  exact je_gint h hg hd
end
end Rn
end

section
set_option Elab.async false
set_option linter.all false
set_option autoImplicit false
set_option maxRecDepth 100000
/-! Core9: sorted, three-argument max and min. -/
namespace Rn
open PySem PySem.Spec L2

/-! ### sorting data -/
def ins (x : D) : List D → List D
  | [] => [x]
  | y :: ys => if PySem.W.dataLt y x = true then y :: ins x ys else x :: y :: ys
def isort : List D → List D
  | [] => []
  | x :: xs => ins x (isort xs)
abbrev dle (x y : D) : Prop := PySem.W.dataLt y x = false
theorem dle_total (x y : D) : dle x y ∨ dle y x := by
  by_cases h : PySem.W.dataLt y x = true
  · right
    cases e : PySem.W.dataLt x y with
    | false => exact e
    | true =>
      have t := PyProof.Rows.lex_trans _ _ _ h e
      rw [PyProof.Rows.lex_irrefl] at t
      cases t
  · left; simpa using h
theorem dle_trans {x y z : D} (h1 : dle x y) (h2 : dle y z) : dle x z := by
  cases e : PySem.W.dataLt z x with
  | false => exact e
  | true =>
    rcases PyProof.Rows.lex_negTrans _ (PySem.W.keyToks y) _ e with h | h
    · exact absurd h (by rw [show PyProof.Rows.lexLt PyProof.Rows.itemOrd (PySem.W.keyToks z) (PySem.W.keyToks y) = false from h2]; decide)
    · exact absurd h (by rw [show PyProof.Rows.lexLt PyProof.Rows.itemOrd (PySem.W.keyToks y) (PySem.W.keyToks x) = false from h1]; decide)
theorem ins_perm (x : D) : ∀ ys : List D, (ins x ys).Perm (x :: ys)
  | [] => .refl _
  | y :: ys => by
    unfold ins
    split
    · exact ((ins_perm x ys).cons y).trans (.swap x y ys)
    · exact .refl _
theorem isort_perm : ∀ xs : List D, (isort xs).Perm xs
  | [] => .refl _
  | x :: xs => (ins_perm x _).trans ((isort_perm xs).cons x)
theorem ins_pw (x : D) : ∀ ys : List D, ys.Pairwise dle → (ins x ys).Pairwise dle
  | [], _ => List.pairwise_singleton _ _
  | y :: ys, h => by
    obtain ⟨h1, h2⟩ := List.pairwise_cons.mp h
    unfold ins
    split
    · next e =>
      refine List.pairwise_cons.mpr ⟨fun z hz => ?_, ins_pw x ys h2⟩
      rcases List.mem_cons.mp ((ins_perm x ys).mem_iff.mp hz) with rfl | hz
      · rcases dle_total y z with q | q
        · exact q
        · rw [show PySem.W.dataLt y z = false from q] at e; cases e
      · exact h1 z hz
    · next e =>
      have e' : dle x y := by simpa using e
      refine List.pairwise_cons.mpr ⟨fun z hz => ?_, h⟩
      rcases List.mem_cons.mp hz with rfl | hz
      · exact e'
      · exact dle_trans e' (h1 z hz)
theorem isort_pw : ∀ xs : List D, (isort xs).Pairwise dle
  | [] => .nil
  | x :: xs => ins_pw x _ (isort_pw xs)
mutual
theorem toks_inj : ∀ (x y : D) (l m : List (Int ⊕ List Nat)), PySem.W.alike x y = true → PySem.W.keyToks x ++ l = PySem.W.keyToks y ++ m → x = y ∧ l = m
  | .none, y, l, m, h, e => by
    cases y <;> simp [PySem.W.alike] at h
    exact ⟨rfl, by simpa [PySem.W.keyToks] using e⟩
  | .bool a, y, l, m, h, e => by
    cases y <;> simp [PySem.W.alike] at h
    next b =>
      simp only [PySem.W.keyToks, List.cons_append, List.nil_append, List.cons.injEq, Sum.inl.injEq] at e
      cases a <;> cases b <;> simp_all
  | .int a, y, l, m, h, e => by
    cases y <;> simp [PySem.W.alike] at h
    simp only [PySem.W.keyToks, List.cons_append, List.nil_append, List.cons.injEq, Sum.inl.injEq] at e
    exact ⟨by rw [e.1], e.2⟩
  | .str a, y, l, m, h, e => by
    cases y <;> simp [PySem.W.alike] at h
    simp only [PySem.W.keyToks, List.cons_append, List.nil_append, List.cons.injEq, Sum.inr.injEq] at e
    exact ⟨by rw [PySem.W.str_of_cps e.1], e.2⟩
  | .list xs, y, l, m, h, e => by
    cases y <;> simp [PySem.W.alike] at h
    simp only [PySem.W.keyToks] at e
    obtain ⟨a, b⟩ := toksAll_inj xs _ l m h e
    exact ⟨by rw [a], b⟩
  | .tuple xs, y, l, m, h, e => by
    cases y <;> simp [PySem.W.alike] at h
    simp only [PySem.W.keyToks] at e
    obtain ⟨a, b⟩ := toksAll_inj xs _ l m h e
    exact ⟨by rw [a], b⟩
  | .dict _, y, l, m, h, e => by
    cases y <;> simp [PySem.W.alike] at h
theorem toksAll_inj : ∀ (xs ys : List D) (l m : List (Int ⊕ List Nat)), PySem.W.alikeAll xs ys = true → PySem.W.keyToksAll xs ++ l = PySem.W.keyToksAll ys ++ m → xs = ys ∧ l = m
  | [], [], l, m, _, e => ⟨rfl, by simpa [PySem.W.keyToksAll] using e⟩
  | [], y :: ys, l, m, _, e => by simp [PySem.W.keyToksAll] at e
  | x :: xs, [], l, m, _, e => by simp [PySem.W.keyToksAll] at e
  | x :: xs, y :: ys, l, m, h, e => by
    obtain ⟨h1, h2⟩ := PySem.W.alike_all_cons h
    simp only [PySem.W.keyToksAll, List.cons_append, List.append_assoc, List.cons.injEq, true_and] at e
    obtain ⟨a, b⟩ := toks_inj x y _ _ h1 e
    obtain ⟨c, d⟩ := toksAll_inj xs ys _ _ h2 b
    exact ⟨by rw [a, c], d⟩
end
theorem dle_anti {x y : D} (h : PySem.W.alike x y = true) (h1 : dle x y) (h2 : dle y x) : x = y :=
  (toks_inj x y [] [] h (by rw [PyProof.Rows.lex_total _ _ h2 h1])).1
theorem isort_uniq {l ds : List D} (al : PySem.W.AllAlike ds) (p : l.Perm ds) (s : l.Pairwise dle) : l = isort ds :=
  List.Perm.eq_of_pairwise (le := dle) (fun a b ha hb h1 h2 => dle_anti (al a (p.mem_iff.mp ha) b ((isort_perm ds).mem_iff.mp hb)) h1 h2) s (isort_pw ds) (p.trans (isort_perm ds).symm)
theorem merge_isort {β : Type} (enc : β → D) (bs : List β) (al : PySem.W.AllAlike (bs.map enc)) : (bs.mergeSort (PySem.W.dataLe false enc)).map enc = isort (bs.map enc) := by
  refine isort_uniq al ((List.mergeSort_perm _ _).map enc) ?_
  refine List.pairwise_map.mpr ((List.pairwise_mergeSort (le := PySem.W.dataLe false enc) (fun a b c h1 h2 => ?_) (fun a b => ?_) bs).imp fun {a b} h => ?_)
  · have h1' : dle (enc a) (enc b) := by simpa [PySem.W.dataLe_eq] using h1
    have h2' : dle (enc b) (enc c) := by simpa [PySem.W.dataLe_eq] using h2
    have := dle_trans h1' h2'
    simpa [PySem.W.dataLe_eq] using this
  · have := dle_total (enc a) (enc b)
    simpa [PySem.W.dataLe_eq] using this
  · simpa [PySem.W.dataLe_eq] using h
/-- data that sorted can sort -/
def isTup1 : D → Bool
  | .tuple (_ :: _) => true
  | _ => false
def isOth : D → Bool
  | .none => false
  | .tuple _ => false
  | _ => true
def sortOk (ds : List D) : Bool := (ds.all fun x => ds.all fun y => PySem.W.alike x y) && (ds.all isTup1 || ds.all isOth) && PyData.plainAll ds && decide (ds.length ≤ big) && ds.all fun d => decide (d.depth ≤ 60)
theorem sortOk_parts {ds : List D} (h : sortOk ds = true) : PySem.W.AllAlike ds ∧ PySem.W.Sortable ds ∧ PyData.plainAll ds = true ∧ ds.length ≤ big ∧ ∀ d ∈ ds, d.depth ≤ 60 := by
  unfold sortOk at h
  simp only [Bool.and_eq_true, Bool.or_eq_true, decide_eq_true_eq] at h
  obtain ⟨⟨⟨⟨h1, h2⟩, h3⟩, h4⟩, h5⟩ := h
  refine ⟨fun d hd e he => List.all_eq_true.mp (List.all_eq_true.mp h1 d hd) e he, ?_, h3, h4, fun d hd => by simpa using List.all_eq_true.mp h5 d hd⟩
  rcases h2 with h2 | h2
  · refine .inl fun d hd => ?_
    have q := List.all_eq_true.mp h2 d hd
    unfold isTup1 at q
    split at q
    · exact ⟨_, _, rfl⟩
    · cases q
  · refine .inr fun d hd => ?_
    have q := List.all_eq_true.mp h2 d hd
    unfold isOth at q
    split at q <;> first | cases q | exact ⟨by rintro rfl; contradiction, by rintro xs rfl; contradiction⟩ | skip
    next a b => exact ⟨fun e => a e, fun xs e => b xs e⟩
def sortF : List D → Option D
  | [.list ds] => if sortOk ds = true then some (.list (isort ds)) else none
  | _ => none
def rSortD (K : PySem.W.Frag) : List V → Hp → VK → Prop := fun vs H Q => ∃ (a : Addr) (xs : List V) (ds : List D), vs = [V.ref a] ∧ SqL K H a xs ∧ DpAll K H xs ds ∧ sortOk ds = true ∧
  ∀ p ys (bs : List (V × D)), bs.Perm (xs.zip ds) → bs.map (·.2) = isort ds → ys = bs.map (·.1) → H p = none → Q (.ref p) (upd H p (.lst ys))
theorem vals_zip : ∀ {xs : List V} {its : List Value} (ds : List D), Vals xs its → ds.length = xs.length → PySem.W.EachIs (fun (u : Value) (b : V × D) => RelV b.1 u) its (xs.zip ds)
  | [], its, ds, r, h => by
    cases r
    cases ds with
    | nil => exact .nil
    | cons => simp at h
  | x :: xs, its, ds, r, h => by
    cases r with
    | cons r1 r2 =>
      cases ds with
      | nil => simp at h
      | cons d ds => exact .cons r1 (vals_zip ds r2 (by simpa using h))
theorem each_vals : ∀ {its : List Value} {bs : List (V × D)}, PySem.W.EachIs (fun (u : Value) (b : V × D) => RelV b.1 u) its bs → Vals (bs.map (·.1)) its
  | _, _, .nil => .nil
  | _, _, .cons h t => .cons h (each_vals t)
theorem dpAll_len {K : PySem.W.Frag} {H : Hp} : ∀ {vs : List V} {ds : List D}, DpAll K H vs ds → ds.length = vs.length
  | _, _, .nil => rfl
  | _, _, .cons _ t => by simp [dpAll_len t]
theorem reads_zip {X : Cx} {pins : List (Addr × Obj)} {s : Shared} {σ : L2.St} {H : Hp} (I : Inv X pins σ H s) : ∀ {xs : List V} {its : List Value} {ds : List D}, Vals xs its → DpAll X.K H xs ds → PySem.W.EachIs (fun (u : Value) (b : V × D) => ∃ as, Reads s.heap u b.2 as) its (xs.zip ds)
  | [], its, ds, r, h => by
    cases r
    cases h
    exact .nil
  | x :: xs, its, ds, r, h => by
    cases r with
    | cons r1 r2 =>
      cases h with
      | cons h1 h2 => exact .cons (Dp.reads I _ _ _ h1 r1) (reads_zip I r2 h2)
theorem call_sortD {X : Cx} (hu : X.A.units + 64 < cLine) : CallR X (.builtin "sorted") (rSortD X.K) := by
  intro pins s σ H vs us Q I r h
  obtain ⟨a, xs, ds, rfl, hs, hd, ok, q⟩ := h
  obtain ⟨al, so, pl, le, dp⟩ := sortOk_parts ok
  obtain ⟨its, rv, hl, hz⟩ := I.list hs
  obtain ⟨u, rfl, ru⟩ := vals1 r
  obtain rfl : u = Value.ref a := ru
  have hlen := dpAll_len hd
  have e2 : (xs.zip ds).map (·.2) = ds := List.map_snd_zip (by omega)
  refine PySem.W.sorted_data (enc := fun b : V × D => b.2) (R := fun u b => RelV b.1 u) (bs := xs.zip ds) hl.isList (vals_zip ds rv hlen) (reads_zip I rv hd) (by rw [e2]; exact al) (by rw [e2]; exact so) (by rw [List.length_zip]; omega) (fun b hb => ?_) fun out ho eo => ?_
  · have := dp b.2 (List.of_mem_zip (a := b.1) (b := b.2) hb).2
    omega
  · obtain ⟨n, hn⟩ := PyProof.Rows.sortedAll_at s.heap its out.toArray
    have v := each_vals eo
    have pm : ((xs.zip ds).mergeSort (PySem.W.dataLe false fun b : V × D => b.2)).Perm (xs.zip ds) := List.mergeSort_perm _ _
    have me := merge_isort (fun b : V × D => b.2) (xs.zip ds) (by rw [e2]; exact al)
    rw [e2] at me
    refine ⟨.ref (s.heap.objs.size + 1), upd H (s.heap.objs.size + 1) (.lst _), I.laid (t' := s.toks) (fun b o e => PyProof.Rows.sortedAll_old e) (Nat.le_succ _) ⟨?_, out, n, v, hn⟩, rfl, q _ _ _ pm me rfl (I.hok.fresh (Nat.le_succ _))⟩
    rw [List.length_map, pm.length_eq, List.length_zip]
    omega
theorem den_zip {F : Hp} : ∀ {ds : List D} {vs : List V}, DenL F ds vs → ∀ b ∈ vs.zip ds, Den F b.2 b.1
  | [], _, h, b, hb => by cases h; simp at hb
  | d :: ds, _, ⟨v, r, e, h, l⟩, b, hb => by
    subst e
    rw [List.zip_cons_cons] at hb
    rcases List.mem_cons.mp hb with rfl | hb
    · exact h
    · exact den_zip l b hb
theorem den_of_pairs {F : Hp} : ∀ {bs : List (V × D)}, (∀ b ∈ bs, Den F b.2 b.1) → DenL F (bs.map (·.2)) (bs.map (·.1))
  | [], _ => rfl
  | b :: bs, h => ⟨b.1, _, rfl, h b (List.mem_cons_self ..), den_of_pairs fun c hc => h c (List.mem_cons_of_mem _ hc)⟩
theorem okF_sort {K : PySem.W.Frag} : CallOkF (rSortD K) sortF := by
  intro F H vs ds z Q s hn hf q
  unfold sortF at hf
  split at hf
  · next es =>
    split at hf
    · next ok =>
      cases hf
      obtain ⟨v0, r0, rfl, h1, h2⟩ := hn
      cases h2
      obtain ⟨a, ws, rfl, e, l⟩ := h1.lst s
      obtain ⟨al, so, pl, le, dp⟩ := sortOk_parts ok
      refine ⟨a, ws, es, rfl, SqL.of e, DenL.dp s pl l, ok, fun p ys bs pm me ey hp => ?_⟩
      subst ey
      refine q p _ hp ?_
      show DenL F (isort es) (bs.map (·.1))
      rw [← me]
      exact den_of_pairs fun b hb => den_zip l b (pm.mem_iff.mp hb)
    · cases hf
  · cases hf
section
variable {X : Cx} {B : Bd} {EX : Str → Hp → Prop} {e : Expr} {es : List Expr} {pos : Pos} {tl : TA} {rl : M (List TV)} {x : Str} {p : Pos}
theorem jf_cb {id : String} {r : List V → Hp → VK → Prop} {f : List D → Option D} (hc : CallR X (.builtin id) r) (hk : CallOkF r f) (hv : bootBuiltins x = some (.builtin id)) (hm : X.mg x = none) (ha : JAR X B EX (e :: es) tl rl) (hg : Gl X x := by rfl) (hn : x ≠ "__name__" := by decide) (hdb : (x == ("__debug__" : Str)) = false := by decide)
    (he : starEach (e :: es) X.env = (false, eval e X.env) :: starEach es X.env := by rfl) (hpl : (backTo pos (starEach es X.env)).any (·.1) = false := by rfl) : JF X B EX (.Call (.Name x p) (e :: es) [] pos) (tCB r tl) (mCB f rl) := ⟨pe_callB hc hg hm hv ha.p hn hdb he hpl, evf_cb hk ha.v⟩
theorem cK_sort {K : PySem.W.Frag} (hK : X.K = K) (hu : X.A.units + 64 < cLine) : CallR X (.builtin "sorted") (rSortD K) := by subst hK; exact call_sortD hu
end
/-! ### max of three -/
def max3F : List D → Option D
  | [.int i, .int j, .int k] => some (.int (if (if j > i then j else i) < k then k else (if j > i then j else i)))
  | _ => none
def min3F : List D → Option D
  | [.int i, .int j, .int k] => some (.int (if k < (if j < i then j else i) then k else (if j < i then j else i)))
  | _ => none
theorem nuMax2_int (i j : Int) : nuMax2 (.int i) (.int j) = some (.int (if j > i then j else i)) := by
  show some (if decide (i < j) = true then V.int j else V.int i) = _
  by_cases h : i < j <;> simp [h]
theorem nuMin2_int (i j : Int) : nuMin2 (.int i) (.int j) = some (.int (if j < i then j else i)) := by
  show some (if decide (j < i) = true then V.int j else V.int i) = _
  by_cases h : j < i <;> simp [h]
theorem ok_max3 : CallOk (rNuC3 nuMax3) max3F := by
  intro F H vs ds z Q s hn hf q
  unfold max3F at hf
  split at hf
  · cases hf
    obtain ⟨v0, r0, rfl, h1, v1, r1, rfl, h2, v2, r2, rfl, h3, h4⟩ := hn
    cases h4
    rw [h1.int, h2.int, h3.int]
    refine ⟨_, _, _, _, rfl, ?_, q _ F H (Ext.refl s) rfl⟩
    unfold nuMax3
    rw [nuMax2_int]
    exact nuMax2_int _ _
  · cases hf
theorem ok_min3 : CallOk (rNuC3 nuMin3) min3F := by
  intro F H vs ds z Q s hn hf q
  unfold min3F at hf
  split at hf
  · cases hf
    obtain ⟨v0, r0, rfl, h1, v1, r1, rfl, h2, v2, r2, rfl, h3, h4⟩ := hn
    cases h4
    rw [h1.int, h2.int, h3.int]
    refine ⟨_, _, _, _, rfl, ?_, q _ F H (Ext.refl s) rfl⟩
    unfold nuMin3
    rw [nuMin2_int]
    exact nuMin2_int _ _
  · cases hf
end Rn
end

section
set_option Elab.async false
set_option linter.all false
set_option autoImplicit false
set_option maxRecDepth 100000
/-! Core10: dicts in statements, fresh results, lists lent to a call. -/
namespace Rn
open PySem PySem.Spec L2

/-- an object laid on the way, not frozen, is written -/
theorem Stp.poke {B : Bd} {F H F' H' : Hp} {σ : L2.St} {ρ ρ' : Rho} (x : Stp B F H σ ρ F' H' ρ') (m : Mt B F H σ ρ) {p : Addr} (hp : H p = none) (fp : F' p = none) (la : ∀ y, H' p = some y → LD y) (o : HO) : Stp B F H σ ρ F' (upd H' p o) ρ' := by
  have b0 : B.H0 p = none := m.dom _ hp
  have np : ¬ Owns σ ρ' p := fun z => m.noOwn hp (x.own _ z)
  have ne : ∀ b u, F' b = some u → b ≠ p := fun b u z w => by subst w; rw [fp] at z; cases z
  refine ⟨⟨fun b u z => by rw [upd_ne (ne b u z)]; exact x.mt.sub _ _ z, x.mt.old, x.mt.new, fun b u z w t => ?_, fun b z => ?_, x.mt.len, fun j vv c g1 g2 => ?_, x.mt.apart, tabs_but x.mt.tabs (a := p) (fun b y z w => by rw [upd_ne w]; exact z) la, x.mt.ntab⟩, x.old, x.new, fun b u z w t => ?_, fun b z => ?_, x.own, x.kind⟩
  · have hb : b ≠ p := fun w' => by subst w'; rw [b0] at z; cases z
    rw [upd_ne hb]; exact x.mt.frm b u z w t
  · by_cases hb : b = p
    · subst hb; exact b0
    · rw [upd_ne hb] at z; exact x.mt.dom b z
  · have g := x.mt.cell j vv c g1 g2
    cases c with
    | no => trivial
    | fz d => exact g
    | ow d =>
      obtain ⟨b, o, k1, k2, k3, k4, k5⟩ := g
      have hb : b ≠ p := fun w' => np ⟨j, _, by rw [g1, k1, w'], g2, rfl⟩
      exact ⟨b, o, k1, by rw [upd_ne hb]; exact k2, k3, k4, k5⟩
    | va d => exact g
    | bw d =>
      obtain ⟨b, o, k1, k2, k3, k4, k5⟩ := g
      have hb : b ≠ p := fun w' => np ⟨j, _, by rw [g1, k1, w'], g2, rfl⟩
      exact ⟨b, o, k1, by rw [upd_ne hb]; exact k2, k3, k4, k5⟩
  · have hb : b ≠ p := fun w' => by subst w'; rw [hp] at z; cases z
    rw [upd_ne hb]; exact x.frm b u z w t
  · by_cases hb : b = p
    · subst hb; exact hp
    · rw [upd_ne hb] at z; exact x.dom b z
/-- .. and frozen -/
theorem Stp.pokeF {B : Bd} {F H F' H' : Hp} {σ : L2.St} {ρ ρ' : Rho} (x : Stp B F H σ ρ F' H' ρ') (m : Mt B F H σ ρ) {p : Addr} (hp : H p = none) (fp : F' p = none) (la : ∀ y, H' p = some y → LD y) (o : HO) : Stp B F H σ ρ (upd F' p o) (upd H' p o) ρ' :=
  Stp.freeze0 m (x.poke m hp fp la o) upd_same fp hp
/-! ### {k: v} -/
def mDisp1 (fk fv : M D) : M D := bnd fk fun k => bnd fv fun v => fun ρ => match keyOf k with
  | some _ => .ok (.dict [(k, v)]) ρ
  | none => .no
theorem evf_disp1 {B : Bd} {EX : Str → Hp → Prop} {tk tv : TE} {fk fv : M D} (hk : Ev B EX VD tk fk) (hv : Ev B EX VD tv fv) : EvF B EX (tDisp [(tk, tv)]) (mDisp1 fk fv) := by
  intro F H σ ρ Q m h p hp
  have x0 := m.ext (Ext.loose m.sub hp (.dK []))
  have np : ¬ Owns σ ρ p := m.noOwn hp
  refine hk F _ σ ρ _ x0.mt ?_
  unfold mDisp1 bnd at h
  cases e : fk ρ with
  | no => rw [e] at h; exact h
  | ex c r => rw [e] at h; exact fun F' H' x => h F' H' (x0.trans x)
  | ok k r =>
    rw [e] at h
    intro y F1 H1 x1 dy
    refine hv F1 H1 σ r _ x1.mt ?_
    simp only at h
    cases e2 : fv r with
    | no => rw [e2] at h; exact h
    | ex c r2 => rw [e2] at h; exact fun F' H' x => h F' H' (x0.trans (x1.trans x))
    | ok v r2 =>
      rw [e2] at h
      intro u F2 H2 x2 du
      simp only at h
      cases e3 : keyOf k with
      | none => simp only [e3] at h; exact h.elim
      | some q =>
        simp only [e3] at h
        have e4 := keyOf_eq e3
        subst e4
        have ey : y = kV q := key_den dy
        subst ey
        have x3 := x0.trans (x1.trans x2)
        have h1 : H1 p = some (.dK []) := x1.frm p _ upd_same np (tabs_at m.tabs (none_tbl hp))
        have np1 : ¬ Owns σ r p := fun z => np (x1.own _ z)
        have h2 : H2 p = some (.dK []) := x2.frm p _ h1 np1 (tabs_at m.tabs (none_tbl hp))
        have fp : F2 p = none := by
          cases w : F2 p with
          | none => rfl
          | some o =>
            rcases (x1.trans x2).new p o w with z | z | z
            · rw [m.sub.free hp] at z; cases z
            · rw [upd_same] at z; cases z
            · exact (np z).elim
        refine ⟨h2, [(q, u)], rfl, by simp, ?_⟩
        exact h (.ref p) F2 _ (x3.poke m hp fp (fun y z => by rw [h2] at z; cases z; exact .inr ⟨_, rfl⟩) _) ⟨p, _, rfl, upd_same, ⟨q, u, [], rfl, rfl, du, rfl⟩, fp, hp⟩
/-! ### d[k] = v -/
def putDC (ρ : Rho) (i : Nat) (k d : D) : Option Rho := match cellD ρ[i]? with
  | some (.dict ds) => (match keyOf k with
    | some _ => if ds.length ≤ big then putCell ρ i (.dict (putD ds k d)) else none
    | none => none)
  | _ => none
def sPutItem (i : Nat) (fe fk : M D) : S := sBind fe fun d => fun ρ => match cellD ρ[i]? with
  | some _ => sBind fk (fun k => fun ρ => match putDC ρ i k d with
      | some r => .nx r
      | none => .no) ρ
  | none => .no
theorem big_lt {n : Nat} (h : n ≤ big) : n < sizeLine := Nat.lt_of_le_of_lt h (by decide)
theorem es_putitem {B : Bd} {EX : Str → Hp → Prop} {i : Nat} {te tk : TE} {fe fk : M D} (he : Ev B EX VD te fe) (hk : Ev B EX VD tk fk) : EvS B EX (tAsg te (gSub (tVar i) tk rSetD)) (sPutItem i fe fk) := by
  refine es_bind (tb := fun x E σ H => gSub (tVar i) tk rSetD x σ H E.nx) he fun d y F H σ ρ E m dy q => ?_
  cases e0 : cellD ρ[i]? with
  | none => simp only [e0] at q; exact q.elim
  | some d0 =>
    simp only [e0] at q
    obtain ⟨v, hv1, hv2⟩ := slot_at m e0
    refine ⟨v, hv1, ?_⟩
    refine hk F H σ ρ _ m ?_
    unfold sBind at q
    cases e : fk ρ with
    | ex c r => rw [e] at q; exact fun F' H' x => q σ F' H' x.mt
    | no => rw [e] at q; exact q
    | ok kd r =>
      rw [e] at q
      simp only at q
      intro w F1 H1 x1 dw
      unfold putDC at q
      cases e2 : cellD r[i]? with
      | none => simp only [e2] at q; exact q.elim
      | some d2 =>
        simp only [e2] at q
        cases d2 with
        | dict ds =>
          simp only at q
          cases e5 : keyOf kd with
          | none => simp only [e5] at q; exact q.elim
          | some k =>
            simp only [e5] at q
            have e6 := keyOf_eq e5
            subst e6
            have ew : w = kV k := key_den dw
            subst ew
            by_cases hl : ds.length ≤ big
            · rw [if_pos hl] at q
              cases e3 : putCell r i (.dict (putD ds (keyD k) d)) with
              | none => simp only [e3] at q; exact q.elim
              | some r2 =>
                simp only [e3] at q
                obtain ⟨a, o, e', k1, k2, k3, k4, k5⟩ := x1.mt.putCell e3
                rw [hv1] at k1
                cases k1
                rw [e2] at k2
                cases k2
                obtain ⟨vs, rfl, l⟩ := k4.dic
                refine ⟨a, _, rfl, DPut.k k3 (big_lt (by rw [← l.len]; exact hl)), ?_⟩
                have st := k5 (.dK (putK vs k y)) (l.put (dy.mono x1.old))
                exact q σ F1 _ st.mt (x1.old.trans st.old)
            · rw [if_neg hl] at q; exact q.elim
        | none => exact q.elim
        | bool _ => exact q.elim
        | int _ => exact q.elim
        | str _ => exact q.elim
        | tuple _ => exact q.elim
        | list _ => exact q.elim
/-! ### for k in a fresh dict -/
def iKeysF (td : TE) : TI := fun σ H R => td σ H fun x H1 => ∃ d kvs, x = .ref d ∧ H1 d = some (.dK kvs) ∧ ∀ od, R (Itk d od kvs) (upd H1 d (.frz od (.dK kvs)))
theorem pi_keysF {X : Cx} {tg e : Expr} {td : TE} (he : PE X e td) : PI X tg e (iKeysF td) := by
  refine ⟨fun pins s σ H R I h => ?_⟩
  refine thn (he.run pins s σ H _ I h) fun u s1 ⟨x, H1, I1, rx, d, kvs, ex, hd, q⟩ => ?_
  subst ex
  obtain rfl : u = Value.ref d := rx
  obtain ⟨od, I2⟩ := I1.lock hd trivial
  obtain ⟨hs, hgd, hx, es, ep, vs, hdt, hsz, kv, hm⟩ := I2.frzK upd_same
  refine iter_keys hs hgd hx hdt (pi_one (tk := s1.toks) I2 _ (turn_keys _ hdt) ⟨_, Heap.get?_push_size _ rfl, rfl, ?_⟩ (q od))
  rw [hsz] <;> rfl
def mKeysI (f : M D) : M (List D) := bnd f fun d => fun ρ => match d with
  | .dict kds => .ok (kds.map (·.1)) ρ
  | _ => .no
theorem DenK.keyAt {F : Hp} : ∀ {kds : List (D × D)} {kvs : List (Key × V)} {i : Nat} {k : Key} {v : V}, DenK F kds kvs → kvs[i]? = some (k, v) → (kds.map (·.1))[i]? = some (keyD k)
  | [], _, _, _, _, h, e => by cases h; simp at e
  | (c, d) :: _, _, 0, _, _, ⟨q, u, t, z, hq, h, l⟩, e => by subst z; simp at e; obtain ⟨rfl, rfl⟩ := e; simp [hq]
  | (c, d) :: _, _, i + 1, _, _, ⟨q, u, t, z, hq, h, l⟩, e => by
    subst z
    have := DenK.keyAt (i := i) l (by simpa using e)
    simpa using this
theorem itok_keys {F : Hp} {a : Addr} {od : Obj} {kvs : List (Key × V)} {kds : List (D × D)} (h : F a = some (.frz od (.dK kvs))) (l : DenK F kds kvs) : ItOk F (Itk a od kvs) (kds.map (·.1)) := by
  intro F1 H1 s1 s2
  have e : H1 a = some (.frz od (.dK kvs)) := s2 _ _ (s1 _ _ h)
  have hl := l.len
  refine ⟨fun i hi => ⟨e, by rw [List.length_map] at hi; omega⟩, fun i hi => ⟨e, by rw [List.length_map] at hi; omega⟩, fun i x H2 hi q => ?_⟩
  obtain ⟨rfl, k, v, e1, rfl⟩ := q
  exact ⟨keyD k, F1, l.keyAt e1, Ext.refl s2, den_key F1 k⟩
theorem evi_keysF {B : Bd} {EX : Str → Hp → Prop} {td : TE} {f : M D} (h : EvF B EX td f) : Ev B EX VI (iKeysF td) (mKeysI f) := by
  intro F H σ ρ Q m q
  refine h F H σ ρ _ m ?_
  unfold mKeysI bnd at q
  cases e : f ρ with
  | no => rw [e] at q; exact q
  | ex c r => rw [e] at q; exact q
  | ok d r =>
    rw [e] at q
    rintro v F' H' x ⟨a, o, rfl, h1, h2, h3, h4⟩
    simp only at q
    cases d with
    | dict kds =>
      simp only at q
      obtain ⟨kvs, rfl, l⟩ := h2.dic
      refine ⟨a, kvs, rfl, h1, fun od => ?_⟩
      have st := x.pokeF m h4 h3 (fun y z => by rw [h1] at z; cases z; exact h2.ld) (.frz od (.dK kvs))
      exact q _ _ _ st (itok_keys upd_same (l.mono (same_upd h3)))
    | none => exact q.elim
    | bool _ => exact q.elim
    | int _ => exact q.elim
    | str _ => exact q.elim
    | tuple _ => exact q.elim
    | list _ => exact q.elim
/-! ### a list lent to a call -/
inductive RB where
  | ok (d d1 : D)
  | ex (c : Str) (d1 : D)
  | no
structure XB (F H : Hp) (a : Addr) (F' H' : Hp) : Prop where
  same : ∀ b x, b ≠ a → H b = some x → H' b = some x
  old : Same F F'
  sub : Same F' H'
  new : ∀ b x, F' b = some x → F b = some x ∨ H b = none
def spB (C : Str → Addr) (g : D → List D → RB) : Sp := fun vs H Q E => ∃ (F : Hp) (a : Addr) (o : HO) (d0 : D) (ds : List D) (ws : List V), vs = .ref a :: ws ∧ Same F H ∧ F a = none ∧ H a = some o ∧ Shal F d0 o ∧ DenL F ds ws ∧ (match g d0 ds with
  | .ok d d1 => ∀ v F' H' o', XB F H a F' H' → H' a = some o' → Shal F' d1 o' → F' a = none → Den F' d v → Q v H'
  | .ex c d1 => ∀ F' H' o', XB F H a F' H' → H' a = some o' → Shal F' d1 o' → F' a = none → E (.ref (C c)) none H'
  | .no => False)
def bwOf (ρ : Rho) : Option D := match ρ[(0 : Nat)]? with
  | some (.bw d) => some d
  | _ => none
def finB : Out → RB
  | .nx ρ => (match bwOf ρ with
    | some d1 => .ok .none d1
    | none => .no)
  | .rt d ρ => (match bwOf ρ with
    | some d1 => .ok d d1
    | none => .no)
  | .ex c ρ => (match bwOf ρ with
    | some d1 => .ex c d1
    | none => .no)
  | _ => .no
def callB (np n : Nat) (body : S) (d0 : D) (ds : List D) : RB := if ds.length + 1 = np then finB (body (Cell.bw d0 :: startR (n - 1) ds)) else .no
theorem spB_len {C : Str → Addr} {np n : Nat} {body : S} {vs : List V} {H : Hp} {Q : VK} {E : XK} (h : spB C (callB np n body) vs H Q E) : vs.length = np := by
  obtain ⟨F, a, o, d0, ds, ws, rfl, s, fa, ha, sh, l, q⟩ := h
  unfold callB at q
  by_cases e : ds.length + 1 = np
  · rw [List.length_cons, ← l.len]; exact e
  · simp only [if_neg e] at q
theorem start_consR {n : Nat} {ds : List D} : ∀ (j : Nat) (c : Cell), (startR n ds)[j]? = some c → c.own = true → False := fun j c e o => by
  have q := List.mem_of_getElem? e
  unfold startR at q
  rcases List.mem_append.mp q with q | q
  · obtain ⟨d, _, rfl⟩ := List.mem_map.mp q
    cases o
  · rw [(List.mem_replicate.mp q).2] at o; cases o
theorem start_mtB {F H : Hp} {a : Addr} {o : HO} {d0 : D} {ds : List D} {ws : List V} {y : Str} {N : List Str} (s : Same F H) (fa : F a = none) (ha : H a = some o) (sh : Shal F d0 o) (l : DenL F ds ws) :
    Mt ⟨H, F, [a], [], []⟩ F H (L2.start (y :: N) (.ref a :: ws)) (Cell.bw d0 :: startR N.length ds) := by
  have m0 := start_mt (N := N) s l
  have es : L2.start (y :: N) (.ref a :: ws) = some (.ref a) :: L2.start N ws := by
    simp [L2.start]
  rw [es]
  refine ⟨s, Same.refl _, fun _ _ e => .inl e, fun _ _ e _ _ => e, fun _ e => e, by simp [m0.len], fun j v c h1 h2 => ?_, fun j k b c c' h1 h2 h3 h4 h5 h6 => ?_, fun _ z => (nomatch z), fun _ z => (nomatch z)⟩
  · cases j with
    | zero => simp at h1 h2; subst h1; subst h2; exact ⟨a, o, rfl, ha, sh, fa, by simp⟩
    | succ j =>
      rw [List.getElem?_cons_succ] at h1 h2
      have g := m0.cell j v c h1 h2
      cases c with
      | no => trivial
      | fz d => exact g
      | ow d => exact (start_consR j _ h2 rfl).elim
      | va d => exact g
      | bw d => exact (start_consR j _ h2 rfl).elim
  · cases j with
    | succ j => rw [List.getElem?_cons_succ] at h3; exact (start_consR j _ h3 h5).elim
    | zero => cases k with
      | zero => rfl
      | succ k => rw [List.getElem?_cons_succ] at h4; exact (start_consR k _ h4 h6).elim
theorem mt_xb {F H F' H' : Hp} {a : Addr} {σ' : L2.St} {ρ' : Rho} {d1 : D} (m : Mt ⟨H, F, [a], [], []⟩ F' H' σ' ρ') (e : bwOf ρ' = some d1) : XB F H a F' H' ∧ F' a = none ∧ ∃ o', H' a = some o' ∧ Shal F' d1 o' := by
  unfold bwOf at e
  split at e
  · next d hd =>
    cases e
    have hl : 0 < σ'.length := by rw [← m.len]; exact (List.getElem?_eq_some_iff.mp hd).1
    obtain ⟨b, o, k1, k2, k3, k4, k5⟩ := m.cell 0 _ _ (List.getElem?_eq_getElem hl) hd
    have eb : b = a := by simpa using k5
    subst eb
    exact ⟨⟨fun b x hb z => m.frm b x z (by simpa using hb) (fun _ z => (nomatch z)), m.old, m.sub, m.new⟩, k4, o, k2, k3⟩
  · cases e
theorem body_okB {C : Str → Addr} {np : Nat} {body : S} {y : Str} {N : List Str} {vs : List V} {H : Hp} {Q : VK} {E : XK} {t : TS} (h : spB C (callB np (y :: N).length body) vs H Q E)
    (ev : ∀ F a, EvS ⟨H, F, [a], [], []⟩ (fun c H' => E (.ref (C c)) none H') t body) : t { nx := fun _ H' => Q .non H', rt := Q } (L2.start (y :: N) vs) H := by
  obtain ⟨F, a, o, d0, ds, ws, rfl, s, fa, ha, sh, l, q⟩ := h
  unfold callB at q
  by_cases e : ds.length + 1 = np
  · simp only [if_pos e] at q
    refine ev F a F H _ (Cell.bw d0 :: startR N.length ds) _ (start_mtB s fa ha sh l) ?_
    rw [List.length_cons, Nat.add_sub_cancel] at q
    cases e2 : body (Cell.bw d0 :: startR N.length ds) with
    | nx r =>
      rw [e2] at q
      intro σ' F' H' m _
      simp only [finB] at q
      cases e3 : bwOf r with
      | none => rw [e3] at q; exact q.elim
      | some d1 =>
        rw [e3] at q
        obtain ⟨k1, k2, o', k3, k4⟩ := mt_xb m e3
        exact q .non F' H' o' k1 k3 k4 k2 rfl
    | rt d r =>
      rw [e2] at q
      intro v σ' F' H' m _ dv
      simp only [finB] at q
      cases e3 : bwOf r with
      | none => rw [e3] at q; exact q.elim
      | some d1 =>
        rw [e3] at q
        obtain ⟨k1, k2, o', k3, k4⟩ := mt_xb m e3
        exact q v F' H' o' k1 k3 k4 k2 dv
    | ex c r =>
      rw [e2] at q
      intro σ' F' H' m
      simp only [finB] at q
      cases e3 : bwOf r with
      | none => rw [e3] at q; exact q.elim
      | some d1 =>
        rw [e3] at q
        obtain ⟨k1, k2, o', k3, k4⟩ := mt_xb m e3
        exact q F' H' o' k1 k3 k4 k2
    | rf d r => rw [e2] at q; exact q.elim
    | bk r => rw [e2] at q; exact q.elim
    | ct r => rw [e2] at q; exact q.elim
    | no => rw [e2] at q; exact q.elim
  · simp only [if_neg e] at q
def mCallB (g : D → List D → RB) (i : Nat) (fa : M (List D)) : M D := fun ρ => match cellD ρ[i]? with
  | some _ => bnd fa (fun ds => fun ρ => match cellD ρ[i]? with
    | some d0 => (match g d0 ds with
      | .ok d d1 => (match putCell ρ i d1 with
        | some r => .ok d r
        | none => .no)
      | .ex c d1 => (match putCell ρ i d1 with
        | some r => .ex c r
        | none => .no)
      | .no => .no)
    | none => .no) ρ
  | none => .no
/-- a promise that tells of no raising -/
def noEx (g : D → List D → RB) (d : D) (ds : List D) : RB := match g d ds with
  | .ok d d1 => .ok d d1
  | _ => .no
theorem noEx_ne {g : D → List D → RB} {d : D} {ds : List D} {c : Str} {d1 : D} : noEx g d ds ≠ .ex c d1 := by
  unfold noEx
  split <;> simp
theorem spB_noEx {C : Str → Addr} {g : D → List D → RB} {vs : List V} {H : Hp} {Q : VK} {E : XK} (h : spB C (noEx g) vs H Q E) : spB C g vs H Q E := by
  obtain ⟨F, a, o, d0, ds, ws, e, s, fa, ha, sh, l, q⟩ := h
  refine ⟨F, a, o, d0, ds, ws, e, s, fa, ha, sh, l, ?_⟩
  unfold noEx at q
  cases e2 : g d0 ds with
  | ok d d1 => simp only [e2] at q; exact q
  | ex c d1 => simp only [e2] at q
  | no => simp only [e2] at q
theorem XB.stp {B : Bd} {F H F' H' : Hp} {σ : L2.St} {ρ ρ' : Rho} {i : Nat} {a : Addr} {d1 : D} {o' : HO} (m : Mt B F H σ ρ) (x : XB F H a F' H') (ha : σ[i]? = some (some (.ref a))) (hp : putCell ρ i d1 = some ρ') (h1 : H' a = some o') (h2 : Shal F' d1 o') (h3 : F' a = none) : Stp B F H σ ρ F' H' ρ' := by
  obtain ⟨b, o, e, k1, k2, k3, k4, k5⟩ := m.putCell hp
  rw [ha] at k1
  cases k1
  have ex : Ext F H F' (upd H' a o) := by
    refine ⟨fun b u z => ?_, x.old, fun b u z => ?_, x.new⟩
    · by_cases hb : b = a
      · subst hb; rw [upd_same, ← k3]; exact z
      · rw [upd_ne hb]; exact x.same b u hb z
    · have hb : b ≠ a := fun w => by subst w; rw [h3] at z; cases z
      rw [upd_ne hb]; exact x.sub _ _ z
  have st1 := m.ext ex
  obtain ⟨b2, o2, e2, j1, j2, j3, j4, j5⟩ := st1.mt.putCell hp
  rw [ha] at j1
  cases j1
  have st2 := j5 o' h2
  have eh : upd (upd H' a o) a o' = H' := by
    funext b
    by_cases hb : b = a
    · subst hb; rw [upd_same]; exact h1.symm
    · rw [upd_ne hb, upd_ne hb]
  rw [eh] at st2
  exact st1.trans st2
theorem ev_callB {B : Bd} {EX : Str → Hp → Prop} {C : Str → Addr} {g : D → List D → RB} {i : Nat} {E : XK} {ta : TA} {fa : M (List D)} (hE : ∀ d ds c d1, g d ds = .ex c d1 → ∀ H, EX c H → E (.ref (C c)) none H) (ha : Ev B EX VL ta fa) : Ev B EX VD (tCall (spB C g) [] E (tCons (tVar i) ta)) (mCallB g i fa) := by
  intro F H σ ρ Q m q
  unfold mCallB at q
  cases e0 : cellD ρ[i]? with
  | none => rw [e0] at q; exact q.elim
  | some d =>
    rw [e0] at q
    simp only at q
    obtain ⟨v, hv, _⟩ := slot_at m e0
    refine ⟨v, hv, ?_⟩
    refine ha F H σ ρ _ m ?_
    unfold bnd at q
    cases e : fa ρ with
    | no => rw [e] at q; exact q
    | ex c r => rw [e] at q; exact q
    | ok ds r =>
      rw [e] at q
      intro ws F1 H1 x1 l
      simp only at q
      cases e1 : cellD r[i]? with
      | none => rw [e1] at q; exact q.elim
      | some d0 =>
        rw [e1] at q
        simp only at q
        rw [List.append_nil]
        cases e2 : g d0 ds with
        | no => rw [e2] at q; exact q.elim
        | ok d2 d1 =>
          rw [e2] at q
          simp only at q
          cases e3 : putCell r i d1 with
          | none => rw [e3] at q; exact q.elim
          | some r2 =>
            rw [e3] at q
            simp only at q
            obtain ⟨a, o, e', k1, k2, k3, k4, k5⟩ := x1.mt.putCell e3
            rw [hv] at k1
            cases k1
            rw [e1] at k2
            cases k2
            refine ⟨F1, a, o, d0, ds, ws, rfl, x1.mt.sub, ?_, k3, k4, l, ?_⟩
            · have ow : Owns σ r a := by
                unfold Rn.putCell at e3
                cases e4 : r[i]? with
                | none => rw [e4] at e3; cases e3
                | some c => cases c with
                  | no => rw [e4] at e3; cases e3
                  | fz d => rw [e4] at e3; cases e3
                  | ow d => exact ⟨i, _, hv, e4, rfl⟩
                  | va d => rw [e4] at e3; cases e3
                  | bw d => exact ⟨i, _, hv, e4, rfl⟩
              exact (x1.mt.hasOwn ow).1
            · rw [e2]
              exact fun u F' H' o' x h1 h2 h3 du => q u F' H' (x1.trans (x.stp x1.mt hv e3 h1 h2 h3)) du
        | ex c d1 =>
          rw [e2] at q
          simp only at q
          cases e3 : putCell r i d1 with
          | none => rw [e3] at q; exact q.elim
          | some r2 =>
            rw [e3] at q
            simp only at q
            obtain ⟨a, o, e', k1, k2, k3, k4, k5⟩ := x1.mt.putCell e3
            rw [hv] at k1
            cases k1
            rw [e1] at k2
            cases k2
            refine ⟨F1, a, o, d0, ds, ws, rfl, x1.mt.sub, ?_, k3, k4, l, ?_⟩
            · have ow : Owns σ r a := by
                unfold Rn.putCell at e3
                cases e4 : r[i]? with
                | none => rw [e4] at e3; cases e3
                | some c => cases c with
                  | no => rw [e4] at e3; cases e3
                  | fz d => rw [e4] at e3; cases e3
                  | ow d => exact ⟨i, _, hv, e4, rfl⟩
                  | va d => rw [e4] at e3; cases e3
                  | bw d => exact ⟨i, _, hv, e4, rfl⟩
              exact (x1.mt.hasOwn ow).1
            · rw [e2]
              exact fun F' H' o' x h1 h2 h3 => hE _ _ _ _ e2 H' (q F' H' (x1.trans (x.stp x1.mt hv e3 h1 h2 h3)))
end Rn
end

section
set_option Elab.async false
set_option linter.all false
set_option autoImplicit false
set_option maxRecDepth 100000
/-! Core11: rules for what Core10 brings. -/
namespace Rn
open PySem PySem.Spec L2

section
variable {X : Cx} {B : Bd} {EX : Str → Hp → Prop} {a b c e : Expr} {es : List Expr} {ta tb tc te : TE} {fa fb fc fe : M D} {pos : Pos} {tl : TA} {fl : M (List D)} {x : Str} {p : Pos} {tg : Expr}
theorem jf_disp1 (ha : JE X B EX a ta fa) (hb : JE X B EX b tb fb) : JF X B EX (.Dict [some a] [b] pos) (tDisp [(ta, tb)]) (mDisp1 fa fb) := ⟨pe_disp (pps_cons ha.p hb.p pps_nil) rfl rfl (by simp) (by simp), evf_disp1 ha.v hb.v⟩
theorem ji_keysF (h : JF X B EX e te fe) : JI X B EX tg e (iKeysF te) (mKeysI fe) := ⟨pi_keysF h.p, evi_keysF h.v⟩
theorem js_putitem (i : Nat) {y : Str} {k : Expr} {tk : TE} {fk : M D} {p1 p2 : Pos} (hu : X.A.units + 64 < cLine) (he : JE X B EX e te fe) (hk : JE X B EX k tk fk) (hN : X.N[i]? = some y := by rfl) (hv : Vis X.env.scope y := by first | exact Or.inl rfl | exact Or.inr (Or.inl rfl) | exact Or.inr (Or.inr rfl)) (hd : (y == ("__debug__" : Str)) = false := by decide) (hcd : (y == ("__classdict__" : Str)) = false := by decide)
    (hsub : ∀ v, assign (.Subscript (.Name y p1) k p2) X.env v = (do
      let ov ← holding [v] (eval (.Name y p1) X.env)
      let iv ← holding [v, ov] (eval k X.env)
      standAt p2
      holding [v, ov, iv] (setItem ov iv v)
      release [v, ov, iv] []) := by intro _; rfl)
    (hs : swapsWithSole [.Subscript (.Name y p1) k p2] e pos.line X.env = pure false := by rfl) (hw : swappedStores [.Subscript (.Name y p1) k p2] e X.env = pure none := by rfl)
    (h1 : (assignEach [.Subscript (.Name y p1) k p2] X.env).map (·.2) = [assign (.Subscript (.Name y p1) k p2) X.env] := by rfl) :
    JS X B EX (.Assign [.Subscript (.Name y p1) k p2] e pos) (tAsg te (gSub (tVar i) tk rSetD)) (sPutItem i fe fk) :=
  ⟨ps_asg he.p (pg_sub (pv i hN hv hd hcd) hk.p (set_dict (by omega)) hsub) hs hw h1, es_putitem he.v hk.v⟩
theorem js_retF (i : Nat) {y : Str} {p1 : Pos} (hN : X.N[i]? = some y := by rfl) (hv : Vis X.env.scope y := by first | exact Or.inl rfl | exact Or.inr (Or.inl rfl) | exact Or.inr (Or.inr rfl)) (hd : (y == ("__debug__" : Str)) = false := by decide) (hcd : (y == ("__classdict__" : Str)) = false := by decide) :
    JS X B EX (.Return (some (.Name y p1)) pos) (tRet (tVar i)) (sRetF i) := ⟨ps_ret (pv i hN hv hd hcd), es_retF⟩
theorem jf_call0 {C : Str → Addr} {ps : List Str} {k j : Nat} {g : List D → RR} (d : DefV X.prog X.w X.K X.mg X.base CX0 C x ps k g) (hr : Room j X.A) (ha : JA X B EX (e :: es) tl fl) (hkj : k ≤ j := by decide) (hg : Gl X x := by rfl) (hdb : (x == ("__debug__" : Str)) = false := by decide)
    (he : starEach (e :: es) X.env = (false, eval e X.env) :: starEach es X.env := by rfl) (hpl : (backTo pos (starEach es X.env)).any (·.1) = false := by rfl) : JF X B EX (.Call (.Name x p) (e :: es) [] pos) (tCall (spV C g) [] E0 tl) (mCallF0 g fl) := by
  obtain ⟨f, fd, F, hm, hk, hb⟩ := d
  exact ⟨pe_call F (hr.mono hkj) hg hm hk hb .nil pass0 ha.p hdb he hpl, evf_call0 ha.v⟩
end
/-- a def of the text that is lent its first list -/
def DefB (P : Program) (w : World) (K : PySem.W.Frag) (mg : Str → Option Value) (base : Heap) (CX : CXT) (C : Str → Addr) (x : Str) (ps : List Str) (k : Nat) (g : D → List D → RB) : Prop :=
  ∃ f fd, FnOk P w K mg base CX k f fd ps (spB C g) ∧ mg x = some (.ref f) ∧ PySem.W.keepIn K (.ref f) = true ∧ Binds K fd ps []
section
variable {X : Cx} {B : Bd} {EX : Str → Hp → Prop} {es : List Expr} {pos : Pos} {tl : TA} {fl : M (List D)} {x y : Str} {p p1 : Pos}
theorem je_callB0 (i : Nat) {C : Str → Addr} {ps : List Str} {k j : Nat} {g : D → List D → RB} (d : DefB X.prog X.w X.K X.mg X.base CX0 C x ps k (noEx g)) (hr : Room j X.A) (ha : JA X B EX es tl fl) (hkj : k ≤ j := by decide) (hg : Gl X x := by rfl) (hdb : (x == ("__debug__" : Str)) = false := by decide)
    (hN : X.N[i]? = some y := by rfl) (hv : Vis X.env.scope y := by first | exact Or.inl rfl | exact Or.inr (Or.inl rfl) | exact Or.inr (Or.inr rfl)) (hd : (y == ("__debug__" : Str)) = false := by decide) (hcd : (y == ("__classdict__" : Str)) = false := by decide)
    (he : starEach (.Name y p1 :: es) X.env = (false, eval (.Name y p1) X.env) :: starEach es X.env := by rfl) (hpl : (backTo pos (starEach es X.env)).any (·.1) = false := by rfl) : JE X B EX (.Call (.Name x p) (.Name y p1 :: es) [] pos) (tCall (spB C (noEx g)) [] E0 (tCons (tVar i) tl)) (mCallB (noEx g) i fl) := by
  obtain ⟨f, fd, F, hm, hk, hb⟩ := d
  exact ⟨pe_call F (hr.mono hkj) hg hm hk hb .nil pass0 (pa_cons (pv i hN hv hd hcd) ha.p he) hdb he hpl, ev_callB (fun _ _ _ _ e => (noEx_ne e).elim) ha.v⟩
end
section
variable {P : Program} {w : World} {K : PySem.W.Frag} {mg : Str → Option Value} {base : Heap} {C : Str → Addr}
theorem def_b0 {x y : Str} {st : Stmt} {N ps : List Str} {k : Nat} {body : S} (h : HasF K mg x st ps) (Sc : FnScope (y :: N) ps (defScope st))
    (hb : ∀ (f : Addr) (cdv : Value) (A : Around) (outer : List Env) (s : Shared) (H : Hp) (E : XK), Room k (A.deeper (PyProof.Rows.envOfC x (defScope st) s.heap.objs.size f cdv)) →
      ∃ t, ∀ (B : Bd) (EX : Str → Hp → Prop), JSs (cxOf CX0 P w K mg base (y :: N) x (defScope st) f cdv A outer s H E).nox B EX (defBody st) t body) :
    DefB P w K mg base CX0 C x ps (k + 1) (noEx (callB ps.length (y :: N).length body)) := by
  obtain ⟨f, fd, F, hm, hbd⟩ := h
  refine ⟨f, fd, F.ok Sc (fun vs H Q E h => spB_len (spB_noEx h)) (fun cdv A outer s H vs Q E hr h => ?_), hm, F.kp, hbd⟩
  obtain ⟨t, ht⟩ := hb f cdv A outer s H E hr
  exact ⟨t, PSs.nox (ht ⟨H, H, [], [], []⟩ EX0).p, body_okB (spB_noEx h) fun F a => (ht _ _).v⟩
end
end Rn
end

section
set_option Elab.async false
set_option linter.all false
set_option autoImplicit false
set_option maxRecDepth 100000
/-! Core12: a law's cells and rounds, and its loop over them. -/
namespace Rn
open PySem PySem.Spec L2

theorem sql_same {K : PySem.W.Frag} {H H' : Hp} {a : Addr} {xs : List V} (s : Same H H') (h : SqL K H a xs) : SqL K H' a xs := by
  rcases h with (h | ⟨o, h⟩) | h
  · exact .inl (.inl (s _ _ h))
  · exact .inl (.inr ⟨o, s _ _ h⟩)
  · exact .inr h
theorem dpAll_ints {K : PySem.W.Frag} {H : Hp} : ∀ ns : List Int, DpAll K H (ns.map V.int) (ns.map PyData.int)
  | [] => .nil
  | n :: ns => .cons (.int n) (dpAll_ints ns)
theorem plain_ints : ∀ ns : List Int, PyData.plainAll (ns.map PyData.int) = true
  | [] => rfl
  | n :: ns => by
    show (PyData.plain (.int n) && PyData.plainAll (ns.map PyData.int)) = true
    rw [plain_ints ns]
    rfl
abbrev rMaxI : List V → Hp → VK → Prop := fun xs H Q => ∃ i j, xs = [.int i, .int j] ∧ Q (.int (if j > i then j else i)) H
abbrev rMinI : List V → Hp → VK → Prop := fun xs H Q => ∃ i j, xs = [.int i, .int j] ∧ Q (.int (if j < i then j else i)) H
abbrev rModI : R2 := rI (fun _ j => 0 < j) fun i j => .int (i % j)
abbrev rFdivI : R2 := rI CDivW fun i j => .int (i / j)
abbrev tLenS (K : PySem.W.Frag) : TE := tCB (rLenK K) (tCons (tVar 0) tNil)
/-- _law_cell -/
def tCellS (K : PySem.W.Frag) : TS := tSeq (tIfS (tTest (tOp (rEqP K) (tVar 0) (tLst tNil))) (tRet (tOp (rMulA K) (tVar 1) (tC (.int 7919)))) tNext)
  (tRet (tOp (rAddA K) (tOp (rIx K) (tVar 0) (tOp rModI (tVar 1) (tLenS K))) (tOp (rMulA K) (tOp rFdivI (tVar 1) (tLenS K)) (tC (.int 104729)))))
def spCellS (K : PySem.W.Frag) : Sp := fun vs H Q _ => ∃ (a : Addr) (ns : List Int) (k : Int), vs = [.ref a, .int k] ∧ SqL K H a (ns.map V.int) ∧ ns.length ≤ 63 ∧ 0 ≤ k ∧ ∀ c H', Same H H' → Q (.int c) H'
theorem cell_run {K : PySem.W.Frag} {vs : List V} {H : Hp} {Q : VK} {E : XK} (h : spCellS K vs H Q E) : tCellS K { nx := fun _ H' => Q .non H', rt := Q } (L2.start ["script", "k"] vs) H := by
  obtain ⟨a, ns, k, rfl, hs, hn, hk, q⟩ := h
  refine ⟨.ref a, rfl, by decide, fun p hp => ?_⟩
  have s1 : Same H (upd H p (.lst [])) := same_upd hp
  have hs1 := sql_same s1 hs
  refine ⟨.list (ns.map PyData.int), .list [], .lst hs1 (dpAll_ints ns), .lst (SqL.of upd_same) .nil, ?_, _, rfl, ?_⟩
  · unfold dOk
    rw [show PyData.plain (.list (ns.map PyData.int)) = PyData.plainAll (ns.map PyData.int) from rfl, plain_ints]
    have : (PyData.depth (.list [])) ≤ 64 := by decide
    simp only [Bool.true_and, show PyData.plain (.list []) = true from rfl, decide_eq_true_eq]
    omega
  · have ixs : ns ≠ [] → tRet (tOp (rAddA K) (tOp (rIx K) (tVar 0) (tOp rModI (tVar 1) (tLenS K))) (tOp (rMulA K) (tOp rFdivI (tVar 1) (tLenS K)) (tC (.int 104729)))) { nx := fun _ H' => Q .non H', rt := Q } (L2.start ["script", "k"] [.ref a, .int k]) (upd H p (.lst [])) := by
      intro hne
      have hpos : 0 < ns.length := List.length_pos_iff.mpr hne
      have hl : ((ns.map V.int).length : Int) = (ns.length : Int) := by rw [List.length_map]
      have h63 : (ns.length : Int).natAbs.log2 < 9000 := by
        have e : (ns.length : Int).natAbs = ns.length := by omega
        rw [e]
        exact Nat.lt_of_le_of_lt (Nat.log2_le_self _) (by omega)
      have hm1 := Int.emod_nonneg k (show (ns.length : Int) ≠ 0 by omega)
      have hm2 := Int.emod_lt_of_pos k (show (0 : Int) < ns.length by omega)
      have hj : (k % (ns.length : Int)).toNat < ns.length := by omega
      refine ⟨.ref a, rfl, .int k, rfl, .ref a, rfl, .ref a, (ns.map V.int).length, rfl, .inl ⟨_, hs1, rfl⟩, k, ((ns.map V.int).length : Int), rfl, rfl, by rw [hl]; omega, ?_⟩
      refine .inl ⟨a, ns.map V.int, k % ((ns.map V.int).length : Int), .int (ns[(k % (ns.length : Int)).toNat]), rfl, rfl, hs1, ?_, ?_⟩
      · rw [hl]
        unfold atI ixN
        rw [if_pos hm1]
        rw [List.length_map, if_pos hm2]
        show (ns.map V.int)[(k % (ns.length : Int)).toNat]? = _
        simp [hj]
      · refine ⟨.int k, rfl, .ref a, rfl, .ref a, (ns.map V.int).length, rfl, .inl ⟨_, hs1, rfl⟩, k, ((ns.map V.int).length : Int), rfl, rfl, ⟨by rw [hl]; omega, by rw [hl]; exact h63⟩, ?_⟩
        refine .inl (.inl (.inl ⟨_, 104729, rfl, rfl, .inr ⟨by decide, by decide⟩, ?_⟩))
        exact .inl (.inl (.inl ⟨_, _, rfl, rfl, q _ _ s1⟩))
    cases ns with
    | nil =>
      show if PyData.eqv (.list (([] : List Int).map PyData.int)) (.list []) = true then _ else _
      rw [if_pos (by decide)]
      refine ⟨.int k, rfl, .inl (.inl (.inl ⟨k, 7919, rfl, rfl, .inr ⟨by decide, by decide⟩, q _ _ s1⟩))⟩
    | cons n ns =>
      show if PyData.eqv (.list ((n :: ns).map PyData.int)) (.list []) = true then _ else _
      rw [if_neg (by
        show ¬ PyData.eqvAll (PyData.int n :: ns.map PyData.int) [] = true
        unfold PyData.eqvAll
        decide)]
      exact ixs (by simp)
/-- _law_rounds -/
def tRoundsS (K : PySem.W.Frag) : TS := tRet (tLc (iRng1 (tCons (tCB rMaxI (tCons (tC (.int 1)) (tCons (tCB rMinI (tCons (tVar 1) (tCons (tLenS K) tNil))) tNil))) tNil)) (gName 2) tYes
  (tLst (tCons (tCall (spCellS K) [] E0 (tCons (tVar 0) (tCons (tVar 2) tNil))) (tCons (tC (.int 0)) tNil))) [2])
def IsRounds (H : Hp) (p : Addr) (as : List Addr) (cs : List Int) : Prop := as.length = cs.length ∧ (p :: as).Nodup ∧ H p = some (.lst (as.map V.ref)) ∧ ∀ (i : Nat) a c, as[i]? = some a → cs[i]? = some c → H a = some (.lst [.int c, .int 0])
def spRoundsS (K : PySem.W.Frag) : Sp := fun vs H Q _ => ∃ (a : Addr) (ns : List Int) (m : Int), vs = [.ref a, .int m] ∧ SqL K H a (ns.map V.int) ∧ ns.length ≤ 63 ∧ m ≤ 63 ∧ ∀ p as cs H', Same H H' → IsRounds H' p as cs → Q (.ref p) H'
theorem rounds_run {K : PySem.W.Frag} {vs : List V} {H : Hp} {Q : VK} {E : XK} (h : spRoundsS K vs H Q E) : tRoundsS K { nx := fun _ H' => Q .non H', rt := Q } (L2.start ["script", "most", "k"] vs) H := by
  obtain ⟨a, ns, m, rfl, hs, hn, hm, q⟩ := h
  refine ⟨.int m, rfl, .ref a, rfl, .ref a, (ns.map V.int).length, rfl, .inl ⟨_, hs, rfl⟩, m, ((ns.map V.int).length : Int), rfl, 1, _, rfl, ?_⟩
  generalize hj : (if (if ((ns.map V.int).length : Int) < m then ((ns.map V.int).length : Int) else m) > 1 then (if ((ns.map V.int).length : Int) < m then ((ns.map V.int).length : Int) else m) else 1) = j
  have hl : ((ns.map V.int).length : Int) = (ns.length : Int) := by rw [List.length_map]
  rw [hl] at hj
  have j1 : 0 ≤ j ∧ j ≤ 63 := by
    subst hj
    split <;> split <;> omega
  refine ⟨j, rfl, by omega, by omega, fun Dd hD => ?_⟩
  generalize hnn : j.toNat = n
  refine ⟨fun i k Hc => i + k = n ∧ Same H Hc ∧ ∃ as cs, as.length = i ∧ IsRounds Hc Dd as cs, ⟨n, by omega, same_upd hD, [], [], rfl, rfl, by simp, upd_same, fun i a c e => by simp at e⟩, ?_⟩
  rintro i k Hc ⟨hik, hsame, as, cs, hli, hla, nd, hp, hel⟩
  by_cases hi : i < n
  · refine .inr ⟨hi, fun Hc => (i + 1) + (k - 1) = n ∧ Same H Hc ∧ ∃ as cs, as.length = i + 1 ∧ IsRounds Hc Dd as cs, fun H' hN => ⟨k - 1, by omega, hN⟩, ?_⟩
    rintro x H' ⟨rfl, rfl⟩
    refine ⟨rfl, ?_⟩
    unfold tYes
    simp only [if_true]
    refine ⟨.ref a, rfl, .int ((0 : Int) + (i : Nat)), rfl, a, ns, _, rfl, sql_same hsame hs, hn, by omega, fun c H2 s2 => ?_⟩
    refine ⟨fewer (by simp), fun p2 hp2 => ?_⟩
    have ne : Dd ≠ p2 := fun z => by rw [z] at hp; rw [s2 _ _ hp] at hp2; cases hp2
    refine ⟨as.map V.ref, by rw [upd_ne ne]; exact s2 _ _ hp, ?_, ?_⟩
    · rw [List.length_map, hli]
      have : n ≤ 63 := by omega
      exact Nat.lt_of_lt_of_le hi (Nat.le_trans this (by decide))
    · have na : p2 ∉ as := fun z => by
        obtain ⟨t, ht, e⟩ := List.mem_iff_getElem.mp z
        have h2 := hel t p2 cs[t] (by rw [List.getElem?_eq_getElem ht, e]) (List.getElem?_eq_getElem (by omega))
        rw [s2 _ _ h2] at hp2; cases hp2
      have ndD := (List.nodup_cons.mp nd)
      refine ⟨by omega, fun b o z => ?_, as ++ [p2], cs ++ [c], by simp [hli], by simp [hla], ?_, by rw [upd_same]; simp, fun t b d e1 e2 => ?_⟩
      · have b1 : b ≠ Dd := fun w => by subst w; rw [hD] at z; cases z
        have b2 : b ≠ p2 := fun w => by subst w; rw [s2 _ _ (hsame _ _ z)] at hp2; cases hp2
        rw [upd_ne b1, upd_ne b2]
        exact s2 _ _ (hsame _ _ z)
      · rw [List.nodup_cons, List.nodup_append]
        refine ⟨?_, ndD.2, by simp, ?_⟩
        · simp only [List.mem_append, List.mem_singleton, not_or]
          exact ⟨ndD.1, ne⟩
        · intro u hu w hw
          simp at hw
          subst hw
          exact fun z => na (z ▸ hu)
      · rw [List.getElem?_append] at e1 e2
        by_cases ht : t < as.length
        · rw [if_pos ht] at e1
          rw [if_pos (by omega)] at e2
          have hb : b ∈ as := List.mem_of_getElem? e1
          have b1 : b ≠ Dd := fun w => ndD.1 (w ▸ hb)
          have b2 : b ≠ p2 := fun w => na (w ▸ hb)
          rw [upd_ne b1, upd_ne b2]
          exact s2 _ _ (hel t b d e1 e2)
        · rw [if_neg ht] at e1
          rw [if_neg (by omega)] at e2
          have t0 : t - as.length = 0 := by
            have := (List.getElem?_eq_some_iff.mp e1).1
            simp at this
            omega
          rw [t0] at e1
          rw [show t - cs.length = 0 by omega] at e2
          simp at e1 e2
          subst e1; subst e2
          rw [upd_ne (fun w => ne w.symm), upd_same]
  · exact .inl ⟨by show n ≤ i; omega, q Dd as cs Hc hsame ⟨hla, nd, hp, hel⟩⟩
/-- a block leaves as many slots as it finds -/
def tLn (n : Nat) (t : TS) : TS := fun D σ H => t ⟨fun σ' H' => σ'.length = n → D.nx σ' H', D.rt, fun σ' H' => σ'.length = n → D.bk σ' H', fun σ' H' => σ'.length = n → D.ct σ' H'⟩ σ H
theorem pss_ln {X : Cx} {st : List Stmt} {t : TS} (h : PSs X st t) : PSs X st (tLn X.N.length t) := by
  refine ⟨fun pins s σ H D I hw => ?_⟩
  refine thn (h.run pins s σ H _ I hw) fun f s1 q => ?_
  cases f with
  | next => obtain ⟨σ', H', I2, q⟩ := q; exact ⟨σ', H', I2, q I2.len⟩
  | brk => obtain ⟨σ', H', I2, q⟩ := q; exact ⟨σ', H', I2, q I2.len⟩
  | cont => obtain ⟨σ', H', I2, q⟩ := q; exact ⟨σ', H', I2, q I2.len⟩
  | ret v => exact q
/-- a def of the text by its promise -/
def DefS (P : Program) (w : World) (K : PySem.W.Frag) (mg : Str → Option Value) (base : Heap) (CX : CXT) (x : Str) (ps : List Str) (k : Nat) (sp : Sp) : Prop :=
  ∃ f fd, FnOk P w K mg base CX k f fd ps sp ∧ mg x = some (.ref f) ∧ PySem.W.keepIn K (.ref f) = true ∧ Binds K fd ps []
/-- the body of the loop that begins a block -/
def forBody : List Stmt → List Stmt
  | .For _ _ b _ _ :: _ => b
  | _ => []
/-- law: a loop over the rounds -/
def tLawS (K : PySem.W.Frag) (n : Nat) (m : Int) (tb : TS) : TS := tSeq (tFor (iSeq K (tCall (spRoundsS K) [] E0 (tCons (tVar 0) (tCons (tC (.int m)) tNil)))) (gName 1) (tLn n tb)) (tRet (tC (.bl true)))
def spLawS (K : PySem.W.Frag) (T : List (Addr × Str)) : Sp := fun vs H Q _ => ∃ (a : Addr) (ns : List Int), vs = [.ref a] ∧ SqL K H a (ns.map V.int) ∧ ns.length ≤ 63 ∧ LamX.Tabs T H ∧ ∀ H', Q (.bl true) H'
/-- what a round starts with -/
def rho0 (n : Nat) (c : Int) : Rho := Cell.no :: Cell.bw (.list [.int c, .int 0]) :: List.replicate (n - 2) Cell.no
def RoundOk (n : Nat) (fb : S) : Prop := ∀ c : Int, ∃ r, fb (rho0 n c) = .nx r ∨ fb (rho0 n c) = .ct r
theorem rho0_get {n : Nat} {c : Int} {j : Nat} {x : Cell} (h : (rho0 n c)[j]? = some x) : (j = 1 ∧ x = .bw (.list [.int c, .int 0])) ∨ x = .no := by
  unfold rho0 at h
  match j with
  | 0 => simp at h; exact .inr h.symm
  | 1 => simp at h; exact .inl ⟨rfl, h.symm⟩
  | j + 2 =>
    simp only [List.getElem?_cons_succ] at h
    exact .inr (List.mem_replicate.mp (List.mem_of_getElem? h)).2
theorem law_run {K : PySem.W.Frag} {T : List (Addr × Str)} {N : List Str} {m : Int} {tb : TS} {fb : S} {vs : List V} {H : Hp} {Q : VK} {E : XK} (hN : 2 ≤ N.length) (hm : m ≤ 63) {EX : Str → Hp → Prop} (ev : ∀ B : Bd, B.T = T → EvS B EX tb fb) (ok : RoundOk N.length fb) (h : spLawS K T vs H Q E) :
    tLawS K N.length m tb { nx := fun _ H' => Q .non H', rt := Q } (L2.start N vs) H := by
  obtain ⟨a, ns, rfl, hs, hn, hT, q⟩ := h
  refine ⟨.ref a, by simp [L2.start], a, ns, m, rfl, hs, hn, hm, fun p as cs H1 sH1 R1 => ?_⟩
  refine ⟨p, rfl, .inl ⟨⟨_, SqL.of R1.2.2.1⟩, ?_⟩⟩
  refine ⟨fun i k σc Hc => LamX.Tabs T Hc ∧ i + k = as.length ∧ σc.length = N.length ∧ Hc p = some (.lst (as.map V.ref)) ∧ ∀ (j : Nat) b d, i ≤ j → as[j]? = some b → cs[j]? = some d → Hc b = some (.lst [.int d, .int 0]), ⟨as.length, hT.ext sH1, by omega, by simp [L2.start]; omega, R1.2.2.1, fun j b d _ => R1.2.2.2 j b d⟩, ?_⟩
  rintro i k σc Hc ⟨hT, hik, hsl, hp, hel⟩
  have hsq : SqL K Hc p (as.map V.ref) := SqL.of hp
  by_cases hi : i < as.length
  · have hic : i < cs.length := by rw [← R1.1]; exact hi
    refine .inr ⟨⟨as.map V.ref, .ref as[i], hsq, by simp [hi]⟩, fun σ' H' => LamX.Tabs T H' ∧ (i + 1) + (k - 1) = as.length ∧ σ'.length = N.length ∧ H' p = some (.lst (as.map V.ref)) ∧ ∀ (j : Nat) b d, i + 1 ≤ j → as[j]? = some b → cs[j]? = some d → H' b = some (.lst [.int d, .int 0]), fun σ' H' hN => ⟨k - 1, by omega, hN⟩, ?_⟩
    rintro x H' ⟨rfl, hx⟩
    have ex := hx _ hsq
    simp [hi] at ex
    subst ex
    have hai := hel i as[i] cs[i] (Nat.le_refl _) (List.getElem?_eq_getElem hi) (List.getElem?_eq_getElem hic)
    have nd := R1.2.1
    have np : p ∉ as := (List.nodup_cons.mp nd).1
    have nda := (List.nodup_cons.mp nd).2
    have hpa : p ≠ as[i] := fun z => np (z ▸ List.getElem_mem hi)
    have ml : (rho0 N.length cs[i]).length = (σc.set 1 (some (.ref as[i]))).length := by
      rw [List.length_set, hsl]
      simp [rho0]
      omega
    have m0 : Mt ⟨H', fun _ => none, [as[i]], T, []⟩ (fun _ => none) H' (σc.set 1 (some (.ref as[i]))) (rho0 N.length cs[i]) := by
      refine ⟨fun _ _ z => (nomatch z), fun _ _ z => (nomatch z), fun _ _ z => (nomatch z), fun _ _ z _ _ => z, fun _ z => z, ml, fun j v c h1 h2 => ?_, fun j l b c c' h1 h2 h3 h4 h5 h6 => ?_, hT, fun _ _ => rfl⟩
      · rcases rho0_get h2 with ⟨rfl, rfl⟩ | rfl
        · have l1 : 1 < σc.length := by omega
          rw [List.getElem?_set_self l1] at h1
          cases h1
          exact ⟨as[i], _, rfl, hai, ⟨.int cs[i], [.int 0], rfl, rfl, .int 0, [], rfl, rfl, rfl⟩, rfl, by simp⟩
        · trivial
      · rcases rho0_get h3 with ⟨rfl, rfl⟩ | rfl
        · rcases rho0_get h4 with ⟨rfl, rfl⟩ | rfl
          · rfl
          · cases h6
        · cases h5
    refine ev ⟨H', fun _ => none, [as[i]], T, []⟩ rfl (fun _ => none) H' _ (rho0 N.length cs[i]) _ m0 ?_
    have fin : ∀ (r : Rho) (σ' : L2.St) (F' H2 : Hp), Mt ⟨H', fun _ => none, [as[i]], T, []⟩ F' H2 σ' r → σ'.length = N.length → LamX.Tabs T H2 ∧ (i + 1) + (k - 1) = as.length ∧ σ'.length = N.length ∧ H2 p = some (.lst (as.map V.ref)) ∧ ∀ (j : Nat) b d, i + 1 ≤ j → as[j]? = some b → cs[j]? = some d → H2 b = some (.lst [.int d, .int 0]) := by
      intro r σ' F' H2 mt hr
      refine ⟨mt.tabs, by omega, hr, mt.frm p _ hp (by simpa using hpa) (tabs_at hT (ld_tbl hp (.inl ⟨_, rfl⟩))), fun j b d hj e1 e2 => mt.frm b _ (hel j b d (by omega) e1 e2) ?_ (tabs_at hT (ld_tbl (hel j b d (by omega) e1 e2) (.inl ⟨_, rfl⟩)))⟩
      intro z
      have hb : b = as[i] := by simpa using z
      obtain ⟨hjl, e1'⟩ := List.getElem?_eq_some_iff.mp e1
      have : i = j := (List.getElem_inj nda).mp (hb.symm.trans e1'.symm)
      omega
    obtain ⟨r, hr | hr⟩ := ok cs[i]
    · rw [hr]
      exact fun σ' F' H2 mt _ hl => fin r σ' F' H2 mt hl
    · rw [hr]
      exact fun σ' F' H2 mt _ hl => fin r σ' F' H2 mt hl
  · refine .inl ⟨⟨as.map V.ref, hsq, by simp; omega⟩, q Hc⟩
end Rn
end

section
set_option Elab.async false
set_option linter.all false
set_option autoImplicit false
set_option maxRecDepth 100000
set_option maxHeartbeats 2000000
/-! Hot1: lists walked while an exception is handled: sum, a comprehension. -/
namespace Rn
open PySem PySem.Spec PyProof.Rows L2 L2H HotX

section
variable {prog : Program} {w : World} {A : Around} {E : Value → Shared → Prop} {s : Shared}
/-- the handled one stands in the heap -/
def HotO (x1 : Addr) (h : Heap) : Prop := ∃ (o : Obj) (vs : Array Value), h.get? x1 = some o ∧ o.data = .fields vs ∧ vs[2]? = some .none
theorem hot_iter {x1 it l : Addr} {i : Nat} {h : Heap} (a : HotO x1 h) (b : h.IsListIter it l i) : x1 ≠ it := fun e => by
  obtain ⟨o, vs, e1, e2, e3⟩ := a
  obtain ⟨o', f1, f2, f3⟩ := b
  rw [e, f1] at e1
  cases e1
  rw [f3] at e2
  cases e2
  cases e3
theorem next_end_hot {it l x1 : Addr} {i : Nat} {items : Array Value} {Q : Option Value → Shared → Prop} (hh : A.handled = some (.ref x1)) (ho : HotO x1 s.heap) (hit : s.heap.IsListIter it l i) (hl : s.heap.IsList l items) (hx : items[i]? = none)
    (hQ : ∀ h', (∀ b o, b ≠ it → s.heap.get? b = some o → h'.get? b = some o) → Q none { s with heap := h' }) : wpAny (model prog w) A (pyNext (.ref it)) Q E s := by
  have hne := hot_iter ho hit
  obtain ⟨o, h1, hc, hd⟩ := id hit
  obtain ⟨ol, hol, _, nl, hdl⟩ := hl
  obtain ⟨o1, vs1, x1h, d1, c1⟩ := ho
  unfold pyNext
  refine wpAny_bind (wpAny_attempt (wpAny_callSpecial?_slot (name := Str.ofString "__next__") hit.typeIs slot_listiter_next (wpAny_call_entry slot_listiter_next hit.typeIs entry_listiter_next ?_ (args_listiter_next _))))
  show wpAny _ _ (field (.ref it) 0 >>= _) _ _ s
  refine wpAny_bind (wpAny_field h1 hd (x := .ref l) rfl ?_)
  show wpAny _ _ (if (Value.ref l == Value.none) = true then _ else _) _ _ s
  rw [if_neg (show ¬ ((Value.ref l == Value.none) = true) from Bool.false_ne_true)]
  show wpAny _ _ (field (.ref it) 1 >>= _) _ _ s
  refine wpAny_bind (wpAny_field h1 hd (x := .int i 0) rfl ?_)
  show wpAny _ _ (seqItems? (.ref l) >>= _) _ _ s
  refine wpAny_bind (wpAny_seqItems hol hdl ?_)
  simp only [Int.toNat_natCast, hx]
  refine wpAny_bind (wpAny_rule (wpAny_bind (wpAny_setField h1 hd (by simp) ?_)))
  show wpAny _ _ (newExc (.type "StopIteration") [] >>= _) _ _ _
  refine wpAny_bind ?_
  simp only [newExc, newTuple]
  refine wpAny_bind (wpAny_newObj_type ?_ (by size_fits))
  refine wpAny_bind (m := firstArgMember _ _) (wpAny_of_eq (a := Value.none) (by first | rfl | (simp only [firstArgMember]; rfl)) ?_)
  refine wpAny_newObj_type ?_ (by size_fits)
  have hx1 : ∀ f, (s.heap.update it f).get? x1 = some o1 := fun f => (Heap.get?_update_other _ _ hne.symm).trans x1h
  refine raiseNew_hot (x1 := x1) ⟨hh, o1, vs1, Heap.get?_push_of_some _ (Heap.get?_push_of_some _ (hx1 _)), d1, c1⟩ (Nat.ne_of_lt (Heap.lt_size (Heap.get?_push_of_some _ (hx1 _)))) (Heap.get?_push_size _ rfl) rfl (by first | (simp; done) | (simp; omega) | (simp only [Array.size_append]; simp; omega)) ?_
  refine wpAny_bind (wpAny_isInstance (T := "StopIteration") (b := true) ⟨_, Heap.get?_update_self _ (Heap.get?_push_size _ rfl) rfl, rfl⟩ isSubtype_stop ?_)
  refine wpAny_pure (hQ _ fun b o hb e => ?_)
  have e' : ∀ f, (s.heap.update it f).get? b = some o := fun f => (Heap.get?_update_other _ _ hb.symm).trans e
  rw [Heap.get?_update_other _ _ (Nat.ne_of_gt (Heap.lt_size (Heap.get?_push_of_some _ (e' _))))]
  exact Heap.get?_push_of_some _ (Heap.get?_push_of_some _ (e' _))
theorem HotO.at {x1 : Addr} {h h' : Heap} (a : HotO x1 h) (e : ∀ o, h.get? x1 = some o → h'.get? x1 = some o) : HotO x1 h' := by
  obtain ⟨o, vs, e1, e2, e3⟩ := a
  exact ⟨o, vs, e _ e1, e2, e3⟩
theorem walks_hot {x1 I ax : Addr} (hh : A.handled = some (.ref x1)) (hne : ax ≠ I) (items : Array Value) :
    Walks prog w A I [I, ax, x1] [I] items.size (fun i v => items[i]? = some v) (fun i h => h.IsListIter I ax i ∧ h.IsList ax items ∧ HotO x1 h) where
  sub := fun b hb => by simp at hb; simp [hb]
  frame := fun _ _ _ st hk => ⟨st.1.at fun o e => hk I (by simp) o e, st.2.1.at fun o e => hk ax (by simp) o e, st.2.2.at fun o e => hk x1 (by simp) o e⟩
  item := fun i s Q E hi st hQ => by
    have n1 := hot_iter st.2.2 st.1
    refine wpAny_pyNext_list_item st.1 st.2.1 (x := items[i]) (by simp [hi]) fun h' hit' hs' => ?_
    exact hQ _ h' s.toks (by simp [hi]) ⟨hit', st.2.1.extBut hs'.extBut hne, st.2.2.at fun o e => hs'.extBut x1 o n1 e⟩ fun b o hb e => hs'.extBut b o (fun h => hb (by simp [h])) e
  done := fun s Q E st hQ => next_end_hot hh st.2.2 st.1 st.2.1 (by simp) fun h' he => hQ h' s.toks fun b o hb e => he b o (fun z => hb (by simp [z])) e
  self := fun _ _ _ _ st h => wpAny_pyIter_listiter st.1 h
theorem sum_hot {l x1 : Addr} {its : List Value} {ns : List Int} {Q : Value → Shared → Prop} (hh : A.handled = some (.ref x1)) (ho : HotO x1 s.heap) (hl : s.heap.IsList l its.toArray) (hi : IntsAre its ns)
    (h : ∀ h' tk t', (∀ b o, s.heap.get? b = some o → h'.get? b = some o) → Q (.int ns.sum t') { s with heap := h', toks := tk }) : wpAny (model prog w) A (call (.builtin "sum") [.ref l]) Q E s := by
  obtain ⟨xs, e⟩ := hi.allInts.items
  have hn : numsOf (intItems xs).toList = ns := by rw [← e]; exact hi.numsOf
  rw [nums_intItems] at hn
  rw [e] at hl
  refine call_sum_walkG (iter_intList hl fun s₂ es st hfp hlI => ?_)
  subst es
  have hlt : x1 < s.heap.objs.size := by obtain ⟨_, _, q, _⟩ := ho; exact Heap.lt_size q
  refine ⟨_, _, _, _, _, _, numAt xs, rfl, walks_hot (A := A.in1) (x1 := x1) hh hlI (intItems xs), ⟨st.1, st.2, ho.at fun o q => Heap.get?_push_of_some _ q⟩, (fun b hb => ?_), (fun _ _ => intItems_at), fun h' tk t' hk => ?_⟩
  · simp only [List.mem_cons, List.not_mem_nil, or_false] at hb
    rcases hb with z | z | z
    · exact hfp b (by simp [z])
    · exact hfp b (by simp [z])
    · rw [z]
      show x1 < (s.heap.push _).objs.size
      rw [Heap.size_push]
      exact Nat.lt_succ_of_lt hlt
  · have := h h' tk t' (old_kept hk)
    rw [← hn] at this
    rw [show (intItems xs).size = xs.size by simp [intItems], preSum_eq, List.take_of_length_le (by simp)]
    exact this
end

section
variable {X : Cx}
theorem HotC.o (c : HotC X) {pins : List (Addr × Obj)} {σ : L2.St} {H : Hp} {s : Shared} (I : Inv X pins σ H s) : ∃ x1, X.A.handled = some (.ref x1) ∧ HotO x1 s.heap := by
  obtain ⟨x1, h1, h2⟩ := c.at I
  exact ⟨x1, h1, h2⟩
theorem cr_sumH (c : HotC X) : CallR X (.builtin "sum") (rSum X.K) := by
  intro pins s σ H vs us Q I r h
  obtain ⟨a, ns, rfl, hs, q⟩ := h
  obtain ⟨its, rv, hl, _⟩ := I.list hs
  obtain ⟨x1, h1, h2⟩ := HotC.o c I
  rw [Vals.ref1 r]
  exact sum_hot h1 h2 hl.isList rv.ints fun h' tk t' hk => ⟨.int _, H, I.kept hk, ⟨_, rfl⟩, q⟩
end
end Rn
end

section
set_option Elab.async false
set_option linter.all false
set_option autoImplicit false
set_option maxRecDepth 100000
set_option maxHeartbeats 2000000
/-! Hot2: a list comprehension over a list, while an exception is handled. -/
namespace Rn
open PySem PySem.Spec PyProof.Rows L2 L2H HotX

def iSeqL (K : PySem.W.Frag) (tl : TE) : TI := fun σ H R => tl σ H fun x H1 => ∃ a xs, x = .ref a ∧ SqL K H1 a xs ∧ R (Itl K a) H1
section
variable {X : Cx}
theorem pe_lcH {elt tg iter : Expr} {scope : Scope} {own : List (Str × Nat)} {pos : Pos} {tl : TE} {g : TG} {te : TE} (hot : HotC X) (hN : X.N.Nodup) (hl : PE X iter tl) (ok : BlkOk X.N X.env.scope scope own)
    (hg : ∀ (s : Shared) (H : Hp) (C : Addr) (cl : List (Str × Addr)) (fp : List Addr), PG (X.blk s H scope (compEnvC scope cl C X.env) fp) tg g)
    (he : ∀ (s : Shared) (H : Hp) (C : Addr) (cl : List (Str × Addr)) (fp : List Addr), PE (X.blk s H scope (compEnvC scope cl C X.env) fp) elt te) (hs : ∀ x, foldedSetIterable iter X.env x = pure x := by intro _; rfl) :
    PE X (.ListComp elt [⟨tg, iter, [], 0⟩] scope pos) (tLc (iSeqL X.K tl) g tYes te (own.map (·.2))) := by
  refine ⟨fun pins s σ H Q I h => ?_⟩
  rw [eval_ListComp]
  obtain ⟨p, ⟨hh, v1, e1, c1⟩, hp⟩ := hot
  have hfree : ∀ y ∈ scope.names, y.2 = .free → ∃ c, X.env.cells.lookup y.1 = some c := fun y hy e => (ok.free y hy e).elim (fun k => I.ok.has _ (.inl k)) fun k => I.ok.has _ (.inr k)
  refine wpAny_comprehension_free (use := none) rfl hs (closure_ok hfree) ok.kind (fun y hy e => by rw [ok.uniq y hy, e]) (thn (hl.run pins s σ H _ I h) fun xv s1 hx => ?_)
  obtain ⟨x0, H1, I1, r1, a, xs, e, hsq, q⟩ := hx
  subst e
  obtain rfl : xv = Value.ref a := r1
  obtain ⟨its, rv, pl, hz⟩ := I1.list hsq
  refine wpAny_pyIter_list pl.isList ?_
  -- the iterator
  obtain ⟨it, hit⟩ : ∃ it, it = s1.heap.objs.size := ⟨_, rfl⟩
  obtain ⟨s2, hs2⟩ : ∃ s2 : Shared, s2 = { s1 with heap := s1.heap.push { cls := .type "list_iterator", data := .fields #[.ref a, .int 0 0] } } := ⟨_, rfl⟩
  rw [← hs2, ← hit]
  have I2 : Inv X pins σ H1 s2 := by rw [hs2]; exact I1.kept (t' := s1.toks) fun b o z => Heap.get?_push_of_some _ z
  have st2 : s2.heap.IsListIter it a 0 := by rw [hs2, hit]; exact ⟨_, Heap.get?_push_size _ rfl, rfl, rfl⟩
  have f2 : FpOk X pins H1 it := I1.fpOk (by rw [hit]; exact Nat.le_refl _) (I1.hok.fresh (by rw [hit]; exact Nat.le_refl _))
  refine wpAny_newObj_type (newEnv_comp ?_) (by show 0 ≤ sizeLine; decide)
  -- the new list
  obtain ⟨D, hD⟩ : ∃ D, D = s2.heap.objs.size := ⟨_, rfl⟩
  rw [← hD]
  have hDn : H1 D = none := I2.hok.fresh (Nat.le_of_eq hD.symm)
  obtain ⟨W, ⟨m0, w0⟩, turn⟩ := q D hDn
  obtain ⟨s3, hs3⟩ : ∃ s3 : Shared, s3 = { s2 with heap := s2.heap.push { cls := .type "list", data := .seq ([] : List Value).toArray } } := ⟨_, rfl⟩
  have I3 : Inv X pins σ (upd H1 D (.lst [])) s3 := by
    rw [hs3]
    exact I2.laid (t' := s2.toks) (fun b o z => Heap.get?_push_of_some _ z) (Nat.le_of_eq hD.symm) ⟨Nat.zero_le _, [], 0, .nil, by rw [hD]; exact Heap.get?_push_size _ rfl⟩
  have lt_it : it < s2.heap.objs.size := by obtain ⟨o, z, _⟩ := st2; exact Heap.lt_size z
  have h3 : s3.heap = s2.heap.push { cls := .type "list", data := .seq ([] : List Value).toArray } := by rw [hs3]
  have nit : it ≠ D := by rw [hD]; exact Nat.ne_of_lt lt_it
  have f3 : ∀ b ∈ [it], FpOk X pins (upd H1 D (.lst [])) b ∧ b < s3.heap.objs.size := fun b hb => by
    obtain rfl : b = it := by simpa using hb
    exact ⟨⟨by rw [upd_ne nit]; exact f2.1, f2.2⟩, by rw [h3, Heap.size_push]; exact Nat.lt_succ_of_lt lt_it⟩
  have st3 : s3.heap.IsListIter it a 0 := by rw [h3]; exact st2.at fun o z => Heap.get?_push_of_some _ z
  obtain ⟨H3, hH3⟩ : ∃ H3, H3 = upd H1 D (.lst []) := ⟨_, rfl⟩
  rw [← hH3] at I3 w0 f3
  have I4 := block_start I3 ok hN f3
  have pg := hg s3 H3 s3.heap.objs.size (cellsFrom (s3.heap.objs.size + 1) scope.names (cloFrom X.env.cells scope.names [])) [it]
  have pe := he s3 H3 s3.heap.objs.size (cellsFrom (s3.heap.objs.size + 1) scope.names (cloFrom X.env.cells scope.names [])) [it]
  have hs3' : ({ s2 with heap := s2.heap.push { cls := .type "list", data := .seq ([] : List Value).toArray } } : Shared) = s3 := hs3.symm
  show codeAny _ _ (.compStart (.ListComp elt [⟨tg, iter, [], 0⟩] scope pos) 0 (.ref it) (.ref D) (compEnvC scope (cellsFrom ((s2.heap.push { cls := .type "list", data := .seq ([] : List Value).toArray }).objs.size + 1) scope.names (cloFrom X.env.cells scope.names [])) (s2.heap.push { cls := .type "list", data := .seq ([] : List Value).toArray }).objs.size X.env)) _ _
  rw [← h3]
  obtain ⟨ce, hce⟩ : ∃ ce, ce = compEnvC scope (cellsFrom (s3.heap.objs.size + 1) scope.names (cloFrom X.env.cells scope.names [])) s3.heap.objs.size X.env := ⟨_, rfl⟩
  rw [← hce] at I4 pg pe ⊢
  have cL : ce.locals = s3.heap.objs.size := by rw [hce]; rfl
  obtain ⟨s4, hs4⟩ : ∃ s4 : Shared, s4 = { s3 with heap := pushCells (s3.heap.push { cls := .type "dict", data := .dict #[] }) scope.names } := ⟨_, rfl⟩
  rw [← hs4] at I4
  have st4 : s4.heap.IsListIter it a 0 := by rw [hs4]; exact st3.at fun o z => pushCells_keeps _ _ _ _ (Heap.get?_push_of_some _ z)
  have P3 := I3.pin p (List.mem_append_left _ hp)
  have pin4 : Inv (X.blk s3 H3 scope ce [it]) [p] (wipe σ (own.map (·.2))) H3 s4 := I4.pins_of fun u hu => by
    obtain rfl : u = p := by simpa using hu
    refine ⟨by rw [hs4]; exact pushCells_keeps _ _ _ _ (Heap.get?_push_of_some _ P3.1), P3.2.1, ?_, fun z => ?_, P3.2.2.2.2⟩
    · show u.1 ≠ ce.locals
      rw [cL]
      exact Nat.ne_of_lt (Heap.lt_size P3.1)
    · exact (List.mem_cons.mp (I3.stkSub u.1 z)).elim P3.2.2.1 P3.2.2.2.1
  have stat : ∀ {pl : List (Addr × Obj)} {σ' : L2.St} {H' : Hp} {s' : Shared}, (∀ u ∈ pl, u.1 ≠ it) → Inv (X.blk s3 H3 scope ce [it]) pl σ' H' s' → H' it = none → FpOk (X.blk s3 H3 scope ce [it]) pl H' it := fun {pl σ' H' s'} hpl I' hn =>
    ⟨hn, (I'.ok.exf it (by simp)).1, I'.ok.exfs it (by simp), .inl (by simp), fun x c z => (I'.ok.exf it (by simp)).2 x c z, fun u hu => hpl u (by simpa using hu)⟩
  have npi : p.1 ≠ it := fun z => by
    have h0 := (I1.pin p (List.mem_append_left _ hp)).1
    rw [z, hit] at h0
    exact Nat.lt_irrefl _ (Heap.lt_size h0)
  have np1 : ∀ u ∈ [p], u.1 ≠ it := fun u hu => by
    obtain rfl : u = p := by simpa using hu
    exact npi
  have fin0 : ∀ (s' : Shared) (H' : Hp), Inv (X.blk s3 H3 scope ce [it]) [p] (wipe σ (own.map (·.2))) H' s' → Q (.ref D) H' → compPost (model X.prog X.w) X.A X.xe none (EP X pins σ Q) (.ref D) s3.heap.objs.size (.ok .next) s' := fun s' H' I6 qq => by
    have I7 : Inv X pins σ H' s' := I3.call' (ch := [it]) I6.os I6.base I6.hok I6.bare fun b hb => ⟨(f3 b hb).1.2.2.2.1, (f3 b hb).1.2.1, (f3 b hb).1.2.2.2.2.1, (f3 b hb).1.2.2.2.2.2⟩
    have nC : H' s3.heap.objs.size = none := by
      have z : H' ce.locals = none := I6.free
      rwa [cL] at z
    obtain ⟨m, hn, _⟩ := I6.loc
    have hn : s'.heap.Ns ce.locals m := hn
    rw [cL] at hn
    refine ⟨m, hn, fun h'' sb => ?_⟩
    obtain ⟨g0, g1, g2, g3, g4, g5⟩ := I3.fpOk (Nat.le_refl _) nC
    exact ⟨.ref D, H', I7.turned (t' := s'.toks) (fun b o hb z => (sb.2 b hb).trans z) g0 g1 g3 g4 g5, rfl, qq⟩
  have loop : codeAny (model X.prog X.w) X.A (.compLoop (.ListComp elt [⟨tg, iter, [], 0⟩] scope pos) 0 (.ref it) (.ref D) ce) (compPost (model X.prog X.w) X.A X.xe none (EP X pins σ Q) (.ref D) s3.heap.objs.size) s4 := by
    refine compLoop_any (fun n s' => ∃ i H', Inv (X.blk s3 H3 scope ce [it]) [p] (wipe σ (own.map (·.2))) H' s' ∧ s'.heap.IsListIter it a i ∧ H' it = none ∧ W i n H') ?_ m0 ⟨0, H3, pin4, st4, (f3 it (by simp)).1.1, w0⟩
    rintro n s5 ⟨i, H5, I5, st5, n5, w5⟩
    obtain ⟨f0, f1, _, f3', f4, f5⟩ := stat np1 I5 n5
    rcases turn i n H5 w5 with ⟨⟨ys, hy, hle⟩, qq⟩ | ⟨⟨ys, y0, hy, hy0⟩, Nx, hNx, step⟩
    · obtain ⟨its5, rv5, p5, hz5⟩ := I5.list hy
      have hl5 := rv5.length
      have ho : HotO p.1 s5.heap := ⟨p.2, v1, (I5.pin p (by simp)).1, e1, c1⟩
      refine next_end_hot hh ho st5 p5.isList (by simp; omega) fun h' eb => ?_
      exact fin0 _ _ (I5.turned (t' := s5.toks) (fun b o hb z => eb b o hb z) f0 f1 f3' f4 f5) qq
    · obtain ⟨its5, rv5, p5, hz5⟩ := I5.list hy
      obtain ⟨u, hu, ru⟩ := rv5.get hy0
      refine wpAny_pyNext_list_item st5 p5.isList (x := u) (by simpa using hu) fun h' st6 sb => ?_
      have I6 : Inv (X.blk s3 H3 scope ce [it]) [p] (wipe σ (own.map (·.2))) H5 { s5 with heap := h' } := I5.turned (t' := s5.toks) (fun b o hb z => (sb.2 b hb).trans z) f0 f1 f3' f4 f5
      obtain ⟨oi, ei, ci, di⟩ := id st6
      refine go_of (s := { s5 with heap := h' }) ei ci di (by decide) ?_
      have I6' := I6.pinned (fp := [it]) (fun b hb => (show b = it by simpa using hb) ▸ stat np1 I6 n5) (fun b hb => (show b = it by simpa using hb) ▸ ⟨oi, ei, fun v z => by rw [di] at z; cases z⟩)
      refine thnF (pg.run _ _ _ H5 y0 u _ I6' ru (step y0 H5 ⟨rfl, fun zs hz => by rw [I5.list_inj hz hy]; exact hy0⟩)) fun _ s8 ⟨σ8, H8, I8, hw8, q8⟩ => ?_
      refine wpAny_tests_nil ?_
      have q8 : te σ8 H8 fun y H4 => ∃ acc, H4 D = some (.lst acc) ∧ acc.length < sizeLine ∧ Nx (upd H4 D (.lst (acc ++ [y]))) := q8
      show wpAny _ _ (eval elt ce) _ _ _
      refine thnF (pe.run _ s8 σ8 H8 _ I8 q8) fun z s10 ⟨yv, H10, I10, r10, acc, hD10, hz10, nx⟩ => ?_
      refine app_ok (X := X.blk s3 H3 scope ce [it]) I10 hD10 hz10 r10 fun s11 I11 => ?_
      obtain ⟨m', hm, w'⟩ := hNx _ nx
      have pin' := I11.pin (it, oi) (List.mem_append_right _ (List.mem_append_right _ (mem_pinsAt (by simp) ei)))
      refine ⟨m', hm, i + 1, _, (I11.unpinned (pins := [p])).weak (by rw [← hw8, wipe_length]) (fun j v z => ?_), st6.at (fun o z => ?_), pin'.2.1, w'⟩
      · rw [← hw8] at z
        exact (wipe_some z).1
      · have z : h'.get? it = some o := z
        rw [show h'.get? it = some oi from ei] at z
        cases z
        exact pin'.1
  have z := codeAny_compStart_list loop (wpAny_pyIter_listiter st4 loop)
  have g1 : s3.gens = s2.gens := by rw [hs3]
  have g2 : s3.drawn = s2.drawn := by rw [hs3]
  have g3 : s3.toks = s2.toks := by rw [hs3]
  have g4 : s3.os = s2.os := by rw [hs3]
  rw [hs4, g1, g2, g3, g4] at z
  exact z
end
end Rn
end

section
set_option Elab.async false
set_option linter.all false
set_option autoImplicit false
set_option maxRecDepth 100000
set_option maxHeartbeats 2000000
/-! Hot3: rules for the def that looks at a caught error. -/
namespace Rn
open PySem PySem.Spec PyProof.Rows L2 L2H HotX

theorem call_isP {X : Cx} {a D : Addr} {oe : Obj} (hp : (a, oe) ∈ X.pn) (C : ExcC X.K D) (hz : Zc (.ref D) none oe) (hf : ∃ vs, oe.data = .fields vs) : CallR X (.builtin "isinstance") (rIsE X.K D a) := by
  intro pins s σ H xs us Q I r h
  obtain ⟨c, cv, b, rfl, hcv, e, q⟩ := h
  match us, r with
  | [_, u2], .cons rx (.cons rt .nil) =>
    cases rx
    obtain rfl := hcv _ rt
    have hget := (I.pin (a, oe) (List.mem_append_left _ hp)).1
    have J : PySem.W.InstAt s.heap a oe D none := by
      obtain ⟨vs, hv⟩ := hf
      obtain ⟨oc, od, oda, osl⟩ := oe
      obtain ⟨h1, h2⟩ := hz
      dsimp only at h1 h2 hv
      subst h1 h2 hv
      exact ⟨hget, rfl, rfl, trivial⟩
    exact PySem.W.kia_one (PySem.W.handS_kitx_exc C.hg C.hk C.hs C.hd C.ha C.hn C.ht C.hm) I.kIn J e (fun z => nomatch z) fun tk => ⟨.bl b, H, I.kept (t' := tk) fun _ _ z => z, rfl, q⟩
/-- isinstance of the error in slot 0 -/
def mIsE (b : Bool) : M D := fun ρ => match ρ[0]? with
  | some (Cell.va 0) => .ok (.bool b) ρ
  | _ => .no
section
variable {X : Cx} {B : Bd} {EX : Str → Hp → Prop}
theorem ev_isE {K : PySem.W.Frag} {D a : Addr} {c : V} {cv : Value} {b : Bool} (hB : B.vals[0]? = some (.ref a)) (hc : ∀ u, RelV c u → u = cv) (hk : PySem.W.kitOne K (.ref D) cv = some b) :
    Ev B EX VD (tCB (rIsE K D a) (tCons (tVar 0) (tCons (tC c) tNil))) (mIsE b) := by
  intro F H σ ρ Q m h
  unfold mIsE at h
  cases e : ρ[0]? with
  | none => rw [e] at h; exact h.elim
  | some c0 =>
    rw [e] at h
    cases c0 with
    | va k =>
      match k, h, e with
      | 0, h, e =>
        have hi : 0 < σ.length := by rw [← m.len]; exact (List.getElem?_eq_some_iff.mp e).1
        have hv := List.getElem?_eq_getElem hi
        obtain ⟨u, h1, h2⟩ := m.cell 0 _ _ hv e
        rw [hB] at h1
        cases h1
        rw [h2] at hv
        exact ⟨.ref a, hv, c, cv, b, rfl, hc, hk, h (.bl b) F H m.refl rfl⟩
      | k + 1, h, e => exact h.elim
    | _ => exact h.elim
variable {a : Addr} {oe : Obj} {p1 p2 p pos : Pos}
/-- isinstance(e, T), T an own class -/
theorem je_isE {K : PySem.W.Frag} {D cT : Addr} {T : Str} {b : Bool} (hp : (a, oe) ∈ X.pn) (C : ExcC X.K D) (hz : Zc (.ref D) none oe) (hf : ∃ vs, oe.data = .fields vs) (hB : B.vals[0]? = some (.ref a)) (hm : X.mg "isinstance" = none)
    (hT : X.mg T = some (.ref cT)) (hk : PySem.W.kitOne X.K (.ref D) (.ref cT) = some b) (hN : X.N[0]? = some ("e" : Str) := by rfl) (hv : Vis X.env.scope "e" := by first | exact Or.inl rfl | exact Or.inr (Or.inl rfl) | exact Or.inr (Or.inr rfl))
    (hgT : Gl X T := by rfl) (hg : Gl X "isinstance" := by rfl) (hdT : (T == ("__debug__" : Str)) = false := by decide)
    (h1 : starEach [.Name "e" p1, .Name T p2] X.env = (false, eval (.Name "e" p1) X.env) :: starEach [.Name T p2] X.env := by rfl) (h2 : starEach [.Name T p2] X.env = (false, eval (.Name T p2) X.env) :: starEach [] X.env := by rfl) (hpl : (backTo pos (starEach [.Name T p2] X.env)).any (·.1) = false := by rfl) (hK : X.K = K := by rfl) :
    JE X B EX (.Call (.Name "isinstance" p) [.Name "e" p1, .Name T p2] [] pos) (tCB (rIsE K D a) (tCons (tVar 0) (tCons (tC (.ref cT)) tNil))) (mIsE b) := by
  subst hK
  exact ⟨pe_callB (call_isP hp C hz hf) hg hm PyProof.Rows.boot_isinstance (pa_cons (pv 0 hN hv) (pa_cons (pe_glob hgT hT rfl hdT) pa_nil h2) h1) (by decide) (by decide) h1 hpl, ev_isE hB (fun _ z => z) hk⟩
/-- isinstance(e, ValueError) -/
theorem je_isV {K : PySem.W.Frag} {D : Addr} {b : Bool} (hp : (a, oe) ∈ X.pn) (C : ExcC X.K D) (hz : Zc (.ref D) none oe) (hf : ∃ vs, oe.data = .fields vs) (hB : B.vals[0]? = some (.ref a)) (hm : X.mg "isinstance" = none)
    (hT : X.mg "ValueError" = none) (hk : PySem.W.kitOne X.K (.ref D) (.type "ValueError") = some b) (hN : X.N[0]? = some ("e" : Str) := by rfl) (hv : Vis X.env.scope "e" := by first | exact Or.inl rfl | exact Or.inr (Or.inl rfl) | exact Or.inr (Or.inr rfl))
    (hgT : Gl X "ValueError" := by rfl) (hg : Gl X "isinstance" := by rfl)
    (h1 : starEach [.Name "e" p1, .Name "ValueError" p2] X.env = (false, eval (.Name "e" p1) X.env) :: starEach [.Name "ValueError" p2] X.env := by rfl) (h2 : starEach [.Name "ValueError" p2] X.env = (false, eval (.Name "ValueError" p2) X.env) :: starEach [] X.env := by rfl) (hpl : (backTo pos (starEach [.Name "ValueError" p2] X.env)).any (·.1) = false := by rfl) (hK : X.K = K := by rfl) :
    JE X B EX (.Call (.Name "isinstance" p) [.Name "e" p1, .Name "ValueError" p2] [] pos) (tCB (rIsE K D a) (tCons (tVar 0) (tCons (tC (.ty "ValueError")) tNil))) (mIsE b) := by
  subst hK
  exact ⟨pe_callB (call_isP hp C hz hf) hg hm PyProof.Rows.boot_isinstance (pa_cons (pv 0 hN hv) (pa_cons (pe_bltn (v := .ty "ValueError") hgT hT L2.boot_ValueError rfl (by decide) (by decide)) pa_nil h2) h1) (by decide) (by decide) h1 hpl, ev_isE hB (fun _ z => z) hk⟩
/-! ### a comprehension -/
def mSeqL (f : M D) : M (List D) := bnd f fun d => match d with
  | .list ds => ret ds
  | _ => stuck
theorem evi_seqL {K : PySem.W.Frag} {t : TE} {f : M D} (h : Ev B EX VD t f) : Ev B EX VI (iSeqL K t) (mSeqL f) := by
  refine Ev.bind (tb := fun x σ H R => ∃ a xs, x = .ref a ∧ SqL K H a xs ∧ R (Itl K a) H) h fun d x F H σ ρ Q m p q => ?_
  cases d with
  | list ds =>
    obtain ⟨a, vs, rfl, e, l⟩ := p
    exact ⟨a, vs, rfl, SqL.of (m.sub _ _ e), q _ F H m.refl (itok_list e l)⟩
  | _ => exact q.elim
theorem jf_lcH {K : PySem.W.Frag} {elt tg iter : Expr} {scope : Scope} {own : List (Str × Nat)} {g : TG} {tl te : TE} {fl fe : M D} {h : D → Rho → Option Rho} {L : List Nat} (hot : HotC X) (hN : X.N.Nodup) (ok : BlkOk X.N X.env.scope scope own) (hi : JE X B EX iter tl fl)
    (hg : ∀ (s : Shared) (H : Hp) (C : Addr) (cl : List (Str × Addr)) (fp : List Addr), JG (X.blk s H scope (compEnvC scope cl C X.env) fp) B tg g h L)
    (he : ∀ (s : Shared) (H : Hp) (C : Addr) (cl : List (Str × Addr)) (fp : List Addr), JE (X.blk s H scope (compEnvC scope cl C X.env) fp) B EX0 elt te fe) (hL : ∀ i ∈ L, i ∈ own.map (·.2) := by decide) (hs : ∀ x, foldedSetIterable iter X.env x = pure x := by intro _; rfl) (hK : X.K = K := by rfl) :
    JF X B EX (.ListComp elt [⟨tg, iter, [], 0⟩] scope pos) (tLc (iSeqL K tl) g tYes te (own.map (·.2))) (mLc (mSeqL fl) h mYes fe (own.map (·.2))) := by
  subst hK
  exact ⟨pe_lcH hot hN hi.p ok (fun s H C cl fp => (hg s H C cl fp).p) (fun s H C cl fp => (he s H C cl fp).p) hs, evf_lc (evi_seqL hi.v) (hg X.s_0 X.H_0 0 [] []).v (jbs_nil (X := X) (B := B) (EX := EX0)).v (he X.s_0 X.H_0 0 [] []).v hL⟩
theorem cK_sumH {K : PySem.W.Frag} (hK : X.K = K) (hc : HotC X) : CallR X (.builtin "sum") (rSum K) := by subst hK; exact cr_sumH hc
/-! ### flags.index(True) -/
def idxT : List D → Nat → Option Nat
  | .bool true :: _, n => some n
  | .bool false :: r, n => idxT r (n + 1)
  | _, _ => none
def allB : List D → Bool
  | [] => true
  | .bool _ :: r => allB r
  | _ => false
theorem idxT_ok {F : Hp} : ∀ {ds : List D} {vs : List V} {n k : Nat}, DenL F ds vs → idxT ds n = some k → n ≤ k ∧ vs[k - n]? = some (.bl true) ∧ ∀ (m : Nat) (z : V), m < k - n → vs[m]? = some z → z = .bl false
  | [], _, n, k, _, h => by simp [idxT] at h
  | .bool true :: ds, _, n, k, ⟨v, r, e, hv, l⟩, h => by
    subst e
    have : n = k := by simpa [idxT] using h
    subst this
    refine ⟨Nat.le_refl _, ?_, fun m z hm => by omega⟩
    rw [Nat.sub_self]
    rw [show v = V.bl true from hv]
    rfl
  | .bool false :: ds, _, n, k, ⟨v, r, e, hv, l⟩, h => by
    subst e
    obtain ⟨h1, h2, h3⟩ := idxT_ok (n := n + 1) (k := k) l (by simpa [idxT] using h)
    refine ⟨by omega, ?_, fun m z hm hz => ?_⟩
    · rw [show k - n = (k - (n + 1)) + 1 by omega]
      simpa using h2
    · cases m with
      | zero => simp at hz; rw [← hz]; exact hv
      | succ m => exact h3 m z (by omega) (by simpa using hz)
  | .none :: _, _, _, _, _, h => by simp [idxT] at h
  | .int _ :: _, _, _, _, _, h => by simp [idxT] at h
  | .str _ :: _, _, _, _, _, h => by simp [idxT] at h
  | .list _ :: _, _, _, _, _, h => by simp [idxT] at h
  | .tuple _ :: _, _, _, _, _, h => by simp [idxT] at h
  | .dict _ :: _, _, _, _, _, h => by simp [idxT] at h
theorem allB_ok {F : Hp} : ∀ {ds : List D} {vs : List V}, DenL F ds vs → allB ds = true → vs.all flatV = true
  | [], _, h, _ => by cases h; rfl
  | .bool b :: ds, _, ⟨v, r, e, hv, l⟩, h => by
    subst e
    rw [show v = V.bl b from hv, List.all_cons, allB_ok l (by simpa [allB] using h)]
    rfl
  | .none :: _, _, _, h => by simp [allB] at h
  | .int _ :: _, _, _, h => by simp [allB] at h
  | .str _ :: _, _, _, h => by simp [allB] at h
  | .list _ :: _, _, _, h => by simp [allB] at h
  | .tuple _ :: _, _, _, h => by simp [allB] at h
  | .dict _ :: _, _, _, h => by simp [allB] at h
def idxF : D → Option D
  | .list ds => if allB ds = true then (idxT ds 0).map fun k => .int (k : Nat) else none
  | _ => none
def mIdx (f : M D) : M D := bnd f fun d => lft (idxF d)
theorem ev_idx {K : PySem.W.Frag} {t : TE} {f : M D} (h : Ev B EX VD t f) : Ev B EX VD (tBM K "list" (rIndex K) t (tCons (tC (.bl true)) tNil)) (mIdx f) := by
  refine Ev.bind (tb := fun x σ H Q => tyV K "list" x H ∧ rIndex K x [.bl true] H Q) h fun d x F H σ ρ Q m p q => ?_
  cases d with
  | list ds =>
    obtain ⟨a, vs, rfl, e, l⟩ := p
    have hs : SqL K H a vs := SqL.of (m.sub _ _ e)
    have q : Post B EX F H σ ρ VD (lft (idxF (.list ds)) ρ) Q := q
    simp only [idxF] at q
    by_cases hb : allB ds = true
    · rw [if_pos hb] at q
      cases ek : idxT ds 0 with
      | none => rw [ek] at q; exact q.elim
      | some k =>
        rw [ek] at q
        obtain ⟨_, k2, k3⟩ := idxT_ok l ek
        exact ⟨.inl ⟨rfl, vs, hs⟩, a, vs, .bl true, k, .bl true, rfl, rfl, hs, rfl, allB_ok l hb, by simpa using k2, rfl, fun m' z hm hz => by rw [k3 m' z (by omega) hz]; rfl, q (.int (k : Nat)) F H m.refl rfl⟩
    · rw [if_neg hb] at q; exact q.elim
  | _ => exact q.elim
theorem je_idx {K : PySem.W.Frag} (i : Nat) {y : Str} {p3 p4 : Pos} {j} (hN : X.N[i]? = some y := by rfl) (hv : Vis X.env.scope y := by first | exact Or.inl rfl | exact Or.inr (Or.inl rfl) | exact Or.inr (Or.inr rfl)) (hd : (y == ("__debug__" : Str)) = false := by decide) (hcd : (y == ("__classdict__" : Str)) = false := by decide)
    (hbase : attributeBase (.Name y p1) "index" X.env (eval (.Name y p1) X.env) = eval (.Name y p1) X.env := by rfl)
    (hfew : ((backTo p3 (starEach [Expr.Constant (.bool true) j p4] X.env)).all (fun x => !x.1) && (backToKw p3 (keywordEach [] X.env)).all (fun x => x.1.isSome) && decide (([Expr.Constant (.bool true) j p4] : List Expr).length + ([] : List Keyword).length + (if ([] : List Keyword).isEmpty then 0 else 1) < 30)) = true := by rfl)
    (hline : (p2.endLine == p3.line) = true := by rfl) (hst : starEach [Expr.Constant (.bool true) j p4] X.env = (false, eval (Expr.Constant (.bool true) j p4) X.env) :: starEach [] X.env := by rfl) (hpl : (backTo p3 (starEach [] X.env)).any (·.1) = false := by rfl) (hK : X.K = K := by rfl) :
    JE X B EX (.Call (.Attribute (.Name y p1) "index" p2) [.Constant (.bool true) j p4] [] p3) (tBM K "list" (rIndex K) (tVar i) (tCons (tC (.bl true)) tNil)) (mIdx (mVar i)) := by
  subst hK
  exact ⟨pe_bm PySem.F.plainAttrs_list PySem.F.slot_list_index PySem.F.type_list_index mt_index (pv i hN hv hd hcd) (pa_cons pe_bl pa_nil hst) hbase hfew hline hst hpl, ev_idx ev_var⟩
end
end Rn
end

section
set_option Elab.async false
set_option linter.all false
set_option autoImplicit false
set_option maxRecDepth 100000
set_option maxHeartbeats 2000000
/-! Hot4: the def that looks at a caught error, called; a lambda handed to a def, its errors' contexts known. -/
namespace Rn
open PySem PySem.Spec PyProof.Rows L2 L2H HotX

/-! ### _law_term -/
def termD (c : Str) : D := .tuple [.str "error", .str c]
structure TermOk (P : Program) (w : World) (K : PySem.W.Frag) (mg : Str → Option Value) (base : Heap) (C : Str → Addr) (names : List Str) (f : Addr) (fd : FuncData) : Prop where
  run : ∀ (c : Str) (A : Around) (outer : List Env) (s : Shared) (H F : Hp) (args : Args) (Q : VK) (p : Addr × Obj), c ∈ names → RoomH 1 A → Hot1 A p → Zc (.ref (C c)) none p.2 → PinOk outer H s p → Env0 P w K mg base A outer s H → BindsTo s fd args [("e", .ref p.1)] → Same F H →
    (∀ v F' H', Ext F H F' H' → Den F' (termD c) v → Q v H') → codeAny (model P w) A (.call (.ref f) args) (CR CX0 outer P w H s Q E0) s
abbrev ctxT (P : Program) (w : World) (K : PySem.W.Frag) (mg : Str → Option Value) (base : Heap) (N : List Str) (scope : Scope) (f : Addr) (cdv : Value) (A : Around) (outer : List Env) (s : Shared) (H : Hp) (p : Addr × Obj) : Cx := cxH CX0 P w K mg base N "_law_term" scope f cdv A outer s H E0 p
theorem hotc_T {P : Program} {w : World} {K : PySem.W.Frag} {mg : Str → Option Value} {base : Heap} {N : List Str} {scope : Scope} {f : Addr} {cdv : Value} {A : Around} {outer : List Env} {s : Shared} {H : Hp} {p : Addr × Obj} (h : Hot1 A p) : HotC (ctxT P w K mg base N scope f cdv A outer s H p) :=
  ⟨p, h, List.mem_singleton.mpr rfl⟩
theorem termOk_of {P : Program} {w : World} {K : PySem.W.Frag} {mg : Str → Option Value} {base : Heap} {C : Str → Addr} {names : List Str} {f : Addr} {fd : FuncData} {st : Stmt} {N : List Str} {body : Str → S} (h : FnP K "_law_term" st f fd) (Sc : FnScope N ["e"] (defScope st))
    (hv : ∀ c, c ∈ names → ∃ r, body c (Cell.va 0 :: List.replicate (N.length - 1) .no) = .rt (termD c) r) (hN : 0 < N.length)
    (hb : ∀ (c : Str) (cdv : Value) (A : Around) (outer : List Env) (s : Shared) (H : Hp) (p : Addr × Obj), c ∈ names → Hot1 A p → Zc (.ref (C c)) none p.2 → RoomH 0 (A.deeper (envOfC "_law_term" (defScope st) s.heap.objs.size f cdv)) →
      ∃ t, ∀ (B : Bd) (EX : Str → Hp → Prop), B.vals[0]? = some (.ref p.1) → JSs (ctxT P w K mg base N (defScope st) f cdv A outer s H p) B EX (defBody st) t (body c)) : TermOk P w K mg base C names f fd := by
  refine ⟨fun c A outer s H F args Q p hc hr hot hz hpin e0 hbd sF hQ => ?_⟩
  obtain ⟨oc, od, dV, kV, doc, pm, an, cdv, ct, osl, rfl, lk, hcd, _, _⟩ := h.ex
  have KX : K.In s.heap := e0.mod.kin.keeps fun b o e => (e0.bs b o e).1
  have lim : s.heap.NoLimit := e0.mod.nolimit.keeps fun b o e => (e0.bs b o e).1
  have hkind : ∀ y ∈ [(("e" : Str), Value.ref p.1)], (defScope st).names.lookup y.1 = some .local ∨ ((defScope st).names.lookup y.1 = some .cell ∧ ((cellsFrom (s.heap.objs.size + 1) (defScope st).names []).lookup y.1).isSome = true) := fun y hy => by
    obtain rfl : y = (("e" : Str), Value.ref p.1) := by simpa using hy
    exact (Sc.par "e" (by simp)).imp id fun q => ⟨q, PySem.W.cellsFrom_some _ _ _ (.inl q)⟩
  refine codeAny_call_function hr.depth (KX _ _ lk) rfl Sc.co Sc.gen rfl (PySem.W.codeRec_of KX hcd) (hbd _ _ _ _ ?_)
  refine wpAny_newFunctionEnv_cells Sc.kind hkind fun env he s1 x => ?_
  subst he
  refine ⟨lim.keeps x.toInCall.keep, codeAny_func ?_⟩
  obtain ⟨t, ht⟩ := hb c cdv A outer s H p hc hot hz (hr.deeper _)
  have I : Inv (ctxT P w K mg base N (defScope st) f cdv A outer s H p) [] (L2.start N [.ref p.1]) H s1 := inv_startH (ps := ["e"]) (us := [.ref p.1]) Sc hpin e0 rfl (.cons rfl .nil) x
  have B0 : (⟨H, F, [], [], [.ref p.1]⟩ : Bd).vals[0]? = some (.ref p.1) := rfl
  have J := ht ⟨H, F, [], [], [.ref p.1]⟩ EX0 B0
  have m0 : Mt ⟨H, F, [], [], [.ref p.1]⟩ F H (L2.start N [.ref p.1]) (Cell.va 0 :: List.replicate (N.length - 1) .no) := by
    refine ⟨sF, Same.refl _, fun _ _ z => .inl z, fun _ _ z _ _ => z, fun _ z => z, by simp [L2.start], fun j v c0 h1 h2 => ?_, fun j k a c0 c' h1 h2 h3 h4 h5 h6 => ?_, fun _ z => (nomatch z), fun _ z => (nomatch z)⟩
    · cases j with
      | zero =>
        simp [L2.start] at h1 h2
        subst h1; subst h2
        exact ⟨.ref p.1, rfl, rfl⟩
      | succ j =>
        rw [List.getElem?_cons_succ] at h2
        rw [(List.mem_replicate.mp (List.mem_of_getElem? h2)).2]
        trivial
    · have no : ∀ (j : Nat) (c1 : Cell), (Cell.va 0 :: List.replicate (N.length - 1) .no)[j]? = some c1 → c1.own = true → False := fun j c1 z1 z2 => by
        rcases List.mem_cons.mp (List.mem_of_getElem? z1) with q | q
        · rw [q] at z2; cases z2
        · rw [(List.mem_replicate.mp q).2] at z2; cases z2
      exact (no j c0 h3 h5).elim
  obtain ⟨r, hr'⟩ := hv c hc
  have hq : t { nx := fun _ H' => Q .non H', rt := Q } (L2.start N [.ref p.1]) H := by
    refine J.v F H _ _ _ m0 ?_
    rw [hr']
    exact fun v σ' F' H' m s2 dv => hQ v F' H' ⟨fun a o z => m.frm a o z (by simp) (fun _ z => (nomatch z)), m.old, m.sub, m.new⟩ dv
  refine wpAny_mono (J.p.run [] s1 (L2.start N [.ref p.1]) H _ I hq) (fun fl s' hs => ?_) fun e s' hs => ?_
  · have fin : ∀ {σ' : L2.St} {H' : Hp} {v : V} {u : Value}, Inv (ctxT P w K mg base N (defScope st) f cdv A outer s H p) [] σ' H' s' → RelV v u → Q v H' → CE outer P w H s Q u s' := fun {σ' H' v u} J rv q => ⟨v, H', J.os, J.bare, J.base, J.hok, rv, q⟩
    cases fl with
    | ret u =>
      obtain ⟨v, σ', H', J, rv, q⟩ := hs
      exact fin J rv q
    | next =>
      obtain ⟨σ', H', J, q⟩ := hs
      exact fin (v := V.non) (u := Value.none) J rfl q
    | brk =>
      obtain ⟨_, _, _, q⟩ := hs
      exact False.elim q
    | cont =>
      obtain ⟨_, _, _, q⟩ := hs
      exact False.elim q
  · exact hs

/-! ### lambdas -/
def lamCxN (X : Cx) (A : Around) (outer : List Env) (s : Shared) (H : Hp) (E : XK) (scope : Scope) (f c' : Addr) : Cx :=
  { LamX.lamCx X A outer s H E scope f c' with
    xe := fun e s' => wpAny (model X.prog X.w) (A.deeper (LamX.lamEnv X scope s.heap.objs.size f c')) (leaving (LamX.lamEnv X scope s.heap.objs.size f c') e) (fun _ s'' => L2N.CX X.prog X.w outer H s E e s'') (fun e' s'' => L2N.CX X.prog X.w outer H s E e' s'') s' }
theorem inv_N {X : Cx} {A : Around} {outer : List Env} {s s1 : Shared} {H H1 : Hp} {E : XK} {scope : Scope} {f c' : Addr} {pins : List (Addr × Obj)} {σ : L2.St} (I : Inv (LamX.lamCx X A outer s H E scope f c') pins σ H1 s1) : Inv (lamCxN X A outer s H E scope f c') pins σ H1 s1 := by
  obtain ⟨ok, os, bare, bs, loc, cell, free, freeC, pin, hok, len⟩ := I
  obtain ⟨o1, o2, o3, o4, o5, o6, o7, o8, o9, o10, o11, o12, o13, o14, o15, o16, o17, o18⟩ := ok
  exact ⟨⟨o1, o2, o3, o4, o5, o6, o7, o8, o9, o10, o11, o12, o13, o14, o15, o16, o17, o18⟩, os, bare, bs, loc, cell, free, freeC, pin, hok, len⟩
/-- the lambda is made; but for the maker's table all stays -/
theorem lam_make3 {X : Cx} {pins : List (Addr × Obj)} {σ : L2.St} {H : Hp} {s : Shared} {T : List (Addr × Str)} {c P : Addr} {params : Arguments} {body : Expr} {scope : Scope} {pos : Pos} {E : Value → Shared → Prop} {Q : Value → Shared → Prop} (I : Inv X pins σ H s) (TB : LamX.TabB X.base X.mg c P) (hcode : X.env.code = .ref c)
    (hm : (P, X.env.qual ++ "<lambda>") ∈ T) (hu : ∀ p ∈ T, p.1 = P → p.2 = X.env.qual ++ "<lambda>") (hT : LamX.Tabs T H) (hdef : defaultsOf params X.env = ([], [])) (hfree : ∀ y ∈ scope.names, y.2 = .free → ∃ c, X.env.cells.lookup y.1 = some c)
    (h : ∀ (f c' : Addr) (pm ctv : Value) (H1 : Hp) (s' : Shared), Inv X pins σ H1 s' → (∀ b o, H b = some o → b ≠ P → H1 b = some o) → (∀ b, H1 b = none → H b = none) → LamX.Tabs T H1 →
      s'.heap.get? f = some (PySem.W.kla_obj "<lambda>" (X.env.qual ++ "<lambda>") params body scope (cloFrom X.env.cells scope.names []) pm c' ctv) → H1 f = none → f ∉ frs X.stack → H1 c' = some (LamX.CodeO c' (X.env.qual ++ "<lambda>")) → Q (.ref f) s') :
    wpAny (model X.prog X.w) X.A (eval (.Lambda params body scope pos) X.env) Q E s := by
  obtain ⟨ps, hP, ht, ha⟩ := hT _ hm
  have bP : s.heap.BuiltinsAt X.mg P := TB.bm.keeps I.bk
  have hP' : s.heap.get? P = some { cls := .none, data := .fields ps } := I.hok P _ hP
  have nofr : ∀ f, s.heap.objs.size ≤ f → f ∉ frs X.stack := fun f hf z => by
    rcases List.mem_cons.mp (I.stkSub _ z) with e | e
    · have h1 := I.lt
      rw [← e] at h1
      exact Nat.lt_irrefl _ (Nat.lt_of_lt_of_le h1 hf)
    · exact I.nofs hf e
  refine PySem.W.kla_eval hdef ?_
  cases hc : codeAmong pos ps.toList with
  | some cv =>
    obtain ⟨c', e, hco⟩ := ha pos cv hc
    subst e
    refine PySem.W.kla_makeFunctionHit (mg := X.mg) (c := c) (P := P) (ps := ps) (closure_ok hfree) I.ok.glob (I.mod.glob.keeps I.bk) hcode (TB.code.keeps I.bk) hP' ht hc bP fun ctv h' tk hx hsz => ?_
    exact h h'.objs.size c' ((X.mg "__name__").getD .none) ctv H _ (I.kept fun b o e => Heap.get?_push_of_some _ (hx b o e)) (fun _ _ z _ => z) (fun _ z => z) hT (Heap.get?_push_size _ rfl) (I.hok.fresh hsz) (nofr _ hsz) hco
  | none =>
    refine PySem.W.kla_makeFunction (mg := X.mg) (c := c) (P := P) (ps := ps) (closure_ok hfree) I.ok.glob (I.mod.glob.keeps I.bk) hcode (TB.code.keeps I.bk) hP' ht hc TB.gP bP fun c' ctv h' tk hx hge hlt hrec htb => ?_
    obtain ⟨c2, oc, vs, t, e2, hoc, hd, hv⟩ := hrec
    cases e2
    have nC : H c' = none := I.hok.fresh hge
    have nPC : P ≠ c' := ne_of_none hP nC
    have hsz : s.heap.objs.size ≤ h'.objs.size := Nat.le_trans hge (Nat.le_of_lt hlt)
    obtain ⟨H1, hH1⟩ : ∃ H1, H1 = upd (upd H P (.tbl (ps ++ #[rawInt pos.line, rawInt pos.col, .ref c']))) c' (LamX.CodeO c' (X.env.qual ++ "<lambda>")) := ⟨_, rfl⟩
    have I1 := LamX.inv_table (t' := tk) (more := #[rawInt pos.line, rawInt pos.col, .ref c']) (h' := h'.push (PySem.W.kla_obj "<lambda>" (X.env.qual ++ "<lambda>") params body scope (cloFrom X.env.cells scope.names []) ((X.mg "__name__").getD .none) c' ctv)) I hP
      (fun b o hb e => Heap.get?_push_of_some _ (hx b o hb e)) (Heap.get?_push_of_some _ htb) hge ⟨oc, vs, t, Heap.get?_push_of_some _ hoc, hd, hv⟩
    rw [← hH1] at I1
    have keep : ∀ b o, H b = some o → b ≠ P → H1 b = some o := fun b o e n => by rw [hH1, upd_ne (ne_of_none e nC), upd_ne n]; exact e
    have code : ∀ c0, H c0 = some (LamX.CodeO c0 (X.env.qual ++ "<lambda>")) → c0 ≠ P := fun c0 e z => by
      rw [z, hP] at e
      exact LamX.codeO_ne _ (Option.some.inj e).symm
    have dom : ∀ b, H1 b = none → H b = none := fun b e => by
      cases q : H b with
      | none => rfl
      | some o =>
        by_cases hb : b = P
        · rw [hH1, hb, upd_ne nPC, upd_same] at e; cases e
        · rw [keep b o q hb] at e; cases e
    have new : H1 h'.objs.size = none := by
      rw [hH1, upd_ne (Nat.ne_of_gt hlt), upd_ne (Nat.ne_of_gt (Nat.lt_of_lt_of_le (Heap.lt_size hP') hsz))]
      exact I.hok.fresh hsz
    refine h h'.objs.size c' ((X.mg "__name__").getD .none) ctv H1 _ I1 keep dom (fun p hp => ?_) (Heap.get?_push_size _ rfl) new (nofr _ hsz) (by rw [hH1]; exact upd_same)
    by_cases hb : p.1 = P
    · have eL : (ps ++ #[rawInt pos.line, rawInt pos.col, .ref c']).toList = ps.toList ++ [rawInt pos.line, rawInt pos.col, .ref c'] := by simp
      rw [hu p hp hb, hb]
      refine ⟨_, by rw [hH1, upd_ne nPC, upd_same], by rw [eL]; exact PySem.TriplesOk_snoc _ _ _ _ ht, fun p' cv hcv => ?_⟩
      rw [eL] at hcv
      rcases LamX.among_app _ ht hcv with z | z
      · obtain ⟨c0, e1, e2⟩ := ha p' cv z
        exact ⟨c0, e1, keep _ _ e2 (code c0 e2)⟩
      · exact ⟨c', z, by rw [hH1]; exact upd_same⟩
    · obtain ⟨ps', a1, a2, a3⟩ := hT p hp
      refine ⟨ps', keep _ _ a1 hb, a2, fun p' cv hcv => ?_⟩
      obtain ⟨c0, e1, e2⟩ := a3 p' cv hcv
      refine ⟨c0, e1, keep _ _ e2 fun z => ?_⟩
      rw [z, hP] at e2
      exact LamX.codeO_ne _ (Option.some.inj e2).symm
def tLamN (T : List (Addr × Str)) (P : Addr) (TT : (XK → Hp → VK → Prop) → Hp → VK → Prop) (t : XK → TE) : TE := fun σ H Q => LamX.Tabs T H ∧ ∀ H1, (∀ b o, H b = some o → b ≠ P → H1 b = some o) → (∀ b, H1 b = none → H b = none) → LamX.Tabs T H1 → TT (fun E H' Q' => t E σ H' Q') H1 Q
section
variable {X : Cx} {pins : List (Addr × Obj)} {σ : L2.St} {H HZ : Hp} {s s1 : Shared}
theorem pe_actN {CXg : CXT} {Eg : XK} {Ng : List Str} {qg : Str} {sg : Scope} {g f c' : Addr} {cdg pm ctv : Value} {params : Arguments} {body : Expr} {scope : Scope} {k i : Nat} {a : Str} {pn : List (Addr × Obj)} {xe : Value → Shared → Prop} {W : WX} {E : XK} {tb : TE} {p1 p2 : Pos}
    (I : Inv X pins σ H s) (L : LamX.LamS X.env.scope scope) (hf : s.heap.get? f = some (PySem.W.kla_obj "<lambda>" (X.env.qual ++ "<lambda>") params body scope (cloFrom X.env.cells scope.names []) pm c' ctv)) (hfn : H f = none) (hfr : f ∉ frs X.stack)
    (hbind : bindArgs (PySem.W.kla_fn "<lambda>" (X.env.qual ++ "<lambda>") params body scope (cloFrom X.env.cells scope.names []) pm (.ref c') ctv) ⟨[], []⟩ = pure [])
    (tk : L2N.Takes ((cxOf CXg X.prog X.w X.K X.mg X.base Ng qg sg g cdg X.A X.stack s H Eg).tr pn xe) W) (hW : ∀ cls d σ' H', E cls d H' → W cls d σ' H') (hr : Room (k + 1) (X.A.deeper (envOfC qg sg s.heap.objs.size g cdg)))
    (hbody : ∀ (A : Around) (outer : List Env) (s : Shared) (H : Hp), Room k (A.deeper (LamX.lamEnv X scope s.heap.objs.size f c')) → PE (lamCxN X A outer s H E scope f c') body tb)
    (hN : Ng[i]? = some a) (hv : Vis sg a) (hd : (a == ("__debug__" : Str)) = false := by decide) (hcd : (a == ("__classdict__" : Str)) = false := by decide) :
    PE ((cxOf CXg X.prog X.w X.K X.mg X.base Ng qg sg g cdg X.A X.stack s H Eg).tr pn xe) (.Call (.Name a p1) [] [] p2)
      (fun σZ HZ Q => σZ[i]? = some (some (.ref f)) ∧ HZ c' = some (LamX.CodeO c' (X.env.qual ++ "<lambda>")) ∧ tb σ HZ Q) := by
  refine ⟨fun pinsZ sZ σZ HZ Q IZ h => ?_⟩
  obtain ⟨hs, hc, ht⟩ := h
  refine wpAny_Call_Name_kw (thn ((pe_var (pos := p1) (i := i) hN hv hd hcd).run pinsZ sZ σZ HZ (fun v H1 => v = .ref f ∧ H1 = HZ) IZ ⟨.ref f, hs, rfl, rfl⟩) fun u s1 hu => ?_)
  obtain ⟨v, H1, I1, r1, ev, eH⟩ := hu
  subst ev
  rw [eH] at I1
  obtain rfl : u = Value.ref f := r1
  have of1 := I1.base.keep f _ hf hfn hfr (fun z => nomatch (show f ∈ ([] : List Addr) from z))
  refine PySem.W.callWith_F0 ⟨_, _, _, _, of1⟩ ?_
  have un : Un (frs X.stack) [] H HZ s.heap s1.heap := I1.base
  obtain ⟨⟨oc, vs, t, hoc, hdc, hvc⟩, _, _⟩ := I1.hok c' _ hc
  have rc : codeAny (model X.prog X.w) (X.A.deeper (envOfC qg sg s.heap.objs.size g cdg)) (.call (.ref f) ⟨[], []⟩) (CR (L2N.CX X.prog X.w) (envOfC qg sg s.heap.objs.size g cdg :: X.stack) X.prog X.w HZ s1 Q E) s1 := by
    refine PySem.W.kla_callFunE hr.depth of1 rfl L.co L.gen rfl ⟨c', oc, vs, t, rfl, hoc, hdc, hvc⟩ ?_
    rw [hbind]
    refine wpAny_pure (wpAny_newFunctionEnv (fun y hy => (L.own y hy).2) (fun y hy => absurd hy (by simp)) (fun h₁ hns hsb => ⟨I1.nolimit.fresh _ hsb, ?_⟩) L.kind)
    show codeAny _ _ (.expr body (LamX.lamEnv X scope s1.heap.objs.size f c')) _ _
    have kp : ∀ b o, s1.heap.get? b = some o → h₁.get? b = some o := fun b o e => hsb.extBut b o (Nat.ne_of_lt (Heap.lt_size e)) (Heap.get?_push_of_some _ e)
    have J := inv_N (LamX.lam_start2 (E := E) (f := f) (c' := c') (tk := s1.toks + ([] : List (Str × Value)).length) I L I1.env0 hr.hd un hns kp)
    refine PySem.W.kla_codeExpr (wpAny_mono ((hbody _ _ s1 HZ (hr.deeper _)).run [] _ _ HZ Q J ht) (fun v s' hq => ?_) fun e s' hq => hq)
    obtain ⟨w', H', J', rv, q⟩ := hq
    exact ⟨w', H', J'.os, J'.bare, J'.base, J'.hok, rv, q⟩
  have hx : Passes (L2N.CX X.prog X.w) ((cxOf CXg X.prog X.w X.K X.mg X.base Ng qg sg g cdg X.A X.stack s H Eg).tr pn xe) E := L2N.passes_call tk hW
  refine wpAny_call (codeAny_mono rc fun r s' hq => ?_)
  cases r with
  | error e => exact hx pinsZ σZ HZ s1 e s' I1 hq
  | ok fl =>
    cases fl with
    | ret u => exact I1.after hq
    | next => exact False.elim hq
    | brk => exact False.elim hq
    | cont => exact False.elim hq
/-- the def that calls what it got -/
def GivesN (X : Cx) (Ng : List Str) (x : Str) (sg : Scope) (g : Addr) (cdg : Value) (bg : List Stmt) (a : Str) (q : Str) (k : Nat) (TT : (XK → Hp → VK → Prop) → Hp → VK → Prop) : Prop :=
  ∀ (f c' : Addr) (s : Shared) (H : Hp) (Q : VK) (tl : XK → Hp → VK → Prop), Room k (X.A.deeper (envOfC x sg s.heap.objs.size g cdg)) →
    (∀ (W : WX) (pn : List (Addr × Obj)) (xe : Value → Shared → Prop) (E : XK) (p1 p2 : Pos), L2N.Takes ((cxOf CX0 X.prog X.w X.K X.mg X.base Ng x sg g cdg X.A X.stack s H E0).tr pn xe) W → (∀ cls d σ' H', E cls d H' → W cls d σ' H') →
      PE ((cxOf CX0 X.prog X.w X.K X.mg X.base Ng x sg g cdg X.A X.stack s H E0).tr pn xe) (.Call (.Name a p1) [] [] p2) (fun σZ HZ Q => σZ[0]? = some (some (.ref f)) ∧ HZ c' = some (LamX.CodeO c' q) ∧ tl E HZ Q)) →
    H c' = some (LamX.CodeO c' q) → TT tl H Q →
    ∃ t, PSs (cxOf CX0 X.prog X.w X.K X.mg X.base Ng x sg g cdg X.A X.stack s H E0).nox bg t ∧ t { nx := fun _ H' => Q .non H', rt := Q } (L2.start Ng [.ref f]) H
theorem pe_lamcallN {T : List (Addr × Str)} {TT : (XK → Hp → VK → Prop) → Hp → VK → Prop} {x a : Str} {g c P : Addr} {k : Nat} {pg : Arguments} {bg : List Stmt} {sg : Scope} {dV kV doc pm cdv ct oc : Value} {an od : Option Addr} {osl : Array (Option Value)} {Ng : List Str}
    {params : Arguments} {body : Expr} {scope : Scope} {t : XK → TE} {p lpos pos : Pos} (hg : Gl X x) (hm : X.mg x = some (.ref g)) (hk : PySem.W.keepIn X.K (.ref g) = true)
    (lk : X.K.lookup g = some ⟨oc, od, .func (PySem.W.fnOf x x pg bg sg dV kV doc pm an cdv ct), osl⟩) (hcg : PySem.W.codeIn X.K cdv x = true) (hb : L2.Binds X.K (PySem.W.fnOf x x pg bg sg dV kV doc pm an cdv ct) [a] []) (Sg : FnScope Ng [a] sg) (hNg : Ng[0]? = some a) (hva : Vis sg a)
    (hG : GivesN X Ng x sg g cdv bg a (X.env.qual ++ "<lambda>") (k + 1) TT)
    (TB : LamX.TabB X.base X.mg c P) (hcode : X.env.code = .ref c) (hmT : (P, X.env.qual ++ "<lambda>") ∈ T) (hu : ∀ p ∈ T, p.1 = P → p.2 = X.env.qual ++ "<lambda>") (hr : Room (k + 2) X.A) (L : LamX.LamS X.env.scope scope) (hdef : defaultsOf params X.env = ([], []))
    (hbind : ∀ (q : Str) (cl : List (Str × Addr)) (pm cv ctv : Value), bindArgs (PySem.W.kla_fn "<lambda>" q params body scope cl pm cv ctv) ⟨[], []⟩ = pure [])
    (hbody : ∀ (A : Around) (outer : List Env) (s : Shared) (H : Hp) (E : XK) (f c' : Addr), Room k (A.deeper (LamX.lamEnv X scope s.heap.objs.size f c')) → PE (lamCxN X A outer s H E scope f c') body (t E))
    (hdb : (x == ("__debug__" : Str)) = false := by decide) (hd : (a == ("__debug__" : Str)) = false := by decide) (hcd : (a == ("__classdict__" : Str)) = false := by decide) :
    PE X (.Call (.Name x p) [.Lambda params body scope lpos] [] pos) (tLamN T P TT t) := by
  refine ⟨fun pins s σ H Q I h => ?_⟩
  obtain ⟨hT, h⟩ := h
  refine wpAny_Call_Name_kw (ld_glob I hg hm ?_ hdb)
  refine PySem.W.callWith_K (h₀ := X.base) I.ok.mod.kin hk ?_ (by rfl) (by rfl)
  show wpAny _ _ (spliced ((false, eval (.Lambda params body scope lpos) X.env) :: backTo pos (starEach [] X.env))) _ _ s
  refine Calls.spliced_cons (lam_make3 I TB hcode hmT hu hT hdef (L.has I.ok) fun f c' pm' ctv H1 s' I1 eN dN T1 hf hfn hfr hco => ?_)
  refine Calls.spliced_nil ⟨I1.kIn, ?_⟩
  have rc : codeAny (model X.prog X.w) X.A (.call (.ref g) ⟨[.ref f], []⟩) (CR CX0 X.stack X.prog X.w H1 s' Q E0) s' := by
    refine LamX.run_ofS (N := Ng) (ps := [a]) (us := [.ref f]) (vs := [.ref f]) lk hcg Sg hr I1.env0 (hb s' [.ref f] I1.kIn rfl) (.cons rfl .nil) rfl fun hr' => ?_
    obtain ⟨t', ht', hq'⟩ := hG f c' s' H1 Q (fun E H' Q' => t E σ H' Q') hr' (fun W pn xe E p1 p2 tk hW => pe_actN (i := 0) I1 L hf hfn hfr (hbind _ _ _ _ _) tk hW hr' (fun A outer s H hr2 => hbody A outer s H E f c' hr2) hNg hva hd hcd) hco (h H1 eN dN T1)
    exact ⟨t', ht'.nox, hq'⟩
  refine wpAny_call (codeAny_mono rc fun r s2 hq => ?_)
  cases r with
  | error e => exact (show False from hq).elim
  | ok fl =>
    cases fl with
    | ret u => exact I1.after hq
    | next => exact False.elim hq
    | brk => exact False.elim hq
    | cont => exact False.elim hq
end
end Rn
end

section
set_option Elab.async false
set_option linter.all false
set_option autoImplicit false
set_option maxRecDepth 100000
set_option maxHeartbeats 2000000
/-! Hot5: try: return deed() / except RoundError as e: return _law_term(e). -/
namespace Rn
open PySem PySem.Spec PyProof.Rows L2 L2H HotX

theorem takesN0 {X : Cx} : L2N.Takes X (fun _ _ _ _ => False) := fun _ _ x => by
  obtain ⟨_, _, _, _, _, _, _, _, _, _, _, _, _, _, _, _, z⟩ := x
  exact z.elim
/-- _law_term as a def of the text -/
def TermDef (P : Program) (w : World) (K : PySem.W.Frag) (mg : Str → Option Value) (base : Heap) (C : Str → Addr) (names : List Str) : Prop :=
  ∃ f fd, TermOk P w K mg base C names f fd ∧ mg "_law_term" = some (.ref f) ∧ PySem.W.keepIn K (.ref f) = true ∧ Binds K fd ["e"] []
def tTerm (C : Str → Addr) (names : List Str) (a : Addr) (cls : Value) (d : Option Addr) : TE := fun σ H Q => ∃ c F, c ∈ names ∧ cls = .ref (C c) ∧ d = none ∧ (σ.length = 2 → σ[1]? = some (some (.ref a))) ∧ Same F H ∧ ∀ v F' H', Ext F H F' H' → Den F' (termD c) v → Q v H'
section
variable {X : Cx} {C : Str → Addr} {names : List Str} {a : Addr} {oe : Obj} {cls : Value} {d : Option Addr} {p1 p2 pos : Pos} {pn : List (Addr × Obj)}
theorem pe_term (T : TermDef X.prog X.w X.K X.mg X.base C names) (hz : L2N.Zn cls d oe) (hf : ∃ vs, oe.data = .fields vs) (hr : RoomH 1 (X.suite a ((a, oe) :: pn)).A) (h2 : X.N.length = 2) (hN : X.N[1]? = some ("e" : Str)) (hv : Vis X.env.scope "e") (hg : Gl X "_law_term")
    (he : starEach [.Name "e" p2] X.env = (false, eval (.Name "e" p2) X.env) :: starEach [] X.env := by rfl) (hpl : (backTo pos (starEach [] X.env)).any (·.1) = false := by rfl) :
    PE (X.suite a ((a, oe) :: pn)) (.Call (.Name "_law_term" p1) [.Name "e" p2] [] pos) (tTerm C names a cls d) := by
  refine ⟨fun pins s σ H Q I h => ?_⟩
  obtain ⟨f, fd, TO, hm, hk, hb⟩ := T
  obtain ⟨c, F, hc, rfl, rfl, hs, sF, hQ⟩ := h
  have hs := hs (I.len.trans h2)
  have ha : PA (X.suite a ((a, oe) :: pn)) [.Name "e" p2] (tCons (tVar 1) tNil) := pa_cons (pv 1 hN hv) pa_nil he
  refine wpAny_Call_Name_kw (ld_glob I hg hm ?_ (by decide))
  refine PySem.W.callWith_K (h₀ := X.base) I.ok.mod.kin hk (thn (ha.run pos pins s σ H (fun vs H1 => vs = [.ref a] ∧ H1 = H) I ⟨.ref a, hs, rfl, rfl⟩) fun us s1 hu => ?_) he hpl
  obtain ⟨vs, H1, I1, r, ev, eH⟩ := hu
  subst ev
  rw [eH] at I1
  refine ⟨I1.kIn, ?_⟩
  have eus : us = [Value.ref a] := by
    cases r with
    | cons rx rr =>
      cases rr
      cases rx
      rfl
  subst eus
  have b := hb s1 [.ref a] I1.kIn rfl
  have P1 := I1.pin (a, oe) (List.mem_append_left _ List.mem_cons_self)
  have hpin : PinOk (X.suite a ((a, oe) :: pn)).stack H s1 (a, oe) := ⟨P1.1, P1.2.1, fun z => (List.mem_cons.mp (I1.stkSub a z)).elim P1.2.2.1 P1.2.2.2.1, P1.2.2.2.2⟩
  obtain ⟨vs, hd⟩ := hf
  have hot : Hot1 (X.suite a ((a, oe) :: pn)).A (a, oe) := ⟨rfl, vs, hd, hz.2.2 vs hd⟩
  refine wpAny_call (codeAny_mono (TO.run c _ _ s1 H F ⟨[.ref a], []⟩ Q (a, oe) hc hr hot hz.zc hpin I1.env0 b sF hQ) fun r s' hq => ?_)
  cases r with
  | error e => exact (show False from hq).elim
  | ok fl =>
    cases fl with
    | ret u => exact I1.after hq
    | next => exact False.elim hq
    | brk => exact False.elim hq
    | cont => exact False.elim hq
end
/-- what told makes of the reading of what it calls -/
def TTold (C : Str → Addr) (names : List Str) : (XK → Hp → VK → Prop) → Hp → VK → Prop := fun tl H Q =>
  tl (fun cls d H' => ∃ c F, c ∈ names ∧ cls = .ref (C c) ∧ d = none ∧ Same F H' ∧ ∀ v F2 H2, Ext F H' F2 H2 → Den F2 (termD c) v → Q v H2) H Q
theorem told_gives {X : Cx} {C : Str → Addr} {names : List Str} {q : Str} {sg : Scope} {g CS : Addr} {cdg : Value} {k : Nat} {p1 p2 p3 p4 p5 p6 p7 p8 p9 p10 : Pos} (T : TermDef X.prog X.w X.K X.mg X.base C names) (hme : X.mg "RoundError" = some (.ref CS)) (hx : ∀ c ∈ names, PySem.W.exmOne X.K (.ref (C c)) (.ref CS) = some true)
    (hge : sg.names.lookup ("RoundError" : Str) = some .globalImplicit) (hgt : sg.names.lookup ("_law_term" : Str) = some .globalImplicit) (hle : sg.names.lookup ("e" : Str) = some .local) :
    GivesN X ["deed", "e"] "_law_told" sg g cdg [.Try [.Return (some (.Call (.Name "deed" p1) [] [] p2)) p3] [.ExceptHandler (some (.Name "RoundError" p4)) (some "e") [.Return (some (.Call (.Name "_law_term" p5) [.Name "e" p6] [] p7)) p8] p9] [] [] p10] "deed" q (k + 1) (TTold C names) := by
  intro f c' s H Q tl hr act hc h
  have hgl : Gl (cxOf CX0 X.prog X.w X.K X.mg X.base ["deed", "e"] "_law_told" sg g cdg X.A X.stack s H E0).nox "RoundError" := hge
  have hgl2 : Gl (cxOf CX0 X.prog X.w X.K X.mg X.base ["deed", "e"] "_law_told" sg g cdg X.A X.stack s H E0).nox "_law_term" := hgt
  have hrm : RoomH 1 (X.A.deeper (envOfC "_law_told" sg s.heap.objs.size g cdg)) := (roomH_of hr).mono (by omega)
  refine ⟨_, pss_one (L2N.ps_try_as (X := (cxOf CX0 X.prog X.w X.K X.mg X.base ["deed", "e"] "_law_told" sg g cdg X.A X.stack s H E0).nox) (c := .ref CS) (i := 1)
      (tb := fun W D σ H => ∃ Ech : XK, (∀ cls d σ' H', Ech cls d H' → W cls d σ' H') ∧ σ[0]? = some (some (.ref f)) ∧ H c' = some (LamX.CodeO c' q) ∧ tl Ech H D.rt)
      rfl rfl (show (["deed", "e"] : List Str).Nodup by decide) rfl hle ⟨hgl, by decide, .inl hme⟩ takesN0 (fun W pn xe tk _ => ?_) (fun a oe cls d pn hz hf => pss_one (ps_ret (pe_term T hz hf ⟨hrm.dp, hrm.un⟩ rfl rfl (.inl hle) hgl2)))), ?_⟩
  · refine ⟨fun pins s' σ H' D I h' => ?_⟩
    obtain ⟨Ech, hW, h1, h2, h3⟩ := h'
    have hp := act W pn xe Ech p1 p2 tk hW
    exact (pss_one (ps_ret (pos := p3) hp)).run pins s' σ H' D I ⟨h1, h2, h3⟩
  · refine ⟨_, fun cls d σ' H' hE => ?_, rfl, hc, h⟩
    obtain ⟨c, F, hc, rfl, rfl, sF, hQ⟩ := hE
    refine ⟨true, hx c hc, fun _ a na => ⟨c, F, hc, rfl, rfl, fun hl => ?_, sF, hQ⟩, fun z => by cases z⟩
    rw [List.getElem?_set_self (by rw [List.length_set] at hl; omega)]
end Rn
end

section
set_option Elab.async false
set_option linter.all false
set_option autoImplicit false
set_option maxRecDepth 100000
set_option maxHeartbeats 2000000
/-! Hot6: _law_told(lambda: e) as an expression. -/
namespace Rn
open PySem PySem.Spec PyProof.Rows L2 L2H HotX

def excN : List Str := ["InvalidNet", "InvalidStreams", "InvalidRound", "InvalidEvent", "InvalidInput", "InvalidArc", "InvalidNumber", "InvalidForm", "InvalidStores", "InvalidDues", "InvalidText", "Standstill", "NoTime", "Broken", "NoFit", "TooMany", "NothingToUndo"]
/-- the maker's table grows -/
theorem Mt.tab {B : Bd} {F H H1 : Hp} {σ : L2.St} {ρ : Rho} {P : Addr} {q : Str} (m : Mt B F H σ ρ) (hP : (P, q) ∈ B.T) (keep : ∀ b o, H b = some o → b ≠ P → H1 b = some o) (dom : ∀ b, H1 b = none → H b = none) (T1 : LamX.Tabs B.T H1) : Stp B F H σ ρ F H1 ρ := by
  obtain ⟨ps, h1, _⟩ := m.tabs _ hP
  have h1 : H P = some (.tbl ps) := h1
  have ldP : ∀ a o, H a = some o → LD o → a ≠ P := fun a o e l z => by
    rw [z, h1] at e
    cases e
    exact l.tbl
  have mt : Mt B F H1 σ ρ := by
    refine ⟨fun a o e => keep a o (m.sub a o e) (fun z => ?_), m.old, m.new, fun a o e n t => keep a o (m.frm a o e n t) (fun z => t _ hP z.symm), fun a e => m.dom a (dom a e), m.len, fun j v c g1 g2 => ?_, m.apart, T1, m.ntab⟩
    · have := m.ntab _ hP
      rw [z] at e
      rw [this] at e
      cases e
    · have w := m.cell j v c g1 g2
      cases c with
      | no => trivial
      | fz d => exact w
      | va k => exact w
      | ow d => obtain ⟨a, o, x1, x2, x3, x4, x5⟩ := w; exact ⟨a, o, x1, keep a o x2 (ldP a o x2 x3.ld), x3, x4, x5⟩
      | bw d => obtain ⟨a, o, x1, x2, x3, x4, x5⟩ := w; exact ⟨a, o, x1, keep a o x2 (ldP a o x2 x3.ld), x3, x4, x5⟩
  exact ⟨mt, Same.refl _, fun _ _ e => .inl e, fun a o e n t => keep a o e (fun z => t _ hP z.symm), dom, fun _ e => e, fun _ c e => ⟨c, e, KStep.refl c⟩⟩
/-- the value, or the name of the error -/
def mTold (f : M D) : M D := fun ρ => match f ρ with
  | .ok d r => .ok d r
  | .ex c r => if excN.contains c = true then .ok (termD c) r else .no
  | .no => .no
theorem ev_told {B : Bd} {EX : Str → Hp → Prop} {C : Str → Addr} {P : Addr} {q : Str} {t : XK → TE} {f : M D} (hP : (P, q) ∈ B.T) (h : ∀ E : XK, Ev B (fun c H' => E (.ref (C c)) none H') VD (t E) f) : Ev B EX VD (tLamN B.T P (TTold C excN) t) (mTold f) := by
  intro F H σ ρ Q m p
  refine ⟨m.tabs, fun H1 keep dom T1 => ?_⟩
  have x := m.tab hP keep dom T1
  refine h _ F H1 σ ρ Q x.mt ?_
  unfold mTold at p
  cases e : f ρ with
  | no => rw [e] at p; exact p
  | ok d r => rw [e] at p; exact Post.from p x
  | ex c r =>
    rw [e] at p
    simp only at p
    by_cases hc : excN.contains c = true
    · rw [if_pos hc] at p
      exact fun F' H' y => ⟨c, F', by simpa using hc, rfl, rfl, y.mt.sub, fun v F2 H2 z dv => p v F2 H2 ((x.trans y).ext z) dv⟩
    · rw [if_neg hc] at p
      exact p.elim
section
variable {P : Program} {w : World} {K : PySem.W.Frag} {mg : Str → Option Value} {base : Heap} {C : Str → Addr}
/-- a call of a def that may raise, in a lambda -/
theorem je_callL {X : Cx} {A : Around} {outer : List Env} {s : Shared} {H : Hp} {E : XK} {scope : Scope} {fl c' : Addr} {B : Bd} {x : Str} {p pos : Pos} {e : Expr} {es : List Expr} {tl : TA} {fa : M (List D)} {ps : List Str} {k j : Nat} {g : List D → RR}
    (d : DefV X.prog X.w X.K X.mg X.base (L2N.CX X.prog X.w) C x ps k g) (hr : Room j (A.deeper (LamX.lamEnv X scope s.heap.objs.size fl c'))) (ha : JA (lamCxN X A outer s H E scope fl c') B (fun c H' => E (.ref (C c)) none H') (e :: es) tl fa) (hkj : k ≤ j := by decide)
    (hg : Gl (lamCxN X A outer s H E scope fl c') x := by rfl) (hdb : (x == ("__debug__" : Str)) = false := by decide)
    (he : starEach (e :: es) (lamCxN X A outer s H E scope fl c').env = (false, eval e (lamCxN X A outer s H E scope fl c').env) :: starEach es (lamCxN X A outer s H E scope fl c').env := by rfl)
    (hpl : (backTo pos (starEach es (lamCxN X A outer s H E scope fl c').env)).any (·.1) = false := by rfl) :
    JE (lamCxN X A outer s H E scope fl c') B (fun c H' => E (.ref (C c)) none H') (.Call (.Name x p) (e :: es) [] pos) (tCall (spV C g) [] E tl) (mCall g fa) :=
  je_callX (X := lamCxN X A outer s H E scope fl c') d hr (L2N.passes_call (W := fun cls d _ H => E cls d H) (L2N.takes_of rfl rfl rfl rfl) (fun _ _ _ _ q => q)) (fun _ _ q => q) ha hkj hg hdb he hpl
/-- what the law leans on at each told call -/
structure ToldCx (X : Cx) (B : Bd) (C : Str → Addr) (st : Stmt) (c Pt : Addr) : Prop where
  has : HasF X.K X.mg "_law_told" st ["deed"]
  term : TermDef X.prog X.w X.K X.mg X.base C excN
  rerr : ∃ CS, X.mg "RoundError" = some (.ref CS) ∧ ∀ c ∈ excN, PySem.W.exmOne X.K (.ref (C c)) (.ref CS) = some true
  tab : LamX.TabB X.base X.mg c Pt
  code : X.env.code = .ref c
  T : B.T = [(Pt, X.env.qual ++ "<lambda>")]
/-- the shape of _law_told -/
structure ToldSt (st : Stmt) : Prop where
  body : ∃ p1 p2 p3 p4 p5 p6 p7 p8 p9 p10 : Pos, defBody st = [.Try [.Return (some (.Call (.Name "deed" p1) [] [] p2)) p3] [.ExceptHandler (some (.Name "RoundError" p4)) (some "e") [.Return (some (.Call (.Name "_law_term" p5) [.Name "e" p6] [] p7)) p8] p9] [] [] p10]
  scope : FnScope ["deed", "e"] ["deed"] (defScope st)
  h1 : (defScope st).names.lookup ("RoundError" : Str) = some .globalImplicit
  h2 : (defScope st).names.lookup ("_law_term" : Str) = some .globalImplicit
  h3 : (defScope st).names.lookup ("e" : Str) = some .local
  h4 : (defScope st).names.lookup ("deed" : Str) = some .local
theorem je_told {X : Cx} {B : Bd} {EX : Str → Hp → Prop} {st : Stmt} {c Pt : Addr} {params : Arguments} {body : Expr} {scope : Scope} {t : XK → TE} {f : M D} {p lpos pos : Pos} {k : Nat} (S : ToldSt st) (c0 : ToldCx X B C st c Pt) (hr : Room (k + 3) X.A)
    (hbody : ∀ (A : Around) (outer : List Env) (s : Shared) (H : Hp) (E : XK) (fl c' : Addr), Room (k + 1) (A.deeper (LamX.lamEnv X scope s.heap.objs.size fl c')) → JE (lamCxN X A outer s H E scope fl c') B (fun c H' => E (.ref (C c)) none H') body (t E) f)
    (hg : Gl X "_law_told" := by rfl) (L : LamX.LamS X.env.scope scope := by exact LamX.lamS_by (by rfl)) (hdef : defaultsOf params X.env = ([], []) := by rfl)
    (hbind : ∀ (q : Str) (cl : List (Str × Addr)) (pm cv ctv : Value), bindArgs (PySem.W.kla_fn "<lambda>" q params body scope cl pm cv ctv) ⟨[], []⟩ = pure [] := by intros; rfl) :
    JE X B EX (.Call (.Name "_law_told" p) [.Lambda params body scope lpos] [] pos) (tLamN [(Pt, X.env.qual ++ "<lambda>")] Pt (TTold C excN) t) (mTold f) := by
  obtain ⟨g, fd, F, hm, hb⟩ := c0.has
  obtain ⟨oc, od, dV, kV, doc, pm, an, cdv, ct, osl, rfl, lk, hcd, _, _⟩ := F.ex
  obtain ⟨p1, p2, p3, p4, p5, p6, p7, p8, p9, p10, eb⟩ := S.body
  obtain ⟨CS, hC1, hC2⟩ := c0.rerr
  have mem : (Pt, X.env.qual ++ "<lambda>") ∈ B.T := by rw [c0.T]; exact List.mem_singleton.mpr rfl
  have ev : ∀ E : XK, Ev B (fun c H' => E (.ref (C c)) none H') VD (t E) f := fun E => (hbody X.A X.outer X.s_0 X.H_0 E 0 0 (Room.deeper (hr.mono (by omega)) _)).v
  rw [← c0.T]
  refine ⟨?_, ev_told mem ev⟩
  refine pe_lamcallN (k := k + 1) hg hm F.kp lk hcd hb S.scope rfl (.inl S.h4) ?_ c0.tab c0.code mem (fun q hq _ => ?_) hr L hdef hbind (fun A outer s H E fl c' hr => (hbody A outer s H E fl c' hr).p)
  · rw [eb]
    exact told_gives (k := k + 1) c0.term hC1 hC2 S.h1 S.h2 S.h3
  · rw [c0.T] at hq
    rw [List.mem_singleton.mp hq]
end
end Rn
end

section
set_option Elab.async false
set_option linter.all false
set_option autoImplicit false
set_option maxRecDepth 100000
set_option maxHeartbeats 2000000
/-! Hot7: facts of the error classes, told by the head. -/
namespace Rn
open PySem PySem.Spec PyProof.Rows L2

theorem _root_.L2H.RoomH.units {k : Nat} {A : Around} (r : L2H.RoomH k A) : A.units + 64 < cLine := by have := r.un; omega
def outD : Out → Option D
  | .rt d _ => some d
  | _ => none
theorem outD_rt {o : Out} {d : D} (h : outD o = some d) : ∃ r, o = .rt d r := by
  cases o <;> first | (cases h; done) | (cases h; exact ⟨_, rfl⟩)
structure ErrF (K : PySem.W.Frag) (C : Str → Addr) : Prop where
  exc : ∀ c ∈ excN, ExcC K (C c)
  kit : ∀ c ∈ excN, ∀ d ∈ excN, PySem.W.kitOne K (.ref (C c)) (.ref (C d)) = some (c == d)
  val : ∀ c ∈ excN, PySem.W.kitOne K (.ref (C c)) (.type "ValueError") = some true
  rnd : ∀ c ∈ excN, PySem.W.exmOne K (.ref (C c)) (.ref (C "RoundError")) = some true
def excB (K : PySem.W.Frag) (D : Addr) : Bool :=
  He.eqO (PySem.W.findIn K (.ref D) "__getattribute__") (some (some (.builtin "BaseException.__getattribute__"))) && (He.eqO (PySem.W.findIn K (.ref D) "__getattr__") (some none) && (decide (PySem.W.subIn K (.ref D) (.type "BaseException") = some true) && (PySem.W.hasDictIn K D &&
    (He.eqO (PySem.W.findIn K (.ref D) "__class__") (some (some (.builtin "object.__class__"))) && (He.eqO (PySem.W.specialIn K (.builtin "object.__class__") "__get__") (some (some (.builtin "getset_descriptor.__get__"))) && (decide (PySem.W.takesIn K (.builtin "object.__class__") = some true) && decide (PySem.W.mroIn K D (.type "object") = some true)))))))
theorem excB_ok {K : PySem.W.Frag} {D : Addr} (h : excB K D = true) : ExcC K D := by
  unfold excB at h
  obtain ⟨h1, h⟩ := He.ba h
  obtain ⟨h2, h⟩ := He.ba h
  obtain ⟨h3, h⟩ := He.ba h
  obtain ⟨h4, h⟩ := He.ba h
  obtain ⟨h5, h⟩ := He.ba h
  obtain ⟨h6, h⟩ := He.ba h
  obtain ⟨h7, h⟩ := He.ba h
  exact ⟨He.eqO_ok h1, He.eqO_ok h2, of_decide_eq_true h3, h4, He.eqO_ok h5, He.eqO_ok h6, of_decide_eq_true h7, of_decide_eq_true h⟩
def errB (K : PySem.W.Frag) : Bool := excN.all fun c => excB K (He.ga K c) && (decide (PySem.W.kitOne K (.ref (He.ga K c)) (.type "ValueError") = some true) && (decide (PySem.W.exmOne K (.ref (He.ga K c)) (.ref (He.ga K "RoundError")) = some true) &&
  excN.all fun d => decide (PySem.W.kitOne K (.ref (He.ga K c)) (.ref (He.ga K d)) = some (c == d))))
theorem errB_ok {K : PySem.W.Frag} (h : errB K = true) : ErrF K (He.ga K) := by
  have g : ∀ c ∈ excN, _ := fun c hc => List.all_eq_true.mp h c hc
  refine ⟨fun c hc => excB_ok (He.ba (g c hc)).1, fun c hc d hd => ?_, fun c hc => of_decide_eq_true (He.ba (He.ba (g c hc)).2).1, fun c hc => of_decide_eq_true (He.ba (He.ba (He.ba (g c hc)).2).2).1⟩
  exact of_decide_eq_true (List.all_eq_true.mp (He.ba (He.ba (He.ba (g c hc)).2).2).2 d hd)
/-- the law's def, its code object known -/
theorem law_ok {P : Program} {w : World} {K : PySem.W.Frag} {mg : Str → Option Value} {base : Heap} {st : Stmt} {f : Addr} {fd : FuncData} {N ps : List Str} {k : Nat} {sp : Sp} {CX : CXT} {x : Str} {c : Addr} (F : FnP K x st f fd) (hc : fd.code = .ref c) (S : FnScope N ps (defScope st)) (len : ∀ vs H Q E, sp vs H Q E → vs.length = ps.length)
    (hbody : ∀ (A : Around) (outer : List Env) (s : Shared) (H : Hp) (vs : List V) (Q : VK) (E : XK), Room k (A.deeper (envOfC x (defScope st) s.heap.objs.size f (.ref c))) → sp vs H Q E →
      ∃ t, PSs (cxOf CX P w K mg base N x (defScope st) f (.ref c) A outer s H E) (defBody st) t ∧ t { nx := fun _ H' => Q .non H', rt := Q } (L2.start N vs) H) : FnOk P w K mg base CX (k + 1) f fd ps sp := by
  obtain ⟨oc, od, dV, kV, doc, pm, an, cdv, ct, osl, rfl, lk, hcd, _, _⟩ := F.ex
  obtain rfl : cdv = .ref c := hc
  exact fn_of lk hcd S len fun A outer s H vs Q E hr hsp => hbody A outer s H vs Q E hr hsp
end Rn
end

section
set_option Elab.async false
set_option linter.all false
set_option maxRecDepth 100000
set_option maxHeartbeats 4000000
namespace Rn
open PySem PySem.Spec L2

def top (i : Nat) : Stmt := PySem.Challenge.pw_roundnets_k06_whole_first_places.main.body.getD i (.Pass ⟨0, 0, 0, 0⟩)
/-- what the text leaves free, its numbers, its errors -/
structure Nm (K : PySem.W.Frag) (mg : Str → Option Value) (C : Str → Addr) : Prop where
  ValueError : mg "ValueError" = none
  all : mg "all" = none
  any : mg "any" = none
  bool : mg "bool" = none
  enumerate : mg "enumerate" = none
  int : mg "int" = none
  isinstance : mg "isinstance" = none
  len : mg "len" = none
  list : mg "list" = none
  max : mg "max" = none
  min : mg "min" = none
  range : mg "range" = none
  sum : mg "sum" = none
  tuple : mg "tuple" = none
  X_RoundError : ExcF K mg C "RoundError"
  X_InvalidNet : ExcF K mg C "InvalidNet"
  X_InvalidStreams : ExcF K mg C "InvalidStreams"
  X_InvalidRound : ExcF K mg C "InvalidRound"
  X_InvalidEvent : ExcF K mg C "InvalidEvent"
  X_InvalidInput : ExcF K mg C "InvalidInput"
  X_InvalidArc : ExcF K mg C "InvalidArc"
  X_InvalidNumber : ExcF K mg C "InvalidNumber"
  X_InvalidForm : ExcF K mg C "InvalidForm"
  X_InvalidStores : ExcF K mg C "InvalidStores"
  X_InvalidDues : ExcF K mg C "InvalidDues"
  X_InvalidText : ExcF K mg C "InvalidText"
  X_Standstill : ExcF K mg C "Standstill"
  X_NoTime : ExcF K mg C "NoTime"
  X_Broken : ExcF K mg C "Broken"
  X_NoFit : ExcF K mg C "NoFit"
  X_TooMany : ExcF K mg C "TooMany"
  X_NothingToUndo : ExcF K mg C "NothingToUndo"

/-! ### is_whole -/
abbrev s_is_whole : Stmt := top 20
def b_is_whole : S := sRet (mAndV (mIsi pInt (mVarT 0)) (mAndV (mNotV (mIsi (pIs "bool") (mVarT 0))) (mChain leF leF (mVarT 1) (mVarT 0) (mVarT 2))))
def g_is_whole : List D → RR := callD 3 3 b_is_whole
theorem sc_is_whole : FnScope ["value", "low", "high"] ["value", "low", "high"] (defScope s_is_whole) := ⟨rfl, rfl, rfl, by decide +kernel, rfl, by decide +kernel, by decide +kernel⟩
theorem ok_is_whole {P : Program} {w : World} {K : PySem.W.Frag} {mg : Str → Option Value} {base : Heap} {C : Str → Addr} (nm : Nm K mg C) (h : HasF K mg "is_whole" s_is_whole ["value", "low", "high"]) : DefV P w K mg base CX0 C "is_whole" ["value", "low", "high"] 1 g_is_whole := by
  have nd := sc_is_whole.nd
  refine' def_v0 (k := 0) (N := ["value", "low", "high"]) h sc_is_whole ?hb
  intro f cdv A outer s H E hr
  refine' ⟨_, ?hc⟩
  case hc =>
    intro B EX
    refine' jss_one ?k1_0
    case k1_0 =>
      refine' js_ret ?k2_0
      case k2_0 =>
        refine' je_and ?k3_0 ?k3_1
        case k3_0 =>
          refine' je_isi (K := K) tab_int PyProof.Rows.boot_int nm.int nm.isinstance ?k4_0
          case k4_0 =>
            exact jr_var 0
        case k3_1 =>
          refine' je_and ?k5_0 ?k5_1
          case k5_0 =>
            refine' je_not ?k6_0
            case k6_0 =>
              refine' je_isi (K := K) tab_bool PyProof.Rows.boot_bool nm.bool nm.isinstance ?k7_0
              case k7_0 =>
                exact jr_var 0
          case k5_1 =>
            refine' je_one ?k8_0
            case k8_0 =>
              refine' je_chain op_le op_le ok_cmpI ok_cmpI ?k9_0 ?k9_1 ?k9_2
              case k9_0 =>
                exact jr_var 1
              case k9_1 =>
                exact jr_var 0
              case k9_2 =>
                exact jr_var 2


/-! ### divisor -/
abbrev s_divisor : Stmt := top 22
def c0_divisor : M Bool := mTst (mOp neF (mVarT 1) (mT (ret (.int 0))))
def l1_divisor : S := sPar [false, false] [0, 1] (mCons (mVar 1) (mCons (mOp modF (mVarT 0) (mVarT 1)) (mNil)))
def b_divisor : S := sSeq (whileGo (c0_divisor) (l1_divisor) 1000000)
 (sRet (mVar 0))
def g_divisor : List D → RR := callD 2 2 b_divisor
theorem sc_divisor : FnScope ["one", "other"] ["one", "other"] (defScope s_divisor) := ⟨rfl, rfl, rfl, by decide +kernel, rfl, by decide +kernel, by decide +kernel⟩
theorem ok_divisor {P : Program} {w : World} {K : PySem.W.Frag} {mg : Str → Option Value} {base : Heap} {C : Str → Addr} (nm : Nm K mg C) (h : HasF K mg "divisor" s_divisor ["one", "other"]) : DefV P w K mg base CX0 C "divisor" ["one", "other"] 1 g_divisor := by
  have nd := sc_divisor.nd
  refine' def_v0 (k := 0) (N := ["one", "other"]) h sc_divisor ?hb
  intro f cdv A outer s H E hr
  refine' ⟨_, ?hc⟩
  case hc =>
    intro B EX
    refine' jss_cons ?k10_0 ?k10_1
    case k10_0 =>
      refine' js_while 1000000 PassesOwn.never ?k11_0 ?k11_1
      case k11_0 =>
        refine' jb_ne (K := K) hr.units ?k12_0 ?k12_1
        case k12_0 =>
          exact jr_var 1
        case k12_1 =>
          refine' jr_of ?k13_0
          case k13_0 =>
            exact je_int
      case k11_1 =>
        refine' jss_one ?k14_0
        case k14_0 =>
          refine' js_par2 0 1 nd ?k15_0
          case k15_0 =>
            refine' jam_cons ?k16_0 ?k16_1
            case k16_0 =>
              exact je_var 1
            case k16_1 =>
              refine' jam_cons ?k17_0 ?k17_1
              case k17_0 =>
                refine' je_mod ?k18_0 ?k18_1
                case k18_0 =>
                  exact jr_var 0
                case k18_1 =>
                  exact jr_var 1
              case k17_1 =>
                exact jam_nil
    case k10_1 =>
      refine' jss_one ?k19_0
      case k19_0 =>
        refine' js_ret ?k20_0
        case k20_0 =>
          exact je_var 0


/-! ### multiple -/
abbrev s_multiple : Stmt := top 23
def b_multiple : S := sRet (mOp fdivF (mT (mOp mulF (mVarT 0) (mVarT 1))) (mT (mCall0 g_divisor (mCons (mVar 0) (mCons (mVar 1) (mNil))))))
def g_multiple : List D → RR := callD 2 2 b_multiple
theorem sc_multiple : FnScope ["one", "other"] ["one", "other"] (defScope s_multiple) := ⟨rfl, rfl, rfl, by decide +kernel, rfl, by decide +kernel, by decide +kernel⟩
theorem ok_multiple {P : Program} {w : World} {K : PySem.W.Frag} {mg : Str → Option Value} {base : Heap} {C : Str → Addr} (nm : Nm K mg C) (h : HasF K mg "multiple" s_multiple ["one", "other"]) (D_divisor : DefV P w K mg base CX0 C "divisor" ["one", "other"] 1 g_divisor) : DefV P w K mg base CX0 C "multiple" ["one", "other"] 2 g_multiple := by
  have nd := sc_multiple.nd
  refine' def_v0 (k := 1) (N := ["one", "other"]) h sc_multiple ?hb
  intro f cdv A outer s H E hr
  refine' ⟨_, ?hc⟩
  case hc =>
    intro B EX
    refine' jss_one ?k21_0
    case k21_0 =>
      refine' js_ret ?k22_0
      case k22_0 =>
        refine' je_fdiv ?k23_0 ?k23_1
        case k23_0 =>
          refine' jr_of ?k24_0
          case k24_0 =>
            refine' je_mul (K := K) ?k25_0 ?k25_1
            case k25_0 =>
              exact jr_var 0
            case k25_1 =>
              exact jr_var 1
        case k23_1 =>
          refine' jr_of ?k26_0
          case k26_0 =>
            refine' je_call0 D_divisor hr ?k27_0
            case k27_0 =>
              refine' ja_cons ?k28_0 ?k28_1
              case k28_0 =>
                exact je_var 0
              case k28_1 =>
                refine' ja_cons ?k29_0 ?k29_1
                case k29_0 =>
                  exact je_var 1
                case k29_1 =>
                  exact ja_nil


/-! ### rise_between -/
abbrev s_rise_between : Stmt := top 25
def b_rise_between : S := sSeq (sIf (mAnd (mTst (mOp (isF false) (mVarT 0) (mT (ret .none)))) (mTst (mOp (isF false) (mVarT 1) (mT (ret .none))))) (sRet (ret .none)) (sNext))
 (sRet (mIf (mOr (mTst (mOp (isF false) (mVarT 0) (mT (ret .none)))) (mTst (mOp (isF false) (mVarT 1) (mT (ret .none))))) (ret (.str "none")) (mOp subF (mVarT 1) (mVarT 0))))
def g_rise_between : List D → RR := callD 2 2 b_rise_between
theorem sc_rise_between : FnScope ["one", "other"] ["one", "other"] (defScope s_rise_between) := ⟨rfl, rfl, rfl, by decide +kernel, rfl, by decide +kernel, by decide +kernel⟩
theorem ok_rise_between {P : Program} {w : World} {K : PySem.W.Frag} {mg : Str → Option Value} {base : Heap} {C : Str → Addr} (nm : Nm K mg C) (h : HasF K mg "rise_between" s_rise_between ["one", "other"]) : DefV P w K mg base CX0 C "rise_between" ["one", "other"] 1 g_rise_between := by
  have nd := sc_rise_between.nd
  refine' def_v0 (k := 0) (N := ["one", "other"]) h sc_rise_between ?hb
  intro f cdv A outer s H E hr
  refine' ⟨_, ?hc⟩
  case hc =>
    intro B EX
    refine' jss_cons ?k30_0 ?k30_1
    case k30_0 =>
      refine' js_if ?k31_0 ?k31_1 ?k31_2
      case k31_0 =>
        refine' jb_w ?k32_0
        case k32_0 =>
          refine' jw_and ?k33_0 ?k33_1
          case k33_0 =>
            refine' jb_is ?k34_0 ?k34_1
            case k34_0 =>
              exact jr_var 0
            case k34_1 =>
              refine' jr_of ?k35_0
              case k35_0 =>
                exact je_non
          case k33_1 =>
            refine' jw_and1 ?k36_0
            case k36_0 =>
              refine' jb_is ?k37_0 ?k37_1
              case k37_0 =>
                exact jr_var 1
              case k37_1 =>
                refine' jr_of ?k38_0
                case k38_0 =>
                  exact je_non
      case k31_1 =>
        refine' jss_one ?k39_0
        case k39_0 =>
          refine' js_ret ?k40_0
          case k40_0 =>
            exact je_non
      case k31_2 =>
        exact jss_nil
    case k30_1 =>
      refine' jss_one ?k41_0
      case k41_0 =>
        refine' js_ret ?k42_0
        case k42_0 =>
          refine' je_if ?k43_0 ?k43_1 ?k43_2
          case k43_0 =>
            refine' jb_w ?k44_0
            case k44_0 =>
              refine' jw_or ?k45_0 ?k45_1
              case k45_0 =>
                refine' jb_is ?k46_0 ?k46_1
                case k46_0 =>
                  exact jr_var 0
                case k46_1 =>
                  refine' jr_of ?k47_0
                  case k47_0 =>
                    exact je_non
              case k45_1 =>
                refine' jw_or1 ?k48_0
                case k48_0 =>
                  refine' jb_is ?k49_0 ?k49_1
                  case k49_0 =>
                    exact jr_var 1
                  case k49_1 =>
                    refine' jr_of ?k50_0
                    case k50_0 =>
                      exact je_non
          case k43_1 =>
            exact je_str
          case k43_2 =>
            refine' je_sub ?k51_0 ?k51_1
            case k51_0 =>
              exact jr_var 1
            case k51_1 =>
              exact jr_var 0


/-! ### rises_from -/
abbrev s_rises_from : Stmt := top 26
def e0_rises_from : M D := mCall0 g_rise_between (mCons (mOp ixF (mVarT 0) (mVarT 3)) (mCons (mOp ixF (mVarT 0) (mT (mOp addF (mVarT 3) (mVarT 2)))) (mNil)))
def b_rises_from : S := sRet (mLc (mRng2 (mCons (mVar 1) (mCons (mOp addF (mVarT 1) (mVarT 2)) (mNil)))) (hName 3) (mYes) (e0_rises_from) [3])
def g_rises_from : List D → RR := callD 3 4 b_rises_from
theorem sc_rises_from : FnScope ["row", "begin", "step", "at"] ["row", "begin", "step"] (defScope s_rises_from) := ⟨rfl, rfl, rfl, by decide +kernel, rfl, by decide +kernel, by decide +kernel⟩
theorem ok_rises_from {P : Program} {w : World} {K : PySem.W.Frag} {mg : Str → Option Value} {base : Heap} {C : Str → Addr} (nm : Nm K mg C) (h : HasF K mg "rises_from" s_rises_from ["row", "begin", "step"]) (D_rise_between : DefV P w K mg base CX0 C "rise_between" ["one", "other"] 1 g_rise_between) : DefV P w K mg base CX0 C "rises_from" ["row", "begin", "step"] 2 g_rises_from := by
  have nd := sc_rises_from.nd
  refine' def_v0 (k := 1) (N := ["row", "begin", "step", "at"]) h sc_rises_from ?hb
  intro f cdv A outer s H E hr
  refine' ⟨_, ?hc⟩
  case hc =>
    intro B EX
    refine' jss_one ?k52_0
    case k52_0 =>
      refine' js_ret ?k53_0
      case k53_0 =>
        refine' je_of ?k54_0
        case k54_0 =>
          refine' jf_lc (own := [("at", 3)]) (L := [3]) nd (blkOk_by (by kernel_rfl)) ?k55_0 ?k55_1 ?k55_2 ?k55_3
          case k55_0 =>
            refine' ji_rng2 nm.range ?k56_0
            case k56_0 =>
              refine' ja_cons ?k57_0 ?k57_1
              case k57_0 =>
                exact je_var 1
              case k57_1 =>
                refine' ja_cons ?k58_0 ?k58_1
                case k58_0 =>
                  refine' je_add (K := K) ?k59_0 ?k59_1
                  case k59_0 =>
                    exact jr_var 1
                  case k59_1 =>
                    exact jr_var 2
                case k58_1 =>
                  exact ja_nil
          case k55_1 =>
            intro _ _ _ _ _
            exact jg_name 3 nd
          case k55_2 =>
            intro _ _ _ _ _
            exact jbs_nil
          case k55_3 =>
            intro _ _ _ _ _
            refine' je_call0 D_rise_between hr ?k60_0
            case k60_0 =>
              refine' ja_cons ?k61_0 ?k61_1
              case k61_0 =>
                refine' je_ix (K := K) ?k62_0 ?k62_1
                case k62_0 =>
                  exact jr_var 0
                case k62_1 =>
                  exact jr_var 3
              case k61_1 =>
                refine' ja_cons ?k63_0 ?k63_1
                case k63_0 =>
                  refine' je_ix (K := K) ?k64_0 ?k64_1
                  case k64_0 =>
                    exact jr_var 0
                  case k64_1 =>
                    refine' jr_of ?k65_0
                    case k65_0 =>
                      refine' je_add (K := K) ?k66_0 ?k66_1
                      case k66_0 =>
                        exact jr_var 3
                      case k66_1 =>
                        exact jr_var 2
                case k63_1 =>
                  exact ja_nil


/-! ### number_at -/
abbrev s_number_at : Stmt := top 27
def b_number_at : S := sSeq (sIf (mTst (mOp ltF (mVarT 3) (mT (mOp addF (mVarT 1) (mT (mCB lenF (mCons (mVarT 2) (mNil)))))))) (sRet (mOp ixF (mVarT 0) (mVarT 3))) (sNext))
 (sSeq (sAsg (mOp modF (mT (mOp subF (mVarT 3) (mVarT 1))) (mT (mCB lenF (mCons (mVarT 2) (mNil))))) (hName 4))
 (sSeq (sIf (mTst (mOp (isF false) (mT (mOp ixF (mVarT 0) (mT (mOp addF (mVarT 1) (mVarT 4))))) (mT (ret .none)))) (sRet (ret .none)) (sNext))
 (sRet (mOp addF (mT (mOp ixF (mVarT 0) (mT (mOp addF (mVarT 1) (mVarT 4))))) (mT (mOp mulF (mT (mOp fdivF (mT (mOp subF (mVarT 3) (mVarT 1))) (mT (mCB lenF (mCons (mVarT 2) (mNil)))))) (mT (mOp ixF (mVarT 2) (mVarT 4)))))))))
def g_number_at : List D → RR := callD 4 5 b_number_at
theorem sc_number_at : FnScope ["row", "begin", "rises", "place", "spot"] ["row", "begin", "rises", "place"] (defScope s_number_at) := ⟨rfl, rfl, rfl, by decide +kernel, rfl, by decide +kernel, by decide +kernel⟩
theorem ok_number_at {P : Program} {w : World} {K : PySem.W.Frag} {mg : Str → Option Value} {base : Heap} {C : Str → Addr} (nm : Nm K mg C) (h : HasF K mg "number_at" s_number_at ["row", "begin", "rises", "place"]) : DefV P w K mg base CX0 C "number_at" ["row", "begin", "rises", "place"] 1 g_number_at := by
  have nd := sc_number_at.nd
  refine' def_v0 (k := 0) (N := ["row", "begin", "rises", "place", "spot"]) h sc_number_at ?hb
  intro f cdv A outer s H E hr
  refine' ⟨_, ?hc⟩
  case hc =>
    intro B EX
    refine' jss_cons ?k67_0 ?k67_1
    case k67_0 =>
      refine' js_if ?k68_0 ?k68_1 ?k68_2
      case k68_0 =>
        refine' jb_lt ?k69_0 ?k69_1
        case k69_0 =>
          exact jr_var 3
        case k69_1 =>
          refine' jr_of ?k70_0
          case k70_0 =>
            refine' je_add (K := K) ?k71_0 ?k71_1
            case k71_0 =>
              exact jr_var 1
            case k71_1 =>
              refine' jr_of ?k72_0
              case k72_0 =>
                refine' je_cb (cK_len (K := K) rfl) okK_len PySem.boot_len nm.len ?k73_0
                case k73_0 =>
                  refine' jar_cons ?k74_0 ?k74_1
                  case k74_0 =>
                    exact jr_var 2
                  case k74_1 =>
                    exact jar_nil
      case k68_1 =>
        refine' jss_one ?k75_0
        case k75_0 =>
          refine' js_ret ?k76_0
          case k76_0 =>
            refine' je_ix (K := K) ?k77_0 ?k77_1
            case k77_0 =>
              exact jr_var 0
            case k77_1 =>
              exact jr_var 3
      case k68_2 =>
        exact jss_nil
    case k67_1 =>
      refine' jss_cons ?k78_0 ?k78_1
      case k78_0 =>
        refine' js_set 4 nd ?k79_0
        case k79_0 =>
          refine' je_mod ?k80_0 ?k80_1
          case k80_0 =>
            refine' jr_of ?k81_0
            case k81_0 =>
              refine' je_sub ?k82_0 ?k82_1
              case k82_0 =>
                exact jr_var 3
              case k82_1 =>
                exact jr_var 1
          case k80_1 =>
            refine' jr_of ?k83_0
            case k83_0 =>
              refine' je_cb (cK_len (K := K) rfl) okK_len PySem.boot_len nm.len ?k84_0
              case k84_0 =>
                refine' jar_cons ?k85_0 ?k85_1
                case k85_0 =>
                  exact jr_var 2
                case k85_1 =>
                  exact jar_nil
      case k78_1 =>
        refine' jss_cons ?k86_0 ?k86_1
        case k86_0 =>
          refine' js_if ?k87_0 ?k87_1 ?k87_2
          case k87_0 =>
            refine' jb_is ?k88_0 ?k88_1
            case k88_0 =>
              refine' jr_of ?k89_0
              case k89_0 =>
                refine' je_ix (K := K) ?k90_0 ?k90_1
                case k90_0 =>
                  exact jr_var 0
                case k90_1 =>
                  refine' jr_of ?k91_0
                  case k91_0 =>
                    refine' je_add (K := K) ?k92_0 ?k92_1
                    case k92_0 =>
                      exact jr_var 1
                    case k92_1 =>
                      exact jr_var 4
            case k88_1 =>
              refine' jr_of ?k93_0
              case k93_0 =>
                exact je_non
          case k87_1 =>
            refine' jss_one ?k94_0
            case k94_0 =>
              refine' js_ret ?k95_0
              case k95_0 =>
                exact je_non
          case k87_2 =>
            exact jss_nil
        case k86_1 =>
          refine' jss_one ?k96_0
          case k96_0 =>
            refine' js_ret ?k97_0
            case k97_0 =>
              refine' je_add (K := K) ?k98_0 ?k98_1
              case k98_0 =>
                refine' jr_of ?k99_0
                case k99_0 =>
                  refine' je_ix (K := K) ?k100_0 ?k100_1
                  case k100_0 =>
                    exact jr_var 0
                  case k100_1 =>
                    refine' jr_of ?k101_0
                    case k101_0 =>
                      refine' je_add (K := K) ?k102_0 ?k102_1
                      case k102_0 =>
                        exact jr_var 1
                      case k102_1 =>
                        exact jr_var 4
              case k98_1 =>
                refine' jr_of ?k103_0
                case k103_0 =>
                  refine' je_mul (K := K) ?k104_0 ?k104_1
                  case k104_0 =>
                    refine' jr_of ?k105_0
                    case k105_0 =>
                      refine' je_fdiv ?k106_0 ?k106_1
                      case k106_0 =>
                        refine' jr_of ?k107_0
                        case k107_0 =>
                          refine' je_sub ?k108_0 ?k108_1
                          case k108_0 =>
                            exact jr_var 3
                          case k108_1 =>
                            exact jr_var 1
                      case k106_1 =>
                        refine' jr_of ?k109_0
                        case k109_0 =>
                          refine' je_cb (cK_len (K := K) rfl) okK_len PySem.boot_len nm.len ?k110_0
                          case k110_0 =>
                            refine' jar_cons ?k111_0 ?k111_1
                            case k111_0 =>
                              exact jr_var 2
                            case k111_1 =>
                              exact jar_nil
                  case k104_1 =>
                    refine' jr_of ?k112_0
                    case k112_0 =>
                      refine' je_ix (K := K) ?k113_0 ?k113_1
                      case k113_0 =>
                        exact jr_var 2
                      case k113_1 =>
                        exact jr_var 4


/-! ### is_period -/
abbrev s_is_period : Stmt := top 28
def e0_is_period : M D := mCall0 g_number_at (mCons (mVar 0) (mCons (mVar 1) (mCons (mVar 2) (mCons (mOp addF (mVarT 1) (mVarT 5)) (mNil)))))
def l1_is_period : S := sSeq (sPar [false, false] [6, 7] (mCons (mCall0 g_rise_between (mCons (mOp ixF (mVarT 4) (mVarT 5)) (mCons (mOp ixF (mVarT 4) (mT (mOp addF (mVarT 5) (mVarT 3)))) (mNil)))) (mCons (mCall0 g_rise_between (mCons (mOp ixF (mVarT 4) (mT (mOp addF (mVarT 5) (mVarT 3)))) (mCons (mOp ixF (mVarT 4) (mT (mOp addF (mVarT 5) (mT (mOp mulF (mT (ret (.int 2))) (mVarT 3)))))) (mNil)))) (mNil))))
 (sIf (mOr (mTst (mOp eqF (mVarT 6) (mT (ret (.str "none"))))) (mTst (mOp neF (mVarT 6) (mVarT 7)))) (sRet (ret (.bool false))) (sNext))
def b_is_period : S := sSeq (sAsg (mLc (mRng1 (mCons (mOp addF (mT (mOp mulF (mT (ret (.int 2))) (mT (mCB lenF (mCons (mVarT 2) (mNil)))))) (mT (mOp mulF (mT (ret (.int 2))) (mVarT 3)))) (mNil))) (hName 5) (mYes) (e0_is_period) [5]) (hName 4))
 (sSeq (sFor (mRng1 (mCons (mOp mulF (mT (ret (.int 2))) (mT (mCB lenF (mCons (mVarT 2) (mNil))))) (mNil))) (hName 5) (l1_is_period))
 (sRet (ret (.bool true))))
def g_is_period : List D → RR := callD 4 8 b_is_period
theorem sc_is_period : FnScope ["row", "begin", "rises", "step", "some", "at", "one", "two"] ["row", "begin", "rises", "step"] (defScope s_is_period) := ⟨rfl, rfl, rfl, by decide +kernel, rfl, by decide +kernel, by decide +kernel⟩
theorem ok_is_period {P : Program} {w : World} {K : PySem.W.Frag} {mg : Str → Option Value} {base : Heap} {C : Str → Addr} (nm : Nm K mg C) (h : HasF K mg "is_period" s_is_period ["row", "begin", "rises", "step"]) (D_number_at : DefV P w K mg base CX0 C "number_at" ["row", "begin", "rises", "place"] 1 g_number_at) (D_rise_between : DefV P w K mg base CX0 C "rise_between" ["one", "other"] 1 g_rise_between) : DefV P w K mg base CX0 C "is_period" ["row", "begin", "rises", "step"] 2 g_is_period := by
  have nd := sc_is_period.nd
  refine' def_v0 (k := 1) (N := ["row", "begin", "rises", "step", "some", "at", "one", "two"]) h sc_is_period ?hb
  intro f cdv A outer s H E hr
  refine' ⟨_, ?hc⟩
  case hc =>
    intro B EX
    refine' jss_cons ?k114_0 ?k114_1
    case k114_0 =>
      refine' js_setLc 4 (own := [("at", 5)]) (L := [5]) nd (blkOk_by (by kernel_rfl)) ?k115_0 ?k115_1 ?k115_2 ?k115_3 (sw_true rfl rfl rfl (by kernel_rfl))
      case k115_0 =>
        refine' ji_rng1 nm.range ?k116_0
        case k116_0 =>
          refine' ja_cons ?k117_0 ?k117_1
          case k117_0 =>
            refine' je_add (K := K) ?k118_0 ?k118_1
            case k118_0 =>
              refine' jr_of ?k119_0
              case k119_0 =>
                refine' je_mul (K := K) ?k120_0 ?k120_1
                case k120_0 =>
                  refine' jr_of ?k121_0
                  case k121_0 =>
                    exact je_int
                case k120_1 =>
                  refine' jr_of ?k122_0
                  case k122_0 =>
                    refine' je_cb (cK_len (K := K) rfl) okK_len PySem.boot_len nm.len ?k123_0
                    case k123_0 =>
                      refine' jar_cons ?k124_0 ?k124_1
                      case k124_0 =>
                        exact jr_var 2
                      case k124_1 =>
                        exact jar_nil
            case k118_1 =>
              refine' jr_of ?k125_0
              case k125_0 =>
                refine' je_mul (K := K) ?k126_0 ?k126_1
                case k126_0 =>
                  refine' jr_of ?k127_0
                  case k127_0 =>
                    exact je_int
                case k126_1 =>
                  exact jr_var 3
          case k117_1 =>
            exact ja_nil
      case k115_1 =>
        intro _ _ _ _ _
        exact jg_name 5 nd
      case k115_2 =>
        intro _ _ _ _ _
        exact jbs_nil
      case k115_3 =>
        intro _ _ _ _ _
        refine' je_call0 D_number_at hr ?k128_0
        case k128_0 =>
          refine' ja_cons ?k129_0 ?k129_1
          case k129_0 =>
            exact je_var 0
          case k129_1 =>
            refine' ja_cons ?k130_0 ?k130_1
            case k130_0 =>
              exact je_var 1
            case k130_1 =>
              refine' ja_cons ?k131_0 ?k131_1
              case k131_0 =>
                exact je_var 2
              case k131_1 =>
                refine' ja_cons ?k132_0 ?k132_1
                case k132_0 =>
                  refine' je_add (K := K) ?k133_0 ?k133_1
                  case k133_0 =>
                    exact jr_var 1
                  case k133_1 =>
                    exact jr_var 5
                case k132_1 =>
                  exact ja_nil
    case k114_1 =>
      refine' jss_cons ?k134_0 ?k134_1
      case k134_0 =>
        refine' js_for PassesOwn.never ?k135_0 ?k135_1 ?k135_2
        case k135_0 =>
          refine' ji_rng1 nm.range ?k136_0
          case k136_0 =>
            refine' ja_cons ?k137_0 ?k137_1
            case k137_0 =>
              refine' je_mul (K := K) ?k138_0 ?k138_1
              case k138_0 =>
                refine' jr_of ?k139_0
                case k139_0 =>
                  exact je_int
              case k138_1 =>
                refine' jr_of ?k140_0
                case k140_0 =>
                  refine' je_cb (cK_len (K := K) rfl) okK_len PySem.boot_len nm.len ?k141_0
                  case k141_0 =>
                    refine' jar_cons ?k142_0 ?k142_1
                    case k142_0 =>
                      exact jr_var 2
                    case k142_1 =>
                      exact jar_nil
            case k137_1 =>
              exact ja_nil
        case k135_1 =>
          exact jg_name 5 nd
        case k135_2 =>
          refine' jss_cons ?k143_0 ?k143_1
          case k143_0 =>
            refine' js_par2 6 7 nd ?k144_0
            case k144_0 =>
              refine' jam_cons ?k145_0 ?k145_1
              case k145_0 =>
                refine' je_call0 D_rise_between hr ?k146_0
                case k146_0 =>
                  refine' ja_cons ?k147_0 ?k147_1
                  case k147_0 =>
                    refine' je_ix (K := K) ?k148_0 ?k148_1
                    case k148_0 =>
                      exact jr_var 4
                    case k148_1 =>
                      exact jr_var 5
                  case k147_1 =>
                    refine' ja_cons ?k149_0 ?k149_1
                    case k149_0 =>
                      refine' je_ix (K := K) ?k150_0 ?k150_1
                      case k150_0 =>
                        exact jr_var 4
                      case k150_1 =>
                        refine' jr_of ?k151_0
                        case k151_0 =>
                          refine' je_add (K := K) ?k152_0 ?k152_1
                          case k152_0 =>
                            exact jr_var 5
                          case k152_1 =>
                            exact jr_var 3
                    case k149_1 =>
                      exact ja_nil
              case k145_1 =>
                refine' jam_cons ?k153_0 ?k153_1
                case k153_0 =>
                  refine' je_call0 D_rise_between hr ?k154_0
                  case k154_0 =>
                    refine' ja_cons ?k155_0 ?k155_1
                    case k155_0 =>
                      refine' je_ix (K := K) ?k156_0 ?k156_1
                      case k156_0 =>
                        exact jr_var 4
                      case k156_1 =>
                        refine' jr_of ?k157_0
                        case k157_0 =>
                          refine' je_add (K := K) ?k158_0 ?k158_1
                          case k158_0 =>
                            exact jr_var 5
                          case k158_1 =>
                            exact jr_var 3
                    case k155_1 =>
                      refine' ja_cons ?k159_0 ?k159_1
                      case k159_0 =>
                        refine' je_ix (K := K) ?k160_0 ?k160_1
                        case k160_0 =>
                          exact jr_var 4
                        case k160_1 =>
                          refine' jr_of ?k161_0
                          case k161_0 =>
                            refine' je_add (K := K) ?k162_0 ?k162_1
                            case k162_0 =>
                              exact jr_var 5
                            case k162_1 =>
                              refine' jr_of ?k163_0
                              case k163_0 =>
                                refine' je_mul (K := K) ?k164_0 ?k164_1
                                case k164_0 =>
                                  refine' jr_of ?k165_0
                                  case k165_0 =>
                                    exact je_int
                                case k164_1 =>
                                  exact jr_var 3
                      case k159_1 =>
                        exact ja_nil
                case k153_1 =>
                  exact jam_nil
          case k143_1 =>
            refine' jss_one ?k166_0
            case k166_0 =>
              refine' js_if ?k167_0 ?k167_1 ?k167_2
              case k167_0 =>
                refine' jb_w ?k168_0
                case k168_0 =>
                  refine' jw_or ?k169_0 ?k169_1
                  case k169_0 =>
                    refine' jb_eq (K := K) hr.units ?k170_0 ?k170_1
                    case k170_0 =>
                      exact jr_var 6
                    case k170_1 =>
                      refine' jr_of ?k171_0
                      case k171_0 =>
                        exact je_str
                  case k169_1 =>
                    refine' jw_or1 ?k172_0
                    case k172_0 =>
                      refine' jb_ne (K := K) hr.units ?k173_0 ?k173_1
                      case k173_0 =>
                        exact jr_var 6
                      case k173_1 =>
                        exact jr_var 7
              case k167_1 =>
                refine' jss_one ?k174_0
                case k174_0 =>
                  refine' js_ret ?k175_0
                  case k175_0 =>
                    exact je_bl
              case k167_2 =>
                exact jss_nil
      case k134_1 =>
        refine' jss_one ?k176_0
        case k176_0 =>
          refine' js_ret ?k177_0
          case k177_0 =>
            exact je_bl


/-! ### canonical -/
abbrev s_canonical : Stmt := top 29
def t0_canonical : M Bool := mAnd (mTst (mOp eqF (mT (mOp modF (mT (mCB lenF (mCons (mVarT 2) (mNil)))) (mVarT 7))) (mT (ret (.int 0))))) (mTst (mCall0 g_is_period (mCons (mVar 0) (mCons (mVar 1) (mCons (mVar 2) (mCons (mVar 7) (mNil)))))))
def e1_canonical : M D := mVar 7
def e2_canonical : M D := mCall0 g_number_at (mCons (mVar 0) (mCons (mVar 1) (mCons (mVar 2) (mCons (mVar 6) (mNil)))))
def c3_canonical : M Bool := mAnd (mTst (mOp gtF (mVarT 1) (mT (ret (.int 0))))) (mTst (mOp eqF (mT (mCall0 g_rise_between (mCons (mOp ixF (mVarT 4) (mT (mOp subF (mVarT 1) (mT (ret (.int 1)))))) (mCons (mOp ixF (mVarT 4) (mT (mOp addF (mT (mOp subF (mVarT 1) (mT (ret (.int 1))))) (mVarT 3)))) (mNil))))) (mT (mOp ixF (mVarT 5) (mT (mUn negF (mT (ret (.int 1)))))))))
def l4_canonical : S := sSeq (sAsg (mOp subF (mVarT 1) (mT (ret (.int 1)))) (hName 1))
 (sAsg (mOp addF (mT (mLst (mCons (mOp ixF (mVarT 5) (mT (mUn negF (mT (ret (.int 1)))))) (mNil)))) (mT (mSl slF (mVarT 5) (mNoPart) (mPart (mUn negF (mT (ret (.int 1)))))))) (hName 5))
def b_canonical : S := sSeq (sAsg (mOp ixF (mT (mLc (mRng2 (mCons (ret (.int 1)) (mCons (mOp addF (mT (mCB lenF (mCons (mVarT 2) (mNil)))) (mT (ret (.int 1)))) (mNil)))) (hName 7) (t0_canonical) (e1_canonical) [7])) (mT (ret (.int 0)))) (hName 3))
 (sSeq (sAsg (mLc (mRng1 (mCons (mOp addF (mVarT 1) (mT (mOp mulF (mT (ret (.int 2))) (mVarT 3)))) (mNil))) (hName 6) (mYes) (e2_canonical) [6]) (hName 4))
 (sSeq (sAsg (mCall0 g_rises_from (mCons (mVar 4) (mCons (mVar 1) (mCons (mVar 3) (mNil))))) (hName 5))
 (sSeq (whileGo (c3_canonical) (l4_canonical) 1000000)
 (sRet (mTup (mCons (mVar 1) (mCons (mCB tupleF (mCons (mT (mSl slF (mVarT 4) (mNoPart) (mPart (mOp addF (mVarT 1) (mVarT 3))))) (mNil))) (mCons (mCB tupleF (mCons (mVarT 5) (mNil))) (mNil)))))))))
def g_canonical : List D → RR := callD 3 8 b_canonical
theorem sc_canonical : FnScope ["row", "begin", "rises", "step", "numbers", "news", "at", "one"] ["row", "begin", "rises"] (defScope s_canonical) := ⟨rfl, rfl, rfl, by decide +kernel, rfl, by decide +kernel, by decide +kernel⟩
theorem ok_canonical {P : Program} {w : World} {K : PySem.W.Frag} {mg : Str → Option Value} {base : Heap} {C : Str → Addr} (nm : Nm K mg C) (h : HasF K mg "canonical" s_canonical ["row", "begin", "rises"]) (D_is_period : DefV P w K mg base CX0 C "is_period" ["row", "begin", "rises", "step"] 2 g_is_period) (D_number_at : DefV P w K mg base CX0 C "number_at" ["row", "begin", "rises", "place"] 1 g_number_at) (D_rises_from : DefV P w K mg base CX0 C "rises_from" ["row", "begin", "step"] 2 g_rises_from) (D_rise_between : DefV P w K mg base CX0 C "rise_between" ["one", "other"] 1 g_rise_between) : DefV P w K mg base CX0 C "canonical" ["row", "begin", "rises"] 3 g_canonical := by
  have nd := sc_canonical.nd
  refine' def_v0 (k := 2) (N := ["row", "begin", "rises", "step", "numbers", "news", "at", "one"]) h sc_canonical ?hb
  intro f cdv A outer s H E hr
  refine' ⟨_, ?hc⟩
  case hc =>
    intro B EX
    refine' jss_cons ?k178_0 ?k178_1
    case k178_0 =>
      refine' js_set 3 nd ?k179_0
      case k179_0 =>
        refine' je_ix (K := K) ?k180_0 ?k180_1
        case k180_0 =>
          refine' jr_of ?k181_0
          case k181_0 =>
            refine' je_of ?k182_0
            case k182_0 =>
              refine' jf_lc (own := [("one", 7)]) (L := [7]) nd (blkOk_by (by kernel_rfl)) ?k183_0 ?k183_1 ?k183_2 ?k183_3
              case k183_0 =>
                refine' ji_rng2 nm.range ?k184_0
                case k184_0 =>
                  refine' ja_cons ?k185_0 ?k185_1
                  case k185_0 =>
                    exact je_int
                  case k185_1 =>
                    refine' ja_cons ?k186_0 ?k186_1
                    case k186_0 =>
                      refine' je_add (K := K) ?k187_0 ?k187_1
                      case k187_0 =>
                        refine' jr_of ?k188_0
                        case k188_0 =>
                          refine' je_cb (cK_len (K := K) rfl) okK_len PySem.boot_len nm.len ?k189_0
                          case k189_0 =>
                            refine' jar_cons ?k190_0 ?k190_1
                            case k190_0 =>
                              exact jr_var 2
                            case k190_1 =>
                              exact jar_nil
                      case k187_1 =>
                        refine' jr_of ?k191_0
                        case k191_0 =>
                          exact je_int
                    case k186_1 =>
                      exact ja_nil
              case k183_1 =>
                intro _ _ _ _ _
                exact jg_name 7 nd
              case k183_2 =>
                intro _ _ _ _ _
                refine' jbs_one ?k192_0
                case k192_0 =>
                  refine' jb_w ?k193_0
                  case k193_0 =>
                    refine' jw_and ?k194_0 ?k194_1
                    case k194_0 =>
                      refine' jb_eq (K := K) hr.units ?k195_0 ?k195_1
                      case k195_0 =>
                        refine' jr_of ?k196_0
                        case k196_0 =>
                          refine' je_mod ?k197_0 ?k197_1
                          case k197_0 =>
                            refine' jr_of ?k198_0
                            case k198_0 =>
                              refine' je_cb (cK_len (K := K) rfl) okK_len PySem.boot_len nm.len ?k199_0
                              case k199_0 =>
                                refine' jar_cons ?k200_0 ?k200_1
                                case k200_0 =>
                                  exact jr_var 2
                                case k200_1 =>
                                  exact jar_nil
                          case k197_1 =>
                            exact jr_var 7
                      case k195_1 =>
                        refine' jr_of ?k201_0
                        case k201_0 =>
                          exact je_int
                    case k194_1 =>
                      refine' jw_and1 ?k202_0
                      case k202_0 =>
                        refine' jb_val ?k203_0
                        case k203_0 =>
                          refine' je_call0 D_is_period hr ?k204_0
                          case k204_0 =>
                            refine' ja_cons ?k205_0 ?k205_1
                            case k205_0 =>
                              exact je_var 0
                            case k205_1 =>
                              refine' ja_cons ?k206_0 ?k206_1
                              case k206_0 =>
                                exact je_var 1
                              case k206_1 =>
                                refine' ja_cons ?k207_0 ?k207_1
                                case k207_0 =>
                                  exact je_var 2
                                case k207_1 =>
                                  refine' ja_cons ?k208_0 ?k208_1
                                  case k208_0 =>
                                    exact je_var 7
                                  case k208_1 =>
                                    exact ja_nil
              case k183_3 =>
                intro _ _ _ _ _
                exact je_var 7
        case k180_1 =>
          refine' jr_of ?k209_0
          case k209_0 =>
            exact je_int
    case k178_1 =>
      refine' jss_cons ?k210_0 ?k210_1
      case k210_0 =>
        refine' js_setLc 4 (own := [("at", 6)]) (L := [6]) nd (blkOk_by (by kernel_rfl)) ?k211_0 ?k211_1 ?k211_2 ?k211_3 (sw_true rfl rfl rfl (by kernel_rfl))
        case k211_0 =>
          refine' ji_rng1 nm.range ?k212_0
          case k212_0 =>
            refine' ja_cons ?k213_0 ?k213_1
            case k213_0 =>
              refine' je_add (K := K) ?k214_0 ?k214_1
              case k214_0 =>
                exact jr_var 1
              case k214_1 =>
                refine' jr_of ?k215_0
                case k215_0 =>
                  refine' je_mul (K := K) ?k216_0 ?k216_1
                  case k216_0 =>
                    refine' jr_of ?k217_0
                    case k217_0 =>
                      exact je_int
                  case k216_1 =>
                    exact jr_var 3
            case k213_1 =>
              exact ja_nil
        case k211_1 =>
          intro _ _ _ _ _
          exact jg_name 6 nd
        case k211_2 =>
          intro _ _ _ _ _
          exact jbs_nil
        case k211_3 =>
          intro _ _ _ _ _
          refine' je_call0 D_number_at hr ?k218_0
          case k218_0 =>
            refine' ja_cons ?k219_0 ?k219_1
            case k219_0 =>
              exact je_var 0
            case k219_1 =>
              refine' ja_cons ?k220_0 ?k220_1
              case k220_0 =>
                exact je_var 1
              case k220_1 =>
                refine' ja_cons ?k221_0 ?k221_1
                case k221_0 =>
                  exact je_var 2
                case k221_1 =>
                  refine' ja_cons ?k222_0 ?k222_1
                  case k222_0 =>
                    exact je_var 6
                  case k222_1 =>
                    exact ja_nil
      case k210_1 =>
        refine' jss_cons ?k223_0 ?k223_1
        case k223_0 =>
          refine' js_set 5 nd ?k224_0
          case k224_0 =>
            refine' je_call0 D_rises_from hr ?k225_0
            case k225_0 =>
              refine' ja_cons ?k226_0 ?k226_1
              case k226_0 =>
                exact je_var 4
              case k226_1 =>
                refine' ja_cons ?k227_0 ?k227_1
                case k227_0 =>
                  exact je_var 1
                case k227_1 =>
                  refine' ja_cons ?k228_0 ?k228_1
                  case k228_0 =>
                    exact je_var 3
                  case k228_1 =>
                    exact ja_nil
        case k223_1 =>
          refine' jss_cons ?k229_0 ?k229_1
          case k229_0 =>
            refine' js_while 1000000 PassesOwn.never ?k230_0 ?k230_1
            case k230_0 =>
              refine' jb_w ?k231_0
              case k231_0 =>
                refine' jw_and ?k232_0 ?k232_1
                case k232_0 =>
                  refine' jb_gt ?k233_0 ?k233_1
                  case k233_0 =>
                    exact jr_var 1
                  case k233_1 =>
                    refine' jr_of ?k234_0
                    case k234_0 =>
                      exact je_int
                case k232_1 =>
                  refine' jw_and1 ?k235_0
                  case k235_0 =>
                    refine' jb_eq (K := K) hr.units ?k236_0 ?k236_1
                    case k236_0 =>
                      refine' jr_of ?k237_0
                      case k237_0 =>
                        refine' je_call0 D_rise_between hr ?k238_0
                        case k238_0 =>
                          refine' ja_cons ?k239_0 ?k239_1
                          case k239_0 =>
                            refine' je_ix (K := K) ?k240_0 ?k240_1
                            case k240_0 =>
                              exact jr_var 4
                            case k240_1 =>
                              refine' jr_of ?k241_0
                              case k241_0 =>
                                refine' je_sub ?k242_0 ?k242_1
                                case k242_0 =>
                                  exact jr_var 1
                                case k242_1 =>
                                  refine' jr_of ?k243_0
                                  case k243_0 =>
                                    exact je_int
                          case k239_1 =>
                            refine' ja_cons ?k244_0 ?k244_1
                            case k244_0 =>
                              refine' je_ix (K := K) ?k245_0 ?k245_1
                              case k245_0 =>
                                exact jr_var 4
                              case k245_1 =>
                                refine' jr_of ?k246_0
                                case k246_0 =>
                                  refine' je_add (K := K) ?k247_0 ?k247_1
                                  case k247_0 =>
                                    refine' jr_of ?k248_0
                                    case k248_0 =>
                                      refine' je_sub ?k249_0 ?k249_1
                                      case k249_0 =>
                                        exact jr_var 1
                                      case k249_1 =>
                                        refine' jr_of ?k250_0
                                        case k250_0 =>
                                          exact je_int
                                  case k247_1 =>
                                    exact jr_var 3
                            case k244_1 =>
                              exact ja_nil
                    case k236_1 =>
                      refine' jr_of ?k251_0
                      case k251_0 =>
                        refine' je_ix (K := K) ?k252_0 ?k252_1
                        case k252_0 =>
                          exact jr_var 5
                        case k252_1 =>
                          refine' jr_of ?k253_0
                          case k253_0 =>
                            refine' je_neg ?k254_0
                            case k254_0 =>
                              refine' jr_of ?k255_0
                              case k255_0 =>
                                exact je_int
            case k230_1 =>
              refine' jss_cons ?k256_0 ?k256_1
              case k256_0 =>
                refine' js_set 1 nd ?k257_0
                case k257_0 =>
                  refine' je_sub ?k258_0 ?k258_1
                  case k258_0 =>
                    exact jr_var 1
                  case k258_1 =>
                    refine' jr_of ?k259_0
                    case k259_0 =>
                      exact je_int
              case k256_1 =>
                refine' jss_one ?k260_0
                case k260_0 =>
                  refine' js_set 5 nd ?k261_0
                  case k261_0 =>
                    refine' je_add (K := K) ?k262_0 ?k262_1
                    case k262_0 =>
                      refine' jr_of ?k263_0
                      case k263_0 =>
                        refine' je_of ?k264_0
                        case k264_0 =>
                          refine' jf_lst ?k265_0
                          case k265_0 =>
                            refine' ja_cons ?k266_0 ?k266_1
                            case k266_0 =>
                              refine' je_ix (K := K) ?k267_0 ?k267_1
                              case k267_0 =>
                                exact jr_var 5
                              case k267_1 =>
                                refine' jr_of ?k268_0
                                case k268_0 =>
                                  refine' je_neg ?k269_0
                                  case k269_0 =>
                                    refine' jr_of ?k270_0
                                    case k270_0 =>
                                      exact je_int
                            case k266_1 =>
                              exact ja_nil
                    case k262_1 =>
                      refine' jr_of ?k271_0
                      case k271_0 =>
                        refine' je_sl (K := K) ?k272_0 ?k272_1 ?k272_2
                        case k272_0 =>
                          exact jr_var 5
                        case k272_1 =>
                          exact jo_none
                        case k272_2 =>
                          refine' jo_some ?k273_0
                          case k273_0 =>
                            refine' je_neg ?k274_0
                            case k274_0 =>
                              refine' jr_of ?k275_0
                              case k275_0 =>
                                exact je_int
          case k229_1 =>
            refine' jss_one ?k276_0
            case k276_0 =>
              refine' js_ret ?k277_0
              case k277_0 =>
                refine' je_tup ?k278_0
                case k278_0 =>
                  refine' ja_cons ?k279_0 ?k279_1
                  case k279_0 =>
                    exact je_var 1
                  case k279_1 =>
                    refine' ja_cons ?k280_0 ?k280_1
                    case k280_0 =>
                      refine' je_ct (cK_tuple (K := K) rfl) okK_tuple PyProof.Rows.boot_tuple nm.tuple ?k281_0
                      case k281_0 =>
                        refine' jar_cons ?k282_0 ?k282_1
                        case k282_0 =>
                          refine' jr_of ?k283_0
                          case k283_0 =>
                            refine' je_sl (K := K) ?k284_0 ?k284_1 ?k284_2
                            case k284_0 =>
                              exact jr_var 4
                            case k284_1 =>
                              exact jo_none
                            case k284_2 =>
                              refine' jo_some ?k285_0
                              case k285_0 =>
                                refine' je_add (K := K) ?k286_0 ?k286_1
                                case k286_0 =>
                                  exact jr_var 1
                                case k286_1 =>
                                  exact jr_var 3
                        case k282_1 =>
                          exact jar_nil
                    case k280_1 =>
                      refine' ja_cons ?k287_0 ?k287_1
                      case k287_0 =>
                        refine' je_ct (cK_tuple (K := K) rfl) okK_tuple PyProof.Rows.boot_tuple nm.tuple ?k288_0
                        case k288_0 =>
                          refine' jar_cons ?k289_0 ?k289_1
                          case k289_0 =>
                            exact jr_var 5
                          case k289_1 =>
                            exact jar_nil
                      case k287_1 =>
                        exact ja_nil


/-! ### value_of -/
abbrev s_value_of : Stmt := top 30
def b_value_of : S := sRet (mCall0 g_number_at (mCons (mOp ixF (mVarT 0) (mT (ret (.int 1)))) (mCons (mOp ixF (mVarT 0) (mT (ret (.int 0)))) (mCons (mOp ixF (mVarT 0) (mT (ret (.int 2)))) (mCons (mVar 1) (mNil))))))
def g_value_of : List D → RR := callD 2 2 b_value_of
theorem sc_value_of : FnScope ["form", "place"] ["form", "place"] (defScope s_value_of) := ⟨rfl, rfl, rfl, by decide +kernel, rfl, by decide +kernel, by decide +kernel⟩
theorem ok_value_of {P : Program} {w : World} {K : PySem.W.Frag} {mg : Str → Option Value} {base : Heap} {C : Str → Addr} (nm : Nm K mg C) (h : HasF K mg "value_of" s_value_of ["form", "place"]) (D_number_at : DefV P w K mg base CX0 C "number_at" ["row", "begin", "rises", "place"] 1 g_number_at) : DefV P w K mg base CX0 C "value_of" ["form", "place"] 2 g_value_of := by
  have nd := sc_value_of.nd
  refine' def_v0 (k := 1) (N := ["form", "place"]) h sc_value_of ?hb
  intro f cdv A outer s H E hr
  refine' ⟨_, ?hc⟩
  case hc =>
    intro B EX
    refine' jss_one ?k290_0
    case k290_0 =>
      refine' js_ret ?k291_0
      case k291_0 =>
        refine' je_call0 D_number_at hr ?k292_0
        case k292_0 =>
          refine' ja_cons ?k293_0 ?k293_1
          case k293_0 =>
            refine' je_ix (K := K) ?k294_0 ?k294_1
            case k294_0 =>
              exact jr_var 0
            case k294_1 =>
              refine' jr_of ?k295_0
              case k295_0 =>
                exact je_int
          case k293_1 =>
            refine' ja_cons ?k296_0 ?k296_1
            case k296_0 =>
              refine' je_ix (K := K) ?k297_0 ?k297_1
              case k297_0 =>
                exact jr_var 0
              case k297_1 =>
                refine' jr_of ?k298_0
                case k298_0 =>
                  exact je_int
            case k296_1 =>
              refine' ja_cons ?k299_0 ?k299_1
              case k299_0 =>
                refine' je_ix (K := K) ?k300_0 ?k300_1
                case k300_0 =>
                  exact jr_var 0
                case k300_1 =>
                  refine' jr_of ?k301_0
                  case k301_0 =>
                    exact je_int
              case k299_1 =>
                refine' ja_cons ?k302_0 ?k302_1
                case k302_0 =>
                  exact je_var 1
                case k302_1 =>
                  exact ja_nil


/-! ### is_time -/
abbrev s_is_time : Stmt := top 31
def b_is_time : S := sRet (mOrV (mOp (isF false) (mVarT 0) (mT (ret .none))) (mCall0 g_is_whole (mCons (mVar 0) (mCons (mUn negF (mT (mOp powF (mT (ret (.int 10))) (mT (ret (.int 9)))))) (mCons (mOp powF (mT (ret (.int 10))) (mT (ret (.int 9)))) (mNil))))))
def g_is_time : List D → RR := callD 1 1 b_is_time
theorem sc_is_time : FnScope ["value"] ["value"] (defScope s_is_time) := ⟨rfl, rfl, rfl, by decide +kernel, rfl, by decide +kernel, by decide +kernel⟩
theorem ok_is_time {P : Program} {w : World} {K : PySem.W.Frag} {mg : Str → Option Value} {base : Heap} {C : Str → Addr} (nm : Nm K mg C) (h : HasF K mg "is_time" s_is_time ["value"]) (D_is_whole : DefV P w K mg base CX0 C "is_whole" ["value", "low", "high"] 1 g_is_whole) : DefV P w K mg base CX0 C "is_time" ["value"] 2 g_is_time := by
  have nd := sc_is_time.nd
  refine' def_v0 (k := 1) (N := ["value"]) h sc_is_time ?hb
  intro f cdv A outer s H E hr
  refine' ⟨_, ?hc⟩
  case hc =>
    intro B EX
    refine' jss_one ?k303_0
    case k303_0 =>
      refine' js_ret ?k304_0
      case k304_0 =>
        refine' je_or ?k305_0 ?k305_1
        case k305_0 =>
          refine' je_is ?k306_0 ?k306_1
          case k306_0 =>
            exact jr_var 0
          case k306_1 =>
            refine' jr_of ?k307_0
            case k307_0 =>
              exact je_non
        case k305_1 =>
          refine' je_one ?k308_0
          case k308_0 =>
            refine' je_call0 D_is_whole hr ?k309_0
            case k309_0 =>
              refine' ja_cons ?k310_0 ?k310_1
              case k310_0 =>
                exact je_var 0
              case k310_1 =>
                refine' ja_cons ?k311_0 ?k311_1
                case k311_0 =>
                  refine' je_neg ?k312_0
                  case k312_0 =>
                    refine' jr_of ?k313_0
                    case k313_0 =>
                      refine' je_pow ?k314_0 ?k314_1
                      case k314_0 =>
                        refine' jr_of ?k315_0
                        case k315_0 =>
                          exact je_int
                      case k314_1 =>
                        refine' jr_of ?k316_0
                        case k316_0 =>
                          exact je_int
                case k311_1 =>
                  refine' ja_cons ?k317_0 ?k317_1
                  case k317_0 =>
                    refine' je_pow ?k318_0 ?k318_1
                    case k318_0 =>
                      refine' jr_of ?k319_0
                      case k319_0 =>
                        exact je_int
                    case k318_1 =>
                      refine' jr_of ?k320_0
                      case k320_0 =>
                        exact je_int
                  case k317_1 =>
                    exact ja_nil


/-! ### is_form -/
abbrev s_is_form : Stmt := top 32
def e0_is_form : M D := mCall0 g_is_time (mCons (mVar 5) (mNil))
def e1_is_form : M D := mOp neF (mT (mOp (isF false) (mT (mOp ixF (mVarT 2) (mT (mOp addF (mVarT 1) (mVarT 4))))) (mT (ret .none)))) (mT (mOp (isF false) (mVarT 5) (mT (ret .none))))
def b_is_form : S := sSeq (sIf (mOr (mNot (mTst (mIsi (pIs "tuple") (mVarT 0)))) (mOr (mTst (mOp neF (mT (mCB lenF (mCons (mVarT 0) (mNil)))) (mT (ret (.int 3))))) (mNot (mTst (mCall0 g_is_whole (mCons (mOp ixF (mVarT 0) (mT (ret (.int 0)))) (mCons (ret (.int 0)) (mCons (mOp powF (mT (ret (.int 10))) (mT (ret (.int 6)))) (mNil))))))))) (sRet (ret (.bool false))) (sNext))
 (sSeq (sAsg (mVar 0) (hTup 3 (hCons (hName 1) (hCons (hName 2) (hCons (hName 3) (hNil))))))
 (sSeq (sIf (mOr (mNot (mTst (mIsi (pIs "tuple") (mVarT 2)))) (mOr (mNot (mTst (mIsi (pIs "tuple") (mVarT 3)))) (mTst (mOp eqF (mVarT 3) (mT (mTup (mNil))))))) (sRet (ret (.bool false))) (sNext))
 (sSeq (sIf (mOr (mTst (mOp neF (mT (mCB lenF (mCons (mVarT 2) (mNil)))) (mT (mOp addF (mVarT 1) (mT (mCB lenF (mCons (mVarT 3) (mNil)))))))) (mNot (mTst (mCB allF (mCons (mT (mLc (mSeqI (mOp addF (mVarT 2) (mVarT 3))) (hName 5) (mYes) (e0_is_form) [5])) (mNil)))))) (sRet (ret (.bool false))) (sNext))
 (sSeq (sIf (mTst (mCB anyF (mCons (mT (mLc (mEnum (mCons (mVar 3) (mNil))) (hTup 2 (hCons (hName 4) (hCons (hName 5) (hNil)))) (mYes) (e1_is_form) [4, 5])) (mNil)))) (sRet (ret (.bool false))) (sNext))
 (sRet (mOp eqF (mT (mCall0 g_canonical (mCons (mCB listF (mCons (mVarT 2) (mNil))) (mCons (mVar 1) (mCons (mCB listF (mCons (mVarT 3) (mNil))) (mNil)))))) (mVarT 0)))))))
def g_is_form : List D → RR := callD 1 6 b_is_form
theorem sc_is_form : FnScope ["value", "begin", "numbers", "rises", "at", "one"] ["value"] (defScope s_is_form) := ⟨rfl, rfl, rfl, by decide +kernel, rfl, by decide +kernel, by decide +kernel⟩
theorem ok_is_form {P : Program} {w : World} {K : PySem.W.Frag} {mg : Str → Option Value} {base : Heap} {C : Str → Addr} (nm : Nm K mg C) (h : HasF K mg "is_form" s_is_form ["value"]) (D_is_whole : DefV P w K mg base CX0 C "is_whole" ["value", "low", "high"] 1 g_is_whole) (D_is_time : DefV P w K mg base CX0 C "is_time" ["value"] 2 g_is_time) (D_canonical : DefV P w K mg base CX0 C "canonical" ["row", "begin", "rises"] 3 g_canonical) : DefV P w K mg base CX0 C "is_form" ["value"] 4 g_is_form := by
  have nd := sc_is_form.nd
  refine' def_v0 (k := 3) (N := ["value", "begin", "numbers", "rises", "at", "one"]) h sc_is_form ?hb
  intro f cdv A outer s H E hr
  refine' ⟨_, ?hc⟩
  case hc =>
    intro B EX
    refine' jss_cons ?k321_0 ?k321_1
    case k321_0 =>
      refine' js_if ?k322_0 ?k322_1 ?k322_2
      case k322_0 =>
        refine' jb_w ?k323_0
        case k323_0 =>
          refine' jw_or ?k324_0 ?k324_1
          case k324_0 =>
            refine' jb_not ?k325_0
            case k325_0 =>
              refine' jb_val ?k326_0
              case k326_0 =>
                refine' je_isi (K := K) tab_tuple PyProof.Rows.boot_tuple nm.tuple nm.isinstance ?k327_0
                case k327_0 =>
                  exact jr_var 0
          case k324_1 =>
            refine' jw_or ?k328_0 ?k328_1
            case k328_0 =>
              refine' jb_ne (K := K) hr.units ?k329_0 ?k329_1
              case k329_0 =>
                refine' jr_of ?k330_0
                case k330_0 =>
                  refine' je_cb (cK_len (K := K) rfl) okK_len PySem.boot_len nm.len ?k331_0
                  case k331_0 =>
                    refine' jar_cons ?k332_0 ?k332_1
                    case k332_0 =>
                      exact jr_var 0
                    case k332_1 =>
                      exact jar_nil
              case k329_1 =>
                refine' jr_of ?k333_0
                case k333_0 =>
                  exact je_int
            case k328_1 =>
              refine' jw_or1 ?k334_0
              case k334_0 =>
                refine' jb_not ?k335_0
                case k335_0 =>
                  refine' jb_val ?k336_0
                  case k336_0 =>
                    refine' je_call0 D_is_whole hr ?k337_0
                    case k337_0 =>
                      refine' ja_cons ?k338_0 ?k338_1
                      case k338_0 =>
                        refine' je_ix (K := K) ?k339_0 ?k339_1
                        case k339_0 =>
                          exact jr_var 0
                        case k339_1 =>
                          refine' jr_of ?k340_0
                          case k340_0 =>
                            exact je_int
                      case k338_1 =>
                        refine' ja_cons ?k341_0 ?k341_1
                        case k341_0 =>
                          exact je_int
                        case k341_1 =>
                          refine' ja_cons ?k342_0 ?k342_1
                          case k342_0 =>
                            refine' je_pow ?k343_0 ?k343_1
                            case k343_0 =>
                              refine' jr_of ?k344_0
                              case k344_0 =>
                                exact je_int
                            case k343_1 =>
                              refine' jr_of ?k345_0
                              case k345_0 =>
                                exact je_int
                          case k342_1 =>
                            exact ja_nil
      case k322_1 =>
        refine' jss_one ?k346_0
        case k346_0 =>
          refine' js_ret ?k347_0
          case k347_0 =>
            exact je_bl
      case k322_2 =>
        exact jss_nil
    case k321_1 =>
      refine' jss_cons ?k348_0 ?k348_1
      case k348_0 =>
        refine' js_asg ?k349_0 ?k349_1
        case k349_0 =>
          exact je_var 0
        case k349_1 =>
          refine' jg_tup (K := K) ?k350_0
          case k350_0 =>
            refine' jgs_cons ?k351_0 ?k351_1
            case k351_0 =>
              exact jg_name 1 nd
            case k351_1 =>
              refine' jgs_cons ?k352_0 ?k352_1
              case k352_0 =>
                exact jg_name 2 nd
              case k352_1 =>
                refine' jgs_cons ?k353_0 ?k353_1
                case k353_0 =>
                  exact jg_name 3 nd
                case k353_1 =>
                  exact jgs_nil
      case k348_1 =>
        refine' jss_cons ?k354_0 ?k354_1
        case k354_0 =>
          refine' js_if ?k355_0 ?k355_1 ?k355_2
          case k355_0 =>
            refine' jb_w ?k356_0
            case k356_0 =>
              refine' jw_or ?k357_0 ?k357_1
              case k357_0 =>
                refine' jb_not ?k358_0
                case k358_0 =>
                  refine' jb_val ?k359_0
                  case k359_0 =>
                    refine' je_isi (K := K) tab_tuple PyProof.Rows.boot_tuple nm.tuple nm.isinstance ?k360_0
                    case k360_0 =>
                      exact jr_var 2
              case k357_1 =>
                refine' jw_or ?k361_0 ?k361_1
                case k361_0 =>
                  refine' jb_not ?k362_0
                  case k362_0 =>
                    refine' jb_val ?k363_0
                    case k363_0 =>
                      refine' je_isi (K := K) tab_tuple PyProof.Rows.boot_tuple nm.tuple nm.isinstance ?k364_0
                      case k364_0 =>
                        exact jr_var 3
                case k361_1 =>
                  refine' jw_or1 ?k365_0
                  case k365_0 =>
                    refine' jb_eq (K := K) hr.units ?k366_0 ?k366_1
                    case k366_0 =>
                      exact jr_var 3
                    case k366_1 =>
                      refine' jr_of ?k367_0
                      case k367_0 =>
                        refine' je_tup ?k368_0
                        case k368_0 =>
                          exact ja_nil
          case k355_1 =>
            refine' jss_one ?k369_0
            case k369_0 =>
              refine' js_ret ?k370_0
              case k370_0 =>
                exact je_bl
          case k355_2 =>
            exact jss_nil
        case k354_1 =>
          refine' jss_cons ?k371_0 ?k371_1
          case k371_0 =>
            refine' js_if ?k372_0 ?k372_1 ?k372_2
            case k372_0 =>
              refine' jb_w ?k373_0
              case k373_0 =>
                refine' jw_or ?k374_0 ?k374_1
                case k374_0 =>
                  refine' jb_ne (K := K) hr.units ?k375_0 ?k375_1
                  case k375_0 =>
                    refine' jr_of ?k376_0
                    case k376_0 =>
                      refine' je_cb (cK_len (K := K) rfl) okK_len PySem.boot_len nm.len ?k377_0
                      case k377_0 =>
                        refine' jar_cons ?k378_0 ?k378_1
                        case k378_0 =>
                          exact jr_var 2
                        case k378_1 =>
                          exact jar_nil
                  case k375_1 =>
                    refine' jr_of ?k379_0
                    case k379_0 =>
                      refine' je_add (K := K) ?k380_0 ?k380_1
                      case k380_0 =>
                        exact jr_var 1
                      case k380_1 =>
                        refine' jr_of ?k381_0
                        case k381_0 =>
                          refine' je_cb (cK_len (K := K) rfl) okK_len PySem.boot_len nm.len ?k382_0
                          case k382_0 =>
                            refine' jar_cons ?k383_0 ?k383_1
                            case k383_0 =>
                              exact jr_var 3
                            case k383_1 =>
                              exact jar_nil
                case k374_1 =>
                  refine' jw_or1 ?k384_0
                  case k384_0 =>
                    refine' jb_not ?k385_0
                    case k385_0 =>
                      refine' jb_val ?k386_0
                      case k386_0 =>
                        refine' je_cb (cK_all (K := K) rfl rfl) ok_all PyProof.Rows.boot_all nm.all ?k387_0
                        case k387_0 =>
                          refine' jar_cons ?k388_0 ?k388_1
                          case k388_0 =>
                            refine' jr_of ?k389_0
                            case k389_0 =>
                              refine' je_of ?k390_0
                              case k390_0 =>
                                refine' jf_lc (own := [("one", 5)]) (L := [5]) nd (blkOk_by (by kernel_rfl)) ?k391_0 ?k391_1 ?k391_2 ?k391_3
                                case k391_0 =>
                                  refine' ji_seq (K := K) ?k392_0
                                  case k392_0 =>
                                    refine' je_add (K := K) ?k393_0 ?k393_1
                                    case k393_0 =>
                                      exact jr_var 2
                                    case k393_1 =>
                                      exact jr_var 3
                                case k391_1 =>
                                  intro _ _ _ _ _
                                  exact jg_name 5 nd
                                case k391_2 =>
                                  intro _ _ _ _ _
                                  exact jbs_nil
                                case k391_3 =>
                                  intro _ _ _ _ _
                                  refine' je_call0 D_is_time hr ?k394_0
                                  case k394_0 =>
                                    refine' ja_cons ?k395_0 ?k395_1
                                    case k395_0 =>
                                      exact je_var 5
                                    case k395_1 =>
                                      exact ja_nil
                          case k388_1 =>
                            exact jar_nil
            case k372_1 =>
              refine' jss_one ?k396_0
              case k396_0 =>
                refine' js_ret ?k397_0
                case k397_0 =>
                  exact je_bl
            case k372_2 =>
              exact jss_nil
          case k371_1 =>
            refine' jss_cons ?k398_0 ?k398_1
            case k398_0 =>
              refine' js_if ?k399_0 ?k399_1 ?k399_2
              case k399_0 =>
                refine' jb_val ?k400_0
                case k400_0 =>
                  refine' je_cb (cK_any (K := K) rfl rfl) ok_any PyProof.Rows.boot_any nm.any ?k401_0
                  case k401_0 =>
                    refine' jar_cons ?k402_0 ?k402_1
                    case k402_0 =>
                      refine' jr_of ?k403_0
                      case k403_0 =>
                        refine' je_of ?k404_0
                        case k404_0 =>
                          refine' jf_lc (own := [("at", 4), ("one", 5)]) (L := ([4] ++ ([5] ++ []))) nd (blkOk_by (by kernel_rfl)) ?k405_0 ?k405_1 ?k405_2 ?k405_3
                          case k405_0 =>
                            refine' ji_enum (K := K) nm.enumerate ?k406_0
                            case k406_0 =>
                              refine' ja_cons ?k407_0 ?k407_1
                              case k407_0 =>
                                exact je_var 3
                              case k407_1 =>
                                exact ja_nil
                          case k405_1 =>
                            intro _ _ _ _ _
                            refine' jg_tup (K := K) ?k408_0
                            case k408_0 =>
                              refine' jgs_cons ?k409_0 ?k409_1
                              case k409_0 =>
                                exact jg_name 4 nd
                              case k409_1 =>
                                refine' jgs_cons ?k410_0 ?k410_1
                                case k410_0 =>
                                  exact jg_name 5 nd
                                case k410_1 =>
                                  exact jgs_nil
                          case k405_2 =>
                            intro _ _ _ _ _
                            exact jbs_nil
                          case k405_3 =>
                            intro _ _ _ _ _
                            refine' je_ne (K := K) hr.units ?k411_0 ?k411_1
                            case k411_0 =>
                              refine' jr_of ?k412_0
                              case k412_0 =>
                                refine' je_is ?k413_0 ?k413_1
                                case k413_0 =>
                                  refine' jr_of ?k414_0
                                  case k414_0 =>
                                    refine' je_ix (K := K) ?k415_0 ?k415_1
                                    case k415_0 =>
                                      exact jr_var 2
                                    case k415_1 =>
                                      refine' jr_of ?k416_0
                                      case k416_0 =>
                                        refine' je_add (K := K) ?k417_0 ?k417_1
                                        case k417_0 =>
                                          exact jr_var 1
                                        case k417_1 =>
                                          exact jr_var 4
                                case k413_1 =>
                                  refine' jr_of ?k418_0
                                  case k418_0 =>
                                    exact je_non
                            case k411_1 =>
                              refine' jr_of ?k419_0
                              case k419_0 =>
                                refine' je_is ?k420_0 ?k420_1
                                case k420_0 =>
                                  exact jr_var 5
                                case k420_1 =>
                                  refine' jr_of ?k421_0
                                  case k421_0 =>
                                    exact je_non
                    case k402_1 =>
                      exact jar_nil
              case k399_1 =>
                refine' jss_one ?k422_0
                case k422_0 =>
                  refine' js_ret ?k423_0
                  case k423_0 =>
                    exact je_bl
              case k399_2 =>
                exact jss_nil
            case k398_1 =>
              refine' jss_one ?k424_0
              case k424_0 =>
                refine' js_ret ?k425_0
                case k425_0 =>
                  refine' je_eq (K := K) hr.units ?k426_0 ?k426_1
                  case k426_0 =>
                    refine' jr_of ?k427_0
                    case k427_0 =>
                      refine' je_call0 D_canonical hr ?k428_0
                      case k428_0 =>
                        refine' ja_cons ?k429_0 ?k429_1
                        case k429_0 =>
                          refine' je_of ?k430_0
                          case k430_0 =>
                            refine' jf_ct (cK_list (K := K) rfl) okK_list PyProof.Rows.boot_list nm.list ?k431_0
                            case k431_0 =>
                              refine' jar_cons ?k432_0 ?k432_1
                              case k432_0 =>
                                exact jr_var 2
                              case k432_1 =>
                                exact jar_nil
                        case k429_1 =>
                          refine' ja_cons ?k433_0 ?k433_1
                          case k433_0 =>
                            exact je_var 1
                          case k433_1 =>
                            refine' ja_cons ?k434_0 ?k434_1
                            case k434_0 =>
                              refine' je_of ?k435_0
                              case k435_0 =>
                                refine' jf_ct (cK_list (K := K) rfl) okK_list PyProof.Rows.boot_list nm.list ?k436_0
                                case k436_0 =>
                                  refine' jar_cons ?k437_0 ?k437_1
                                  case k437_0 =>
                                    exact jr_var 3
                                  case k437_1 =>
                                    exact jar_nil
                            case k434_1 =>
                              exact ja_nil
                  case k426_1 =>
                    exact jr_var 0


/-! ### need_form -/
abbrev s_need_form : Stmt := top 33
def b_need_form : S := sIf (mNot (mTst (mCall0 g_is_form (mCons (mVar 0) (mNil))))) (sRaise "InvalidForm") (sNext)
def g_need_form : List D → RR := callD 1 1 b_need_form
theorem sc_need_form : FnScope ["form"] ["form"] (defScope s_need_form) := ⟨rfl, rfl, rfl, by decide +kernel, rfl, by decide +kernel, by decide +kernel⟩
theorem ok_need_form {P : Program} {w : World} {K : PySem.W.Frag} {mg : Str → Option Value} {base : Heap} {C : Str → Addr} (nm : Nm K mg C) (h : HasF K mg "need_form" s_need_form ["form"]) (D_is_form : DefV P w K mg base CX0 C "is_form" ["value"] 4 g_is_form) : DefV P w K mg base (L2N.CX P w) C "need_form" ["form"] 5 g_need_form := by
  have nd := sc_need_form.nd
  refine' def_vX (k := 4) (N := ["form"]) h sc_need_form ?hb
  intro f cdv A outer s H E hr
  refine' ⟨_, ?hc⟩
  case hc =>
    intro B
    refine' jss_one ?k438_0
    case k438_0 =>
      refine' js_if ?k439_0 ?k439_1 ?k439_2
      case k439_0 =>
        refine' jb_not ?k440_0
        case k440_0 =>
          refine' jb_val ?k441_0
          case k441_0 =>
            refine' je_call0 D_is_form hr ?k442_0
            case k442_0 =>
              refine' ja_cons ?k443_0 ?k443_1
              case k443_0 =>
                exact je_var 0
              case k443_1 =>
                exact ja_nil
      case k439_1 =>
        refine' jss_one ?k444_0
        case k444_0 =>
          exact js_raise nm.X_InvalidForm
      case k439_2 =>
        exact jss_nil


/-! ### is_later -/
abbrev s_is_later : Stmt := top 35
def b_is_later : S := sRet (mAndV (mOp (isF true) (mVarT 0) (mT (ret .none))) (mOrV (mOp (isF false) (mVarT 1) (mT (ret .none))) (mOp gtF (mVarT 0) (mVarT 1))))
def g_is_later : List D → RR := callD 2 2 b_is_later
theorem sc_is_later : FnScope ["one", "other"] ["one", "other"] (defScope s_is_later) := ⟨rfl, rfl, rfl, by decide +kernel, rfl, by decide +kernel, by decide +kernel⟩
theorem ok_is_later {P : Program} {w : World} {K : PySem.W.Frag} {mg : Str → Option Value} {base : Heap} {C : Str → Addr} (nm : Nm K mg C) (h : HasF K mg "is_later" s_is_later ["one", "other"]) : DefV P w K mg base CX0 C "is_later" ["one", "other"] 1 g_is_later := by
  have nd := sc_is_later.nd
  refine' def_v0 (k := 0) (N := ["one", "other"]) h sc_is_later ?hb
  intro f cdv A outer s H E hr
  refine' ⟨_, ?hc⟩
  case hc =>
    intro B EX
    refine' jss_one ?k445_0
    case k445_0 =>
      refine' js_ret ?k446_0
      case k446_0 =>
        refine' je_and ?k447_0 ?k447_1
        case k447_0 =>
          refine' je_isnot ?k448_0 ?k448_1
          case k448_0 =>
            exact jr_var 0
          case k448_1 =>
            refine' jr_of ?k449_0
            case k449_0 =>
              exact je_non
        case k447_1 =>
          refine' je_one ?k450_0
          case k450_0 =>
            refine' je_or ?k451_0 ?k451_1
            case k451_0 =>
              refine' je_is ?k452_0 ?k452_1
              case k452_0 =>
                exact jr_var 1
              case k452_1 =>
                refine' jr_of ?k453_0
                case k453_0 =>
                  exact je_non
            case k451_1 =>
              refine' je_one ?k454_0
              case k454_0 =>
                refine' je_gt ?k455_0 ?k455_1
                case k455_0 =>
                  exact jr_var 0
                case k455_1 =>
                  exact jr_var 1


/-! ### bound_of -/
abbrev s_bound_of : Stmt := top 36
def b_bound_of : S := sSeq (sAsg (mCall0 g_multiple (mCons (mCB lenF (mCons (mT (mOp ixF (mVarT 0) (mT (ret (.int 2))))) (mNil))) (mCons (mCB lenF (mCons (mT (mOp ixF (mVarT 1) (mT (ret (.int 2))))) (mNil))) (mNil)))) (hName 2))
 (sRet (mTup (mCons (mOp addF (mT (mCB max2F (mCons (mT (mOp ixF (mVarT 0) (mT (ret (.int 0))))) (mCons (mT (mOp ixF (mVarT 1) (mT (ret (.int 0))))) (mNil))))) (mT (mOp mulF (mT (ret (.int 2))) (mVarT 2)))) (mCons (mVar 2) (mNil)))))
def g_bound_of : List D → RR := callD 2 3 b_bound_of
theorem sc_bound_of : FnScope ["one", "other", "step"] ["one", "other"] (defScope s_bound_of) := ⟨rfl, rfl, rfl, by decide +kernel, rfl, by decide +kernel, by decide +kernel⟩
theorem ok_bound_of {P : Program} {w : World} {K : PySem.W.Frag} {mg : Str → Option Value} {base : Heap} {C : Str → Addr} (nm : Nm K mg C) (h : HasF K mg "bound_of" s_bound_of ["one", "other"]) (D_multiple : DefV P w K mg base CX0 C "multiple" ["one", "other"] 2 g_multiple) : DefV P w K mg base CX0 C "bound_of" ["one", "other"] 3 g_bound_of := by
  have nd := sc_bound_of.nd
  refine' def_v0 (k := 2) (N := ["one", "other", "step"]) h sc_bound_of ?hb
  intro f cdv A outer s H E hr
  refine' ⟨_, ?hc⟩
  case hc =>
    intro B EX
    refine' jss_cons ?k456_0 ?k456_1
    case k456_0 =>
      refine' js_set 2 nd ?k457_0
      case k457_0 =>
        refine' je_call0 D_multiple hr ?k458_0
        case k458_0 =>
          refine' ja_cons ?k459_0 ?k459_1
          case k459_0 =>
            refine' je_cb (cK_len (K := K) rfl) okK_len PySem.boot_len nm.len ?k460_0
            case k460_0 =>
              refine' jar_cons ?k461_0 ?k461_1
              case k461_0 =>
                refine' jr_of ?k462_0
                case k462_0 =>
                  refine' je_ix (K := K) ?k463_0 ?k463_1
                  case k463_0 =>
                    exact jr_var 0
                  case k463_1 =>
                    refine' jr_of ?k464_0
                    case k464_0 =>
                      exact je_int
              case k461_1 =>
                exact jar_nil
          case k459_1 =>
            refine' ja_cons ?k465_0 ?k465_1
            case k465_0 =>
              refine' je_cb (cK_len (K := K) rfl) okK_len PySem.boot_len nm.len ?k466_0
              case k466_0 =>
                refine' jar_cons ?k467_0 ?k467_1
                case k467_0 =>
                  refine' jr_of ?k468_0
                  case k468_0 =>
                    refine' je_ix (K := K) ?k469_0 ?k469_1
                    case k469_0 =>
                      exact jr_var 1
                    case k469_1 =>
                      refine' jr_of ?k470_0
                      case k470_0 =>
                        exact je_int
                case k467_1 =>
                  exact jar_nil
            case k465_1 =>
              exact ja_nil
    case k456_1 =>
      refine' jss_one ?k471_0
      case k471_0 =>
        refine' js_ret ?k472_0
        case k472_0 =>
          refine' je_tup ?k473_0
          case k473_0 =>
            refine' ja_cons ?k474_0 ?k474_1
            case k474_0 =>
              refine' je_add (K := K) ?k475_0 ?k475_1
              case k475_0 =>
                refine' jr_of ?k476_0
                case k476_0 =>
                  refine' je_cb (call_max2 rfl) ok_max2 PyProof.Rows.boot_max nm.max ?k477_0
                  case k477_0 =>
                    refine' jar_cons ?k478_0 ?k478_1
                    case k478_0 =>
                      refine' jr_of ?k479_0
                      case k479_0 =>
                        refine' je_ix (K := K) ?k480_0 ?k480_1
                        case k480_0 =>
                          exact jr_var 0
                        case k480_1 =>
                          refine' jr_of ?k481_0
                          case k481_0 =>
                            exact je_int
                    case k478_1 =>
                      refine' jar_cons ?k482_0 ?k482_1
                      case k482_0 =>
                        refine' jr_of ?k483_0
                        case k483_0 =>
                          refine' je_ix (K := K) ?k484_0 ?k484_1
                          case k484_0 =>
                            exact jr_var 1
                          case k484_1 =>
                            refine' jr_of ?k485_0
                            case k485_0 =>
                              exact je_int
                      case k482_1 =>
                        exact jar_nil
              case k475_1 =>
                refine' jr_of ?k486_0
                case k486_0 =>
                  refine' je_mul (K := K) ?k487_0 ?k487_1
                  case k487_0 =>
                    refine' jr_of ?k488_0
                    case k488_0 =>
                      exact je_int
                  case k487_1 =>
                    exact jr_var 2
            case k474_1 =>
              refine' ja_cons ?k489_0 ?k489_1
              case k489_0 =>
                exact je_var 2
              case k489_1 =>
                exact ja_nil


/-! ### first_unlike -/
abbrev s_first_unlike : Stmt := top 37
def l0_first_unlike : S := sIf (mTst (mOp neF (mT (mCall0 g_value_of (mCons (mVar 0) (mCons (mVar 2) (mNil))))) (mT (mCall0 g_value_of (mCons (mVar 1) (mCons (mVar 2) (mNil))))))) (sRet (mVar 2)) (sNext)
def b_first_unlike : S := sSeq (sFor (mRng1 (mCons (mOp ixF (mT (mCall0 g_bound_of (mCons (mVar 0) (mCons (mVar 1) (mNil))))) (mT (ret (.int 0)))) (mNil))) (hName 2) (l0_first_unlike))
 (sRet (ret .none))
def g_first_unlike : List D → RR := callD 2 3 b_first_unlike
theorem sc_first_unlike : FnScope ["one", "other", "place"] ["one", "other"] (defScope s_first_unlike) := ⟨rfl, rfl, rfl, by decide +kernel, rfl, by decide +kernel, by decide +kernel⟩
theorem ok_first_unlike {P : Program} {w : World} {K : PySem.W.Frag} {mg : Str → Option Value} {base : Heap} {C : Str → Addr} (nm : Nm K mg C) (h : HasF K mg "first_unlike" s_first_unlike ["one", "other"]) (D_bound_of : DefV P w K mg base CX0 C "bound_of" ["one", "other"] 3 g_bound_of) (D_value_of : DefV P w K mg base CX0 C "value_of" ["form", "place"] 2 g_value_of) : DefV P w K mg base CX0 C "first_unlike" ["one", "other"] 4 g_first_unlike := by
  have nd := sc_first_unlike.nd
  refine' def_v0 (k := 3) (N := ["one", "other", "place"]) h sc_first_unlike ?hb
  intro f cdv A outer s H E hr
  refine' ⟨_, ?hc⟩
  case hc =>
    intro B EX
    refine' jss_cons ?k490_0 ?k490_1
    case k490_0 =>
      refine' js_for PassesOwn.never ?k491_0 ?k491_1 ?k491_2
      case k491_0 =>
        refine' ji_rng1 nm.range ?k492_0
        case k492_0 =>
          refine' ja_cons ?k493_0 ?k493_1
          case k493_0 =>
            refine' je_ix (K := K) ?k494_0 ?k494_1
            case k494_0 =>
              refine' jr_of ?k495_0
              case k495_0 =>
                refine' je_call0 D_bound_of hr ?k496_0
                case k496_0 =>
                  refine' ja_cons ?k497_0 ?k497_1
                  case k497_0 =>
                    exact je_var 0
                  case k497_1 =>
                    refine' ja_cons ?k498_0 ?k498_1
                    case k498_0 =>
                      exact je_var 1
                    case k498_1 =>
                      exact ja_nil
            case k494_1 =>
              refine' jr_of ?k499_0
              case k499_0 =>
                exact je_int
          case k493_1 =>
            exact ja_nil
      case k491_1 =>
        exact jg_name 2 nd
      case k491_2 =>
        refine' jss_one ?k500_0
        case k500_0 =>
          refine' js_if ?k501_0 ?k501_1 ?k501_2
          case k501_0 =>
            refine' jb_ne (K := K) hr.units ?k502_0 ?k502_1
            case k502_0 =>
              refine' jr_of ?k503_0
              case k503_0 =>
                refine' je_call0 D_value_of hr ?k504_0
                case k504_0 =>
                  refine' ja_cons ?k505_0 ?k505_1
                  case k505_0 =>
                    exact je_var 0
                  case k505_1 =>
                    refine' ja_cons ?k506_0 ?k506_1
                    case k506_0 =>
                      exact je_var 2
                    case k506_1 =>
                      exact ja_nil
            case k502_1 =>
              refine' jr_of ?k507_0
              case k507_0 =>
                refine' je_call0 D_value_of hr ?k508_0
                case k508_0 =>
                  refine' ja_cons ?k509_0 ?k509_1
                  case k509_0 =>
                    exact je_var 1
                  case k509_1 =>
                    refine' ja_cons ?k510_0 ?k510_1
                    case k510_0 =>
                      exact je_var 2
                    case k510_1 =>
                      exact ja_nil
          case k501_1 =>
            refine' jss_one ?k511_0
            case k511_0 =>
              refine' js_ret ?k512_0
              case k512_0 =>
                exact je_var 2
          case k501_2 =>
            exact jss_nil
    case k490_1 =>
      refine' jss_one ?k513_0
      case k513_0 =>
        refine' js_ret ?k514_0
        case k514_0 =>
          exact je_non


/-! ### first_past -/
abbrev s_first_past : Stmt := top 38
def l0_first_past : S := sSeq (sPar [false, false] [6, 7] (mCons (mCall0 g_value_of (mCons (mVar 0) (mCons (mVar 5) (mNil)))) (mCons (mCall0 g_value_of (mCons (mVar 1) (mCons (mVar 5) (mNil)))) (mNil))))
 (sSeq (sIf (mTst (mCall0 g_is_later (mCons (mVar 6) (mCons (mVar 7) (mNil))))) (sRet (mIf (mTst (mOp (isF false) (mVarT 4) (mT (ret .none)))) (mVar 5) (mCB min2F (mCons (mVarT 4) (mCons (mVarT 5) (mNil)))))) (sNext))
 (sIf (mAnd (mTst (mOp geF (mVarT 5) (mT (mOp subF (mVarT 2) (mVarT 3))))) (mTst (mOp (isF true) (mVarT 6) (mT (ret .none))))) (sSeq (sAsg (mOp subF (mT (mOp subF (mT (mCall0 g_value_of (mCons (mVar 0) (mCons (mOp addF (mVarT 5) (mVarT 3)) (mNil))))) (mVarT 6))) (mT (mOp subF (mT (mCall0 g_value_of (mCons (mVar 1) (mCons (mOp addF (mVarT 5) (mVarT 3)) (mNil))))) (mVarT 7)))) (hName 8))
 (sIf (mTst (mOp gtF (mVarT 8) (mT (ret (.int 0))))) (sSeq (sAsg (mOp addF (mT (mOp fdivF (mT (mOp subF (mVarT 7) (mVarT 6))) (mVarT 8))) (mT (ret (.int 1)))) (hName 9))
 (sAsg (mIf (mTst (mOp (isF false) (mVarT 4) (mT (ret .none)))) (mOp addF (mVarT 5) (mT (mOp mulF (mVarT 9) (mVarT 3)))) (mCB min2F (mCons (mVarT 4) (mCons (mT (mOp addF (mVarT 5) (mT (mOp mulF (mVarT 9) (mVarT 3))))) (mNil))))) (hName 4))) (sNext))) (sNext)))
def b_first_past : S := sSeq (sAsg (mCall0 g_bound_of (mCons (mVar 0) (mCons (mVar 1) (mNil)))) (hTup 2 (hCons (hName 2) (hCons (hName 3) (hNil)))))
 (sSeq (sAsg (ret .none) (hName 4))
 (sSeq (sFor (mRng1 (mCons (mVar 2) (mNil))) (hName 5) (l0_first_past))
 (sRet (mVar 4))))
def g_first_past : List D → RR := callD 2 10 b_first_past
theorem sc_first_past : FnScope ["one", "other", "most", "step", "best", "place", "own", "far", "gain", "turns"] ["one", "other"] (defScope s_first_past) := ⟨rfl, rfl, rfl, by decide +kernel, rfl, by decide +kernel, by decide +kernel⟩
theorem ok_first_past {P : Program} {w : World} {K : PySem.W.Frag} {mg : Str → Option Value} {base : Heap} {C : Str → Addr} (nm : Nm K mg C) (h : HasF K mg "first_past" s_first_past ["one", "other"]) (D_bound_of : DefV P w K mg base CX0 C "bound_of" ["one", "other"] 3 g_bound_of) (D_value_of : DefV P w K mg base CX0 C "value_of" ["form", "place"] 2 g_value_of) (D_is_later : DefV P w K mg base CX0 C "is_later" ["one", "other"] 1 g_is_later) : DefV P w K mg base CX0 C "first_past" ["one", "other"] 4 g_first_past := by
  have nd := sc_first_past.nd
  refine' def_v0 (k := 3) (N := ["one", "other", "most", "step", "best", "place", "own", "far", "gain", "turns"]) h sc_first_past ?hb
  intro f cdv A outer s H E hr
  refine' ⟨_, ?hc⟩
  case hc =>
    intro B EX
    refine' jss_cons ?k515_0 ?k515_1
    case k515_0 =>
      refine' js_asg ?k516_0 ?k516_1
      case k516_0 =>
        refine' je_call0 D_bound_of hr ?k517_0
        case k517_0 =>
          refine' ja_cons ?k518_0 ?k518_1
          case k518_0 =>
            exact je_var 0
          case k518_1 =>
            refine' ja_cons ?k519_0 ?k519_1
            case k519_0 =>
              exact je_var 1
            case k519_1 =>
              exact ja_nil
      case k516_1 =>
        refine' jg_tup (K := K) ?k520_0
        case k520_0 =>
          refine' jgs_cons ?k521_0 ?k521_1
          case k521_0 =>
            exact jg_name 2 nd
          case k521_1 =>
            refine' jgs_cons ?k522_0 ?k522_1
            case k522_0 =>
              exact jg_name 3 nd
            case k522_1 =>
              exact jgs_nil
    case k515_1 =>
      refine' jss_cons ?k523_0 ?k523_1
      case k523_0 =>
        refine' js_set 4 nd ?k524_0
        case k524_0 =>
          exact je_non
      case k523_1 =>
        refine' jss_cons ?k525_0 ?k525_1
        case k525_0 =>
          refine' js_for PassesOwn.never ?k526_0 ?k526_1 ?k526_2
          case k526_0 =>
            refine' ji_rng1 nm.range ?k527_0
            case k527_0 =>
              refine' ja_cons ?k528_0 ?k528_1
              case k528_0 =>
                exact je_var 2
              case k528_1 =>
                exact ja_nil
          case k526_1 =>
            exact jg_name 5 nd
          case k526_2 =>
            refine' jss_cons ?k529_0 ?k529_1
            case k529_0 =>
              refine' js_par2 6 7 nd ?k530_0
              case k530_0 =>
                refine' jam_cons ?k531_0 ?k531_1
                case k531_0 =>
                  refine' je_call0 D_value_of hr ?k532_0
                  case k532_0 =>
                    refine' ja_cons ?k533_0 ?k533_1
                    case k533_0 =>
                      exact je_var 0
                    case k533_1 =>
                      refine' ja_cons ?k534_0 ?k534_1
                      case k534_0 =>
                        exact je_var 5
                      case k534_1 =>
                        exact ja_nil
                case k531_1 =>
                  refine' jam_cons ?k535_0 ?k535_1
                  case k535_0 =>
                    refine' je_call0 D_value_of hr ?k536_0
                    case k536_0 =>
                      refine' ja_cons ?k537_0 ?k537_1
                      case k537_0 =>
                        exact je_var 1
                      case k537_1 =>
                        refine' ja_cons ?k538_0 ?k538_1
                        case k538_0 =>
                          exact je_var 5
                        case k538_1 =>
                          exact ja_nil
                  case k535_1 =>
                    exact jam_nil
            case k529_1 =>
              refine' jss_cons ?k539_0 ?k539_1
              case k539_0 =>
                refine' js_if ?k540_0 ?k540_1 ?k540_2
                case k540_0 =>
                  refine' jb_val ?k541_0
                  case k541_0 =>
                    refine' je_call0 D_is_later hr ?k542_0
                    case k542_0 =>
                      refine' ja_cons ?k543_0 ?k543_1
                      case k543_0 =>
                        exact je_var 6
                      case k543_1 =>
                        refine' ja_cons ?k544_0 ?k544_1
                        case k544_0 =>
                          exact je_var 7
                        case k544_1 =>
                          exact ja_nil
                case k540_1 =>
                  refine' jss_one ?k545_0
                  case k545_0 =>
                    refine' js_ret ?k546_0
                    case k546_0 =>
                      refine' je_if ?k547_0 ?k547_1 ?k547_2
                      case k547_0 =>
                        refine' jb_is ?k548_0 ?k548_1
                        case k548_0 =>
                          exact jr_var 4
                        case k548_1 =>
                          refine' jr_of ?k549_0
                          case k549_0 =>
                            exact je_non
                      case k547_1 =>
                        exact je_var 5
                      case k547_2 =>
                        refine' je_cb (call_min2 rfl) ok_min2 PyProof.Rows.boot_min nm.min ?k550_0
                        case k550_0 =>
                          refine' jar_cons ?k551_0 ?k551_1
                          case k551_0 =>
                            exact jr_var 4
                          case k551_1 =>
                            refine' jar_cons ?k552_0 ?k552_1
                            case k552_0 =>
                              exact jr_var 5
                            case k552_1 =>
                              exact jar_nil
                case k540_2 =>
                  exact jss_nil
              case k539_1 =>
                refine' jss_one ?k553_0
                case k553_0 =>
                  refine' js_if ?k554_0 ?k554_1 ?k554_2
                  case k554_0 =>
                    refine' jb_w ?k555_0
                    case k555_0 =>
                      refine' jw_and ?k556_0 ?k556_1
                      case k556_0 =>
                        refine' jb_ge ?k557_0 ?k557_1
                        case k557_0 =>
                          exact jr_var 5
                        case k557_1 =>
                          refine' jr_of ?k558_0
                          case k558_0 =>
                            refine' je_sub ?k559_0 ?k559_1
                            case k559_0 =>
                              exact jr_var 2
                            case k559_1 =>
                              exact jr_var 3
                      case k556_1 =>
                        refine' jw_and1 ?k560_0
                        case k560_0 =>
                          refine' jb_isnot ?k561_0 ?k561_1
                          case k561_0 =>
                            exact jr_var 6
                          case k561_1 =>
                            refine' jr_of ?k562_0
                            case k562_0 =>
                              exact je_non
                  case k554_1 =>
                    refine' jss_cons ?k563_0 ?k563_1
                    case k563_0 =>
                      refine' js_set 8 nd ?k564_0
                      case k564_0 =>
                        refine' je_sub ?k565_0 ?k565_1
                        case k565_0 =>
                          refine' jr_of ?k566_0
                          case k566_0 =>
                            refine' je_sub ?k567_0 ?k567_1
                            case k567_0 =>
                              refine' jr_of ?k568_0
                              case k568_0 =>
                                refine' je_call0 D_value_of hr ?k569_0
                                case k569_0 =>
                                  refine' ja_cons ?k570_0 ?k570_1
                                  case k570_0 =>
                                    exact je_var 0
                                  case k570_1 =>
                                    refine' ja_cons ?k571_0 ?k571_1
                                    case k571_0 =>
                                      refine' je_add (K := K) ?k572_0 ?k572_1
                                      case k572_0 =>
                                        exact jr_var 5
                                      case k572_1 =>
                                        exact jr_var 3
                                    case k571_1 =>
                                      exact ja_nil
                            case k567_1 =>
                              exact jr_var 6
                        case k565_1 =>
                          refine' jr_of ?k573_0
                          case k573_0 =>
                            refine' je_sub ?k574_0 ?k574_1
                            case k574_0 =>
                              refine' jr_of ?k575_0
                              case k575_0 =>
                                refine' je_call0 D_value_of hr ?k576_0
                                case k576_0 =>
                                  refine' ja_cons ?k577_0 ?k577_1
                                  case k577_0 =>
                                    exact je_var 1
                                  case k577_1 =>
                                    refine' ja_cons ?k578_0 ?k578_1
                                    case k578_0 =>
                                      refine' je_add (K := K) ?k579_0 ?k579_1
                                      case k579_0 =>
                                        exact jr_var 5
                                      case k579_1 =>
                                        exact jr_var 3
                                    case k578_1 =>
                                      exact ja_nil
                            case k574_1 =>
                              exact jr_var 7
                    case k563_1 =>
                      refine' jss_one ?k580_0
                      case k580_0 =>
                        refine' js_if ?k581_0 ?k581_1 ?k581_2
                        case k581_0 =>
                          refine' jb_gt ?k582_0 ?k582_1
                          case k582_0 =>
                            exact jr_var 8
                          case k582_1 =>
                            refine' jr_of ?k583_0
                            case k583_0 =>
                              exact je_int
                        case k581_1 =>
                          refine' jss_cons ?k584_0 ?k584_1
                          case k584_0 =>
                            refine' js_set 9 nd ?k585_0
                            case k585_0 =>
                              refine' je_add (K := K) ?k586_0 ?k586_1
                              case k586_0 =>
                                refine' jr_of ?k587_0
                                case k587_0 =>
                                  refine' je_fdiv ?k588_0 ?k588_1
                                  case k588_0 =>
                                    refine' jr_of ?k589_0
                                    case k589_0 =>
                                      refine' je_sub ?k590_0 ?k590_1
                                      case k590_0 =>
                                        exact jr_var 7
                                      case k590_1 =>
                                        exact jr_var 6
                                  case k588_1 =>
                                    exact jr_var 8
                              case k586_1 =>
                                refine' jr_of ?k591_0
                                case k591_0 =>
                                  exact je_int
                          case k584_1 =>
                            refine' jss_one ?k592_0
                            case k592_0 =>
                              refine' js_set 4 nd ?k593_0
                              case k593_0 =>
                                refine' je_if ?k594_0 ?k594_1 ?k594_2
                                case k594_0 =>
                                  refine' jb_is ?k595_0 ?k595_1
                                  case k595_0 =>
                                    exact jr_var 4
                                  case k595_1 =>
                                    refine' jr_of ?k596_0
                                    case k596_0 =>
                                      exact je_non
                                case k594_1 =>
                                  refine' je_add (K := K) ?k597_0 ?k597_1
                                  case k597_0 =>
                                    exact jr_var 5
                                  case k597_1 =>
                                    refine' jr_of ?k598_0
                                    case k598_0 =>
                                      refine' je_mul (K := K) ?k599_0 ?k599_1
                                      case k599_0 =>
                                        exact jr_var 9
                                      case k599_1 =>
                                        exact jr_var 3
                                case k594_2 =>
                                  refine' je_cb (call_min2 rfl) ok_min2 PyProof.Rows.boot_min nm.min ?k600_0
                                  case k600_0 =>
                                    refine' jar_cons ?k601_0 ?k601_1
                                    case k601_0 =>
                                      exact jr_var 4
                                    case k601_1 =>
                                      refine' jar_cons ?k602_0 ?k602_1
                                      case k602_0 =>
                                        refine' jr_of ?k603_0
                                        case k603_0 =>
                                          refine' je_add (K := K) ?k604_0 ?k604_1
                                          case k604_0 =>
                                            exact jr_var 5
                                          case k604_1 =>
                                            refine' jr_of ?k605_0
                                            case k605_0 =>
                                              refine' je_mul (K := K) ?k606_0 ?k606_1
                                              case k606_0 =>
                                                exact jr_var 9
                                              case k606_1 =>
                                                exact jr_var 3
                                      case k602_1 =>
                                        exact jar_nil
                        case k581_2 =>
                          exact jss_nil
                  case k554_2 =>
                    exact jss_nil
        case k525_1 =>
          refine' jss_one ?k607_0
          case k607_0 =>
            refine' js_ret ?k608_0
            case k608_0 =>
              exact je_var 4


/-! ### first_difference -/
abbrev s_first_difference : Stmt := top 39
def b_first_difference : S := sSeq (sDrop (mCall g_need_form (mCons (mVar 0) (mNil))))
 (sSeq (sDrop (mCall g_need_form (mCons (mVar 1) (mNil))))
 (sRet (mCall0 g_first_unlike (mCons (mVar 0) (mCons (mVar 1) (mNil))))))
def g_first_difference : List D → RR := callD 2 2 b_first_difference
theorem sc_first_difference : FnScope ["one", "other"] ["one", "other"] (defScope s_first_difference) := ⟨rfl, rfl, rfl, by decide +kernel, rfl, by decide +kernel, by decide +kernel⟩
theorem ok_first_difference {P : Program} {w : World} {K : PySem.W.Frag} {mg : Str → Option Value} {base : Heap} {C : Str → Addr} (nm : Nm K mg C) (h : HasF K mg "first_difference" s_first_difference ["one", "other"]) (D_need_form : DefV P w K mg base (L2N.CX P w) C "need_form" ["form"] 5 g_need_form) (D_first_unlike : DefV P w K mg base CX0 C "first_unlike" ["one", "other"] 4 g_first_unlike) : DefV P w K mg base (L2N.CX P w) C "first_difference" ["one", "other"] 6 g_first_difference := by
  have nd := sc_first_difference.nd
  refine' def_vX (k := 5) (N := ["one", "other"]) h sc_first_difference ?hb
  intro f cdv A outer s H E hr
  refine' ⟨_, ?hc⟩
  case hc =>
    intro B
    refine' jss_cons ?k609_0 ?k609_1
    case k609_0 =>
      refine' js_expr ?k610_0
      case k610_0 =>
        refine' je_call D_need_form hr ?k611_0
        case k611_0 =>
          refine' ja_cons ?k612_0 ?k612_1
          case k612_0 =>
            exact je_var 0
          case k612_1 =>
            exact ja_nil
    case k609_1 =>
      refine' jss_cons ?k613_0 ?k613_1
      case k613_0 =>
        refine' js_expr ?k614_0
        case k614_0 =>
          refine' je_call D_need_form hr ?k615_0
          case k615_0 =>
            refine' ja_cons ?k616_0 ?k616_1
            case k616_0 =>
              exact je_var 1
            case k616_1 =>
              exact ja_nil
      case k613_1 =>
        refine' jss_one ?k617_0
        case k617_0 =>
          refine' js_ret ?k618_0
          case k618_0 =>
            refine' je_call0 D_first_unlike hr ?k619_0
            case k619_0 =>
              refine' ja_cons ?k620_0 ?k620_1
              case k620_0 =>
                exact je_var 0
              case k620_1 =>
                refine' ja_cons ?k621_0 ?k621_1
                case k621_0 =>
                  exact je_var 1
                case k621_1 =>
                  exact ja_nil


/-! ### first_later -/
abbrev s_first_later : Stmt := top 40
def b_first_later : S := sSeq (sDrop (mCall g_need_form (mCons (mVar 0) (mNil))))
 (sSeq (sDrop (mCall g_need_form (mCons (mVar 1) (mNil))))
 (sRet (mCall0 g_first_past (mCons (mVar 0) (mCons (mVar 1) (mNil))))))
def g_first_later : List D → RR := callD 2 2 b_first_later
theorem sc_first_later : FnScope ["one", "other"] ["one", "other"] (defScope s_first_later) := ⟨rfl, rfl, rfl, by decide +kernel, rfl, by decide +kernel, by decide +kernel⟩
theorem ok_first_later {P : Program} {w : World} {K : PySem.W.Frag} {mg : Str → Option Value} {base : Heap} {C : Str → Addr} (nm : Nm K mg C) (h : HasF K mg "first_later" s_first_later ["one", "other"]) (D_need_form : DefV P w K mg base (L2N.CX P w) C "need_form" ["form"] 5 g_need_form) (D_first_past : DefV P w K mg base CX0 C "first_past" ["one", "other"] 4 g_first_past) : DefV P w K mg base (L2N.CX P w) C "first_later" ["one", "other"] 6 g_first_later := by
  have nd := sc_first_later.nd
  refine' def_vX (k := 5) (N := ["one", "other"]) h sc_first_later ?hb
  intro f cdv A outer s H E hr
  refine' ⟨_, ?hc⟩
  case hc =>
    intro B
    refine' jss_cons ?k622_0 ?k622_1
    case k622_0 =>
      refine' js_expr ?k623_0
      case k623_0 =>
        refine' je_call D_need_form hr ?k624_0
        case k624_0 =>
          refine' ja_cons ?k625_0 ?k625_1
          case k625_0 =>
            exact je_var 0
          case k625_1 =>
            exact ja_nil
    case k622_1 =>
      refine' jss_cons ?k626_0 ?k626_1
      case k626_0 =>
        refine' js_expr ?k627_0
        case k627_0 =>
          refine' je_call D_need_form hr ?k628_0
          case k628_0 =>
            refine' ja_cons ?k629_0 ?k629_1
            case k629_0 =>
              exact je_var 1
            case k629_1 =>
              exact ja_nil
      case k626_1 =>
        refine' jss_one ?k630_0
        case k630_0 =>
          refine' js_ret ?k631_0
          case k631_0 =>
            refine' je_call0 D_first_past hr ?k632_0
            case k632_0 =>
              refine' ja_cons ?k633_0 ?k633_1
              case k633_0 =>
                exact je_var 0
              case k633_1 =>
                refine' ja_cons ?k634_0 ?k634_1
                case k634_0 =>
                  exact je_var 1
                case k634_1 =>
                  exact ja_nil


/-! ### _law_drawn -/
abbrev s__law_drawn : Stmt := top 43
def b__law_drawn : S := sSeq (sAsg (mOp modF (mT (mOp addF (mT (mOp mulF (mVarT 0) (mT (ret (.int 6364136223846793005))))) (mT (mOp mulF (mT (mOp addF (mVarT 1) (mT (ret (.int 1))))) (mT (ret (.int 1442695040888963407))))))) (mT (ret (.int 340282366920938463463374607431768211507)))) (hName 2))
 (sSeq (sAsg (mOp modF (mT (mOp mulF (mVarT 2) (mVarT 2))) (mT (ret (.int 340282366920938463463374607431768211297)))) (hName 2))
 (sSeq (sAsg (mOp mulF (mT (mOp mulF (mT (mOp addF (mT (mOp modF (mVarT 2) (mT (ret (.int 18446744073709551557))))) (mT (ret (.int 1))))) (mT (mOp addF (mT (mOp fdivF (mVarT 2) (mT (ret (.int 18446744073709551557))))) (mT (ret (.int 1))))))) (mVarT 2)) (hName 2))
 (sRet (mOp modF (mVarT 2) (mT (ret (.int 340282366920938463463374607431768211507)))))))
def g__law_drawn : List D → RR := callD 2 3 b__law_drawn
theorem sc__law_drawn : FnScope ["cell", "k", "more"] ["cell", "k"] (defScope s__law_drawn) := ⟨rfl, rfl, rfl, by decide +kernel, rfl, by decide +kernel, by decide +kernel⟩
theorem ok__law_drawn {P : Program} {w : World} {K : PySem.W.Frag} {mg : Str → Option Value} {base : Heap} {C : Str → Addr} (nm : Nm K mg C) (h : HasF K mg "_law_drawn" s__law_drawn ["cell", "k"]) : DefV P w K mg base CX0 C "_law_drawn" ["cell", "k"] 1 g__law_drawn := by
  have nd := sc__law_drawn.nd
  refine' def_v0 (k := 0) (N := ["cell", "k", "more"]) h sc__law_drawn ?hb
  intro f cdv A outer s H E hr
  refine' ⟨_, ?hc⟩
  case hc =>
    intro B EX
    refine' jss_cons ?k635_0 ?k635_1
    case k635_0 =>
      refine' js_set 2 nd ?k636_0
      case k636_0 =>
        refine' je_mod ?k637_0 ?k637_1
        case k637_0 =>
          refine' jr_of ?k638_0
          case k638_0 =>
            refine' je_add (K := K) ?k639_0 ?k639_1
            case k639_0 =>
              refine' jr_of ?k640_0
              case k640_0 =>
                refine' je_mul (K := K) ?k641_0 ?k641_1
                case k641_0 =>
                  exact jr_var 0
                case k641_1 =>
                  refine' jr_of ?k642_0
                  case k642_0 =>
                    exact je_int
            case k639_1 =>
              refine' jr_of ?k643_0
              case k643_0 =>
                refine' je_mul (K := K) ?k644_0 ?k644_1
                case k644_0 =>
                  refine' jr_of ?k645_0
                  case k645_0 =>
                    refine' je_add (K := K) ?k646_0 ?k646_1
                    case k646_0 =>
                      exact jr_var 1
                    case k646_1 =>
                      refine' jr_of ?k647_0
                      case k647_0 =>
                        exact je_int
                case k644_1 =>
                  refine' jr_of ?k648_0
                  case k648_0 =>
                    exact je_int
        case k637_1 =>
          refine' jr_of ?k649_0
          case k649_0 =>
            exact je_int
    case k635_1 =>
      refine' jss_cons ?k650_0 ?k650_1
      case k650_0 =>
        refine' js_set 2 nd ?k651_0
        case k651_0 =>
          refine' je_mod ?k652_0 ?k652_1
          case k652_0 =>
            refine' jr_of ?k653_0
            case k653_0 =>
              refine' je_mul (K := K) ?k654_0 ?k654_1
              case k654_0 =>
                exact jr_var 2
              case k654_1 =>
                exact jr_var 2
          case k652_1 =>
            refine' jr_of ?k655_0
            case k655_0 =>
              exact je_int
      case k650_1 =>
        refine' jss_cons ?k656_0 ?k656_1
        case k656_0 =>
          refine' js_set 2 nd ?k657_0
          case k657_0 =>
            refine' je_mul (K := K) ?k658_0 ?k658_1
            case k658_0 =>
              refine' jr_of ?k659_0
              case k659_0 =>
                refine' je_mul (K := K) ?k660_0 ?k660_1
                case k660_0 =>
                  refine' jr_of ?k661_0
                  case k661_0 =>
                    refine' je_add (K := K) ?k662_0 ?k662_1
                    case k662_0 =>
                      refine' jr_of ?k663_0
                      case k663_0 =>
                        refine' je_mod ?k664_0 ?k664_1
                        case k664_0 =>
                          exact jr_var 2
                        case k664_1 =>
                          refine' jr_of ?k665_0
                          case k665_0 =>
                            exact je_int
                    case k662_1 =>
                      refine' jr_of ?k666_0
                      case k666_0 =>
                        exact je_int
                case k660_1 =>
                  refine' jr_of ?k667_0
                  case k667_0 =>
                    refine' je_add (K := K) ?k668_0 ?k668_1
                    case k668_0 =>
                      refine' jr_of ?k669_0
                      case k669_0 =>
                        refine' je_fdiv ?k670_0 ?k670_1
                        case k670_0 =>
                          exact jr_var 2
                        case k670_1 =>
                          refine' jr_of ?k671_0
                          case k671_0 =>
                            exact je_int
                    case k668_1 =>
                      refine' jr_of ?k672_0
                      case k672_0 =>
                        exact je_int
            case k658_1 =>
              exact jr_var 2
        case k656_1 =>
          refine' jss_one ?k673_0
          case k673_0 =>
            refine' js_ret ?k674_0
            case k674_0 =>
              refine' je_mod ?k675_0 ?k675_1
              case k675_0 =>
                exact jr_var 2
              case k675_1 =>
                refine' jr_of ?k676_0
                case k676_0 =>
                  exact je_int


/-! ### _law_roll -/
abbrev s__law_roll : Stmt := top 44
def b__law_roll : S := sSeq (sIf (mTst (mOp geF (mT (mOp ixF (mVarT 0) (mT (ret (.int 0))))) (mT (mOp powF (mT (ret (.int 10))) (mT (ret (.int 18))))))) (sSeq (sAsg (mOp modF (mT (mOp ixF (mVarT 0) (mT (ret (.int 0))))) (mVarT 1)) (hName 2))
 (sSeq (sSetItem 0 (mOp fdivF (mT (mOp ixF (mVarT 0) (mT (ret (.int 0))))) (mVarT 1)) (ret (.int 0)))
 (sRet (mVar 2)))) (sNext))
 (sSeq (sSetItem 0 (mOp addF (mT (mOp ixF (mVarT 0) (mT (ret (.int 1))))) (mT (ret (.int 1)))) (ret (.int 1)))
 (sRet (mOp modF (mT (mOp fdivF (mT (mCall0 g__law_drawn (mCons (mOp ixF (mVarT 0) (mT (ret (.int 0)))) (mCons (mOp ixF (mVarT 0) (mT (ret (.int 1)))) (mNil))))) (mT (ret (.int 8))))) (mVarT 1))))
def c__law_roll : D → List D → RB := callB 2 3 b__law_roll
theorem sc__law_roll : FnScope ["dice", "many", "told"] ["dice", "many"] (defScope s__law_roll) := ⟨rfl, rfl, rfl, by decide +kernel, rfl, by decide +kernel, by decide +kernel⟩
theorem ok__law_roll {P : Program} {w : World} {K : PySem.W.Frag} {mg : Str → Option Value} {base : Heap} {C : Str → Addr} (nm : Nm K mg C) (h : HasF K mg "_law_roll" s__law_roll ["dice", "many"]) (D__law_drawn : DefV P w K mg base CX0 C "_law_drawn" ["cell", "k"] 1 g__law_drawn) : DefB P w K mg base CX0 C "_law_roll" ["dice", "many"] 2 (noEx c__law_roll) := by
  have nd := sc__law_roll.nd
  refine' def_b0 (k := 1) (y := "dice") (N := ["many", "told"]) h sc__law_roll ?hb
  intro f cdv A outer s H E hr
  refine' ⟨_, ?hc⟩
  case hc =>
    intro B EX
    refine' jss_cons ?k677_0 ?k677_1
    case k677_0 =>
      refine' js_if ?k678_0 ?k678_1 ?k678_2
      case k678_0 =>
        refine' jb_ge ?k679_0 ?k679_1
        case k679_0 =>
          refine' jr_of ?k680_0
          case k680_0 =>
            refine' je_ix (K := K) ?k681_0 ?k681_1
            case k681_0 =>
              exact jr_var 0
            case k681_1 =>
              refine' jr_of ?k682_0
              case k682_0 =>
                exact je_int
        case k679_1 =>
          refine' jr_of ?k683_0
          case k683_0 =>
            refine' je_pow ?k684_0 ?k684_1
            case k684_0 =>
              refine' jr_of ?k685_0
              case k685_0 =>
                exact je_int
            case k684_1 =>
              refine' jr_of ?k686_0
              case k686_0 =>
                exact je_int
      case k678_1 =>
        refine' jss_cons ?k687_0 ?k687_1
        case k687_0 =>
          refine' js_set 2 nd ?k688_0
          case k688_0 =>
            refine' je_mod ?k689_0 ?k689_1
            case k689_0 =>
              refine' jr_of ?k690_0
              case k690_0 =>
                refine' je_ix (K := K) ?k691_0 ?k691_1
                case k691_0 =>
                  exact jr_var 0
                case k691_1 =>
                  refine' jr_of ?k692_0
                  case k692_0 =>
                    exact je_int
            case k689_1 =>
              exact jr_var 1
        case k687_1 =>
          refine' jss_cons ?k693_0 ?k693_1
          case k693_0 =>
            refine' js_setitem 0 ?k694_0 ?k694_1
            case k694_0 =>
              refine' je_fdiv ?k695_0 ?k695_1
              case k695_0 =>
                refine' jr_of ?k696_0
                case k696_0 =>
                  refine' je_ix (K := K) ?k697_0 ?k697_1
                  case k697_0 =>
                    exact jr_var 0
                  case k697_1 =>
                    refine' jr_of ?k698_0
                    case k698_0 =>
                      exact je_int
              case k695_1 =>
                exact jr_var 1
            case k694_1 =>
              exact je_int
          case k693_1 =>
            refine' jss_one ?k699_0
            case k699_0 =>
              refine' js_ret ?k700_0
              case k700_0 =>
                exact je_var 2
      case k678_2 =>
        exact jss_nil
    case k677_1 =>
      refine' jss_cons ?k701_0 ?k701_1
      case k701_0 =>
        refine' js_setitem 0 ?k702_0 ?k702_1
        case k702_0 =>
          refine' je_add (K := K) ?k703_0 ?k703_1
          case k703_0 =>
            refine' jr_of ?k704_0
            case k704_0 =>
              refine' je_ix (K := K) ?k705_0 ?k705_1
              case k705_0 =>
                exact jr_var 0
              case k705_1 =>
                refine' jr_of ?k706_0
                case k706_0 =>
                  exact je_int
          case k703_1 =>
            refine' jr_of ?k707_0
            case k707_0 =>
              exact je_int
        case k702_1 =>
          exact je_int
      case k701_1 =>
        refine' jss_one ?k708_0
        case k708_0 =>
          refine' js_ret ?k709_0
          case k709_0 =>
            refine' je_mod ?k710_0 ?k710_1
            case k710_0 =>
              refine' jr_of ?k711_0
              case k711_0 =>
                refine' je_fdiv ?k712_0 ?k712_1
                case k712_0 =>
                  refine' jr_of ?k713_0
                  case k713_0 =>
                    refine' je_call0 D__law_drawn hr ?k714_0
                    case k714_0 =>
                      refine' ja_cons ?k715_0 ?k715_1
                      case k715_0 =>
                        refine' je_ix (K := K) ?k716_0 ?k716_1
                        case k716_0 =>
                          exact jr_var 0
                        case k716_1 =>
                          refine' jr_of ?k717_0
                          case k717_0 =>
                            exact je_int
                      case k715_1 =>
                        refine' ja_cons ?k718_0 ?k718_1
                        case k718_0 =>
                          refine' je_ix (K := K) ?k719_0 ?k719_1
                          case k719_0 =>
                            exact jr_var 0
                          case k719_1 =>
                            refine' jr_of ?k720_0
                            case k720_0 =>
                              exact je_int
                        case k718_1 =>
                          exact ja_nil
                case k712_1 =>
                  refine' jr_of ?k721_0
                  case k721_0 =>
                    exact je_int
            case k710_1 =>
              exact jr_var 1


/-! ### _law_at -/
abbrev s__law_at : Stmt := top 48
def b__law_at : S := sSeq (sAsg (mVar 0) (hTup 3 (hCons (hName 2) (hCons (hName 3) (hCons (hName 4) (hNil))))))
 (sSeq (sIf (mTst (mOp ltF (mVarT 1) (mT (mCB lenF (mCons (mVarT 3) (mNil)))))) (sRet (mOp ixF (mVarT 3) (mVarT 1))) (sNext))
 (sSeq (sAsg (mOp modF (mT (mOp subF (mVarT 1) (mVarT 2))) (mT (mCB lenF (mCons (mVarT 4) (mNil))))) (hName 5))
 (sSeq (sIf (mTst (mOp (isF false) (mT (mOp ixF (mVarT 4) (mVarT 5))) (mT (ret .none)))) (sRet (ret .none)) (sNext))
 (sRet (mOp addF (mT (mOp ixF (mVarT 3) (mT (mOp addF (mVarT 2) (mVarT 5))))) (mT (mOp mulF (mT (mOp fdivF (mT (mOp subF (mVarT 1) (mVarT 2))) (mT (mCB lenF (mCons (mVarT 4) (mNil)))))) (mT (mOp ixF (mVarT 4) (mVarT 5))))))))))
def g__law_at : List D → RR := callD 2 6 b__law_at
theorem sc__law_at : FnScope ["form", "place", "begin", "numbers", "rises", "spot"] ["form", "place"] (defScope s__law_at) := ⟨rfl, rfl, rfl, by decide +kernel, rfl, by decide +kernel, by decide +kernel⟩
theorem ok__law_at {P : Program} {w : World} {K : PySem.W.Frag} {mg : Str → Option Value} {base : Heap} {C : Str → Addr} (nm : Nm K mg C) (h : HasF K mg "_law_at" s__law_at ["form", "place"]) : DefV P w K mg base CX0 C "_law_at" ["form", "place"] 1 g__law_at := by
  have nd := sc__law_at.nd
  refine' def_v0 (k := 0) (N := ["form", "place", "begin", "numbers", "rises", "spot"]) h sc__law_at ?hb
  intro f cdv A outer s H E hr
  refine' ⟨_, ?hc⟩
  case hc =>
    intro B EX
    refine' jss_cons ?k722_0 ?k722_1
    case k722_0 =>
      refine' js_asg ?k723_0 ?k723_1
      case k723_0 =>
        exact je_var 0
      case k723_1 =>
        refine' jg_tup (K := K) ?k724_0
        case k724_0 =>
          refine' jgs_cons ?k725_0 ?k725_1
          case k725_0 =>
            exact jg_name 2 nd
          case k725_1 =>
            refine' jgs_cons ?k726_0 ?k726_1
            case k726_0 =>
              exact jg_name 3 nd
            case k726_1 =>
              refine' jgs_cons ?k727_0 ?k727_1
              case k727_0 =>
                exact jg_name 4 nd
              case k727_1 =>
                exact jgs_nil
    case k722_1 =>
      refine' jss_cons ?k728_0 ?k728_1
      case k728_0 =>
        refine' js_if ?k729_0 ?k729_1 ?k729_2
        case k729_0 =>
          refine' jb_lt ?k730_0 ?k730_1
          case k730_0 =>
            exact jr_var 1
          case k730_1 =>
            refine' jr_of ?k731_0
            case k731_0 =>
              refine' je_cb (cK_len (K := K) rfl) okK_len PySem.boot_len nm.len ?k732_0
              case k732_0 =>
                refine' jar_cons ?k733_0 ?k733_1
                case k733_0 =>
                  exact jr_var 3
                case k733_1 =>
                  exact jar_nil
        case k729_1 =>
          refine' jss_one ?k734_0
          case k734_0 =>
            refine' js_ret ?k735_0
            case k735_0 =>
              refine' je_ix (K := K) ?k736_0 ?k736_1
              case k736_0 =>
                exact jr_var 3
              case k736_1 =>
                exact jr_var 1
        case k729_2 =>
          exact jss_nil
      case k728_1 =>
        refine' jss_cons ?k737_0 ?k737_1
        case k737_0 =>
          refine' js_set 5 nd ?k738_0
          case k738_0 =>
            refine' je_mod ?k739_0 ?k739_1
            case k739_0 =>
              refine' jr_of ?k740_0
              case k740_0 =>
                refine' je_sub ?k741_0 ?k741_1
                case k741_0 =>
                  exact jr_var 1
                case k741_1 =>
                  exact jr_var 2
            case k739_1 =>
              refine' jr_of ?k742_0
              case k742_0 =>
                refine' je_cb (cK_len (K := K) rfl) okK_len PySem.boot_len nm.len ?k743_0
                case k743_0 =>
                  refine' jar_cons ?k744_0 ?k744_1
                  case k744_0 =>
                    exact jr_var 4
                  case k744_1 =>
                    exact jar_nil
        case k737_1 =>
          refine' jss_cons ?k745_0 ?k745_1
          case k745_0 =>
            refine' js_if ?k746_0 ?k746_1 ?k746_2
            case k746_0 =>
              refine' jb_is ?k747_0 ?k747_1
              case k747_0 =>
                refine' jr_of ?k748_0
                case k748_0 =>
                  refine' je_ix (K := K) ?k749_0 ?k749_1
                  case k749_0 =>
                    exact jr_var 4
                  case k749_1 =>
                    exact jr_var 5
              case k747_1 =>
                refine' jr_of ?k750_0
                case k750_0 =>
                  exact je_non
            case k746_1 =>
              refine' jss_one ?k751_0
              case k751_0 =>
                refine' js_ret ?k752_0
                case k752_0 =>
                  exact je_non
            case k746_2 =>
              exact jss_nil
          case k745_1 =>
            refine' jss_one ?k753_0
            case k753_0 =>
              refine' js_ret ?k754_0
              case k754_0 =>
                refine' je_add (K := K) ?k755_0 ?k755_1
                case k755_0 =>
                  refine' jr_of ?k756_0
                  case k756_0 =>
                    refine' je_ix (K := K) ?k757_0 ?k757_1
                    case k757_0 =>
                      exact jr_var 3
                    case k757_1 =>
                      refine' jr_of ?k758_0
                      case k758_0 =>
                        refine' je_add (K := K) ?k759_0 ?k759_1
                        case k759_0 =>
                          exact jr_var 2
                        case k759_1 =>
                          exact jr_var 5
                case k755_1 =>
                  refine' jr_of ?k760_0
                  case k760_0 =>
                    refine' je_mul (K := K) ?k761_0 ?k761_1
                    case k761_0 =>
                      refine' jr_of ?k762_0
                      case k762_0 =>
                        refine' je_fdiv ?k763_0 ?k763_1
                        case k763_0 =>
                          refine' jr_of ?k764_0
                          case k764_0 =>
                            refine' je_sub ?k765_0 ?k765_1
                            case k765_0 =>
                              exact jr_var 1
                            case k765_1 =>
                              exact jr_var 2
                        case k763_1 =>
                          refine' jr_of ?k766_0
                          case k766_0 =>
                            refine' je_cb (cK_len (K := K) rfl) okK_len PySem.boot_len nm.len ?k767_0
                            case k767_0 =>
                              refine' jar_cons ?k768_0 ?k768_1
                              case k768_0 =>
                                exact jr_var 4
                              case k768_1 =>
                                exact jar_nil
                    case k761_1 =>
                      refine' jr_of ?k769_0
                      case k769_0 =>
                        refine' je_ix (K := K) ?k770_0 ?k770_1
                        case k770_0 =>
                          exact jr_var 4
                        case k770_1 =>
                          exact jr_var 5


/-! ### _law_form_of -/
abbrev s__law_form_of : Stmt := top 49
def e0__law_form_of : M D := mIf (mOr (mTst (mOp eqF (mVarT 4) (mVarT 1))) (mTst (mOp gtF (mT (mCallB (noEx c__law_roll) 0 (mCons (ret (.int 3)) (mNil)))) (mT (ret (.int 0)))))) (mCallB (noEx c__law_roll) 0 (mCons (ret (.int 60)) (mNil))) (ret .none)
def b__law_form_of : S := sSeq (sAsg (mCallB (noEx c__law_roll) 0 (mCons (ret (.int 3)) (mNil))) (hName 1))
 (sSeq (sOwn (mLc (mRng1 (mCons (mOp addF (mVarT 1) (mT (ret (.int 1)))) (mNil))) (hName 4) (mYes) (e0__law_form_of) [4]) 2)
 (sSeq (sAsg (mCallB (noEx c__law_roll) 0 (mCons (ret (.int 5)) (mNil))) (hName 3))
 (sSeq (sIf (mAnd (mTst (mOp gtF (mVarT 1) (mT (ret (.int 0))))) (mTst (mOp eqF (mT (mOp ixF (mVarT 2) (mT (mOp subF (mVarT 1) (mT (ret (.int 1))))))) (mT (mOp subF (mT (mOp ixF (mVarT 2) (mVarT 1))) (mVarT 3)))))) (sSetItem 2 (ret .none) (mOp subF (mVarT 1) (mT (ret (.int 1))))) (sNext))
 (sRet (mTup (mCons (mVar 1) (mCons (mCB tupleF (mCons (mVarT 2) (mNil))) (mCons (mTup (mCons (mVar 3) (mNil))) (mNil)))))))))
def c__law_form_of : D → List D → RB := callB 1 5 b__law_form_of
theorem sc__law_form_of : FnScope ["dice", "begin", "numbers", "rise", "at"] ["dice"] (defScope s__law_form_of) := ⟨rfl, rfl, rfl, by decide +kernel, rfl, by decide +kernel, by decide +kernel⟩
theorem ok__law_form_of {P : Program} {w : World} {K : PySem.W.Frag} {mg : Str → Option Value} {base : Heap} {C : Str → Addr} (nm : Nm K mg C) (h : HasF K mg "_law_form_of" s__law_form_of ["dice"]) (D__law_roll : DefB P w K mg base CX0 C "_law_roll" ["dice", "many"] 2 (noEx c__law_roll)) : DefB P w K mg base CX0 C "_law_form_of" ["dice"] 3 (noEx c__law_form_of) := by
  have nd := sc__law_form_of.nd
  refine' def_b0 (k := 2) (y := "dice") (N := ["begin", "numbers", "rise", "at"]) h sc__law_form_of ?hb
  intro f cdv A outer s H E hr
  refine' ⟨_, ?hc⟩
  case hc =>
    intro B EX
    refine' jss_cons ?k771_0 ?k771_1
    case k771_0 =>
      refine' js_set 1 nd ?k772_0
      case k772_0 =>
        refine' je_callB0 0 D__law_roll hr ?k773_0
        case k773_0 =>
          refine' ja_cons ?k774_0 ?k774_1
          case k774_0 =>
            exact je_int
          case k774_1 =>
            exact ja_nil
    case k771_1 =>
      refine' jss_cons ?k775_0 ?k775_1
      case k775_0 =>
        refine' js_ownLc 2 (own := [("at", 4)]) (L := [4]) nd (blkOk_by (by kernel_rfl)) ?k776_0 ?k776_1 ?k776_2 ?k776_3 (sw_true rfl rfl rfl (by kernel_rfl))
        case k776_0 =>
          refine' ji_rng1 nm.range ?k777_0
          case k777_0 =>
            refine' ja_cons ?k778_0 ?k778_1
            case k778_0 =>
              refine' je_add (K := K) ?k779_0 ?k779_1
              case k779_0 =>
                exact jr_var 1
              case k779_1 =>
                refine' jr_of ?k780_0
                case k780_0 =>
                  exact je_int
            case k778_1 =>
              exact ja_nil
        case k776_1 =>
          intro _ _ _ _ _
          exact jg_name 4 nd
        case k776_2 =>
          intro _ _ _ _ _
          exact jbs_nil
        case k776_3 =>
          intro _ _ _ _ _
          refine' je_if ?k781_0 ?k781_1 ?k781_2
          case k781_0 =>
            refine' jb_w ?k782_0
            case k782_0 =>
              refine' jw_or ?k783_0 ?k783_1
              case k783_0 =>
                refine' jb_eq (K := K) hr.units ?k784_0 ?k784_1
                case k784_0 =>
                  exact jr_var 4
                case k784_1 =>
                  exact jr_var 1
              case k783_1 =>
                refine' jw_or1 ?k785_0
                case k785_0 =>
                  refine' jb_gt ?k786_0 ?k786_1
                  case k786_0 =>
                    refine' jr_of ?k787_0
                    case k787_0 =>
                      refine' je_callB0 0 D__law_roll hr ?k788_0
                      case k788_0 =>
                        refine' ja_cons ?k789_0 ?k789_1
                        case k789_0 =>
                          exact je_int
                        case k789_1 =>
                          exact ja_nil
                  case k786_1 =>
                    refine' jr_of ?k790_0
                    case k790_0 =>
                      exact je_int
          case k781_1 =>
            refine' je_callB0 0 D__law_roll hr ?k791_0
            case k791_0 =>
              refine' ja_cons ?k792_0 ?k792_1
              case k792_0 =>
                exact je_int
              case k792_1 =>
                exact ja_nil
          case k781_2 =>
            exact je_non
      case k775_1 =>
        refine' jss_cons ?k793_0 ?k793_1
        case k793_0 =>
          refine' js_set 3 nd ?k794_0
          case k794_0 =>
            refine' je_callB0 0 D__law_roll hr ?k795_0
            case k795_0 =>
              refine' ja_cons ?k796_0 ?k796_1
              case k796_0 =>
                exact je_int
              case k796_1 =>
                exact ja_nil
        case k793_1 =>
          refine' jss_cons ?k797_0 ?k797_1
          case k797_0 =>
            refine' js_if ?k798_0 ?k798_1 ?k798_2
            case k798_0 =>
              refine' jb_w ?k799_0
              case k799_0 =>
                refine' jw_and ?k800_0 ?k800_1
                case k800_0 =>
                  refine' jb_gt ?k801_0 ?k801_1
                  case k801_0 =>
                    exact jr_var 1
                  case k801_1 =>
                    refine' jr_of ?k802_0
                    case k802_0 =>
                      exact je_int
                case k800_1 =>
                  refine' jw_and1 ?k803_0
                  case k803_0 =>
                    refine' jb_eq (K := K) hr.units ?k804_0 ?k804_1
                    case k804_0 =>
                      refine' jr_of ?k805_0
                      case k805_0 =>
                        refine' je_ix (K := K) ?k806_0 ?k806_1
                        case k806_0 =>
                          exact jr_var 2
                        case k806_1 =>
                          refine' jr_of ?k807_0
                          case k807_0 =>
                            refine' je_sub ?k808_0 ?k808_1
                            case k808_0 =>
                              exact jr_var 1
                            case k808_1 =>
                              refine' jr_of ?k809_0
                              case k809_0 =>
                                exact je_int
                    case k804_1 =>
                      refine' jr_of ?k810_0
                      case k810_0 =>
                        refine' je_sub ?k811_0 ?k811_1
                        case k811_0 =>
                          refine' jr_of ?k812_0
                          case k812_0 =>
                            refine' je_ix (K := K) ?k813_0 ?k813_1
                            case k813_0 =>
                              exact jr_var 2
                            case k813_1 =>
                              exact jr_var 1
                        case k811_1 =>
                          exact jr_var 3
            case k798_1 =>
              refine' jss_one ?k814_0
              case k814_0 =>
                refine' js_setitem 2 ?k815_0 ?k815_1
                case k815_0 =>
                  exact je_non
                case k815_1 =>
                  refine' je_sub ?k816_0 ?k816_1
                  case k816_0 =>
                    exact jr_var 1
                  case k816_1 =>
                    refine' jr_of ?k817_0
                    case k817_0 =>
                      exact je_int
            case k798_2 =>
              exact jss_nil
          case k797_1 =>
            refine' jss_one ?k818_0
            case k818_0 =>
              refine' js_ret ?k819_0
              case k819_0 =>
                refine' je_tup ?k820_0
                case k820_0 =>
                  refine' ja_cons ?k821_0 ?k821_1
                  case k821_0 =>
                    exact je_var 1
                  case k821_1 =>
                    refine' ja_cons ?k822_0 ?k822_1
                    case k822_0 =>
                      refine' je_ct (cK_tuple (K := K) rfl) okK_tuple PyProof.Rows.boot_tuple nm.tuple ?k823_0
                      case k823_0 =>
                        refine' jar_cons ?k824_0 ?k824_1
                        case k824_0 =>
                          exact jr_var 2
                        case k824_1 =>
                          exact jar_nil
                    case k822_1 =>
                      refine' ja_cons ?k825_0 ?k825_1
                      case k825_0 =>
                        refine' je_tup ?k826_0
                        case k826_0 =>
                          refine' ja_cons ?k827_0 ?k827_1
                          case k827_0 =>
                            exact je_var 3
                          case k827_1 =>
                            exact ja_nil
                      case k825_1 =>
                        exact ja_nil


/-! ### _law_cell, _law_rounds -/
abbrev s__law_cell : Stmt := top 42
abbrev s__law_rounds : Stmt := top 45
theorem sc__law_cell : FnScope ["script", "k"] ["script", "k"] (defScope s__law_cell) := ⟨rfl, rfl, rfl, by decide +kernel, rfl, by decide +kernel, by decide +kernel⟩
theorem sc__law_rounds : FnScope ["script", "most", "k"] ["script", "most"] (defScope s__law_rounds) := ⟨rfl, rfl, rfl, by decide +kernel, rfl, by decide +kernel, by decide +kernel⟩
theorem ok__law_cell {P : Program} {w : World} {K : PySem.W.Frag} {mg : Str → Option Value} {base : Heap} {C : Str → Addr} (nm : Nm K mg C) (h : HasF K mg "_law_cell" s__law_cell ["script", "k"]) : DefS P w K mg base CX0 "_law_cell" ["script", "k"] 1 (spCellS K) := by
  have nd := sc__law_cell.nd
  obtain ⟨f, fd, F, hm, hb⟩ := h
  refine ⟨f, fd, F.ok (k := 0) sc__law_cell (fun vs H Q E h => ?_) (fun cdv A outer s H vs Q E hr h => ⟨tCellS K, PSs.nox ?_, cell_run h⟩), hm, F.kp, hb⟩
  · obtain ⟨a, ns, k, rfl, _⟩ := h
    rfl
  · have j : ∀ B EX, ∃ ff, JSs (cxOf CX0 P w K mg base ["script", "k"] "_law_cell" (defScope s__law_cell) f cdv A outer s H E).nox B EX (defBody s__law_cell) (tCellS K) ff := fun B EX => ⟨_, jss_cons (js_if (jb_eq (K := K) hr.units (jr_var 0) (jr_of (je_of (jf_lst ja_nil)))) (jss_one (js_ret (je_mul (K := K) (jr_var 1) (jr_of je_int)))) jss_nil)
        (jss_one (js_ret (je_add (K := K) (jr_of (je_ix (K := K) (jr_var 0) (jr_of (je_mod (jr_var 1) (jr_of (je_cb (cK_len (K := K) rfl) okK_len PySem.boot_len nm.len (jar_cons (jr_var 0) jar_nil))))))) (jr_of (je_mul (K := K) (jr_of (je_fdiv (jr_var 1) (jr_of (je_cb (cK_len (K := K) rfl) okK_len PySem.boot_len nm.len (jar_cons (jr_var 0) jar_nil))))) (jr_of je_int))))))⟩
    obtain ⟨_, q⟩ := j ⟨H, H, [], [], []⟩ EX0
    exact q.p
theorem ok__law_rounds {P : Program} {w : World} {K : PySem.W.Frag} {mg : Str → Option Value} {base : Heap} {C : Str → Addr} (nm : Nm K mg C) (h : HasF K mg "_law_rounds" s__law_rounds ["script", "most"]) (D : DefS P w K mg base CX0 "_law_cell" ["script", "k"] 1 (spCellS K)) : DefS P w K mg base CX0 "_law_rounds" ["script", "most"] 2 (spRoundsS K) := by
  have nd := sc__law_rounds.nd
  obtain ⟨f, fd, F, hm, hb⟩ := h
  obtain ⟨f2, fd2, F2, hm2, hk2, hb2⟩ := D
  refine ⟨f, fd, F.ok (k := 1) sc__law_rounds (fun vs H Q E h => ?_) (fun cdv A outer s H vs Q E hr h => ⟨tRoundsS K, PSs.nox ?_, rounds_run h⟩), hm, F.kp, hb⟩
  · obtain ⟨a, ns, k, rfl, _⟩ := h
    rfl
  · refine pss_one (ps_ret (pe_lc (own := [("k", 2)]) rfl nd (pi_range1 rfl nm.range (pa_cons (pe_callB (call_max2 rfl) rfl nm.max PyProof.Rows.boot_max (pa_cons pe_int (pa_cons (pe_callB (call_min2 rfl) rfl nm.min PyProof.Rows.boot_min (pa_cons (pv 1) (pa_cons (pe_callB (cK_len (K := K) rfl) rfl nm.len PySem.boot_len (pa_cons (pv 0) pa_nil)) pa_nil))) pa_nil))) pa_nil)) (blkOk_by (by kernel_rfl)) (fun _ _ _ _ _ => ?_) (fun _ _ _ _ _ => ?_) (fun _ _ _ _ _ => ?_)))
    · exact pg_name (i := 2) nd rfl (by first | exact Or.inl rfl | exact Or.inr rfl)
    · exact pts_nil
    · exact pe_lst (pa_cons (pe_call F2 hr rfl hm2 hk2 hb2 .nil pass0 (pa_cons (pv 0) (pa_cons (pv 2) pa_nil))) (pa_cons pe_int pa_nil))

/-! ### _law_term, _law_told -/
abbrev s__law_term : Stmt := top 46
abbrev s__law_told : Stmt := top 47
def b__law_term (c : Str) : S := sSeq (sOwn (mLst (mCons (mIsE (c == "InvalidNet")) (mCons (mIsE (c == "InvalidStreams")) (mCons (mIsE (c == "InvalidRound")) (mNil))))) 1)
 (sSeq (sOwn (mOp catF (mVarT 1) (mT (mLst (mCons (mIsE (c == "InvalidEvent")) (mCons (mIsE (c == "InvalidInput")) (mCons (mIsE (c == "InvalidArc")) (mNil))))))) 1)
 (sSeq (sOwn (mOp catF (mVarT 1) (mT (mLst (mCons (mIsE (c == "InvalidNumber")) (mCons (mIsE (c == "InvalidForm")) (mCons (mIsE (c == "InvalidStores")) (mNil))))))) 1)
 (sSeq (sOwn (mOp catF (mVarT 1) (mT (mLst (mCons (mIsE (c == "InvalidDues")) (mCons (mIsE (c == "InvalidText")) (mCons (mIsE (c == "Standstill")) (mNil))))))) 1)
 (sSeq (sOwn (mOp catF (mVarT 1) (mT (mLst (mCons (mIsE (c == "NoTime")) (mCons (mIsE (c == "Broken")) (mCons (mIsE (c == "NoFit")) (mCons (mIsE (c == "TooMany")) (mNil)))))))) 1)
 (sSeq (sAppend 1 (mIsE (c == "NothingToUndo")))
 (sSeq (sAsg (mLst (mCons (ret (.str "InvalidNet")) (mCons (ret (.str "InvalidStreams")) (mCons (ret (.str "InvalidRound")) (mCons (ret (.str "InvalidEvent")) (mCons (ret (.str "InvalidInput")) (mCons (ret (.str "InvalidArc")) (mNil)))))))) (hName 2))
 (sSeq (sAsg (mOp addF (mVarT 2) (mT (mLst (mCons (ret (.str "InvalidNumber")) (mCons (ret (.str "InvalidForm")) (mCons (ret (.str "InvalidStores")) (mCons (ret (.str "InvalidDues")) (mCons (ret (.str "InvalidText")) (mCons (ret (.str "Standstill")) (mNil)))))))))) (hName 2))
 (sSeq (sAsg (mOp addF (mVarT 2) (mT (mLst (mCons (ret (.str "NoTime")) (mCons (ret (.str "Broken")) (mCons (ret (.str "NoFit")) (mCons (ret (.str "TooMany")) (mCons (ret (.str "NothingToUndo")) (mNil))))))))) (hName 2))
 (sSeq (sIf (mOr (mTst (mOp neF (mT (mCB sumF (mCons (mT (mLc (mSeqL (mVar 1)) (hName 3) mYes (mCB intF (mCons (mVarT 3) (mNil))) [3])) (mNil)))) (mT (ret (.int 1))))) (mNot (mTst (mIsE true)))) (sRet (mTup (mCons (ret (.str "error")) (mCons (ret (.str "other")) (mNil))))) (sNext))
 (sRet (mTup (mCons (ret (.str "error")) (mCons (mOp ixF (mVarT 2) (mT (mIdx (mVar 1)))) (mNil))))))))))))))
theorem sc__law_term : FnScope ["e", "flags", "kinds", "flag"] ["e"] (defScope s__law_term) := ⟨rfl, rfl, rfl, by decide +kernel, rfl, by decide +kernel, by decide +kernel⟩
theorem told_st : ToldSt s__law_told := ⟨⟨_, _, _, _, _, _, _, _, _, _, rfl⟩, ⟨rfl, rfl, rfl, by decide +kernel, rfl, by decide +kernel, by decide +kernel⟩, rfl, rfl, rfl, rfl⟩
theorem term_val : ∀ c, c ∈ excN → ∃ r, b__law_term c (Cell.va 0 :: List.replicate 3 .no) = .rt (termD c) r := by
  intro c hc
  simp only [excN, List.mem_cons, List.not_mem_nil, or_false] at hc
  rcases hc with rfl | rfl | rfl | rfl | rfl | rfl | rfl | rfl | rfl | rfl | rfl | rfl | rfl | rfl | rfl | rfl | rfl
  all_goals exact outD_rt (by kernel_rfl)
theorem ok__law_term {P : Program} {w : World} {K : PySem.W.Frag} {mg : Str → Option Value} {base : Heap} {C : Str → Addr} (nm : Nm K mg C) (er : ErrF K C) (h : HasF K mg "_law_term" s__law_term ["e"]) : TermDef P w K mg base C excN := by
  have nd := sc__law_term.nd
  obtain ⟨f, fd, F, hm, hbd⟩ := h
  refine' ⟨f, fd, termOk_of (body := b__law_term) F sc__law_term term_val (by decide) ?hb, hm, F.kp, hbd⟩
  intro c cdv A outer s H p hc hot1 hz hr
  have hot : L2H.HotC (ctxT P w K mg base ["e", "flags", "kinds", "flag"] (defScope s__law_term) f cdv A outer s H p) := hotc_T hot1
  have hp : (p.1, p.2) ∈ (ctxT P w K mg base ["e", "flags", "kinds", "flag"] (defScope s__law_term) f cdv A outer s H p).pn := List.mem_singleton.mpr rfl
  have hf : ∃ vs, p.2.data = .fields vs := let ⟨_, vs, h1, _⟩ := hot1; ⟨vs, h1⟩
  refine' ⟨_, ?hc⟩
  case hc =>
    intro B EX hB
    refine' jss_cons ?k828_0 ?k828_1
    case k828_0 =>
      refine' js_own 1 nd ?k829_0
      case k829_0 =>
        refine' jf_lst ?k830_0
        case k830_0 =>
          refine' ja_cons ?k831_0 ?k831_1
          case k831_0 =>
            exact je_isE hp (er.exc c hc) hz hf hB nm.isinstance nm.X_InvalidNet.g (er.kit c hc "InvalidNet" (by decide))
          case k831_1 =>
            refine' ja_cons ?k832_0 ?k832_1
            case k832_0 =>
              exact je_isE hp (er.exc c hc) hz hf hB nm.isinstance nm.X_InvalidStreams.g (er.kit c hc "InvalidStreams" (by decide))
            case k832_1 =>
              refine' ja_cons ?k833_0 ?k833_1
              case k833_0 =>
                exact je_isE hp (er.exc c hc) hz hf hB nm.isinstance nm.X_InvalidRound.g (er.kit c hc "InvalidRound" (by decide))
              case k833_1 =>
                exact ja_nil
    case k828_1 =>
      refine' jss_cons ?k834_0 ?k834_1
      case k834_0 =>
        refine' js_own 1 nd ?k835_0
        case k835_0 =>
          refine' jf_cat ?k836_0 ?k836_1
          case k836_0 =>
            exact jr_var 1
          case k836_1 =>
            refine' jr_of ?k837_0
            case k837_0 =>
              refine' je_of ?k838_0
              case k838_0 =>
                refine' jf_lst ?k839_0
                case k839_0 =>
                  refine' ja_cons ?k840_0 ?k840_1
                  case k840_0 =>
                    exact je_isE hp (er.exc c hc) hz hf hB nm.isinstance nm.X_InvalidEvent.g (er.kit c hc "InvalidEvent" (by decide))
                  case k840_1 =>
                    refine' ja_cons ?k841_0 ?k841_1
                    case k841_0 =>
                      exact je_isE hp (er.exc c hc) hz hf hB nm.isinstance nm.X_InvalidInput.g (er.kit c hc "InvalidInput" (by decide))
                    case k841_1 =>
                      refine' ja_cons ?k842_0 ?k842_1
                      case k842_0 =>
                        exact je_isE hp (er.exc c hc) hz hf hB nm.isinstance nm.X_InvalidArc.g (er.kit c hc "InvalidArc" (by decide))
                      case k842_1 =>
                        exact ja_nil
      case k834_1 =>
        refine' jss_cons ?k843_0 ?k843_1
        case k843_0 =>
          refine' js_own 1 nd ?k844_0
          case k844_0 =>
            refine' jf_cat ?k845_0 ?k845_1
            case k845_0 =>
              exact jr_var 1
            case k845_1 =>
              refine' jr_of ?k846_0
              case k846_0 =>
                refine' je_of ?k847_0
                case k847_0 =>
                  refine' jf_lst ?k848_0
                  case k848_0 =>
                    refine' ja_cons ?k849_0 ?k849_1
                    case k849_0 =>
                      exact je_isE hp (er.exc c hc) hz hf hB nm.isinstance nm.X_InvalidNumber.g (er.kit c hc "InvalidNumber" (by decide))
                    case k849_1 =>
                      refine' ja_cons ?k850_0 ?k850_1
                      case k850_0 =>
                        exact je_isE hp (er.exc c hc) hz hf hB nm.isinstance nm.X_InvalidForm.g (er.kit c hc "InvalidForm" (by decide))
                      case k850_1 =>
                        refine' ja_cons ?k851_0 ?k851_1
                        case k851_0 =>
                          exact je_isE hp (er.exc c hc) hz hf hB nm.isinstance nm.X_InvalidStores.g (er.kit c hc "InvalidStores" (by decide))
                        case k851_1 =>
                          exact ja_nil
        case k843_1 =>
          refine' jss_cons ?k852_0 ?k852_1
          case k852_0 =>
            refine' js_own 1 nd ?k853_0
            case k853_0 =>
              refine' jf_cat ?k854_0 ?k854_1
              case k854_0 =>
                exact jr_var 1
              case k854_1 =>
                refine' jr_of ?k855_0
                case k855_0 =>
                  refine' je_of ?k856_0
                  case k856_0 =>
                    refine' jf_lst ?k857_0
                    case k857_0 =>
                      refine' ja_cons ?k858_0 ?k858_1
                      case k858_0 =>
                        exact je_isE hp (er.exc c hc) hz hf hB nm.isinstance nm.X_InvalidDues.g (er.kit c hc "InvalidDues" (by decide))
                      case k858_1 =>
                        refine' ja_cons ?k859_0 ?k859_1
                        case k859_0 =>
                          exact je_isE hp (er.exc c hc) hz hf hB nm.isinstance nm.X_InvalidText.g (er.kit c hc "InvalidText" (by decide))
                        case k859_1 =>
                          refine' ja_cons ?k860_0 ?k860_1
                          case k860_0 =>
                            exact je_isE hp (er.exc c hc) hz hf hB nm.isinstance nm.X_Standstill.g (er.kit c hc "Standstill" (by decide))
                          case k860_1 =>
                            exact ja_nil
          case k852_1 =>
            refine' jss_cons ?k861_0 ?k861_1
            case k861_0 =>
              refine' js_own 1 nd ?k862_0
              case k862_0 =>
                refine' jf_cat ?k863_0 ?k863_1
                case k863_0 =>
                  exact jr_var 1
                case k863_1 =>
                  refine' jr_of ?k864_0
                  case k864_0 =>
                    refine' je_of ?k865_0
                    case k865_0 =>
                      refine' jf_lst ?k866_0
                      case k866_0 =>
                        refine' ja_cons ?k867_0 ?k867_1
                        case k867_0 =>
                          exact je_isE hp (er.exc c hc) hz hf hB nm.isinstance nm.X_NoTime.g (er.kit c hc "NoTime" (by decide))
                        case k867_1 =>
                          refine' ja_cons ?k868_0 ?k868_1
                          case k868_0 =>
                            exact je_isE hp (er.exc c hc) hz hf hB nm.isinstance nm.X_Broken.g (er.kit c hc "Broken" (by decide))
                          case k868_1 =>
                            refine' ja_cons ?k869_0 ?k869_1
                            case k869_0 =>
                              exact je_isE hp (er.exc c hc) hz hf hB nm.isinstance nm.X_NoFit.g (er.kit c hc "NoFit" (by decide))
                            case k869_1 =>
                              refine' ja_cons ?k870_0 ?k870_1
                              case k870_0 =>
                                exact je_isE hp (er.exc c hc) hz hf hB nm.isinstance nm.X_TooMany.g (er.kit c hc "TooMany" (by decide))
                              case k870_1 =>
                                exact ja_nil
            case k861_1 =>
              refine' jss_cons ?k871_0 ?k871_1
              case k871_0 =>
                refine' js_append (K := K) 1 ?k872_0
                case k872_0 =>
                  exact je_isE hp (er.exc c hc) hz hf hB nm.isinstance nm.X_NothingToUndo.g (er.kit c hc "NothingToUndo" (by decide))
              case k871_1 =>
                refine' jss_cons ?k873_0 ?k873_1
                case k873_0 =>
                  refine' js_set 2 nd ?k874_0
                  case k874_0 =>
                    refine' je_of ?k875_0
                    case k875_0 =>
                      refine' jf_lst ?k876_0
                      case k876_0 =>
                        refine' ja_cons ?k877_0 ?k877_1
                        case k877_0 =>
                          exact je_str
                        case k877_1 =>
                          refine' ja_cons ?k878_0 ?k878_1
                          case k878_0 =>
                            exact je_str
                          case k878_1 =>
                            refine' ja_cons ?k879_0 ?k879_1
                            case k879_0 =>
                              exact je_str
                            case k879_1 =>
                              refine' ja_cons ?k880_0 ?k880_1
                              case k880_0 =>
                                exact je_str
                              case k880_1 =>
                                refine' ja_cons ?k881_0 ?k881_1
                                case k881_0 =>
                                  exact je_str
                                case k881_1 =>
                                  refine' ja_cons ?k882_0 ?k882_1
                                  case k882_0 =>
                                    exact je_str
                                  case k882_1 =>
                                    exact ja_nil
                case k873_1 =>
                  refine' jss_cons ?k883_0 ?k883_1
                  case k883_0 =>
                    refine' js_set 2 nd ?k884_0
                    case k884_0 =>
                      refine' je_add (K := K) ?k885_0 ?k885_1
                      case k885_0 =>
                        exact jr_var 2
                      case k885_1 =>
                        refine' jr_of ?k886_0
                        case k886_0 =>
                          refine' je_of ?k887_0
                          case k887_0 =>
                            refine' jf_lst ?k888_0
                            case k888_0 =>
                              refine' ja_cons ?k889_0 ?k889_1
                              case k889_0 =>
                                exact je_str
                              case k889_1 =>
                                refine' ja_cons ?k890_0 ?k890_1
                                case k890_0 =>
                                  exact je_str
                                case k890_1 =>
                                  refine' ja_cons ?k891_0 ?k891_1
                                  case k891_0 =>
                                    exact je_str
                                  case k891_1 =>
                                    refine' ja_cons ?k892_0 ?k892_1
                                    case k892_0 =>
                                      exact je_str
                                    case k892_1 =>
                                      refine' ja_cons ?k893_0 ?k893_1
                                      case k893_0 =>
                                        exact je_str
                                      case k893_1 =>
                                        refine' ja_cons ?k894_0 ?k894_1
                                        case k894_0 =>
                                          exact je_str
                                        case k894_1 =>
                                          exact ja_nil
                  case k883_1 =>
                    refine' jss_cons ?k895_0 ?k895_1
                    case k895_0 =>
                      refine' js_set 2 nd ?k896_0
                      case k896_0 =>
                        refine' je_add (K := K) ?k897_0 ?k897_1
                        case k897_0 =>
                          exact jr_var 2
                        case k897_1 =>
                          refine' jr_of ?k898_0
                          case k898_0 =>
                            refine' je_of ?k899_0
                            case k899_0 =>
                              refine' jf_lst ?k900_0
                              case k900_0 =>
                                refine' ja_cons ?k901_0 ?k901_1
                                case k901_0 =>
                                  exact je_str
                                case k901_1 =>
                                  refine' ja_cons ?k902_0 ?k902_1
                                  case k902_0 =>
                                    exact je_str
                                  case k902_1 =>
                                    refine' ja_cons ?k903_0 ?k903_1
                                    case k903_0 =>
                                      exact je_str
                                    case k903_1 =>
                                      refine' ja_cons ?k904_0 ?k904_1
                                      case k904_0 =>
                                        exact je_str
                                      case k904_1 =>
                                        refine' ja_cons ?k905_0 ?k905_1
                                        case k905_0 =>
                                          exact je_str
                                        case k905_1 =>
                                          exact ja_nil
                    case k895_1 =>
                      refine' jss_cons ?k906_0 ?k906_1
                      case k906_0 =>
                        refine' js_if ?k907_0 ?k907_1 ?k907_2
                        case k907_0 =>
                          refine' jb_w ?k908_0
                          case k908_0 =>
                            refine' jw_or ?k909_0 ?k909_1
                            case k909_0 =>
                              refine' jb_ne (K := K) hr.units ?k910_0 ?k910_1
                              case k910_0 =>
                                refine' jr_of ?k911_0
                                case k911_0 =>
                                  refine' je_cb (cK_sumH (K := K) rfl hot) ok_sum PyProof.Rows.boot_sum nm.sum ?k912_0
                                  case k912_0 =>
                                    refine' jar_cons ?k913_0 ?k913_1
                                    case k913_0 =>
                                      refine' jr_of ?k914_0
                                      case k914_0 =>
                                        refine' je_of ?k915_0
                                        case k915_0 =>
                                          refine' jf_lcH (K := K) (own := [("flag", 3)]) (L := [3]) hot nd (blkOk_by (by kernel_rfl)) ?k916_0 ?k916_1 ?k916_2
                                          case k916_0 =>
                                            exact je_var 1
                                          case k916_1 =>
                                            intro _ _ _ _ _
                                            exact jg_name 3 nd
                                          case k916_2 =>
                                            intro _ _ _ _ _
                                            refine' je_ct call_intA ok_int PyProof.Rows.boot_int nm.int ?k917_0
                                            case k917_0 =>
                                              refine' jar_cons ?k918_0 ?k918_1
                                              case k918_0 =>
                                                exact jr_var 3
                                              case k918_1 =>
                                                exact jar_nil
                                    case k913_1 =>
                                      exact jar_nil
                              case k910_1 =>
                                refine' jr_of ?k919_0
                                case k919_0 =>
                                  exact je_int
                            case k909_1 =>
                              refine' jw_or1 ?k920_0
                              case k920_0 =>
                                refine' jb_not ?k921_0
                                case k921_0 =>
                                  refine' jb_val ?k922_0
                                  case k922_0 =>
                                    exact je_isV hp (er.exc c hc) hz hf hB nm.isinstance nm.ValueError (er.val c hc)
                        case k907_1 =>
                          refine' jss_one ?k923_0
                          case k923_0 =>
                            refine' js_ret ?k924_0
                            case k924_0 =>
                              refine' je_tup ?k925_0
                              case k925_0 =>
                                refine' ja_cons ?k926_0 ?k926_1
                                case k926_0 =>
                                  exact je_str
                                case k926_1 =>
                                  refine' ja_cons ?k927_0 ?k927_1
                                  case k927_0 =>
                                    exact je_str
                                  case k927_1 =>
                                    exact ja_nil
                        case k907_2 =>
                          exact jss_nil
                      case k906_1 =>
                        refine' jss_one ?k928_0
                        case k928_0 =>
                          refine' js_ret ?k929_0
                          case k929_0 =>
                            refine' je_tup ?k930_0
                            case k930_0 =>
                              refine' ja_cons ?k931_0 ?k931_1
                              case k931_0 =>
                                exact je_str
                              case k931_1 =>
                                refine' ja_cons ?k932_0 ?k932_1
                                case k932_0 =>
                                  refine' je_ix (K := K) ?k933_0 ?k933_1
                                  case k933_0 =>
                                    exact jr_var 2
                                  case k933_1 =>
                                    refine' jr_of ?k934_0
                                    case k934_0 =>
                                      exact je_idx (K := K) 1
                                case k932_1 =>
                                  exact ja_nil


/-! ### law -/
abbrev s_law : Stmt := top 50
abbrev lawN : List Str := ["script", "dice", "one", "other", "rows", "unlike", "a", "b", "first", "last", "even", "odd", "bad", "past", "told", "form", "at"]
def e0_law : M D := mCall0 g__law_at (mCons (mVar 15) (mCons (mVar 16) (mNil)))
def e1_law : M D := mLc (mRng1 (mCons (ret (.int 80)) (mNil))) (hName 16) (mYes) (e0_law) [16]
def t2_law : M Bool := mTst (mOp neF (mT (mOp ixF (mT (mOp ixF (mVarT 4) (mT (ret (.int 0))))) (mVarT 16))) (mT (mOp ixF (mT (mOp ixF (mVarT 4) (mT (ret (.int 1))))) (mVarT 16))))
def e3_law : M D := mVar 16
def t4_law : M Bool := mAnd (mTst (mOp (isF true) (mT (mOp ixF (mVarT 8) (mVarT 16))) (mT (ret .none)))) (mOr (mTst (mOp (isF false) (mT (mOp ixF (mVarT 9) (mVarT 16))) (mT (ret .none)))) (mTst (mOp gtF (mT (mOp ixF (mVarT 8) (mVarT 16))) (mT (mOp ixF (mVarT 9) (mVarT 16))))))
def e5_law : M D := mVar 16
def s6_law : S := sAsg (mLc (mRng1 (mCons (ret (.int 80)) (mNil))) (hName 16) (t4_law) (e5_law) [16]) (hName 13)
def s7_law : S := sAsg (mCall g_first_later (mCons (mVar 6) (mCons (mVar 7) (mNil)))) (hName 14)
def s8_law : S := sIf (mTst (mOp neF (mVarT 14) (mT (mIf (mTst (mOp neF (mVarT 13) (mT (mLst (mNil))))) (mOp ixF (mVarT 13) (mT (ret (.int 0)))) (ret .none))))) (sRet (ret (.bool false))) (sNext)
def l9_law : S := sSeq (s6_law)
 (sSeq (s7_law)
 (s8_law))
def s10_law : S := sIf (mTst (mOp neF (mT (mTold (mCall g_first_later (mCons (mVar 12) (mCons (ret .none) (mNil)))))) (mT (mTup (mCons (ret (.str "error")) (mCons (ret (.str "InvalidForm")) (mNil))))))) (sRet (ret (.bool false))) (sNext)
def s11_law : S := sIf (mTst (mOp neF (mT (mTold (mCall g_first_difference (mCons (mVar 2) (mCons (mVar 12) (mNil)))))) (mT (mTup (mCons (ret (.str "error")) (mCons (ret (.str "InvalidForm")) (mNil))))))) (sRet (ret (.bool false))) (sNext)
def l12_law : S := sSeq (s10_law)
 (s11_law)
def s13_law : S := sPar [false, false] [2, 3] (mCons (mCallB (noEx c__law_form_of) 1 (mNil)) (mCons (mCallB (noEx c__law_form_of) 1 (mNil)) (mNil)))
def s14_law : S := sIf (mTst (mOp eqF (mT (mCallB (noEx c__law_roll) 1 (mCons (ret (.int 3)) (mNil)))) (mT (ret (.int 0))))) (sAsg (mVar 2) (hName 3)) (sNext)
def s15_law : S := sAsg (mLc (mSeqI (mTup (mCons (mVar 2) (mCons (mVar 3) (mNil))))) (hName 15) (mYes) (e1_law) [15]) (hName 4)
def s16_law : S := sAsg (mLc (mRng1 (mCons (ret (.int 80)) (mNil))) (hName 16) (t2_law) (e3_law) [16]) (hName 5)
def s17_law : S := sIf (mTst (mOp neF (mT (mCall g_first_difference (mCons (mVar 2) (mCons (mVar 3) (mNil))))) (mT (mIf (mTst (mOp neF (mVarT 5) (mT (mLst (mNil))))) (mOp ixF (mVarT 5) (mT (ret (.int 0)))) (ret .none))))) (sRet (ret (.bool false))) (sNext)
def s18_law : S := sFor (mSeqI (mLst (mCons (mTup (mCons (mVar 2) (mCons (mVar 3) (mCons (mOp ixF (mVarT 4) (mT (ret (.int 0)))) (mCons (mOp ixF (mVarT 4) (mT (ret (.int 1)))) (mNil)))))) (mCons (mTup (mCons (mVar 3) (mCons (mVar 2) (mCons (mOp ixF (mVarT 4) (mT (ret (.int 1)))) (mCons (mOp ixF (mVarT 4) (mT (ret (.int 0)))) (mNil)))))) (mNil))))) (hTup 4 (hCons (hName 6) (hCons (hName 7) (hCons (hName 8) (hCons (hName 9) (hNil)))))) (l9_law)
def s19_law : S := sAsg (mTup (mCons (ret (.int 0)) (mCons (mTup (mCons (ret (.int 5)) (mCons (ret .none) (mNil)))) (mCons (mTup (mCons (ret (.int 3)) (mCons (ret .none) (mNil)))) (mNil))))) (hName 10)
def s20_law : S := sAsg (mTup (mCons (ret (.int 0)) (mCons (mTup (mCons (ret .none) (mCons (ret (.int 9)) (mNil)))) (mCons (mTup (mCons (ret .none) (mCons (ret (.int 4)) (mNil)))) (mNil))))) (hName 11)
def s21_law : S := sIf (mOr (mTst (mOp neF (mT (mCall g_first_difference (mCons (mVar 10) (mCons (mVar 11) (mNil))))) (mT (ret (.int 0))))) (mTst (mOp neF (mT (mCall g_first_later (mCons (mVar 11) (mCons (mVar 10) (mNil))))) (mT (ret (.int 1)))))) (sRet (ret (.bool false))) (sNext)
def s22_law : S := sIf (mTst (mOp (isF true) (mT (mCall g_first_later (mCons (mVar 10) (mCons (mVar 10) (mNil))))) (mT (ret .none)))) (sRet (ret (.bool false))) (sNext)
def s23_law : S := sFor (mSeqI (mLst (mCons (ret .none) (mCons (ret (.int 5)) (mCons (mTup (mCons (ret (.int 0)) (mCons (mTup (mCons (ret (.int 1)) (mNil))) (mCons (mTup (mNil)) (mNil))))) (mCons (mTup (mCons (ret (.int 1)) (mCons (mTup (mCons (ret (.int 0)) (mCons (ret (.int 1)) (mNil)))) (mCons (mTup (mCons (ret (.int 1)) (mNil))) (mNil))))) (mCons (mTup (mCons (ret (.int 0)) (mCons (mTup (mCons (ret (.int 3)) (mCons (ret (.int 4)) (mNil)))) (mCons (mTup (mCons (ret (.int 2)) (mCons (ret (.int 2)) (mNil)))) (mNil))))) (mNil)))))))) (hName 12) (l12_law)
def b_law : S := sSeq (s13_law)
 (sSeq (s14_law)
 (sSeq (s15_law)
 (sSeq (s16_law)
 (sSeq (s17_law)
 (sSeq (s18_law)
 (sSeq (s19_law)
 (sSeq (s20_law)
 (sSeq (s21_law)
 (sSeq (s22_law)
 (s23_law))))))))))
theorem sc_law : FnScope lawN ["script"] (defScope s_law) := ⟨rfl, rfl, rfl, by decide +kernel, rfl, by decide +kernel, by decide +kernel⟩
abbrev lamQ : Str := (PyProof.Rows.envOfC "law" (defScope s_law) 0 0 .none).qual ++ "<lambda>"
theorem ok_law {P : Program} {w : World} {K : PySem.W.Frag} {mg : Str → Option Value} {base : Heap} {C : Str → Addr} (nm : Nm K mg C) {f : Addr} {fd : FuncData} (F : FnP K "law" s_law f fd) (DR : DefS P w K mg base CX0 "_law_rounds" ["script", "most"] 2 (spRoundsS K)) (D__law_form_of : DefB P w K mg base CX0 C "_law_form_of" ["dice"] 3 (noEx c__law_form_of)) (D__law_roll : DefB P w K mg base CX0 C "_law_roll" ["dice", "many"] 2 (noEx c__law_roll)) (D__law_at : DefV P w K mg base CX0 C "_law_at" ["form", "place"] 1 g__law_at) (D_first_difference : DefV P w K mg base (L2N.CX P w) C "first_difference" ["one", "other"] 6 g_first_difference) (D_first_later : DefV P w K mg base (L2N.CX P w) C "first_later" ["one", "other"] 6 g_first_later) (er : ErrF K C) (HT : HasF K mg "_law_told" s__law_told ["deed"]) (TD : TermDef P w K mg base C excN) {c Pt : Addr} (TB : LamX.TabB base mg c Pt) (hcd : fd.code = .ref c) (rk : RoundOk lawN.length b_law) : FnOk P w K mg base (L2N.CX P w) 10 f fd ["script"] (spLawS K [(Pt, lamQ)]) := by
  have nd := sc_law.nd
  obtain ⟨f2, fd2, F2, hm2, hk2, hb2⟩ := DR
  refine law_ok (k := 9) F hcd sc_law (fun vs H Q E h => ?_) (fun A outer s H vs Q E hr h => ?_)
  · obtain ⟨a, ns, rfl, _⟩ := h
    rfl
  · have j : ∃ t, ∀ B : Bd, B.T = [(Pt, lamQ)] → JSs (cxOf (L2N.CX P w) P w K mg base lawN "law" (defScope s_law) f (.ref c) A outer s H E) B (fun c H' => E (.ref (C c)) none H') (forBody (defBody s_law)) t b_law := by
      refine' ⟨_, ?hc⟩
      case hc =>
        intro B hBT
        have c0 : ToldCx (cxOf (L2N.CX P w) P w K mg base lawN "law" (defScope s_law) f (.ref c) A outer s H E) B C s__law_told c Pt := ⟨HT, TD, ⟨_, nm.X_RoundError.g, er.rnd⟩, TB, rfl, hBT⟩
        refine' jss_cons ?k935_0 ?k935_1
        case k935_0 =>
          refine' js_parT (K := K) (is := [2, 3]) ?k936_0 ?k936_1
          case k936_0 =>
            refine' jam_cons ?k937_0 ?k937_1
            case k937_0 =>
              refine' je_callB0 1 D__law_form_of hr ?k938_0
              case k938_0 =>
                exact ja_nil
            case k937_1 =>
              refine' jam_cons ?k939_0 ?k939_1
              case k939_0 =>
                refine' je_callB0 1 D__law_form_of hr ?k940_0
                case k940_0 =>
                  exact ja_nil
              case k939_1 =>
                exact jam_nil
          case k936_1 =>
            exact (pg_tup rfl (pgs_cons (pg_name (i := 2) nd rfl (by first | exact Or.inl rfl | exact Or.inr rfl)) (pgs_cons (pg_name (i := 3) nd rfl (by first | exact Or.inl rfl | exact Or.inr rfl)) (pgs_nil))))
        case k935_1 =>
          refine' jss_cons ?k941_0 ?k941_1
          case k941_0 =>
            refine' js_if ?k942_0 ?k942_1 ?k942_2
            case k942_0 =>
              refine' jb_eq (K := K) hr.units ?k943_0 ?k943_1
              case k943_0 =>
                refine' jr_of ?k944_0
                case k944_0 =>
                  refine' je_callB0 1 D__law_roll hr ?k945_0
                  case k945_0 =>
                    refine' ja_cons ?k946_0 ?k946_1
                    case k946_0 =>
                      exact je_int
                    case k946_1 =>
                      exact ja_nil
              case k943_1 =>
                refine' jr_of ?k947_0
                case k947_0 =>
                  exact je_int
            case k942_1 =>
              refine' jss_one ?k948_0
              case k948_0 =>
                refine' js_set 3 nd ?k949_0
                case k949_0 =>
                  exact je_var 2
            case k942_2 =>
              exact jss_nil
          case k941_1 =>
            refine' jss_cons ?k950_0 ?k950_1
            case k950_0 =>
              refine' js_set 4 nd ?k951_0
              case k951_0 =>
                refine' je_of ?k952_0
                case k952_0 =>
                  refine' jf_lc (own := [("form", 15)]) (L := [15]) nd (blkOk_by (by kernel_rfl)) ?k953_0 ?k953_1 ?k953_2 ?k953_3
                  case k953_0 =>
                    refine' ji_seq (K := K) ?k954_0
                    case k954_0 =>
                      refine' je_tup ?k955_0
                      case k955_0 =>
                        refine' ja_cons ?k956_0 ?k956_1
                        case k956_0 =>
                          exact je_var 2
                        case k956_1 =>
                          refine' ja_cons ?k957_0 ?k957_1
                          case k957_0 =>
                            exact je_var 3
                          case k957_1 =>
                            exact ja_nil
                  case k953_1 =>
                    intro _ _ _ _ _
                    exact jg_name 15 nd
                  case k953_2 =>
                    intro _ _ _ _ _
                    exact jbs_nil
                  case k953_3 =>
                    intro _ _ _ _ _
                    refine' je_of ?k958_0
                    case k958_0 =>
                      refine' jf_lc (own := [("at", 16)]) (L := [16]) nd (blkOk_by (by kernel_rfl)) ?k959_0 ?k959_1 ?k959_2 ?k959_3
                      case k959_0 =>
                        refine' ji_rng1 nm.range ?k960_0
                        case k960_0 =>
                          refine' ja_cons ?k961_0 ?k961_1
                          case k961_0 =>
                            exact je_int
                          case k961_1 =>
                            exact ja_nil
                      case k959_1 =>
                        intro _ _ _ _ _
                        exact jg_name 16 nd
                      case k959_2 =>
                        intro _ _ _ _ _
                        exact jbs_nil
                      case k959_3 =>
                        intro _ _ _ _ _
                        refine' je_call0 D__law_at hr ?k962_0
                        case k962_0 =>
                          refine' ja_cons ?k963_0 ?k963_1
                          case k963_0 =>
                            exact je_var 15
                          case k963_1 =>
                            refine' ja_cons ?k964_0 ?k964_1
                            case k964_0 =>
                              exact je_var 16
                            case k964_1 =>
                              exact ja_nil
            case k950_1 =>
              refine' jss_cons ?k965_0 ?k965_1
              case k965_0 =>
                refine' js_setLc 5 (own := [("at", 16)]) (L := [16]) nd (blkOk_by (by kernel_rfl)) ?k966_0 ?k966_1 ?k966_2 ?k966_3 (sw_true rfl rfl rfl (by kernel_rfl))
                case k966_0 =>
                  refine' ji_rng1 nm.range ?k967_0
                  case k967_0 =>
                    refine' ja_cons ?k968_0 ?k968_1
                    case k968_0 =>
                      exact je_int
                    case k968_1 =>
                      exact ja_nil
                case k966_1 =>
                  intro _ _ _ _ _
                  exact jg_name 16 nd
                case k966_2 =>
                  intro _ _ _ _ _
                  refine' jbs_one ?k969_0
                  case k969_0 =>
                    refine' jb_ne (K := K) hr.units ?k970_0 ?k970_1
                    case k970_0 =>
                      refine' jr_of ?k971_0
                      case k971_0 =>
                        refine' je_ix (K := K) ?k972_0 ?k972_1
                        case k972_0 =>
                          refine' jr_of ?k973_0
                          case k973_0 =>
                            refine' je_ix (K := K) ?k974_0 ?k974_1
                            case k974_0 =>
                              exact jr_var 4
                            case k974_1 =>
                              refine' jr_of ?k975_0
                              case k975_0 =>
                                exact je_int
                        case k972_1 =>
                          exact jr_var 16
                    case k970_1 =>
                      refine' jr_of ?k976_0
                      case k976_0 =>
                        refine' je_ix (K := K) ?k977_0 ?k977_1
                        case k977_0 =>
                          refine' jr_of ?k978_0
                          case k978_0 =>
                            refine' je_ix (K := K) ?k979_0 ?k979_1
                            case k979_0 =>
                              exact jr_var 4
                            case k979_1 =>
                              refine' jr_of ?k980_0
                              case k980_0 =>
                                exact je_int
                        case k977_1 =>
                          exact jr_var 16
                case k966_3 =>
                  intro _ _ _ _ _
                  exact je_var 16
              case k965_1 =>
                refine' jss_cons ?k981_0 ?k981_1
                case k981_0 =>
                  refine' js_if ?k982_0 ?k982_1 ?k982_2
                  case k982_0 =>
                    refine' jb_ne (K := K) hr.units ?k983_0 ?k983_1
                    case k983_0 =>
                      refine' jr_of ?k984_0
                      case k984_0 =>
                        refine' je_call D_first_difference hr ?k985_0
                        case k985_0 =>
                          refine' ja_cons ?k986_0 ?k986_1
                          case k986_0 =>
                            exact je_var 2
                          case k986_1 =>
                            refine' ja_cons ?k987_0 ?k987_1
                            case k987_0 =>
                              exact je_var 3
                            case k987_1 =>
                              exact ja_nil
                    case k983_1 =>
                      refine' jr_of ?k988_0
                      case k988_0 =>
                        refine' je_if ?k989_0 ?k989_1 ?k989_2
                        case k989_0 =>
                          refine' jb_ne (K := K) hr.units ?k990_0 ?k990_1
                          case k990_0 =>
                            exact jr_var 5
                          case k990_1 =>
                            refine' jr_of ?k991_0
                            case k991_0 =>
                              refine' je_of ?k992_0
                              case k992_0 =>
                                refine' jf_lst ?k993_0
                                case k993_0 =>
                                  exact ja_nil
                        case k989_1 =>
                          refine' je_ix (K := K) ?k994_0 ?k994_1
                          case k994_0 =>
                            exact jr_var 5
                          case k994_1 =>
                            refine' jr_of ?k995_0
                            case k995_0 =>
                              exact je_int
                        case k989_2 =>
                          exact je_non
                  case k982_1 =>
                    refine' jss_one ?k996_0
                    case k996_0 =>
                      refine' js_ret ?k997_0
                      case k997_0 =>
                        exact je_bl
                  case k982_2 =>
                    exact jss_nil
                case k981_1 =>
                  refine' jss_cons ?k998_0 ?k998_1
                  case k998_0 =>
                    refine' js_for pass_own ?k999_0 ?k999_1 ?k999_2
                    case k999_0 =>
                      refine' ji_seq (K := K) ?k1000_0
                      case k1000_0 =>
                        refine' je_of ?k1001_0
                        case k1001_0 =>
                          refine' jf_lst ?k1002_0
                          case k1002_0 =>
                            refine' ja_cons ?k1003_0 ?k1003_1
                            case k1003_0 =>
                              refine' je_tup ?k1004_0
                              case k1004_0 =>
                                refine' ja_cons ?k1005_0 ?k1005_1
                                case k1005_0 =>
                                  exact je_var 2
                                case k1005_1 =>
                                  refine' ja_cons ?k1006_0 ?k1006_1
                                  case k1006_0 =>
                                    exact je_var 3
                                  case k1006_1 =>
                                    refine' ja_cons ?k1007_0 ?k1007_1
                                    case k1007_0 =>
                                      refine' je_ix (K := K) ?k1008_0 ?k1008_1
                                      case k1008_0 =>
                                        exact jr_var 4
                                      case k1008_1 =>
                                        refine' jr_of ?k1009_0
                                        case k1009_0 =>
                                          exact je_int
                                    case k1007_1 =>
                                      refine' ja_cons ?k1010_0 ?k1010_1
                                      case k1010_0 =>
                                        refine' je_ix (K := K) ?k1011_0 ?k1011_1
                                        case k1011_0 =>
                                          exact jr_var 4
                                        case k1011_1 =>
                                          refine' jr_of ?k1012_0
                                          case k1012_0 =>
                                            exact je_int
                                      case k1010_1 =>
                                        exact ja_nil
                            case k1003_1 =>
                              refine' ja_cons ?k1013_0 ?k1013_1
                              case k1013_0 =>
                                refine' je_tup ?k1014_0
                                case k1014_0 =>
                                  refine' ja_cons ?k1015_0 ?k1015_1
                                  case k1015_0 =>
                                    exact je_var 3
                                  case k1015_1 =>
                                    refine' ja_cons ?k1016_0 ?k1016_1
                                    case k1016_0 =>
                                      exact je_var 2
                                    case k1016_1 =>
                                      refine' ja_cons ?k1017_0 ?k1017_1
                                      case k1017_0 =>
                                        refine' je_ix (K := K) ?k1018_0 ?k1018_1
                                        case k1018_0 =>
                                          exact jr_var 4
                                        case k1018_1 =>
                                          refine' jr_of ?k1019_0
                                          case k1019_0 =>
                                            exact je_int
                                      case k1017_1 =>
                                        refine' ja_cons ?k1020_0 ?k1020_1
                                        case k1020_0 =>
                                          refine' je_ix (K := K) ?k1021_0 ?k1021_1
                                          case k1021_0 =>
                                            exact jr_var 4
                                          case k1021_1 =>
                                            refine' jr_of ?k1022_0
                                            case k1022_0 =>
                                              exact je_int
                                        case k1020_1 =>
                                          exact ja_nil
                              case k1013_1 =>
                                exact ja_nil
                    case k999_1 =>
                      refine' jg_tup (K := K) ?k1023_0
                      case k1023_0 =>
                        refine' jgs_cons ?k1024_0 ?k1024_1
                        case k1024_0 =>
                          exact jg_name 6 nd
                        case k1024_1 =>
                          refine' jgs_cons ?k1025_0 ?k1025_1
                          case k1025_0 =>
                            exact jg_name 7 nd
                          case k1025_1 =>
                            refine' jgs_cons ?k1026_0 ?k1026_1
                            case k1026_0 =>
                              exact jg_name 8 nd
                            case k1026_1 =>
                              refine' jgs_cons ?k1027_0 ?k1027_1
                              case k1027_0 =>
                                exact jg_name 9 nd
                              case k1027_1 =>
                                exact jgs_nil
                    case k999_2 =>
                      refine' jss_cons ?k1028_0 ?k1028_1
                      case k1028_0 =>
                        refine' js_setLc 13 (own := [("at", 16)]) (L := [16]) nd (blkOk_by (by kernel_rfl)) ?k1029_0 ?k1029_1 ?k1029_2 ?k1029_3 (sw_true rfl rfl rfl (by kernel_rfl))
                        case k1029_0 =>
                          refine' ji_rng1 nm.range ?k1030_0
                          case k1030_0 =>
                            refine' ja_cons ?k1031_0 ?k1031_1
                            case k1031_0 =>
                              exact je_int
                            case k1031_1 =>
                              exact ja_nil
                        case k1029_1 =>
                          intro _ _ _ _ _
                          exact jg_name 16 nd
                        case k1029_2 =>
                          intro _ _ _ _ _
                          refine' jbs_one ?k1032_0
                          case k1032_0 =>
                            refine' jb_w ?k1033_0
                            case k1033_0 =>
                              refine' jw_and ?k1034_0 ?k1034_1
                              case k1034_0 =>
                                refine' jb_isnot ?k1035_0 ?k1035_1
                                case k1035_0 =>
                                  refine' jr_of ?k1036_0
                                  case k1036_0 =>
                                    refine' je_ix (K := K) ?k1037_0 ?k1037_1
                                    case k1037_0 =>
                                      exact jr_var 8
                                    case k1037_1 =>
                                      exact jr_var 16
                                case k1035_1 =>
                                  refine' jr_of ?k1038_0
                                  case k1038_0 =>
                                    exact je_non
                              case k1034_1 =>
                                refine' jw_and1 ?k1039_0
                                case k1039_0 =>
                                  refine' jb_w ?k1040_0
                                  case k1040_0 =>
                                    refine' jw_or ?k1041_0 ?k1041_1
                                    case k1041_0 =>
                                      refine' jb_is ?k1042_0 ?k1042_1
                                      case k1042_0 =>
                                        refine' jr_of ?k1043_0
                                        case k1043_0 =>
                                          refine' je_ix (K := K) ?k1044_0 ?k1044_1
                                          case k1044_0 =>
                                            exact jr_var 9
                                          case k1044_1 =>
                                            exact jr_var 16
                                      case k1042_1 =>
                                        refine' jr_of ?k1045_0
                                        case k1045_0 =>
                                          exact je_non
                                    case k1041_1 =>
                                      refine' jw_or1 ?k1046_0
                                      case k1046_0 =>
                                        refine' jb_gt ?k1047_0 ?k1047_1
                                        case k1047_0 =>
                                          refine' jr_of ?k1048_0
                                          case k1048_0 =>
                                            refine' je_ix (K := K) ?k1049_0 ?k1049_1
                                            case k1049_0 =>
                                              exact jr_var 8
                                            case k1049_1 =>
                                              exact jr_var 16
                                        case k1047_1 =>
                                          refine' jr_of ?k1050_0
                                          case k1050_0 =>
                                            refine' je_ix (K := K) ?k1051_0 ?k1051_1
                                            case k1051_0 =>
                                              exact jr_var 9
                                            case k1051_1 =>
                                              exact jr_var 16
                        case k1029_3 =>
                          intro _ _ _ _ _
                          exact je_var 16
                      case k1028_1 =>
                        refine' jss_cons ?k1052_0 ?k1052_1
                        case k1052_0 =>
                          refine' js_set 14 nd ?k1053_0
                          case k1053_0 =>
                            refine' je_call D_first_later hr ?k1054_0
                            case k1054_0 =>
                              refine' ja_cons ?k1055_0 ?k1055_1
                              case k1055_0 =>
                                exact je_var 6
                              case k1055_1 =>
                                refine' ja_cons ?k1056_0 ?k1056_1
                                case k1056_0 =>
                                  exact je_var 7
                                case k1056_1 =>
                                  exact ja_nil
                        case k1052_1 =>
                          refine' jss_one ?k1057_0
                          case k1057_0 =>
                            refine' js_if ?k1058_0 ?k1058_1 ?k1058_2
                            case k1058_0 =>
                              refine' jb_ne (K := K) hr.units ?k1059_0 ?k1059_1
                              case k1059_0 =>
                                exact jr_var 14
                              case k1059_1 =>
                                refine' jr_of ?k1060_0
                                case k1060_0 =>
                                  refine' je_if ?k1061_0 ?k1061_1 ?k1061_2
                                  case k1061_0 =>
                                    refine' jb_ne (K := K) hr.units ?k1062_0 ?k1062_1
                                    case k1062_0 =>
                                      exact jr_var 13
                                    case k1062_1 =>
                                      refine' jr_of ?k1063_0
                                      case k1063_0 =>
                                        refine' je_of ?k1064_0
                                        case k1064_0 =>
                                          refine' jf_lst ?k1065_0
                                          case k1065_0 =>
                                            exact ja_nil
                                  case k1061_1 =>
                                    refine' je_ix (K := K) ?k1066_0 ?k1066_1
                                    case k1066_0 =>
                                      exact jr_var 13
                                    case k1066_1 =>
                                      refine' jr_of ?k1067_0
                                      case k1067_0 =>
                                        exact je_int
                                  case k1061_2 =>
                                    exact je_non
                            case k1058_1 =>
                              refine' jss_one ?k1068_0
                              case k1068_0 =>
                                refine' js_ret ?k1069_0
                                case k1069_0 =>
                                  exact je_bl
                            case k1058_2 =>
                              exact jss_nil
                  case k998_1 =>
                    refine' jss_cons ?k1070_0 ?k1070_1
                    case k1070_0 =>
                      refine' js_set 10 nd ?k1071_0
                      case k1071_0 =>
                        refine' je_tup ?k1072_0
                        case k1072_0 =>
                          refine' ja_cons ?k1073_0 ?k1073_1
                          case k1073_0 =>
                            exact je_int
                          case k1073_1 =>
                            refine' ja_cons ?k1074_0 ?k1074_1
                            case k1074_0 =>
                              refine' je_tup ?k1075_0
                              case k1075_0 =>
                                refine' ja_cons ?k1076_0 ?k1076_1
                                case k1076_0 =>
                                  exact je_int
                                case k1076_1 =>
                                  refine' ja_cons ?k1077_0 ?k1077_1
                                  case k1077_0 =>
                                    exact je_non
                                  case k1077_1 =>
                                    exact ja_nil
                            case k1074_1 =>
                              refine' ja_cons ?k1078_0 ?k1078_1
                              case k1078_0 =>
                                refine' je_tup ?k1079_0
                                case k1079_0 =>
                                  refine' ja_cons ?k1080_0 ?k1080_1
                                  case k1080_0 =>
                                    exact je_int
                                  case k1080_1 =>
                                    refine' ja_cons ?k1081_0 ?k1081_1
                                    case k1081_0 =>
                                      exact je_non
                                    case k1081_1 =>
                                      exact ja_nil
                              case k1078_1 =>
                                exact ja_nil
                    case k1070_1 =>
                      refine' jss_cons ?k1082_0 ?k1082_1
                      case k1082_0 =>
                        refine' js_set 11 nd ?k1083_0
                        case k1083_0 =>
                          refine' je_tup ?k1084_0
                          case k1084_0 =>
                            refine' ja_cons ?k1085_0 ?k1085_1
                            case k1085_0 =>
                              exact je_int
                            case k1085_1 =>
                              refine' ja_cons ?k1086_0 ?k1086_1
                              case k1086_0 =>
                                refine' je_tup ?k1087_0
                                case k1087_0 =>
                                  refine' ja_cons ?k1088_0 ?k1088_1
                                  case k1088_0 =>
                                    exact je_non
                                  case k1088_1 =>
                                    refine' ja_cons ?k1089_0 ?k1089_1
                                    case k1089_0 =>
                                      exact je_int
                                    case k1089_1 =>
                                      exact ja_nil
                              case k1086_1 =>
                                refine' ja_cons ?k1090_0 ?k1090_1
                                case k1090_0 =>
                                  refine' je_tup ?k1091_0
                                  case k1091_0 =>
                                    refine' ja_cons ?k1092_0 ?k1092_1
                                    case k1092_0 =>
                                      exact je_non
                                    case k1092_1 =>
                                      refine' ja_cons ?k1093_0 ?k1093_1
                                      case k1093_0 =>
                                        exact je_int
                                      case k1093_1 =>
                                        exact ja_nil
                                case k1090_1 =>
                                  exact ja_nil
                      case k1082_1 =>
                        refine' jss_cons ?k1094_0 ?k1094_1
                        case k1094_0 =>
                          refine' js_if ?k1095_0 ?k1095_1 ?k1095_2
                          case k1095_0 =>
                            refine' jb_w ?k1096_0
                            case k1096_0 =>
                              refine' jw_or ?k1097_0 ?k1097_1
                              case k1097_0 =>
                                refine' jb_ne (K := K) hr.units ?k1098_0 ?k1098_1
                                case k1098_0 =>
                                  refine' jr_of ?k1099_0
                                  case k1099_0 =>
                                    refine' je_call D_first_difference hr ?k1100_0
                                    case k1100_0 =>
                                      refine' ja_cons ?k1101_0 ?k1101_1
                                      case k1101_0 =>
                                        exact je_var 10
                                      case k1101_1 =>
                                        refine' ja_cons ?k1102_0 ?k1102_1
                                        case k1102_0 =>
                                          exact je_var 11
                                        case k1102_1 =>
                                          exact ja_nil
                                case k1098_1 =>
                                  refine' jr_of ?k1103_0
                                  case k1103_0 =>
                                    exact je_int
                              case k1097_1 =>
                                refine' jw_or1 ?k1104_0
                                case k1104_0 =>
                                  refine' jb_ne (K := K) hr.units ?k1105_0 ?k1105_1
                                  case k1105_0 =>
                                    refine' jr_of ?k1106_0
                                    case k1106_0 =>
                                      refine' je_call D_first_later hr ?k1107_0
                                      case k1107_0 =>
                                        refine' ja_cons ?k1108_0 ?k1108_1
                                        case k1108_0 =>
                                          exact je_var 11
                                        case k1108_1 =>
                                          refine' ja_cons ?k1109_0 ?k1109_1
                                          case k1109_0 =>
                                            exact je_var 10
                                          case k1109_1 =>
                                            exact ja_nil
                                  case k1105_1 =>
                                    refine' jr_of ?k1110_0
                                    case k1110_0 =>
                                      exact je_int
                          case k1095_1 =>
                            refine' jss_one ?k1111_0
                            case k1111_0 =>
                              refine' js_ret ?k1112_0
                              case k1112_0 =>
                                exact je_bl
                          case k1095_2 =>
                            exact jss_nil
                        case k1094_1 =>
                          refine' jss_cons ?k1113_0 ?k1113_1
                          case k1113_0 =>
                            refine' js_if ?k1114_0 ?k1114_1 ?k1114_2
                            case k1114_0 =>
                              refine' jb_isnot ?k1115_0 ?k1115_1
                              case k1115_0 =>
                                refine' jr_of ?k1116_0
                                case k1116_0 =>
                                  refine' je_call D_first_later hr ?k1117_0
                                  case k1117_0 =>
                                    refine' ja_cons ?k1118_0 ?k1118_1
                                    case k1118_0 =>
                                      exact je_var 10
                                    case k1118_1 =>
                                      refine' ja_cons ?k1119_0 ?k1119_1
                                      case k1119_0 =>
                                        exact je_var 10
                                      case k1119_1 =>
                                        exact ja_nil
                              case k1115_1 =>
                                refine' jr_of ?k1120_0
                                case k1120_0 =>
                                  exact je_non
                            case k1114_1 =>
                              refine' jss_one ?k1121_0
                              case k1121_0 =>
                                refine' js_ret ?k1122_0
                                case k1122_0 =>
                                  exact je_bl
                            case k1114_2 =>
                              exact jss_nil
                          case k1113_1 =>
                            refine' jss_one ?k1123_0
                            case k1123_0 =>
                              refine' js_for pass_own ?k1124_0 ?k1124_1 ?k1124_2
                              case k1124_0 =>
                                refine' ji_seq (K := K) ?k1125_0
                                case k1125_0 =>
                                  refine' je_of ?k1126_0
                                  case k1126_0 =>
                                    refine' jf_lst ?k1127_0
                                    case k1127_0 =>
                                      refine' ja_cons ?k1128_0 ?k1128_1
                                      case k1128_0 =>
                                        exact je_non
                                      case k1128_1 =>
                                        refine' ja_cons ?k1129_0 ?k1129_1
                                        case k1129_0 =>
                                          exact je_int
                                        case k1129_1 =>
                                          refine' ja_cons ?k1130_0 ?k1130_1
                                          case k1130_0 =>
                                            refine' je_tup ?k1131_0
                                            case k1131_0 =>
                                              refine' ja_cons ?k1132_0 ?k1132_1
                                              case k1132_0 =>
                                                exact je_int
                                              case k1132_1 =>
                                                refine' ja_cons ?k1133_0 ?k1133_1
                                                case k1133_0 =>
                                                  refine' je_tup ?k1134_0
                                                  case k1134_0 =>
                                                    refine' ja_cons ?k1135_0 ?k1135_1
                                                    case k1135_0 =>
                                                      exact je_int
                                                    case k1135_1 =>
                                                      exact ja_nil
                                                case k1133_1 =>
                                                  refine' ja_cons ?k1136_0 ?k1136_1
                                                  case k1136_0 =>
                                                    refine' je_tup ?k1137_0
                                                    case k1137_0 =>
                                                      exact ja_nil
                                                  case k1136_1 =>
                                                    exact ja_nil
                                          case k1130_1 =>
                                            refine' ja_cons ?k1138_0 ?k1138_1
                                            case k1138_0 =>
                                              refine' je_tup ?k1139_0
                                              case k1139_0 =>
                                                refine' ja_cons ?k1140_0 ?k1140_1
                                                case k1140_0 =>
                                                  exact je_int
                                                case k1140_1 =>
                                                  refine' ja_cons ?k1141_0 ?k1141_1
                                                  case k1141_0 =>
                                                    refine' je_tup ?k1142_0
                                                    case k1142_0 =>
                                                      refine' ja_cons ?k1143_0 ?k1143_1
                                                      case k1143_0 =>
                                                        exact je_int
                                                      case k1143_1 =>
                                                        refine' ja_cons ?k1144_0 ?k1144_1
                                                        case k1144_0 =>
                                                          exact je_int
                                                        case k1144_1 =>
                                                          exact ja_nil
                                                  case k1141_1 =>
                                                    refine' ja_cons ?k1145_0 ?k1145_1
                                                    case k1145_0 =>
                                                      refine' je_tup ?k1146_0
                                                      case k1146_0 =>
                                                        refine' ja_cons ?k1147_0 ?k1147_1
                                                        case k1147_0 =>
                                                          exact je_int
                                                        case k1147_1 =>
                                                          exact ja_nil
                                                    case k1145_1 =>
                                                      exact ja_nil
                                            case k1138_1 =>
                                              refine' ja_cons ?k1148_0 ?k1148_1
                                              case k1148_0 =>
                                                refine' je_tup ?k1149_0
                                                case k1149_0 =>
                                                  refine' ja_cons ?k1150_0 ?k1150_1
                                                  case k1150_0 =>
                                                    exact je_int
                                                  case k1150_1 =>
                                                    refine' ja_cons ?k1151_0 ?k1151_1
                                                    case k1151_0 =>
                                                      refine' je_tup ?k1152_0
                                                      case k1152_0 =>
                                                        refine' ja_cons ?k1153_0 ?k1153_1
                                                        case k1153_0 =>
                                                          exact je_int
                                                        case k1153_1 =>
                                                          refine' ja_cons ?k1154_0 ?k1154_1
                                                          case k1154_0 =>
                                                            exact je_int
                                                          case k1154_1 =>
                                                            exact ja_nil
                                                    case k1151_1 =>
                                                      refine' ja_cons ?k1155_0 ?k1155_1
                                                      case k1155_0 =>
                                                        refine' je_tup ?k1156_0
                                                        case k1156_0 =>
                                                          refine' ja_cons ?k1157_0 ?k1157_1
                                                          case k1157_0 =>
                                                            exact je_int
                                                          case k1157_1 =>
                                                            refine' ja_cons ?k1158_0 ?k1158_1
                                                            case k1158_0 =>
                                                              exact je_int
                                                            case k1158_1 =>
                                                              exact ja_nil
                                                      case k1155_1 =>
                                                        exact ja_nil
                                              case k1148_1 =>
                                                exact ja_nil
                              case k1124_1 =>
                                exact jg_name 12 nd
                              case k1124_2 =>
                                refine' jss_cons ?k1159_0 ?k1159_1
                                case k1159_0 =>
                                  refine' js_if ?k1160_0 ?k1160_1 ?k1160_2
                                  case k1160_0 =>
                                    refine' jb_ne (K := K) hr.units ?k1161_0 ?k1161_1
                                    case k1161_0 =>
                                      refine' jr_of ?k1162_0
                                      case k1162_0 =>
                                        refine' je_told (k := 6) told_st c0 hr ?k1163_0
                                        case k1163_0 =>
                                          intro _ _ _ _ _ _ _ hr
                                          refine' je_callL D_first_later hr ?k1164_0
                                          case k1164_0 =>
                                            refine' ja_cons ?k1165_0 ?k1165_1
                                            case k1165_0 =>
                                              exact je_var 12
                                            case k1165_1 =>
                                              refine' ja_cons ?k1166_0 ?k1166_1
                                              case k1166_0 =>
                                                exact je_non
                                              case k1166_1 =>
                                                exact ja_nil
                                    case k1161_1 =>
                                      refine' jr_of ?k1167_0
                                      case k1167_0 =>
                                        refine' je_tup ?k1168_0
                                        case k1168_0 =>
                                          refine' ja_cons ?k1169_0 ?k1169_1
                                          case k1169_0 =>
                                            exact je_str
                                          case k1169_1 =>
                                            refine' ja_cons ?k1170_0 ?k1170_1
                                            case k1170_0 =>
                                              exact je_str
                                            case k1170_1 =>
                                              exact ja_nil
                                  case k1160_1 =>
                                    refine' jss_one ?k1171_0
                                    case k1171_0 =>
                                      refine' js_ret ?k1172_0
                                      case k1172_0 =>
                                        exact je_bl
                                  case k1160_2 =>
                                    exact jss_nil
                                case k1159_1 =>
                                  refine' jss_one ?k1173_0
                                  case k1173_0 =>
                                    refine' js_if ?k1174_0 ?k1174_1 ?k1174_2
                                    case k1174_0 =>
                                      refine' jb_ne (K := K) hr.units ?k1175_0 ?k1175_1
                                      case k1175_0 =>
                                        refine' jr_of ?k1176_0
                                        case k1176_0 =>
                                          refine' je_told (k := 6) told_st c0 hr ?k1177_0
                                          case k1177_0 =>
                                            intro _ _ _ _ _ _ _ hr
                                            refine' je_callL D_first_difference hr ?k1178_0
                                            case k1178_0 =>
                                              refine' ja_cons ?k1179_0 ?k1179_1
                                              case k1179_0 =>
                                                exact je_var 2
                                              case k1179_1 =>
                                                refine' ja_cons ?k1180_0 ?k1180_1
                                                case k1180_0 =>
                                                  exact je_var 12
                                                case k1180_1 =>
                                                  exact ja_nil
                                      case k1175_1 =>
                                        refine' jr_of ?k1181_0
                                        case k1181_0 =>
                                          refine' je_tup ?k1182_0
                                          case k1182_0 =>
                                            refine' ja_cons ?k1183_0 ?k1183_1
                                            case k1183_0 =>
                                              exact je_str
                                            case k1183_1 =>
                                              refine' ja_cons ?k1184_0 ?k1184_1
                                              case k1184_0 =>
                                                exact je_str
                                              case k1184_1 =>
                                                exact ja_nil
                                    case k1174_1 =>
                                      refine' jss_one ?k1185_0
                                      case k1185_0 =>
                                        refine' js_ret ?k1186_0
                                        case k1186_0 =>
                                          exact je_bl
                                    case k1174_2 =>
                                      exact jss_nil

    obtain ⟨t, j⟩ := j
    refine ⟨tLawS K lawN.length 4 t, ?_, law_run (by decide) (by decide) (fun B hB => (j B hB).v) rk h⟩
    refine pss_cons (ps_for pass_own rfl (pi_seq (pe_call F2 (hr.mono (by decide)) rfl hm2 hk2 hb2 .nil pass0 (pa_cons (pv 0) (pa_cons pe_int pa_nil)))) (pg_name (i := 1) nd rfl (by first | exact Or.inl rfl | exact Or.inr rfl)) ?_) (pss_one (ps_ret pe_bl))
    exact pss_ln (j ⟨H, H, [], [(Pt, lamQ)], []⟩ rfl).p

end Rn
end

section
set_option Elab.async false
set_option linter.all false
set_option maxRecDepth 100000
/-! Math0: comprehensions and loops without effects. -/
namespace Rn
open PySem PySem.Spec L2
/-! ### what the parts do, each applied to its environment -/
section
variable {α β : Type}
theorem ev_bnd (x : M α) (k : α → M β) (r : Rho) : bnd x k r = (match x r with | .ok a r => k a r | .ex c r => .ex c r | .no => .no) := rfl
theorem ev_ret (a : α) (r : Rho) : ret a r = .ok a r := rfl
theorem ev_lfS (a : α) (r : Rho) : lft (some a) r = .ok a r := rfl
theorem ev_lfN (r : Rho) : lft (none : Option α) r = .no := rfl
theorem ev_stk (r : Rho) : (stuck : M α) r = .no := rfl
theorem ev_vr (i : Nat) (r : Rho) : mVar i r = (match r[i]? with | some (.fz d) => .ok d r | some (.ow d) => .ok d (r.set i (.fz d)) | _ => .no) := rfl
theorem ev_vrT (i : Nat) (r : Rho) : mVarT i r = (match cellD r[i]? with | some _ => .ok (.s i) r | none => .no) := rfl
theorem ev_mT (f : M D) (r : Rho) : mT f r = bnd f (fun d => ret (.d d)) r := rfl
theorem ev_cF (d : D) : cellD (some (.fz d)) = some d := rfl
theorem ev_cO (d : D) : cellD (some (.ow d)) = some d := rfl
theorem ev_cB (d : D) : cellD (some (.bw d)) = some d := rfl
theorem ev_dd (r : Rho) (d : D) : deref r (.d d) = some d := rfl
theorem ev_ds (r : Rho) (i : Nat) : deref r (.s i) = cellD r[i]? := rfl
theorem ev_d0 (r : Rho) : derefs r [] = some [] := rfl
theorem ev_dc (r : Rho) (t : TV) (ts : List TV) : derefs r (t :: ts) = (match deref r t, derefs r ts with | some d, some ds => some (d :: ds) | _, _ => none) := rfl
theorem ev_opr (f : D → D → Option D) (a b : M TV) (r : Rho) : mOp f a b r = bnd a (fun x => bnd b fun y => fun ρ => match deref ρ x, deref ρ y with | some d, some e => lft (f d e) ρ | _, _ => .no) r := rfl
theorem ev_unr (f : D → Option D) (a : M TV) (r : Rho) : mUn f a r = bnd a (fun x => fun ρ => match deref ρ x with | some d => lft (f d) ρ | _ => .no) r := rfl
theorem ev_nl (r : Rho) : (mNil : M (List α)) r = .ok [] r := rfl
theorem ev_cns (a : M α) (b : M (List α)) (r : Rho) : mCons a b r = bnd a (fun x => bnd b fun xs => ret (x :: xs)) r := rfl
theorem ev_cbr (f : List D → Option D) (a : M (List TV)) (r : Rho) : mCB f a r = bnd a (fun xs => fun ρ => match derefs ρ xs with | some ds => lft (f ds) ρ | none => .no) r := rfl
theorem ev_ab (b : Bool) : asBool (.bool b) = some b := rfl
theorem ev_ai (b : Int) : asInt (.int b) = some b := rfl
theorem ev_tst' (f : M D) (r : Rho) : mTst f r = bnd f (fun d => lft (asBool d)) r := rfl
theorem ev_an (a b : M Bool) (r : Rho) : mAnd a b r = (match a r with | .ok true r => b r | .ok false r => .ok false r | .ex c r => .ex c r | .no => .no) := by
  unfold mAnd bnd
  cases a r with
  | ok x r => cases x <;> rfl
  | ex c r => rfl
  | no => rfl
theorem ev_orr (a b : M Bool) (r : Rho) : mOr a b r = (match a r with | .ok true r => .ok true r | .ok false r => b r | .ex c r => .ex c r | .no => .no) := by
  unfold mOr bnd
  cases a r with
  | ok x r => cases x <;> rfl
  | ex c r => rfl
  | no => rfl
theorem ev_nt (a : M Bool) (r : Rho) : mNot a r = bnd a (fun x => ret (!x)) r := rfl
theorem ev_anV (a b : M D) (r : Rho) : mAndV a b r = bnd a (fun x => match asBool x with | some true => b | some false => ret (.bool false) | none => stuck) r := rfl
theorem ev_orV' (a b : M D) (r : Rho) : mOrV a b r = bnd a (fun x => match asBool x with | some true => ret (.bool true) | some false => b | none => stuck) r := rfl
theorem ev_ntV (a : M D) (r : Rho) : mNotV a r = bnd a (fun x => match asBool x with | some b => ret (.bool (!b)) | none => stuck) r := rfl
theorem ev_ifm (c : M Bool) (a b : M α) (r : Rho) : mIf c a b r = (match c r with | .ok true r => a r | .ok false r => b r | .ex c r => .ex c r | .no => .no) := by
  unfold mIf bnd
  cases c r with
  | ok x r => cases x <;> rfl
  | ex c r => rfl
  | no => rfl
theorem ev_ch (f g : D → D → Option D) (a b c : M TV) (r : Rho) : mChain f g a b c r = bnd a (fun x => bnd b fun y => fun ρ => match deref ρ x, deref ρ y with
  | some d, some e => (match (f d e).bind asBool with
    | some true => bnd c (fun z => fun ρ => match deref ρ y, deref ρ z with
      | some e, some k => lft (g e k) ρ
      | _, _ => .no) ρ
    | some false => .ok (.bool false) ρ
    | none => .no)
  | _, _ => .no) r := rfl
theorem ev_tp (a : M (List D)) (r : Rho) : mTup a r = bnd a (fun ds => fun ρ => if ds.length ≤ 100 then .ok (.tuple ds) ρ else .no) r := rfl
theorem ev_ls (a : M (List D)) (r : Rho) : mLst a r = bnd a (fun ds => fun ρ => if ds.length ≤ 100 then .ok (.list ds) ρ else .no) r := rfl
theorem ev_cl (g : List D → RR) (a : M (List D)) (r : Rho) : mCall g a r = bnd a (fun ds => fun ρ => match g ds with | .ok d => .ok d ρ | .fr d => .ok d ρ | .ex c => .ex c ρ | .no => .no) r := rfl
theorem ev_cl0 (g : List D → RR) (a : M (List D)) (r : Rho) : mCall0 g a r = bnd a (fun ds => fun ρ => match g ds with | .ok d => .ok d ρ | .fr d => .ok d ρ | _ => .no) r := rfl
theorem ev_isr (p : String → Bool) (a : M TV) (r : Rho) : mIsi p a r = bnd a (fun x => fun ρ => match deref ρ x with | some d => .ok (.bool (p (tyName d))) ρ | none => .no) r := rfl
theorem ev_sqI (f : M D) (r : Rho) : mSeqI f r = bnd f (fun d => lft (seqD d)) r := rfl
theorem ev_lc' (fi : M (List D)) (h : D → Rho → Option Rho) (ft : M Bool) (fe : M D) (vs : List Nat) (r : Rho) : mLc fi h ft fe vs r = bnd fi (fun items => fun ρ => if items.length ≤ big then (match lcGo h ft fe vs items (wipeR ρ vs) with | .ok xs ρ1 => .ok (.list xs) (restR ρ ρ1 vs) | _ => .no) else .no) r := rfl
theorem ev_g0 (h : D → Rho → Option Rho) (ft : M Bool) (fe : M D) (vs : List Nat) (r : Rho) : lcGo h ft fe vs [] r = .ok [] r := rfl
theorem ev_gc (h : D → Rho → Option Rho) (ft : M Bool) (fe : M D) (vs : List Nat) (d : D) (ds : List D) (r : Rho) : lcGo h ft fe vs (d :: ds) r = (match h d r with
    | none => .no
    | some ρ1 => match ft ρ1 with
      | .ok true ρ2 => (match fe ρ2 with
        | .ok x ρ3 => (match lcGo h ft fe vs ds (wipeR ρ3 vs) with
          | .ok xs ρ4 => .ok (x :: xs) ρ4
          | _ => .no)
        | _ => .no)
      | .ok false ρ2 => lcGo h ft fe vs ds (wipeR ρ2 vs)
      | _ => .no) := rfl
theorem ev_y (r : Rho) : mYes r = .ok true r := rfl
theorem ev_fo0 (h : D → Rho → Option Rho) (b : S) (r : Rho) : forGo h b [] r = .nx r := rfl
theorem ev_foc (h : D → Rho → Option Rho) (b : S) (d : D) (ds : List D) (r : Rho) : forGo h b (d :: ds) r = (match h d r with
    | none => .no
    | some ρ1 => match b ρ1 with
      | .nx ρ2 => forGo h b ds ρ2
      | .ct ρ2 => forGo h b ds ρ2
      | .bk ρ2 => .nx ρ2
      | o => o) := rfl
theorem ev_app (i : Nat) (f : M D) (r : Rho) : sAppend i f r = (match cellD r[i]? with
    | some (.list _) => sBind f (fun d => fun ρ => match appendD ρ i d with
      | some r => .nx r
      | none => .no) r
    | _ => .no) := rfl
theorem ev_enm (f : M (List D)) (r : Rho) : mEnum f r = bnd f (fun ds => match ds with | [d] => lft ((seqD d).map (enumD 0)) | _ => stuck) r := rfl
theorem ev_rn1 (f : M (List D)) (r : Rho) : mRng1 f r = bnd f (fun ds => match ds with | [.int j] => if j ≤ 1000000 ∧ -1000000 ≤ j then ret (rangeD 0 j.toNat) else stuck | _ => stuck) r := rfl
theorem ev_rn2 (f : M (List D)) (r : Rho) : mRng2 f r = bnd f (fun ds => match ds with | [.int i, .int j] => if (j ≤ 1000000 ∧ -1000000 ≤ j) ∧ (i ≤ 1000000 ∧ -1000000 ≤ i) then ret (rangeD i (j - i).toNat) else stuck | _ => stuck) r := rfl
theorem ev_rs (c : Str) (r : Rho) : sRaise c r = .ex c r := rfl
theorem ev_all0 : allF [.list []] = some (.bool true) := rfl
theorem ev_sqL (ds : List D) : seqD (.list ds) = some ds := rfl
theorem ev_sqT (ds : List D) : seqD (.tuple ds) = some ds := rfl
theorem ev_sb (f : M α) (k : α → S) (r : Rho) : sBind f k r = (match f r with | .ok a r => k a r | .ex c r => .ex c r | .no => .no) := rfl
theorem ev_ss (f g : S) (r : Rho) : sSeq f g r = (match f r with | .nx r => g r | o => o) := rfl
theorem ev_sn (r : Rho) : sNext r = .nx r := rfl
theorem ev_sa (f : M D) (h : D → Rho → Option Rho) (r : Rho) : sAsg f h r = sBind f (fun d => fun ρ => match h d ρ with | some r => .nx r | none => .no) r := rfl
theorem ev_so (f : M D) (i : Nat) (r : Rho) : sOwn f i r = sBind f (fun d => fun ρ => .nx (ρ.set i (.ow d))) r := rfl
theorem ev_sr (f : M D) (r : Rho) : sRet f r = sBind f (fun d => fun ρ => .rt d ρ) r := rfl
theorem ev_sdr (f : M D) (r : Rho) : sDrop f r = sBind f (fun _ => sNext) r := rfl
theorem ev_si (c : M Bool) (f g : S) (r : Rho) : sIf c f g r = (match c r with | .ok true r => f r | .ok false r => g r | .ex c r => .ex c r | .no => .no) := by
  unfold sIf sBind
  cases c r with
  | ok x r => cases x <;> rfl
  | ex c r => rfl
  | no => rfl
theorem ev_sp (ms : List Bool) (is : List Nat) (f : M (List D)) (r : Rho) : sPar ms is f r = sBind f (fun ds => fun ρ => match parSet ms is ds ρ with | some r => .nx r | none => .no) r := rfl
theorem ev_p0 (r : Rho) : parSet [] [] [] r = some r := rfl
theorem ev_pF (ms : List Bool) (i : Nat) (is : List Nat) (d : D) (ds : List D) (r : Rho) : parSet (false :: ms) (i :: is) (d :: ds) r = parSet ms is ds (r.set i (.fz d)) := rfl
theorem ev_pT (ms : List Bool) (i : Nat) (is : List Nat) (d : D) (ds : List D) (r : Rho) : parSet (true :: ms) (i :: is) (d :: ds) r = parSet ms is ds (r.set i (.ow d)) := rfl
theorem ev_sf (fi : M (List D)) (h : D → Rho → Option Rho) (b : S) (r : Rho) : sFor fi h b r = sBind fi (fun items => forGo h b items) r := rfl
theorem ev_hn (i : Nat) (d : D) (r : Rho) : hName i d r = some (r.set i (.fz d)) := rfl
theorem ev_ht (n : Nat) (hs : List D → Rho → Option Rho) (ds : List D) (r : Rho) : hTup n hs (.tuple ds) r = (if ds.length = n then hs ds r else none) := rfl
theorem ev_hc (a : D → Rho → Option Rho) (b : List D → Rho → Option Rho) (d : D) (ds : List D) (r : Rho) : hCons a b (d :: ds) r = (a d r).bind (b ds) := rfl
theorem ev_h0 (r : Rho) : hNil [] r = some r := rfl
theorem ev_cal (np n : Nat) (b : S) (ds : List D) : callD np n b ds = (if ds.length = np then finO (b (ds.map Cell.fz ++ List.replicate (n - ds.length) Cell.no)) else .no) := rfl
theorem ev_f1 (r : Rho) : finO (.nx r) = .ok .none := rfl
theorem ev_f2 (d : D) (r : Rho) : finO (.rt d r) = .ok d := rfl
theorem ev_f3 (c : Str) (r : Rho) : finO (.ex c r) = .ex c := rfl
theorem ev_f4 (d : D) (r : Rho) : finO (.rf d r) = .fr d := rfl
theorem ev_cmp (p : Int → Int → Bool) (i j : Int) : cmpI p (.int i) (.int j) = some (.bool (p i j)) := rfl
theorem ev_add (i j : Int) : addF (.int i) (.int j) = some (.int (i + j)) := rfl
theorem ev_sub (i j : Int) : subF (.int i) (.int j) = some (.int (i - j)) := rfl
theorem ev_mod (i j : Int) : modF (.int i) (.int j) = (if 0 < j then some (.int (i % j)) else none) := rfl
theorem ev_fdv (i j : Int) : fdivF (.int i) (.int j) = (if 0 < j ∧ j.natAbs < 2 ^ 400 then some (.int (i / j)) else none) := rfl
theorem ev_mul (i j : Int) (h : (isSmall i || isSmall j) = true) : mulF (.int i) (.int j) = some (.int (i * j)) := by
  show (if (isSmall i || isSmall j) = true then some (PyData.int (i * j)) else _) = _
  rw [if_pos h]
theorem ev_isn (b : Bool) (d : D) : isF b d .none = some (.bool (if b then !isNoneD d else isNoneD d)) := by cases d <;> rfl
theorem ev_n1 : isNoneD .none = true := rfl
theorem ev_n2 (ds : List D) : isNoneD (.tuple ds) = false := rfl
theorem ev_n3 (ds : List D) : isNoneD (.list ds) = false := rfl
theorem ev_n4 (i : Int) : isNoneD (.int i) = false := rfl
theorem ev_ixL (ds : List D) (i : Int) : ixF (.list ds) (.int i) = atI ds i := rfl
theorem ev_ixT (ds : List D) (i : Int) : ixF (.tuple ds) (.int i) = atI ds i := rfl
theorem ev_an' (xs : List α) (n : Nat) (x : α) (h : xs[n]? = some x) : atI xs (n : Int) = some x := by
  have hl := (List.getElem?_eq_some_iff.mp h).1
  have h1 : (0 : Int) ≤ (n : Int) := by omega
  have h2 : ((n : Int) < (xs.length : Int)) := by omega
  unfold atI ixN
  rw [if_pos h1, if_pos h2]
  show xs[(n : Int).toNat]? = some x
  rw [Int.toNat_natCast]
  exact h
theorem ev_a0 (x : α) (xs : List α) : atI (x :: xs) 0 = some x := ev_an' _ 0 _ rfl
theorem ev_a1 (x y : α) (xs : List α) : atI (x :: y :: xs) 1 = some y := ev_an' _ 1 _ rfl
theorem ev_a2 (x y z : α) (xs : List α) : atI (x :: y :: z :: xs) 2 = some z := ev_an' _ 2 _ rfl
theorem ev_lL (ds : List D) : lenF [.list ds] = some (.int ds.length) := rfl
theorem ev_lT (ds : List D) : lenF [.tuple ds] = some (.int ds.length) := rfl
theorem ev_tL (ds : List D) : tupleF [.list ds] = some (.tuple ds) := rfl
theorem ev_tT (ds : List D) : tupleF [.tuple ds] = some (.tuple ds) := rfl
theorem ev_liT (ds : List D) : listF [.tuple ds] = some (.list ds) := rfl
theorem ev_abs (i : Int) : absF [.int i] = some (.int (if i < 0 then -i else i)) := rfl
theorem ev_mx (i j : Int) : max2F [.int i, .int j] = some (.int (if j > i then j else i)) := rfl
theorem ev_mn (i j : Int) : min2F [.int i, .int j] = some (.int (if j < i then j else i)) := rfl
theorem ev_mx3 (i j k : Int) : max3F [.int i, .int j, .int k] = some (.int (if (if j > i then j else i) < k then k else (if j > i then j else i))) := rfl
theorem ev_t1 (i : Int) : tyName (.int i) = "int" := rfl
theorem ev_t2 (ds : List D) : tyName (.tuple ds) = "tuple" := rfl
theorem ev_t3 (i : Str) : tyName (.str i) = "str" := rfl
theorem ev_eqI (a b : Int) : eqF (.int a) (.int b) = some (.bool (decide (a = b))) := by
  have e : dOk (.int a) (.int b) = true := rfl
  unfold eqF
  rw [if_pos e]
  have : PyData.eqv (.int a) (.int b) = decide (a = b) := by
    unfold PyData.eqv
    by_cases h : a = b <;> simp [h]
  rw [this]
theorem ev_neI (a b : Int) : neF (.int a) (.int b) = some (.bool (!decide (a = b))) := by
  have e : dOk (.int a) (.int b) = true := rfl
  unfold neF
  rw [if_pos e]
  have : PyData.eqv (.int a) (.int b) = decide (a = b) := by
    unfold PyData.eqv
    by_cases h : a = b <;> simp [h]
  rw [this]
end
theorem lc_pure {h : D → Rho → Option Rho} {ft : M Bool} {fe : M D} {vs : List Nat} {t : D → Bool} {g : D → D} {rw : Rho} : ∀ items : List D, (∀ d ∈ items, ∃ r1, h d rw = some r1 ∧ ft r1 = .ok (t d) r1 ∧ (t d = true → fe r1 = .ok (g d) r1) ∧ wipeR r1 vs = rw) →
    lcGo h ft fe vs items rw = .ok ((items.filter t).map g) rw
  | [], _ => rfl
  | d :: ds, H => by
    obtain ⟨r1, e1, e2, e3, e4⟩ := H d (List.mem_cons_self ..)
    have ih := lc_pure ds fun x hx => H x (List.mem_cons_of_mem _ hx)
    unfold lcGo
    rw [e1]
    simp only [e2]
    cases et : t d with
    | true =>
      rw [et] at e3
      simp only [e3 rfl, e4, ih, List.filter_cons_of_pos et, List.map_cons]
    | false =>
      simp only [e4, ih]
      rw [List.filter_cons_of_neg (by rw [et]; decide)]
theorem mlc_pure {fi : M (List D)} {h : D → Rho → Option Rho} {ft : M Bool} {fe : M D} {vs : List Nat} {t : D → Bool} {g : D → D} {ρ : Rho} {items : List D} (hi : fi ρ = .ok items ρ) (hl : items.length ≤ big) (hr : restR ρ (wipeR ρ vs) vs = ρ)
    (H : ∀ d ∈ items, ∃ r1, h d (wipeR ρ vs) = some r1 ∧ ft r1 = .ok (t d) r1 ∧ (t d = true → fe r1 = .ok (g d) r1) ∧ wipeR r1 vs = wipeR ρ vs) :
    mLc fi h ft fe vs ρ = .ok (.list ((items.filter t).map g)) ρ := by
  unfold mLc bnd
  rw [hi]
  simp only [if_pos hl, lc_pure items H, hr]
/-- a loop whose body does x to one slot -/
theorem for_fold {α : Type} {h : D → Rho → Option Rho} {b : S} (st : α → Rho) (f : α → D → α) : ∀ (items : List D) (a : α), (∀ a d, d ∈ items → ∃ r, h d (st a) = some r ∧ (b r = .nx (st (f a d)) ∨ b r = .ct (st (f a d)))) → forGo h b items (st a) = .nx (st (items.foldl f a))
  | [], _, _ => rfl
  | d :: ds, a, H => by
    obtain ⟨r, e1, e2⟩ := H a d (List.mem_cons_self ..)
    have ih := for_fold st f ds (f a d) fun a x hx => H a x (List.mem_cons_of_mem _ hx)
    unfold forGo
    rw [e1]
    rcases e2 with e2 | e2
    · simp only [e2, ih, List.foldl_cons]
    · simp only [e2, ih, List.foldl_cons]
end Rn
end

section
set_option Elab.async false
set_option linter.all false
set_option autoImplicit false
set_option maxRecDepth 100000
/-! MathW: typed data, equality, rules for comprehensions and loops. -/
namespace Rn
open PySem PySem.Spec L2

/-! ### encodings -/
structure Good {α : Type} [DecidableEq α] (k : Nat) (e : α → D) : Prop where
  plain : ∀ a, (e a).plain = true
  depth : ∀ a, (e a).depth ≤ k
  eqv : ∀ a b, PyData.eqv (e a) (e b) = decide (a = b)
def oD : Option Int → D
  | none => .none
  | some i => .int i
section
variable {α β γ : Type} [DecidableEq α] [DecidableEq β] [DecidableEq γ]
theorem good_int : Good 0 PyData.int := ⟨fun _ => rfl, fun _ => Nat.le_refl _, fun a b => by
  show (a == b) = _
  by_cases h : a = b <;> simp [h]⟩
theorem good_nat : Good 0 (fun n : Nat => PyData.int (n : Int)) := ⟨fun _ => rfl, fun _ => Nat.le_refl _, fun a b => by
  show ((a : Int) == (b : Int)) = _
  by_cases h : a = b
  · simp [h]
  · have : ¬ ((a : Int) = (b : Int)) := by omega
    simp [h, this]⟩
theorem good_str : Good 0 PyData.str := ⟨fun _ => rfl, fun _ => Nat.le_refl _, fun a b => by
  show (a == b) = _
  by_cases h : a = b <;> simp [h]⟩
theorem good_bool : Good 0 PyData.bool := ⟨fun _ => rfl, fun _ => Nat.le_refl _, fun a b => by
  show (a == b) = _
  by_cases h : a = b <;> simp [h]⟩
theorem good_o : Good 0 oD := ⟨fun a => by cases a <;> rfl, fun a => by cases a <;> exact Nat.le_refl _, fun a b => by
  cases a <;> cases b
  · rfl
  · rfl
  · rfl
  · rename_i a b
    show (a == b) = _
    by_cases h : a = b <;> simp [h]⟩
theorem Good.mono {k l : Nat} {e : α → D} (h : Good k e) (hl : k ≤ l) : Good l e := ⟨h.plain, fun a => Nat.le_trans (h.depth a) hl, h.eqv⟩
theorem Good.plainAll {k : Nat} {e : α → D} (h : Good k e) : ∀ xs : List α, PyData.plainAll (xs.map e) = true
  | [] => by simp [PyData.plainAll]
  | x :: xs => by simp [PyData.plainAll, h.plain x, h.plainAll xs]
theorem Good.depthAll {k : Nat} {e : α → D} (h : Good k e) : ∀ xs : List α, PyData.depthAll (xs.map e) ≤ k
  | [] => by simp [PyData.depthAll]
  | x :: xs => by
    simp only [List.map_cons, PyData.depthAll]
    exact Nat.max_le.mpr ⟨h.depth x, h.depthAll xs⟩
theorem Good.eqvAll {k : Nat} {e : α → D} (h : Good k e) : ∀ xs ys : List α, PyData.eqvAll (xs.map e) (ys.map e) = decide (xs = ys)
  | [], [] => by simp [PyData.eqvAll]
  | [], _ :: _ => by simp [PyData.eqvAll]
  | _ :: _, [] => by simp [PyData.eqvAll]
  | x :: xs, y :: ys => by
    simp only [List.map_cons, PyData.eqvAll, h.eqv, h.eqvAll xs ys]
    by_cases h1 : x = y <;> by_cases h2 : xs = ys <;> simp [h1, h2]
theorem Good.list {k : Nat} {e : α → D} (h : Good k e) : Good (k + 1) (fun xs : List α => PyData.list (xs.map e)) :=
  ⟨fun xs => by simp only [PyData.plain]; exact h.plainAll xs, fun xs => by simp only [PyData.depth]; exact Nat.succ_le_succ (h.depthAll xs), fun xs ys => by simp only [PyData.eqv]; exact h.eqvAll xs ys⟩
theorem Good.tup {k : Nat} {e : α → D} (h : Good k e) : Good (k + 1) (fun xs : List α => PyData.tuple (xs.map e)) :=
  ⟨fun xs => by simp only [PyData.plain]; exact h.plainAll xs, fun xs => by simp only [PyData.depth]; exact Nat.succ_le_succ (h.depthAll xs), fun xs ys => by simp only [PyData.eqv]; exact h.eqvAll xs ys⟩
theorem Good.pair {k : Nat} {e : α → D} {f : β → D} (h : Good k e) (g : Good k f) : Good (k + 1) (fun p : α × β => PyData.tuple [e p.1, f p.2]) :=
  ⟨fun p => by simp [PyData.plain, PyData.plainAll, h.plain, g.plain], fun p => by
    simp only [PyData.depth, PyData.depthAll]
    have := h.depth p.1
    have := g.depth p.2
    omega, fun p q => by
    obtain ⟨a, b⟩ := p
    obtain ⟨c, d⟩ := q
    simp only [PyData.eqv, PyData.eqvAll, h.eqv, g.eqv, Prod.mk.injEq, Bool.and_true]
    by_cases h1 : a = c <;> by_cases h2 : b = d <;> simp [h1, h2]⟩
theorem Good.trip {k : Nat} {e : α → D} {f : β → D} {g : γ → D} (h : Good k e) (i : Good k f) (j : Good k g) : Good (k + 1) (fun p : α × β × γ => PyData.tuple [e p.1, f p.2.1, g p.2.2]) :=
  ⟨fun p => by simp [PyData.plain, PyData.plainAll, h.plain, i.plain, j.plain], fun p => by
    simp only [PyData.depth, PyData.depthAll]
    have := h.depth p.1
    have := i.depth p.2.1
    have := j.depth p.2.2
    omega, fun p q => by
    obtain ⟨a, b, x⟩ := p
    obtain ⟨c, d, y⟩ := q
    simp only [PyData.eqv, PyData.eqvAll, h.eqv, i.eqv, j.eqv, Prod.mk.injEq, Bool.and_true]
    by_cases h1 : a = c <;> by_cases h2 : b = d <;> by_cases h3 : x = y <;> simp [h1, h2, h3]⟩
theorem Good.ok {k : Nat} {e : α → D} (h : Good k e) (hk : k ≤ 64) (a b : α) : dOk (e a) (e b) = true := by
  unfold dOk
  have := h.depth a
  simp only [h.plain, Bool.and_self, Bool.true_and, decide_eq_true_eq]
  omega
theorem Good.eqF {k : Nat} {e : α → D} (h : Good k e) (a b : α) (hk : k ≤ 64 := by decide) : eqF (e a) (e b) = some (.bool (decide (a = b))) := by
  unfold Rn.eqF
  rw [if_pos (h.ok hk a b), h.eqv]
theorem Good.neF {k : Nat} {e : α → D} (h : Good k e) (a b : α) (hk : k ≤ 64 := by decide) : neF (e a) (e b) = some (.bool (!decide (a = b))) := by
  unfold Rn.neF
  rw [if_pos (h.ok hk a b), h.eqv]
end
theorem eqF_o (a b : Option Int) : eqF (oD a) (oD b) = some (.bool (decide (a = b))) := good_o.eqF a b
theorem neF_o (a b : Option Int) : neF (oD a) (oD b) = some (.bool (!decide (a = b))) := good_o.neF a b
theorem eqF_b (a b : Bool) : eqF (.bool a) (.bool b) = some (.bool (decide (a = b))) := good_bool.eqF a b
theorem neF_b (a b : Bool) : neF (.bool a) (.bool b) = some (.bool (!decide (a = b))) := good_bool.neF a b
theorem eqF_s (a b : Str) : eqF (.str a) (.str b) = some (.bool (decide (a = b))) := good_str.eqF a b
theorem neF_s (a b : Str) : neF (.str a) (.str b) = some (.bool (!decide (a = b))) := good_str.neF a b
theorem isN_o (a : Option Int) : isNoneD (oD a) = a.isNone := by cases a <;> rfl

/-! ### lists and tuples -/
inductive SqD : D → List D → Prop
  | l {ds} : SqD (.list ds) ds
  | t {ds} : SqD (.tuple ds) ds
theorem SqD.ix {R : D} {ds : List D} (h : SqD R ds) (i : Int) : ixF R (.int i) = atI ds i := by cases h <;> rfl
theorem SqD.len {R : D} {ds : List D} (h : SqD R ds) : lenF [R] = some (.int ds.length) := by cases h <;> rfl
theorem SqD.seq {R : D} {ds : List D} (h : SqD R ds) : seqD R = some ds := by cases h <;> rfl
theorem SqD.tup {R : D} {ds : List D} (h : SqD R ds) : tupleF [R] = some (.tuple ds) := by cases h <;> rfl
theorem SqD.lst {R : D} {ds : List D} (h : SqD R ds) : listF [R] = some (.list ds) := by cases h <;> rfl
theorem SqD.none {R : D} {ds : List D} (h : SqD R ds) : isNoneD R = false := by cases h <;> rfl
theorem atN {α : Type} {xs : List α} {i : Int} {n : Nat} (e : i = n) {x : α} (h : xs[n]? = some x) : atI xs i = some x := by subst e; exact ev_an' xs n x h
theorem atMap {α : Type} (e : α → D) (xs : List α) {i : Int} {n : Nat} (ei : i = n) (h : n < xs.length) : atI (xs.map e) i = some (e xs[n]) := atN ei (by simp [h])
theorem atLast {α : Type} {xs : List α} {x : α} (h : xs.getLast? = some x) : atI xs (-1) = some x := by
  have hne : xs ≠ [] := by intro z; subst z; cases h
  have hl : 0 < xs.length := List.length_pos_iff.mpr hne
  have e : xs[xs.length - 1]? = some x := by rw [← List.getLast?_eq_getElem?]; exact h
  unfold atI ixN
  have h1 : ¬ ((0 : Int) ≤ -1) := by decide
  rw [if_neg h1]
  have h2 : -((xs.length : Nat) : Int) ≤ -1 := by omega
  rw [if_pos h2]
  show xs[((xs.length : Int) + -1).toNat]? = some x
  rw [show ((xs.length : Int) + -1).toNat = xs.length - 1 by omega]
  exact e
theorem rangeD_map (lo : Int) (n : Nat) : rangeD lo n = (List.range n).map fun k : Nat => PyData.int (lo + (k : Int)) := rfl

/-! ### comprehensions -/
theorem mlc_map {α : Type} {fi : M (List D)} {h : D → Rho → Option Rho} {ft : M Bool} {fe : M D} {vs : List Nat} {ρ : Rho} (xs : List α) (e : α → D) (t : α → Bool) (g : α → D) (hi : fi ρ = .ok (xs.map e) ρ) (hl : xs.length ≤ big) (hr : restR ρ (wipeR ρ vs) vs = ρ)
    (H : ∀ x ∈ xs, ∃ r1, h (e x) (wipeR ρ vs) = some r1 ∧ ft r1 = .ok (t x) r1 ∧ (t x = true → fe r1 = .ok (g x) r1) ∧ wipeR r1 vs = wipeR ρ vs) : mLc fi h ft fe vs ρ = .ok (.list ((xs.filter t).map g)) ρ := by
  have go : ∀ ys : List α, (∀ y ∈ ys, y ∈ xs) → lcGo h ft fe vs (ys.map e) (wipeR ρ vs) = .ok ((ys.filter t).map g) (wipeR ρ vs) := by
    intro ys
    induction ys with
    | nil => intro _; rfl
    | cons y ys ih =>
      intro hy
      obtain ⟨r1, e1, e2, e3, e4⟩ := H y (hy y (List.mem_cons_self ..))
      have ih := ih fun z hz => hy z (List.mem_cons_of_mem _ hz)
      rw [List.map_cons]
      unfold lcGo
      rw [e1]
      simp only [e2]
      cases et : t y with
      | true => simp only [e3 et, e4, ih, List.filter_cons_of_pos et, List.map_cons]
      | false =>
        simp only [e4, ih]
        rw [List.filter_cons_of_neg (by rw [et]; decide)]
  unfold mLc bnd
  rw [hi]
  simp only [List.length_map, if_pos hl, go xs (fun _ h => h), hr]
theorem mlc_map0 {α : Type} {fi : M (List D)} {h : D → Rho → Option Rho} {fe : M D} {vs : List Nat} {ρ : Rho} (xs : List α) (e : α → D) (g : α → D) (hi : fi ρ = .ok (xs.map e) ρ) (hl : xs.length ≤ big) (hr : restR ρ (wipeR ρ vs) vs = ρ)
    (H : ∀ x ∈ xs, ∃ r1, h (e x) (wipeR ρ vs) = some r1 ∧ fe r1 = .ok (g x) r1 ∧ wipeR r1 vs = wipeR ρ vs) : mLc fi h mYes fe vs ρ = .ok (.list (xs.map g)) ρ := by
  rw [mlc_map xs e (fun _ => true) g hi hl hr (fun x hx => by obtain ⟨r1, a, b, c⟩ := H x hx; exact ⟨r1, a, rfl, fun _ => b, c⟩)]
  rw [List.filter_eq_self.mpr (fun _ _ => rfl)]
/-- a comprehension whose element changes the environment -/
theorem mlc_st {fi : M (List D)} {h : D → Rho → Option Rho} {fe : M D} {vs : List Nat} {ρ ρ1 : Rho} {items xs : List D} (hi : fi ρ = .ok items ρ) (hl : items.length ≤ big) (go : lcGo h mYes fe vs items (wipeR ρ vs) = .ok xs ρ1) : mLc fi h mYes fe vs ρ = .ok (.list xs) (restR ρ ρ1 vs) := by
  unfold mLc bnd
  rw [hi]
  simp only [if_pos hl, go]
theorem lcgo_nil {h : D → Rho → Option Rho} {ft : M Bool} {fe : M D} {vs : List Nat} {ρ : Rho} : lcGo h ft fe vs [] ρ = .ok [] ρ := rfl
theorem lcgo_cons {h : D → Rho → Option Rho} {fe : M D} {vs : List Nat} {ρ ρ1 ρ2 ρ3 : Rho} {d x : D} {ds xs : List D} (h1 : h d ρ = some ρ1) (h2 : fe ρ1 = .ok x ρ2) (h3 : lcGo h mYes fe vs ds (wipeR ρ2 vs) = .ok xs ρ3) : lcGo h mYes fe vs (d :: ds) ρ = .ok (x :: xs) ρ3 := by
  unfold lcGo
  rw [h1]
  simp only [ev_y, h2, h3]

/-! ### for -/
/-- a loop that goes on, by an invariant over what has been passed -/
theorem for_inv {α : Type} {h : D → Rho → Option Rho} {b : S} (e : α → D) (I : List α → Rho → Prop) (xs : List α) {ρ0 : Rho} (h0 : I [] ρ0)
    (step : ∀ pre x post, xs = pre ++ x :: post → ∀ ρ, I pre ρ → ∃ r1 r2, h (e x) ρ = some r1 ∧ (b r1 = .nx r2 ∨ b r1 = .ct r2) ∧ I (pre ++ [x]) r2) : ∃ r, forGo h b (xs.map e) ρ0 = .nx r ∧ I xs r := by
  have go : ∀ (post pre : List α) (ρ : Rho), xs = pre ++ post → I pre ρ → ∃ r, forGo h b (post.map e) ρ = .nx r ∧ I xs r := by
    intro post
    induction post with
    | nil =>
      intro pre ρ ex hI
      rw [List.append_nil] at ex
      subst ex
      exact ⟨ρ, rfl, hI⟩
    | cons x post ih =>
      intro pre ρ ex hI
      obtain ⟨r1, r2, e1, e2, e3⟩ := step pre x post ex ρ hI
      obtain ⟨r, f1, f2⟩ := ih (pre ++ [x]) r2 (by rw [ex]; simp) e3
      refine ⟨r, ?_, f2⟩
      rw [List.map_cons]
      unfold forGo
      rw [e1]
      rcases e2 with e2 | e2 <;> simp only [e2, f1]
  exact go xs [] ρ0 rfl h0
/-- a loop that looks: it goes on where a test holds, else ends by a value -/
theorem for_look {α : Type} {h : D → Rho → Option Rho} {b : S} (e : α → D) (I : Rho → Prop) (t : α → Bool) (d : D) : ∀ (xs : List α) {ρ0 : Rho} (h0 : I ρ0)
    (step : ∀ x ∈ xs, ∀ ρ, I ρ → ∃ r1, h (e x) ρ = some r1 ∧ (if t x = true then ∃ r2, (b r1 = .nx r2 ∨ b r1 = .ct r2) ∧ I r2 else ∃ r2, b r1 = .rt d r2)),
    (if xs.all t = true then ∃ r, forGo h b (xs.map e) ρ0 = .nx r ∧ I r else ∃ r, forGo h b (xs.map e) ρ0 = .rt d r)
  | [], ρ0, h0, _ => by
    simp only [List.all_nil, if_true]
    exact ⟨ρ0, rfl, h0⟩
  | x :: xs, ρ0, h0, step => by
    obtain ⟨r1, e1, e2⟩ := step x (List.mem_cons_self ..) ρ0 h0
    rw [List.map_cons, List.all_cons]
    cases et : t x with
    | false =>
      rw [et] at e2
      simp only [Bool.false_eq_true, if_false] at e2
      obtain ⟨r2, e2⟩ := e2
      simp only [Bool.false_and, Bool.false_eq_true, if_false]
      refine ⟨r2, ?_⟩
      unfold forGo
      rw [e1]
      simp only [e2]
    | true =>
      rw [et] at e2
      simp only [if_true] at e2
      obtain ⟨r2, e2, e3⟩ := e2
      have ih := for_look e I t d xs e3 fun y hy => step y (List.mem_cons_of_mem _ hy)
      have ef : forGo h b (e x :: xs.map e) ρ0 = forGo h b (xs.map e) r2 := by
        conv => lhs; unfold forGo
        rw [e1]
        rcases e2 with e2 | e2 <;> simp only [e2]
      rw [Bool.true_and, ef]
      exact ih
/-! ### while -/
theorem while_stop {c : M Bool} {b : S} {n : Nat} {ρ ρ1 : Rho} (h : c ρ = .ok false ρ1) : whileGo c b (n + 1) ρ = .nx ρ1 := by
  unfold whileGo
  rw [h]
theorem while_next {c : M Bool} {b : S} {n : Nat} {ρ ρ1 ρ2 : Rho} (h : c ρ = .ok true ρ1) (hb : b ρ1 = .nx ρ2 ∨ b ρ1 = .ct ρ2) : whileGo c b (n + 1) ρ = whileGo c b n ρ2 := by
  conv => lhs; unfold whileGo
  rw [h]
  rcases hb with hb | hb <;> simp only [hb]
/-! ### steps, each by the steps of its parts -/
theorem asg_ok {f : M D} {h : D → Rho → Option Rho} {ρ r r2 : Rho} {d : D} (e : f ρ = .ok d r) (e2 : h d r = some r2) : sAsg f h ρ = .nx r2 := by rw [ev_sa, ev_sb, e]; simp only [e2]
theorem own_ok {f : M D} {i : Nat} {ρ r : Rho} {d : D} (e : f ρ = .ok d r) : sOwn f i ρ = .nx (r.set i (.ow d)) := by rw [ev_so, ev_sb, e]
theorem ret_ok {f : M D} {ρ r : Rho} {d : D} (e : f ρ = .ok d r) : sRet f ρ = .rt d r := by rw [ev_sr, ev_sb, e]
theorem op_ok {f : D → D → Option D} {a b : M TV} {ρ r1 r2 : Rho} {x y : TV} {d e z : D} (ha : a ρ = .ok x r1) (hb : b r1 = .ok y r2) (dx : deref r2 x = some d) (dy : deref r2 y = some e) (hf : f d e = some z) : mOp f a b ρ = .ok z r2 := by
  rw [ev_opr, ev_bnd, ha]
  simp only
  rw [ev_bnd, hb]
  simp only [dx, dy, hf, ev_lfS]
theorem mT_ok {f : M D} {ρ r : Rho} {d : D} (e : f ρ = .ok d r) : mT f ρ = .ok (.d d) r := by rw [ev_mT, ev_bnd, e]; rfl
theorem call_ok {g : List D → RR} {fa : M (List D)} {ρ r : Rho} {ds : List D} {d : D} (e : fa ρ = .ok ds r) (hg : g ds = .ok d) : mCall0 g fa ρ = .ok d r := by rw [ev_cl0, ev_bnd, e]; simp only [hg]
theorem callX_ok {g : List D → RR} {fa : M (List D)} {ρ r : Rho} {ds : List D} {d : D} (e : fa ρ = .ok ds r) (hg : g ds = .ok d) : mCall g fa ρ = .ok d r := by rw [ev_cl, ev_bnd, e]; simp only [hg]
theorem callX_ex {g : List D → RR} {fa : M (List D)} {ρ r : Rho} {ds : List D} {c : Str} (e : fa ρ = .ok ds r) (hg : g ds = .ex c) : mCall g fa ρ = .ex c r := by rw [ev_cl, ev_bnd, e]; simp only [hg]
theorem tst_ok {f : M D} {ρ r : Rho} {b : Bool} (e : f ρ = .ok (.bool b) r) : mTst f ρ = .ok b r := by rw [ev_tst', ev_bnd, e]; rfl
theorem cons_ok {α : Type} {a : M α} {b : M (List α)} {ρ r r2 : Rho} {x : α} {xs : List α} (e : a ρ = .ok x r) (e2 : b r = .ok xs r2) : mCons a b ρ = .ok (x :: xs) r2 := by
  rw [ev_cns, ev_bnd, e]
  simp only
  rw [ev_bnd, e2]
  rfl
theorem not_ok {a : M Bool} {ρ r : Rho} {b : Bool} (e : a ρ = .ok b r) : mNot a ρ = .ok (!b) r := by rw [ev_nt, ev_bnd, e]; rfl
theorem cb_ok {f : List D → Option D} {a : M (List TV)} {ρ r : Rho} {ts : List TV} {ds : List D} {d : D} (e : a ρ = .ok ts r) (e2 : derefs r ts = some ds) (e3 : f ds = some d) : mCB f a ρ = .ok d r := by
  rw [ev_cbr, ev_bnd, e]
  simp only [e2, e3, ev_lfS]
theorem if_ok {α : Type} {c : M Bool} {a b : M α} {ρ r r2 : Rho} {t : Bool} {x : α} (e : c ρ = .ok t r) (h1 : t = true → a r = .ok x r2) (h2 : t = false → b r = .ok x r2) : mIf c a b ρ = .ok x r2 := by
  rw [ev_ifm, e]
  cases t with
  | true => exact h1 rfl
  | false => exact h2 rfl
theorem told_ok {f : M D} {ρ r : Rho} {d : D} (e : f ρ = .ok d r) : mTold f ρ = .ok d r := by unfold mTold; rw [e]
theorem told_ex {f : M D} {ρ r : Rho} {c : Str} (e : f ρ = .ex c r) (hc : excN.contains c = true) : mTold f ρ = .ok (termD c) r := by unfold mTold; rw [e]; simp only [if_pos hc]
theorem fin_rt {o : Out} {d : D} {r : Rho} (h : o = .rt d r) : finO o = .ok d := by rw [h]; rfl
theorem fin_nx {o : Out} {r : Rho} (h : o = .nx r) : finO o = .ok .none := by rw [h]; rfl
theorem fin_ex {o : Out} {c : Str} {r : Rho} (h : o = .ex c r) : finO o = .ex c := by rw [h]; rfl
theorem seq_to {f g : S} {ρ r : Rho} {o : Out} (h : f ρ = .nx r) (h2 : g r = o) : sSeq f g ρ = o := by rw [ev_ss, h]; exact h2
theorem seq_ex {f g : S} {ρ r : Rho} {c : Str} (h : f ρ = .ex c r) : sSeq f g ρ = .ex c r := by rw [ev_ss, h]
theorem seq_rt {f g : S} {ρ r : Rho} {d : D} (h : f ρ = .rt d r) : sSeq f g ρ = .rt d r := by rw [ev_ss, h]
theorem ifs_f {c : M Bool} {f g : S} {ρ r : Rho} {o : Out} (h : c ρ = .ok false r) (h2 : g r = o) : sIf c f g ρ = o := by rw [ev_si, h]; exact h2
theorem ifs_t {c : M Bool} {f g : S} {ρ r : Rho} {o : Out} (h : c ρ = .ok true r) (h2 : f r = o) : sIf c f g ρ = o := by rw [ev_si, h]; exact h2
theorem drop_ok {f : M D} {ρ r : Rho} {d : D} (e : f ρ = .ok d r) : sDrop f ρ = .nx r := by rw [ev_sdr, ev_sb, e]; rfl
theorem drop_ex {f : M D} {ρ r : Rho} {c : Str} (e : f ρ = .ex c r) : sDrop f ρ = .ex c r := by rw [ev_sdr, ev_sb, e]
theorem or_f {a b : M Bool} {ρ r : Rho} {t : R Bool} (h : a ρ = .ok false r) (h2 : b r = t) : mOr a b ρ = t := by rw [ev_orr, h]; exact h2
theorem or_t {a b : M Bool} {ρ r : Rho} (h : a ρ = .ok true r) : mOr a b ρ = .ok true r := by rw [ev_orr, h]
theorem and_t {a b : M Bool} {ρ r : Rho} {t : R Bool} (h : a ρ = .ok true r) (h2 : b r = t) : mAnd a b ρ = t := by rw [ev_an, h]; exact h2
theorem and_f {a b : M Bool} {ρ r : Rho} (h : a ρ = .ok false r) : mAnd a b ρ = .ok false r := by rw [ev_an, h]
theorem andV_ok {a b : M D} {ρ r : Rho} {x y : Bool} (ha : a ρ = .ok (.bool x) r) (hb : x = true → b r = .ok (.bool y) r) : mAndV a b ρ = .ok (.bool (x && y)) r := by
  rw [ev_anV, ev_bnd, ha]
  cases x with
  | true => exact hb rfl
  | false => rfl
theorem orV_ok {a b : M D} {ρ r : Rho} {x y : Bool} (ha : a ρ = .ok (.bool x) r) (hb : x = false → b r = .ok (.bool y) r) : mOrV a b ρ = .ok (.bool (x || y)) r := by
  rw [ev_orV', ev_bnd, ha]
  cases x with
  | false => exact hb rfl
  | true => rfl
theorem notV_ok {a : M D} {ρ r : Rho} {x : Bool} (ha : a ρ = .ok (.bool x) r) : mNotV a ρ = .ok (.bool (!x)) r := by
  rw [ev_ntV, ev_bnd, ha]
  rfl
theorem or_ok {a b : M Bool} {ρ r : Rho} {x y : Bool} (ha : a ρ = .ok x r) (hb : x = false → b r = .ok y r) : mOr a b ρ = .ok (x || y) r := by
  rw [ev_orr, ha]
  cases x with
  | false => exact hb rfl
  | true => rfl
theorem and_ok {a b : M Bool} {ρ r : Rho} {x y : Bool} (ha : a ρ = .ok x r) (hb : x = true → b r = .ok y r) : mAnd a b ρ = .ok (x && y) r := by
  rw [ev_an, ha]
  cases x with
  | true => exact hb rfl
  | false => rfl
theorem seq_nx {f g : S} {ρ r : Rho} (h : f ρ = .nx r) : sSeq f g ρ = g r := by rw [ev_ss, h]
theorem if_nx {c : M Bool} {f g : S} {ρ r : Rho} (h : c ρ = .ok false r) : sIf c f g ρ = g r := by rw [ev_si, h]
theorem if_t {c : M Bool} {f g : S} {ρ r : Rho} (h : c ρ = .ok true r) : sIf c f g ρ = f r := by rw [ev_si, h]
theorem call_eq {np n : Nat} {b : S} {ds : List D} (h : ds.length = np) : callD np n b ds = finO (b (ds.map Cell.fz ++ List.replicate (n - ds.length) Cell.no)) := by rw [ev_cal, if_pos h]
theorem call1 {m : Nat} {b : S} {x : D} : callD 1 (m + 1) b [x] = finO (b (.fz x :: List.replicate m .no)) := call_eq rfl
theorem call2 {m : Nat} {b : S} {x y : D} : callD 2 (m + 2) b [x, y] = finO (b (.fz x :: .fz y :: List.replicate m .no)) := call_eq rfl
theorem call3 {m : Nat} {b : S} {x y z : D} : callD 3 (m + 3) b [x, y, z] = finO (b (.fz x :: .fz y :: .fz z :: List.replicate m .no)) := call_eq rfl
theorem call4 {m : Nat} {b : S} {x y z u : D} : callD 4 (m + 4) b [x, y, z, u] = finO (b (.fz x :: .fz y :: .fz z :: .fz u :: List.replicate m .no)) := call_eq rfl
/-! ### a statement that goes on -/
def Wp (f : S) (Q : Rho → Prop) (ρ : Rho) : Prop := ∃ r, f ρ = .nx r ∧ Q r
theorem wp_seq {f g : S} {Q : Rho → Prop} {ρ : Rho} (h : Wp f (fun r => Wp g Q r) ρ) : Wp (sSeq f g) Q ρ := by
  obtain ⟨r, e, r2, e2, q⟩ := h
  exact ⟨r2, by rw [ev_ss, e]; exact e2, q⟩
theorem wp_set {f : M D} {h : D → Rho → Option Rho} {Q : Rho → Prop} {ρ r r2 : Rho} {d : D} (e : f ρ = .ok d r) (e2 : h d r = some r2) (q : Q r2) : Wp (sAsg f h) Q ρ := ⟨r2, by rw [ev_sa, ev_sb, e]; simp only [e2], q⟩
theorem wp_own {f : M D} {i : Nat} {Q : Rho → Prop} {ρ r : Rho} {d : D} (e : f ρ = .ok d r) (q : Q (r.set i (.ow d))) : Wp (sOwn f i) Q ρ := ⟨_, by rw [ev_so, ev_sb, e], q⟩
theorem wp_par {ms : List Bool} {is : List Nat} {f : M (List D)} {Q : Rho → Prop} {ρ r r2 : Rho} {ds : List D} (e : f ρ = .ok ds r) (e2 : parSet ms is ds r = some r2) (q : Q r2) : Wp (sPar ms is f) Q ρ := ⟨r2, by rw [ev_sp, ev_sb, e]; simp only [e2], q⟩
theorem wp_if {c : M Bool} {f g : S} {Q : Rho → Prop} {ρ r : Rho} {b : Bool} (e : c ρ = .ok b r) (h1 : b = true → Wp f Q r) (h2 : b = false → Wp g Q r) : Wp (sIf c f g) Q ρ := by
  cases b with
  | true => obtain ⟨r2, e2, q⟩ := h1 rfl; exact ⟨r2, by rw [ev_si, e]; exact e2, q⟩
  | false => obtain ⟨r2, e2, q⟩ := h2 rfl; exact ⟨r2, by rw [ev_si, e]; exact e2, q⟩
/-- a test that must not hold -/
theorem wp_not {c : M Bool} {f : S} {Q : Rho → Prop} {ρ r : Rho} (e : c ρ = .ok false r) (q : Q r) : Wp (sIf c f sNext) Q ρ := ⟨r, by rw [ev_si, e]; rfl, q⟩
theorem wp_next {Q : Rho → Prop} {ρ : Rho} (q : Q ρ) : Wp sNext Q ρ := ⟨ρ, rfl, q⟩
theorem wp_drop {f : M D} {Q : Rho → Prop} {ρ r : Rho} {d : D} (e : f ρ = .ok d r) (q : Q r) : Wp (sDrop f) Q ρ := ⟨r, by rw [ev_sdr, ev_sb, e]; rfl, q⟩
theorem wp_for {α : Type} {fi : M (List D)} {h : D → Rho → Option Rho} {b : S} {Q : Rho → Prop} {ρ ρ0 : Rho} (e : α → D) (xs : List α) (I : List α → Rho → Prop) (hi : fi ρ = .ok (xs.map e) ρ0) (h0 : I [] ρ0)
    (step : ∀ pre x post, xs = pre ++ x :: post → ∀ r, I pre r → ∃ r1, h (e x) r = some r1 ∧ Wp b (fun r2 => I (pre ++ [x]) r2) r1) (q : ∀ r, I xs r → Q r) : Wp (sFor fi h b) Q ρ := by
  obtain ⟨r, e1, e2⟩ := for_inv (h := h) (b := b) e I xs h0 fun pre x post ex r hI => by
    obtain ⟨r1, a1, r2, a2, a3⟩ := step pre x post ex r hI
    exact ⟨r1, r2, a1, .inl a2, a3⟩
  exact ⟨r, by rw [ev_sf, ev_sb, hi]; exact e1, q r e2⟩
/-- a loop that only looks: each turn leaves all but some slots -/
theorem wp_each {α : Type} {fi : M (List D)} {h : D → Rho → Option Rho} {b : S} {Q : Rho → Prop} {ρ ρ0 : Rho} (e : α → D) (xs : List α) (I : Rho → Prop) (hi : fi ρ = .ok (xs.map e) ρ0) (h0 : I ρ0)
    (step : ∀ x ∈ xs, ∀ r, I r → ∃ r1, h (e x) r = some r1 ∧ Wp b I r1) (q : ∀ r, I r → Q r) : Wp (sFor fi h b) Q ρ :=
  wp_for e xs (fun _ => I) hi h0 (fun pre x post ex r hI => step x (by rw [ex]; simp) r hI) q
theorem wp_while {α : Type} {c : M Bool} {b : S} {n : Nat} {Q : Rho → Prop} {ρ : Rho} (I : Nat → Rho → Prop) (m : Nat) (hm : m < n) (h0 : I m ρ)
    (step : ∀ k r, I k r → (∃ r1, c r = .ok false r1 ∧ Q r1) ∨ (∃ r1, c r = .ok true r1 ∧ Wp b (fun r2 => ∃ k', k' < k ∧ I k' r2) r1)) : Wp (whileGo c b n) Q ρ := by
  have go : ∀ (n k : Nat) (r : Rho), k < n → I k r → Wp (whileGo c b n) Q r := by
    intro n
    induction n with
    | zero => intro k r h; omega
    | succ n ih =>
      intro k r hk hI
      rcases step k r hI with ⟨r1, e, q⟩ | ⟨r1, e, r2, e2, k', hk', hI'⟩
      · exact ⟨r1, while_stop e, q⟩
      · obtain ⟨r3, e3, q⟩ := ih k' r2 (by omega) hI'
        exact ⟨r3, (while_next e (.inl e2)).trans e3, q⟩
  exact go n m ρ hm h0
theorem setD_ok {ρ r2 : Rho} {i : Nat} {ds : List D} {k : Int} {n : Nat} {d : D} (h0 : cellD ρ[i]? = some (.list ds)) (e : k = n) (hn : n < ds.length) (hp : putCell ρ i (.list (ds.set n d)) = some r2) : setD ρ i k d = some r2 := by
  subst e
  unfold setD
  rw [h0]
  have h1 : ixN ds.length (n : Int) = some n := by
    unfold ixN
    rw [if_pos (by omega), if_pos (by omega)]
    simp
  simp only [h1, hp]
theorem wp_setitem {fe fk : M D} {i : Nat} {Q : Rho → Prop} {ρ r r2 r3 : Rho} {d x : D} {k : Int} (he : fe ρ = .ok d r) (h0 : cellD r[i]? = some x) (hk : fk r = .ok (.int k) r2) (hs : setD r2 i k d = some r3) (q : Q r3) : Wp (sSetItem i fe fk) Q ρ := by
  refine ⟨r3, ?_, q⟩
  unfold sSetItem
  rw [ev_sb, he]
  simp only [h0]
  rw [ev_sb, hk]
  simp only [asInt, hs]
theorem wp_append {f : M D} {i : Nat} {Q : Rho → Prop} {ρ r r2 : Rho} {d : D} {ds es : List D} (h0 : cellD ρ[i]? = some (.list ds)) (he : f ρ = .ok d r) (h1 : cellD r[i]? = some (.list es)) (hl : es.length < big) (hp : putCell r i (.list (es ++ [d])) = some r2) (q : Q r2) : Wp (sAppend i f) Q ρ := by
  refine ⟨r2, ?_, q⟩
  unfold sAppend
  rw [h0]
  simp only
  rw [ev_sb, he]
  have : appendD r i d = some r2 := by
    unfold appendD
    rw [h1]
    simp only [if_pos hl, hp]
  simp only [this]
theorem rep_one {d : D} {j : Int} {n : Nat} (e : j = n) (hn : n ≤ 1000) : repF (.list [d]) (.int j) = some (.list (List.replicate n d)) := by
  subst e
  show (if ([d] : List D).length ≤ 1000 ∧ 0 ≤ (n : Int) ∧ (n : Int) ≤ 1000 then some (PyData.list (List.replicate (n : Int).toNat [d]).flatten) else none) = _
  rw [if_pos ⟨by simp, by omega, by omega⟩, Int.toNat_natCast]
  congr 2
  induction n with
  | zero => rfl
  | succ n ih => rw [List.replicate_succ, List.replicate_succ, List.flatten_cons, ih (by omega)]; rfl
theorem roundOk_of {n : Nat} {f : S} (h : ∀ c : Int, Wp f (fun _ => True) (rho0 n c)) : RoundOk n f := fun c => by
  obtain ⟨r, e, _⟩ := h c
  exact ⟨r, .inl e⟩
end Rn
end

section
set_option Elab.async false
set_option linter.all false
set_option maxRecDepth 100000
set_option maxHeartbeats 4000000
/-! MathX: more rules of steps. -/
namespace Rn
open PySem PySem.Spec L2
/-- a loop that ends by a value at one of its items -/
theorem for_hit {α : Type} {h : D → Rho → Option Rho} {b : S} (e : α → D) (I : Rho → Prop) (x : α) (post : List α) {d : D} : ∀ (pre : List α) {ρ0 : Rho} (h0 : I ρ0)
    (step : ∀ y ∈ pre, ∀ ρ, I ρ → ∃ r1, h (e y) ρ = some r1 ∧ ∃ r2, b r1 = .nx r2 ∧ I r2)
    (hit : ∀ ρ, I ρ → ∃ r1, h (e x) ρ = some r1 ∧ ∃ r2, b r1 = .rt d r2), ∃ r, forGo h b ((pre ++ x :: post).map e) ρ0 = .rt d r
  | [], ρ0, h0, _, hit => by
    obtain ⟨r1, e1, r2, e2⟩ := hit ρ0 h0
    refine ⟨r2, ?_⟩
    rw [List.nil_append, List.map_cons]
    unfold forGo
    rw [e1]
    simp only [e2]
  | y :: pre, ρ0, h0, step, hit => by
    obtain ⟨r1, e1, r2, e2, e3⟩ := step y (List.mem_cons_self ..) ρ0 h0
    obtain ⟨r, ih⟩ := for_hit e I x post pre e3 (fun z hz => step z (List.mem_cons_of_mem _ hz)) hit
    refine ⟨r, ?_⟩
    rw [List.cons_append, List.map_cons]
    unfold forGo
    rw [e1]
    simp only [e2]
    exact ih
theorem for_ok {fi : M (List D)} {h : D → Rho → Option Rho} {b : S} {ρ ρ0 : Rho} {items : List D} {o : Out} (hi : fi ρ = .ok items ρ0) (e : forGo h b items ρ0 = o) : sFor fi h b ρ = o := by
  rw [ev_sf, ev_sb, hi]
  exact e
theorem range_at {n k : Nat} (h : k < n) : ∃ post, List.range n = List.range k ++ k :: post :=
  ⟨(List.range (n - k - 1)).map fun i => k + 1 + i, by
    rw [show n = k + 1 + (n - k - 1) by omega, List.range_add, List.range_succ, List.append_assoc]
    simp only [List.singleton_append]
    rw [show k + 1 + (n - k - 1) - k - 1 = n - k - 1 by omega]⟩
theorem range_pos {n : Nat} {pre post : List Nat} {x : Nat} (e : List.range n = pre ++ x :: post) : x = pre.length ∧ pre.length < n := by
  have h : (List.range n)[pre.length]? = some x := by rw [e]; simp
  have hl : pre.length < n := by
    have := congrArg List.length e
    simp at this
    omega
  rw [List.getElem?_range hl] at h
  exact ⟨(Option.some.inj h).symm, hl⟩
/-- a statement that ends by a value -/
def Rt (f : S) (Q : D → Rho → Prop) (ρ : Rho) : Prop := ∃ d r, f ρ = .rt d r ∧ Q d r
theorem rt_seq {f g : S} {Q : D → Rho → Prop} {ρ : Rho} (h : Wp f (fun r => Rt g Q r) ρ) : Rt (sSeq f g) Q ρ := by
  obtain ⟨r, e, d, r2, e2, q⟩ := h
  exact ⟨d, r2, seq_to e e2, q⟩
theorem rt_ret {f : M D} {Q : D → Rho → Prop} {ρ r : Rho} {d : D} (e : f ρ = .ok d r) (q : Q d r) : Rt (sRet f) Q ρ := ⟨d, r, ret_ok e, q⟩
theorem par_ok {ms : List Bool} {is : List Nat} {f : M (List D)} {ρ r r2 : Rho} {ds : List D} (e : f ρ = .ok ds r) (e2 : parSet ms is ds r = some r2) : sPar ms is f ρ = .nx r2 := by rw [ev_sp, ev_sb, e]; simp only [e2]
theorem tup_ok {a : M (List D)} {ρ r : Rho} {ds : List D} (e : a ρ = .ok ds r) (h : ds.length ≤ 100) : mTup a ρ = .ok (.tuple ds) r := by
  rw [ev_tp, ev_bnd, e]
  exact if_pos h
theorem lst_ok {a : M (List D)} {ρ r : Rho} {ds : List D} (e : a ρ = .ok ds r) (h : ds.length ≤ 100) : mLst a ρ = .ok (.list ds) r := by
  rw [ev_ls, ev_bnd, e]
  exact if_pos h
theorem seqL_ok {f : M D} {ρ r : Rho} {ds : List D} (e : f ρ = .ok (.list ds) r) : mSeqI f ρ = .ok ds r := by
  rw [ev_sqI, ev_bnd, e]
  rfl
theorem seqT_ok {f : M D} {ρ r : Rho} {ds : List D} (e : f ρ = .ok (.tuple ds) r) : mSeqI f ρ = .ok ds r := by
  rw [ev_sqI, ev_bnd, e]
  rfl
theorem add_ll (a b : List D) (h : a.length + b.length ≤ 1000) : addF (.list a) (.list b) = some (.list (a ++ b)) := by
  show (if a.length + b.length ≤ big then _ else _) = _
  rw [if_pos (by simp [big]; omega)]
theorem add_tt (a b : List D) (h : a.length + b.length ≤ 1000) : addF (.tuple a) (.tuple b) = some (.tuple (a ++ b)) := by
  show (if a.length + b.length ≤ big then _ else _) = _
  rw [if_pos (by simp [big]; omega)]
theorem isn_o (a : Option Int) : isF false (oD a) .none = some (.bool a.isNone) := by cases a <;> rfl
theorem ist_o (a : Option Int) : isF true (oD a) .none = some (.bool (!a.isNone)) := by cases a <;> rfl
theorem ne_self {k : Nat} {α : Type} [DecidableEq α] {e : α → D} (g : Good k e) (a : α) (hk : k ≤ 64 := by decide) : neF (e a) (e a) = some (.bool false) := by
  rw [g.neF a a hk, decide_eq_true rfl]
  rfl
theorem term_eq (c : Str) : neF (termD c) (termD c) = some (.bool false) := ne_self (e := fun p : Str × Str => PyData.tuple [.str p.1, .str p.2]) (good_str.pair good_str) ("error", c)
end Rn
end

section
set_option Elab.async false
set_option linter.all false
set_option autoImplicit false
set_option maxRecDepth 100000
/-! FormT: rows that come again, their least steps and begins; no program. -/
namespace Rn

abbrev Tm := Option Int
def rise (a b : Tm) : Option Tm := match a, b with
  | none, none => some none
  | some x, some y => some (some (y - x))
  | _, _ => none
/-- the row goes on evenly at n by the step c -/
def gd (r : Nat → Tm) (c n : Nat) : Prop := rise (r n) (r (n + c)) ≠ none ∧ rise (r n) (r (n + c)) = rise (r (n + c)) (r (n + 2 * c))
instance (r : Nat → Tm) (c n : Nat) : Decidable (gd r c n) := by unfold gd; exact inferInstance
def Per (r : Nat → Tm) (b c : Nat) : Prop := ∀ n, b ≤ n → gd r c n
theorem Per.mono {r : Nat → Tm} {b b' c : Nat} (h : Per r b c) (hb : b ≤ b') : Per r b' c := fun n hn => h n (Nat.le_trans hb hn)
theorem gd_none {r : Nat → Tm} {c n : Nat} (h : gd r c n) : (r n = none ↔ r (n + c) = none) ∧ (r (n + c) = none ↔ r (n + 2 * c) = none) := by
  obtain ⟨h1, h2⟩ := h
  cases e1 : r n <;> cases e2 : r (n + c) <;> cases e3 : r (n + 2 * c) <;> simp_all [rise]
theorem gd_some {r : Nat → Tm} {c n : Nat} {x : Int} (h : gd r c n) (e : r n = some x) : ∃ q, r (n + c) = some (x + q) ∧ r (n + 2 * c) = some (x + 2 * q) := by
  obtain ⟨h1, h2⟩ := h
  cases e2 : r (n + c) with
  | none => rw [e, e2] at h1; exact absurd rfl h1
  | some y =>
    cases e3 : r (n + 2 * c) with
    | none => rw [e, e2, e3] at h2; cases h2
    | some z =>
      rw [e, e2, e3] at h2
      simp only [rise, Option.some.injEq] at h2
      exact ⟨y - x, by congr 1; omega, by congr 1; omega⟩
theorem gd_of_some {r : Nat → Tm} {c n : Nat} {x y z : Int} (e1 : r n = some x) (e2 : r (n + c) = some y) (e3 : r (n + 2 * c) = some z) (h : y - x = z - y) : gd r c n := by
  unfold gd
  rw [e1, e2, e3]
  refine ⟨by simp [rise], ?_⟩
  simp only [rise, h]
theorem gd_of_none {r : Nat → Tm} {c n : Nat} (e1 : r n = none) (e2 : r (n + c) = none) (e3 : r (n + 2 * c) = none) : gd r c n := by
  unfold gd
  rw [e1, e2, e3]
  exact ⟨by simp [rise], rfl⟩
/-! ### along a class -/
theorem per_none {r : Nat → Tm} {b c : Nat} (h : Per r b c) : ∀ (k n : Nat), b ≤ n → (r n = none ↔ r (n + k * c) = none)
  | 0, n, _ => by simp
  | k + 1, n, hn => by
    rw [(gd_none (h n hn)).1, per_none h k (n + c) (by omega), show n + c + k * c = n + (k + 1) * c by rw [Nat.succ_mul]; omega]
theorem per_some {r : Nat → Tm} {b c n : Nat} {x : Int} (h : Per r b c) (hn : b ≤ n) (e : r n = some x) : ∃ q, ∀ k : Nat, r (n + k * c) = some (x + k * q) := by
  obtain ⟨q, h1, h2⟩ := gd_some (h n hn) e
  refine ⟨q, ?_⟩
  have go : ∀ k : Nat, r (n + k * c) = some (x + k * q) ∧ r (n + (k + 1) * c) = some (x + (k + 1) * q) := by
    intro k
    induction k with
    | zero =>
      refine ⟨by simp [e], ?_⟩
      rw [show n + (0 + 1) * c = n + c by omega, h1]
      congr 1
      simp
    | succ k ih =>
      refine ⟨by simpa using ih.2, ?_⟩
      obtain ⟨q', g1, g2⟩ := gd_some (h (n + k * c) (by omega)) ih.1
      have e1 : n + k * c + c = n + (k + 1) * c := by rw [Nat.succ_mul]; omega
      have e2 : n + k * c + 2 * c = n + (k + 1 + 1) * c := by rw [Nat.add_mul (k + 1) 1 c, Nat.add_mul k 1 c]; omega
      rw [e1, ih.2] at g1
      rw [e2] at g2
      rw [g2]
      have : q' = q := by
        have := Option.some.inj g1
        have e3 : ((k : Int) + 1) * q = k * q + q := by rw [Int.add_mul]; omega
        rw [e3] at this
        omega
      subst this
      congr 1
      push_cast
      have e3 : ((k : Int) + 1 + 1) * q' = k * q' + 2 * q' := by rw [Int.add_mul, Int.add_mul]; omega
      rw [e3]
      omega
  exact fun k => (go k).1
/-- the look at twice the known step is enough -/
theorem per_fin {r : Nat → Tm} {b L c : Nat} (hL : 0 < L) (hp : Per r b L) (h : ∀ n, b ≤ n → n < b + 2 * L → gd r c n) : Per r b c := by
  intro n hn
  have hmod : (n - b) % L < L := Nat.mod_lt _ hL
  obtain ⟨n0, k, e0, hn0, hn1⟩ : ∃ n0 k, n = n0 + k * L ∧ b ≤ n0 ∧ n0 < b + L := by
    refine ⟨b + (n - b) % L, (n - b) / L, ?_, by omega, by omega⟩
    have := Nat.div_add_mod (n - b) L
    rw [Nat.mul_comm] at this
    omega
  have g0 := h n0 hn0 (by omega)
  have g1 := h (n0 + L) (by omega) (by omega)
  subst e0
  cases ex : r n0 with
  | none =>
    have n1 := (gd_none g0).1.mp ex
    have n2 := (gd_none g0).2.mp n1
    refine gd_of_none ((per_none hp k n0 hn0).mp ex) ?_ ?_
    · rw [show n0 + k * L + c = n0 + c + k * L by omega]
      exact (per_none hp k (n0 + c) (by omega)).mp n1
    · rw [show n0 + k * L + 2 * c = n0 + 2 * c + k * L by omega]
      exact (per_none hp k (n0 + 2 * c) (by omega)).mp n2
  | some x =>
    obtain ⟨q, h1, h2⟩ := gd_some g0 ex
    obtain ⟨a, ha⟩ := per_some hp hn0 ex
    obtain ⟨d, hd⟩ := per_some hp (show b ≤ n0 + c by omega) h1
    obtain ⟨f, hf⟩ := per_some hp (show b ≤ n0 + 2 * c by omega) h2
    have a1 := ha 1
    have d1 := hd 1
    have f1 := hf 1
    rw [Nat.one_mul] at a1 d1 f1
    obtain ⟨q', h3, h4⟩ := gd_some g1 a1
    rw [show n0 + L + c = n0 + c + L by omega, d1] at h3
    rw [show n0 + L + 2 * c = n0 + 2 * c + L by omega, f1] at h4
    have h3 := Option.some.inj h3
    have h4 := Option.some.inj h4
    have key : d - a = f - d := by
      simp at h3 h4
      omega
    refine gd_of_some (ha k) (by rw [show n0 + k * L + c = n0 + c + k * L by omega]; exact hd k) (by rw [show n0 + k * L + 2 * c = n0 + 2 * c + k * L by omega]; exact hf k) ?_
    have : (k : Int) * f = k * d + (k * d - k * a) := by
      have e : f = d + (d - a) := by omega
      rw [e, Int.mul_add, Int.mul_sub]
    omega
/-! ### common divisors -/
theorem bezout : ∀ (n a b : Nat), a + b ≤ n → 0 < a → 0 < b → (∃ u v, u * a = v * b + Nat.gcd a b) ∧ ∃ u v, u * b = v * a + Nat.gcd a b
  | 0, a, b, h, ha, _ => by omega
  | n + 1, a, b, h, ha, hb => by
    rcases Nat.lt_trichotomy a b with hlt | heq | hgt
    · obtain ⟨⟨u, v, e⟩, u', v', e'⟩ := bezout n a (b - a) (by omega) ha (by omega)
      have eg : Nat.gcd a (b - a) = Nat.gcd a b := by
        rw [show Nat.gcd a b = Nat.gcd a ((b - a) + a) by rw [Nat.sub_add_cancel (Nat.le_of_lt hlt)]]
        simp
      rw [eg] at e e'
      have hv : v * b = v * (b - a) + v * a := by rw [← Nat.mul_add, Nat.sub_add_cancel (Nat.le_of_lt hlt)]
      have hu : u' * b = u' * (b - a) + u' * a := by rw [← Nat.mul_add, Nat.sub_add_cancel (Nat.le_of_lt hlt)]
      exact ⟨⟨u + v, v, by rw [Nat.add_mul]; omega⟩, u', v' + u', by rw [Nat.add_mul]; omega⟩
    · subst heq
      exact ⟨⟨1, 0, by simp⟩, 1, 0, by simp⟩
    · obtain ⟨⟨u, v, e⟩, u', v', e'⟩ := bezout n (a - b) b (by omega) (by omega) hb
      have eg : Nat.gcd (a - b) b = Nat.gcd a b := by
        rw [show Nat.gcd a b = Nat.gcd ((a - b) + b) b by rw [Nat.sub_add_cancel (Nat.le_of_lt hgt)]]
        simp
      rw [eg] at e e'
      have hu : u * a = u * (a - b) + u * b := by rw [← Nat.mul_add, Nat.sub_add_cancel (Nat.le_of_lt hgt)]
      have hv : v' * a = v' * (a - b) + v' * b := by rw [← Nat.mul_add, Nat.sub_add_cancel (Nat.le_of_lt hgt)]
      exact ⟨⟨u, v + u, by rw [Nat.add_mul]; omega⟩, u' + v', v', by rw [Nat.add_mul]; omega⟩
theorem per_gcd {r : Nat → Tm} {b c d : Nat} (hc : 0 < c) (hd : 0 < d) (h1 : Per r b c) (h2 : Per r b d) : Per r b (Nat.gcd c d) := by
  obtain ⟨⟨u, v, e⟩, _⟩ := bezout _ c d (Nat.le_refl _) hc hd
  generalize Nat.gcd c d = g at e
  have move : ∀ m, b ≤ m → m + u * c = m + g + v * d := fun m _ => by omega
  have hnone : ∀ m, b ≤ m → (r m = none ↔ r (m + g) = none) := fun m hm => by
    rw [per_none h1 u m hm, move m hm, ← per_none h2 v (m + g) (by omega)]
  intro n hn
  cases e0 : r n with
  | none =>
    have e1 := (hnone n hn).mp e0
    have e2 := (hnone (n + g) (by omega)).mp e1
    exact gd_of_none e0 e1 (by rw [show n + 2 * g = n + g + g by omega]; exact e2)
  | some x0 =>
    have s1 : ∃ x1, r (n + g) = some x1 := by
      cases q : r (n + g) with
      | none => rw [(hnone n hn).mpr q] at e0; cases e0
      | some x1 => exact ⟨x1, rfl⟩
    obtain ⟨x1, e1⟩ := s1
    have s2 : ∃ x2, r (n + g + g) = some x2 := by
      cases q : r (n + g + g) with
      | none => rw [(hnone (n + g) (by omega)).mpr q] at e1; cases e1
      | some x2 => exact ⟨x2, rfl⟩
    obtain ⟨x2, e2⟩ := s2
    -- slopes
    obtain ⟨p0, hp0⟩ := per_some h1 hn e0
    obtain ⟨q0, hq0⟩ := per_some h2 hn e0
    obtain ⟨p1, hp1⟩ := per_some h1 (show b ≤ n + g by omega) e1
    obtain ⟨q1, hq1⟩ := per_some h2 (show b ≤ n + g by omega) e1
    obtain ⟨q2, hq2⟩ := per_some h2 (show b ≤ n + g + g by omega) e2
    -- d * p = c * q at each of them
    have k0 : (d : Int) * p0 = c * q0 := by
      have a := hp0 d
      have z := hq0 c
      rw [Nat.mul_comm d c, ← Nat.mul_comm d c] at a
      rw [show n + d * c = n + c * d by rw [Nat.mul_comm], z] at a
      have := Option.some.inj a
      omega
    have k1 : (d : Int) * p1 = c * q1 := by
      have a := hp1 d
      have z := hq1 c
      rw [show n + g + d * c = n + g + c * d by rw [Nat.mul_comm], z] at a
      have := Option.some.inj a
      omega
    -- the slope by d at n + g equals that at n: both seen at n + u * c + k * d
    have hu0 := hp0 u
    have hv1 := hq1 v
    have k2 : (d : Int) * p0 = d * p1 := by
      -- walk from n + u * c by c and from n + g + v * d by d, both c * d on
      have a := hp0 (u + d)
      have z := hq1 (v + c)
      have em : n + (u + d) * c = n + g + (v + c) * d := by
        rw [Nat.add_mul, Nat.add_mul, Nat.mul_comm d c]
        have := move n hn
        omega
      rw [em, z] at a
      have a := Option.some.inj a
      rw [move n hn, hv1] at hu0
      have hu0 := Option.some.inj hu0
      push_cast at a
      rw [Int.add_mul, Int.add_mul] at a
      omega
    have k3 : p0 = p1 := by
      have hd' : (d : Int) ≠ 0 := by omega
      exact Int.eq_of_mul_eq_mul_left hd' k2
    have k4 : (c : Int) * q1 = c * q2 := by
      have hu1 := hp1 u
      have hv2 := hq2 v
      have a := hp1 (u + d)
      have z := hq2 (v + c)
      have em : n + g + (u + d) * c = n + g + g + (v + c) * d := by
        rw [Nat.add_mul, Nat.add_mul, Nat.mul_comm d c]
        have := move (n + g) (by omega)
        omega
      rw [em, z] at a
      have a := Option.some.inj a
      rw [move (n + g) (by omega), hv2] at hu1
      have hu1 := Option.some.inj hu1
      push_cast at a
      rw [Int.add_mul, Int.add_mul] at a
      omega
    have k5 : q1 = q2 := by
      have hc' : (c : Int) ≠ 0 := by omega
      exact Int.eq_of_mul_eq_mul_left hc' k4
    have m0 : x0 + u * p0 = x1 + v * q1 := by
      rw [move n hn, hv1] at hu0
      exact (Option.some.inj hu0).symm
    have m1 : x1 + u * p1 = x2 + v * q2 := by
      have a := hp1 u
      rw [move (n + g) (by omega), hq2 v] at a
      exact (Option.some.inj a).symm
    refine gd_of_some e0 e1 (by rw [show n + 2 * g = n + g + g by omega]; exact e2) ?_
    subst k3
    subst k5
    omega
/-- the least step divides all -/
theorem least_dvd {r : Nat → Tm} {b c L : Nat} (hc : 0 < c) (hL : 0 < L) (h1 : Per r b c) (h2 : Per r b L) (hm : ∀ x, 0 < x → Per r b x → c ≤ x) : c ∣ L := by
  have g := per_gcd hc hL h1 h2
  have hg : 0 < Nat.gcd c L := Nat.gcd_pos_of_pos_left _ hc
  have := hm _ hg g
  have h3 : Nat.gcd c L ≤ c := Nat.gcd_le_left _ hc
  have e : Nat.gcd c L = c := by omega
  exact e ▸ Nat.gcd_dvd_right c L
end Rn
end

section
set_option Elab.async false
set_option linter.all false
set_option autoImplicit false
set_option maxRecDepth 100000
/-! FormC: forms of rows, the least one; no program. -/
namespace Rn

def numAt (row : List Tm) (b : Nat) (rs : List Tm) (p : Nat) : Tm :=
  if p < b + rs.length then row.getD p none else match row.getD (b + (p - b) % rs.length) none, rs.getD ((p - b) % rs.length) none with
    | some v, some q => some (v + ((p - b) / rs.length : Nat) * q)
    | _, _ => none
structure Wf (row : List Tm) (b : Nat) (rs : List Tm) : Prop where
  pos : 0 < rs.length
  len : b + rs.length ≤ row.length
  non : ∀ i, i < rs.length → (row.getD (b + i) none = none ↔ rs.getD i none = none)
theorem numAt_ge {row : List Tm} {b : Nat} {rs : List Tm} (w : Wf row b rs) {p : Nat} (hp : b ≤ p) : numAt row b rs p = match row.getD (b + (p - b) % rs.length) none, rs.getD ((p - b) % rs.length) none with
    | some v, some q => some (v + ((p - b) / rs.length : Nat) * q)
    | _, _ => none := by
  unfold numAt
  by_cases h : p < b + rs.length
  · rw [if_pos h]
    have e1 : (p - b) % rs.length = p - b := Nat.mod_eq_of_lt (by omega)
    have e2 : (p - b) / rs.length = 0 := Nat.div_eq_of_lt (by omega)
    rw [e1, e2, show b + (p - b) = p by omega]
    have := w.non (p - b) (by omega)
    rw [show b + (p - b) = p by omega] at this
    cases h1 : row.getD p none with
    | none => rfl
    | some v =>
      cases h2 : rs.getD (p - b) none with
      | none => rw [this.mpr h2] at h1; cases h1
      | some q => simp
  · rw [if_neg h]
theorem numAt_rise {row : List Tm} {b : Nat} {rs : List Tm} (w : Wf row b rs) {p : Nat} (hp : b ≤ p) : rise (numAt row b rs p) (numAt row b rs (p + rs.length)) = some (rs.getD ((p - b) % rs.length) none) := by
  have hL := w.pos
  have e1 : (p + rs.length - b) % rs.length = (p - b) % rs.length := by
    rw [show p + rs.length - b = (p - b) + rs.length by omega]
    exact Nat.add_mod_right _ _
  have e2 : (p + rs.length - b) / rs.length = (p - b) / rs.length + 1 := by
    rw [show p + rs.length - b = (p - b) + rs.length by omega]
    exact Nat.add_div_right _ hL
  rw [numAt_ge w hp, numAt_ge w (show b ≤ p + rs.length by omega), e1, e2]
  have hm : (p - b) % rs.length < rs.length := Nat.mod_lt _ hL
  have := w.non _ hm
  cases h1 : row.getD (b + (p - b) % rs.length) none with
  | none => rw [this.mp h1]; rfl
  | some v =>
    cases h2 : rs.getD ((p - b) % rs.length) none with
    | none => rw [this.mpr h2] at h1; cases h1
    | some q =>
      simp only [rise]
      congr 2
      push_cast
      rw [Int.add_mul]
      omega
theorem numAt_per {row : List Tm} {b : Nat} {rs : List Tm} (w : Wf row b rs) : Per (numAt row b rs) b rs.length := by
  intro n hn
  unfold gd
  have e : n + 2 * rs.length = n + rs.length + rs.length := by omega
  rw [e, numAt_rise w hn, numAt_rise w (show b ≤ n + rs.length by omega)]
  refine ⟨by simp, ?_⟩
  rw [show n + rs.length - b = (n - b) + rs.length by omega, Nat.add_mod_right]
/-- a step that holds far out holds from where the row is known to come again -/
theorem per_back {r : Nat → Tm} {b b' L c : Nat} (hL : 0 < L) (hp : Per r b L) (h : Per r b' c) : Per r b c := by
  intro n hn
  obtain ⟨k, hk⟩ : ∃ k, b' ≤ n + k * L := ⟨b', by have : b' * 1 ≤ b' * L := Nat.mul_le_mul_left _ hL; omega⟩
  have g0 := h (n + k * L) hk
  have g1 := h (n + (k + 1) * L) (by rw [Nat.add_mul]; omega)
  have c1 : ∀ j, n + j * L + c = n + c + j * L := fun j => by omega
  have c2 : ∀ j, n + j * L + 2 * c = n + 2 * c + j * L := fun j => by omega
  cases ex : r n with
  | none =>
    have a0 := (per_none hp k n hn).mp ex
    have a1 := (gd_none g0).1.mp a0
    have a2 := (gd_none g0).2.mp a1
    rw [c1] at a1
    rw [c2] at a2
    exact gd_of_none ex ((per_none hp k (n + c) (by omega)).mpr a1) ((per_none hp k (n + 2 * c) (by omega)).mpr a2)
  | some x =>
    obtain ⟨a, ha⟩ := per_some hp hn ex
    have sm : ∀ m, b ≤ m → r (m + k * L) ≠ none → ∃ y, r m = some y := fun m hm hne => by
      cases q : r m with
      | none => exact absurd ((per_none hp k m hm).mp q) hne
      | some y => exact ⟨y, rfl⟩
    obtain ⟨q, h1, h2⟩ := gd_some g0 (ha k)
    obtain ⟨q', h3, h4⟩ := gd_some g1 (ha (k + 1))
    rw [c1] at h1 h3
    rw [c2] at h2 h4
    obtain ⟨y, ey⟩ := sm (n + c) (by omega) (by rw [h1]; simp)
    obtain ⟨z, ez⟩ := sm (n + 2 * c) (by omega) (by rw [h2]; simp)
    obtain ⟨d, hd⟩ := per_some hp (show b ≤ n + c by omega) ey
    obtain ⟨f, hf⟩ := per_some hp (show b ≤ n + 2 * c by omega) ez
    rw [hd] at h1 h3
    rw [hf] at h2 h4
    have h1 := Option.some.inj h1
    have h2 := Option.some.inj h2
    have h3 := Option.some.inj h3
    have h4 := Option.some.inj h4
    push_cast at h3 h4
    rw [Int.add_mul, Int.add_mul] at h3 h4
    refine gd_of_some ex ey ez ?_
    have key : f = d + (d - a) := by omega
    have : (k : Int) * f = k * d + (k * d - k * a) := by rw [key, Int.mul_add, Int.mul_sub]
    omega
/-- f and c are the least begin and the least step of the row -/
structure Can (r : Nat → Tm) (f c : Nat) : Prop where
  pos : 0 < c
  per : Per r f c
  step : ∀ x b, 0 < x → Per r b x → c ≤ x
  beg : ∀ b, Per r b c → f ≤ b
theorem Can.uniq {r : Nat → Tm} {f c f' c' : Nat} (h : Can r f c) (h' : Can r f' c') : f = f' ∧ c = c' := by
  have e : c = c' := Nat.le_antisymm (h.step _ _ h'.pos h'.per) (h'.step _ _ h.pos h.per)
  subst e
  exact ⟨Nat.le_antisymm (h.beg _ h'.per) (h'.beg _ h.per), rfl⟩
/-! ### how it is found -/
def gdB (r : Nat → Tm) (c n : Nat) : Bool := decide (gd r c n)
def perB (r : Nat → Tm) (b L c : Nat) : Bool := (List.range (2 * L)).all fun i => gdB r c (b + i)
theorem perB_iff {r : Nat → Tm} {b L c : Nat} (hL : 0 < L) (hp : Per r b L) : perB r b L c = true ↔ Per r b c := by
  unfold perB gdB
  rw [List.all_eq_true]
  constructor
  · intro h
    refine per_fin hL hp fun n h1 h2 => ?_
    have := h (n - b) (List.mem_range.mpr (by omega))
    rw [show b + (n - b) = n by omega] at this
    exact of_decide_eq_true this
  · intro h i _
    exact decide_eq_true (h _ (by omega))
def csteps (r : Nat → Tm) (b L : Nat) : List Nat := ((List.range L).map (· + 1)).filter fun c => decide (L % c = 0) && perB r b L c
def cstep (r : Nat → Tm) (b L : Nat) : Nat := (csteps r b L).headD 1
def cbeg (r : Nat → Tm) (c : Nat) : Nat → Nat
  | 0 => 0
  | b + 1 => if gdB r c b = true then cbeg r c b else b + 1
theorem head_least {p : Nat → Bool} : ∀ (n m : Nat) (c : Nat), m < n → p (m + 1) = true → (∀ x, x < m → p (x + 1) = false) → (((List.range n).map (· + 1)).filter p).head? = some (m + 1)
  | n, m, c, hm, hp, hx => by
    obtain ⟨k, rfl⟩ : ∃ k, n = m + (1 + k) := ⟨n - m - 1, by omega⟩
    rw [List.range_add, List.map_append, List.filter_append]
    have e1 : ((List.range m).map (· + 1)).filter p = [] := by
      rw [List.filter_eq_nil_iff]
      intro a ha
      obtain ⟨x, h1, h2⟩ := List.mem_map.mp ha
      subst h2
      rw [hx x (List.mem_range.mp h1)]
      decide
    rw [e1, List.nil_append, Nat.add_comm 1 k, List.range_succ_eq_map]
    simp [hp]
theorem least_ex {p : Nat → Prop} : ∀ n : Nat, p n → ∃ m, m ≤ n ∧ p m ∧ ∀ x, p x → m ≤ x := by
  intro n
  induction n using Nat.strongRecOn with
  | _ n ih =>
    intro h
    by_cases hx : ∃ x, x < n ∧ p x
    · obtain ⟨x, h1, h2⟩ := hx
      obtain ⟨m, a, b, c⟩ := ih x h1 h2
      exact ⟨m, by omega, b, c⟩
    · exact ⟨n, Nat.le_refl _, h, fun x hx' => Nat.le_of_not_lt fun hl => hx ⟨x, hl, hx'⟩⟩
theorem csteps_head {r : Nat → Tm} {b L : Nat} (hL : 0 < L) (hp : Per r b L) : ∃ c, (csteps r b L).head? = some c ∧ 0 < c ∧ c ≤ L ∧ c ∣ L ∧ Per r b c ∧ ∀ x b', 0 < x → Per r b' x → c ≤ x := by
  obtain ⟨c, h1, ⟨h2, h3⟩, h4⟩ := least_ex (p := fun x => 0 < x ∧ Per r b x) L ⟨hL, hp⟩
  have hd : c ∣ L := least_dvd h2 hL h3 hp fun x a b => h4 x ⟨a, b⟩
  refine ⟨c, ?_, h2, h1, hd, h3, fun x b' hx hb => h4 x ⟨hx, per_back hL hp hb⟩⟩
  obtain ⟨m, rfl⟩ : ∃ m, c = m + 1 := ⟨c - 1, by omega⟩
  refine head_least L m 0 (by omega) ?_ fun x hx => ?_
  · rw [Bool.and_eq_true]
    exact ⟨decide_eq_true (Nat.mod_eq_zero_of_dvd hd), (perB_iff hL hp).mpr h3⟩
  · cases q : (decide (L % (x + 1) = 0) && perB r b L (x + 1)) with
    | false => rfl
    | true =>
      rw [Bool.and_eq_true] at q
      have := h4 (x + 1) ⟨by omega, (perB_iff hL hp).mp q.2⟩
      omega
theorem cbeg_ok {r : Nat → Tm} {c : Nat} : ∀ {b : Nat}, Per r b c → cbeg r c b ≤ b ∧ Per r (cbeg r c b) c ∧ ∀ x, Per r x c → cbeg r c b ≤ x
  | 0, h => ⟨Nat.le_refl _, h, fun x _ => Nat.zero_le x⟩
  | b + 1, h => by
    unfold cbeg gdB
    by_cases hg : gd r c b
    · have hb : Per r b c := fun n hn => by
        rcases Nat.eq_or_lt_of_le hn with e | e
        · exact e ▸ hg
        · exact h n e
      obtain ⟨h1, h2, h3⟩ := cbeg_ok hb
      rw [if_pos (decide_eq_true hg)]
      exact ⟨by omega, h2, h3⟩
    · rw [if_neg (by rw [decide_eq_true_eq]; exact hg)]
      refine ⟨Nat.le_refl _, h, fun x hx => Nat.le_of_not_lt fun hl => hg (hx b (by omega))⟩
theorem can_of {r : Nat → Tm} {b L : Nat} (hL : 0 < L) (hp : Per r b L) : Can r (cbeg r (cstep r b L) b) (cstep r b L) := by
  obtain ⟨c, h1, h2, _, _, h3, h4⟩ := csteps_head hL hp
  have e : cstep r b L = c := by
    unfold cstep
    rw [List.headD_eq_head?_getD, h1]
    rfl
  rw [e]
  obtain ⟨_, k2, k3⟩ := cbeg_ok h3
  exact ⟨h2, k2, h4, k3⟩
theorem can_le {r : Nat → Tm} {b L f c : Nat} (hL : 0 < L) (hp : Per r b L) (h : Can r f c) : f ≤ b ∧ c ≤ L := by
  have k := can_of hL hp
  obtain ⟨e1, e2⟩ := h.uniq k
  obtain ⟨c', h1, h2, h3, _, h4, _⟩ := csteps_head hL hp
  have e : cstep r b L = c' := by
    unfold cstep
    rw [List.headD_eq_head?_getD, h1]
    rfl
  rw [e1, e2, e]
  exact ⟨(cbeg_ok h4).1, h3⟩
/-! ### forms -/
abbrev Form := Nat × List Tm × List Tm
def fnum (f : Form) : Nat → Tm := numAt f.2.1 f.1 f.2.2
def mkForm (r : Nat → Tm) (f c : Nat) : Form := (f, (List.range (f + c)).map r, (List.range c).map fun i => (rise (r (f + i)) (r (f + i + c))).getD none)
def canon (row : List Tm) (b : Nat) (rs : List Tm) : Form := mkForm (numAt row b rs) (cbeg (numAt row b rs) (cstep (numAt row b rs) b rs.length) b) (cstep (numAt row b rs) b rs.length)
theorem getD_map {α β : Type} (g : α → β) (xs : List α) (i : Nat) (d : β) (h : i < xs.length) : (xs.map g).getD i d = g xs[i] := by
  simp [List.getD_eq_getElem?_getD, h]
theorem mk_wf {r : Nat → Tm} {f c : Nat} (hc : 0 < c) (hp : Per r f c) : Wf (mkForm r f c).2.1 f (mkForm r f c).2.2 := by
  refine ⟨by simp [mkForm, hc], by simp [mkForm], fun i hi => ?_⟩
  have hi : i < c := by simpa [mkForm] using hi
  show ((List.range (f + c)).map r).getD (f + i) none = none ↔ ((List.range c).map fun i => (rise (r (f + i)) (r (f + i + c))).getD none).getD i none = none
  rw [getD_map _ _ _ _ (by simp; omega), getD_map _ _ _ _ (by simpa using hi)]
  simp only [List.getElem_range]
  have g := hp (f + i) (by omega)
  have := (gd_none g).1
  cases e1 : r (f + i) with
  | none => rw [this.mp e1]; simp [rise]
  | some x =>
    cases e2 : r (f + i + c) with
    | none => rw [this.mpr e2] at e1; cases e1
    | some y => simp [rise]
theorem mk_num {r : Nat → Tm} {f c : Nat} (hc : 0 < c) (hp : Per r f c) : fnum (mkForm r f c) = r := by
  funext p
  have w := mk_wf hc hp
  have hL : (mkForm r f c).2.2.length = c := by simp [mkForm]
  by_cases h : p < f + c
  · unfold fnum numAt
    rw [show (mkForm r f c).1 = f from rfl, hL, if_pos h]
    show ((List.range (f + c)).map r).getD p none = _
    rw [getD_map _ _ _ _ (by simpa using h)]
    simp
  · have hf : f ≤ p := by omega
    unfold fnum
    rw [show (mkForm r f c).1 = f from rfl, numAt_ge w hf, hL]
    have hm : (p - f) % c < c := Nat.mod_lt _ hc
    show (match ((List.range (f + c)).map r).getD (f + (p - f) % c) none, ((List.range c).map fun i => (rise (r (f + i)) (r (f + i + c))).getD none).getD ((p - f) % c) none with
      | some v, some q => some (v + ((p - f) / c : Nat) * q)
      | _, _ => none) = r p
    rw [getD_map _ _ _ _ (by simp; omega), getD_map _ _ _ _ (by simpa using hm)]
    simp only [List.getElem_range]
    have ep : p = f + (p - f) % c + ((p - f) / c) * c := by
      have := Nat.div_add_mod (p - f) c
      rw [Nat.mul_comm] at this
      omega
    cases e1 : r (f + (p - f) % c) with
    | none =>
      conv => rhs; rw [ep]
      rw [(per_none hp ((p - f) / c) _ (by omega)).mp e1]
    | some x =>
      obtain ⟨q, hq⟩ := per_some hp (show f ≤ f + (p - f) % c by omega) e1
      have h1 := hq 1
      rw [Nat.one_mul] at h1
      rw [h1]
      simp only [rise, Option.getD_some]
      conv => rhs; rw [ep, hq]
      congr 2
      congr 1
      simp
      omega
theorem can_mk {r : Nat → Tm} {f c : Nat} (h : Can r f c) : canon (mkForm r f c).2.1 f (mkForm r f c).2.2 = mkForm r f c := by
  have w := mk_wf h.pos h.per
  have e := mk_num h.pos h.per
  have k := can_of w.pos (numAt_per w)
  have e' : numAt (mkForm r f c).2.1 f (mkForm r f c).2.2 = r := e
  rw [e'] at k
  obtain ⟨e1, e2⟩ := h.uniq k
  unfold canon
  rw [e', ← e1, ← e2]
theorem canon_num {row : List Tm} {b : Nat} {rs : List Tm} (w : Wf row b rs) : fnum (canon row b rs) = numAt row b rs := by
  have k := can_of w.pos (numAt_per w)
  exact mk_num k.pos k.per
theorem canon_can {row : List Tm} {b : Nat} {rs : List Tm} (w : Wf row b rs) : Can (numAt row b rs) (canon row b rs).1 (canon row b rs).2.2.length := by
  have k := can_of w.pos (numAt_per w)
  have e : (canon row b rs).2.2.length = cstep (numAt row b rs) b rs.length := by simp [canon, mkForm]
  rw [e]
  exact k
theorem canon_eq {row : List Tm} {b : Nat} {rs : List Tm} (w : Wf row b rs) {f c : Nat} (h : Can (numAt row b rs) f c) : canon row b rs = mkForm (numAt row b rs) f c := by
  have k := can_of w.pos (numAt_per w)
  obtain ⟨e1, e2⟩ := h.uniq k
  unfold canon
  rw [← e1, ← e2]
/-- a form that stands for itself -/
theorem mk_self {ns : List Tm} {b : Nat} {rs : List Tm} (w : Wf ns b rs) (hl : ns.length = b + rs.length) : mkForm (numAt ns b rs) b rs.length = (b, ns, rs) := by
  unfold mkForm
  refine Prod.ext rfl (Prod.ext ?_ ?_)
  · refine List.ext_getElem (by simp [hl]) fun i h1 h2 => ?_
    simp only [List.getElem_map, List.getElem_range]
    unfold numAt
    rw [if_pos (by simpa using h1)]
    simp [List.getD_eq_getElem?_getD, h2]
  · refine List.ext_getElem (by simp) fun i h1 h2 => ?_
    simp only [List.getElem_map, List.getElem_range]
    rw [numAt_rise w (by omega)]
    rw [show b + i - b = i by omega, Nat.mod_eq_of_lt h2]
    simp [List.getD_eq_getElem?_getD, h2]
theorem self_iff {ns : List Tm} {b : Nat} {rs : List Tm} (w : Wf ns b rs) (hl : ns.length = b + rs.length) : canon ns b rs = (b, ns, rs) ↔ Can (numAt ns b rs) b rs.length := by
  constructor
  · intro h
    have k := canon_can w
    rw [h] at k
    exact k
  · intro h
    rw [canon_eq w h, mk_self w hl]
end Rn
end

section
set_option Elab.async false
set_option linter.all false
set_option maxRecDepth 100000
set_option maxHeartbeats 4000000
/-! Roll: the law's dice. -/
namespace Rn
open PySem PySem.Spec L2
theorem md0 {i j : Int} (h : 0 < j) : modF (.int i) (.int j) = some (.int (i % j)) := by rw [ev_mod, if_pos h]
theorem fd0 {i j : Int} (h : 0 < j) (h2 : j.natAbs < 2 ^ 400) : fdivF (.int i) (.int j) = some (.int (i / j)) := by rw [ev_fdv, if_pos ⟨h, h2⟩]
/-! ### rolls -/
theorem ev_sst (i : Nat) (fe fk : M D) (r : Rho) : sSetItem i fe fk r = sBind fe (fun d => fun ρ => match cellD ρ[i]? with
  | some _ => sBind fk (fun kd => fun ρ => match asInt kd with
    | some k => (match setD ρ i k d with
      | some r => .nx r
      | none => .no)
    | none => .no) ρ
  | none => .no) r := rfl
theorem mul_big {i j : Int} (h1 : i.natAbs < 2 ^ 400) (h2 : j.natAbs < 2 ^ 400) : mulF (.int i) (.int j) = some (.int (i * j)) := by
  show (if (isSmall i || isSmall j) = true then some (PyData.int (i * j)) else if i.natAbs < 2 ^ 400 ∧ j.natAbs < 2 ^ 400 then some (PyData.int (i * j)) else none) = _
  split
  · rfl
  · rw [if_pos ⟨h1, h2⟩]
theorem lt_big {i : Int} {n : Nat} (h0 : 0 ≤ i) (h : i < n) (hn : n ≤ 2 ^ 400) : i.natAbs < 2 ^ 400 := by
  have : i.natAbs < n := by omega
  exact Nat.lt_of_lt_of_le this hn
theorem drawn_ok (c k : Int) : ∃ x, g__law_drawn [.int c, .int k] = .ok (.int x) := by
  have e1 := ev_mul c 6364136223846793005 (by rw [show isSmall 6364136223846793005 = true from rfl, Bool.or_true])
  have e2 := ev_mul (k + 1) 1442695040888963407 (by rw [show isSmall 1442695040888963407 = true from rfl, Bool.or_true])
  have m1 : modF (.int (c * 6364136223846793005 + (k + 1) * 1442695040888963407)) (.int 340282366920938463463374607431768211507) = some (.int ((c * 6364136223846793005 + (k + 1) * 1442695040888963407) % 340282366920938463463374607431768211507)) := md0 (by decide)
  have b1 := Int.emod_nonneg (c * 6364136223846793005 + (k + 1) * 1442695040888963407) (show (340282366920938463463374607431768211507 : Int) ≠ 0 by decide)
  have b2 := Int.emod_lt_of_pos (c * 6364136223846793005 + (k + 1) * 1442695040888963407) (show (0 : Int) < 340282366920938463463374607431768211507 by decide)
  generalize (c * 6364136223846793005 + (k + 1) * 1442695040888963407) % 340282366920938463463374607431768211507 = x1 at m1 b1 b2
  have e3 := mul_big (lt_big (n := 340282366920938463463374607431768211507) b1 b2 (by decide)) (lt_big (n := 340282366920938463463374607431768211507) b1 b2 (by decide))
  have m2 : modF (.int (x1 * x1)) (.int 340282366920938463463374607431768211297) = some (.int ((x1 * x1) % 340282366920938463463374607431768211297)) := md0 (by decide)
  have b3 := Int.emod_nonneg (x1 * x1) (show (340282366920938463463374607431768211297 : Int) ≠ 0 by decide)
  have b4 := Int.emod_lt_of_pos (x1 * x1) (show (0 : Int) < 340282366920938463463374607431768211297 by decide)
  generalize (x1 * x1) % 340282366920938463463374607431768211297 = x2 at m2 b3 b4
  have m3 : modF (.int x2) (.int 18446744073709551557) = some (.int (x2 % 18446744073709551557)) := md0 (by decide)
  have d3 : fdivF (.int x2) (.int 18446744073709551557) = some (.int (x2 / 18446744073709551557)) := fd0 (by decide) (by decide)
  have b5 := Int.emod_nonneg x2 (show (18446744073709551557 : Int) ≠ 0 by decide)
  have b6 := Int.emod_lt_of_pos x2 (show (0 : Int) < 18446744073709551557 by decide)
  have b7 : 0 ≤ x2 / 18446744073709551557 := Int.ediv_nonneg b3 (by decide)
  have b8 : x2 / 18446744073709551557 < 18446744073709551716 := Int.ediv_lt_of_lt_mul (by decide) (by omega)
  generalize x2 % 18446744073709551557 = y1 at m3 b5 b6
  generalize x2 / 18446744073709551557 = y2 at d3 b7 b8
  have e4 := mul_big (i := y1 + 1) (j := y2 + 1) (lt_big (n := 340282366920938463463374607431768211297) (by omega) (by omega) (by decide)) (lt_big (n := 340282366920938463463374607431768211297) (by omega) (by omega) (by decide))
  have b9 : (y1 + 1) * (y2 + 1) ≤ 18446744073709551717 * 18446744073709551717 := Int.mul_le_mul (by omega) (by omega) (by omega) (by decide)
  have b10 : 0 ≤ (y1 + 1) * (y2 + 1) := Int.mul_nonneg (by omega) (by omega)
  generalize (y1 + 1) * (y2 + 1) = z at e4 b9 b10
  have e5 := mul_big (i := z) (j := x2) (lt_big (n := 18446744073709551717 * 18446744073709551717 + 1) b10 (by omega) (by decide)) (lt_big (n := 340282366920938463463374607431768211297) b3 b4 (by decide))
  have m4 : modF (.int (z * x2)) (.int 340282366920938463463374607431768211507) = some (.int ((z * x2) % 340282366920938463463374607431768211507)) := md0 (by decide)
  refine ⟨(z * x2) % 340282366920938463463374607431768211507, ?_⟩
  simp -implicitDefEqProofs only [g__law_drawn, b__law_drawn, ev_foc, ev_fo0, ev_app, ev_enm, ev_rs, ev_lc', ev_g0, ev_gc, ev_y, big, ev_bnd, ev_ret, ev_lfS, ev_lfN, ev_stk, ev_vr, ev_vrT, ev_mT, ev_cF, ev_cO, ev_cB, ev_dd, ev_ds, ev_d0, ev_dc, ev_opr, ev_unr, ev_nl, ev_cns, ev_cbr, ev_ab, ev_ai, ev_tst', ev_an, ev_orr, ev_nt, ev_anV, ev_orV', ev_ntV, ev_ifm, ev_ch, ev_tp, ev_ls, ev_cl, ev_cl0, ev_isr, ev_sqI, ev_sqL, ev_sqT, ev_sb, ev_ss, ev_sn, ev_sa, ev_so, ev_sr, ev_sdr, ev_si, ev_sp, ev_p0, ev_pF, ev_pT, ev_sf, ev_hn, ev_ht, ev_hc, ev_h0, ev_cal, ev_f1, ev_f2, ev_f3, ev_f4, ev_cmp, ev_add, ev_sub, ev_isn, ev_n1, ev_n2, ev_n3, ev_n4, ev_ixL, ev_ixT, ev_a0, ev_a1, ev_a2, ev_lL, ev_lT, ev_tL, ev_tT, ev_liT, ev_abs, ev_mx, ev_mn, ev_mx3, ev_t1, ev_t2, ev_t3, ev_eqI, ev_neI, List.getElem?_cons_zero, List.getElem?_cons_succ, List.set_cons_zero, List.set_cons_succ, List.length_cons, List.length_nil, List.map_cons, List.map_nil, List.replicate_succ, List.replicate_zero, List.cons_append, List.nil_append, List.append_nil, Option.bind_some, Option.map_some, Nat.reduceAdd, Nat.reduceSub, Nat.reduceLT, Nat.reduceLeDiff, Nat.reduceEqDiff, if_true, if_false, reduceIte, Bool.false_eq_true, wipeR, restR, e1, e2, m1, e3, m2, m3, d3, e4, e5, m4]
theorem pow18 : powF (.int 10) (.int 18) = some (.int 1000000000000000000) := by kernel_rfl
theorem set0 (c k x : D) : setD [.bw (.list [c, k]), y1, y2] 0 0 x = some [.bw (.list [x, k]), y1, y2] := by
  simp [setD, cellD, ixN, putCell]
theorem set1 (c k x : D) : setD [.bw (.list [c, k]), y1, y2] 0 1 x = some [.bw (.list [c, x]), y1, y2] := by
  simp [setD, cellD, ixN, putCell]
theorem roll_ok (c k : Int) (m : Nat) (hm : 0 < m) (hm2 : m ≤ 1000000) : ∃ (r : Nat) (c' k' : Int), r < m ∧ noEx c__law_roll (.list [.int c, .int k]) [.int (m : Int)] = .ok (.int (r : Int)) (.list [.int c', .int k']) := by
  have hm3 : (0 : Int) < (m : Int) := by omega
  have hm4 : (m : Int).natAbs < 2 ^ 400 := by
    have : (m : Int).natAbs = m := by omega
    rw [this]
    exact Nat.lt_of_le_of_lt hm2 (by decide)
  have md : ∀ i : Int, modF (.int i) (.int (m : Int)) = some (.int (i % m)) := fun i => md0 hm3
  have fd : ∀ i : Int, fdivF (.int i) (.int (m : Int)) = some (.int (i / m)) := fun i => fd0 hm3 hm4
  have f8 : ∀ i : Int, fdivF (.int i) (.int 8) = some (.int (i / 8)) := fun i => fd0 (by decide) (by decide)
  have rem : ∀ i : Int, ∃ r : Nat, r < m ∧ i % (m : Int) = (r : Int) := fun i => by
    have h1 := Int.emod_nonneg i (show (m : Int) ≠ 0 by omega)
    have h2 := Int.emod_lt_of_pos i hm3
    exact ⟨(i % (m : Int)).toNat, by omega, by omega⟩
  by_cases h : c ≥ 1000000000000000000
  · obtain ⟨r, hr, er⟩ := rem c
    refine ⟨r, c / m, k, hr, ?_⟩
    have h' : (1000000000000000000 : Int) ≤ c := h
    simp -implicitDefEqProofs only [noEx, c__law_roll, callB, startR, b__law_roll, ev_foc, ev_fo0, ev_app, ev_enm, ev_rs, ev_lc', ev_g0, ev_gc, ev_y, big, ev_bnd, ev_ret, ev_lfS, ev_lfN, ev_stk, ev_vr, ev_vrT, ev_mT, ev_cF, ev_cO, ev_cB, ev_dd, ev_ds, ev_d0, ev_dc, ev_opr, ev_unr, ev_nl, ev_cns, ev_cbr, ev_ab, ev_ai, ev_tst', ev_an, ev_orr, ev_nt, ev_anV, ev_orV', ev_ntV, ev_ifm, ev_ch, ev_tp, ev_ls, ev_cl, ev_cl0, ev_isr, ev_sqI, ev_sqL, ev_sqT, ev_sb, ev_ss, ev_sn, ev_sa, ev_so, ev_sr, ev_sdr, ev_si, ev_sp, ev_p0, ev_pF, ev_pT, ev_sf, ev_hn, ev_ht, ev_hc, ev_h0, ev_cal, ev_f1, ev_f2, ev_f3, ev_f4, ev_cmp, ev_add, ev_sub, ev_isn, ev_n1, ev_n2, ev_n3, ev_n4, ev_ixL, ev_ixT, ev_a0, ev_a1, ev_a2, ev_lL, ev_lT, ev_tL, ev_tT, ev_liT, ev_abs, ev_mx, ev_mn, ev_mx3, ev_t1, ev_t2, ev_t3, ev_eqI, ev_neI, List.getElem?_cons_zero, List.getElem?_cons_succ, List.set_cons_zero, List.set_cons_succ, List.length_cons, List.length_nil, List.map_cons, List.map_nil, List.replicate_succ, List.replicate_zero, List.cons_append, List.nil_append, List.append_nil, Option.bind_some, Option.map_some, Nat.reduceAdd, Nat.reduceSub, Nat.reduceLT, Nat.reduceLeDiff, Nat.reduceEqDiff, if_true, if_false, reduceIte, Bool.false_eq_true, wipeR, restR, ev_sst, pow18, h', decide_true, md, fd, set0, finB, bwOf, er]
  · obtain ⟨x, ex⟩ := drawn_ok c (k + 1)
    obtain ⟨r, hr, er⟩ := rem (x / 8)
    refine ⟨r, c, k + 1, hr, ?_⟩
    have h' : ¬ (1000000000000000000 : Int) ≤ c := h
    simp -implicitDefEqProofs only [noEx, c__law_roll, callB, startR, b__law_roll, ev_foc, ev_fo0, ev_app, ev_enm, ev_rs, ev_lc', ev_g0, ev_gc, ev_y, big, ev_bnd, ev_ret, ev_lfS, ev_lfN, ev_stk, ev_vr, ev_vrT, ev_mT, ev_cF, ev_cO, ev_cB, ev_dd, ev_ds, ev_d0, ev_dc, ev_opr, ev_unr, ev_nl, ev_cns, ev_cbr, ev_ab, ev_ai, ev_tst', ev_an, ev_orr, ev_nt, ev_anV, ev_orV', ev_ntV, ev_ifm, ev_ch, ev_tp, ev_ls, ev_cl, ev_cl0, ev_isr, ev_sqI, ev_sqL, ev_sqT, ev_sb, ev_ss, ev_sn, ev_sa, ev_so, ev_sr, ev_sdr, ev_si, ev_sp, ev_p0, ev_pF, ev_pT, ev_sf, ev_hn, ev_ht, ev_hc, ev_h0, ev_cal, ev_f1, ev_f2, ev_f3, ev_f4, ev_cmp, ev_add, ev_sub, ev_isn, ev_n1, ev_n2, ev_n3, ev_n4, ev_ixL, ev_ixT, ev_a0, ev_a1, ev_a2, ev_lL, ev_lT, ev_tL, ev_tT, ev_liT, ev_abs, ev_mx, ev_mn, ev_mx3, ev_t1, ev_t2, ev_t3, ev_eqI, ev_neI, List.getElem?_cons_zero, List.getElem?_cons_succ, List.set_cons_zero, List.set_cons_succ, List.length_cons, List.length_nil, List.map_cons, List.map_nil, List.replicate_succ, List.replicate_zero, List.cons_append, List.nil_append, List.append_nil, Option.bind_some, Option.map_some, Nat.reduceAdd, Nat.reduceSub, Nat.reduceLT, Nat.reduceLeDiff, Nat.reduceEqDiff, if_true, if_false, reduceIte, Bool.false_eq_true, wipeR, restR, ev_sst, pow18, h', decide_false, md, fd, f8, set1, ex, finB, bwOf, er]
def IsDice (d : D) : Prop := ∃ c k : Int, d = .list [.int c, .int k]
theorem roll_d {d : D} (h : IsDice d) (m : Nat) (hm : 0 < m) (hm2 : m ≤ 1000000) : ∃ (r : Nat) (d' : D), r < m ∧ IsDice d' ∧ noEx c__law_roll d [.int (m : Int)] = .ok (.int (r : Int)) d' := by
  obtain ⟨c, k, rfl⟩ := h
  obtain ⟨r, c', k', h1, h2⟩ := roll_ok c k m hm hm2
  exact ⟨r, _, h1, ⟨c', k', rfl⟩, h2⟩
theorem roll_n {d : D} (h : IsDice d) (M : Int) (m : Nat) (e : M = m) (hm : 0 < m) (hm2 : m ≤ 1000000) : ∃ (r : Nat) (d' : D), r < m ∧ IsDice d' ∧ noEx c__law_roll d [.int M] = .ok (.int (r : Int)) d' := by
  subst e
  exact roll_d h m hm hm2
theorem callB_ok {g : D → List D → RB} {i : Nat} {fa : M (List D)} {ρ r r2 : Rho} {ds : List D} {x d0 d d1 : D} (h0 : cellD ρ[i]? = some x) (ha : fa ρ = .ok ds r) (h1 : cellD r[i]? = some d0) (hg : g d0 ds = .ok d d1) (hp : putCell r i d1 = some r2) : mCallB g i fa ρ = .ok d r2 := by
  unfold mCallB
  rw [h0]
  simp only
  rw [ev_bnd, ha]
  simp only [h1, hg, hp]
theorem rho0_dice (n : Nat) (c : Int) : ∃ d, IsDice d ∧ rho0 n c = .no :: .bw d :: List.replicate (n - 2) .no := ⟨_, ⟨c, 0, rfl⟩, rfl⟩
end Rn
end

section
set_option Elab.async false
set_option linter.all false
set_option maxRecDepth 100000
set_option maxHeartbeats 4000000
/-! FormG: what the program's defs about forms compute on typed data. -/
namespace Rn
open PySem PySem.Spec L2
def whole (d : D) (lo hi : Int) : Bool := match d with
  | .int v => decide (lo ≤ v) && decide (v ≤ hi)
  | _ => false
theorem w_whole (d : D) (lo hi : Int) : g_is_whole [d, .int lo, .int hi] = .ok (.bool (whole d lo hi)) := by
  cases d with
  | int v => by_cases h : lo ≤ v <;> by_cases h2 : v ≤ hi <;> simp -implicitDefEqProofs [g_is_whole, b_is_whole, ev_foc, ev_fo0, ev_app, ev_enm, ev_rs, ev_lc', ev_g0, ev_gc, ev_y, big, ev_bnd, ev_ret, ev_lfS, ev_lfN, ev_stk, ev_vr, ev_vrT, ev_mT, ev_cF, ev_cO, ev_cB, ev_dd, ev_ds, ev_d0, ev_dc, ev_opr, ev_unr, ev_nl, ev_cns, ev_cbr, ev_ab, ev_ai, ev_tst', ev_an, ev_orr, ev_nt, ev_anV, ev_orV', ev_ntV, ev_ifm, ev_ch, ev_tp, ev_ls, ev_cl, ev_cl0, ev_isr, ev_sqI, ev_sqL, ev_sqT, ev_sb, ev_ss, ev_sn, ev_sa, ev_so, ev_sr, ev_sdr, ev_si, ev_sp, ev_p0, ev_pF, ev_pT, ev_sf, ev_hn, ev_ht, ev_hc, ev_h0, ev_cal, ev_f1, ev_f2, ev_f3, ev_f4, ev_cmp, ev_add, ev_sub, ev_mod, ev_fdv, ev_isn, ev_n1, ev_n2, ev_n3, ev_n4, ev_ixL, ev_ixT, ev_a0, ev_a1, ev_a2, ev_lL, ev_lT, ev_tL, ev_tT, ev_liT, ev_abs, ev_mx, ev_mn, ev_mx3, ev_t1, ev_t2, ev_t3, ev_eqI, ev_neI, List.getElem?_cons_zero, List.getElem?_cons_succ, List.set_cons_zero, List.set_cons_succ, List.length_cons, List.length_nil, List.map_cons, List.map_nil, List.replicate_succ, List.replicate_zero, List.cons_append, List.nil_append, List.append_nil, Option.bind_some, Option.map_some, Nat.reduceAdd, Nat.reduceSub, Nat.reduceLT, Nat.reduceLeDiff, Nat.reduceEqDiff, if_true, if_false, reduceIte, Bool.false_eq_true, wipeR, restR, h, h2, pInt, pIs, whole]
  | _ => simp -implicitDefEqProofs [g_is_whole, b_is_whole, ev_foc, ev_fo0, ev_app, ev_enm, ev_rs, ev_lc', ev_g0, ev_gc, ev_y, big, ev_bnd, ev_ret, ev_lfS, ev_lfN, ev_stk, ev_vr, ev_vrT, ev_mT, ev_cF, ev_cO, ev_cB, ev_dd, ev_ds, ev_d0, ev_dc, ev_opr, ev_unr, ev_nl, ev_cns, ev_cbr, ev_ab, ev_ai, ev_tst', ev_an, ev_orr, ev_nt, ev_anV, ev_orV', ev_ntV, ev_ifm, ev_ch, ev_tp, ev_ls, ev_cl, ev_cl0, ev_isr, ev_sqI, ev_sqL, ev_sqT, ev_sb, ev_ss, ev_sn, ev_sa, ev_so, ev_sr, ev_sdr, ev_si, ev_sp, ev_p0, ev_pF, ev_pT, ev_sf, ev_hn, ev_ht, ev_hc, ev_h0, ev_cal, ev_f1, ev_f2, ev_f3, ev_f4, ev_cmp, ev_add, ev_sub, ev_mod, ev_fdv, ev_isn, ev_n1, ev_n2, ev_n3, ev_n4, ev_ixL, ev_ixT, ev_a0, ev_a1, ev_a2, ev_lL, ev_lT, ev_tL, ev_tT, ev_liT, ev_abs, ev_mx, ev_mn, ev_mx3, ev_t1, ev_t2, ev_t3, ev_eqI, ev_neI, List.getElem?_cons_zero, List.getElem?_cons_succ, List.set_cons_zero, List.set_cons_succ, List.length_cons, List.length_nil, List.map_cons, List.map_nil, List.replicate_succ, List.replicate_zero, List.cons_append, List.nil_append, List.append_nil, Option.bind_some, Option.map_some, Nat.reduceAdd, Nat.reduceSub, Nat.reduceLT, Nat.reduceLeDiff, Nat.reduceEqDiff, if_true, if_false, reduceIte, Bool.false_eq_true, wipeR, restR, pInt, pIs, whole, tyName]
def encR : Option Tm → D
  | none => .str "none"
  | some t => oD t
theorem eqF_R (a b : Option Tm) : eqF (encR a) (encR b) = some (.bool (decide (a = b))) := by
  have h : dOk (encR a) (encR b) = true := by
    rcases a with _ | _ | _ <;> rcases b with _ | _ | _ <;> rfl
  unfold eqF
  rw [if_pos h]
  congr 2
  rcases a with _ | _ | a <;> rcases b with _ | _ | b <;> first
    | rfl
    | (show (a == b) = _
       by_cases h : a = b <;> simp [h])
theorem neF_R (a b : Option Tm) : neF (encR a) (encR b) = some (.bool (!decide (a = b))) := by
  have h : dOk (encR a) (encR b) = true := by
    rcases a with _ | _ | _ <;> rcases b with _ | _ | _ <;> rfl
  have e := eqF_R a b
  unfold eqF at e
  unfold neF
  rw [if_pos h] at e ⊢
  injection e with e
  injection e with e
  rw [e]
theorem isT (d : D) : isF true d .none = some (.bool (!isNoneD d)) := by cases d <;> rfl
theorem w_rise (a b : Tm) : g_rise_between [oD a, oD b] = .ok (encR (rise a b)) := by
  cases a <;> cases b <;> simp -implicitDefEqProofs [g_rise_between, b_rise_between, ev_foc, ev_fo0, ev_app, ev_enm, ev_rs, ev_lc', ev_g0, ev_gc, ev_y, big, ev_bnd, ev_ret, ev_lfS, ev_lfN, ev_stk, ev_vr, ev_vrT, ev_mT, ev_cF, ev_cO, ev_cB, ev_dd, ev_ds, ev_d0, ev_dc, ev_opr, ev_unr, ev_nl, ev_cns, ev_cbr, ev_ab, ev_ai, ev_tst', ev_an, ev_orr, ev_nt, ev_anV, ev_orV', ev_ntV, ev_ifm, ev_ch, ev_tp, ev_ls, ev_cl, ev_cl0, ev_isr, ev_sqI, ev_sqL, ev_sqT, ev_sb, ev_ss, ev_sn, ev_sa, ev_so, ev_sr, ev_sdr, ev_si, ev_sp, ev_p0, ev_pF, ev_pT, ev_sf, ev_hn, ev_ht, ev_hc, ev_h0, ev_cal, ev_f1, ev_f2, ev_f3, ev_f4, ev_cmp, ev_add, ev_sub, ev_mod, ev_fdv, ev_isn, ev_n1, ev_n2, ev_n3, ev_n4, ev_ixL, ev_ixT, ev_a0, ev_a1, ev_a2, ev_lL, ev_lT, ev_tL, ev_tT, ev_liT, ev_abs, ev_mx, ev_mn, ev_mx3, ev_t1, ev_t2, ev_t3, ev_eqI, ev_neI, List.getElem?_cons_zero, List.getElem?_cons_succ, List.set_cons_zero, List.set_cons_succ, List.length_cons, List.length_nil, List.map_cons, List.map_nil, List.replicate_succ, List.replicate_zero, List.cons_append, List.nil_append, List.append_nil, Option.bind_some, Option.map_some, Nat.reduceAdd, Nat.reduceSub, Nat.reduceLT, Nat.reduceLeDiff, Nat.reduceEqDiff, if_true, if_false, reduceIte, Bool.false_eq_true, wipeR, restR, oD, encR, rise, isNoneD]
theorem atO {row : List Tm} {i : Int} {n : Nat} (e : i = n) (h : n < row.length) : atI (row.map oD) i = some (oD (row.getD n none)) := by
  rw [atMap oD row e h]
  simp [List.getD_eq_getElem?_getD, h]
theorem w_rises {R : D} {row : List Tm} (hR : SqD R (row.map oD)) (b c : Nat) (h : b + 2 * c ≤ row.length) (hb : row.length ≤ 100000) :
    g_rises_from [R, .int b, .int c] = .ok (.list ((List.range c).map fun i => encR (rise (row.getD (b + i) none) (row.getD (b + i + c) none)))) := by
  have e := mlc_map0 (fi := mRng2 (mCons (mVar 1) (mCons (mOp addF (mVarT 1) (mVarT 2)) mNil))) (h := hName 3) (fe := e0_rises_from) (vs := [3]) (ρ := [.fz R, .fz (.int b), .fz (.int c), .no]) (List.range c) (fun k : Nat => PyData.int ((b : Int) + (k : Int)))
    (fun i => encR (rise (row.getD (b + i) none) (row.getD (b + i + c) none))) ?_ (by simp [big]; omega) rfl (fun i hi => ⟨_, rfl, ?_, rfl⟩)
  · simp -implicitDefEqProofs only [g_rises_from, b_rises_from, ev_app, ev_enm, ev_rs, ev_y, big, ev_bnd, ev_ret, ev_lfS, ev_lfN, ev_stk, ev_vr, ev_vrT, ev_mT, ev_cF, ev_cO, ev_cB, ev_dd, ev_ds, ev_d0, ev_dc, ev_opr, ev_unr, ev_nl, ev_cns, ev_cbr, ev_ab, ev_ai, ev_tst', ev_an, ev_orr, ev_nt, ev_anV, ev_orV', ev_ntV, ev_ifm, ev_ch, ev_tp, ev_ls, ev_cl, ev_cl0, ev_isr, ev_sqI, ev_sqL, ev_sqT, ev_sb, ev_ss, ev_sn, ev_sa, ev_so, ev_sr, ev_sdr, ev_si, ev_sp, ev_p0, ev_pF, ev_pT, ev_sf, ev_hn, ev_ht, ev_hc, ev_h0, ev_cal, ev_f1, ev_f2, ev_f3, ev_f4, ev_cmp, ev_add, ev_sub, ev_isn, ev_n1, ev_n2, ev_n3, ev_n4, ev_ixL, ev_ixT, ev_a0, ev_a1, ev_a2, ev_lL, ev_lT, ev_tL, ev_tT, ev_liT, ev_abs, ev_mx, ev_mn, ev_mx3, ev_t1, ev_t2, ev_t3, ev_eqI, ev_neI, List.getElem?_cons_zero, List.getElem?_cons_succ, List.set_cons_zero, List.set_cons_succ, List.length_cons, List.length_nil, List.map_cons, List.map_nil, List.replicate_succ, List.replicate_zero, List.cons_append, List.nil_append, List.append_nil, Option.bind_some, Option.map_some, Nat.reduceAdd, Nat.reduceSub, Nat.reduceLT, Nat.reduceLeDiff, Nat.reduceEqDiff, if_true, if_false, reduceIte, Bool.false_eq_true, wipeR, restR, e]
  · have h1 : ((b : Int) + c ≤ 1000000 ∧ -1000000 ≤ (b : Int) + c) ∧ ((b : Int) ≤ 1000000 ∧ -1000000 ≤ (b : Int)) := by omega
    simp -implicitDefEqProofs only [ev_app, ev_enm, ev_rs, ev_y, big, ev_bnd, ev_ret, ev_lfS, ev_lfN, ev_stk, ev_vr, ev_vrT, ev_mT, ev_cF, ev_cO, ev_cB, ev_dd, ev_ds, ev_d0, ev_dc, ev_opr, ev_unr, ev_nl, ev_cns, ev_cbr, ev_ab, ev_ai, ev_tst', ev_an, ev_orr, ev_nt, ev_anV, ev_orV', ev_ntV, ev_ifm, ev_ch, ev_tp, ev_ls, ev_cl, ev_cl0, ev_isr, ev_sqI, ev_sqL, ev_sqT, ev_sb, ev_ss, ev_sn, ev_sa, ev_so, ev_sr, ev_sdr, ev_si, ev_sp, ev_p0, ev_pF, ev_pT, ev_sf, ev_hn, ev_ht, ev_hc, ev_h0, ev_cal, ev_f1, ev_f2, ev_f3, ev_f4, ev_cmp, ev_add, ev_sub, ev_isn, ev_n1, ev_n2, ev_n3, ev_n4, ev_ixL, ev_ixT, ev_a0, ev_a1, ev_a2, ev_lL, ev_lT, ev_tL, ev_tT, ev_liT, ev_abs, ev_mx, ev_mn, ev_mx3, ev_t1, ev_t2, ev_t3, ev_eqI, ev_neI, List.getElem?_cons_zero, List.getElem?_cons_succ, List.set_cons_zero, List.set_cons_succ, List.length_cons, List.length_nil, List.map_cons, List.map_nil, List.replicate_succ, List.replicate_zero, List.cons_append, List.nil_append, List.append_nil, Option.bind_some, Option.map_some, Nat.reduceAdd, Nat.reduceSub, Nat.reduceLT, Nat.reduceLeDiff, Nat.reduceEqDiff, if_true, if_false, reduceIte, Bool.false_eq_true, wipeR, restR, ev_rn2, if_pos h1, rangeD_map]
    congr 3
    omega
  · have hi := List.mem_range.mp hi
    have a1 := atO (row := row) (i := (b : Int) + (i : Int)) (n := b + i) (by simp) (by omega)
    have a2 := atO (row := row) (i := (b : Int) + (i : Int) + (c : Int)) (n := b + i + c) (by simp) (by omega)
    simp -implicitDefEqProofs only [e0_rises_from, ev_app, ev_enm, ev_rs, ev_y, big, ev_bnd, ev_ret, ev_lfS, ev_lfN, ev_stk, ev_vr, ev_vrT, ev_mT, ev_cF, ev_cO, ev_cB, ev_dd, ev_ds, ev_d0, ev_dc, ev_opr, ev_unr, ev_nl, ev_cns, ev_cbr, ev_ab, ev_ai, ev_tst', ev_an, ev_orr, ev_nt, ev_anV, ev_orV', ev_ntV, ev_ifm, ev_ch, ev_tp, ev_ls, ev_cl, ev_cl0, ev_isr, ev_sqI, ev_sqL, ev_sqT, ev_sb, ev_ss, ev_sn, ev_sa, ev_so, ev_sr, ev_sdr, ev_si, ev_sp, ev_p0, ev_pF, ev_pT, ev_sf, ev_hn, ev_ht, ev_hc, ev_h0, ev_cal, ev_f1, ev_f2, ev_f3, ev_f4, ev_cmp, ev_add, ev_sub, ev_isn, ev_n1, ev_n2, ev_n3, ev_n4, ev_ixL, ev_ixT, ev_a0, ev_a1, ev_a2, ev_lL, ev_lT, ev_tL, ev_tT, ev_liT, ev_abs, ev_mx, ev_mn, ev_mx3, ev_t1, ev_t2, ev_t3, ev_eqI, ev_neI, List.getElem?_cons_zero, List.getElem?_cons_succ, List.set_cons_zero, List.set_cons_succ, List.length_cons, List.length_nil, List.map_cons, List.map_nil, List.replicate_succ, List.replicate_zero, List.cons_append, List.nil_append, List.append_nil, Option.bind_some, Option.map_some, Nat.reduceAdd, Nat.reduceSub, Nat.reduceLT, Nat.reduceLeDiff, Nat.reduceEqDiff, if_true, if_false, reduceIte, Bool.false_eq_true, wipeR, restR, hR.ix, a1, a2, w_rise]
theorem small_n {n : Nat} (h : n < 1000000000000000000) : isSmall (n : Int) = true := by
  unfold isSmall
  rw [Bool.and_eq_true, decide_eq_true_eq, decide_eq_true_eq]
  omega
theorem mul_nat (a b : Nat) (h : a < 1000000000000) : mulF (.int a) (.int b) = some (.int ((a * b : Nat) : Int)) := by
  rw [ev_mul _ _ (by rw [small_n (by omega)]; rfl)]
  simp
theorem w_num {R Q : D} {row rs : List Tm} (hR : SqD R (row.map oD)) (hQ : SqD Q (rs.map oD)) (b p : Nat) (w : Wf row b rs) (hb : row.length ≤ 1100000) (hp : p < 100000000000) : g_number_at [R, .int b, Q, .int p] = .ok (oD (numAt row b rs p)) := by
  have hL := w.pos
  have hl := w.len
  by_cases h : p < b + rs.length
  · have a1 := atO (row := row) (i := (p : Int)) (n := p) rfl (by omega)
    have hd : ((p : Int) < (b : Int) + (rs.length : Int)) := by omega
    simp -implicitDefEqProofs only [g_number_at, b_number_at, ev_app, ev_enm, ev_rs, ev_y, big, ev_bnd, ev_ret, ev_lfS, ev_lfN, ev_stk, ev_vr, ev_vrT, ev_mT, ev_cF, ev_cO, ev_cB, ev_dd, ev_ds, ev_d0, ev_dc, ev_opr, ev_unr, ev_nl, ev_cns, ev_cbr, ev_ab, ev_ai, ev_tst', ev_an, ev_orr, ev_nt, ev_anV, ev_orV', ev_ntV, ev_ifm, ev_ch, ev_tp, ev_ls, ev_cl, ev_cl0, ev_isr, ev_sqI, ev_sqL, ev_sqT, ev_sb, ev_ss, ev_sn, ev_sa, ev_so, ev_sr, ev_sdr, ev_si, ev_sp, ev_p0, ev_pF, ev_pT, ev_sf, ev_hn, ev_ht, ev_hc, ev_h0, ev_cal, ev_f1, ev_f2, ev_f3, ev_f4, ev_cmp, ev_add, ev_sub, ev_isn, ev_n1, ev_n2, ev_n3, ev_n4, ev_ixL, ev_ixT, ev_a0, ev_a1, ev_a2, ev_lL, ev_lT, ev_tL, ev_tT, ev_liT, ev_abs, ev_mx, ev_mn, ev_mx3, ev_t1, ev_t2, ev_t3, ev_eqI, ev_neI, List.getElem?_cons_zero, List.getElem?_cons_succ, List.set_cons_zero, List.set_cons_succ, List.length_cons, List.length_nil, List.map_cons, List.map_nil, List.replicate_succ, List.replicate_zero, List.cons_append, List.nil_append, List.append_nil, Option.bind_some, Option.map_some, Nat.reduceAdd, Nat.reduceSub, Nat.reduceLT, Nat.reduceLeDiff, Nat.reduceEqDiff, if_true, if_false, reduceIte, Bool.false_eq_true, wipeR, restR, hR.ix, hQ.len, a1, List.length_map, ltF, hd, decide_true]
    unfold numAt
    rw [if_pos h]
  · have hd : ¬ ((p : Int) < (b : Int) + (rs.length : Int)) := by omega
    have hm : (p - b) % rs.length < rs.length := Nat.mod_lt _ hL
    have e1 : ((p : Int) - (b : Int)) % (rs.length : Int) = (((p - b) % rs.length : Nat) : Int) := by
      rw [show (p : Int) - (b : Int) = ((p - b : Nat) : Int) by omega]
      simp
    have e2 : ((p : Int) - (b : Int)) / (rs.length : Int) = (((p - b) / rs.length : Nat) : Int) := by
      rw [show (p : Int) - (b : Int) = ((p - b : Nat) : Int) by omega]
      simp
    have a1 := atO (row := row) (i := (b : Int) + (((p - b) % rs.length : Nat) : Int)) (n := b + (p - b) % rs.length) (by simp) (by omega)
    have a2 := atO (row := rs) (i := (((p - b) % rs.length : Nat) : Int)) (n := (p - b) % rs.length) rfl hm
    have hpos : (0 : Int) < (rs.length : Int) := by omega
    have hsm : (rs.length : Int).natAbs < 2 ^ 400 := by
      have : (rs.length : Int).natAbs = rs.length := by omega
      rw [this]
      exact Nat.lt_of_le_of_lt (show rs.length ≤ 1100000 by omega) (by decide)
    have hk := (w.non _ hm)
    have mm : ∀ q : Int, mulF (.int (((p - b) / rs.length : Nat) : Int)) (.int q) = some (.int ((((p - b) / rs.length : Nat) : Int) * q)) := fun q => ev_mul _ _ (by
      have : (p - b) / rs.length ≤ p - b := Nat.div_le_self _ _
      rw [small_n (by omega)]
      rfl)
    simp -implicitDefEqProofs only [g_number_at, b_number_at, ev_app, ev_enm, ev_rs, ev_y, big, ev_bnd, ev_ret, ev_lfS, ev_lfN, ev_stk, ev_vr, ev_vrT, ev_mT, ev_cF, ev_cO, ev_cB, ev_dd, ev_ds, ev_d0, ev_dc, ev_opr, ev_unr, ev_nl, ev_cns, ev_cbr, ev_ab, ev_ai, ev_tst', ev_an, ev_orr, ev_nt, ev_anV, ev_orV', ev_ntV, ev_ifm, ev_ch, ev_tp, ev_ls, ev_cl, ev_cl0, ev_isr, ev_sqI, ev_sqL, ev_sqT, ev_sb, ev_ss, ev_sn, ev_sa, ev_so, ev_sr, ev_sdr, ev_si, ev_sp, ev_p0, ev_pF, ev_pT, ev_sf, ev_hn, ev_ht, ev_hc, ev_h0, ev_cal, ev_f1, ev_f2, ev_f3, ev_f4, ev_cmp, ev_add, ev_sub, ev_isn, ev_n1, ev_n2, ev_n3, ev_n4, ev_ixL, ev_ixT, ev_a0, ev_a1, ev_a2, ev_lL, ev_lT, ev_tL, ev_tT, ev_liT, ev_abs, ev_mx, ev_mn, ev_mx3, ev_t1, ev_t2, ev_t3, ev_eqI, ev_neI, List.getElem?_cons_zero, List.getElem?_cons_succ, List.set_cons_zero, List.set_cons_succ, List.length_cons, List.length_nil, List.map_cons, List.map_nil, List.replicate_succ, List.replicate_zero, List.cons_append, List.nil_append, List.append_nil, Option.bind_some, Option.map_some, Nat.reduceAdd, Nat.reduceSub, Nat.reduceLT, Nat.reduceLeDiff, Nat.reduceEqDiff, if_true, if_false, reduceIte, Bool.false_eq_true, wipeR, restR, hR.ix, hQ.len, hQ.ix, a1, a2, List.length_map, ltF, hd, decide_false, md0 hpos, fd0 hpos hsm, e1, e2]
    unfold numAt
    rw [if_neg h]
    cases q1 : row.getD (b + (p - b) % rs.length) none with
    | none => simp -implicitDefEqProofs only [ev_app, ev_enm, ev_rs, ev_y, big, ev_bnd, ev_ret, ev_lfS, ev_lfN, ev_stk, ev_vr, ev_vrT, ev_mT, ev_cF, ev_cO, ev_cB, ev_dd, ev_ds, ev_d0, ev_dc, ev_opr, ev_unr, ev_nl, ev_cns, ev_cbr, ev_ab, ev_ai, ev_tst', ev_an, ev_orr, ev_nt, ev_anV, ev_orV', ev_ntV, ev_ifm, ev_ch, ev_tp, ev_ls, ev_cl, ev_cl0, ev_isr, ev_sqI, ev_sqL, ev_sqT, ev_sb, ev_ss, ev_sn, ev_sa, ev_so, ev_sr, ev_sdr, ev_si, ev_sp, ev_p0, ev_pF, ev_pT, ev_sf, ev_hn, ev_ht, ev_hc, ev_h0, ev_cal, ev_f1, ev_f2, ev_f3, ev_f4, ev_cmp, ev_add, ev_sub, ev_isn, ev_n1, ev_n2, ev_n3, ev_n4, ev_ixL, ev_ixT, ev_a0, ev_a1, ev_a2, ev_lL, ev_lT, ev_tL, ev_tT, ev_liT, ev_abs, ev_mx, ev_mn, ev_mx3, ev_t1, ev_t2, ev_t3, ev_eqI, ev_neI, List.getElem?_cons_zero, List.getElem?_cons_succ, List.set_cons_zero, List.set_cons_succ, List.length_cons, List.length_nil, List.map_cons, List.map_nil, List.replicate_succ, List.replicate_zero, List.cons_append, List.nil_append, List.append_nil, Option.bind_some, Option.map_some, Nat.reduceAdd, Nat.reduceSub, Nat.reduceLT, Nat.reduceLeDiff, Nat.reduceEqDiff, if_true, if_false, reduceIte, Bool.false_eq_true, wipeR, restR, oD, isNoneD]
    | some v =>
      cases q2 : rs.getD ((p - b) % rs.length) none with
      | none => rw [hk.mpr q2] at q1; cases q1
      | some q =>
        rw [q1] at a1
        rw [q2] at a2
        simp -implicitDefEqProofs only [ev_app, ev_enm, ev_rs, ev_y, big, ev_bnd, ev_ret, ev_lfS, ev_lfN, ev_stk, ev_vr, ev_vrT, ev_mT, ev_cF, ev_cO, ev_cB, ev_dd, ev_ds, ev_d0, ev_dc, ev_opr, ev_unr, ev_nl, ev_cns, ev_cbr, ev_ab, ev_ai, ev_tst', ev_an, ev_orr, ev_nt, ev_anV, ev_orV', ev_ntV, ev_ifm, ev_ch, ev_tp, ev_ls, ev_cl, ev_cl0, ev_isr, ev_sqI, ev_sqL, ev_sqT, ev_sb, ev_ss, ev_sn, ev_sa, ev_so, ev_sr, ev_sdr, ev_si, ev_sp, ev_p0, ev_pF, ev_pT, ev_sf, ev_hn, ev_ht, ev_hc, ev_h0, ev_cal, ev_f1, ev_f2, ev_f3, ev_f4, ev_cmp, ev_add, ev_sub, ev_isn, ev_n1, ev_n2, ev_n3, ev_n4, ev_ixL, ev_ixT, ev_a0, ev_a1, ev_a2, ev_lL, ev_lT, ev_tL, ev_tT, ev_liT, ev_abs, ev_mx, ev_mn, ev_mx3, ev_t1, ev_t2, ev_t3, ev_eqI, ev_neI, List.getElem?_cons_zero, List.getElem?_cons_succ, List.set_cons_zero, List.set_cons_succ, List.length_cons, List.length_nil, List.map_cons, List.map_nil, List.replicate_succ, List.replicate_zero, List.cons_append, List.nil_append, List.append_nil, Option.bind_some, Option.map_some, Nat.reduceAdd, Nat.reduceSub, Nat.reduceLT, Nat.reduceLeDiff, Nat.reduceEqDiff, if_true, if_false, reduceIte, Bool.false_eq_true, wipeR, restR, hR.ix, hQ.ix, hQ.len, a1, a2, List.length_map, fd0 hpos hsm, e2, oD, isNoneD, Bool.false_eq_true, mm]
end Rn
end

section
set_option Elab.async false
set_option linter.all false
set_option maxRecDepth 100000
set_option maxHeartbeats 4000000
/-! FormH: is_period, canonical, is_form, number. -/
namespace Rn
open PySem PySem.Spec L2
theorem ev_sl' (a : M TV) (b c : M (Option Int)) (r : Rho) : mSl slF a b c r = bnd a (fun x => bnd b fun y => bnd c fun z => fun ρ => match deref ρ x with | some d => lft (slF d y z) ρ | none => .no) r := rfl
theorem ev_np (r : Rho) : mNoPart r = .ok none r := rfl
theorem ev_pt (f : M D) (r : Rho) : mPart f r = bnd f (fun d => lft ((asInt d).map some)) r := rfl
theorem ev_neg (i : Int) : negF (.int i) = some (.int (-i)) := rfl
theorem slL (ds : List D) (a b : Option Int) : slF (.list ds) a b = some (.list (cutD ds a b)) := rfl
theorem slT (ds : List D) (a b : Option Int) : slF (.tuple ds) a b = some (.tuple (cutD ds a b)) := rfl
theorem cut_to (ds : List D) {i : Int} {n : Nat} (e : i = n) (h : n ≤ ds.length) : cutD ds none (some i) = ds.take n := by
  subst e
  unfold cutD
  rw [HT.sIx_nat, HT.sIx_none, Nat.min_eq_left h]
  simp
theorem cut_init (ds : List D) : cutD ds none (some (-1)) = ds.dropLast := by
  unfold cutD HT.sIx
  rw [List.dropLast_eq_take]
  simp
  first
  | done
  | (congr 1; omega)
theorem cut_from (ds : List D) {i : Int} {n : Nat} (e : i = n) : cutD ds (some i) none = ds.drop n := by
  subst e
  unfold cutD
  rw [HT.sIx_nat, HT.sIx_none]
  by_cases h : n ≤ ds.length
  · rw [Nat.min_eq_left h]
    exact List.take_of_length_le (by simp)
  · rw [Nat.min_eq_right (by omega)]
    rw [List.drop_eq_nil_of_le (show ds.length ≤ n by omega)]
    simp
theorem two_mul' (n : Nat) : mulF (.int 2) (.int (n : Int)) = some (.int ((2 * n : Nat) : Int)) := by
  have := mul_nat 2 n (by decide)
  simpa using this
theorem rng1_ok {f : M (List D)} {r : Rho} {n : Nat} (h : f r = .ok [.int (n : Int)] r) (hn : n ≤ 1000000) : mRng1 f r = .ok ((List.range n).map fun k : Nat => PyData.int (0 + (k : Int))) r := by
  rw [ev_rn1, ev_bnd, h]
  have h1 : (n : Int) ≤ 1000000 ∧ -1000000 ≤ (n : Int) := by omega
  simp only [if_pos h1, rangeD_map, ev_ret, Int.toNat_natCast]
theorem eqF_Rn (a : Option Tm) : eqF (encR a) (.str "none") = some (.bool (decide (a = none))) := eqF_R a none
theorem w_period {R Q : D} {row rs : List Tm} (hR : SqD R (row.map oD)) (hQ : SqD Q (rs.map oD)) (b c : Nat) (w : Wf row b rs) (hb : row.length ≤ 100000) (hc : c ≤ 100000) : g_is_period [R, .int b, Q, .int c] = .ok (.bool (perB (numAt row b rs) b rs.length c)) := by
  have hl := w.len
  generalize hr : numAt row b rs = r
  have hn : ∀ p, p < 10000000 → g_number_at [R, .int b, Q, .int (p : Nat)] = .ok (oD (r p)) := fun p hp => by
    rw [← hr]
    exact w_num hR hQ b p w (by omega) (by omega)
  obtain ⟨sm, hsm⟩ : ∃ sm, sm = (List.range (2 * rs.length + 2 * c)).map fun i => r (b + i) := ⟨_, rfl⟩
  have hsl : sm.length = 2 * rs.length + 2 * c := by simp [hsm]
  have hsg : ∀ i, i < 2 * rs.length + 2 * c → sm.getD i none = r (b + i) := fun i hi => by
    rw [hsm, getD_map _ _ _ _ (by simpa using hi)]
    simp
  have e1 : mLc (mRng1 (mCons (mOp addF (mT (mOp mulF (mT (ret (.int 2))) (mT (mCB lenF (mCons (mVarT 2) (mNil)))))) (mT (mOp mulF (mT (ret (.int 2))) (mVarT 3)))) (mNil))) (hName 5) mYes e0_is_period [5] [.fz R, .fz (.int b), .fz Q, .fz (.int c), .no, .no, .no, .no] = .ok (.list (sm.map oD)) [.fz R, .fz (.int b), .fz Q, .fz (.int c), .no, .no, .no, .no] := by
    rw [hsm, List.map_map]
    refine mlc_map0 (List.range (2 * rs.length + 2 * c)) (fun k : Nat => PyData.int (0 + (k : Int))) _ (rng1_ok ?_ (by omega)) (by simp [big]; omega) rfl (fun i hi => ⟨_, rfl, ?_, rfl⟩)
    · simp -implicitDefEqProofs only [ev_app, ev_enm, ev_rs, ev_y, big, ev_bnd, ev_ret, ev_lfS, ev_lfN, ev_stk, ev_vr, ev_vrT, ev_mT, ev_cF, ev_cO, ev_cB, ev_dd, ev_ds, ev_d0, ev_dc, ev_opr, ev_unr, ev_nl, ev_cns, ev_cbr, ev_ab, ev_ai, ev_tst', ev_an, ev_orr, ev_nt, ev_anV, ev_orV', ev_ntV, ev_ifm, ev_ch, ev_tp, ev_ls, ev_cl, ev_cl0, ev_isr, ev_sqI, ev_sqL, ev_sqT, ev_sb, ev_ss, ev_sn, ev_sa, ev_so, ev_sr, ev_sdr, ev_si, ev_sp, ev_p0, ev_pF, ev_pT, ev_sf, ev_hn, ev_ht, ev_hc, ev_h0, ev_cal, ev_f1, ev_f2, ev_f3, ev_f4, ev_cmp, ev_add, ev_sub, ev_isn, ev_n1, ev_n2, ev_n3, ev_n4, ev_ixL, ev_ixT, ev_a0, ev_a1, ev_a2, ev_lL, ev_lT, ev_tL, ev_tT, ev_liT, ev_abs, ev_mx, ev_mn, ev_mx3, ev_t1, ev_t2, ev_t3, ev_eqI, ev_neI, List.getElem?_cons_zero, List.getElem?_cons_succ, List.set_cons_zero, List.set_cons_succ, List.length_cons, List.length_nil, List.map_cons, List.map_nil, List.replicate_succ, List.replicate_zero, List.cons_append, List.nil_append, List.append_nil, Option.bind_some, Option.map_some, Nat.reduceAdd, Nat.reduceSub, Nat.reduceLT, Nat.reduceLeDiff, Nat.reduceEqDiff, if_true, if_false, reduceIte, Bool.false_eq_true, wipeR, restR, hQ.len, List.length_map, two_mul']
      congr 3
    · have hi := List.mem_range.mp hi
      have := hn (b + i) (by omega)
      rw [show ((b + i : Nat) : Int) = (b : Int) + (0 + (i : Int)) by omega] at this
      simp -implicitDefEqProofs only [e0_is_period, ev_app, ev_enm, ev_rs, ev_y, big, ev_bnd, ev_ret, ev_lfS, ev_lfN, ev_stk, ev_vr, ev_vrT, ev_mT, ev_cF, ev_cO, ev_cB, ev_dd, ev_ds, ev_d0, ev_dc, ev_opr, ev_unr, ev_nl, ev_cns, ev_cbr, ev_ab, ev_ai, ev_tst', ev_an, ev_orr, ev_nt, ev_anV, ev_orV', ev_ntV, ev_ifm, ev_ch, ev_tp, ev_ls, ev_cl, ev_cl0, ev_isr, ev_sqI, ev_sqL, ev_sqT, ev_sb, ev_ss, ev_sn, ev_sa, ev_so, ev_sr, ev_sdr, ev_si, ev_sp, ev_p0, ev_pF, ev_pT, ev_sf, ev_hn, ev_ht, ev_hc, ev_h0, ev_cal, ev_f1, ev_f2, ev_f3, ev_f4, ev_cmp, ev_add, ev_sub, ev_isn, ev_n1, ev_n2, ev_n3, ev_n4, ev_ixL, ev_ixT, ev_a0, ev_a1, ev_a2, ev_lL, ev_lT, ev_tL, ev_tT, ev_liT, ev_abs, ev_mx, ev_mn, ev_mx3, ev_t1, ev_t2, ev_t3, ev_eqI, ev_neI, List.getElem?_cons_zero, List.getElem?_cons_succ, List.set_cons_zero, List.set_cons_succ, List.length_cons, List.length_nil, List.map_cons, List.map_nil, List.replicate_succ, List.replicate_zero, List.cons_append, List.nil_append, List.append_nil, Option.bind_some, Option.map_some, Nat.reduceAdd, Nat.reduceSub, Nat.reduceLT, Nat.reduceLeDiff, Nat.reduceEqDiff, if_true, if_false, reduceIte, Bool.false_eq_true, wipeR, restR, this, Function.comp]
  have lk := for_look (h := hName 5) (b := l1_is_period) (fun k : Nat => PyData.int (0 + (k : Int))) (fun ρ => ∃ x y z, ρ = [.fz R, .fz (.int b), .fz Q, .fz (.int c), .fz (.list (sm.map oD)), x, y, z]) (fun i => gdB r c (b + i)) (.bool false) (List.range (2 * rs.length))
    (ρ0 := [.fz R, .fz (.int b), .fz Q, .fz (.int c), .fz (.list (sm.map oD)), .no, .no, .no]) ⟨_, _, _, rfl⟩ (fun i hi ρ hI => by
      obtain ⟨x, y, z, rfl⟩ := hI
      refine ⟨_, rfl, ?_⟩
      have hi := List.mem_range.mp hi
      have a1 := atO (row := sm) (i := 0 + (i : Int)) (n := i) (by omega) (by omega)
      have a2 := atO (row := sm) (i := 0 + (i : Int) + (c : Int)) (n := i + c) (by omega) (by omega)
      have a3 := atO (row := sm) (i := 0 + (i : Int) + ((2 * c : Nat) : Int)) (n := i + 2 * c) (by omega) (by omega)
      rw [hsg _ (by omega)] at a1 a2 a3
      rw [← Nat.add_assoc] at a2 a3
      simp -implicitDefEqProofs only [l1_is_period, ev_app, ev_enm, ev_rs, ev_y, big, ev_bnd, ev_ret, ev_lfS, ev_lfN, ev_stk, ev_vr, ev_vrT, ev_mT, ev_cF, ev_cO, ev_cB, ev_dd, ev_ds, ev_d0, ev_dc, ev_opr, ev_unr, ev_nl, ev_cns, ev_cbr, ev_ab, ev_ai, ev_tst', ev_an, ev_orr, ev_nt, ev_anV, ev_orV', ev_ntV, ev_ifm, ev_ch, ev_tp, ev_ls, ev_cl, ev_cl0, ev_isr, ev_sqI, ev_sqL, ev_sqT, ev_sb, ev_ss, ev_sn, ev_sa, ev_so, ev_sr, ev_sdr, ev_si, ev_sp, ev_p0, ev_pF, ev_pT, ev_sf, ev_hn, ev_ht, ev_hc, ev_h0, ev_cal, ev_f1, ev_f2, ev_f3, ev_f4, ev_cmp, ev_add, ev_sub, ev_isn, ev_n1, ev_n2, ev_n3, ev_n4, ev_ixL, ev_ixT, ev_a0, ev_a1, ev_a2, ev_lL, ev_lT, ev_tL, ev_tT, ev_liT, ev_abs, ev_mx, ev_mn, ev_mx3, ev_t1, ev_t2, ev_t3, ev_eqI, ev_neI, List.getElem?_cons_zero, List.getElem?_cons_succ, List.set_cons_zero, List.set_cons_succ, List.length_cons, List.length_nil, List.map_cons, List.map_nil, List.replicate_succ, List.replicate_zero, List.cons_append, List.nil_append, List.append_nil, Option.bind_some, Option.map_some, Nat.reduceAdd, Nat.reduceSub, Nat.reduceLT, Nat.reduceLeDiff, Nat.reduceEqDiff, if_true, if_false, reduceIte, Bool.false_eq_true, wipeR, restR, a1, a2, a3, two_mul', w_rise, eqF_Rn, neF_R, gdB]
      by_cases q1 : rise (r (b + i)) (r (b + i + c)) = none
      · have ng : ¬ gd r c (b + i) := fun z => z.1 q1
        simp -implicitDefEqProofs [ev_app, ev_enm, ev_rs, ev_y, big, ev_bnd, ev_ret, ev_lfS, ev_lfN, ev_stk, ev_vr, ev_vrT, ev_mT, ev_cF, ev_cO, ev_cB, ev_dd, ev_ds, ev_d0, ev_dc, ev_opr, ev_unr, ev_nl, ev_cns, ev_cbr, ev_ab, ev_ai, ev_tst', ev_an, ev_orr, ev_nt, ev_anV, ev_orV', ev_ntV, ev_ifm, ev_ch, ev_tp, ev_ls, ev_cl, ev_cl0, ev_isr, ev_sqI, ev_sqL, ev_sqT, ev_sb, ev_ss, ev_sn, ev_sa, ev_so, ev_sr, ev_sdr, ev_si, ev_sp, ev_p0, ev_pF, ev_pT, ev_sf, ev_hn, ev_ht, ev_hc, ev_h0, ev_cal, ev_f1, ev_f2, ev_f3, ev_f4, ev_cmp, ev_add, ev_sub, ev_isn, ev_n1, ev_n2, ev_n3, ev_n4, ev_ixL, ev_ixT, ev_a0, ev_a1, ev_a2, ev_lL, ev_lT, ev_tL, ev_tT, ev_liT, ev_abs, ev_mx, ev_mn, ev_mx3, ev_t1, ev_t2, ev_t3, ev_eqI, ev_neI, List.getElem?_cons_zero, List.getElem?_cons_succ, List.set_cons_zero, List.set_cons_succ, List.length_cons, List.length_nil, List.map_cons, List.map_nil, List.replicate_succ, List.replicate_zero, List.cons_append, List.nil_append, List.append_nil, Option.bind_some, Option.map_some, Nat.reduceAdd, Nat.reduceSub, Nat.reduceLT, Nat.reduceLeDiff, Nat.reduceEqDiff, if_true, if_false, reduceIte, Bool.false_eq_true, wipeR, restR, q1, ng]
      · by_cases q2 : rise (r (b + i)) (r (b + i + c)) = rise (r (b + i + c)) (r (b + i + 2 * c))
        · have ng : gd r c (b + i) := ⟨q1, q2⟩
          have q3 : ¬ rise (r (b + i + c)) (r (b + i + 2 * c)) = none := by rw [← q2]; exact q1
          simp -implicitDefEqProofs [ev_app, ev_enm, ev_rs, ev_y, big, ev_bnd, ev_ret, ev_lfS, ev_lfN, ev_stk, ev_vr, ev_vrT, ev_mT, ev_cF, ev_cO, ev_cB, ev_dd, ev_ds, ev_d0, ev_dc, ev_opr, ev_unr, ev_nl, ev_cns, ev_cbr, ev_ab, ev_ai, ev_tst', ev_an, ev_orr, ev_nt, ev_anV, ev_orV', ev_ntV, ev_ifm, ev_ch, ev_tp, ev_ls, ev_cl, ev_cl0, ev_isr, ev_sqI, ev_sqL, ev_sqT, ev_sb, ev_ss, ev_sn, ev_sa, ev_so, ev_sr, ev_sdr, ev_si, ev_sp, ev_p0, ev_pF, ev_pT, ev_sf, ev_hn, ev_ht, ev_hc, ev_h0, ev_cal, ev_f1, ev_f2, ev_f3, ev_f4, ev_cmp, ev_add, ev_sub, ev_isn, ev_n1, ev_n2, ev_n3, ev_n4, ev_ixL, ev_ixT, ev_a0, ev_a1, ev_a2, ev_lL, ev_lT, ev_tL, ev_tT, ev_liT, ev_abs, ev_mx, ev_mn, ev_mx3, ev_t1, ev_t2, ev_t3, ev_eqI, ev_neI, List.getElem?_cons_zero, List.getElem?_cons_succ, List.set_cons_zero, List.set_cons_succ, List.length_cons, List.length_nil, List.map_cons, List.map_nil, List.replicate_succ, List.replicate_zero, List.cons_append, List.nil_append, List.append_nil, Option.bind_some, Option.map_some, Nat.reduceAdd, Nat.reduceSub, Nat.reduceLT, Nat.reduceLeDiff, Nat.reduceEqDiff, if_true, if_false, reduceIte, Bool.false_eq_true, wipeR, restR, neF_R, q2, q3, ng]
        · have ng : ¬ gd r c (b + i) := fun z => q2 z.2
          simp -implicitDefEqProofs [ev_app, ev_enm, ev_rs, ev_y, big, ev_bnd, ev_ret, ev_lfS, ev_lfN, ev_stk, ev_vr, ev_vrT, ev_mT, ev_cF, ev_cO, ev_cB, ev_dd, ev_ds, ev_d0, ev_dc, ev_opr, ev_unr, ev_nl, ev_cns, ev_cbr, ev_ab, ev_ai, ev_tst', ev_an, ev_orr, ev_nt, ev_anV, ev_orV', ev_ntV, ev_ifm, ev_ch, ev_tp, ev_ls, ev_cl, ev_cl0, ev_isr, ev_sqI, ev_sqL, ev_sqT, ev_sb, ev_ss, ev_sn, ev_sa, ev_so, ev_sr, ev_sdr, ev_si, ev_sp, ev_p0, ev_pF, ev_pT, ev_sf, ev_hn, ev_ht, ev_hc, ev_h0, ev_cal, ev_f1, ev_f2, ev_f3, ev_f4, ev_cmp, ev_add, ev_sub, ev_isn, ev_n1, ev_n2, ev_n3, ev_n4, ev_ixL, ev_ixT, ev_a0, ev_a1, ev_a2, ev_lL, ev_lT, ev_tL, ev_tT, ev_liT, ev_abs, ev_mx, ev_mn, ev_mx3, ev_t1, ev_t2, ev_t3, ev_eqI, ev_neI, List.getElem?_cons_zero, List.getElem?_cons_succ, List.set_cons_zero, List.set_cons_succ, List.length_cons, List.length_nil, List.map_cons, List.map_nil, List.replicate_succ, List.replicate_zero, List.cons_append, List.nil_append, List.append_nil, Option.bind_some, Option.map_some, Nat.reduceAdd, Nat.reduceSub, Nat.reduceLT, Nat.reduceLeDiff, Nat.reduceEqDiff, if_true, if_false, reduceIte, Bool.false_eq_true, wipeR, restR, neF_R, q1, q2, ng])
  have e2 : mRng1 (mCons (mOp mulF (mT (ret (.int 2))) (mT (mCB lenF (mCons (mVarT 2) (mNil))))) (mNil)) [.fz R, .fz (.int b), .fz Q, .fz (.int c), .fz (.list (sm.map oD)), .no, .no, .no] = .ok ((List.range (2 * rs.length)).map fun k : Nat => PyData.int (0 + (k : Int))) [.fz R, .fz (.int b), .fz Q, .fz (.int c), .fz (.list (sm.map oD)), .no, .no, .no] := by
    refine rng1_ok ?_ (by omega)
    simp -implicitDefEqProofs only [ev_app, ev_enm, ev_rs, ev_y, big, ev_bnd, ev_ret, ev_lfS, ev_lfN, ev_stk, ev_vr, ev_vrT, ev_mT, ev_cF, ev_cO, ev_cB, ev_dd, ev_ds, ev_d0, ev_dc, ev_opr, ev_unr, ev_nl, ev_cns, ev_cbr, ev_ab, ev_ai, ev_tst', ev_an, ev_orr, ev_nt, ev_anV, ev_orV', ev_ntV, ev_ifm, ev_ch, ev_tp, ev_ls, ev_cl, ev_cl0, ev_isr, ev_sqI, ev_sqL, ev_sqT, ev_sb, ev_ss, ev_sn, ev_sa, ev_so, ev_sr, ev_sdr, ev_si, ev_sp, ev_p0, ev_pF, ev_pT, ev_sf, ev_hn, ev_ht, ev_hc, ev_h0, ev_cal, ev_f1, ev_f2, ev_f3, ev_f4, ev_cmp, ev_add, ev_sub, ev_isn, ev_n1, ev_n2, ev_n3, ev_n4, ev_ixL, ev_ixT, ev_a0, ev_a1, ev_a2, ev_lL, ev_lT, ev_tL, ev_tT, ev_liT, ev_abs, ev_mx, ev_mn, ev_mx3, ev_t1, ev_t2, ev_t3, ev_eqI, ev_neI, List.getElem?_cons_zero, List.getElem?_cons_succ, List.set_cons_zero, List.set_cons_succ, List.length_cons, List.length_nil, List.map_cons, List.map_nil, List.replicate_succ, List.replicate_zero, List.cons_append, List.nil_append, List.append_nil, Option.bind_some, Option.map_some, Nat.reduceAdd, Nat.reduceSub, Nat.reduceLT, Nat.reduceLeDiff, Nat.reduceEqDiff, if_true, if_false, reduceIte, Bool.false_eq_true, wipeR, restR, hQ.len, List.length_map, two_mul']
  simp -implicitDefEqProofs only [g_is_period, b_is_period, ev_app, ev_enm, ev_rs, ev_y, big, ev_bnd, ev_ret, ev_lfS, ev_lfN, ev_stk, ev_vr, ev_vrT, ev_mT, ev_cF, ev_cO, ev_cB, ev_dd, ev_ds, ev_d0, ev_dc, ev_opr, ev_unr, ev_nl, ev_cns, ev_cbr, ev_ab, ev_ai, ev_tst', ev_an, ev_orr, ev_nt, ev_anV, ev_orV', ev_ntV, ev_ifm, ev_ch, ev_tp, ev_ls, ev_cl, ev_cl0, ev_isr, ev_sqI, ev_sqL, ev_sqT, ev_sb, ev_ss, ev_sn, ev_sa, ev_so, ev_sr, ev_sdr, ev_si, ev_sp, ev_p0, ev_pF, ev_pT, ev_sf, ev_hn, ev_ht, ev_hc, ev_h0, ev_cal, ev_f1, ev_f2, ev_f3, ev_f4, ev_cmp, ev_add, ev_sub, ev_isn, ev_n1, ev_n2, ev_n3, ev_n4, ev_ixL, ev_ixT, ev_a0, ev_a1, ev_a2, ev_lL, ev_lT, ev_tL, ev_tT, ev_liT, ev_abs, ev_mx, ev_mn, ev_mx3, ev_t1, ev_t2, ev_t3, ev_eqI, ev_neI, List.getElem?_cons_zero, List.getElem?_cons_succ, List.set_cons_zero, List.set_cons_succ, List.length_cons, List.length_nil, List.map_cons, List.map_nil, List.replicate_succ, List.replicate_zero, List.cons_append, List.nil_append, List.append_nil, Option.bind_some, Option.map_some, Nat.reduceAdd, Nat.reduceSub, Nat.reduceLT, Nat.reduceLeDiff, Nat.reduceEqDiff, if_true, if_false, reduceIte, Bool.false_eq_true, wipeR, restR, e1, e2]
  unfold perB
  cases hall : (List.range (2 * rs.length)).all (fun i => gdB r c (b + i)) with
  | true =>
    rw [hall] at lk
    simp only [if_true] at lk
    obtain ⟨ρ', e3, x, y, z, rfl⟩ := lk
    simp -implicitDefEqProofs only [e3, ev_app, ev_enm, ev_rs, ev_y, big, ev_bnd, ev_ret, ev_lfS, ev_lfN, ev_stk, ev_vr, ev_vrT, ev_mT, ev_cF, ev_cO, ev_cB, ev_dd, ev_ds, ev_d0, ev_dc, ev_opr, ev_unr, ev_nl, ev_cns, ev_cbr, ev_ab, ev_ai, ev_tst', ev_an, ev_orr, ev_nt, ev_anV, ev_orV', ev_ntV, ev_ifm, ev_ch, ev_tp, ev_ls, ev_cl, ev_cl0, ev_isr, ev_sqI, ev_sqL, ev_sqT, ev_sb, ev_ss, ev_sn, ev_sa, ev_so, ev_sr, ev_sdr, ev_si, ev_sp, ev_p0, ev_pF, ev_pT, ev_sf, ev_hn, ev_ht, ev_hc, ev_h0, ev_cal, ev_f1, ev_f2, ev_f3, ev_f4, ev_cmp, ev_add, ev_sub, ev_isn, ev_n1, ev_n2, ev_n3, ev_n4, ev_ixL, ev_ixT, ev_a0, ev_a1, ev_a2, ev_lL, ev_lT, ev_tL, ev_tT, ev_liT, ev_abs, ev_mx, ev_mn, ev_mx3, ev_t1, ev_t2, ev_t3, ev_eqI, ev_neI, List.getElem?_cons_zero, List.getElem?_cons_succ, List.set_cons_zero, List.set_cons_succ, List.length_cons, List.length_nil, List.map_cons, List.map_nil, List.replicate_succ, List.replicate_zero, List.cons_append, List.nil_append, List.append_nil, Option.bind_some, Option.map_some, Nat.reduceAdd, Nat.reduceSub, Nat.reduceLT, Nat.reduceLeDiff, Nat.reduceEqDiff, if_true, if_false, reduceIte, Bool.false_eq_true, wipeR, restR]
  | false =>
    rw [hall] at lk
    simp only [Bool.false_eq_true, if_false] at lk
    obtain ⟨ρ', e3⟩ := lk
    simp -implicitDefEqProofs only [e3, ev_app, ev_enm, ev_rs, ev_y, big, ev_bnd, ev_ret, ev_lfS, ev_lfN, ev_stk, ev_vr, ev_vrT, ev_mT, ev_cF, ev_cO, ev_cB, ev_dd, ev_ds, ev_d0, ev_dc, ev_opr, ev_unr, ev_nl, ev_cns, ev_cbr, ev_ab, ev_ai, ev_tst', ev_an, ev_orr, ev_nt, ev_anV, ev_orV', ev_ntV, ev_ifm, ev_ch, ev_tp, ev_ls, ev_cl, ev_cl0, ev_isr, ev_sqI, ev_sqL, ev_sqT, ev_sb, ev_ss, ev_sn, ev_sa, ev_so, ev_sr, ev_sdr, ev_si, ev_sp, ev_p0, ev_pF, ev_pT, ev_sf, ev_hn, ev_ht, ev_hc, ev_h0, ev_cal, ev_f1, ev_f2, ev_f3, ev_f4, ev_cmp, ev_add, ev_sub, ev_isn, ev_n1, ev_n2, ev_n3, ev_n4, ev_ixL, ev_ixT, ev_a0, ev_a1, ev_a2, ev_lL, ev_lT, ev_tL, ev_tT, ev_liT, ev_abs, ev_mx, ev_mn, ev_mx3, ev_t1, ev_t2, ev_t3, ev_eqI, ev_neI, List.getElem?_cons_zero, List.getElem?_cons_succ, List.set_cons_zero, List.set_cons_succ, List.length_cons, List.length_nil, List.map_cons, List.map_nil, List.replicate_succ, List.replicate_zero, List.cons_append, List.nil_append, List.append_nil, Option.bind_some, Option.map_some, Nat.reduceAdd, Nat.reduceSub, Nat.reduceLT, Nat.reduceLeDiff, Nat.reduceEqDiff, if_true, if_false, reduceIte, Bool.false_eq_true, wipeR, restR]
end Rn
end

section
set_option Elab.async false
set_option linter.all false
set_option maxRecDepth 100000
set_option maxHeartbeats 4000000
/-! FormI: canonical. -/
namespace Rn
open PySem PySem.Spec L2
theorem rng2_ok {f : M (List D)} {r : Rho} {lo hi : Int} (h : f r = .ok [.int lo, .int hi] r) (h1 : (hi ≤ 1000000 ∧ -1000000 ≤ hi) ∧ (lo ≤ 1000000 ∧ -1000000 ≤ lo)) : mRng2 f r = .ok ((List.range (hi - lo).toNat).map fun k : Nat => PyData.int (lo + (k : Int))) r := by
  rw [ev_rn2, ev_bnd, h]
  simp only [if_pos h1, rangeD_map, ev_ret]
theorem cbeg_succ (r : Nat → Tm) (c b : Nat) : cbeg r c (b + 1) = if gdB r c b = true then cbeg r c b else b + 1 := rfl
def newsD (r : Nat → Tm) (c b : Nat) : List D := (List.range c).map fun i => encR (rise (r (b + i)) (r (b + i + c)))
theorem news_last {r : Nat → Tm} {c b : Nat} (hc : 0 < c) : (newsD r c b).getLast? = some (encR (rise (r (b + c - 1)) (r (b + c - 1 + c)))) := by
  obtain ⟨k, rfl⟩ : ∃ k, c = k + 1 := ⟨c - 1, by omega⟩
  unfold newsD
  rw [List.range_succ]
  simp
theorem news_down {r : Nat → Tm} {c b : Nat} (hc : 0 < c) (h : rise (r b) (r (b + c)) = rise (r (b + c)) (r (b + c + c))) : [encR (rise (r (b + c)) (r (b + c + c)))] ++ (newsD r c (b + 1)).dropLast = newsD r c b := by
  obtain ⟨k, rfl⟩ : ∃ k, c = k + 1 := ⟨c - 1, by omega⟩
  unfold newsD
  rw [List.range_succ, List.map_append]
  simp only [List.map_cons, List.map_nil, List.dropLast_concat]
  rw [← List.range_succ, List.range_succ_eq_map, List.map_cons, List.map_map, ← h]
  simp only [Nat.add_zero, List.singleton_append, List.cons.injEq, true_and]
  refine List.map_congr_left fun i _ => ?_
  simp only [Function.comp]
  rw [show b + 1 + i = b + (i + 1) by omega]
theorem can_loop {R Q NB x y : Cell} {nb : List Tm} {r : Nat → Tm} {b c : Nat} (hc : 0 < c) (hN : NB = .fz (.list (nb.map oD))) (hl : nb.length = b + 2 * c) (hb : b ≤ 100000) (hcb : c ≤ 100000) (hg : ∀ i, i < b + 2 * c → nb.getD i none = r i) :
    ∀ (k n : Nat), k < n → k ≤ b → Per r k c → whileGo c3_canonical l4_canonical n [R, .fz (.int k), Q, .fz (.int c), NB, .fz (.list (newsD r c k)), x, y] = .nx [R, .fz (.int (cbeg r c k)), Q, .fz (.int c), NB, .fz (.list (newsD r c (cbeg r c k))), x, y]
  | 0, n, hn, hk, hp => by
    subst hN
    obtain ⟨n, rfl⟩ : ∃ m, n = m + 1 := ⟨n - 1, by omega⟩
    rw [show cbeg r c 0 = 0 from rfl]
    refine while_stop ?_
    simp -implicitDefEqProofs [c3_canonical, ev_app, ev_enm, ev_rs, ev_y, big, ev_bnd, ev_ret, ev_lfS, ev_lfN, ev_stk, ev_vr, ev_vrT, ev_mT, ev_cF, ev_cO, ev_cB, ev_dd, ev_ds, ev_d0, ev_dc, ev_opr, ev_unr, ev_nl, ev_cns, ev_cbr, ev_ab, ev_ai, ev_tst', ev_an, ev_orr, ev_nt, ev_anV, ev_orV', ev_ntV, ev_ifm, ev_ch, ev_tp, ev_ls, ev_cl, ev_cl0, ev_isr, ev_sqI, ev_sqL, ev_sqT, ev_sb, ev_ss, ev_sn, ev_sa, ev_so, ev_sr, ev_sdr, ev_si, ev_sp, ev_p0, ev_pF, ev_pT, ev_sf, ev_hn, ev_ht, ev_hc, ev_h0, ev_cal, ev_f1, ev_f2, ev_f3, ev_f4, ev_cmp, ev_add, ev_sub, ev_isn, ev_n1, ev_n2, ev_n3, ev_n4, ev_ixL, ev_ixT, ev_a0, ev_a1, ev_a2, ev_lL, ev_lT, ev_tL, ev_tT, ev_liT, ev_abs, ev_mx, ev_mn, ev_mx3, ev_t1, ev_t2, ev_t3, ev_eqI, ev_neI, List.getElem?_cons_zero, List.getElem?_cons_succ, List.set_cons_zero, List.set_cons_succ, List.length_cons, List.length_nil, List.map_cons, List.map_nil, List.replicate_succ, List.replicate_zero, List.cons_append, List.nil_append, List.append_nil, Option.bind_some, Option.map_some, Nat.reduceAdd, Nat.reduceSub, Nat.reduceLT, Nat.reduceLeDiff, Nat.reduceEqDiff, if_true, if_false, reduceIte, Bool.false_eq_true, wipeR, restR, gtF]
  | k + 1, n, hn, hk, hp => by
    subst hN
    obtain ⟨n, rfl⟩ : ∃ m, n = m + 1 := ⟨n - 1, by omega⟩
    have p1 := hp (k + c) (by omega)
    have a1 := atO (row := nb) (i := ((k + 1 : Nat) : Int) - 1) (n := k) (by omega) (by omega)
    have a2 := atO (row := nb) (i := ((k + 1 : Nat) : Int) - 1 + (c : Int)) (n := k + c) (by omega) (by omega)
    rw [hg _ (by omega)] at a1 a2
    have a3 := atLast (news_last (r := r) (b := k + 1) hc)
    rw [show k + 1 + c - 1 = k + c by omega] at a3
    have hpos : ((k + 1 : Nat) : Int) > 0 := by omega
    have tst : c3_canonical [R, .fz (.int ((k + 1 : Nat) : Int)), Q, .fz (.int c), .fz (.list (nb.map oD)), .fz (.list (newsD r c (k + 1))), x, y] = .ok (gdB r c k) [R, .fz (.int ((k + 1 : Nat) : Int)), Q, .fz (.int c), .fz (.list (nb.map oD)), .fz (.list (newsD r c (k + 1))), x, y] := by
      have e : gdB r c k = decide (rise (r k) (r (k + c)) = rise (r (k + c)) (r (k + c + c))) := by
        unfold gdB
        rw [decide_eq_decide]
        unfold gd
        rw [show k + 2 * c = k + c + c by omega]
        exact ⟨fun q => q.2, fun q => ⟨by rw [q]; exact p1.1, q⟩⟩
      rw [e]
      have hgt : decide (((k + 1 : Nat) : Int) > 0) = true := decide_eq_true hpos
      simp -implicitDefEqProofs only [c3_canonical, ev_app, ev_enm, ev_rs, ev_y, big, ev_bnd, ev_ret, ev_lfS, ev_lfN, ev_stk, ev_vr, ev_vrT, ev_mT, ev_cF, ev_cO, ev_cB, ev_dd, ev_ds, ev_d0, ev_dc, ev_opr, ev_unr, ev_nl, ev_cns, ev_cbr, ev_ab, ev_ai, ev_tst', ev_an, ev_orr, ev_nt, ev_anV, ev_orV', ev_ntV, ev_ifm, ev_ch, ev_tp, ev_ls, ev_cl, ev_cl0, ev_isr, ev_sqI, ev_sqL, ev_sqT, ev_sb, ev_ss, ev_sn, ev_sa, ev_so, ev_sr, ev_sdr, ev_si, ev_sp, ev_p0, ev_pF, ev_pT, ev_sf, ev_hn, ev_ht, ev_hc, ev_h0, ev_cal, ev_f1, ev_f2, ev_f3, ev_f4, ev_cmp, ev_add, ev_sub, ev_isn, ev_n1, ev_n2, ev_n3, ev_n4, ev_ixL, ev_ixT, ev_a0, ev_a1, ev_a2, ev_lL, ev_lT, ev_tL, ev_tT, ev_liT, ev_abs, ev_mx, ev_mn, ev_mx3, ev_t1, ev_t2, ev_t3, ev_eqI, ev_neI, List.getElem?_cons_zero, List.getElem?_cons_succ, List.set_cons_zero, List.set_cons_succ, List.length_cons, List.length_nil, List.map_cons, List.map_nil, List.replicate_succ, List.replicate_zero, List.cons_append, List.nil_append, List.append_nil, Option.bind_some, Option.map_some, Nat.reduceAdd, Nat.reduceSub, Nat.reduceLT, Nat.reduceLeDiff, Nat.reduceEqDiff, if_true, if_false, reduceIte, Bool.false_eq_true, wipeR, restR, gtF, hgt, a1, a2, w_rise, ev_neg, a3, eqF_R]
    by_cases hgd : gdB r c k = true
    · rw [hgd] at tst
      have hq := of_decide_eq_true hgd
      have hk' : Per r k c := fun m hm => by
        rcases Nat.eq_or_lt_of_le hm with e | e
        · exact e ▸ hq
        · exact hp m e
      have nd := news_down hc (show rise (r k) (r (k + c)) = rise (r (k + c)) (r (k + c + c)) by have := hq.2; rw [show k + 2 * c = k + c + c by omega] at this; exact this)
      have nl : (newsD r c (k + 1)).dropLast.length + 1 ≤ big := by simp [newsD, big]; omega
      have hnl : ([encR (rise (r (k + c)) (r (k + c + c)))] : List D).length + (newsD r c (k + 1)).dropLast.length ≤ big := by simp only [List.length_cons, List.length_nil]; omega
      have stp : l4_canonical [R, .fz (.int ((k + 1 : Nat) : Int)), Q, .fz (.int c), .fz (.list (nb.map oD)), .fz (.list (newsD r c (k + 1))), x, y] = .nx [R, .fz (.int (k : Int)), Q, .fz (.int c), .fz (.list (nb.map oD)), .fz (.list (newsD r c k)), x, y] := by
        have e0 : ((k + 1 : Nat) : Int) - 1 = (k : Int) := by omega
        simp -implicitDefEqProofs only [l4_canonical, ev_app, ev_enm, ev_rs, ev_y, big, ev_bnd, ev_ret, ev_lfS, ev_lfN, ev_stk, ev_vr, ev_vrT, ev_mT, ev_cF, ev_cO, ev_cB, ev_dd, ev_ds, ev_d0, ev_dc, ev_opr, ev_unr, ev_nl, ev_cns, ev_cbr, ev_ab, ev_ai, ev_tst', ev_an, ev_orr, ev_nt, ev_anV, ev_orV', ev_ntV, ev_ifm, ev_ch, ev_tp, ev_ls, ev_cl, ev_cl0, ev_isr, ev_sqI, ev_sqL, ev_sqT, ev_sb, ev_ss, ev_sn, ev_sa, ev_so, ev_sr, ev_sdr, ev_si, ev_sp, ev_p0, ev_pF, ev_pT, ev_sf, ev_hn, ev_ht, ev_hc, ev_h0, ev_cal, ev_f1, ev_f2, ev_f3, ev_f4, ev_cmp, ev_add, ev_sub, ev_isn, ev_n1, ev_n2, ev_n3, ev_n4, ev_ixL, ev_ixT, ev_a0, ev_a1, ev_a2, ev_lL, ev_lT, ev_tL, ev_tT, ev_liT, ev_abs, ev_mx, ev_mn, ev_mx3, ev_t1, ev_t2, ev_t3, ev_eqI, ev_neI, List.getElem?_cons_zero, List.getElem?_cons_succ, List.set_cons_zero, List.set_cons_succ, List.length_cons, List.length_nil, List.map_cons, List.map_nil, List.replicate_succ, List.replicate_zero, List.cons_append, List.nil_append, List.append_nil, Option.bind_some, Option.map_some, Nat.reduceAdd, Nat.reduceSub, Nat.reduceLT, Nat.reduceLeDiff, Nat.reduceEqDiff, if_true, if_false, reduceIte, Bool.false_eq_true, wipeR, restR, ev_sl', ev_np, ev_pt, ev_neg, a3, e0, slL, cut_init]
        rw [show addF (.list [encR (rise (r (k + c)) (r (k + c + c)))]) (.list (newsD r c (k + 1)).dropLast) = some (.list (newsD r c k)) by
          rw [← nd]
          show (if _ then _ else _) = _
          rw [if_pos hnl]]
        simp -implicitDefEqProofs only [ev_app, ev_enm, ev_rs, ev_y, big, ev_bnd, ev_ret, ev_lfS, ev_lfN, ev_stk, ev_vr, ev_vrT, ev_mT, ev_cF, ev_cO, ev_cB, ev_dd, ev_ds, ev_d0, ev_dc, ev_opr, ev_unr, ev_nl, ev_cns, ev_cbr, ev_ab, ev_ai, ev_tst', ev_an, ev_orr, ev_nt, ev_anV, ev_orV', ev_ntV, ev_ifm, ev_ch, ev_tp, ev_ls, ev_cl, ev_cl0, ev_isr, ev_sqI, ev_sqL, ev_sqT, ev_sb, ev_ss, ev_sn, ev_sa, ev_so, ev_sr, ev_sdr, ev_si, ev_sp, ev_p0, ev_pF, ev_pT, ev_sf, ev_hn, ev_ht, ev_hc, ev_h0, ev_cal, ev_f1, ev_f2, ev_f3, ev_f4, ev_cmp, ev_add, ev_sub, ev_isn, ev_n1, ev_n2, ev_n3, ev_n4, ev_ixL, ev_ixT, ev_a0, ev_a1, ev_a2, ev_lL, ev_lT, ev_tL, ev_tT, ev_liT, ev_abs, ev_mx, ev_mn, ev_mx3, ev_t1, ev_t2, ev_t3, ev_eqI, ev_neI, List.getElem?_cons_zero, List.getElem?_cons_succ, List.set_cons_zero, List.set_cons_succ, List.length_cons, List.length_nil, List.map_cons, List.map_nil, List.replicate_succ, List.replicate_zero, List.cons_append, List.nil_append, List.append_nil, Option.bind_some, Option.map_some, Nat.reduceAdd, Nat.reduceSub, Nat.reduceLT, Nat.reduceLeDiff, Nat.reduceEqDiff, if_true, if_false, reduceIte, Bool.false_eq_true, wipeR, restR]
      rw [while_next tst (.inl stp), can_loop hc rfl hl hb hcb hg k n (by omega) (by omega) hk']
      rw [cbeg_succ, if_pos hgd]
    · have hgf : gdB r c k = false := by cases q : gdB r c k with
        | true => exact absurd q hgd
        | false => rfl
      rw [hgf] at tst
      rw [while_stop tst, cbeg_succ, if_neg hgd]
def fD (f : Form) : D := .tuple [.int (f.1 : Nat), .tuple (f.2.1.map oD), .tuple (f.2.2.map oD)]
theorem mk_news {r : Nat → Tm} {f c : Nat} (hp : Per r f c) : newsD r c f = (mkForm r f c).2.2.map oD := by
  unfold newsD mkForm
  simp only [List.map_map]
  refine List.map_congr_left fun i _ => ?_
  have g := hp (f + i) (by omega)
  simp only [Function.comp]
  cases q : rise (r (f + i)) (r (f + i + c)) with
  | none => exact absurd q g.1
  | some t => rfl
theorem canon_run {A Q : Cell} {b c f : Nat} {nb nw nw2 : List D} {xs : List D}
    (s1 : sAsg (mOp ixF (mT (mLc (mRng2 (mCons (ret (.int 1)) (mCons (mOp addF (mT (mCB lenF (mCons (mVarT 2) (mNil)))) (mT (ret (.int 1)))) (mNil)))) (hName 7) (t0_canonical) (e1_canonical) [7])) (mT (ret (.int 0)))) (hName 3) [A, .fz (.int b), Q, .no, .no, .no, .no, .no] = .nx [A, .fz (.int b), Q, .fz (.int c), .no, .no, .no, .no])
    (s2 : sAsg (mLc (mRng1 (mCons (mOp addF (mVarT 1) (mT (mOp mulF (mT (ret (.int 2))) (mVarT 3)))) (mNil))) (hName 6) (mYes) (e2_canonical) [6]) (hName 4) [A, .fz (.int b), Q, .fz (.int c), .no, .no, .no, .no] = .nx [A, .fz (.int b), Q, .fz (.int c), .fz (.list nb), .no, .no, .no])
    (s3 : sAsg (mCall0 g_rises_from (mCons (mVar 4) (mCons (mVar 1) (mCons (mVar 3) (mNil))))) (hName 5) [A, .fz (.int b), Q, .fz (.int c), .fz (.list nb), .no, .no, .no] = .nx [A, .fz (.int b), Q, .fz (.int c), .fz (.list nb), .fz (.list nw), .no, .no])
    (e5 : whileGo c3_canonical l4_canonical 1000000 [A, .fz (.int b), Q, .fz (.int c), .fz (.list nb), .fz (.list nw), .no, .no] = .nx [A, .fz (.int f), Q, .fz (.int c), .fz (.list nb), .fz (.list nw2), .no, .no])
    (e6 : cutD nb none (some ((f : Int) + (c : Int))) = xs) : finO (b_canonical [A, .fz (.int b), Q, .no, .no, .no, .no, .no]) = .ok (.tuple [.int f, .tuple xs, .tuple nw2]) := by
  unfold b_canonical
  rw [seq_nx s1, seq_nx s2, seq_nx s3, seq_nx e5]
  simp -implicitDefEqProofs only [ev_app, ev_enm, ev_rs, ev_y, big, ev_bnd, ev_ret, ev_lfS, ev_lfN, ev_stk, ev_vr, ev_vrT, ev_mT, ev_cF, ev_cO, ev_cB, ev_dd, ev_ds, ev_d0, ev_dc, ev_opr, ev_unr, ev_nl, ev_cns, ev_cbr, ev_ab, ev_ai, ev_tst', ev_an, ev_orr, ev_nt, ev_anV, ev_orV', ev_ntV, ev_ifm, ev_ch, ev_tp, ev_ls, ev_cl, ev_cl0, ev_isr, ev_sqI, ev_sqL, ev_sqT, ev_sb, ev_ss, ev_sn, ev_sa, ev_so, ev_sr, ev_sdr, ev_si, ev_sp, ev_p0, ev_pF, ev_pT, ev_sf, ev_hn, ev_ht, ev_hc, ev_h0, ev_cal, ev_f1, ev_f2, ev_f3, ev_f4, ev_cmp, ev_add, ev_sub, ev_isn, ev_n1, ev_n2, ev_n3, ev_n4, ev_ixL, ev_ixT, ev_a0, ev_a1, ev_a2, ev_lL, ev_lT, ev_tL, ev_tT, ev_liT, ev_abs, ev_mx, ev_mn, ev_mx3, ev_t1, ev_t2, ev_t3, ev_eqI, ev_neI, List.getElem?_cons_zero, List.getElem?_cons_succ, List.set_cons_zero, List.set_cons_succ, List.length_cons, List.length_nil, List.map_cons, List.map_nil, List.replicate_succ, List.replicate_zero, List.cons_append, List.nil_append, List.append_nil, Option.bind_some, Option.map_some, Nat.reduceAdd, Nat.reduceSub, Nat.reduceLT, Nat.reduceLeDiff, Nat.reduceEqDiff, if_true, if_false, reduceIte, Bool.false_eq_true, wipeR, restR, ev_sl', ev_np, ev_pt, slL, e6]
theorem w_canon {row rs : List Tm} (b : Nat) (w : Wf row b rs) (hb : row.length ≤ 30000) : g_canonical [.list (row.map oD), .int b, .list (rs.map oD)] = .ok (fD (canon row b rs)) := by
  have hl := w.len
  have hL := w.pos
  have hper := numAt_per w
  have hcan := can_of hL hper
  obtain ⟨c, hc1, hc2, hc3, hc4, hc5, hc6⟩ := csteps_head hL hper
  have hcs : cstep (numAt row b rs) b rs.length = c := by
    unfold cstep
    rw [List.headD_eq_head?_getD, hc1]
    rfl
  have hw := fun p hp => w_num (R := .list (row.map oD)) (Q := .list (rs.map oD)) .l .l b p w (by omega) hp
  have hpd := fun x hx => w_period (R := .list (row.map oD)) (Q := .list (rs.map oD)) .l .l b x w (by omega) hx
  unfold canon
  rw [hcs] at hcan ⊢
  generalize hr : numAt row b rs = r at *
  -- the step
  have e1 : mLc (mRng2 (mCons (ret (.int 1)) (mCons (mOp addF (mT (mCB lenF (mCons (mVarT 2) (mNil)))) (mT (ret (.int 1)))) (mNil)))) (hName 7) t0_canonical e1_canonical [7] [.fz (.list (row.map oD)), .fz (.int b), .fz (.list (rs.map oD)), .no, .no, .no, .no, .no] =
      .ok (.list ((csteps r b rs.length).map fun k : Nat => PyData.int (k : Int))) [.fz (.list (row.map oD)), .fz (.int b), .fz (.list (rs.map oD)), .no, .no, .no, .no, .no] := by
    have := mlc_map (fi := mRng2 (mCons (ret (.int 1)) (mCons (mOp addF (mT (mCB lenF (mCons (mVarT 2) (mNil)))) (mT (ret (.int 1)))) (mNil)))) (h := hName 7) (ft := t0_canonical) (fe := e1_canonical) (vs := [7]) (ρ := [.fz (.list (row.map oD)), .fz (.int b), .fz (.list (rs.map oD)), .no, .no, .no, .no, .no])
      (List.range rs.length) (fun k : Nat => PyData.int (1 + (k : Int))) (fun k => decide (rs.length % (k + 1) = 0) && perB r b rs.length (k + 1)) (fun k : Nat => PyData.int (1 + (k : Int))) ?_ (by simp [big]; omega) rfl (fun i hi => ⟨_, rfl, ?_, fun _ => ?_, rfl⟩)
    · rw [this]
      have hh : ((List.range rs.length).filter fun k => decide (rs.length % (k + 1) = 0) && perB r b rs.length (k + 1)).map (fun k : Nat => PyData.int (1 + (k : Int))) = (csteps r b rs.length).map fun k : Nat => PyData.int (k : Int) := by
        unfold csteps
        rw [List.filter_map, List.map_map]
        refine List.map_congr_left fun i _ => ?_
        simp only [Function.comp]
        rw [show ((i + 1 : Nat) : Int) = 1 + (i : Int) by omega]
      rw [hh]
    · have := rng2_ok (f := mCons (ret (.int 1)) (mCons (mOp addF (mT (mCB lenF (mCons (mVarT 2) (mNil)))) (mT (ret (.int 1)))) (mNil))) (r := [.fz (.list (row.map oD)), .fz (.int b), .fz (.list (rs.map oD)), .no, .no, .no, .no, .no]) (lo := 1) (hi := (rs.length : Int) + 1)
        (by simp -implicitDefEqProofs only [ev_app, ev_enm, ev_rs, ev_y, big, ev_bnd, ev_ret, ev_lfS, ev_lfN, ev_stk, ev_vr, ev_vrT, ev_mT, ev_cF, ev_cO, ev_cB, ev_dd, ev_ds, ev_d0, ev_dc, ev_opr, ev_unr, ev_nl, ev_cns, ev_cbr, ev_ab, ev_ai, ev_tst', ev_an, ev_orr, ev_nt, ev_anV, ev_orV', ev_ntV, ev_ifm, ev_ch, ev_tp, ev_ls, ev_cl, ev_cl0, ev_isr, ev_sqI, ev_sqL, ev_sqT, ev_sb, ev_ss, ev_sn, ev_sa, ev_so, ev_sr, ev_sdr, ev_si, ev_sp, ev_p0, ev_pF, ev_pT, ev_sf, ev_hn, ev_ht, ev_hc, ev_h0, ev_cal, ev_f1, ev_f2, ev_f3, ev_f4, ev_cmp, ev_add, ev_sub, ev_isn, ev_n1, ev_n2, ev_n3, ev_n4, ev_ixL, ev_ixT, ev_a0, ev_a1, ev_a2, ev_lL, ev_lT, ev_tL, ev_tT, ev_liT, ev_abs, ev_mx, ev_mn, ev_mx3, ev_t1, ev_t2, ev_t3, ev_eqI, ev_neI, List.getElem?_cons_zero, List.getElem?_cons_succ, List.set_cons_zero, List.set_cons_succ, List.length_cons, List.length_nil, List.map_cons, List.map_nil, List.replicate_succ, List.replicate_zero, List.cons_append, List.nil_append, List.append_nil, Option.bind_some, Option.map_some, Nat.reduceAdd, Nat.reduceSub, Nat.reduceLT, Nat.reduceLeDiff, Nat.reduceEqDiff, if_true, if_false, reduceIte, Bool.false_eq_true, wipeR, restR, List.length_map]) (by omega)
      rw [this, show ((rs.length : Int) + 1 - 1).toNat = rs.length by omega]
    · have hi := List.mem_range.mp hi
      have hm : (rs.length : Int) % (1 + (i : Int)) = ((rs.length % (i + 1) : Nat) : Int) := by
        rw [show 1 + (i : Int) = ((i + 1 : Nat) : Int) by omega]
        simp
      have hpos : (0 : Int) < 1 + (i : Int) := by omega
      have hq := hpd (i + 1) (by omega)
      rw [show ((i + 1 : Nat) : Int) = 1 + (i : Int) by omega] at hq
      have hz : (((rs.length % (i + 1) : Nat) : Int) = 0) ↔ rs.length % (i + 1) = 0 := by omega
      by_cases q : rs.length % (i + 1) = 0
      · have q' : decide (((rs.length % (i + 1) : Nat) : Int) = 0) = true := decide_eq_true (hz.mpr q)
        have q2 : decide (rs.length % (i + 1) = 0) = true := decide_eq_true q
        simp -implicitDefEqProofs only [t0_canonical, ev_app, ev_enm, ev_rs, ev_y, big, ev_bnd, ev_ret, ev_lfS, ev_lfN, ev_stk, ev_vr, ev_vrT, ev_mT, ev_cF, ev_cO, ev_cB, ev_dd, ev_ds, ev_d0, ev_dc, ev_opr, ev_unr, ev_nl, ev_cns, ev_cbr, ev_ab, ev_ai, ev_tst', ev_an, ev_orr, ev_nt, ev_anV, ev_orV', ev_ntV, ev_ifm, ev_ch, ev_tp, ev_ls, ev_cl, ev_cl0, ev_isr, ev_sqI, ev_sqL, ev_sqT, ev_sb, ev_ss, ev_sn, ev_sa, ev_so, ev_sr, ev_sdr, ev_si, ev_sp, ev_p0, ev_pF, ev_pT, ev_sf, ev_hn, ev_ht, ev_hc, ev_h0, ev_cal, ev_f1, ev_f2, ev_f3, ev_f4, ev_cmp, ev_add, ev_sub, ev_isn, ev_n1, ev_n2, ev_n3, ev_n4, ev_ixL, ev_ixT, ev_a0, ev_a1, ev_a2, ev_lL, ev_lT, ev_tL, ev_tT, ev_liT, ev_abs, ev_mx, ev_mn, ev_mx3, ev_t1, ev_t2, ev_t3, ev_eqI, ev_neI, List.getElem?_cons_zero, List.getElem?_cons_succ, List.set_cons_zero, List.set_cons_succ, List.length_cons, List.length_nil, List.map_cons, List.map_nil, List.replicate_succ, List.replicate_zero, List.cons_append, List.nil_append, List.append_nil, Option.bind_some, Option.map_some, Nat.reduceAdd, Nat.reduceSub, Nat.reduceLT, Nat.reduceLeDiff, Nat.reduceEqDiff, if_true, if_false, reduceIte, Bool.false_eq_true, wipeR, restR, List.length_map, md0 hpos, hm, q', hq, q2, Bool.true_and]
      · have q' : decide (((rs.length % (i + 1) : Nat) : Int) = 0) = false := decide_eq_false fun z => q (hz.mp z)
        have q2 : decide (rs.length % (i + 1) = 0) = false := decide_eq_false q
        simp -implicitDefEqProofs only [t0_canonical, ev_app, ev_enm, ev_rs, ev_y, big, ev_bnd, ev_ret, ev_lfS, ev_lfN, ev_stk, ev_vr, ev_vrT, ev_mT, ev_cF, ev_cO, ev_cB, ev_dd, ev_ds, ev_d0, ev_dc, ev_opr, ev_unr, ev_nl, ev_cns, ev_cbr, ev_ab, ev_ai, ev_tst', ev_an, ev_orr, ev_nt, ev_anV, ev_orV', ev_ntV, ev_ifm, ev_ch, ev_tp, ev_ls, ev_cl, ev_cl0, ev_isr, ev_sqI, ev_sqL, ev_sqT, ev_sb, ev_ss, ev_sn, ev_sa, ev_so, ev_sr, ev_sdr, ev_si, ev_sp, ev_p0, ev_pF, ev_pT, ev_sf, ev_hn, ev_ht, ev_hc, ev_h0, ev_cal, ev_f1, ev_f2, ev_f3, ev_f4, ev_cmp, ev_add, ev_sub, ev_isn, ev_n1, ev_n2, ev_n3, ev_n4, ev_ixL, ev_ixT, ev_a0, ev_a1, ev_a2, ev_lL, ev_lT, ev_tL, ev_tT, ev_liT, ev_abs, ev_mx, ev_mn, ev_mx3, ev_t1, ev_t2, ev_t3, ev_eqI, ev_neI, List.getElem?_cons_zero, List.getElem?_cons_succ, List.set_cons_zero, List.set_cons_succ, List.length_cons, List.length_nil, List.map_cons, List.map_nil, List.replicate_succ, List.replicate_zero, List.cons_append, List.nil_append, List.append_nil, Option.bind_some, Option.map_some, Nat.reduceAdd, Nat.reduceSub, Nat.reduceLT, Nat.reduceLeDiff, Nat.reduceEqDiff, if_true, if_false, reduceIte, Bool.false_eq_true, wipeR, restR, List.length_map, md0 hpos, hm, q', q2, Bool.false_and]
    · simp -implicitDefEqProofs only [e1_canonical, ev_app, ev_enm, ev_rs, ev_y, big, ev_bnd, ev_ret, ev_lfS, ev_lfN, ev_stk, ev_vr, ev_vrT, ev_mT, ev_cF, ev_cO, ev_cB, ev_dd, ev_ds, ev_d0, ev_dc, ev_opr, ev_unr, ev_nl, ev_cns, ev_cbr, ev_ab, ev_ai, ev_tst', ev_an, ev_orr, ev_nt, ev_anV, ev_orV', ev_ntV, ev_ifm, ev_ch, ev_tp, ev_ls, ev_cl, ev_cl0, ev_isr, ev_sqI, ev_sqL, ev_sqT, ev_sb, ev_ss, ev_sn, ev_sa, ev_so, ev_sr, ev_sdr, ev_si, ev_sp, ev_p0, ev_pF, ev_pT, ev_sf, ev_hn, ev_ht, ev_hc, ev_h0, ev_cal, ev_f1, ev_f2, ev_f3, ev_f4, ev_cmp, ev_add, ev_sub, ev_isn, ev_n1, ev_n2, ev_n3, ev_n4, ev_ixL, ev_ixT, ev_a0, ev_a1, ev_a2, ev_lL, ev_lT, ev_tL, ev_tT, ev_liT, ev_abs, ev_mx, ev_mn, ev_mx3, ev_t1, ev_t2, ev_t3, ev_eqI, ev_neI, List.getElem?_cons_zero, List.getElem?_cons_succ, List.set_cons_zero, List.set_cons_succ, List.length_cons, List.length_nil, List.map_cons, List.map_nil, List.replicate_succ, List.replicate_zero, List.cons_append, List.nil_append, List.append_nil, Option.bind_some, Option.map_some, Nat.reduceAdd, Nat.reduceSub, Nat.reduceLT, Nat.reduceLeDiff, Nat.reduceEqDiff, if_true, if_false, reduceIte, Bool.false_eq_true, wipeR, restR]
  have e2 : atI ((csteps r b rs.length).map fun k : Nat => PyData.int (k : Int)) 0 = some (.int (c : Int)) := by
    cases hcl : csteps r b rs.length with
    | nil => rw [hcl] at hc1; cases hc1
    | cons z zs =>
      rw [hcl] at hc1
      cases hc1
      exact ev_a0 _ _
  obtain ⟨nb, hnb⟩ : ∃ nb, nb = (List.range (b + 2 * c)).map r := ⟨_, rfl⟩
  have hnl : nb.length = b + 2 * c := by simp [hnb]
  have hng : ∀ i, i < b + 2 * c → nb.getD i none = r i := fun i hi => by
    rw [hnb, getD_map _ _ _ _ (by simpa using hi)]
    simp
  have e3 : mLc (mRng1 (mCons (mOp addF (mVarT 1) (mT (mOp mulF (mT (ret (.int 2))) (mVarT 3)))) (mNil))) (hName 6) mYes e2_canonical [6] [.fz (.list (row.map oD)), .fz (.int b), .fz (.list (rs.map oD)), .fz (.int c), .no, .no, .no, .no] = .ok (.list (nb.map oD)) [.fz (.list (row.map oD)), .fz (.int b), .fz (.list (rs.map oD)), .fz (.int c), .no, .no, .no, .no] := by
    rw [hnb, List.map_map]
    refine mlc_map0 (List.range (b + 2 * c)) (fun k : Nat => PyData.int (0 + (k : Int))) _ (rng1_ok ?_ (by omega)) (by simp [big]; omega) rfl (fun i hi => ⟨_, rfl, ?_, rfl⟩)
    · simp -implicitDefEqProofs only [ev_app, ev_enm, ev_rs, ev_y, big, ev_bnd, ev_ret, ev_lfS, ev_lfN, ev_stk, ev_vr, ev_vrT, ev_mT, ev_cF, ev_cO, ev_cB, ev_dd, ev_ds, ev_d0, ev_dc, ev_opr, ev_unr, ev_nl, ev_cns, ev_cbr, ev_ab, ev_ai, ev_tst', ev_an, ev_orr, ev_nt, ev_anV, ev_orV', ev_ntV, ev_ifm, ev_ch, ev_tp, ev_ls, ev_cl, ev_cl0, ev_isr, ev_sqI, ev_sqL, ev_sqT, ev_sb, ev_ss, ev_sn, ev_sa, ev_so, ev_sr, ev_sdr, ev_si, ev_sp, ev_p0, ev_pF, ev_pT, ev_sf, ev_hn, ev_ht, ev_hc, ev_h0, ev_cal, ev_f1, ev_f2, ev_f3, ev_f4, ev_cmp, ev_add, ev_sub, ev_isn, ev_n1, ev_n2, ev_n3, ev_n4, ev_ixL, ev_ixT, ev_a0, ev_a1, ev_a2, ev_lL, ev_lT, ev_tL, ev_tT, ev_liT, ev_abs, ev_mx, ev_mn, ev_mx3, ev_t1, ev_t2, ev_t3, ev_eqI, ev_neI, List.getElem?_cons_zero, List.getElem?_cons_succ, List.set_cons_zero, List.set_cons_succ, List.length_cons, List.length_nil, List.map_cons, List.map_nil, List.replicate_succ, List.replicate_zero, List.cons_append, List.nil_append, List.append_nil, Option.bind_some, Option.map_some, Nat.reduceAdd, Nat.reduceSub, Nat.reduceLT, Nat.reduceLeDiff, Nat.reduceEqDiff, if_true, if_false, reduceIte, Bool.false_eq_true, wipeR, restR, two_mul']
      congr 3
    · have hi := List.mem_range.mp hi
      have := hw i (by omega)
      rw [show ((i : Nat) : Int) = 0 + (i : Int) by omega] at this
      simp -implicitDefEqProofs only [e2_canonical, ev_app, ev_enm, ev_rs, ev_y, big, ev_bnd, ev_ret, ev_lfS, ev_lfN, ev_stk, ev_vr, ev_vrT, ev_mT, ev_cF, ev_cO, ev_cB, ev_dd, ev_ds, ev_d0, ev_dc, ev_opr, ev_unr, ev_nl, ev_cns, ev_cbr, ev_ab, ev_ai, ev_tst', ev_an, ev_orr, ev_nt, ev_anV, ev_orV', ev_ntV, ev_ifm, ev_ch, ev_tp, ev_ls, ev_cl, ev_cl0, ev_isr, ev_sqI, ev_sqL, ev_sqT, ev_sb, ev_ss, ev_sn, ev_sa, ev_so, ev_sr, ev_sdr, ev_si, ev_sp, ev_p0, ev_pF, ev_pT, ev_sf, ev_hn, ev_ht, ev_hc, ev_h0, ev_cal, ev_f1, ev_f2, ev_f3, ev_f4, ev_cmp, ev_add, ev_sub, ev_isn, ev_n1, ev_n2, ev_n3, ev_n4, ev_ixL, ev_ixT, ev_a0, ev_a1, ev_a2, ev_lL, ev_lT, ev_tL, ev_tT, ev_liT, ev_abs, ev_mx, ev_mn, ev_mx3, ev_t1, ev_t2, ev_t3, ev_eqI, ev_neI, List.getElem?_cons_zero, List.getElem?_cons_succ, List.set_cons_zero, List.set_cons_succ, List.length_cons, List.length_nil, List.map_cons, List.map_nil, List.replicate_succ, List.replicate_zero, List.cons_append, List.nil_append, List.append_nil, Option.bind_some, Option.map_some, Nat.reduceAdd, Nat.reduceSub, Nat.reduceLT, Nat.reduceLeDiff, Nat.reduceEqDiff, if_true, if_false, reduceIte, Bool.false_eq_true, wipeR, restR, this, Function.comp]
  have e4 := w_rises (R := .list (nb.map oD)) (row := nb) .l b c (by omega) (by omega)
  have e4' : (List.range c).map (fun i => encR (rise (nb.getD (b + i) none) (nb.getD (b + i + c) none))) = newsD r c b := by
    unfold newsD
    refine List.map_congr_left fun i hi => ?_
    have hi := List.mem_range.mp hi
    rw [hng _ (by omega), hng _ (by omega)]
  rw [e4'] at e4
  have e5 := can_loop (R := .fz (.list (row.map oD))) (Q := .fz (.list (rs.map oD))) (x := .no) (y := .no) hc2 rfl hnl (by omega) (by omega) hng b 1000000 (by omega) (Nat.le_refl _) hc5
  have hf := (cbeg_ok hc5)
  have e6 : cutD (nb.map oD) none (some ((cbeg r c b : Int) + (c : Int))) = ((mkForm r (cbeg r c b) c).2.1).map oD := by
    rw [cut_to (n := cbeg r c b + c) _ (by simp) (by simp [hnl]; omega)]
    rw [hnb]
    simp only [mkForm, ← List.map_take, List.take_range]
    rw [Nat.min_eq_left (by omega)]
  obtain ⟨A, hA⟩ : ∃ A, A = Cell.fz (PyData.list (row.map oD)) := ⟨_, rfl⟩
  obtain ⟨Q, hQ⟩ : ∃ Q, Q = Cell.fz (PyData.list (rs.map oD)) := ⟨_, rfl⟩
  have s1 : sAsg (mOp ixF (mT (mLc (mRng2 (mCons (ret (.int 1)) (mCons (mOp addF (mT (mCB lenF (mCons (mVarT 2) (mNil)))) (mT (ret (.int 1)))) (mNil)))) (hName 7) (t0_canonical) (e1_canonical) [7])) (mT (ret (.int 0)))) (hName 3) [A, .fz (.int b), Q, .no, .no, .no, .no, .no] = .nx [A, .fz (.int b), Q, .fz (.int c), .no, .no, .no, .no] := by
    subst hA hQ
    exact asg_ok (op_ok (mT_ok e1) (mT_ok rfl) rfl rfl e2) rfl
  have s2 : sAsg (mLc (mRng1 (mCons (mOp addF (mVarT 1) (mT (mOp mulF (mT (ret (.int 2))) (mVarT 3)))) (mNil))) (hName 6) (mYes) (e2_canonical) [6]) (hName 4) [A, .fz (.int b), Q, .fz (.int c), .no, .no, .no, .no] = .nx [A, .fz (.int b), Q, .fz (.int c), .fz (.list (nb.map oD)), .no, .no, .no] := by
    subst hA hQ
    exact asg_ok e3 rfl
  have s3 : sAsg (mCall0 g_rises_from (mCons (mVar 4) (mCons (mVar 1) (mCons (mVar 3) (mNil))))) (hName 5) [A, .fz (.int b), Q, .fz (.int c), .fz (.list (nb.map oD)), .no, .no, .no] = .nx [A, .fz (.int b), Q, .fz (.int c), .fz (.list (nb.map oD)), .fz (.list (newsD r c b)), .no, .no] := by
    exact asg_ok (call_ok rfl e4) rfl
  rw [← hA, ← hQ] at e5
  have fin := canon_run s1 s2 s3 e5 e6
  unfold g_canonical
  rw [call3 (m := 5)]
  rw [← hA, ← hQ]
  rw [show List.replicate 5 Cell.no = [.no, .no, .no, .no, .no] from rfl, fin, mk_news hf.2.1]
  rfl
end Rn
end

section
set_option Elab.async false
set_option linter.all false
set_option maxRecDepth 100000
set_option maxHeartbeats 4000000
/-! FormJ: is_form and number. -/
namespace Rn
open PySem PySem.Spec L2
theorem bne_eq (a b : Bool) : (!decide (a = b)) = (a != b) := by cases a <;> cases b <;> rfl
theorem allOf_map {α : Type} (p : α → Bool) : ∀ xs : List α, allOf asBool (xs.map fun x => PyData.bool (p x)) = some (xs.map p)
  | [] => rfl
  | x :: xs => by
    have ih := allOf_map p xs
    simp only [List.map_cons]
    unfold allOf
    rw [ih]
    rfl
theorem allF_map {α : Type} (p : α → Bool) (xs : List α) : allF [.list (xs.map fun x => PyData.bool (p x))] = some (.bool (xs.all p)) := by
  unfold allF
  simp only [allOf_map, Option.map_some]
  congr 2
  induction xs with
  | nil => rfl
  | cons x xs ih => simp [ih]
theorem anyF_map {α : Type} (p : α → Bool) (xs : List α) : anyF [.list (xs.map fun x => PyData.bool (p x))] = some (.bool (xs.any p)) := by
  unfold anyF
  simp only [allOf_map, Option.map_some]
  congr 2
  induction xs with
  | nil => rfl
  | cons x xs ih => simp [ih]
theorem p6 : powF (.int 10) (.int 6) = some (.int 1000000) := by kernel_rfl
theorem p9 : powF (.int 10) (.int 9) = some (.int 1000000000) := by kernel_rfl
def timeD (d : D) : Bool := isNoneD d || whole d (-1000000000) 1000000000
theorem w_time (d : D) : g_is_time [d] = .ok (.bool (timeD d)) := by
  unfold timeD
  cases h : isNoneD d with
  | true => simp -implicitDefEqProofs [g_is_time, b_is_time, ev_app, ev_enm, ev_rs, ev_y, big, ev_bnd, ev_ret, ev_lfS, ev_lfN, ev_stk, ev_vr, ev_vrT, ev_mT, ev_cF, ev_cO, ev_cB, ev_dd, ev_ds, ev_d0, ev_dc, ev_opr, ev_unr, ev_nl, ev_cns, ev_cbr, ev_ab, ev_ai, ev_tst', ev_an, ev_orr, ev_nt, ev_anV, ev_orV', ev_ntV, ev_ifm, ev_ch, ev_tp, ev_ls, ev_cl, ev_cl0, ev_isr, ev_sqI, ev_sqL, ev_sqT, ev_sb, ev_ss, ev_sn, ev_sa, ev_so, ev_sr, ev_sdr, ev_si, ev_sp, ev_p0, ev_pF, ev_pT, ev_sf, ev_hn, ev_ht, ev_hc, ev_h0, ev_cal, ev_f1, ev_f2, ev_f3, ev_f4, ev_cmp, ev_add, ev_sub, ev_isn, ev_n1, ev_n2, ev_n3, ev_n4, ev_ixL, ev_ixT, ev_a0, ev_a1, ev_a2, ev_lL, ev_lT, ev_tL, ev_tT, ev_liT, ev_abs, ev_mx, ev_mn, ev_mx3, ev_t1, ev_t2, ev_t3, ev_eqI, ev_neI, List.getElem?_cons_zero, List.getElem?_cons_succ, List.set_cons_zero, List.set_cons_succ, List.length_cons, List.length_nil, List.map_cons, List.map_nil, List.replicate_succ, List.replicate_zero, List.cons_append, List.nil_append, List.append_nil, Option.bind_some, Option.map_some, Nat.reduceAdd, Nat.reduceSub, Nat.reduceLT, Nat.reduceLeDiff, Nat.reduceEqDiff, if_true, if_false, reduceIte, Bool.false_eq_true, wipeR, restR, h]
  | false => simp -implicitDefEqProofs [g_is_time, b_is_time, ev_app, ev_enm, ev_rs, ev_y, big, ev_bnd, ev_ret, ev_lfS, ev_lfN, ev_stk, ev_vr, ev_vrT, ev_mT, ev_cF, ev_cO, ev_cB, ev_dd, ev_ds, ev_d0, ev_dc, ev_opr, ev_unr, ev_nl, ev_cns, ev_cbr, ev_ab, ev_ai, ev_tst', ev_an, ev_orr, ev_nt, ev_anV, ev_orV', ev_ntV, ev_ifm, ev_ch, ev_tp, ev_ls, ev_cl, ev_cl0, ev_isr, ev_sqI, ev_sqL, ev_sqT, ev_sb, ev_ss, ev_sn, ev_sa, ev_so, ev_sr, ev_sdr, ev_si, ev_sp, ev_p0, ev_pF, ev_pT, ev_sf, ev_hn, ev_ht, ev_hc, ev_h0, ev_cal, ev_f1, ev_f2, ev_f3, ev_f4, ev_cmp, ev_add, ev_sub, ev_isn, ev_n1, ev_n2, ev_n3, ev_n4, ev_ixL, ev_ixT, ev_a0, ev_a1, ev_a2, ev_lL, ev_lT, ev_tL, ev_tT, ev_liT, ev_abs, ev_mx, ev_mn, ev_mx3, ev_t1, ev_t2, ev_t3, ev_eqI, ev_neI, List.getElem?_cons_zero, List.getElem?_cons_succ, List.set_cons_zero, List.set_cons_succ, List.length_cons, List.length_nil, List.map_cons, List.map_nil, List.replicate_succ, List.replicate_zero, List.cons_append, List.nil_append, List.append_nil, Option.bind_some, Option.map_some, Nat.reduceAdd, Nat.reduceSub, Nat.reduceLT, Nat.reduceLeDiff, Nat.reduceEqDiff, if_true, if_false, reduceIte, Bool.false_eq_true, wipeR, restR, h, p9, ev_neg, w_whole]
def timeOk (t : Tm) : Bool := match t with
  | none => true
  | some v => decide (-1000000000 ≤ v) && decide (v ≤ 1000000000)
theorem time_o (t : Tm) : timeD (oD t) = timeOk t := by cases t <;> rfl
theorem good_form : Good 2 fD := by
  have := (good_nat.mono (show 0 ≤ 1 by decide)).trip good_o.tup good_o.tup
  exact this
theorem enum_map {α : Type} (e : α → D) : ∀ (xs : List α) (n : Nat), enumD n (xs.map e) = (xs.zipIdx n).map fun p => .tuple [.int (p.2 : Nat), e p.1]
  | [], _ => rfl
  | x :: xs, n => by simp [enumD, enum_map e xs (n + 1), List.zipIdx_cons]
/-- a value that is shaped like a form -/
theorem w_form_wf {b : Nat} {ns rs : List Tm} (w : Wf ns b rs) (hl : ns.length = b + rs.length) (hb : ns.length ≤ 30000) (ht : (ns ++ rs).all timeOk = true) : g_is_form [fD (b, ns, rs)] = .ok (.bool (decide (canon ns b rs = (b, ns, rs)))) := by
  have hpos := w.pos
  have hw : whole (.int (b : Int)) 0 1000000 = true := by
    unfold whole
    simp only [Bool.and_eq_true, decide_eq_true_eq]
    omega
  have hne : eqF (.tuple (rs.map oD)) (.tuple []) = some (.bool false) := by
    have := good_o.tup.eqF rs []
    simp only [List.map_nil] at this
    rw [this, decide_eq_false (List.ne_nil_of_length_pos hpos)]
  have hlen : neF (.int (ns.length : Int)) (.int ((b : Int) + (rs.length : Int))) = some (.bool false) := by
    rw [ev_neI, decide_eq_true (by omega)]
    rfl
  obtain ⟨N, hN⟩ : ∃ N, N = PyData.tuple (ns.map oD) := ⟨_, rfl⟩
  obtain ⟨Q, hQ⟩ : ∃ Q, Q = PyData.tuple (rs.map oD) := ⟨_, rfl⟩
  have eF : fD (b, ns, rs) = .tuple [.int b, N, Q] := by rw [hN, hQ]; rfl
  have e1 : mLc (mSeqI (mOp addF (mVarT 2) (mVarT 3))) (hName 5) mYes e0_is_form [5] [.fz (fD (b, ns, rs)), .fz (.int b), .fz N, .fz Q, .no, .no] = .ok (.list ((ns ++ rs).map fun t => PyData.bool (timeOk t))) [.fz (fD (b, ns, rs)), .fz (.int b), .fz N, .fz Q, .no, .no] := by
    refine mlc_map0 (ns ++ rs) oD _ ?_ (by simp [big]; omega) rfl (fun t ht => ⟨_, rfl, ?_, rfl⟩)
    · have ha : addF N Q = some (.tuple ((ns ++ rs).map oD)) := by
        rw [hN, hQ, List.map_append]
        show (if _ then _ else _) = _
        rw [if_pos (by simp [big]; omega)]
      simp -implicitDefEqProofs only [ev_app, ev_enm, ev_rs, ev_y, big, ev_bnd, ev_ret, ev_lfS, ev_lfN, ev_stk, ev_vr, ev_vrT, ev_mT, ev_cF, ev_cO, ev_cB, ev_dd, ev_ds, ev_d0, ev_dc, ev_opr, ev_unr, ev_nl, ev_cns, ev_cbr, ev_ab, ev_ai, ev_tst', ev_an, ev_orr, ev_nt, ev_anV, ev_orV', ev_ntV, ev_ifm, ev_ch, ev_tp, ev_ls, ev_cl, ev_cl0, ev_isr, ev_sqI, ev_sqL, ev_sqT, ev_sb, ev_ss, ev_sn, ev_sa, ev_so, ev_sr, ev_sdr, ev_si, ev_sp, ev_p0, ev_pF, ev_pT, ev_sf, ev_hn, ev_ht, ev_hc, ev_h0, ev_cal, ev_f1, ev_f2, ev_f3, ev_f4, ev_cmp, ev_add, ev_sub, ev_isn, ev_n1, ev_n2, ev_n3, ev_n4, ev_ixL, ev_ixT, ev_a0, ev_a1, ev_a2, ev_lL, ev_lT, ev_tL, ev_tT, ev_liT, ev_abs, ev_mx, ev_mn, ev_mx3, ev_t1, ev_t2, ev_t3, ev_eqI, ev_neI, List.getElem?_cons_zero, List.getElem?_cons_succ, List.set_cons_zero, List.set_cons_succ, List.length_cons, List.length_nil, List.map_cons, List.map_nil, List.replicate_succ, List.replicate_zero, List.cons_append, List.nil_append, List.append_nil, Option.bind_some, Option.map_some, Nat.reduceAdd, Nat.reduceSub, Nat.reduceLT, Nat.reduceLeDiff, Nat.reduceEqDiff, if_true, if_false, reduceIte, Bool.false_eq_true, wipeR, restR, ha]
    · have := w_time (oD t)
      rw [time_o] at this
      simp -implicitDefEqProofs only [e0_is_form, ev_app, ev_enm, ev_rs, ev_y, big, ev_bnd, ev_ret, ev_lfS, ev_lfN, ev_stk, ev_vr, ev_vrT, ev_mT, ev_cF, ev_cO, ev_cB, ev_dd, ev_ds, ev_d0, ev_dc, ev_opr, ev_unr, ev_nl, ev_cns, ev_cbr, ev_ab, ev_ai, ev_tst', ev_an, ev_orr, ev_nt, ev_anV, ev_orV', ev_ntV, ev_ifm, ev_ch, ev_tp, ev_ls, ev_cl, ev_cl0, ev_isr, ev_sqI, ev_sqL, ev_sqT, ev_sb, ev_ss, ev_sn, ev_sa, ev_so, ev_sr, ev_sdr, ev_si, ev_sp, ev_p0, ev_pF, ev_pT, ev_sf, ev_hn, ev_ht, ev_hc, ev_h0, ev_cal, ev_f1, ev_f2, ev_f3, ev_f4, ev_cmp, ev_add, ev_sub, ev_isn, ev_n1, ev_n2, ev_n3, ev_n4, ev_ixL, ev_ixT, ev_a0, ev_a1, ev_a2, ev_lL, ev_lT, ev_tL, ev_tT, ev_liT, ev_abs, ev_mx, ev_mn, ev_mx3, ev_t1, ev_t2, ev_t3, ev_eqI, ev_neI, List.getElem?_cons_zero, List.getElem?_cons_succ, List.set_cons_zero, List.set_cons_succ, List.length_cons, List.length_nil, List.map_cons, List.map_nil, List.replicate_succ, List.replicate_zero, List.cons_append, List.nil_append, List.append_nil, Option.bind_some, Option.map_some, Nat.reduceAdd, Nat.reduceSub, Nat.reduceLT, Nat.reduceLeDiff, Nat.reduceEqDiff, if_true, if_false, reduceIte, Bool.false_eq_true, wipeR, restR, this]
  have e2 : mLc (mEnum (mCons (mVar 3) (mNil))) (hTup 2 (hCons (hName 4) (hCons (hName 5) (hNil)))) mYes e1_is_form [4, 5] [.fz (fD (b, ns, rs)), .fz (.int b), .fz N, .fz Q, .no, .no] = .ok (.list (rs.zipIdx.map fun p => PyData.bool (Option.isNone (ns.getD (b + p.2) none) != Option.isNone p.1))) [.fz (fD (b, ns, rs)), .fz (.int b), .fz N, .fz Q, .no, .no] := by
    refine mlc_map0 rs.zipIdx (fun p => .tuple [.int (p.2 : Nat), oD p.1]) _ ?_ (by simp [big]; omega) rfl (fun p hp => ⟨_, rfl, ?_, rfl⟩)
    · rw [hQ]
      simp -implicitDefEqProofs only [ev_app, ev_enm, ev_rs, ev_y, big, ev_bnd, ev_ret, ev_lfS, ev_lfN, ev_stk, ev_vr, ev_vrT, ev_mT, ev_cF, ev_cO, ev_cB, ev_dd, ev_ds, ev_d0, ev_dc, ev_opr, ev_unr, ev_nl, ev_cns, ev_cbr, ev_ab, ev_ai, ev_tst', ev_an, ev_orr, ev_nt, ev_anV, ev_orV', ev_ntV, ev_ifm, ev_ch, ev_tp, ev_ls, ev_cl, ev_cl0, ev_isr, ev_sqI, ev_sqL, ev_sqT, ev_sb, ev_ss, ev_sn, ev_sa, ev_so, ev_sr, ev_sdr, ev_si, ev_sp, ev_p0, ev_pF, ev_pT, ev_sf, ev_hn, ev_ht, ev_hc, ev_h0, ev_cal, ev_f1, ev_f2, ev_f3, ev_f4, ev_cmp, ev_add, ev_sub, ev_isn, ev_n1, ev_n2, ev_n3, ev_n4, ev_ixL, ev_ixT, ev_a0, ev_a1, ev_a2, ev_lL, ev_lT, ev_tL, ev_tT, ev_liT, ev_abs, ev_mx, ev_mn, ev_mx3, ev_t1, ev_t2, ev_t3, ev_eqI, ev_neI, List.getElem?_cons_zero, List.getElem?_cons_succ, List.set_cons_zero, List.set_cons_succ, List.length_cons, List.length_nil, List.map_cons, List.map_nil, List.replicate_succ, List.replicate_zero, List.cons_append, List.nil_append, List.append_nil, Option.bind_some, Option.map_some, Nat.reduceAdd, Nat.reduceSub, Nat.reduceLT, Nat.reduceLeDiff, Nat.reduceEqDiff, if_true, if_false, reduceIte, Bool.false_eq_true, wipeR, restR, enum_map]
    · obtain ⟨t, i⟩ := p
      have hi := (List.mem_zipIdx' hp).1
      have a1 := atO (row := ns) (i := (b : Int) + (i : Int)) (n := b + i) (by simp) (by omega)
      have := good_bool.neF (Option.isNone (ns.getD (b + i) none)) (Option.isNone t)
      rw [hN]
      simp -implicitDefEqProofs only [e1_is_form, ev_app, ev_enm, ev_rs, ev_y, big, ev_bnd, ev_ret, ev_lfS, ev_lfN, ev_stk, ev_vr, ev_vrT, ev_mT, ev_cF, ev_cO, ev_cB, ev_dd, ev_ds, ev_d0, ev_dc, ev_opr, ev_unr, ev_nl, ev_cns, ev_cbr, ev_ab, ev_ai, ev_tst', ev_an, ev_orr, ev_nt, ev_anV, ev_orV', ev_ntV, ev_ifm, ev_ch, ev_tp, ev_ls, ev_cl, ev_cl0, ev_isr, ev_sqI, ev_sqL, ev_sqT, ev_sb, ev_ss, ev_sn, ev_sa, ev_so, ev_sr, ev_sdr, ev_si, ev_sp, ev_p0, ev_pF, ev_pT, ev_sf, ev_hn, ev_ht, ev_hc, ev_h0, ev_cal, ev_f1, ev_f2, ev_f3, ev_f4, ev_cmp, ev_add, ev_sub, ev_isn, ev_n1, ev_n2, ev_n3, ev_n4, ev_ixL, ev_ixT, ev_a0, ev_a1, ev_a2, ev_lL, ev_lT, ev_tL, ev_tT, ev_liT, ev_abs, ev_mx, ev_mn, ev_mx3, ev_t1, ev_t2, ev_t3, ev_eqI, ev_neI, List.getElem?_cons_zero, List.getElem?_cons_succ, List.set_cons_zero, List.set_cons_succ, List.length_cons, List.length_nil, List.map_cons, List.map_nil, List.replicate_succ, List.replicate_zero, List.cons_append, List.nil_append, List.append_nil, Option.bind_some, Option.map_some, Nat.reduceAdd, Nat.reduceSub, Nat.reduceLT, Nat.reduceLeDiff, Nat.reduceEqDiff, if_true, if_false, reduceIte, Bool.false_eq_true, wipeR, restR, a1, isN_o, Bool.false_eq_true, this, bne_eq]
  have ha : rs.zipIdx.any (fun p => Option.isNone (ns.getD (b + p.2) none) != Option.isNone p.1) = false := by
    rw [List.any_eq_false]
    rintro ⟨t, i⟩ hp
    have hi := (List.mem_zipIdx' hp)
    have hk := w.non i hi.1
    have et : rs.getD i none = t := by
      rw [List.getD_eq_getElem?_getD, List.getElem?_eq_getElem hi.1]
      exact hi.2.symm
    rw [et] at hk
    show ¬ ((Option.isNone (ns.getD (b + i) none) != Option.isNone t) = true)
    cases q1 : ns.getD (b + i) none <;> cases q2 : t <;> simp_all
  have hcn := w_canon b w hb
  have hq := good_form.eqF (canon ns b rs) (b, ns, rs)
  have hti : pIs "tuple" "tuple" = true := by decide
  have x1 : sIf (mOr (mNot (mTst (mIsi (pIs "tuple") (mVarT 0)))) (mOr (mTst (mOp neF (mT (mCB lenF (mCons (mVarT 0) (mNil)))) (mT (ret (.int 3))))) (mNot (mTst (mCall0 g_is_whole (mCons (mOp ixF (mVarT 0) (mT (ret (.int 0)))) (mCons (ret (.int 0)) (mCons (mOp powF (mT (ret (.int 10))) (mT (ret (.int 6)))) (mNil))))))))) (sRet (ret (.bool false))) (sNext) [.fz (.tuple [.int b, N, Q]), .no, .no, .no, .no, .no] = .nx [.fz (.tuple [.int b, N, Q]), .no, .no, .no, .no, .no] := by
    simp -implicitDefEqProofs [ev_app, ev_enm, ev_rs, ev_y, big, ev_bnd, ev_ret, ev_lfS, ev_lfN, ev_stk, ev_vr, ev_vrT, ev_mT, ev_cF, ev_cO, ev_cB, ev_dd, ev_ds, ev_d0, ev_dc, ev_opr, ev_unr, ev_nl, ev_cns, ev_cbr, ev_ab, ev_ai, ev_tst', ev_an, ev_orr, ev_nt, ev_anV, ev_orV', ev_ntV, ev_ifm, ev_ch, ev_tp, ev_ls, ev_cl, ev_cl0, ev_isr, ev_sqI, ev_sqL, ev_sqT, ev_sb, ev_ss, ev_sn, ev_sa, ev_so, ev_sr, ev_sdr, ev_si, ev_sp, ev_p0, ev_pF, ev_pT, ev_sf, ev_hn, ev_ht, ev_hc, ev_h0, ev_cal, ev_f1, ev_f2, ev_f3, ev_f4, ev_cmp, ev_add, ev_sub, ev_isn, ev_n1, ev_n2, ev_n3, ev_n4, ev_ixL, ev_ixT, ev_a0, ev_a1, ev_a2, ev_lL, ev_lT, ev_tL, ev_tT, ev_liT, ev_abs, ev_mx, ev_mn, ev_mx3, ev_t1, ev_t2, ev_t3, ev_eqI, ev_neI, List.getElem?_cons_zero, List.getElem?_cons_succ, List.set_cons_zero, List.set_cons_succ, List.length_cons, List.length_nil, List.map_cons, List.map_nil, List.replicate_succ, List.replicate_zero, List.cons_append, List.nil_append, List.append_nil, Option.bind_some, Option.map_some, Nat.reduceAdd, Nat.reduceSub, Nat.reduceLT, Nat.reduceLeDiff, Nat.reduceEqDiff, if_true, if_false, reduceIte, Bool.false_eq_true, wipeR, restR, hti, p6, w_whole, hw]
  have x2 : sIf (mOr (mNot (mTst (mIsi (pIs "tuple") (mVarT 2)))) (mOr (mNot (mTst (mIsi (pIs "tuple") (mVarT 3)))) (mTst (mOp eqF (mVarT 3) (mT (mTup (mNil))))))) (sRet (ret (.bool false))) (sNext) [.fz (fD (b, ns, rs)), .fz (.int b), .fz N, .fz Q, .no, .no] = .nx [.fz (fD (b, ns, rs)), .fz (.int b), .fz N, .fz Q, .no, .no] := by
    rw [hN, hQ]
    simp -implicitDefEqProofs [ev_app, ev_enm, ev_rs, ev_y, big, ev_bnd, ev_ret, ev_lfS, ev_lfN, ev_stk, ev_vr, ev_vrT, ev_mT, ev_cF, ev_cO, ev_cB, ev_dd, ev_ds, ev_d0, ev_dc, ev_opr, ev_unr, ev_nl, ev_cns, ev_cbr, ev_ab, ev_ai, ev_tst', ev_an, ev_orr, ev_nt, ev_anV, ev_orV', ev_ntV, ev_ifm, ev_ch, ev_tp, ev_ls, ev_cl, ev_cl0, ev_isr, ev_sqI, ev_sqL, ev_sqT, ev_sb, ev_ss, ev_sn, ev_sa, ev_so, ev_sr, ev_sdr, ev_si, ev_sp, ev_p0, ev_pF, ev_pT, ev_sf, ev_hn, ev_ht, ev_hc, ev_h0, ev_cal, ev_f1, ev_f2, ev_f3, ev_f4, ev_cmp, ev_add, ev_sub, ev_isn, ev_n1, ev_n2, ev_n3, ev_n4, ev_ixL, ev_ixT, ev_a0, ev_a1, ev_a2, ev_lL, ev_lT, ev_tL, ev_tT, ev_liT, ev_abs, ev_mx, ev_mn, ev_mx3, ev_t1, ev_t2, ev_t3, ev_eqI, ev_neI, List.getElem?_cons_zero, List.getElem?_cons_succ, List.set_cons_zero, List.set_cons_succ, List.length_cons, List.length_nil, List.map_cons, List.map_nil, List.replicate_succ, List.replicate_zero, List.cons_append, List.nil_append, List.append_nil, Option.bind_some, Option.map_some, Nat.reduceAdd, Nat.reduceSub, Nat.reduceLT, Nat.reduceLeDiff, Nat.reduceEqDiff, if_true, if_false, reduceIte, Bool.false_eq_true, wipeR, restR, hti, hne]
  have x3 : sIf (mOr (mTst (mOp neF (mT (mCB lenF (mCons (mVarT 2) (mNil)))) (mT (mOp addF (mVarT 1) (mT (mCB lenF (mCons (mVarT 3) (mNil)))))))) (mNot (mTst (mCB allF (mCons (mT (mLc (mSeqI (mOp addF (mVarT 2) (mVarT 3))) (hName 5) (mYes) (e0_is_form) [5])) (mNil)))))) (sRet (ret (.bool false))) (sNext) [.fz (fD (b, ns, rs)), .fz (.int b), .fz N, .fz Q, .no, .no] = .nx [.fz (fD (b, ns, rs)), .fz (.int b), .fz N, .fz Q, .no, .no] := by
    have z : mOr (mTst (mOp neF (mT (mCB lenF (mCons (mVarT 2) (mNil)))) (mT (mOp addF (mVarT 1) (mT (mCB lenF (mCons (mVarT 3) (mNil)))))))) (mNot (mTst (mCB allF (mCons (mT (mLc (mSeqI (mOp addF (mVarT 2) (mVarT 3))) (hName 5) (mYes) (e0_is_form) [5])) (mNil))))) [.fz (fD (b, ns, rs)), .fz (.int b), .fz N, .fz Q, .no, .no] = .ok false [.fz (fD (b, ns, rs)), .fz (.int b), .fz N, .fz Q, .no, .no] := by
      rw [ev_orr, tst_ok (b := false) (r := [.fz (fD (b, ns, rs)), .fz (.int b), .fz N, .fz Q, .no, .no]) (by rw [hN, hQ]; simp -implicitDefEqProofs only [ev_app, ev_enm, ev_rs, ev_y, big, ev_bnd, ev_ret, ev_lfS, ev_lfN, ev_stk, ev_vr, ev_vrT, ev_mT, ev_cF, ev_cO, ev_cB, ev_dd, ev_ds, ev_d0, ev_dc, ev_opr, ev_unr, ev_nl, ev_cns, ev_cbr, ev_ab, ev_ai, ev_tst', ev_an, ev_orr, ev_nt, ev_anV, ev_orV', ev_ntV, ev_ifm, ev_ch, ev_tp, ev_ls, ev_cl, ev_cl0, ev_isr, ev_sqI, ev_sqL, ev_sqT, ev_sb, ev_ss, ev_sn, ev_sa, ev_so, ev_sr, ev_sdr, ev_si, ev_sp, ev_p0, ev_pF, ev_pT, ev_sf, ev_hn, ev_ht, ev_hc, ev_h0, ev_cal, ev_f1, ev_f2, ev_f3, ev_f4, ev_cmp, ev_add, ev_sub, ev_isn, ev_n1, ev_n2, ev_n3, ev_n4, ev_ixL, ev_ixT, ev_a0, ev_a1, ev_a2, ev_lL, ev_lT, ev_tL, ev_tT, ev_liT, ev_abs, ev_mx, ev_mn, ev_mx3, ev_t1, ev_t2, ev_t3, ev_eqI, ev_neI, List.getElem?_cons_zero, List.getElem?_cons_succ, List.set_cons_zero, List.set_cons_succ, List.length_cons, List.length_nil, List.map_cons, List.map_nil, List.replicate_succ, List.replicate_zero, List.cons_append, List.nil_append, List.append_nil, Option.bind_some, Option.map_some, Nat.reduceAdd, Nat.reduceSub, Nat.reduceLT, Nat.reduceLeDiff, Nat.reduceEqDiff, if_true, if_false, reduceIte, Bool.false_eq_true, wipeR, restR, List.length_map, hlen])]
      simp only
      have := allF_map timeOk (ns ++ rs)
      rw [ht] at this
      exact not_ok (tst_ok (cb_ok (cons_ok (mT_ok e1) rfl) rfl this))
    exact if_nx z
  have x4 : sIf (mTst (mCB anyF (mCons (mT (mLc (mEnum (mCons (mVar 3) (mNil))) (hTup 2 (hCons (hName 4) (hCons (hName 5) (hNil)))) (mYes) (e1_is_form) [4, 5])) (mNil)))) (sRet (ret (.bool false))) (sNext) [.fz (fD (b, ns, rs)), .fz (.int b), .fz N, .fz Q, .no, .no] = .nx [.fz (fD (b, ns, rs)), .fz (.int b), .fz N, .fz Q, .no, .no] := by
    have := anyF_map (fun p : Tm × Nat => Option.isNone (ns.getD (b + p.2) none) != Option.isNone p.1) rs.zipIdx
    rw [ha] at this
    exact if_nx (tst_ok (cb_ok (cons_ok (mT_ok e2) rfl) rfl this))
  have ea : mCons (mCB listF (mCons (mVarT 2) (mNil))) (mCons (mVar 1) (mCons (mCB listF (mCons (mVarT 3) (mNil))) (mNil))) [.fz (.tuple [.int b, N, Q]), .fz (.int b), .fz N, .fz Q, .no, .no] = .ok [.list (ns.map oD), .int b, .list (rs.map oD)] [.fz (.tuple [.int b, N, Q]), .fz (.int b), .fz N, .fz Q, .no, .no] := by
    rw [hN, hQ]
    rfl
  unfold g_is_form
  rw [call1 (m := 5)]
  refine fin_rt (r := [.fz (fD (b, ns, rs)), .fz (.int b), .fz N, .fz Q, .no, .no]) ?_
  rw [eF] at x2 x3 x4 ⊢
  rw [eF] at hq
  exact seq_to x1 (seq_to (asg_ok (r2 := [.fz (.tuple [.int b, N, Q]), .fz (.int b), .fz N, .fz Q, .no, .no]) rfl rfl) (seq_to x2 (seq_to x3 (seq_to x4 (ret_ok (op_ok (mT_ok (call_ok ea hcn)) rfl rfl rfl hq))))))
theorem w_value {f : Form} (w : Wf f.2.1 f.1 f.2.2) (hb : f.2.1.length ≤ 1100000) (p : Nat) (hp : p < 100000000000) : g_value_of [fD f, .int p] = .ok (oD (fnum f p)) := by
  obtain ⟨b, ns, rs⟩ := f
  have := w_num (R := .tuple (ns.map oD)) (Q := .tuple (rs.map oD)) .t .t b p w hb hp
  unfold g_value_of
  rw [call2 (m := 0)]
  unfold b_value_of
  exact fin_rt (ret_ok (call_ok rfl this))
theorem w_need {d : D} {t : Bool} (h : g_is_form [d] = .ok (.bool t)) : g_need_form [d] = if t = true then .ok .none else .ex "InvalidForm" := by
  unfold g_need_form
  rw [call1 (m := 0)]
  unfold b_need_form
  cases t with
  | true => exact fin_nx (ifs_f (not_ok (tst_ok (call_ok rfl h))) rfl)
  | false => exact fin_ex (ifs_t (not_ok (tst_ok (call_ok rfl h))) rfl)
end Rn
end

section
set_option Elab.async false
set_option linter.all false
set_option maxRecDepth 100000
set_option maxHeartbeats 4000000
/-! FormK: the law's own look at a form. -/
namespace Rn
open PySem PySem.Spec L2
theorem w_at {b : Nat} {ns rs : List Tm} (w : Wf ns b rs) (hl : ns.length = b + rs.length) (hb : ns.length ≤ 30000) (p : Nat) (hp : p < 100000000000) : g__law_at [fD (b, ns, rs), .int p] = .ok (oD (numAt ns b rs p)) := by
  have hL := w.pos
  by_cases h : p < b + rs.length
  · have a1 := atO (row := ns) (i := (p : Int)) (n := p) rfl (by omega)
    have hd : ((p : Int) < (ns.length : Int)) := by omega
    simp -implicitDefEqProofs only [g__law_at, b__law_at, fD, ev_app, ev_enm, ev_rs, ev_y, big, ev_bnd, ev_ret, ev_lfS, ev_lfN, ev_stk, ev_vr, ev_vrT, ev_mT, ev_cF, ev_cO, ev_cB, ev_dd, ev_ds, ev_d0, ev_dc, ev_opr, ev_unr, ev_nl, ev_cns, ev_cbr, ev_ab, ev_ai, ev_tst', ev_an, ev_orr, ev_nt, ev_anV, ev_orV', ev_ntV, ev_ifm, ev_ch, ev_tp, ev_ls, ev_cl, ev_cl0, ev_isr, ev_sqI, ev_sqL, ev_sqT, ev_sb, ev_ss, ev_sn, ev_sa, ev_so, ev_sr, ev_sdr, ev_si, ev_sp, ev_p0, ev_pF, ev_pT, ev_sf, ev_hn, ev_ht, ev_hc, ev_h0, ev_cal, ev_f1, ev_f2, ev_f3, ev_f4, ev_cmp, ev_add, ev_sub, ev_isn, ev_n1, ev_n2, ev_n3, ev_n4, ev_ixL, ev_ixT, ev_a0, ev_a1, ev_a2, ev_lL, ev_lT, ev_tL, ev_tT, ev_liT, ev_abs, ev_mx, ev_mn, ev_mx3, ev_t1, ev_t2, ev_t3, ev_eqI, ev_neI, List.getElem?_cons_zero, List.getElem?_cons_succ, List.set_cons_zero, List.set_cons_succ, List.length_cons, List.length_nil, List.map_cons, List.map_nil, List.replicate_succ, List.replicate_zero, List.cons_append, List.nil_append, List.append_nil, Option.bind_some, Option.map_some, Nat.reduceAdd, Nat.reduceSub, Nat.reduceLT, Nat.reduceLeDiff, Nat.reduceEqDiff, if_true, if_false, reduceIte, Bool.false_eq_true, wipeR, restR, a1, List.length_map, ltF, hd, decide_true]
    unfold numAt
    rw [if_pos h]
  · have hd : ¬ ((p : Int) < (ns.length : Int)) := by omega
    have hm : (p - b) % rs.length < rs.length := Nat.mod_lt _ hL
    have e1 : ((p : Int) - (b : Int)) % (rs.length : Int) = (((p - b) % rs.length : Nat) : Int) := by
      rw [show (p : Int) - (b : Int) = ((p - b : Nat) : Int) by omega]
      simp
    have e2 : ((p : Int) - (b : Int)) / (rs.length : Int) = (((p - b) / rs.length : Nat) : Int) := by
      rw [show (p : Int) - (b : Int) = ((p - b : Nat) : Int) by omega]
      simp
    have a1 := atO (row := ns) (i := (b : Int) + (((p - b) % rs.length : Nat) : Int)) (n := b + (p - b) % rs.length) (by simp) (by omega)
    have a2 := atO (row := rs) (i := (((p - b) % rs.length : Nat) : Int)) (n := (p - b) % rs.length) rfl hm
    have hpos : (0 : Int) < (rs.length : Int) := by omega
    have hsm : (rs.length : Int).natAbs < 2 ^ 400 := by
      have : (rs.length : Int).natAbs = rs.length := by omega
      rw [this]
      exact Nat.lt_of_le_of_lt (show rs.length ≤ 1100000 by omega) (by decide)
    have hk := (w.non _ hm)
    have mm : ∀ q : Int, mulF (.int (((p - b) / rs.length : Nat) : Int)) (.int q) = some (.int ((((p - b) / rs.length : Nat) : Int) * q)) := fun q => ev_mul _ _ (by
      have : (p - b) / rs.length ≤ p - b := Nat.div_le_self _ _
      rw [small_n (by omega)]
      rfl)
    simp -implicitDefEqProofs only [g__law_at, b__law_at, fD, ev_app, ev_enm, ev_rs, ev_y, big, ev_bnd, ev_ret, ev_lfS, ev_lfN, ev_stk, ev_vr, ev_vrT, ev_mT, ev_cF, ev_cO, ev_cB, ev_dd, ev_ds, ev_d0, ev_dc, ev_opr, ev_unr, ev_nl, ev_cns, ev_cbr, ev_ab, ev_ai, ev_tst', ev_an, ev_orr, ev_nt, ev_anV, ev_orV', ev_ntV, ev_ifm, ev_ch, ev_tp, ev_ls, ev_cl, ev_cl0, ev_isr, ev_sqI, ev_sqL, ev_sqT, ev_sb, ev_ss, ev_sn, ev_sa, ev_so, ev_sr, ev_sdr, ev_si, ev_sp, ev_p0, ev_pF, ev_pT, ev_sf, ev_hn, ev_ht, ev_hc, ev_h0, ev_cal, ev_f1, ev_f2, ev_f3, ev_f4, ev_cmp, ev_add, ev_sub, ev_isn, ev_n1, ev_n2, ev_n3, ev_n4, ev_ixL, ev_ixT, ev_a0, ev_a1, ev_a2, ev_lL, ev_lT, ev_tL, ev_tT, ev_liT, ev_abs, ev_mx, ev_mn, ev_mx3, ev_t1, ev_t2, ev_t3, ev_eqI, ev_neI, List.getElem?_cons_zero, List.getElem?_cons_succ, List.set_cons_zero, List.set_cons_succ, List.length_cons, List.length_nil, List.map_cons, List.map_nil, List.replicate_succ, List.replicate_zero, List.cons_append, List.nil_append, List.append_nil, Option.bind_some, Option.map_some, Nat.reduceAdd, Nat.reduceSub, Nat.reduceLT, Nat.reduceLeDiff, Nat.reduceEqDiff, if_true, if_false, reduceIte, Bool.false_eq_true, wipeR, restR, a1, a2, List.length_map, ltF, hd, decide_false, md0 hpos, fd0 hpos hsm, e1, e2]
    unfold numAt
    rw [if_neg h]
    cases q2 : rs.getD ((p - b) % rs.length) none with
    | none =>
      cases q1 : ns.getD (b + (p - b) % rs.length) none with
      | none => simp -implicitDefEqProofs only [ev_app, ev_enm, ev_rs, ev_y, big, ev_bnd, ev_ret, ev_lfS, ev_lfN, ev_stk, ev_vr, ev_vrT, ev_mT, ev_cF, ev_cO, ev_cB, ev_dd, ev_ds, ev_d0, ev_dc, ev_opr, ev_unr, ev_nl, ev_cns, ev_cbr, ev_ab, ev_ai, ev_tst', ev_an, ev_orr, ev_nt, ev_anV, ev_orV', ev_ntV, ev_ifm, ev_ch, ev_tp, ev_ls, ev_cl, ev_cl0, ev_isr, ev_sqI, ev_sqL, ev_sqT, ev_sb, ev_ss, ev_sn, ev_sa, ev_so, ev_sr, ev_sdr, ev_si, ev_sp, ev_p0, ev_pF, ev_pT, ev_sf, ev_hn, ev_ht, ev_hc, ev_h0, ev_cal, ev_f1, ev_f2, ev_f3, ev_f4, ev_cmp, ev_add, ev_sub, ev_isn, ev_n1, ev_n2, ev_n3, ev_n4, ev_ixL, ev_ixT, ev_a0, ev_a1, ev_a2, ev_lL, ev_lT, ev_tL, ev_tT, ev_liT, ev_abs, ev_mx, ev_mn, ev_mx3, ev_t1, ev_t2, ev_t3, ev_eqI, ev_neI, List.getElem?_cons_zero, List.getElem?_cons_succ, List.set_cons_zero, List.set_cons_succ, List.length_cons, List.length_nil, List.map_cons, List.map_nil, List.replicate_succ, List.replicate_zero, List.cons_append, List.nil_append, List.append_nil, Option.bind_some, Option.map_some, Nat.reduceAdd, Nat.reduceSub, Nat.reduceLT, Nat.reduceLeDiff, Nat.reduceEqDiff, if_true, if_false, reduceIte, Bool.false_eq_true, wipeR, restR, oD, isNoneD]
      | some v => rw [hk.mpr q2] at q1; cases q1
    | some q =>
      cases q1 : ns.getD (b + (p - b) % rs.length) none with
      | none => rw [hk.mp q1] at q2; cases q2
      | some v =>
        rw [q1] at a1
        rw [q2] at a2
        simp -implicitDefEqProofs only [ev_app, ev_enm, ev_rs, ev_y, big, ev_bnd, ev_ret, ev_lfS, ev_lfN, ev_stk, ev_vr, ev_vrT, ev_mT, ev_cF, ev_cO, ev_cB, ev_dd, ev_ds, ev_d0, ev_dc, ev_opr, ev_unr, ev_nl, ev_cns, ev_cbr, ev_ab, ev_ai, ev_tst', ev_an, ev_orr, ev_nt, ev_anV, ev_orV', ev_ntV, ev_ifm, ev_ch, ev_tp, ev_ls, ev_cl, ev_cl0, ev_isr, ev_sqI, ev_sqL, ev_sqT, ev_sb, ev_ss, ev_sn, ev_sa, ev_so, ev_sr, ev_sdr, ev_si, ev_sp, ev_p0, ev_pF, ev_pT, ev_sf, ev_hn, ev_ht, ev_hc, ev_h0, ev_cal, ev_f1, ev_f2, ev_f3, ev_f4, ev_cmp, ev_add, ev_sub, ev_isn, ev_n1, ev_n2, ev_n3, ev_n4, ev_ixL, ev_ixT, ev_a0, ev_a1, ev_a2, ev_lL, ev_lT, ev_tL, ev_tT, ev_liT, ev_abs, ev_mx, ev_mn, ev_mx3, ev_t1, ev_t2, ev_t3, ev_eqI, ev_neI, List.getElem?_cons_zero, List.getElem?_cons_succ, List.set_cons_zero, List.set_cons_succ, List.length_cons, List.length_nil, List.map_cons, List.map_nil, List.replicate_succ, List.replicate_zero, List.cons_append, List.nil_append, List.append_nil, Option.bind_some, Option.map_some, Nat.reduceAdd, Nat.reduceSub, Nat.reduceLT, Nat.reduceLeDiff, Nat.reduceEqDiff, if_true, if_false, reduceIte, Bool.false_eq_true, wipeR, restR, a1, a2, List.length_map, fd0 hpos hsm, e2, oD, isNoneD, Bool.false_eq_true, mm]
end Rn
end

section
set_option Elab.async false
set_option linter.all false
set_option maxRecDepth 100000
set_option maxHeartbeats 4000000
/-! L06a: forms with one rise, and where two of them part. -/
namespace Rn
open PySem PySem.Spec L2
/-- a drawn form -/
structure One (b : Nat) (ns : List Tm) (v q : Int) : Prop where
  b2 : b ≤ 2
  nl : ns.length = b + 1
  at' : ns.getD b none = some v
  v0 : 0 ≤ v
  v1 : v ≤ 59
  q0 : 0 ≤ q
  q1 : q ≤ 4
  tm : ∀ t ∈ ns, timeOk t = true
  ne : ∀ x, b = x + 1 → ns.getD x none ≠ some (v - q)
abbrev rOf (b : Nat) (ns : List Tm) (q : Int) : Nat → Tm := numAt ns b [some q]
section
variable {b : Nat} {ns : List Tm} {v q : Int} (o : One b ns v q)
include o
theorem One.wf : Wf ns b [some q] := ⟨by simp, by have := o.nl; simp; omega, fun i hi => by
  have : i = 0 := by simpa using hi
  subst this
  rw [Nat.add_zero, o.at']
  simp⟩
theorem One.ge {p : Nat} (hp : b ≤ p) : rOf b ns q p = some (v + ((p - b : Nat) : Int) * q) := by
  show numAt ns b [some q] p = _
  rw [numAt_ge o.wf hp]
  simp only [List.length_singleton, Nat.mod_one, Nat.div_one, Nat.add_zero, o.at']
  rfl
theorem One.lt {p : Nat} (hp : p < b) : rOf b ns q p = ns.getD p none := by
  show numAt ns b [some q] p = _
  unfold numAt
  rw [if_pos (by simp; omega)]
theorem One.can : Can (rOf b ns q) b 1 := by
  have w := o.wf
  refine ⟨by decide, numAt_per w, fun x _ hx _ => hx, fun x hx => ?_⟩
  by_cases h : b ≤ x
  · exact h
  · obtain ⟨y, hy⟩ : ∃ y, b = y + 1 := ⟨b - 1, by omega⟩
    have g := hx y (by omega)
    have e1 := o.ge (p := y + 1) (by omega)
    have e0 := o.lt (p := y) (by omega)
    rw [show y + 1 - b = 0 by omega] at e1
    exfalso
    cases q0 : rOf b ns q y with
    | none =>
      have := (gd_none g).1.mp q0
      rw [e1] at this
      cases this
    | some u =>
      obtain ⟨d, h1, h2⟩ := gd_some g q0
      have e2 := o.ge (p := y + 2 * 1) (by omega)
      rw [h2, show y + 2 * 1 - b = 1 by omega] at e2
      rw [h1] at e1
      have e1 := Option.some.inj e1
      have e2 := Option.some.inj e2
      have := o.ne y hy
      rw [← e0, q0] at this
      refine this (congrArg some ?_)
      simp at e1 e2
      omega
theorem One.form : g_is_form [fD (b, ns, [some q])] = .ok (.bool true) := by
  have := w_form_wf o.wf o.nl (by have := o.nl; have := o.b2; omega) (by
    rw [List.all_eq_true]
    intro t ht
    rcases List.mem_append.mp ht with z | z
    · exact o.tm t z
    · rw [List.mem_singleton.mp z]
      have := o.q0
      have := o.q1
      simp only [timeOk, Bool.and_eq_true, decide_eq_true_eq]
      omega)
  rw [decide_eq_true ((self_iff o.wf o.nl).mpr o.can)] at this
  exact this
theorem One.val (p : Nat) (hp : p < 100000000000) : g_value_of [fD (b, ns, [some q]), .int p] = .ok (oD (rOf b ns q p)) := w_value o.wf (by have := o.nl; have := o.b2; simp only; omega) p hp
theorem One.look (p : Nat) (hp : p < 100000000000) : g__law_at [fD (b, ns, [some q]), .int p] = .ok (oD (rOf b ns q p)) := w_at o.wf o.nl (by have := o.nl; have := o.b2; omega) p hp
end
/-! ### the first place -/
def firstN (P : Nat → Bool) (n : Nat) : Option Nat := (List.range n).find? P
theorem firstN_some {P : Nat → Bool} {n k : Nat} (hk : k < n) (h : P k = true) (hm : ∀ x, x < k → P x = false) : firstN P n = some k := by
  unfold firstN
  rw [show n = k + 1 + (n - k - 1) by omega, List.range_add, List.range_succ, List.append_assoc, List.find?_append]
  have : (List.range k).find? P = none := by
    rw [List.find?_eq_none]
    intro x hx
    rw [hm x (List.mem_range.mp hx)]
    decide
  rw [this]
  simp [h]
theorem firstN_none {P : Nat → Bool} {n : Nat} (h : ∀ x, x < n → P x = false) : firstN P n = none := by
  unfold firstN
  rw [List.find?_eq_none]
  intro x hx
  rw [h x (List.mem_range.mp hx)]
  decide
theorem least_b {P : Nat → Bool} (n : Nat) : (∃ k, k < n ∧ P k = true ∧ ∀ x, x < k → P x = false) ∨ ∀ x, x < n → P x = false := by
  induction n with
  | zero => exact .inr fun x hx => by omega
  | succ n ih =>
    rcases ih with ⟨k, h1, h2, h3⟩ | h
    · exact .inl ⟨k, by omega, h2, h3⟩
    · cases q : P n with
      | true => exact .inl ⟨n, by omega, q, h⟩
      | false =>
        refine .inr fun x hx => ?_
        by_cases z : x = n
        · rw [z]; exact q
        · exact h x (by omega)
def res (o : Option Nat) : D := oD (o.map fun k : Nat => (k : Int))
/-- later -/
def laterB (a c : Tm) : Bool := match a, c with
  | none, _ => false
  | some _, none => true
  | some x, some y => decide (y < x)
section
variable {b1 b2 : Nat} {ns1 ns2 : List Tm} {v1 q1 v2 q2 : Int} (o1 : One b1 ns1 v1 q1) (o2 : One b2 ns2 v2 q2)
include o1 o2
/-- two that agree at two places agree from there on -/
theorem unlike_far : firstN (fun p => !decide (rOf b1 ns1 q1 p = rOf b2 ns2 q2 p)) 80 = firstN (fun p => !decide (rOf b1 ns1 q1 p = rOf b2 ns2 q2 p)) (max b1 b2 + 2) := by
  have h1 := o1.b2
  have h2 := o2.b2
  rcases least_b (P := fun p => !decide (rOf b1 ns1 q1 p = rOf b2 ns2 q2 p)) (max b1 b2 + 2) with ⟨k, g1, g2, g3⟩ | h
  · rw [firstN_some g1 g2 g3, firstN_some (by omega) g2 g3]
  · rw [firstN_none h, firstN_none]
    intro x hx
    by_cases z : x < max b1 b2 + 2
    · exact h x z
    · have a0 := h (max b1 b2) (by omega)
      have a1 := h (max b1 b2 + 1) (by omega)
      simp only [Bool.not_eq_false', decide_eq_true_eq] at a0 a1 ⊢
      rw [o1.ge (by omega), o2.ge (by omega)] at a0 a1 ⊢
      have a0 := Option.some.inj a0
      have a1 := Option.some.inj a1
      obtain ⟨m, hm⟩ : ∃ m, m = max b1 b2 := ⟨_, rfl⟩
      rw [← hm] at a0 a1 z
      rw [show m + 1 - b1 = (m - b1) + 1 by omega, show m + 1 - b2 = (m - b2) + 1 by omega] at a1
      rw [show x - b1 = (m - b1) + (x - m) by omega, show x - b2 = (m - b2) + (x - m) by omega]
      push_cast at a1 ⊢
      rw [Int.add_mul, Int.add_mul] at a1 ⊢
      have : q1 = q2 := by omega
      subst this
      congr 1
      omega
end
/-- the place that the code tells -/
def pastF (b1 b2 : Nat) (ns1 ns2 : List Tm) (v1 q1 v2 q2 : Int) : Option Nat := match firstN (fun p => laterB (rOf b1 ns1 q1 p) (rOf b2 ns2 q2 p)) (max b1 b2 + 2) with
  | some k => some k
  | none => if 0 < q1 - q2 then some (max b1 b2 + 1 + (((v2 + ((max b1 b2 + 1 - b2 : Nat) : Int) * q2 - (v1 + ((max b1 b2 + 1 - b1 : Nat) : Int) * q1)) / (q1 - q2) + 1).toNat)) else none
theorem past_far {b1 b2 : Nat} {ns1 ns2 : List Tm} {v1 q1 v2 q2 : Int} (o1 : One b1 ns1 v1 q1) (o2 : One b2 ns2 v2 q2) : firstN (fun p => laterB (rOf b1 ns1 q1 p) (rOf b2 ns2 q2 p)) 80 = pastF b1 b2 ns1 ns2 v1 q1 v2 q2 := by
  have h1 := o1.b2
  have h2 := o2.b2
  unfold pastF
  rcases least_b (P := fun p => laterB (rOf b1 ns1 q1 p) (rOf b2 ns2 q2 p)) (max b1 b2 + 2) with ⟨k, g1, g2, g3⟩ | h
  · rw [firstN_some g1 g2 g3, firstN_some (by omega) g2 g3]
  · rw [firstN_none h]
    simp only
    obtain ⟨m, hm⟩ : ∃ m, m = max b1 b2 := ⟨_, rfl⟩
    rw [← hm]
    rw [← hm] at h
    have a1 : laterB (rOf b1 ns1 q1 (m + 1)) (rOf b2 ns2 q2 (m + 1)) = false := h (m + 1) (by omega)
    rw [o1.ge (by omega), o2.ge (by omega)] at a1
    simp only [laterB, decide_eq_false_iff_not] at a1
    have vv1 := o1.v0
    have vv2 := o1.v1
    have vv3 := o2.v0
    have vv4 := o2.v1
    have qq1 := o1.q0
    have qq2 := o1.q1
    have qq3 := o2.q0
    have qq4 := o2.q1
    have bd : ((m + 1 - b2 : Nat) : Int) * q2 ≤ 3 * 4 := Int.mul_le_mul (by omega) qq4 qq3 (by decide)
    have bd2 : 0 ≤ ((m + 1 - b1 : Nat) : Int) * q1 := Int.mul_nonneg (by omega) qq1
    -- far places
    have far : ∀ k : Nat, laterB (rOf b1 ns1 q1 (m + 1 + k)) (rOf b2 ns2 q2 (m + 1 + k)) = decide (v2 + ((m + 1 - b2 : Nat) : Int) * q2 - (v1 + ((m + 1 - b1 : Nat) : Int) * q1) < (k : Int) * (q1 - q2)) := fun k => by
      rw [o1.ge (by omega), o2.ge (by omega)]
      simp only [laterB]
      rw [show m + 1 + k - b1 = (m + 1 - b1) + k by omega, show m + 1 + k - b2 = (m + 1 - b2) + k by omega]
      push_cast
      rw [Bool.eq_iff_iff, decide_eq_true_iff, decide_eq_true_iff, Int.add_mul, Int.add_mul, Int.mul_sub]
      constructor <;> intro z <;> omega
    generalize hA : v2 + ((m + 1 - b2 : Nat) : Int) * q2 - (v1 + ((m + 1 - b1 : Nat) : Int) * q1) = A at far
    have hA0 : 0 ≤ A := by omega
    have hA1 : A ≤ 71 := by omega
    generalize hg : q1 - q2 = g at far
    by_cases hgp : 0 < g
    · rw [if_pos hgp]
      have d1 : A / g * g ≤ A := Int.ediv_mul_le A (by omega)
      have d2 : A < (A / g + 1) * g := Int.lt_ediv_add_one_mul_self A hgp
      have d3 : 0 ≤ A / g := Int.ediv_nonneg hA0 (by omega)
      have d4 : A / g ≤ A := Int.ediv_le_self _ hA0
      generalize A / g = t at d1 d2 d3 d4
      obtain ⟨u, hu⟩ : ∃ u : Nat, t = u := ⟨t.toNat, by omega⟩
      subst hu
      rw [show ((u : Int) + 1).toNat = u + 1 by omega]
      refine firstN_some (by omega) ?_ ?_
      · show laterB _ _ = true
        rw [far]
        push_cast
        exact decide_eq_true d2
      · intro x hx
        by_cases z : x < m + 2
        · exact h x z
        · show laterB _ _ = false
          rw [show x = m + 1 + (x - (m + 1)) by omega, far]
          refine decide_eq_false fun y => ?_
          have : ((x - (m + 1) : Nat) : Int) * g ≤ (u : Int) * g := Int.mul_le_mul_of_nonneg_right (by omega) (by omega)
          omega
    · rw [if_neg hgp]
      refine firstN_none fun x hx => ?_
      by_cases z : x < m + 2
      · exact h x z
      · show laterB _ _ = false
        rw [show x = m + 1 + (x - (m + 1)) by omega, far]
        refine decide_eq_false fun y => ?_
        have : ((x - (m + 1) : Nat) : Int) * g ≤ 0 := Int.mul_nonpos_of_nonneg_of_nonpos (by omega) (by omega)
        omega
end Rn
end

section
set_option Elab.async false
set_option linter.all false
set_option maxRecDepth 100000
set_option maxHeartbeats 4000000
/-! L06b: first_difference and first_later on forms with one rise. -/
namespace Rn
open PySem PySem.Spec L2
theorem w_mul1 : g_multiple [.int 1, .int 1] = .ok (.int 1) := by kernel_rfl
theorem mx_nat (a b : Nat) : max2F [.int (a : Int), .int (b : Int)] = some (.int ((max a b : Nat) : Int)) := by
  rw [ev_mx]
  congr 2
  split <;> omega
theorem w_bound (b1 b2 : Nat) (N1 N2 : D) (q1 q2 : D) : g_bound_of [.tuple [.int b1, N1, .tuple [q1]], .tuple [.int b2, N2, .tuple [q2]]] = .ok (.tuple [.int ((max b1 b2 + 2 : Nat) : Int), .int 1]) := by
  have e2 : mulF (.int 2) (.int 1) = some (.int 2) := rfl
  have ea : addF (.int ((max b1 b2 : Nat) : Int)) (.int 2) = some (.int ((max b1 b2 + 2 : Nat) : Int)) := by
    rw [ev_add, show ((max b1 b2 : Nat) : Int) + 2 = ((max b1 b2 + 2 : Nat) : Int) by omega]
  unfold g_bound_of
  rw [call2 (m := 1)]
  unfold b_bound_of
  exact fin_rt (seq_to (asg_ok (r := [.fz (.tuple [.int b1, N1, .tuple [q1]]), .fz (.tuple [.int b2, N2, .tuple [q2]]), .no]) (call_ok (ds := [.int 1, .int 1]) rfl w_mul1) rfl) (ret_ok (tup_ok (cons_ok (op_ok (mT_ok (cb_ok (cons_ok (mT_ok rfl) (cons_ok (mT_ok rfl) rfl)) rfl (mx_nat b1 b2))) (mT_ok (op_ok (mT_ok rfl) rfl rfl rfl e2)) rfl rfl ea) rfl) (show (2 : Nat) ≤ 100 by decide))))
theorem w_later (a c : Tm) : g_is_later [oD a, oD c] = .ok (.bool (laterB a c)) := by
  cases a with
  | none => rfl
  | some x =>
    cases c with
    | none => rfl
    | some y => rfl
abbrev f1D (b : Nat) (ns : List Tm) (q : Int) : D := fD (b, ns, [some q])
section
variable {b1 b2 : Nat} {ns1 ns2 : List Tm} {v1 q1 v2 q2 : Int} (o1 : One b1 ns1 v1 q1) (o2 : One b2 ns2 v2 q2)
include o1 o2
theorem w_unlike : g_first_unlike [f1D b1 ns1 q1, f1D b2 ns2 q2] = .ok (res (firstN (fun p => !decide (rOf b1 ns1 q1 p = rOf b2 ns2 q2 p)) (max b1 b2 + 2))) := by
  have h1 := o1.b2
  have h2 := o2.b2
  obtain ⟨F1, hF1⟩ : ∃ F, F = f1D b1 ns1 q1 := ⟨_, rfl⟩
  obtain ⟨F2, hF2⟩ : ∃ F, F = f1D b2 ns2 q2 := ⟨_, rfl⟩
  have wb := w_bound b1 b2 (.tuple (ns1.map oD)) (.tuple (ns2.map oD)) (.int q1) (.int q2)
  have wb : g_bound_of [F1, F2] = .ok (.tuple [.int ((max b1 b2 + 2 : Nat) : Int), .int 1]) := by rw [hF1, hF2]; exact wb
  obtain ⟨n, hn⟩ : ∃ n, n = max b1 b2 + 2 := ⟨_, rfl⟩
  rw [← hn] at wb ⊢
  have va : ∀ p, p < n → g_value_of [F1, .int (0 + (p : Int))] = .ok (oD (rOf b1 ns1 q1 p)) := fun p hp => by
    rw [hF1, show (0 : Int) + (p : Int) = (p : Int) by omega]
    exact o1.val p (by omega)
  have vb : ∀ p, p < n → g_value_of [F2, .int (0 + (p : Int))] = .ok (oD (rOf b2 ns2 q2 p)) := fun p hp => by
    rw [hF2, show (0 : Int) + (p : Int) = (p : Int) by omega]
    exact o2.val p (by omega)
  have hi : mRng1 (mCons (mOp ixF (mT (mCall0 g_bound_of (mCons (mVar 0) (mCons (mVar 1) (mNil))))) (mT (ret (.int 0)))) (mNil)) [.fz F1, .fz F2, .no] = .ok ((List.range n).map fun k : Nat => PyData.int (0 + (k : Int))) [.fz F1, .fz F2, .no] :=
    rng1_ok (cons_ok (op_ok (mT_ok (call_ok rfl wb)) (mT_ok rfl) rfl rfl rfl) rfl) (by omega)
  have tst : ∀ p, p < n → mTst (mOp neF (mT (mCall0 g_value_of (mCons (mVar 0) (mCons (mVar 2) (mNil))))) (mT (mCall0 g_value_of (mCons (mVar 1) (mCons (mVar 2) (mNil)))))) [.fz F1, .fz F2, .fz (.int (0 + (p : Int)))] = .ok (!decide (rOf b1 ns1 q1 p = rOf b2 ns2 q2 p)) [.fz F1, .fz F2, .fz (.int (0 + (p : Int)))] := fun p hp =>
    tst_ok (op_ok (mT_ok (call_ok rfl (va p hp))) (mT_ok (call_ok rfl (vb p hp))) rfl rfl (neF_o _ _))
  have miss : ∀ p, p < n → (!decide (rOf b1 ns1 q1 p = rOf b2 ns2 q2 p)) = false → l0_first_unlike [.fz F1, .fz F2, .fz (.int (0 + (p : Int)))] = .nx [.fz F1, .fz F2, .fz (.int (0 + (p : Int)))] := fun p hp hz => by
    have := tst p hp
    rw [hz] at this
    exact ifs_f this rfl
  unfold g_first_unlike
  rw [← hF1, ← hF2, call2 (m := 1)]
  unfold b_first_unlike
  rcases least_b (P := fun p => !decide (rOf b1 ns1 q1 p = rOf b2 ns2 q2 p)) n with ⟨k, g1, g2, g3⟩ | h
  · rw [firstN_some g1 g2 g3]
    obtain ⟨post, hpost⟩ := range_at g1
    obtain ⟨r, e⟩ := for_hit (h := hName 2) (b := l0_first_unlike) (fun k : Nat => PyData.int (0 + (k : Int))) (fun ρ => ∃ x, ρ = [.fz F1, .fz F2, x]) k post (d := .int (0 + (k : Int))) (List.range k) (ρ0 := [.fz F1, .fz F2, .no]) ⟨.no, rfl⟩ (fun y hy ρ hI => by
        obtain ⟨x, rfl⟩ := hI
        have hy := List.mem_range.mp hy
        exact ⟨_, rfl, _, miss y (by omega) (g3 y hy), _, rfl⟩) (fun ρ hI => by
        obtain ⟨x, rfl⟩ := hI
        have := tst k g1
        rw [show (!decide (rOf b1 ns1 q1 k = rOf b2 ns2 q2 k)) = true from g2] at this
        exact ⟨_, rfl, _, ifs_t this rfl⟩)
    rw [← hpost] at e
    have er : res (some k) = .int (0 + (k : Int)) := by
      rw [show (0 : Int) + (k : Int) = (k : Int) by omega]
      rfl
    rw [er]
    exact fin_rt (seq_rt (for_ok hi e))
  · rw [firstN_none h]
    obtain ⟨r, e, _⟩ := for_inv (h := hName 2) (b := l0_first_unlike) (fun k : Nat => PyData.int (0 + (k : Int))) (fun _ ρ => ∃ x, ρ = [.fz F1, .fz F2, x]) (List.range n) (ρ0 := [.fz F1, .fz F2, .no]) ⟨.no, rfl⟩ (fun pre y post ex ρ hI => by
        obtain ⟨x, rfl⟩ := hI
        obtain ⟨e1, e2⟩ := range_pos ex
        exact ⟨_, _, rfl, .inl (miss y (by omega) (h y (by omega))), _, rfl⟩)
    exact fin_rt (seq_to (for_ok hi e) rfl)
theorem w_diff : g_first_difference [f1D b1 ns1 q1, f1D b2 ns2 q2] = .ok (res (firstN (fun p => !decide (rOf b1 ns1 q1 p = rOf b2 ns2 q2 p)) 80)) := by
  have n1 := w_need o1.form
  have n2 := w_need o2.form
  rw [if_pos rfl] at n1 n2
  have := w_unlike o1 o2
  rw [← unlike_far o1 o2] at this
  unfold g_first_difference
  rw [call2 (m := 0)]
  exact fin_rt (seq_to (drop_ok (callX_ok rfl n1)) (seq_to (drop_ok (callX_ok rfl n2)) (ret_ok (call_ok rfl this))))
end
end Rn
end

section
set_option Elab.async false
set_option linter.all false
set_option maxRecDepth 100000
set_option maxHeartbeats 4000000
/-! L06c: first_later on forms with one rise. -/
namespace Rn
open PySem PySem.Spec L2
abbrev rP (F1 F2 : D) (n : Nat) (B : D) (x5 x6 x7 x8 x9 : Cell) : Rho := [.fz F1, .fz F2, .fz (.int (n : Int)), .fz (.int 1), .fz B, x5, x6, x7, x8, x9]
abbrev pA : S := sPar [false, false] [6, 7] (mCons (mCall0 g_value_of (mCons (mVar 0) (mCons (mVar 5) (mNil)))) (mCons (mCall0 g_value_of (mCons (mVar 1) (mCons (mVar 5) (mNil)))) (mNil)))
abbrev tB : M Bool := mTst (mCall0 g_is_later (mCons (mVar 6) (mCons (mVar 7) (mNil))))
abbrev tC : M Bool := mAnd (mTst (mOp geF (mVarT 5) (mT (mOp subF (mVarT 2) (mVarT 3))))) (mTst (mOp (isF true) (mVarT 6) (mT (ret .none))))
abbrev mG : M D := mOp subF (mT (mOp subF (mT (mCall0 g_value_of (mCons (mVar 0) (mCons (mOp addF (mVarT 5) (mVarT 3)) (mNil))))) (mVarT 6))) (mT (mOp subF (mT (mCall0 g_value_of (mCons (mVar 1) (mCons (mOp addF (mVarT 5) (mVarT 3)) (mNil))))) (mVarT 7)))
section
variable {F1 F2 : D} {a c : Nat → Tm} {n : Nat} (va : ∀ p, p < n + 2 → g_value_of [F1, .int (p : Int)] = .ok (oD (a p))) (vb : ∀ p, p < n + 2 → g_value_of [F2, .int (p : Int)] = .ok (oD (c p)))
include va vb
theorem past_look {B : D} {x6 x7 x8 x9 : Cell} (p : Nat) (hp : p < n) : pA (rP F1 F2 n B (.fz (.int p)) x6 x7 x8 x9) = .nx (rP F1 F2 n B (.fz (.int p)) (.fz (oD (a p))) (.fz (oD (c p))) x8 x9) :=
  par_ok (cons_ok (call_ok rfl (va p (by omega))) (cons_ok (call_ok rfl (vb p (by omega))) rfl)) rfl
theorem past_tst {B : D} {x8 x9 : Cell} (p : Nat) : tB (rP F1 F2 n B (.fz (.int p)) (.fz (oD (a p))) (.fz (oD (c p))) x8 x9) = .ok (laterB (a p) (c p)) (rP F1 F2 n B (.fz (.int p)) (.fz (oD (a p))) (.fz (oD (c p))) x8 x9) := tst_ok (call_ok rfl (w_later _ _))
theorem past_hit {x6 x7 x8 x9 : Cell} (p : Nat) (hp : p < n) (h : laterB (a p) (c p) = true) : ∃ r, l0_first_past (rP F1 F2 n .none (.fz (.int p)) x6 x7 x8 x9) = .rt (.int p) r := by
  have t := past_tst va vb (B := .none) (x8 := x8) (x9 := x9) p
  rw [h] at t
  exact ⟨_, seq_to (past_look va vb p hp) (seq_rt (ifs_t t (ret_ok (if_ok (t := true) (tst_ok (op_ok rfl (mT_ok rfl) rfl rfl rfl)) (fun _ => rfl) (fun z => by cases z)))))⟩
theorem past_early {x6 x7 x8 x9 : Cell} (p : Nat) (hp : p + 1 < n) (h : laterB (a p) (c p) = false) : l0_first_past (rP F1 F2 n .none (.fz (.int p)) x6 x7 x8 x9) = .nx (rP F1 F2 n .none (.fz (.int p)) (.fz (oD (a p))) (.fz (oD (c p))) x8 x9) := by
  have t := past_tst va vb (B := .none) (x8 := x8) (x9 := x9) p
  rw [h] at t
  have ge : geF (.int (p : Int)) (.int ((n : Int) - 1)) = some (.bool false) := by
    unfold geF
    rw [ev_cmp]
    congr 2
    exact decide_eq_false (by omega)
  exact seq_to (past_look va vb p (by omega)) (seq_to (ifs_f t rfl) (ifs_f (and_f (tst_ok (op_ok rfl (mT_ok (op_ok rfl rfl rfl rfl rfl)) rfl rfl ge))) rfl))
theorem past_last {x6 x7 x8 x9 : Cell} (p : Nat) (hp : p + 1 = n) {x y x' y' : Int} (ea : a p = some x) (ec : c p = some y) (ea' : a (p + 1) = some x') (ec' : c (p + 1) = some y') (h : laterB (a p) (c p) = false) (hg : 0 < (x' - x) - (y' - y) → (x' - x) - (y' - y) ≤ 1000) : ∃ y6 y7 y8 y9, l0_first_past (rP F1 F2 n .none (.fz (.int p)) x6 x7 x8 x9) = .nx (rP F1 F2 n (if 0 < (x' - x) - (y' - y) then .int ((p : Int) + ((y - x) / ((x' - x) - (y' - y)) + 1) * 1) else .none) (.fz (.int p)) y6 y7 y8 y9) := by
  have t := past_tst va vb (B := .none) (x8 := x8) (x9 := x9) p
  have lk := past_look va vb (B := .none) (x6 := x6) (x7 := x7) (x8 := x8) (x9 := x9) p (by omega)
  rw [h] at t
  rw [ea, ec] at t lk
  have ge : geF (.int (p : Int)) (.int ((n : Int) - 1)) = some (.bool true) := by
    unfold geF
    rw [ev_cmp]
    congr 2
    exact decide_eq_true (by omega)
  have w1 := va (p + 1) (by omega)
  have w2 := vb (p + 1) (by omega)
  rw [ea'] at w1
  rw [ec'] at w2
  rw [show ((p + 1 : Nat) : Int) = (p : Int) + 1 by omega] at w1 w2
  have g : mG (rP F1 F2 n .none (.fz (.int p)) (.fz (.int x)) (.fz (.int y)) x8 x9) = .ok (.int ((x' - x) - (y' - y))) (rP F1 F2 n .none (.fz (.int p)) (.fz (.int x)) (.fz (.int y)) x8 x9) :=
    op_ok (mT_ok (op_ok (mT_ok (call_ok (cons_ok rfl (cons_ok (op_ok rfl rfl rfl rfl rfl) rfl)) w1)) rfl rfl rfl rfl)) (mT_ok (op_ok (mT_ok (call_ok (cons_ok rfl (cons_ok (op_ok rfl rfl rfl rfl rfl) rfl)) w2)) rfl rfl rfl rfl)) rfl rfl rfl
  have tc : tC (rP F1 F2 n .none (.fz (.int p)) (.fz (.int x)) (.fz (.int y)) x8 x9) = .ok true (rP F1 F2 n .none (.fz (.int p)) (.fz (.int x)) (.fz (.int y)) x8 x9) :=
    and_t (tst_ok (op_ok rfl (mT_ok (op_ok rfl rfl rfl rfl rfl)) rfl rfl ge)) (tst_ok (op_ok rfl (mT_ok rfl) rfl rfl rfl))
  generalize (x' - x) - (y' - y) = G at hg g
  have hG : gtF (.int G) (.int 0) = some (.bool (decide (0 < G))) := by
    unfold gtF
    rw [ev_cmp]
  by_cases hp0 : 0 < G
  · rw [if_pos hp0]
    rw [decide_eq_true hp0] at hG
    have hG3 := hg hp0
    have fd : fdivF (.int (y - x)) (.int G) = some (.int ((y - x) / G)) := by
      have hs : G.natAbs ≤ 1000 := by omega
      exact fd0 hp0 (Nat.lt_of_le_of_lt hs (by decide))
    have ml : mulF (.int ((y - x) / G + 1)) (.int 1) = some (.int (((y - x) / G + 1) * 1)) := ev_mul _ _ (by rw [show isSmall 1 = true from rfl, Bool.or_true])
    exact ⟨_, _, _, _, seq_to lk (seq_to (ifs_f t rfl) (ifs_t tc (seq_to (asg_ok g rfl) (ifs_t (tst_ok (op_ok rfl (mT_ok rfl) rfl rfl hG)) (seq_to (asg_ok (op_ok (mT_ok (op_ok (mT_ok (op_ok rfl rfl rfl rfl rfl)) rfl rfl rfl fd)) (mT_ok rfl) rfl rfl rfl) rfl) (asg_ok (if_ok (t := true) (tst_ok (op_ok rfl (mT_ok rfl) rfl rfl rfl)) (fun _ => op_ok rfl (mT_ok (op_ok rfl rfl rfl rfl ml)) rfl rfl rfl) (fun z => by cases z)) rfl))))))⟩
  · rw [if_neg hp0]
    rw [decide_eq_false hp0] at hG
    exact ⟨_, _, _, _, seq_to lk (seq_to (ifs_f t rfl) (ifs_t tc (seq_to (asg_ok g rfl) (ifs_f (tst_ok (op_ok rfl (mT_ok rfl) rfl rfl hG)) rfl))))⟩
end
section
variable {b1 b2 : Nat} {ns1 ns2 : List Tm} {v1 q1 v2 q2 : Int} (o1 : One b1 ns1 v1 q1) (o2 : One b2 ns2 v2 q2)
include o1 o2
theorem w_past : g_first_past [f1D b1 ns1 q1, f1D b2 ns2 q2] = .ok (res (pastF b1 b2 ns1 ns2 v1 q1 v2 q2)) := by
  have h1 := o1.b2
  have h2 := o2.b2
  obtain ⟨F1, hF1⟩ : ∃ F, F = f1D b1 ns1 q1 := ⟨_, rfl⟩
  obtain ⟨F2, hF2⟩ : ∃ F, F = f1D b2 ns2 q2 := ⟨_, rfl⟩
  have wb := w_bound b1 b2 (.tuple (ns1.map oD)) (.tuple (ns2.map oD)) (.int q1) (.int q2)
  have wb : g_bound_of [F1, F2] = .ok (.tuple [.int ((max b1 b2 + 2 : Nat) : Int), .int 1]) := by rw [hF1, hF2]; exact wb
  obtain ⟨m, hm⟩ : ∃ m, m = max b1 b2 := ⟨_, rfl⟩
  obtain ⟨n, hn⟩ : ∃ n, n = m + 2 := ⟨_, rfl⟩
  unfold pastF
  rw [← hm] at wb ⊢
  rw [← hn] at wb ⊢
  have va : ∀ p, p < n + 2 → g_value_of [F1, .int (p : Int)] = .ok (oD (rOf b1 ns1 q1 p)) := fun p hp => by
    rw [hF1]
    exact o1.val p (by omega)
  have vb : ∀ p, p < n + 2 → g_value_of [F2, .int (p : Int)] = .ok (oD (rOf b2 ns2 q2 p)) := fun p hp => by
    rw [hF2]
    exact o2.val p (by omega)
  have hi : mRng1 (mCons (mVar 2) (mNil)) (rP F1 F2 n .none .no .no .no .no .no) = .ok ((List.range n).map fun k : Nat => PyData.int (0 + (k : Int))) (rP F1 F2 n .none .no .no .no .no .no) := rng1_ok rfl (by omega)
  have set5 : ∀ (p : Nat) (B : D) (x5 x6 x7 x8 x9 : Cell), hName 5 (.int (0 + (p : Int))) (rP F1 F2 n B x5 x6 x7 x8 x9) = some (rP F1 F2 n B (.fz (.int p)) x6 x7 x8 x9) := fun p B x5 x6 x7 x8 x9 => by
    rw [show (0 : Int) + (p : Int) = (p : Int) by omega]
    rfl
  have s1 : sAsg (mCall0 g_bound_of (mCons (mVar 0) (mCons (mVar 1) (mNil)))) (hTup 2 (hCons (hName 2) (hCons (hName 3) (hNil)))) [.fz F1, .fz F2, .no, .no, .no, .no, .no, .no, .no, .no] = .nx [.fz F1, .fz F2, .fz (.int (n : Int)), .fz (.int 1), .no, .no, .no, .no, .no, .no] := asg_ok (call_ok rfl wb) rfl
  unfold g_first_past
  rw [← hF1, ← hF2, call2 (m := 8)]
  unfold b_first_past
  rcases least_b (P := fun p => laterB (rOf b1 ns1 q1 p) (rOf b2 ns2 q2 p)) n with ⟨k, g1, g2, g3⟩ | h
  · rw [firstN_some g1 g2 g3]
    obtain ⟨post, hpost⟩ := range_at g1
    obtain ⟨r, e⟩ := for_hit (h := hName 5) (b := l0_first_past) (fun k : Nat => PyData.int (0 + (k : Int))) (fun ρ => ∃ x5 x6 x7 x8 x9, ρ = rP F1 F2 n .none x5 x6 x7 x8 x9) k post (d := .int (k : Int)) (List.range k) (ρ0 := rP F1 F2 n .none .no .no .no .no .no) ⟨_, _, _, _, _, rfl⟩ (fun y hy ρ hI => by
        obtain ⟨x5, x6, x7, x8, x9, rfl⟩ := hI
        have hy := List.mem_range.mp hy
        exact ⟨_, set5 y _ _ _ _ _ _, _, past_early va vb y (by omega) (g3 y hy), _, _, _, _, _, rfl⟩) (fun ρ hI => by
        obtain ⟨x5, x6, x7, x8, x9, rfl⟩ := hI
        obtain ⟨r, e⟩ := past_hit va vb (x6 := x6) (x7 := x7) (x8 := x8) (x9 := x9) k g1 g2
        exact ⟨_, set5 k _ _ _ _ _ _, r, e⟩)
    rw [← hpost] at e
    exact fin_rt (seq_to s1 (seq_to (asg_ok rfl rfl) (seq_rt (for_ok hi e))))
  · rw [firstN_none h]
    simp only
    have aa := o1.ge (p := m + 1) (by omega)
    have cc := o2.ge (p := m + 1) (by omega)
    have aa' := o1.ge (p := m + 1 + 1) (by omega)
    have cc' := o2.ge (p := m + 1 + 1) (by omega)
    obtain ⟨X, hX⟩ : ∃ X, X = v1 + ((m + 1 - b1 : Nat) : Int) * q1 := ⟨_, rfl⟩
    obtain ⟨Y, hY⟩ : ∃ Y, Y = v2 + ((m + 1 - b2 : Nat) : Int) * q2 := ⟨_, rfl⟩
    have e1 : v1 + ((m + 1 + 1 - b1 : Nat) : Int) * q1 = X + q1 := by
      rw [hX, show m + 1 + 1 - b1 = (m + 1 - b1) + 1 by omega]
      push_cast
      rw [Int.add_mul]
      omega
    have e2 : v2 + ((m + 1 + 1 - b2 : Nat) : Int) * q2 = Y + q2 := by
      rw [hY, show m + 1 + 1 - b2 = (m + 1 - b2) + 1 by omega]
      push_cast
      rw [Int.add_mul]
      omega
    rw [e1] at aa'
    rw [e2] at cc'
    rw [← hX] at aa ⊢
    rw [← hY] at cc ⊢
    have qq1 := o1.q1
    have qq2 := o2.q0
    have hl := h (m + 1) (by omega)
    have XY : X ≤ Y := by
      have hl : laterB (rOf b1 ns1 q1 (m + 1)) (rOf b2 ns2 q2 (m + 1)) = false := hl
      rw [aa, cc] at hl
      simp only [laterB, decide_eq_false_iff_not] at hl
      omega
    have hgn : (X + q1 - X) - (Y + q2 - Y) = q1 - q2 := by omega
    obtain ⟨B, hB⟩ : ∃ B : D, B = if 0 < q1 - q2 then .int (((m + 1 : Nat) : Int) + ((Y - X) / (q1 - q2) + 1) * 1) else .none := ⟨_, rfl⟩
    have last := fun x6 x7 x8 x9 => past_last va vb (x6 := x6) (x7 := x7) (x8 := x8) (x9 := x9) (m + 1) (by omega) aa cc aa' cc' hl (by omega)
    rw [hgn, ← hB] at last
    obtain ⟨r, e, x5, x6, x7, x8, x9, hr⟩ := for_inv (h := hName 5) (b := l0_first_past) (fun k : Nat => PyData.int (0 + (k : Int))) (fun pre ρ => ∃ x5 x6 x7 x8 x9, ρ = rP F1 F2 n (if pre.length ≤ m + 1 then .none else B) x5 x6 x7 x8 x9) (List.range n) (ρ0 := rP F1 F2 n .none .no .no .no .no .no) ⟨.no, .no, .no, .no, .no, by rw [if_pos (by simp)]⟩ (fun pre y post ex ρ hI => by
        obtain ⟨x5, x6, x7, x8, x9, rfl⟩ := hI
        obtain ⟨ey, hy⟩ := range_pos ex
        rw [if_pos (by omega), List.length_append, List.length_singleton]
        by_cases z : pre.length = m + 1
        · rw [if_neg (by omega)]
          obtain ⟨y6, y7, y8, y9, e⟩ := last x6 x7 x8 x9
          rw [← z, ← ey] at e
          exact ⟨_, _, set5 y _ _ _ _ _ _, .inl e, _, _, _, _, _, rfl⟩
        · rw [if_pos (by omega)]
          exact ⟨_, _, set5 y _ _ _ _ _ _, .inl (past_early va vb y (by omega) (h y (by omega))), _, _, _, _, _, rfl⟩)
    rw [if_neg (by rw [List.length_range]; omega)] at hr
    have eB : res (if 0 < q1 - q2 then some (m + 1 + ((Y - X) / (q1 - q2) + 1).toNat) else none) = B := by
      rw [hB]
      by_cases z : 0 < q1 - q2
      · rw [if_pos z, if_pos z]
        have : 0 ≤ (Y - X) / (q1 - q2) := Int.ediv_nonneg (by omega) (by omega)
        generalize (Y - X) / (q1 - q2) = T at this
        have ee : ((m + 1 + (T + 1).toNat : Nat) : Int) = ((m + 1 : Nat) : Int) + (T + 1) * 1 := by omega
        exact congrArg PyData.int ee
      · rw [if_neg z, if_neg z]
        rfl
    rw [eB]
    rw [hr] at e
    exact fin_rt (seq_to s1 (seq_to (asg_ok rfl rfl) (seq_to (for_ok hi e) (ret_ok rfl))))
theorem w_flater : g_first_later [f1D b1 ns1 q1, f1D b2 ns2 q2] = .ok (res (firstN (fun p => laterB (rOf b1 ns1 q1 p) (rOf b2 ns2 q2 p)) 80)) := by
  have n1 := w_need o1.form
  have n2 := w_need o2.form
  rw [if_pos rfl] at n1 n2
  have := w_past o1 o2
  rw [← past_far o1 o2] at this
  unfold g_first_later
  rw [call2 (m := 0)]
  exact fin_rt (seq_to (drop_ok (callX_ok rfl n1)) (seq_to (drop_ok (callX_ok rfl n2)) (ret_ok (call_ok rfl this))))
end
end Rn
end

section
set_option Elab.async false
set_option linter.all false
set_option maxRecDepth 100000
set_option maxHeartbeats 4000000
/-! L06d: the drawn forms. -/
namespace Rn
open PySem PySem.Spec L2
def Num6 (t : Tm) : Prop := match t with
  | none => True
  | some v => 0 ≤ v ∧ v ≤ 59
theorem Num6.time {t : Tm} (h : Num6 t) : timeOk t = true := by
  cases t with
  | none => rfl
  | some v =>
    have : 0 ≤ v ∧ v ≤ 59 := h
    simp only [timeOk, Bool.and_eq_true, decide_eq_true_eq]
    omega
theorem nums_go {b : Nat} : ∀ (k i : Nat) (d : D), IsDice d → ∃ (ns : List Tm) (d' : D), IsDice d' ∧ ns.length = k ∧ (∀ t ∈ ns, Num6 t) ∧ (∀ j, j < k → i + j = b → ∃ v, ns.getD j none = some v) ∧
    lcGo (hName 4) mYes e0__law_form_of [4] ((List.range k).map fun j : Nat => PyData.int ((i + j : Nat) : Int)) [.bw d, .fz (.int b), .no, .no, .no] = .ok (ns.map oD) [.bw d', .fz (.int b), .no, .no, .no]
  | 0, i, d, hd => ⟨[], d, hd, rfl, by simp, fun j hj => by omega, rfl⟩
  | k + 1, i, d, hd => by
    have key : ∃ (t : Tm) (d1 : D), IsDice d1 ∧ Num6 t ∧ (i = b → ∃ v, t = some v) ∧ e0__law_form_of [.bw d, .fz (.int b), .no, .no, .fz (.int (i : Nat))] = .ok (oD t) [.bw d1, .fz (.int b), .no, .no, .fz (.int (i : Nat))] := by
      have ei : eqF (.int (i : Int)) (.int (b : Int)) = some (.bool (decide (i = b))) := good_nat.eqF i b
      by_cases hb : i = b
      · rw [decide_eq_true hb] at ei
        obtain ⟨v, d1, hv, hd1, q1⟩ := roll_n hd 60 60 rfl (by decide) (by decide)
        exact ⟨some (v : Int), d1, hd1, ⟨by omega, by omega⟩, fun _ => ⟨_, rfl⟩, if_ok (t := true) (r := [.bw d, .fz (.int b), .no, .no, .fz (.int (i : Nat))]) (or_t (tst_ok (op_ok rfl rfl rfl rfl ei))) (fun _ => callB_ok rfl rfl rfl q1 rfl) (fun z => by cases z)⟩
      · rw [decide_eq_false hb] at ei
        obtain ⟨x, d1, hx, hd1, q1⟩ := roll_n hd 3 3 rfl (by decide) (by decide)
        have gx : gtF (.int (x : Int)) (.int 0) = some (.bool (decide ((0 : Int) < (x : Int)))) := rfl
        by_cases hx0 : (0 : Int) < (x : Int)
        · rw [decide_eq_true hx0] at gx
          obtain ⟨v, d2, hv, hd2, q2⟩ := roll_n hd1 60 60 rfl (by decide) (by decide)
          exact ⟨some (v : Int), d2, hd2, ⟨by omega, by omega⟩, fun z => absurd z hb, if_ok (t := true) (r := [.bw d1, .fz (.int b), .no, .no, .fz (.int (i : Nat))]) (or_f (tst_ok (op_ok rfl rfl rfl rfl ei)) (tst_ok (op_ok (mT_ok (callB_ok rfl rfl rfl q1 rfl)) (mT_ok rfl) rfl rfl gx))) (fun _ => callB_ok rfl rfl rfl q2 rfl) (fun z => by cases z)⟩
        · rw [decide_eq_false hx0] at gx
          exact ⟨none, d1, hd1, trivial, fun z => absurd z hb, if_ok (t := false) (r := [.bw d1, .fz (.int b), .no, .no, .fz (.int (i : Nat))]) (or_f (tst_ok (op_ok rfl rfl rfl rfl ei)) (tst_ok (op_ok (mT_ok (callB_ok rfl rfl rfl q1 rfl)) (mT_ok rfl) rfl rfl gx))) (fun z => by cases z) (fun _ => rfl)⟩
    obtain ⟨t, d1, hd1, ht, hb, e1⟩ := key
    obtain ⟨ns, d', hd', hlen, hok, hbb, e2⟩ := nums_go (b := b) k (i + 1) d1 hd1
    refine ⟨t :: ns, d', hd', by simp [hlen], fun u hu => ?_, fun j hj => ?_, ?_⟩
    · rcases List.mem_cons.mp hu with z | z
      · rw [z]; exact ht
      · exact hok u z
    · cases j with
      | zero => exact fun z => hb z
      | succ j => exact fun z => hbb j (by omega) (by omega)
    · rw [List.range_succ_eq_map, List.map_cons, List.map_map]
      refine lcgo_cons (ρ1 := [.bw d, .fz (.int b), .no, .no, .fz (.int (i : Nat))]) rfl e1 ?_
      have ef : ((fun j : Nat => PyData.int ((i + j : Nat) : Int)) ∘ Nat.succ) = fun j : Nat => PyData.int ((i + 1 + j : Nat) : Int) := by
        funext j
        simp only [Function.comp, Nat.succ_eq_add_one]
        rw [show i + (j + 1) = i + 1 + j by omega]
      rw [ef]
      exact e2
theorem getD_mem {ns : List Tm} {i : Nat} {v : Int} (h : ns.getD i none = some v) : some v ∈ ns := by
  rw [List.getD_eq_getElem?_getD] at h
  cases q : ns[i]? with
  | none => rw [q] at h; cases h
  | some t =>
    rw [q] at h
    have h : t = some v := h
    rw [← h]
    exact List.mem_of_getElem? q
theorem set_getD {α : Type} (xs : List α) (i j : Nat) (a d : α) (h : i < xs.length) : (xs.set i a).getD j d = if i = j then a else xs.getD j d := by
  rw [List.getD_eq_getElem?_getD, List.getD_eq_getElem?_getD, List.getElem?_set]
  by_cases e : i = j
  · subst e
    simp [h]
  · simp [e]
theorem form_ok {d : D} (hd : IsDice d) : ∃ (b : Nat) (ns : List Tm) (v q : Int) (d' : D), IsDice d' ∧ One b ns v q ∧ noEx c__law_form_of d [] = .ok (f1D b ns q) d' := by
  obtain ⟨b, d1, hb, hd1, q1⟩ := roll_n hd 3 3 rfl (by decide) (by decide)
  obtain ⟨ns, d2, hd2, hnl, hno, hnb, e2⟩ := nums_go (b := b) (b + 1) 0 d1 hd1
  obtain ⟨v, hv⟩ := hnb b (by omega) (by omega)
  obtain ⟨q, d3, hq, hd3, q3⟩ := roll_n hd2 5 5 rfl (by decide) (by decide)
  have hvv : 0 ≤ v ∧ v ≤ 59 := hno _ (getD_mem hv)
  have body : Rt b__law_form_of (fun u r => ∃ (ns : List Tm) (x1 x2 x3 x4 : Cell), One b ns v (q : Int) ∧ u = f1D b ns (q : Int) ∧ r = [.bw d3, x1, x2, x3, x4]) [.bw d, .no, .no, .no, .no] := by
    refine rt_seq (wp_set (d := .int (b : Int)) (r := [.bw d1, .no, .no, .no, .no]) (callB_ok rfl rfl rfl q1 rfl) rfl ?_)
    refine rt_seq (wp_own (d := .list (ns.map oD)) (r := [.bw d2, .fz (.int b), .no, .no, .no]) ?_ ?_)
    · have hi : mRng1 (mCons (mOp addF (mVarT 1) (mT (ret (.int 1)))) (mNil)) [.bw d1, .fz (.int b), .no, .no, .no] = .ok ((List.range (b + 1)).map fun j : Nat => PyData.int ((0 + j : Nat) : Int)) [.bw d1, .fz (.int b), .no, .no, .no] := by
        have ea : addF (.int (b : Int)) (.int 1) = some (.int ((b + 1 : Nat) : Int)) := rfl
        have h0 : mCons (mOp addF (mVarT 1) (mT (ret (.int 1)))) (mNil) [.bw d1, .fz (.int b), .no, .no, .no] = .ok [.int ((b + 1 : Nat) : Int)] [.bw d1, .fz (.int b), .no, .no, .no] := cons_ok (op_ok rfl (mT_ok rfl) rfl rfl ea) rfl
        refine (rng1_ok (n := b + 1) h0 (by omega)).trans ?_
        have : (fun k : Nat => PyData.int (0 + (k : Int))) = fun j : Nat => PyData.int ((0 + j : Nat) : Int) := by
          funext j
          rw [show ((0 + j : Nat) : Int) = 0 + (j : Int) by omega]
        rw [this]
      exact mlc_st hi (by simp [big]; omega) e2
    refine rt_seq (wp_set (d := .int (q : Int)) (r := [.bw d3, .fz (.int b), .ow (.list (ns.map oD)), .no, .no]) (callB_ok rfl rfl rfl q3 rfl) rfl ?_)
    cases b with
    | zero =>
      refine rt_seq (wp_not (r := [.bw d3, .fz (.int (0 : Nat)), .ow (.list (ns.map oD)), .fz (.int (q : Int)), .no]) (and_f (tst_ok (op_ok rfl (mT_ok rfl) rfl rfl rfl))) ?_)
      exact rt_ret (d := f1D 0 ns (q : Int)) rfl ⟨ns, _, _, _, _, ⟨by omega, hnl, hv, hvv.1, hvv.2, by omega, by omega, fun t ht => (hno t ht).time, fun x hx => by omega⟩, rfl, rfl⟩
    | succ x =>
      have a1 := atO (row := ns) (i := (x : Int)) (n := x) rfl (by omega)
      have a2 := atO (row := ns) (i := ((x + 1 : Nat) : Int)) (n := x + 1) rfl (by omega)
      rw [hv] at a2
      have es : subF (.int ((x + 1 : Nat) : Int)) (.int 1) = some (.int (x : Int)) := by
        rw [ev_sub, show ((x + 1 : Nat) : Int) - 1 = (x : Int) by omega]
      have gt : gtF (.int ((x + 1 : Nat) : Int)) (.int 0) = some (.bool true) := by
        unfold gtF
        rw [ev_cmp, decide_eq_true (by omega)]
      have eq := eqF_o (ns.getD x none) (some (v - (q : Int)))
      have tst : mAnd (mTst (mOp gtF (mVarT 1) (mT (ret (.int 0))))) (mTst (mOp eqF (mT (mOp ixF (mVarT 2) (mT (mOp subF (mVarT 1) (mT (ret (.int 1))))))) (mT (mOp subF (mT (mOp ixF (mVarT 2) (mVarT 1))) (mVarT 3))))) [.bw d3, .fz (.int ((x + 1 : Nat) : Int)), .ow (.list (ns.map oD)), .fz (.int (q : Int)), .no] = .ok (decide (ns.getD x none = some (v - (q : Int)))) [.bw d3, .fz (.int ((x + 1 : Nat) : Int)), .ow (.list (ns.map oD)), .fz (.int (q : Int)), .no] :=
        and_t (tst_ok (op_ok rfl (mT_ok rfl) rfl rfl gt)) (tst_ok (op_ok (mT_ok (op_ok rfl (mT_ok (op_ok rfl (mT_ok rfl) rfl rfl es)) rfl rfl a1)) (mT_ok (op_ok (mT_ok (op_ok rfl rfl rfl rfl a2)) rfl rfl rfl rfl)) rfl rfl eq))
      refine rt_seq (wp_if tst (fun z => ?_) (fun z => ?_))
      · refine wp_setitem (d := .none) (r := [.bw d3, .fz (.int ((x + 1 : Nat) : Int)), .ow (.list (ns.map oD)), .fz (.int (q : Int)), .no]) (r2 := [.bw d3, .fz (.int ((x + 1 : Nat) : Int)), .ow (.list (ns.map oD)), .fz (.int (q : Int)), .no]) (k := (x : Int)) rfl rfl (op_ok rfl (mT_ok rfl) rfl rfl es) (setD_ok (n := x) rfl rfl (by simp; omega) rfl) ?_
        have em : (ns.map oD).set x PyData.none = (ns.set x none).map oD := by rw [List.map_set]; rfl
        rw [em]
        refine rt_ret (d := f1D (x + 1) (ns.set x none) (q : Int)) rfl ⟨ns.set x none, _, _, _, _, ⟨by omega, by simp [hnl], ?_, hvv.1, hvv.2, by omega, by omega, fun t ht => ?_, fun y hy => ?_⟩, rfl, rfl⟩
        · rw [set_getD _ _ _ _ _ (by omega), if_neg (by omega)]
          exact hv
        · rcases List.mem_or_eq_of_mem_set ht with w | w
          · exact (hno t w).time
          · rw [w]; rfl
        · have : y = x := by omega
          rw [this, set_getD _ _ _ _ _ (by omega), if_pos rfl]
          exact fun z => by cases z
      · refine wp_next (rt_ret (d := f1D (x + 1) ns (q : Int)) rfl ⟨ns, _, _, _, _, ⟨by omega, hnl, hv, hvv.1, hvv.2, by omega, by omega, fun t ht => (hno t ht).time, fun y hy => ?_⟩, rfl, rfl⟩)
        have : y = x := by omega
        rw [this]
        exact of_decide_eq_false z
  obtain ⟨u, r, e, ns', x1, x2, x3, x4, ho, rfl, rfl⟩ := body
  refine ⟨b, ns', v, q, d3, hd3, ho, ?_⟩
  have e' : c__law_form_of d [] = .ok (f1D b ns' (q : Int)) d3 := by
    unfold c__law_form_of callB
    rw [if_pos (show ([] : List D).length + 1 = 1 from rfl)]
    show finB (b__law_form_of [.bw d, .no, .no, .no, .no]) = _
    rw [e]
    rfl
  unfold noEx
  rw [e']
end Rn
end

section
set_option Elab.async false
set_option linter.all false
set_option maxRecDepth 100000
set_option maxHeartbeats 4000000
/-! L06e: the law of k06. -/
namespace Rn
open PySem PySem.Spec L2
abbrev rW (x1 x2 x3 x4 x5 x6 x7 x8 x9 x10 x11 x12 x13 x14 x15 x16 : Cell) : Rho := [.no, x1, x2, x3, x4, x5, x6, x7, x8, x9, x10, x11, x12, x13, x14, x15, x16]
def rowD (r : Nat → Tm) : D := .list (((List.range 80).map r).map oD)
theorem row_at {r : Nat → Tm} {i : Nat} (h : i < 80) : ixF (rowD r) (.int (0 + (i : Int))) = some (oD (r i)) := by
  have := atO (row := (List.range 80).map r) (i := 0 + (i : Int)) (n := i) (by omega) (by simpa using h)
  rw [getD_map _ _ _ _ (by simpa using h), List.getElem_range] at this
  exact this
def hitsD (P : Nat → Bool) : D := .list (((List.range 80).filter P).map fun k : Nat => PyData.int (0 + (k : Int)))
theorem filter_head (P : Nat → Bool) : ∀ xs : List Nat, (xs.filter P).head? = xs.find? P
  | [] => rfl
  | x :: xs => by
    cases h : P x with
    | true => rw [List.filter_cons_of_pos h, List.find?_cons_of_pos h]; rfl
    | false => rw [List.filter_cons_of_neg (by rw [h]; decide), List.find?_cons_of_neg (by rw [h]; decide)]; exact filter_head P xs
/-- the first of them, or None -/
theorem hits_first {P : Nat → Bool} {j : Nat} {ρ : Rho} (h : mVarT j ρ = .ok (.s j) ρ) (hd : deref ρ (.s j) = some (hitsD P)) : mIf (mTst (mOp neF (mVarT j) (mT (mLst (mNil))))) (mOp ixF (mVarT j) (mT (ret (.int 0)))) (ret .none) ρ = .ok (res (firstN P 80)) ρ := by
  have hh := filter_head P (List.range 80)
  unfold hitsD at hd
  have ne := good_int.list.neF (((List.range 80).filter P).map fun k : Nat => 0 + (k : Int)) []
  rw [List.map_map] at ne
  unfold firstN
  rw [← hh]
  generalize (List.range 80).filter P = ys at hd ne
  refine if_ok (t := !decide ((ys.map fun k : Nat => 0 + (k : Int)) = [])) (r := ρ) (tst_ok (op_ok h (mT_ok (lst_ok rfl (show (0 : Nat) ≤ 100 by decide))) hd rfl ne)) (fun z => ?_) (fun z => ?_)
  · cases ys with
    | nil => simp at z
    | cons y ys =>
      have e : res ((y :: ys).head?) = .int (0 + (y : Int)) := by
        rw [show (0 : Int) + (y : Int) = (y : Int) by omega]
        rfl
      rw [e]
      exact op_ok h (mT_ok rfl) hd rfl (ev_a0 _ _)
  · cases ys with
    | nil => rfl
    | cons y ys => simp at z
theorem good_res : Good 0 res := ⟨fun a => good_o.plain _, fun a => good_o.depth _, fun a b => by
  show PyData.eqv (oD _) (oD _) = _
  rw [good_o.eqv]
  cases a <;> cases b <;> simp <;> omega⟩
theorem dif1 : g_first_difference [.tuple [.int 0, .tuple [.int 5, .none], .tuple [.int 3, .none]], .tuple [.int 0, .tuple [.none, .int 9], .tuple [.none, .int 4]]] = .ok (.int 0) := by kernel_rfl
theorem lat1 : g_first_later [.tuple [.int 0, .tuple [.none, .int 9], .tuple [.none, .int 4]], .tuple [.int 0, .tuple [.int 5, .none], .tuple [.int 3, .none]]] = .ok (.int 1) := by kernel_rfl
theorem lat2 : g_first_later [.tuple [.int 0, .tuple [.int 5, .none], .tuple [.int 3, .none]], .tuple [.int 0, .tuple [.int 5, .none], .tuple [.int 3, .none]]] = .ok .none := by kernel_rfl
abbrev bads : List D := [.none, .int 5, .tuple [.int 0, .tuple [.int 1], .tuple []], .tuple [.int 1, .tuple [.int 0, .int 1], .tuple [.int 1]], .tuple [.int 0, .tuple [.int 3, .int 4], .tuple [.int 2, .int 2]]]
theorem bad1 : g_is_form [.none] = .ok (.bool false) := by kernel_rfl
theorem bad2 : g_is_form [.int 5] = .ok (.bool false) := by kernel_rfl
theorem bad3 : g_is_form [.tuple [.int 0, .tuple [.int 1], .tuple []]] = .ok (.bool false) := by kernel_rfl
theorem bad4 : g_is_form [.tuple [.int 1, .tuple [.int 0, .int 1], .tuple [.int 1]]] = .ok (.bool false) := by kernel_rfl
theorem bad5 : g_is_form [.tuple [.int 0, .tuple [.int 3, .int 4], .tuple [.int 2, .int 2]]] = .ok (.bool false) := by kernel_rfl
theorem excF : excN.contains "InvalidForm" = true := by decide
theorem later_bad {x y : D} (h : g_is_form [x] = .ok (.bool false)) : g_first_later [x, y] = .ex "InvalidForm" := by
  have n1 := w_need h
  simp only [Bool.false_eq_true, if_false] at n1
  unfold g_first_later
  rw [call2 (m := 0)]
  exact fin_ex (seq_ex (drop_ex (callX_ex rfl n1)))
theorem diff_bad {x y : D} (h : g_is_form [x] = .ok (.bool true)) (h2 : g_is_form [y] = .ok (.bool false)) : g_first_difference [x, y] = .ex "InvalidForm" := by
  have n1 := w_need h
  have n2 := w_need h2
  rw [if_pos rfl] at n1
  simp only [Bool.false_eq_true, if_false] at n2
  unfold g_first_difference
  rw [call2 (m := 0)]
  exact fin_ex (seq_to (drop_ok (callX_ok rfl n1)) (seq_ex (drop_ex (callX_ex rfl n2))))
theorem look80 {F : D} {r : Nat → Tm} (h : ∀ p : Nat, p < 80 → g__law_at [F, .int (p : Int)] = .ok (oD (r p))) (x1 x2 x3 x4 x5 x6 x7 x8 x9 x10 x11 x12 x13 x14 : Cell) : e1_law (rW x1 x2 x3 x4 x5 x6 x7 x8 x9 x10 x11 x12 x13 x14 (.fz F) .no) = .ok (rowD r) (rW x1 x2 x3 x4 x5 x6 x7 x8 x9 x10 x11 x12 x13 x14 (.fz F) .no) := by
  unfold e1_law rowD
  rw [List.map_map]
  refine mlc_map0 (List.range 80) (fun k : Nat => PyData.int (0 + (k : Int))) _ (rng1_ok (n := 80) rfl (by omega)) (by simp [big]) rfl (fun i hi => ⟨rW x1 x2 x3 x4 x5 x6 x7 x8 x9 x10 x11 x12 x13 x14 (.fz F) (.fz (.int (0 + (i : Int)))), rfl, ?_, rfl⟩)
  have := h i (List.mem_range.mp hi)
  rw [show ((i : Nat) : Int) = 0 + (i : Int) by omega] at this
  exact call_ok rfl this
/-- one of the two turns -/
theorem turn_ok {b1 b2 : Nat} {ns1 ns2 : List Tm} {v1 q1 v2 q2 : Int} (o1 : One b1 ns1 v1 q1) (o2 : One b2 ns2 v2 q2) {x1 x2 x3 x4 x5 x10 x11 x12 x13 x14 x15 : Cell} {Q : Rho → Prop}
    (q : ∀ y13 y14, Q (rW x1 x2 x3 x4 x5 (.fz (f1D b1 ns1 q1)) (.fz (f1D b2 ns2 q2)) (.fz (rowD (rOf b1 ns1 q1))) (.fz (rowD (rOf b2 ns2 q2))) x10 x11 x12 y13 y14 x15 .no)) :
    Wp l9_law Q (rW x1 x2 x3 x4 x5 (.fz (f1D b1 ns1 q1)) (.fz (f1D b2 ns2 q2)) (.fz (rowD (rOf b1 ns1 q1))) (.fz (rowD (rOf b2 ns2 q2))) x10 x11 x12 x13 x14 x15 .no) := by
  have fl := w_flater o1 o2
  generalize rOf b1 ns1 q1 = a at fl q ⊢
  generalize rOf b2 ns2 q2 = c at fl q ⊢
  generalize f1D b1 ns1 q1 = A at fl q ⊢
  generalize f1D b2 ns2 q2 = C at fl q ⊢
  obtain ⟨P, hP⟩ : ∃ P : Nat → Bool, P = fun p => laterB (a p) (c p) := ⟨_, rfl⟩
  rw [← hP] at fl
  refine wp_seq (wp_set (d := hitsD P) (r := rW x1 x2 x3 x4 x5 (.fz A) (.fz C) (.fz (rowD a)) (.fz (rowD c)) x10 x11 x12 x13 x14 x15 .no) ?_ rfl ?_)
  · refine mlc_map (List.range 80) (fun k : Nat => PyData.int (0 + (k : Int))) P _ (rng1_ok (n := 80) rfl (by omega)) (by simp [big]) rfl (fun i hi => ⟨rW x1 x2 x3 x4 x5 (.fz A) (.fz C) (.fz (rowD a)) (.fz (rowD c)) x10 x11 x12 x13 x14 x15 (.fz (.int (0 + (i : Int)))), rfl, ?_, fun _ => rfl, rfl⟩)
    have hi := List.mem_range.mp hi
    have a1 := row_at (r := a) hi
    have a2 := row_at (r := c) hi
    rw [hP]
    show t4_law _ = .ok (laterB (a i) (c i)) _
    cases q1 : a i with
    | none =>
      rw [q1] at a1
      exact and_f (tst_ok (op_ok (mT_ok (op_ok rfl rfl rfl rfl a1)) (mT_ok rfl) rfl rfl rfl))
    | some x =>
      rw [q1] at a1
      cases q2 : c i with
      | none =>
        rw [q2] at a2
        exact and_t (tst_ok (op_ok (mT_ok (op_ok rfl rfl rfl rfl a1)) (mT_ok rfl) rfl rfl rfl)) (or_t (tst_ok (op_ok (mT_ok (op_ok rfl rfl rfl rfl a2)) (mT_ok rfl) rfl rfl rfl)))
      | some y =>
        rw [q2] at a2
        exact and_t (tst_ok (op_ok (mT_ok (op_ok rfl rfl rfl rfl a1)) (mT_ok rfl) rfl rfl rfl)) (or_f (tst_ok (op_ok (mT_ok (op_ok rfl rfl rfl rfl a2)) (mT_ok rfl) rfl rfl rfl)) (tst_ok (op_ok (mT_ok (op_ok rfl rfl rfl rfl a1)) (mT_ok (op_ok rfl rfl rfl rfl a2)) rfl rfl rfl)))
  refine wp_seq (wp_set (d := res (firstN P 80)) (r := rW x1 x2 x3 x4 x5 (.fz A) (.fz C) (.fz (rowD a)) (.fz (rowD c)) x10 x11 x12 (.fz (hitsD P)) x14 x15 .no) (callX_ok rfl fl) rfl ?_)
  exact wp_not (tst_ok (op_ok rfl (mT_ok (hits_first (j := 13) rfl rfl)) rfl rfl (ne_self good_res _))) (q _ _)
theorem rest_ok {d : D} {b1 b2 : Nat} {ns1 ns2 : List Tm} {v1 q1 v2 q2 : Int} (o1 : One b1 ns1 v1 q1) (o2 : One b2 ns2 v2 q2) :
    Wp (sSeq s15_law (sSeq s16_law (sSeq s17_law (sSeq s18_law (sSeq s19_law (sSeq s20_law (sSeq s21_law (sSeq s22_law s23_law)))))))) (fun _ => True)
      (rW (.bw d) (.fz (f1D b1 ns1 q1)) (.fz (f1D b2 ns2 q2)) .no .no .no .no .no .no .no .no .no .no .no .no .no) := by
  have dif := w_diff o1 o2
  have lk1 : ∀ p : Nat, p < 80 → g__law_at [f1D b1 ns1 q1, .int (p : Int)] = .ok (oD (rOf b1 ns1 q1 p)) := fun p hp => o1.look p (by omega)
  have lk2 : ∀ p : Nat, p < 80 → g__law_at [f1D b2 ns2 q2, .int (p : Int)] = .ok (oD (rOf b2 ns2 q2 p)) := fun p hp => o2.look p (by omega)
  have frm : g_is_form [f1D b1 ns1 q1] = .ok (.bool true) := o1.form
  have t12 := fun (x1 x2 x3 x4 x5 x10 x11 x12 x13 x14 x15 : Cell) (Q : Rho → Prop) => turn_ok o1 o2 (x1 := x1) (x2 := x2) (x3 := x3) (x4 := x4) (x5 := x5) (x10 := x10) (x11 := x11) (x12 := x12) (x13 := x13) (x14 := x14) (x15 := x15) (Q := Q)
  have t21 := fun (x1 x2 x3 x4 x5 x10 x11 x12 x13 x14 x15 : Cell) (Q : Rho → Prop) => turn_ok o2 o1 (x1 := x1) (x2 := x2) (x3 := x3) (x4 := x4) (x5 := x5) (x10 := x10) (x11 := x11) (x12 := x12) (x13 := x13) (x14 := x14) (x15 := x15) (Q := Q)
  generalize rOf b1 ns1 q1 = a at dif lk1 t12 t21
  generalize rOf b2 ns2 q2 = c at dif lk2 t12 t21
  generalize f1D b1 ns1 q1 = A at dif lk1 t12 t21 frm ⊢
  generalize f1D b2 ns2 q2 = C at dif lk2 t12 t21 ⊢
  -- rows
  refine wp_seq (wp_set (d := .list [rowD a, rowD c]) (r := rW (.bw d) (.fz A) (.fz C) .no .no .no .no .no .no .no .no .no .no .no .no .no) ?_ rfl ?_)
  · refine mlc_map0 [(A, rowD a), (C, rowD c)] (fun p : D × D => p.1) (fun p : D × D => p.2) (seqT_ok (tup_ok rfl (show (2 : Nat) ≤ 100 by decide))) (show (2 : Nat) ≤ big by decide) rfl (fun p hp => ?_)
    simp only [List.mem_cons, List.not_mem_nil, or_false] at hp
    rcases hp with rfl | rfl
    · exact ⟨_, rfl, look80 lk1 _ _ _ _ _ _ _ _ _ _ _ _ _ _, rfl⟩
    · exact ⟨_, rfl, look80 lk2 _ _ _ _ _ _ _ _ _ _ _ _ _ _, rfl⟩
  -- unlike
  obtain ⟨P, hP⟩ : ∃ P : Nat → Bool, P = fun p => !decide (a p = c p) := ⟨_, rfl⟩
  rw [← hP] at dif
  refine wp_seq (wp_set (d := hitsD P) (r := rW (.bw d) (.fz A) (.fz C) (.fz (.list [rowD a, rowD c])) .no .no .no .no .no .no .no .no .no .no .no .no) ?_ rfl ?_)
  · refine mlc_map (List.range 80) (fun k : Nat => PyData.int (0 + (k : Int))) P _ (rng1_ok (n := 80) rfl (by omega)) (by simp [big]) rfl (fun i hi => ⟨rW (.bw d) (.fz A) (.fz C) (.fz (.list [rowD a, rowD c])) .no .no .no .no .no .no .no .no .no .no .no (.fz (.int (0 + (i : Int)))), rfl, ?_, fun _ => rfl, rfl⟩)
    have hi := List.mem_range.mp hi
    have a1 := row_at (r := a) hi
    have a2 := row_at (r := c) hi
    rw [hP]
    exact tst_ok (op_ok (mT_ok (op_ok (mT_ok (op_ok rfl (mT_ok rfl) rfl rfl rfl)) rfl rfl rfl a1)) (mT_ok (op_ok (mT_ok (op_ok rfl (mT_ok rfl) rfl rfl rfl)) rfl rfl rfl a2)) rfl rfl (neF_o _ _))
  refine wp_seq (wp_not (r := rW (.bw d) (.fz A) (.fz C) (.fz (.list [rowD a, rowD c])) (.fz (hitsD P)) .no .no .no .no .no .no .no .no .no .no .no) (tst_ok (op_ok (mT_ok (callX_ok rfl dif)) (mT_ok (hits_first (j := 5) rfl rfl)) rfl rfl (ne_self good_res _))) ?_)
  -- both ways
  refine wp_seq (wp_each (fun t : Bool => if t = true then .tuple [A, C, rowD a, rowD c] else .tuple [C, A, rowD c, rowD a]) [true, false] (fun rr => ∃ x6 x7 x8 x9 x13 x14, rr = rW (.bw d) (.fz A) (.fz C) (.fz (.list [rowD a, rowD c])) (.fz (hitsD P)) x6 x7 x8 x9 .no .no .no x13 x14 .no .no) (ρ0 := rW (.bw d) (.fz A) (.fz C) (.fz (.list [rowD a, rowD c])) (.fz (hitsD P)) .no .no .no .no .no .no .no .no .no .no .no) (seqL_ok (lst_ok rfl (show (2 : Nat) ≤ 100 by decide))) ⟨.no, .no, .no, .no, .no, .no, rfl⟩ (fun t ht rr hI => ?_) ?_)
  · obtain ⟨x6, x7, x8, x9, x13, x14, rfl⟩ := hI
    cases t with
    | true => exact ⟨rW (.bw d) (.fz A) (.fz C) (.fz (.list [rowD a, rowD c])) (.fz (hitsD P)) (.fz A) (.fz C) (.fz (rowD a)) (.fz (rowD c)) .no .no .no x13 x14 .no .no, rfl, t12 _ _ _ _ _ _ _ _ _ _ _ _ (fun y13 y14 => ⟨_, _, _, _, _, _, rfl⟩)⟩
    | false => exact ⟨rW (.bw d) (.fz A) (.fz C) (.fz (.list [rowD a, rowD c])) (.fz (hitsD P)) (.fz C) (.fz A) (.fz (rowD c)) (.fz (rowD a)) .no .no .no x13 x14 .no .no, rfl, t21 _ _ _ _ _ _ _ _ _ _ _ _ (fun y13 y14 => ⟨_, _, _, _, _, _, rfl⟩)⟩
  rintro rr ⟨x6, x7, x8, x9, x13, x14, rfl⟩
  refine wp_seq (wp_set (d := .tuple [.int 0, .tuple [.int 5, .none], .tuple [.int 3, .none]]) (r := rW (.bw d) (.fz A) (.fz C) (.fz (.list [rowD a, rowD c])) (.fz (hitsD P)) x6 x7 x8 x9 .no .no .no x13 x14 .no .no) rfl rfl ?_)
  refine wp_seq (wp_set (d := .tuple [.int 0, .tuple [.none, .int 9], .tuple [.none, .int 4]]) (r := rW (.bw d) (.fz A) (.fz C) (.fz (.list [rowD a, rowD c])) (.fz (hitsD P)) x6 x7 x8 x9 (.fz (.tuple [.int 0, .tuple [.int 5, .none], .tuple [.int 3, .none]])) .no .no x13 x14 .no .no) rfl rfl ?_)
  have n0 : neF (.int 0) (.int 0) = some (.bool false) := by rw [ev_neI]; rfl
  have n1 : neF (.int 1) (.int 1) = some (.bool false) := by rw [ev_neI]; rfl
  refine wp_seq (wp_not (or_f (tst_ok (op_ok (mT_ok (callX_ok rfl dif1)) (mT_ok rfl) rfl rfl n0)) (tst_ok (op_ok (mT_ok (callX_ok rfl lat1)) (mT_ok rfl) rfl rfl n1))) ?_)
  refine wp_seq (wp_not (tst_ok (op_ok (mT_ok (callX_ok rfl lat2)) (mT_ok rfl) rfl rfl rfl)) ?_)
  refine wp_each (fun x : D => x) bads (fun rr => ∃ x10 x11 x12, rr = rW (.bw d) (.fz A) (.fz C) (.fz (.list [rowD a, rowD c])) (.fz (hitsD P)) x6 x7 x8 x9 x10 x11 x12 x13 x14 .no .no) (seqL_ok (lst_ok rfl (show (5 : Nat) ≤ 100 by decide))) ⟨_, _, _, rfl⟩ (fun x hx rr hI => ?_) (fun _ _ => trivial)
  obtain ⟨x10, x11, x12, rfl⟩ := hI
  have hb : g_is_form [x] = .ok (.bool false) := by
    simp only [List.mem_cons, List.not_mem_nil, or_false] at hx
    rcases hx with rfl | rfl | rfl | rfl | rfl
    · exact bad1
    · exact bad2
    · exact bad3
    · exact bad4
    · exact bad5
  refine ⟨rW (.bw d) (.fz A) (.fz C) (.fz (.list [rowD a, rowD c])) (.fz (hitsD P)) x6 x7 x8 x9 x10 x11 (.fz x) x13 x14 .no .no, rfl, ?_⟩
  refine wp_seq (wp_not (tst_ok (op_ok (mT_ok (told_ex (callX_ex rfl (later_bad hb)) excF)) (mT_ok rfl) rfl rfl (term_eq "InvalidForm"))) ?_)
  exact wp_not (tst_ok (op_ok (mT_ok (told_ex (callX_ex rfl (diff_bad frm hb)) excF)) (mT_ok rfl) rfl rfl (term_eq "InvalidForm"))) ⟨_, _, _, rfl⟩
theorem round_ok : RoundOk lawN.length b_law := roundOk_of fun c0 => by
  obtain ⟨d0, hd0, e0⟩ := rho0_dice 17 c0
  rw [show lawN.length = 17 from rfl, e0]
  obtain ⟨b1, ns1, v1, q1, d1, hd1, o1, e1⟩ := form_ok hd0
  obtain ⟨b2, ns2, v2, q2, d2, hd2, o2, e2⟩ := form_ok hd1
  obtain ⟨x, d3, hx, hd3, e3⟩ := roll_n hd2 3 3 rfl (by decide) (by decide)
  have ex := good_nat.eqF x 0
  refine wp_seq (wp_par (ds := [f1D b1 ns1 q1, f1D b2 ns2 q2]) (r := rW (.bw d2) .no .no .no .no .no .no .no .no .no .no .no .no .no .no .no) (cons_ok (callB_ok rfl rfl rfl e1 rfl) (cons_ok (callB_ok rfl rfl rfl e2 rfl) rfl)) rfl ?_)
  refine wp_seq (wp_if (b := decide (x = 0)) (r := rW (.bw d3) (.fz (f1D b1 ns1 q1)) (.fz (f1D b2 ns2 q2)) .no .no .no .no .no .no .no .no .no .no .no .no .no) (tst_ok (op_ok (mT_ok (callB_ok rfl rfl rfl e3 rfl)) (mT_ok rfl) rfl rfl ex)) (fun _ => ?_) (fun _ => ?_))
  · exact wp_set rfl rfl (rest_ok o1 o1)
  · exact wp_next (rest_ok o1 o2)
end Rn
end

set_option Elab.async false
set_option linter.all false
set_option maxRecDepth 100000
set_option maxHeartbeats 0
namespace Rn
open PySem PySem.Spec PyProof.Rows L2
def hd__law_drawn : He.DefD := ⟨("_law_drawn", none), "_law_drawn", "_law_drawn", defArgs s__law_drawn, defBody s__law_drawn, defScope s__law_drawn, [], []⟩
def hd__law_roll : He.DefD := ⟨("_law_roll", none), "_law_roll", "_law_roll", defArgs s__law_roll, defBody s__law_roll, defScope s__law_roll, [], []⟩
def hd__law_form_of : He.DefD := ⟨("_law_form_of", none), "_law_form_of", "_law_form_of", defArgs s__law_form_of, defBody s__law_form_of, defScope s__law_form_of, [], []⟩
def hd__law_at : He.DefD := ⟨("_law_at", none), "_law_at", "_law_at", defArgs s__law_at, defBody s__law_at, defScope s__law_at, [], []⟩
def hd_is_whole : He.DefD := ⟨("is_whole", none), "is_whole", "is_whole", defArgs s_is_whole, defBody s_is_whole, defScope s_is_whole, [], []⟩
def hd_is_time : He.DefD := ⟨("is_time", none), "is_time", "is_time", defArgs s_is_time, defBody s_is_time, defScope s_is_time, [], []⟩
def hd_number_at : He.DefD := ⟨("number_at", none), "number_at", "number_at", defArgs s_number_at, defBody s_number_at, defScope s_number_at, [], []⟩
def hd_rise_between : He.DefD := ⟨("rise_between", none), "rise_between", "rise_between", defArgs s_rise_between, defBody s_rise_between, defScope s_rise_between, [], []⟩
def hd_is_period : He.DefD := ⟨("is_period", none), "is_period", "is_period", defArgs s_is_period, defBody s_is_period, defScope s_is_period, [], []⟩
def hd_rises_from : He.DefD := ⟨("rises_from", none), "rises_from", "rises_from", defArgs s_rises_from, defBody s_rises_from, defScope s_rises_from, [], []⟩
def hd_canonical : He.DefD := ⟨("canonical", none), "canonical", "canonical", defArgs s_canonical, defBody s_canonical, defScope s_canonical, [], []⟩
def hd_is_form : He.DefD := ⟨("is_form", none), "is_form", "is_form", defArgs s_is_form, defBody s_is_form, defScope s_is_form, [], []⟩
def hd_need_form : He.DefD := ⟨("need_form", none), "need_form", "need_form", defArgs s_need_form, defBody s_need_form, defScope s_need_form, [], []⟩
def hd_divisor : He.DefD := ⟨("divisor", none), "divisor", "divisor", defArgs s_divisor, defBody s_divisor, defScope s_divisor, [], []⟩
def hd_multiple : He.DefD := ⟨("multiple", none), "multiple", "multiple", defArgs s_multiple, defBody s_multiple, defScope s_multiple, [], []⟩
def hd_bound_of : He.DefD := ⟨("bound_of", none), "bound_of", "bound_of", defArgs s_bound_of, defBody s_bound_of, defScope s_bound_of, [], []⟩
def hd_value_of : He.DefD := ⟨("value_of", none), "value_of", "value_of", defArgs s_value_of, defBody s_value_of, defScope s_value_of, [], []⟩
def hd_first_unlike : He.DefD := ⟨("first_unlike", none), "first_unlike", "first_unlike", defArgs s_first_unlike, defBody s_first_unlike, defScope s_first_unlike, [], []⟩
def hd_first_difference : He.DefD := ⟨("first_difference", none), "first_difference", "first_difference", defArgs s_first_difference, defBody s_first_difference, defScope s_first_difference, [], []⟩
def hd_is_later : He.DefD := ⟨("is_later", none), "is_later", "is_later", defArgs s_is_later, defBody s_is_later, defScope s_is_later, [], []⟩
def hd_first_past : He.DefD := ⟨("first_past", none), "first_past", "first_past", defArgs s_first_past, defBody s_first_past, defScope s_first_past, [], []⟩
def hd_first_later : He.DefD := ⟨("first_later", none), "first_later", "first_later", defArgs s_first_later, defBody s_first_later, defScope s_first_later, [], []⟩
def hd__law_cell : He.DefD := ⟨("_law_cell", none), "_law_cell", "_law_cell", defArgs s__law_cell, defBody s__law_cell, defScope s__law_cell, [], []⟩
def hd__law_rounds : He.DefD := ⟨("_law_rounds", none), "_law_rounds", "_law_rounds", defArgs s__law_rounds, defBody s__law_rounds, defScope s__law_rounds, [], []⟩
def hd__law_term : He.DefD := ⟨("_law_term", none), "_law_term", "_law_term", defArgs s__law_term, defBody s__law_term, defScope s__law_term, [], []⟩
def hd__law_told : He.DefD := ⟨("_law_told", none), "_law_told", "_law_told", defArgs s__law_told, defBody s__law_told, defScope s__law_told, [], []⟩
def hd_law : He.DefD := ⟨("law", none), "law", "law", defArgs s_law, defBody s_law, defScope s_law, [], []⟩
def hfn0 : List He.DefD := [hd__law_drawn, hd__law_roll, hd__law_form_of, hd__law_at, hd_is_whole, hd_is_time, hd_number_at, hd_rise_between, hd_is_period, hd_rises_from, hd_canonical, hd_is_form, hd_need_form, hd_divisor, hd_multiple]
def hfn1 : List He.DefD := [hd_bound_of, hd_value_of, hd_first_unlike, hd_first_difference, hd_is_later, hd_first_past, hd_first_later, hd__law_cell, hd__law_rounds, hd__law_term, hd__law_told, hd_law]
def hfn : List He.DefD := hfn0 ++ hfn1
def hfa0 : List He.Fa := [.glo "_law_drawn", .glo "_law_roll", .glo "_law_form_of", .glo "_law_at", .glo "is_whole", .glo "is_time", .glo "number_at", .glo "rise_between", .glo "is_period", .glo "rises_from", .glo "canonical", .glo "is_form", .glo "need_form", .glo "divisor", .glo "multiple"]
def hfa1 : List He.Fa := [.glo "bound_of", .glo "value_of", .glo "first_unlike", .glo "first_difference", .glo "is_later", .glo "first_past", .glo "first_later", .glo "_law_cell", .glo "_law_rounds", .glo "_law_term", .glo "_law_told", .glo "law", .free "ValueError", .free "all", .free "any"]
def hfa2 : List He.Fa := [.free "bool", .free "enumerate", .free "int", .free "isinstance", .free "len", .free "list", .free "max", .free "min", .free "range", .free "sum", .free "tuple", .glo "RoundError", .glo "InvalidNet", .glo "InvalidStreams", .glo "InvalidRound"]
def hfa3 : List He.Fa := [.glo "InvalidEvent", .glo "InvalidInput", .glo "InvalidArc", .glo "InvalidNumber", .glo "InvalidForm", .glo "InvalidStores", .glo "InvalidDues", .glo "InvalidText", .glo "Standstill", .glo "NoTime", .glo "Broken", .glo "NoFit", .glo "TooMany", .glo "NothingToUndo", .exc "RoundError"]
def hfa4 : List He.Fa := [.exc "InvalidNet", .exc "InvalidStreams", .exc "InvalidRound", .exc "InvalidEvent", .exc "InvalidInput", .exc "InvalidArc", .exc "InvalidNumber", .exc "InvalidForm", .exc "InvalidStores", .exc "InvalidDues", .exc "InvalidText", .exc "Standstill", .exc "NoTime", .exc "Broken", .exc "NoFit"]
def hfa5 : List He.Fa := [.exc "TooMany", .exc "NothingToUndo"]
def hfa : List He.Fa := hfa0 ++ hfa1 ++ hfa2 ++ hfa3 ++ hfa4 ++ hfa5
def loose0 : List PySem.Str := ["RoundError", "InvalidNet", "InvalidStreams", "InvalidRound", "InvalidEvent", "InvalidInput", "InvalidArc", "InvalidNumber", "InvalidForm", "InvalidStores", "InvalidDues", "InvalidText", "Standstill", "NoTime", "Broken"]
def loose1 : List PySem.Str := ["NoFit", "TooMany", "NothingToUndo", "is_whole", "divisor", "multiple", "rise_between", "rises_from", "number_at", "is_period", "canonical", "value_of", "is_time", "is_form", "need_form"]
def loose2 : List PySem.Str := ["is_later", "bound_of", "first_unlike", "first_past", "first_difference", "first_later", "_law_cell", "_law_drawn", "_law_roll", "_law_rounds", "_law_term", "_law_told", "_law_at", "_law_form_of"]
def loose : List PySem.Str := loose0 ++ loose1 ++ loose2
abbrev R0 : PySem.W.OpenRow := PySem.W.OpenLaw.row PySem.Challenge.rw_roundnets_k06_whole_first_places
abbrev hk : PySem.W.Hook := He.hookX 4 hfa hfn [] [("law", none)] errB
def ob (s : PySem.W.SharedT) : He.AlX := He.obsX 4 hfa hfn [] [("law", none)] errB (HandSHeadRun.getT s)
theorem ob_eq (s : PySem.W.SharedT) : ob s = hk.obs s.abs := He.obsX_eq (HandSHeadRun.getT_eq s)
theorem head_run (w : World) : HandSHeadRun.RunEq R0 (PySem.W.view R0.prog [50]) hk ob 30000 loose w := by
  intro os
  kernel_rfl
section
variable {P : Program} {w : World} {K : PySem.W.Frag} {h : Heap} {mg : Str → Option Value} {base : Heap}
theorem h_nm (X : K.In h) (G : h.Ns mainGlobals mg) (c : He.SaysD hfa hfn K) : Nm K mg (He.ga K) where
  ValueError := He.free_ok X G (c.fact 27 (f := .free "ValueError") rfl)
  all := He.free_ok X G (c.fact 28 (f := .free "all") rfl)
  any := He.free_ok X G (c.fact 29 (f := .free "any") rfl)
  bool := He.free_ok X G (c.fact 30 (f := .free "bool") rfl)
  enumerate := He.free_ok X G (c.fact 31 (f := .free "enumerate") rfl)
  int := He.free_ok X G (c.fact 32 (f := .free "int") rfl)
  isinstance := He.free_ok X G (c.fact 33 (f := .free "isinstance") rfl)
  len := He.free_ok X G (c.fact 34 (f := .free "len") rfl)
  list := He.free_ok X G (c.fact 35 (f := .free "list") rfl)
  max := He.free_ok X G (c.fact 36 (f := .free "max") rfl)
  min := He.free_ok X G (c.fact 37 (f := .free "min") rfl)
  range := He.free_ok X G (c.fact 38 (f := .free "range") rfl)
  sum := He.free_ok X G (c.fact 39 (f := .free "sum") rfl)
  tuple := He.free_ok X G (c.fact 40 (f := .free "tuple") rfl)
  X_RoundError := let e := He.exc_ok (c.fact 59 (f := .exc "RoundError") rfl); ⟨He.glo_ok X G (c.fact 41 (f := .glo "RoundError") rfl), e.1, e.2.1, e.2.2.1, e.2.2.2⟩
  X_InvalidNet := let e := He.exc_ok (c.fact 60 (f := .exc "InvalidNet") rfl); ⟨He.glo_ok X G (c.fact 42 (f := .glo "InvalidNet") rfl), e.1, e.2.1, e.2.2.1, e.2.2.2⟩
  X_InvalidStreams := let e := He.exc_ok (c.fact 61 (f := .exc "InvalidStreams") rfl); ⟨He.glo_ok X G (c.fact 43 (f := .glo "InvalidStreams") rfl), e.1, e.2.1, e.2.2.1, e.2.2.2⟩
  X_InvalidRound := let e := He.exc_ok (c.fact 62 (f := .exc "InvalidRound") rfl); ⟨He.glo_ok X G (c.fact 44 (f := .glo "InvalidRound") rfl), e.1, e.2.1, e.2.2.1, e.2.2.2⟩
  X_InvalidEvent := let e := He.exc_ok (c.fact 63 (f := .exc "InvalidEvent") rfl); ⟨He.glo_ok X G (c.fact 45 (f := .glo "InvalidEvent") rfl), e.1, e.2.1, e.2.2.1, e.2.2.2⟩
  X_InvalidInput := let e := He.exc_ok (c.fact 64 (f := .exc "InvalidInput") rfl); ⟨He.glo_ok X G (c.fact 46 (f := .glo "InvalidInput") rfl), e.1, e.2.1, e.2.2.1, e.2.2.2⟩
  X_InvalidArc := let e := He.exc_ok (c.fact 65 (f := .exc "InvalidArc") rfl); ⟨He.glo_ok X G (c.fact 47 (f := .glo "InvalidArc") rfl), e.1, e.2.1, e.2.2.1, e.2.2.2⟩
  X_InvalidNumber := let e := He.exc_ok (c.fact 66 (f := .exc "InvalidNumber") rfl); ⟨He.glo_ok X G (c.fact 48 (f := .glo "InvalidNumber") rfl), e.1, e.2.1, e.2.2.1, e.2.2.2⟩
  X_InvalidForm := let e := He.exc_ok (c.fact 67 (f := .exc "InvalidForm") rfl); ⟨He.glo_ok X G (c.fact 49 (f := .glo "InvalidForm") rfl), e.1, e.2.1, e.2.2.1, e.2.2.2⟩
  X_InvalidStores := let e := He.exc_ok (c.fact 68 (f := .exc "InvalidStores") rfl); ⟨He.glo_ok X G (c.fact 50 (f := .glo "InvalidStores") rfl), e.1, e.2.1, e.2.2.1, e.2.2.2⟩
  X_InvalidDues := let e := He.exc_ok (c.fact 69 (f := .exc "InvalidDues") rfl); ⟨He.glo_ok X G (c.fact 51 (f := .glo "InvalidDues") rfl), e.1, e.2.1, e.2.2.1, e.2.2.2⟩
  X_InvalidText := let e := He.exc_ok (c.fact 70 (f := .exc "InvalidText") rfl); ⟨He.glo_ok X G (c.fact 52 (f := .glo "InvalidText") rfl), e.1, e.2.1, e.2.2.1, e.2.2.2⟩
  X_Standstill := let e := He.exc_ok (c.fact 71 (f := .exc "Standstill") rfl); ⟨He.glo_ok X G (c.fact 53 (f := .glo "Standstill") rfl), e.1, e.2.1, e.2.2.1, e.2.2.2⟩
  X_NoTime := let e := He.exc_ok (c.fact 72 (f := .exc "NoTime") rfl); ⟨He.glo_ok X G (c.fact 54 (f := .glo "NoTime") rfl), e.1, e.2.1, e.2.2.1, e.2.2.2⟩
  X_Broken := let e := He.exc_ok (c.fact 73 (f := .exc "Broken") rfl); ⟨He.glo_ok X G (c.fact 55 (f := .glo "Broken") rfl), e.1, e.2.1, e.2.2.1, e.2.2.2⟩
  X_NoFit := let e := He.exc_ok (c.fact 74 (f := .exc "NoFit") rfl); ⟨He.glo_ok X G (c.fact 56 (f := .glo "NoFit") rfl), e.1, e.2.1, e.2.2.1, e.2.2.2⟩
  X_TooMany := let e := He.exc_ok (c.fact 75 (f := .exc "TooMany") rfl); ⟨He.glo_ok X G (c.fact 57 (f := .glo "TooMany") rfl), e.1, e.2.1, e.2.2.1, e.2.2.2⟩
  X_NothingToUndo := let e := He.exc_ok (c.fact 76 (f := .exc "NothingToUndo") rfl); ⟨He.glo_ok X G (c.fact 58 (f := .glo "NothingToUndo") rfl), e.1, e.2.1, e.2.2.1, e.2.2.2⟩
theorem h__law_drawn (X : K.In h) (G : h.Ns mainGlobals mg) (c : He.SaysD hfa hfn K) : HasF K mg "_law_drawn" s__law_drawn ["cell", "k"] := by
  obtain ⟨fd, F⟩ := c.def_ 0 (d := hd__law_drawn) rfl
  exact ⟨He.ga K "_law_drawn", fd, F, He.glo_ok X G (c.fact 0 (f := .glo "_law_drawn") rfl), FunD.bindsN F fun _ _ _ _ _ _ us hl => match us, hl with | [_, _], _ => rfl⟩
theorem h__law_roll (X : K.In h) (G : h.Ns mainGlobals mg) (c : He.SaysD hfa hfn K) : HasF K mg "_law_roll" s__law_roll ["dice", "many"] := by
  obtain ⟨fd, F⟩ := c.def_ 1 (d := hd__law_roll) rfl
  exact ⟨He.ga K "_law_roll", fd, F, He.glo_ok X G (c.fact 1 (f := .glo "_law_roll") rfl), FunD.bindsN F fun _ _ _ _ _ _ us hl => match us, hl with | [_, _], _ => rfl⟩
theorem h__law_form_of (X : K.In h) (G : h.Ns mainGlobals mg) (c : He.SaysD hfa hfn K) : HasF K mg "_law_form_of" s__law_form_of ["dice"] := by
  obtain ⟨fd, F⟩ := c.def_ 2 (d := hd__law_form_of) rfl
  exact ⟨He.ga K "_law_form_of", fd, F, He.glo_ok X G (c.fact 2 (f := .glo "_law_form_of") rfl), FunD.bindsN F fun _ _ _ _ _ _ us hl => match us, hl with | [_], _ => rfl⟩
theorem h__law_at (X : K.In h) (G : h.Ns mainGlobals mg) (c : He.SaysD hfa hfn K) : HasF K mg "_law_at" s__law_at ["form", "place"] := by
  obtain ⟨fd, F⟩ := c.def_ 3 (d := hd__law_at) rfl
  exact ⟨He.ga K "_law_at", fd, F, He.glo_ok X G (c.fact 3 (f := .glo "_law_at") rfl), FunD.bindsN F fun _ _ _ _ _ _ us hl => match us, hl with | [_, _], _ => rfl⟩
theorem h_is_whole (X : K.In h) (G : h.Ns mainGlobals mg) (c : He.SaysD hfa hfn K) : HasF K mg "is_whole" s_is_whole ["value", "low", "high"] := by
  obtain ⟨fd, F⟩ := c.def_ 4 (d := hd_is_whole) rfl
  exact ⟨He.ga K "is_whole", fd, F, He.glo_ok X G (c.fact 4 (f := .glo "is_whole") rfl), FunD.bindsN F fun _ _ _ _ _ _ us hl => match us, hl with | [_, _, _], _ => rfl⟩
theorem h_is_time (X : K.In h) (G : h.Ns mainGlobals mg) (c : He.SaysD hfa hfn K) : HasF K mg "is_time" s_is_time ["value"] := by
  obtain ⟨fd, F⟩ := c.def_ 5 (d := hd_is_time) rfl
  exact ⟨He.ga K "is_time", fd, F, He.glo_ok X G (c.fact 5 (f := .glo "is_time") rfl), FunD.bindsN F fun _ _ _ _ _ _ us hl => match us, hl with | [_], _ => rfl⟩
theorem h_number_at (X : K.In h) (G : h.Ns mainGlobals mg) (c : He.SaysD hfa hfn K) : HasF K mg "number_at" s_number_at ["row", "begin", "rises", "place"] := by
  obtain ⟨fd, F⟩ := c.def_ 6 (d := hd_number_at) rfl
  exact ⟨He.ga K "number_at", fd, F, He.glo_ok X G (c.fact 6 (f := .glo "number_at") rfl), FunD.bindsN F fun _ _ _ _ _ _ us hl => match us, hl with | [_, _, _, _], _ => rfl⟩
theorem h_rise_between (X : K.In h) (G : h.Ns mainGlobals mg) (c : He.SaysD hfa hfn K) : HasF K mg "rise_between" s_rise_between ["one", "other"] := by
  obtain ⟨fd, F⟩ := c.def_ 7 (d := hd_rise_between) rfl
  exact ⟨He.ga K "rise_between", fd, F, He.glo_ok X G (c.fact 7 (f := .glo "rise_between") rfl), FunD.bindsN F fun _ _ _ _ _ _ us hl => match us, hl with | [_, _], _ => rfl⟩
theorem h_is_period (X : K.In h) (G : h.Ns mainGlobals mg) (c : He.SaysD hfa hfn K) : HasF K mg "is_period" s_is_period ["row", "begin", "rises", "step"] := by
  obtain ⟨fd, F⟩ := c.def_ 8 (d := hd_is_period) rfl
  exact ⟨He.ga K "is_period", fd, F, He.glo_ok X G (c.fact 8 (f := .glo "is_period") rfl), FunD.bindsN F fun _ _ _ _ _ _ us hl => match us, hl with | [_, _, _, _], _ => rfl⟩
theorem h_rises_from (X : K.In h) (G : h.Ns mainGlobals mg) (c : He.SaysD hfa hfn K) : HasF K mg "rises_from" s_rises_from ["row", "begin", "step"] := by
  obtain ⟨fd, F⟩ := c.def_ 9 (d := hd_rises_from) rfl
  exact ⟨He.ga K "rises_from", fd, F, He.glo_ok X G (c.fact 9 (f := .glo "rises_from") rfl), FunD.bindsN F fun _ _ _ _ _ _ us hl => match us, hl with | [_, _, _], _ => rfl⟩
theorem h_canonical (X : K.In h) (G : h.Ns mainGlobals mg) (c : He.SaysD hfa hfn K) : HasF K mg "canonical" s_canonical ["row", "begin", "rises"] := by
  obtain ⟨fd, F⟩ := c.def_ 10 (d := hd_canonical) rfl
  exact ⟨He.ga K "canonical", fd, F, He.glo_ok X G (c.fact 10 (f := .glo "canonical") rfl), FunD.bindsN F fun _ _ _ _ _ _ us hl => match us, hl with | [_, _, _], _ => rfl⟩
theorem h_is_form (X : K.In h) (G : h.Ns mainGlobals mg) (c : He.SaysD hfa hfn K) : HasF K mg "is_form" s_is_form ["value"] := by
  obtain ⟨fd, F⟩ := c.def_ 11 (d := hd_is_form) rfl
  exact ⟨He.ga K "is_form", fd, F, He.glo_ok X G (c.fact 11 (f := .glo "is_form") rfl), FunD.bindsN F fun _ _ _ _ _ _ us hl => match us, hl with | [_], _ => rfl⟩
theorem h_need_form (X : K.In h) (G : h.Ns mainGlobals mg) (c : He.SaysD hfa hfn K) : HasF K mg "need_form" s_need_form ["form"] := by
  obtain ⟨fd, F⟩ := c.def_ 12 (d := hd_need_form) rfl
  exact ⟨He.ga K "need_form", fd, F, He.glo_ok X G (c.fact 12 (f := .glo "need_form") rfl), FunD.bindsN F fun _ _ _ _ _ _ us hl => match us, hl with | [_], _ => rfl⟩
theorem h_divisor (X : K.In h) (G : h.Ns mainGlobals mg) (c : He.SaysD hfa hfn K) : HasF K mg "divisor" s_divisor ["one", "other"] := by
  obtain ⟨fd, F⟩ := c.def_ 13 (d := hd_divisor) rfl
  exact ⟨He.ga K "divisor", fd, F, He.glo_ok X G (c.fact 13 (f := .glo "divisor") rfl), FunD.bindsN F fun _ _ _ _ _ _ us hl => match us, hl with | [_, _], _ => rfl⟩
theorem h_multiple (X : K.In h) (G : h.Ns mainGlobals mg) (c : He.SaysD hfa hfn K) : HasF K mg "multiple" s_multiple ["one", "other"] := by
  obtain ⟨fd, F⟩ := c.def_ 14 (d := hd_multiple) rfl
  exact ⟨He.ga K "multiple", fd, F, He.glo_ok X G (c.fact 14 (f := .glo "multiple") rfl), FunD.bindsN F fun _ _ _ _ _ _ us hl => match us, hl with | [_, _], _ => rfl⟩
theorem h_bound_of (X : K.In h) (G : h.Ns mainGlobals mg) (c : He.SaysD hfa hfn K) : HasF K mg "bound_of" s_bound_of ["one", "other"] := by
  obtain ⟨fd, F⟩ := c.def_ 15 (d := hd_bound_of) rfl
  exact ⟨He.ga K "bound_of", fd, F, He.glo_ok X G (c.fact 15 (f := .glo "bound_of") rfl), FunD.bindsN F fun _ _ _ _ _ _ us hl => match us, hl with | [_, _], _ => rfl⟩
theorem h_value_of (X : K.In h) (G : h.Ns mainGlobals mg) (c : He.SaysD hfa hfn K) : HasF K mg "value_of" s_value_of ["form", "place"] := by
  obtain ⟨fd, F⟩ := c.def_ 16 (d := hd_value_of) rfl
  exact ⟨He.ga K "value_of", fd, F, He.glo_ok X G (c.fact 16 (f := .glo "value_of") rfl), FunD.bindsN F fun _ _ _ _ _ _ us hl => match us, hl with | [_, _], _ => rfl⟩
theorem h_first_unlike (X : K.In h) (G : h.Ns mainGlobals mg) (c : He.SaysD hfa hfn K) : HasF K mg "first_unlike" s_first_unlike ["one", "other"] := by
  obtain ⟨fd, F⟩ := c.def_ 17 (d := hd_first_unlike) rfl
  exact ⟨He.ga K "first_unlike", fd, F, He.glo_ok X G (c.fact 17 (f := .glo "first_unlike") rfl), FunD.bindsN F fun _ _ _ _ _ _ us hl => match us, hl with | [_, _], _ => rfl⟩
theorem h_first_difference (X : K.In h) (G : h.Ns mainGlobals mg) (c : He.SaysD hfa hfn K) : HasF K mg "first_difference" s_first_difference ["one", "other"] := by
  obtain ⟨fd, F⟩ := c.def_ 18 (d := hd_first_difference) rfl
  exact ⟨He.ga K "first_difference", fd, F, He.glo_ok X G (c.fact 18 (f := .glo "first_difference") rfl), FunD.bindsN F fun _ _ _ _ _ _ us hl => match us, hl with | [_, _], _ => rfl⟩
theorem h_is_later (X : K.In h) (G : h.Ns mainGlobals mg) (c : He.SaysD hfa hfn K) : HasF K mg "is_later" s_is_later ["one", "other"] := by
  obtain ⟨fd, F⟩ := c.def_ 19 (d := hd_is_later) rfl
  exact ⟨He.ga K "is_later", fd, F, He.glo_ok X G (c.fact 19 (f := .glo "is_later") rfl), FunD.bindsN F fun _ _ _ _ _ _ us hl => match us, hl with | [_, _], _ => rfl⟩
theorem h_first_past (X : K.In h) (G : h.Ns mainGlobals mg) (c : He.SaysD hfa hfn K) : HasF K mg "first_past" s_first_past ["one", "other"] := by
  obtain ⟨fd, F⟩ := c.def_ 20 (d := hd_first_past) rfl
  exact ⟨He.ga K "first_past", fd, F, He.glo_ok X G (c.fact 20 (f := .glo "first_past") rfl), FunD.bindsN F fun _ _ _ _ _ _ us hl => match us, hl with | [_, _], _ => rfl⟩
theorem h_first_later (X : K.In h) (G : h.Ns mainGlobals mg) (c : He.SaysD hfa hfn K) : HasF K mg "first_later" s_first_later ["one", "other"] := by
  obtain ⟨fd, F⟩ := c.def_ 21 (d := hd_first_later) rfl
  exact ⟨He.ga K "first_later", fd, F, He.glo_ok X G (c.fact 21 (f := .glo "first_later") rfl), FunD.bindsN F fun _ _ _ _ _ _ us hl => match us, hl with | [_, _], _ => rfl⟩
theorem h__law_cell (X : K.In h) (G : h.Ns mainGlobals mg) (c : He.SaysD hfa hfn K) : HasF K mg "_law_cell" s__law_cell ["script", "k"] := by
  obtain ⟨fd, F⟩ := c.def_ 22 (d := hd__law_cell) rfl
  exact ⟨He.ga K "_law_cell", fd, F, He.glo_ok X G (c.fact 22 (f := .glo "_law_cell") rfl), FunD.bindsN F fun _ _ _ _ _ _ us hl => match us, hl with | [_, _], _ => rfl⟩
theorem h__law_rounds (X : K.In h) (G : h.Ns mainGlobals mg) (c : He.SaysD hfa hfn K) : HasF K mg "_law_rounds" s__law_rounds ["script", "most"] := by
  obtain ⟨fd, F⟩ := c.def_ 23 (d := hd__law_rounds) rfl
  exact ⟨He.ga K "_law_rounds", fd, F, He.glo_ok X G (c.fact 23 (f := .glo "_law_rounds") rfl), FunD.bindsN F fun _ _ _ _ _ _ us hl => match us, hl with | [_, _], _ => rfl⟩
theorem h__law_term (X : K.In h) (G : h.Ns mainGlobals mg) (c : He.SaysD hfa hfn K) : HasF K mg "_law_term" s__law_term ["e"] := by
  obtain ⟨fd, F⟩ := c.def_ 24 (d := hd__law_term) rfl
  exact ⟨He.ga K "_law_term", fd, F, He.glo_ok X G (c.fact 24 (f := .glo "_law_term") rfl), FunD.bindsN F fun _ _ _ _ _ _ us hl => match us, hl with | [_], _ => rfl⟩
theorem h__law_told (X : K.In h) (G : h.Ns mainGlobals mg) (c : He.SaysD hfa hfn K) : HasF K mg "_law_told" s__law_told ["deed"] := by
  obtain ⟨fd, F⟩ := c.def_ 25 (d := hd__law_told) rfl
  exact ⟨He.ga K "_law_told", fd, F, He.glo_ok X G (c.fact 25 (f := .glo "_law_told") rfl), FunD.bindsN F fun _ _ _ _ _ _ us hl => match us, hl with | [_], _ => rfl⟩
theorem h_law (X : K.In h) (G : h.Ns mainGlobals mg) (c : He.SaysD hfa hfn K) : HasF K mg "law" s_law ["script"] := by
  obtain ⟨fd, F⟩ := c.def_ 26 (d := hd_law) rfl
  exact ⟨He.ga K "law", fd, F, He.glo_ok X G (c.fact 26 (f := .glo "law") rfl), FunD.bindsN F fun _ _ _ _ _ _ us hl => match us, hl with | [_], _ => rfl⟩
theorem h_ends (X : K.In h) (G : h.Ns mainGlobals mg) (c : He.SaysD hfa hfn K) {f : Addr} {fd : FuncData} (F : FnP K "law" s_law f fd) (er : ErrF K (He.ga K)) {c0 Pt : Addr} (TB : LamX.TabB base mg c0 Pt) (hcd : fd.code = .ref c0) : FnOk P w K mg base (L2N.CX P w) 10 f fd ["script"] (spLawS K [(Pt, lamQ)]) := by
  have nm := h_nm X G c
  have D__law_drawn := ok__law_drawn (P := P) (w := w) (base := base) nm (h__law_drawn X G c)
  have D__law_roll := ok__law_roll (P := P) (w := w) (base := base) nm (h__law_roll X G c) D__law_drawn
  have D__law_form_of := ok__law_form_of (P := P) (w := w) (base := base) nm (h__law_form_of X G c) D__law_roll
  have D__law_at := ok__law_at (P := P) (w := w) (base := base) nm (h__law_at X G c)
  have D_is_whole := ok_is_whole (P := P) (w := w) (base := base) nm (h_is_whole X G c)
  have D_is_time := ok_is_time (P := P) (w := w) (base := base) nm (h_is_time X G c) D_is_whole
  have D_number_at := ok_number_at (P := P) (w := w) (base := base) nm (h_number_at X G c)
  have D_rise_between := ok_rise_between (P := P) (w := w) (base := base) nm (h_rise_between X G c)
  have D_is_period := ok_is_period (P := P) (w := w) (base := base) nm (h_is_period X G c) D_number_at D_rise_between
  have D_rises_from := ok_rises_from (P := P) (w := w) (base := base) nm (h_rises_from X G c) D_rise_between
  have D_canonical := ok_canonical (P := P) (w := w) (base := base) nm (h_canonical X G c) D_is_period D_number_at D_rises_from D_rise_between
  have D_is_form := ok_is_form (P := P) (w := w) (base := base) nm (h_is_form X G c) D_is_whole D_is_time D_canonical
  have D_need_form := ok_need_form (P := P) (w := w) (base := base) nm (h_need_form X G c) D_is_form
  have D_divisor := ok_divisor (P := P) (w := w) (base := base) nm (h_divisor X G c)
  have D_multiple := ok_multiple (P := P) (w := w) (base := base) nm (h_multiple X G c) D_divisor
  have D_bound_of := ok_bound_of (P := P) (w := w) (base := base) nm (h_bound_of X G c) D_multiple
  have D_value_of := ok_value_of (P := P) (w := w) (base := base) nm (h_value_of X G c) D_number_at
  have D_first_unlike := ok_first_unlike (P := P) (w := w) (base := base) nm (h_first_unlike X G c) D_bound_of D_value_of
  have D_first_difference := ok_first_difference (P := P) (w := w) (base := base) nm (h_first_difference X G c) D_need_form D_first_unlike
  have D_is_later := ok_is_later (P := P) (w := w) (base := base) nm (h_is_later X G c)
  have D_first_past := ok_first_past (P := P) (w := w) (base := base) nm (h_first_past X G c) D_bound_of D_value_of D_is_later
  have D_first_later := ok_first_later (P := P) (w := w) (base := base) nm (h_first_later X G c) D_need_form D_first_past
  have D__law_cell := ok__law_cell (P := P) (w := w) (base := base) nm (h__law_cell X G c)
  have D__law_rounds := ok__law_rounds (P := P) (w := w) (base := base) nm (h__law_rounds X G c) D__law_cell
  have TD := ok__law_term (P := P) (w := w) (base := base) nm er (h__law_term X G c)
  exact ok_law nm F D__law_rounds D__law_form_of D__law_roll D__law_at D_first_difference D_first_later er (h__law_told X G c) TD TB hcd round_ok
end
end Rn
open PySem PySem.W PySem.Calls PyProof.Rows
theorem PySem.Challenge.cw_roundnets_k06_whole_first_places_holds : PySem.Challenge.rw_roundnets_k06_whole_first_places.Holds := by
  w_on; o_law
  refine HandSHeadRun.head_any (r := OpenLaw.row PySem.Challenge.rw_roundnets_k06_whole_first_places) (q := view (OpenLaw.row PySem.Challenge.rw_roundnets_k06_whole_first_places).prog [50]) (H := Rn.hk) (ob := Rn.ob) (M := 30000) (loose := Rn.loose) (d := HandSHeadRun.topDef (OpenLaw.row PySem.Challenge.rw_roundnets_k06_whole_first_places).prog 50) (kwd := []) Rn.ob_eq
    (by kernel_rfl) (fun s => by kernel_rfl) Rn.head_run (by kernel_rfl) (by kernel_rfl) (by kernel_rfl) (by rfl) (by first | assumption | decide +kernel) (by decide +kernel) ⟨rfl, rfl, rfl, rfl, rfl, by decide +kernel⟩ ?hw ?hc
  case hw => w_witness2
  case hc =>
    refine LamX.walk_ofTsE (l := PySem.Challenge.rw_roundnets_k06_whole_first_places) (n := 63) (k := 10) (CX := fun w => L2N.CX (PySem.Challenge.rw_roundnets_k06_whole_first_places).prog w) (x := "script") rfl (by decide) (by kernel_rfl) ⟨rfl, by decide, by decide⟩ ?F ?G
    case G =>
      rintro w H s e s' ⟨_, _, _, _, _, _, _, _, _, _, _, _, z⟩
      exact z
    case F =>
      intro w mg fa h Y G hmg0
      obtain ⟨K, KX, c⟩ := Y
      have hmg : mg ("law" : PySem.Str) = some (.ref fa) := by
        have e : (HandSHeadRun.topDef (OpenLaw.row PySem.Challenge.rw_roundnets_k06_whole_first_places).prog 50).name = ("law" : PySem.Str) := by kernel_rfl
        rw [← e]
        exact hmg0
      obtain ⟨fd, F⟩ := c.t.d.def_ 26 (d := Rn.hd_law) rfl
      have e := hmg.symm.trans (He.glo_ok KX G (c.t.d.fact 26 (f := .glo "law") rfl))
      cases e
      have b := L2.FunD.bindsA (ps := ["script"]) F fun _ _ _ _ _ _ us hl => match us, hl with | [_], _ => rfl
      have hcode : fd.code = .ref (He.cT K ("law", none)).1 := by
        obtain ⟨oc, od, dV, kV, doc, pm, an, cdv, ct, osl, rfl, lk, hcd, _, _⟩ := F.ex
        obtain ⟨c1, rfl⟩ := He.codeIn_ref hcd
        have := He.codeOf_eq (p := ("law", none)) lk rfl
        show Value.ref c1 = .ref (He.codeOf K ("law", none))
        rw [this]
      refine ⟨K, KX, fd, [He.cT K ("law", none)], Rn.spLawS K [((He.cT K ("law", none)).2, Rn.lamQ)], fun p hp => ?_, fun p hp => ?_, fun p hp => ?_, fun s v => b s [v] rfl, fun H a ns hl _ hT hS => ⟨a, ns, rfl, hS, hl, fun q hq => ?_, fun _ => rfl⟩, fun base _ _ hTB => Rn.h_ends KX G c.t.d F (Rn.errB_ok c.more) (hTB _ (List.mem_singleton.mpr rfl)) hcode⟩
      · rw [List.mem_singleton.mp hp]; exact c.empty _ (List.mem_singleton.mpr rfl)
      · rw [List.mem_singleton.mp hp]; exact c.out _ (List.mem_singleton.mpr rfl)
      · rw [List.mem_singleton.mp hp]; exact PySem.W.codeHd_of_K KX (c.hd _ (List.mem_singleton.mpr rfl))
      · rw [List.mem_singleton.mp hq]; exact LamX.TabS.nil (hT _ (List.mem_singleton.mpr rfl))
