import PyProof.Rows.All
import Wide.All
import OpenK.AllK
import Wide.FinOn
import KE.DataEq
import HandS.ForMost
import HandS.ForExc
import HandS.IsInst
import HandS.Wide
import HandS.TupAny
import HandS.TupMul
import HandS.Dict
import HandS.Small
import KE.GoesMore
import HandS.Style
import HandS.Defaults
import HandS.HeadHook1
import KE.SortData
import HandS.Flt
import HandS.Iter
import KE.KStateDown
import Lean
import HandS.Base
import HandS.Call
import HandS.Ends
import HandS.More
import HandS.Words
import HandS.WordsExc
import HandS.Head0
import HandS.Head1
import HandS.Head2
import HandS.HeadEnd
import HandS.HeadHook2
import PySem.Challenge.RW_roundnets_k28_whole_rooms_and_pace
section
set_option Elab.async false
set_option linter.all false
set_option maxRecDepth 100000
set_option maxHeartbeats 0
namespace Rn
open PySem PySem.Spec PyProof.Rows L2
def top (i : Nat) : Stmt := PySem.Challenge.pw_roundnets_k28_whole_rooms_and_pace.main.body.getD i (.Pass ⟨0, 0, 0, 0⟩)
abbrev s_is_whole : Stmt := top 9
abbrev s_event_of : Stmt := top 10
abbrev s_is_source : Stmt := top 11
abbrev s_is_arc : Stmt := top 12
abbrev s_is_row : Stmt := top 13
abbrev s_is_shaped : Stmt := top 14
abbrev s_same_round : Stmt := top 15
abbrev s_order_of : Stmt := top 16
abbrev s_all_back : Stmt := top 17
abbrev s_is_net : Stmt := top 18
abbrev s_need_net : Stmt := top 19
abbrev s_need_event : Stmt := top 20
abbrev s_divisor : Stmt := top 22
abbrev s_lowest : Stmt := top 23
abbrev s_rings_from : Stmt := top 24
abbrev s_rings_of : Stmt := top 25
abbrev s_measure : Stmt := top 26
abbrev s_ratio : Stmt := top 27
abbrev s_is_less : Stmt := top 28
abbrev s_greatest : Stmt := top 29
abbrev s_slowest_of : Stmt := top 30
abbrev s_slowest : Stmt := top 31
abbrev s_reach_back : Stmt := top 32
abbrev s_has_start : Stmt := top 33
abbrev s_pace : Stmt := top 34
abbrev s_are_stores : Stmt := top 37
abbrev s_need_stores : Stmt := top 38
abbrev s_need_rooms : Stmt := top 39
abbrev s_with_rooms : Stmt := top 40
abbrev s_slowest_with : Stmt := top 41
abbrev s_all_rooms : Stmt := top 42
abbrev s_is_pace : Stmt := top 43
abbrev s_keeps : Stmt := top 44
abbrev s_least_rooms : Stmt := top 45
abbrev s__law_drawn : Stmt := top 48
abbrev s__law_roll : Stmt := top 49
abbrev s__law_cell : Stmt := top 47
abbrev s__law_rounds : Stmt := top 50
abbrev s_law : Stmt := top 51
def hd__law_drawn : He.DefD := ⟨("_law_drawn", none), "_law_drawn", "_law_drawn", defArgs s__law_drawn, defBody s__law_drawn, defScope s__law_drawn, [], []⟩
def hd__law_roll : He.DefD := ⟨("_law_roll", none), "_law_roll", "_law_roll", defArgs s__law_roll, defBody s__law_roll, defScope s__law_roll, [], []⟩
def hd_is_whole : He.DefD := ⟨("is_whole", none), "is_whole", "is_whole", defArgs s_is_whole, defBody s_is_whole, defScope s_is_whole, [], []⟩
def hd_is_source : He.DefD := ⟨("is_source", none), "is_source", "is_source", defArgs s_is_source, defBody s_is_source, defScope s_is_source, [], []⟩
def hd_is_arc : He.DefD := ⟨("is_arc", none), "is_arc", "is_arc", defArgs s_is_arc, defBody s_is_arc, defScope s_is_arc, [], []⟩
def hd_is_row : He.DefD := ⟨("is_row", none), "is_row", "is_row", defArgs s_is_row, defBody s_is_row, defScope s_is_row, [], []⟩
def hd_is_shaped : He.DefD := ⟨("is_shaped", none), "is_shaped", "is_shaped", defArgs s_is_shaped, defBody s_is_shaped, defScope s_is_shaped, [], []⟩
def hd_all_back : He.DefD := ⟨("all_back", none), "all_back", "all_back", defArgs s_all_back, defBody s_all_back, defScope s_all_back, [], []⟩
def hd_event_of : He.DefD := ⟨("event_of", none), "event_of", "event_of", defArgs s_event_of, defBody s_event_of, defScope s_event_of, [], []⟩
def hd_same_round : He.DefD := ⟨("same_round", none), "same_round", "same_round", defArgs s_same_round, defBody s_same_round, defScope s_same_round, [], []⟩
def hd_order_of : He.DefD := ⟨("order_of", none), "order_of", "order_of", defArgs s_order_of, defBody s_order_of, defScope s_order_of, [], []⟩
def hd_is_net : He.DefD := ⟨("is_net", none), "is_net", "is_net", defArgs s_is_net, defBody s_is_net, defScope s_is_net, [], []⟩
def hd_need_net : He.DefD := ⟨("need_net", none), "need_net", "need_net", defArgs s_need_net, defBody s_need_net, defScope s_need_net, [], []⟩
def hd_is_less : He.DefD := ⟨("is_less", none), "is_less", "is_less", defArgs s_is_less, defBody s_is_less, defScope s_is_less, [], []⟩
def hd_greatest : He.DefD := ⟨("greatest", none), "greatest", "greatest", defArgs s_greatest, defBody s_greatest, defScope s_greatest, [], []⟩
def hd_rings_from : He.DefD := ⟨("rings_from", none), "rings_from", "rings_from", defArgs s_rings_from, defBody s_rings_from, defScope s_rings_from, [], []⟩
def hd_rings_of : He.DefD := ⟨("rings_of", none), "rings_of", "rings_of", defArgs s_rings_of, defBody s_rings_of, defScope s_rings_of, [], []⟩
def hd_measure : He.DefD := ⟨("measure", none), "measure", "measure", defArgs s_measure, defBody s_measure, defScope s_measure, [], []⟩
def hd_divisor : He.DefD := ⟨("divisor", none), "divisor", "divisor", defArgs s_divisor, defBody s_divisor, defScope s_divisor, [], []⟩
def hd_lowest : He.DefD := ⟨("lowest", none), "lowest", "lowest", defArgs s_lowest, defBody s_lowest, defScope s_lowest, [], []⟩
def hd_ratio : He.DefD := ⟨("ratio", none), "ratio", "ratio", defArgs s_ratio, defBody s_ratio, defScope s_ratio, [], []⟩
def hd_slowest_of : He.DefD := ⟨("slowest_of", none), "slowest_of", "slowest_of", defArgs s_slowest_of, defBody s_slowest_of, defScope s_slowest_of, [], []⟩
def hd_slowest : He.DefD := ⟨("slowest", none), "slowest", "slowest", defArgs s_slowest, defBody s_slowest, defScope s_slowest, [], []⟩
def hd_need_event : He.DefD := ⟨("need_event", none), "need_event", "need_event", defArgs s_need_event, defBody s_need_event, defScope s_need_event, [], []⟩
def hd_reach_back : He.DefD := ⟨("reach_back", none), "reach_back", "reach_back", defArgs s_reach_back, defBody s_reach_back, defScope s_reach_back, [], []⟩
def hd_has_start : He.DefD := ⟨("has_start", none), "has_start", "has_start", defArgs s_has_start, defBody s_has_start, defScope s_has_start, [], []⟩
def hd_pace : He.DefD := ⟨("pace", none), "pace", "pace", defArgs s_pace, defBody s_pace, defScope s_pace, [], []⟩
def hd_are_stores : He.DefD := ⟨("are_stores", none), "are_stores", "are_stores", defArgs s_are_stores, defBody s_are_stores, defScope s_are_stores, [], []⟩
def hd_need_stores : He.DefD := ⟨("need_stores", none), "need_stores", "need_stores", defArgs s_need_stores, defBody s_need_stores, defScope s_need_stores, [], []⟩
def hd_need_rooms : He.DefD := ⟨("need_rooms", none), "need_rooms", "need_rooms", defArgs s_need_rooms, defBody s_need_rooms, defScope s_need_rooms, [], []⟩
def hd_with_rooms : He.DefD := ⟨("with_rooms", none), "with_rooms", "with_rooms", defArgs s_with_rooms, defBody s_with_rooms, defScope s_with_rooms, [], []⟩
def hd_slowest_with : He.DefD := ⟨("slowest_with", none), "slowest_with", "slowest_with", defArgs s_slowest_with, defBody s_slowest_with, defScope s_slowest_with, [], []⟩
def hd_is_pace : He.DefD := ⟨("is_pace", none), "is_pace", "is_pace", defArgs s_is_pace, defBody s_is_pace, defScope s_is_pace, [], []⟩
def hd_all_rooms : He.DefD := ⟨("all_rooms", none), "all_rooms", "all_rooms", defArgs s_all_rooms, defBody s_all_rooms, defScope s_all_rooms, [], []⟩
def hd_keeps : He.DefD := ⟨("keeps", none), "keeps", "keeps", defArgs s_keeps, defBody s_keeps, defScope s_keeps, [], []⟩
def hd_least_rooms : He.DefD := ⟨("least_rooms", none), "least_rooms", "least_rooms", defArgs s_least_rooms, defBody s_least_rooms, defScope s_least_rooms, [], []⟩
def hd__law_cell : He.DefD := ⟨("_law_cell", none), "_law_cell", "_law_cell", defArgs s__law_cell, defBody s__law_cell, defScope s__law_cell, [], []⟩
def hd__law_rounds : He.DefD := ⟨("_law_rounds", none), "_law_rounds", "_law_rounds", defArgs s__law_rounds, defBody s__law_rounds, defScope s__law_rounds, [], []⟩
def hd_law : He.DefD := ⟨("law", none), "law", "law", defArgs s_law, defBody s_law, defScope s_law, [], []⟩
def hfn0 : List He.DefD := [hd__law_drawn, hd__law_roll, hd_is_whole, hd_is_source, hd_is_arc, hd_is_row, hd_is_shaped, hd_all_back, hd_event_of, hd_same_round, hd_order_of, hd_is_net, hd_need_net, hd_is_less, hd_greatest]
def hfn1 : List He.DefD := [hd_rings_from, hd_rings_of, hd_measure, hd_divisor, hd_lowest, hd_ratio, hd_slowest_of, hd_slowest, hd_need_event, hd_reach_back, hd_has_start, hd_pace, hd_are_stores, hd_need_stores, hd_need_rooms]
def hfn2 : List He.DefD := [hd_with_rooms, hd_slowest_with, hd_is_pace, hd_all_rooms, hd_keeps, hd_least_rooms, hd__law_cell, hd__law_rounds, hd_law]
def hfn : List He.DefD := hfn0 ++ hfn1 ++ hfn2
def hfa0 : List He.Fa := [.glo "_law_drawn", .glo "_law_roll", .glo "is_whole", .glo "is_source", .glo "is_arc", .glo "is_row", .glo "is_shaped", .glo "all_back", .glo "event_of", .glo "same_round", .glo "order_of", .glo "is_net", .glo "need_net", .glo "is_less", .glo "greatest"]
def hfa1 : List He.Fa := [.glo "rings_from", .glo "rings_of", .glo "measure", .glo "divisor", .glo "lowest", .glo "ratio", .glo "slowest_of", .glo "slowest", .glo "need_event", .glo "reach_back", .glo "has_start", .glo "pace", .glo "are_stores", .glo "need_stores", .glo "need_rooms"]
def hfa2 : List He.Fa := [.glo "with_rooms", .glo "slowest_with", .glo "is_pace", .glo "all_rooms", .glo "keeps", .glo "least_rooms", .glo "_law_cell", .glo "_law_rounds", .glo "law", .free "ValueError", .free "abs", .free "all", .free "any", .free "bool", .free "enumerate"]
def hfa3 : List He.Fa := [.free "int", .free "isinstance", .free "len", .free "list", .free "max", .free "min", .free "range", .free "sorted", .free "str", .free "sum", .free "tuple", .int "MOST_EVENTS" 5, .int "MOST_BACK" 8, .int "MOST_ROOMS" 6, .glo "RoundError"]
def hfa4 : List He.Fa := [.glo "InvalidNet", .glo "InvalidEvent", .glo "InvalidNumber", .glo "InvalidStores", .exc "RoundError", .exc "InvalidNet", .exc "InvalidEvent", .exc "InvalidNumber", .exc "InvalidStores"]
def hfa : List He.Fa := hfa0 ++ hfa1 ++ hfa2 ++ hfa3 ++ hfa4
def loose0 : List PySem.Str := ["RoundError", "InvalidNet", "InvalidEvent", "InvalidNumber", "InvalidStores", "MOST_EVENTS", "MOST_BACK", "is_whole", "event_of", "is_source", "is_arc", "is_row", "is_shaped", "same_round", "order_of"]
def loose1 : List PySem.Str := ["all_back", "is_net", "need_net", "need_event", "divisor", "lowest", "rings_from", "rings_of", "measure", "ratio", "is_less", "greatest", "slowest_of", "slowest", "reach_back"]
def loose2 : List PySem.Str := ["has_start", "pace", "MOST_ROOMS", "are_stores", "need_stores", "need_rooms", "with_rooms", "slowest_with", "all_rooms", "is_pace", "keeps", "least_rooms", "_law_cell", "_law_drawn", "_law_roll"]
def loose3 : List PySem.Str := ["_law_rounds"]
def loose : List PySem.Str := loose0 ++ loose1 ++ loose2 ++ loose3
abbrev R0 : PySem.W.OpenRow := PySem.W.OpenLaw.row PySem.Challenge.rw_roundnets_k28_whole_rooms_and_pace
abbrev hk : PySem.W.Hook := He.hookD 4 hfa hfn
def ob (s : PySem.W.SharedT) : He.AlD := He.obsDG 4 hfa hfn (HandSHeadRun.getT s)
theorem ob_eq (s : PySem.W.SharedT) : ob s = hk.obs s.abs := He.obsDG_eq (HandSHeadRun.getT_eq s)
theorem head_run (w : World) : HandSHeadRun.RunEq R0 (PySem.W.view R0.prog [51]) hk ob 30000 loose w := by
  intro os
  kernel_rfl
end Rn
end
section
set_option Elab.async false
set_option linter.all false
set_option maxRecDepth 100000
/-! Core1: plain data in a frozen part of the heap, cells, environments, steps. -/
namespace Rn
open PySem PySem.Spec L2

abbrev D := PyData

def keyD : Key → D
  | .inl i => .int i
  | .inr x => .str x

mutual
/-- the value v is the data d, by objects of F alone -/
def Den (F : Hp) : D → V → Prop
  | .none, v => v = .non
  | .bool b, v => v = .bl b
  | .int i, v => v = .int i
  | .str x, v => v = .str x
  | .list ds, v => ∃ a vs, v = .ref a ∧ F a = some (.lst vs) ∧ DenL F ds vs
  | .tuple ds, v => ∃ a vs, v = .ref a ∧ F a = some (.tup vs) ∧ DenL F ds vs
  | .dict kds, v => ∃ a kvs, v = .ref a ∧ F a = some (.dK kvs) ∧ DenK F kds kvs
def DenL (F : Hp) : List D → List V → Prop
  | [], vs => vs = []
  | d :: ds, vs => ∃ v r, vs = v :: r ∧ Den F d v ∧ DenL F ds r
def DenK (F : Hp) : List (D × D) → List (Key × V) → Prop
  | [], kvs => kvs = []
  | (k, d) :: ds, kvs => ∃ q v r, kvs = (q, v) :: r ∧ keyD q = k ∧ Den F d v ∧ DenK F ds r
end

mutual
theorem Den.mono {F F' : Hp} (s : Same F F') : ∀ {d : D} {v : V}, Den F d v → Den F' d v
  | .none, _, h => h
  | .bool _, _, h => h
  | .int _, _, h => h
  | .str _, _, h => h
  | .list ds, _, ⟨a, vs, e, h, l⟩ => ⟨a, vs, e, s _ _ h, DenL.mono s l⟩
  | .tuple ds, _, ⟨a, vs, e, h, l⟩ => ⟨a, vs, e, s _ _ h, DenL.mono s l⟩
  | .dict kds, _, ⟨a, vs, e, h, l⟩ => ⟨a, vs, e, s _ _ h, DenK.mono s l⟩
theorem DenL.mono {F F' : Hp} (s : Same F F') : ∀ {ds : List D} {vs : List V}, DenL F ds vs → DenL F' ds vs
  | [], _, h => h
  | _ :: _, _, ⟨v, r, e, h, l⟩ => ⟨v, r, e, Den.mono s h, DenL.mono s l⟩
theorem DenK.mono {F F' : Hp} (s : Same F F') : ∀ {ds : List (D × D)} {vs : List (Key × V)}, DenK F ds vs → DenK F' ds vs
  | [], _, h => h
  | (_, _) :: _, _, ⟨q, v, r, e, k, h, l⟩ => ⟨q, v, r, e, k, Den.mono s h, DenK.mono s l⟩
end

theorem DenL.len {F : Hp} : ∀ {ds : List D} {vs : List V}, DenL F ds vs → ds.length = vs.length
  | [], _, h => by cases h; rfl
  | _ :: _, _, ⟨v, r, e, _, l⟩ => by cases e; simp [DenL.len l]
theorem DenL.get {F : Hp} : ∀ {ds : List D} {vs : List V} {i : Nat} {d : D}, DenL F ds vs → ds[i]? = some d → ∃ v, vs[i]? = some v ∧ Den F d v
  | [], _, _, _, _, e => by simp at e
  | _ :: _, _, 0, _, ⟨v, r, q, h, l⟩, e => by cases q; simp at e; subst e; exact ⟨v, rfl, h⟩
  | _ :: _, _, i + 1, d, ⟨v, r, q, h, l⟩, e => by
    cases q
    obtain ⟨u, h1, h2⟩ := DenL.get (i := i) (d := d) l (by simpa using e)
    exact ⟨u, by simpa using h1, h2⟩
theorem DenL.got {F : Hp} : ∀ {ds : List D} {vs : List V} {i : Nat} {v : V}, DenL F ds vs → vs[i]? = some v → ∃ d, ds[i]? = some d ∧ Den F d v
  | [], _, _, _, h, e => by cases h; simp at e
  | d :: _, _, 0, _, ⟨v, r, q, h, l⟩, e => by cases q; simp at e; subst e; exact ⟨d, rfl, h⟩
  | _ :: _, _, i + 1, d, ⟨v, r, q, h, l⟩, e => by
    cases q
    obtain ⟨u, h1, h2⟩ := DenL.got (i := i) (v := d) l (by simpa using e)
    exact ⟨u, by simpa using h1, h2⟩
theorem DenL.of_get {F : Hp} : ∀ {ds : List D} {vs : List V}, ds.length = vs.length → (∀ (i : Nat) d v, ds[i]? = some d → vs[i]? = some v → Den F d v) → DenL F ds vs
  | [], [], _, _ => rfl
  | [], _ :: _, h, _ => by simp at h
  | _ :: _, [], h, _ => by simp at h
  | d :: ds, v :: vs, h, g => ⟨v, vs, rfl, g 0 d v rfl rfl, DenL.of_get (by simpa using h) fun i d v a b => g (i + 1) d v (by simpa using a) (by simpa using b)⟩
theorem DenL.app {F : Hp} : ∀ {ds es : List D} {vs ws : List V}, DenL F ds vs → DenL F es ws → DenL F (ds ++ es) (vs ++ ws)
  | [], _, _, _, h, g => by cases h; exact g
  | _ :: _, _, _, _, ⟨v, r, q, h, l⟩, g => by cases q; exact ⟨v, _, rfl, h, DenL.app l g⟩
theorem DenL.one {F : Hp} {d : D} {v : V} (h : Den F d v) : DenL F [d] [v] := ⟨v, [], rfl, h, rfl⟩
theorem DenL.take {F : Hp} : ∀ {ds : List D} {vs : List V} (n : Nat), DenL F ds vs → DenL F (ds.take n) (vs.take n)
  | [], _, n, h => by cases h; simp [DenL]
  | _ :: _, _, 0, h => by simp [DenL]
  | _ :: _, _, n + 1, ⟨v, r, q, h, l⟩ => by cases q; exact ⟨v, _, rfl, h, DenL.take n l⟩
theorem DenL.drop {F : Hp} : ∀ {ds : List D} {vs : List V} (n : Nat), DenL F ds vs → DenL F (ds.drop n) (vs.drop n)
  | [], _, n, h => by cases h; simp [DenL]
  | _ :: _, _, 0, h => h
  | _ :: _, _, n + 1, ⟨v, r, q, h, l⟩ => by cases q; exact DenL.drop n l
theorem DenL.set {F : Hp} {d : D} {v : V} (g : Den F d v) : ∀ {ds : List D} {vs : List V} (n : Nat), DenL F ds vs → DenL F (ds.set n d) (vs.set n v)
  | [], _, n, h => by cases h; simp [DenL]
  | _ :: _, _, 0, ⟨u, r, q, h, l⟩ => by cases q; exact ⟨v, r, rfl, g, l⟩
  | _ :: _, _, n + 1, ⟨u, r, q, h, l⟩ => by cases q; exact ⟨u, _, rfl, h, DenL.set g n l⟩
theorem DenL.dropLast {F : Hp} {ds : List D} {vs : List V} (h : DenL F ds vs) : DenL F ds.dropLast vs.dropLast := by
  rw [List.dropLast_eq_take, List.dropLast_eq_take, ← h.len]
  exact h.take _
theorem DenL.rep {F : Hp} {ds : List D} {vs : List V} (h : DenL F ds vs) : ∀ k : Nat, DenL F (List.replicate k ds).flatten (List.replicate k vs).flatten
  | 0 => rfl
  | k + 1 => by
    rw [List.replicate_succ, List.replicate_succ, List.flatten_cons, List.flatten_cons]
    exact h.app (DenL.rep h k)
theorem DenL.ints {F : Hp} : ∀ {ns : List Int}, DenL F (ns.map PyData.int) (ns.map V.int)
  | [] => rfl
  | n :: ns => ⟨.int n, _, rfl, rfl, DenL.ints⟩
theorem DenL.of_ints {F : Hp} : ∀ {ns : List Int} {vs : List V}, DenL F (ns.map PyData.int) vs → vs = ns.map V.int
  | [], _, h => h
  | n :: ns, _, ⟨v, r, e, h, l⟩ => by subst e; rw [DenL.of_ints l, show v = V.int n from h]; rfl
theorem DenL.of_bools {F : Hp} : ∀ {bs : List Bool} {vs : List V}, DenL F (bs.map PyData.bool) vs → vs = bs.map V.bl
  | [], _, h => h
  | n :: ns, _, ⟨v, r, e, h, l⟩ => by subst e; rw [DenL.of_bools l, show v = V.bl n from h]; rfl

/-- the object o is the list or dict d -/
def Shal (F : Hp) : D → HO → Prop
  | .list ds, .lst vs => DenL F ds vs
  | .dict kds, .dK kvs => DenK F kds kvs
  | _, _ => False
theorem Shal.mono {F F' : Hp} (s : Same F F') {d : D} {o : HO} (h : Shal F d o) : Shal F' d o := by
  cases d <;> cases o <;> first | exact h | exact DenL.mono s h | exact DenK.mono s h
theorem Shal.den {F : Hp} {d : D} {o : HO} {a : Addr} (h : Shal F d o) (e : F a = some o) : Den F d (.ref a) := by
  cases d <;> cases o <;> first | exact h.elim | exact ⟨_, _, rfl, e, h⟩
theorem Shal.lst {F : Hp} {ds : List D} {o : HO} (h : Shal F (.list ds) o) : ∃ vs, o = .lst vs ∧ DenL F ds vs := by
  cases o <;> first | exact h.elim | exact ⟨_, rfl, h⟩
theorem Shal.dic {F : Hp} {ds : List (D × D)} {o : HO} (h : Shal F (.dict ds) o) : ∃ vs, o = .dK vs ∧ DenK F ds vs := by
  cases o <;> first | exact h.elim | exact ⟨_, rfl, h⟩
theorem Shal.cases {F : Hp} {d : D} {o : HO} (h : Shal F d o) : (∃ ds vs, d = .list ds ∧ o = .lst vs ∧ DenL F ds vs) ∨ ∃ ds vs, d = .dict ds ∧ o = .dK vs ∧ DenK F ds vs := by
  cases d <;> cases o <;> first | exact h.elim | exact .inl ⟨_, _, rfl, rfl, h⟩ | exact .inr ⟨_, _, rfl, rfl, h⟩

/-! ### cells and environments -/
inductive Cell where
  | no
  | fz (d : D)
  | ow (d : D)
  | bw (d : D)
abbrev Rho := List Cell
def Cell.own : Cell → Bool
  | .ow _ => true
  | .bw _ => true
  | _ => false

inductive R (α : Type) where
  | ok (a : α) (r : Rho)
  | ex (c : Str) (r : Rho)
  | no
abbrev M (α : Type) := Rho → R α

structure Bd where
  H0 : Hp
  F0 : Hp
  bs : List Addr

def CellOk (B : Bd) (F H : Hp) (v : Option V) : Cell → Prop
  | .no => True
  | .fz d => ∃ u, v = some u ∧ Den F d u
  | .ow d => ∃ a o, v = some (.ref a) ∧ H a = some o ∧ Shal F d o ∧ F a = none ∧ B.H0 a = none
  | .bw d => ∃ a o, v = some (.ref a) ∧ H a = some o ∧ Shal F d o ∧ F a = none ∧ a ∈ B.bs

def Owns (σ : L2.St) (ρ : Rho) (a : Addr) : Prop := ∃ (i : Nat) (c : Cell), σ[i]? = some (some (V.ref a)) ∧ ρ[i]? = some c ∧ c.own = true

structure Mt (B : Bd) (F H : Hp) (σ : L2.St) (ρ : Rho) : Prop where
  sub : Same F H
  old : Same B.F0 F
  new : ∀ a o, F a = some o → B.F0 a = some o ∨ B.H0 a = none
  frm : ∀ a o, B.H0 a = some o → a ∉ B.bs → H a = some o
  dom : ∀ a, H a = none → B.H0 a = none
  len : ρ.length = σ.length
  cell : ∀ (i : Nat) (v : Option V) (c : Cell), σ[i]? = some v → ρ[i]? = some c → CellOk B F H v c
  apart : ∀ (i j : Nat) (a : Addr) (c c' : Cell), σ[i]? = some (some (.ref a)) → σ[j]? = some (some (.ref a)) → ρ[i]? = some c → ρ[j]? = some c' → c.own = true → c'.own = true → i = j

/-- what an expression may do to a cell -/
def KStep : Cell → Cell → Prop
  | .no, .no => True
  | .fz d, .fz e => d = e
  | .ow _, .ow _ => True
  | .ow _, .fz _ => True
  | .bw _, .bw _ => True
  | _, _ => False
theorem KStep.refl : ∀ c : Cell, KStep c c
  | .no => trivial
  | .fz _ => rfl
  | .ow _ => trivial
  | .bw _ => trivial
theorem KStep.trans : ∀ {a b c : Cell}, KStep a b → KStep b c → KStep a c := by
  intro a b c h g
  cases a <;> cases b <;> cases c <;> first | exact h.elim | exact g.elim | exact trivial | exact (show _ = _ from h).trans g

structure Stp (B : Bd) (F H : Hp) (σ : L2.St) (ρ : Rho) (F' H' : Hp) (ρ' : Rho) : Prop where
  mt : Mt B F' H' σ ρ'
  old : Same F F'
  new : ∀ a o, F' a = some o → F a = some o ∨ H a = none ∨ Owns σ ρ a
  frm : ∀ a o, H a = some o → ¬ Owns σ ρ a → H' a = some o
  dom : ∀ a, H' a = none → H a = none
  own : ∀ a, Owns σ ρ' a → Owns σ ρ a
  kind : ∀ (i : Nat) (c : Cell), ρ[i]? = some c → ∃ c', ρ'[i]? = some c' ∧ KStep c c'

structure Ext (F H F' H' : Hp) : Prop where
  same : Same H H'
  old : Same F F'
  sub : Same F' H'
  new : ∀ a o, F' a = some o → F a = some o ∨ H a = none

theorem Ext.refl {F H : Hp} (h : Same F H) : Ext F H F H := ⟨Same.refl _, Same.refl _, h, fun _ _ e => .inl e⟩
theorem Ext.trans {F H F1 H1 F2 H2 : Hp} (x : Ext F H F1 H1) (y : Ext F1 H1 F2 H2) : Ext F H F2 H2 where
  same := x.same.trans y.same
  old := x.old.trans y.old
  sub := y.sub
  new := fun a o e => by
    rcases y.new a o e with h | h
    · exact x.new a o h
    · exact .inr (x.same.free h)
theorem same_upd {H : Hp} {p : Addr} {o : HO} (h : H p = none) : Same H (upd H p o) := fun b x e => by
  rw [upd_ne (ne_of_none e h)]
  exact e
theorem same_upd2 {F H : Hp} (s : Same F H) (p : Addr) (o : HO) : Same (upd F p o) (upd H p o) := fun b x e => by
  by_cases hb : b = p
  · subst hb; rw [upd_same] at e ⊢; exact e
  · rw [upd_ne hb] at e ⊢; exact s _ _ e
/-- a new object, frozen -/
theorem Ext.laid {F H : Hp} (s : Same F H) {p : Addr} (n : H p = none) (o : HO) : Ext F H (upd F p o) (upd H p o) where
  same := same_upd n
  old := same_upd (s.free n)
  sub := same_upd2 s p o
  new := fun a x e => by
    by_cases hb : a = p
    · subst hb; exact .inr n
    · rw [upd_ne hb] at e; exact .inl e
/-- a new object, not frozen -/
theorem Ext.loose {F H : Hp} (s : Same F H) {p : Addr} (n : H p = none) (o : HO) : Ext F H F (upd H p o) where
  same := same_upd n
  old := Same.refl _
  sub := s.trans (same_upd n)
  new := fun a x e => .inl e

section
variable {B : Bd} {F H F' H' F2 H2 : Hp} {σ : L2.St} {ρ ρ' ρ2 : Rho}
theorem Mt.refl (m : Mt B F H σ ρ) : Stp B F H σ ρ F H ρ := ⟨m, Same.refl _, fun _ _ e => .inl e, fun _ _ e _ => e, fun _ e => e, fun _ e => e, fun _ c e => ⟨c, e, KStep.refl c⟩⟩
theorem Mt.hasOwn (m : Mt B F H σ ρ) {a : Addr} (h : Owns σ ρ a) : F a = none ∧ ∃ o, H a = some o := by
  obtain ⟨i, c, h1, h2, h3⟩ := h
  have q := m.cell i _ c h1 h2
  cases c with
  | no => cases h3
  | fz d => cases h3
  | ow d => obtain ⟨b, o, e, f, _, g, _⟩ := q; cases e; exact ⟨g, o, f⟩
  | bw d => obtain ⟨b, o, e, f, _, g, _⟩ := q; cases e; exact ⟨g, o, f⟩
theorem Mt.noOwn (m : Mt B F H σ ρ) {a : Addr} (h : H a = none) : ¬ Owns σ ρ a := fun x => by
  obtain ⟨_, o, e⟩ := m.hasOwn x
  rw [h] at e; cases e
theorem Stp.trans (x : Stp B F H σ ρ F' H' ρ') (y : Stp B F' H' σ ρ' F2 H2 ρ2) : Stp B F H σ ρ F2 H2 ρ2 where
  mt := y.mt
  old := x.old.trans y.old
  new := fun a o e => by
    rcases y.new a o e with h | h | h
    · exact x.new a o h
    · exact .inr (.inl (x.dom _ h))
    · exact .inr (.inr (x.own _ h))
  frm := fun a o e n => y.frm a o (x.frm a o e n) fun q => n (x.own _ q)
  dom := fun a e => x.dom _ (y.dom _ e)
  own := fun a e => x.own _ (y.own _ e)
  kind := fun i c e => by
    obtain ⟨c1, e1, k1⟩ := x.kind i c e
    obtain ⟨c2, e2, k2⟩ := y.kind i c1 e1
    exact ⟨c2, e2, k1.trans k2⟩
/-- the heap grows -/
theorem Mt.grow (m : Mt B F H σ ρ) (e : Ext F H F' H') : Mt B F' H' σ ρ where
  sub := e.sub
  old := m.old.trans e.old
  new := fun a o h => by
    rcases e.new a o h with q | q
    · exact m.new a o q
    · exact .inr (m.dom _ q)
  frm := fun a o h n => e.same _ _ (m.frm a o h n)
  dom := fun a h => m.dom _ (e.same.free h)
  len := m.len
  cell := fun i v c h1 h2 => by
    have q := m.cell i v c h1 h2
    cases c with
    | no => trivial
    | fz d => obtain ⟨u, a, b⟩ := q; exact ⟨u, a, b.mono e.old⟩
    | ow d =>
      obtain ⟨a, o, h1, h2, h3, h4, h5⟩ := q
      refine ⟨a, o, h1, e.same _ _ h2, h3.mono e.old, ?_, h5⟩
      cases w : F' a with
      | none => rfl
      | some u =>
        rcases e.new a u w with z | z
        · rw [h4] at z; cases z
        · rw [h2] at z; cases z
    | bw d =>
      obtain ⟨a, o, h1, h2, h3, h4, h5⟩ := q
      refine ⟨a, o, h1, e.same _ _ h2, h3.mono e.old, ?_, h5⟩
      cases w : F' a with
      | none => rfl
      | some u =>
        rcases e.new a u w with z | z
        · rw [h4] at z; cases z
        · rw [h2] at z; cases z
  apart := m.apart
theorem Mt.ext (m : Mt B F H σ ρ) (e : Ext F H F' H') : Stp B F H σ ρ F' H' ρ :=
  ⟨m.grow e, e.old, fun a o h => (e.new a o h).elim .inl fun q => .inr (.inl q), fun _ _ h _ => e.same _ _ h, fun _ h => e.same.free h, fun _ h => h, fun _ c h => ⟨c, h, KStep.refl c⟩⟩
theorem Stp.ext (x : Stp B F H σ ρ F' H' ρ') (e : Ext F' H' F2 H2) : Stp B F H σ ρ F2 H2 ρ' := x.trans (x.mt.ext e)

theorem set_get {α : Type} {l : List α} {i j : Nat} {x y : α} (h : (l.set i x)[j]? = some y) : (i = j ∧ x = y) ∨ (i ≠ j ∧ l[j]? = some y) := by
  rw [List.getElem?_set] at h
  by_cases e : i = j
  · rw [if_pos e] at h
    split at h
    · exact .inl ⟨e, Option.some.inj h⟩
    · cases h
  · rw [if_neg e] at h
    exact .inr ⟨e, h⟩
/-- an owned list or dict is frozen -/
theorem Mt.freeze (m : Mt B F H σ ρ) {i : Nat} {d : D} {a : Addr} {o : HO} (hs : σ[i]? = some (some (.ref a))) (hc : ρ[i]? = some (.ow d)) (ho : H a = some o) (sh : Shal F d o) (hn : F a = none) (h0 : B.H0 a = none) :
    Stp B F H σ ρ (upd F a o) H (ρ.set i (.fz d)) := by
  have sF : Same F (upd F a o) := same_upd hn
  have il : i < ρ.length := (List.getElem?_eq_some_iff.mp hc).1
  have own_a : Owns σ ρ a := ⟨i, _, hs, hc, rfl⟩
  refine ⟨⟨fun b u e => ?_, m.old.trans sF, fun b u e => ?_, m.frm, m.dom, by rw [List.length_set]; exact m.len, fun j v c h1 h2 => ?_, fun j k b c c' h1 h2 h3 h4 h5 h6 => ?_⟩, sF, fun b u e => ?_, fun b u e _ => e, fun _ e => e, fun b e => ?_, fun j c e => ?_⟩
  · by_cases hb : b = a
    · subst hb; rw [upd_same] at e; cases e; exact ho
    · rw [upd_ne hb] at e; exact m.sub _ _ e
  · by_cases hb : b = a
    · subst hb; exact .inr h0
    · rw [upd_ne hb] at e; exact m.new _ _ e
  · rcases set_get h2 with ⟨rfl, rfl⟩ | ⟨ne, h2⟩
    · rw [hs] at h1; cases h1
      exact ⟨_, rfl, (sh.mono sF).den upd_same⟩
    · have q := m.cell j v c h1 h2
      cases c with
      | no => trivial
      | fz d' => obtain ⟨u, x, y⟩ := q; exact ⟨u, x, y.mono sF⟩
      | ow d' =>
        obtain ⟨b, u, rfl, x2, x3, x4, x5⟩ := q
        refine ⟨b, u, rfl, x2, x3.mono sF, ?_, x5⟩
        rw [upd_ne (fun z => ne (m.apart i j a _ _ hs (by rw [h1, z]) hc h2 rfl rfl))]
        exact x4
      | bw d' =>
        obtain ⟨b, u, rfl, x2, x3, x4, x5⟩ := q
        refine ⟨b, u, rfl, x2, x3.mono sF, ?_, x5⟩
        rw [upd_ne (fun z => ne (m.apart i j a _ _ hs (by rw [h1, z]) hc h2 rfl rfl))]
        exact x4
  · rcases set_get h3 with ⟨rfl, rfl⟩ | ⟨ne, h3⟩
    · cases h5
    · rcases set_get h4 with ⟨rfl, rfl⟩ | ⟨ne, h4⟩
      · cases h6
      · exact m.apart j k b c c' h1 h2 h3 h4 h5 h6
  · by_cases hb : b = a
    · subst hb; exact .inr (.inr own_a)
    · rw [upd_ne hb] at e; exact .inl e
  · obtain ⟨j, c, x1, x2, x3⟩ := e
    rcases set_get x2 with ⟨rfl, rfl⟩ | ⟨ne, x2⟩
    · cases x3
    · exact ⟨j, c, x1, x2, x3⟩
  · by_cases hj : i = j
    · subst hj
      rw [hc] at e; cases e
      exact ⟨.fz d, by rw [List.getElem?_set]; simp [il], trivial⟩
    · exact ⟨c, by rw [List.getElem?_set]; simp [hj, e], KStep.refl c⟩
/-- the content of an owned list or dict changes -/
theorem Mt.write (m : Mt B F H σ ρ) {i : Nat} {c d : Cell} {a : Addr} {o : HO} {z : D} (hs : σ[i]? = some (some (.ref a))) (hc : ρ[i]? = some c) (hown : c.own = true) (sh : Shal F z o)
    (hd : (∃ y, c = .ow y ∧ d = .ow z) ∨ ∃ y, c = .bw y ∧ d = .bw z) :
    Stp B F H σ ρ F (upd H a o) (ρ.set i d) := by
  have il : i < ρ.length := (List.getElem?_eq_some_iff.mp hc).1
  have own_a : Owns σ ρ a := ⟨i, _, hs, hc, hown⟩
  obtain ⟨hn, oa, ha⟩ := m.hasOwn own_a
  have dn : d.own = true := by rcases hd with ⟨y, _, rfl⟩ | ⟨y, _, rfl⟩ <;> rfl
  have nb : ∀ b u, B.H0 b = some u → b ∉ B.bs → b ≠ a := fun b u e n q => by
    have w := m.cell i _ c hs hc
    subst q
    rcases hd with ⟨y, rfl, _⟩ | ⟨y, rfl, _⟩
    · obtain ⟨b', o', q1, _, _, _, q5⟩ := w; cases q1; rw [e] at q5; cases q5
    · obtain ⟨b', o', q1, _, _, _, q5⟩ := w; cases q1; exact n q5
  refine ⟨⟨fun b u e => ?_, m.old, m.new, fun b u e n => ?_, fun b e => ?_, by rw [List.length_set]; exact m.len, fun j v c' h1 h2 => ?_, fun j k b c1 c2 h1 h2 h3 h4 h5 h6 => ?_⟩, Same.refl _, fun _ _ e => .inl e, fun b u e n => ?_, fun b e => ?_, fun b e => ?_, fun j c' e => ?_⟩
  · rw [upd_ne (ne_of_none e hn)]; exact m.sub _ _ e
  · rw [upd_ne (nb b u e n)]; exact m.frm b u e n
  · by_cases hb : b = a
    · subst hb; rw [upd_same] at e; cases e
    · rw [upd_ne hb] at e; exact m.dom _ e
  · rcases set_get h2 with ⟨rfl, rfl⟩ | ⟨ne, h2⟩
    · rw [hs] at h1; cases h1
      have w := m.cell i _ c hs hc
      rcases hd with ⟨y, rfl, rfl⟩ | ⟨y, rfl, rfl⟩
      · obtain ⟨b', o', q1, _, _, q4, q5⟩ := w; cases q1; exact ⟨a, o, rfl, upd_same, sh, q4, q5⟩
      · obtain ⟨b', o', q1, _, _, q4, q5⟩ := w; cases q1; exact ⟨a, o, rfl, upd_same, sh, q4, q5⟩
    · have q := m.cell j v c' h1 h2
      cases c' with
      | no => trivial
      | fz d' => exact q
      | ow d' =>
        obtain ⟨b, u, rfl, x2, x3, x4, x5⟩ := q
        refine ⟨b, u, rfl, ?_, x3, x4, x5⟩
        rw [upd_ne (fun z => ne (m.apart i j a _ _ hs (by rw [h1, z]) hc h2 hown rfl))]
        exact x2
      | bw d' =>
        obtain ⟨b, u, rfl, x2, x3, x4, x5⟩ := q
        refine ⟨b, u, rfl, ?_, x3, x4, x5⟩
        rw [upd_ne (fun z => ne (m.apart i j a _ _ hs (by rw [h1, z]) hc h2 hown rfl))]
        exact x2
  · have g : ∀ (j : Nat) (e : Cell), (ρ.set i d)[j]? = some e → e.own = true → ∃ e', ρ[j]? = some e' ∧ e'.own = true := fun j e x y => by
      rcases set_get x with ⟨rfl, rfl⟩ | ⟨_, x⟩
      · exact ⟨c, hc, hown⟩
      · exact ⟨e, x, y⟩
    obtain ⟨e1, y1, z1⟩ := g j c1 h3 h5
    obtain ⟨e2, y2, z2⟩ := g k c2 h4 h6
    exact m.apart j k b e1 e2 h1 h2 y1 y2 z1 z2
  · rw [upd_ne (fun q => n (by rw [q]; exact own_a))]; exact e
  · by_cases hb : b = a
    · subst hb; rw [upd_same] at e; cases e
    · rw [upd_ne hb] at e; exact e
  · obtain ⟨j, c', x1, x2, x3⟩ := e
    rcases set_get x2 with ⟨rfl, rfl⟩ | ⟨ne, x2⟩
    · exact ⟨i, c, x1, hc, hown⟩
    · exact ⟨j, c', x1, x2, x3⟩
  · by_cases hj : i = j
    · subst hj
      rw [hc] at e; cases e
      refine ⟨d, by rw [List.getElem?_set]; simp [il], ?_⟩
      rcases hd with ⟨y, rfl, rfl⟩ | ⟨y, rfl, rfl⟩ <;> trivial
    · exact ⟨c', by rw [List.getElem?_set]; simp [hj, e], KStep.refl c'⟩
/-- a slot gets a frozen value -/
theorem Mt.put (m : Mt B F H σ ρ) {i : Nat} {v : V} {d : D} (h : Den F d v) : Mt B F H (σ.set i (some v)) (ρ.set i (.fz d)) := by
  refine ⟨m.sub, m.old, m.new, m.frm, m.dom, by rw [List.length_set, List.length_set]; exact m.len, fun j u c h1 h2 => ?_, fun j k b c1 c2 h1 h2 h3 h4 h5 h6 => ?_⟩
  · rcases set_get h2 with ⟨rfl, rfl⟩ | ⟨ne, h2⟩
    · rcases set_get h1 with ⟨_, rfl⟩ | ⟨ne, h1⟩
      · exact ⟨v, rfl, h⟩
      · exact absurd rfl ne
    · rcases set_get h1 with ⟨e, _⟩ | ⟨_, h1⟩
      · exact absurd e ne
      · exact m.cell j u c h1 h2
  · rcases set_get h3 with ⟨_, rfl⟩ | ⟨n3, h3⟩
    · cases h5
    · rcases set_get h4 with ⟨_, rfl⟩ | ⟨n4, h4⟩
      · cases h6
      · rcases set_get h1 with ⟨e, _⟩ | ⟨_, h1⟩
        · exact absurd e n3
        · rcases set_get h2 with ⟨e, _⟩ | ⟨_, h2⟩
          · exact absurd e n4
          · exact m.apart j k b c1 c2 h1 h2 h3 h4 h5 h6
/-- a slot gets a new list or dict of its own -/
theorem Mt.putOwn (m : Mt B F H σ ρ) {i : Nat} {a : Addr} {o : HO} {d : D} (ho : H a = some o) (sh : Shal F d o) (hn : F a = none) (h0 : B.H0 a = none) (na : ¬ Owns σ ρ a) : Mt B F H (σ.set i (some (.ref a))) (ρ.set i (.ow d)) := by
  have g : ∀ (j : Nat) (c : Cell) (b : Addr), (σ.set i (some (.ref a)))[j]? = some (some (.ref b)) → (ρ.set i (.ow d))[j]? = some c → c.own = true → (j = i ∧ b = a) ∨ (σ[j]? = some (some (.ref b)) ∧ ρ[j]? = some c ∧ b ≠ a) := fun j c b h1 h2 h3 => by
    rcases set_get h2 with ⟨rfl, rfl⟩ | ⟨ne, h2⟩
    · rcases set_get h1 with ⟨_, e⟩ | ⟨ne, h1⟩
      · cases e; exact .inl ⟨rfl, rfl⟩
      · exact absurd rfl ne
    · rcases set_get h1 with ⟨e, _⟩ | ⟨_, h1⟩
      · exact absurd e ne
      · exact .inr ⟨h1, h2, fun q => na ⟨j, c, by rw [h1, q], h2, h3⟩⟩
  refine ⟨m.sub, m.old, m.new, m.frm, m.dom, by rw [List.length_set, List.length_set]; exact m.len, fun j u c h1 h2 => ?_, fun j k b c1 c2 h1 h2 h3 h4 h5 h6 => ?_⟩
  · rcases set_get h2 with ⟨rfl, rfl⟩ | ⟨ne, h2⟩
    · rcases set_get h1 with ⟨_, rfl⟩ | ⟨ne, h1⟩
      · exact ⟨a, o, rfl, ho, sh, hn, h0⟩
      · exact absurd rfl ne
    · rcases set_get h1 with ⟨e, _⟩ | ⟨_, h1⟩
      · exact absurd e ne
      · exact m.cell j u c h1 h2
  · rcases g j c1 b h1 h3 h5 with ⟨e1, e2⟩ | ⟨y1, y2, y3⟩
    · rcases g k c2 b h2 h4 h6 with ⟨z1, z2⟩ | ⟨z1, z2, z3⟩
      · rw [e1, z1]
      · exact absurd e2 z3
    · rcases g k c2 b h2 h4 h6 with ⟨z1, z2⟩ | ⟨z1, z2, z3⟩
      · exact absurd z2 y3
      · exact m.apart j k b c1 c2 y1 z1 y2 z2 h5 h6
/-- slots are forgotten -/
theorem Mt.drop (m : Mt B F H σ ρ) {σ' : L2.St} {ρ' : Rho} (hl : ρ'.length = σ'.length) (h : ∀ (i : Nat) c, ρ'[i]? = some c → c = .no ∨ (ρ[i]? = some c ∧ σ'[i]? = σ[i]?)) : Mt B F H σ' ρ' := by
  refine ⟨m.sub, m.old, m.new, m.frm, m.dom, hl, fun j u c h1 h2 => ?_, fun j k b c1 c2 h1 h2 h3 h4 h5 h6 => ?_⟩
  · rcases h j c h2 with rfl | ⟨x, y⟩
    · trivial
    · rw [y] at h1; exact m.cell j u c h1 x
  · rcases h j c1 h3 with rfl | ⟨x, y⟩
    · cases h5
    · rcases h k c2 h4 with rfl | ⟨x', y'⟩
      · cases h6
      · rw [y] at h1; rw [y'] at h2
        exact m.apart j k b c1 c2 h1 h2 x x' h5 h6
end
end Rn
end

section
set_option Elab.async false
set_option linter.all false
set_option maxRecDepth 100000
/-! Core2: judgements over readings: what a piece of syntax computes on environments. -/
namespace Rn
open PySem PySem.Spec L2

def bnd {α β : Type} (x : M α) (k : α → M β) : M β := fun ρ => match x ρ with
  | .ok a r => k a r
  | .ex c r => .ex c r
  | .no => .no
def ret {α : Type} (a : α) : M α := fun ρ => .ok a ρ
def lft {α : Type} (o : Option α) : M α := fun ρ => match o with
  | some a => .ok a ρ
  | none => .no
def stuck {α : Type} : M α := fun _ => .no

/-! ### transient values -/
inductive TV where
  | d (x : D)
  | s (i : Nat)
def cellD : Option Cell → Option D
  | some (.fz d) => some d
  | some (.ow d) => some d
  | some (.bw d) => some d
  | _ => none
def deref (ρ : Rho) : TV → Option D
  | .d x => some x
  | .s i => cellD ρ[i]?
def NowD (F H : Hp) (v : V) (d : D) : Prop := Den F d v ∨ ∃ a o, v = .ref a ∧ H a = some o ∧ Shal F d o
def TvOk (σ : L2.St) (F H : Hp) (ρ : Rho) : TV → V → Prop
  | .d x, v => Den F x v
  | .s i, v => σ[i]? = some (some v) ∧ ∃ d, cellD ρ[i]? = some d

section
variable {B : Bd} {F H F' H' F2 H2 : Hp} {σ : L2.St} {ρ ρ' ρ2 : Rho}
theorem TvOk.step {t : TV} {v : V} (h : TvOk σ F H ρ t v) (x : Stp B F H σ ρ F' H' ρ') : TvOk σ F' H' ρ' t v := by
  cases t with
  | d y => exact Den.mono x.old h
  | s i =>
    obtain ⟨h1, d, h2⟩ := h
    refine ⟨h1, ?_⟩
    cases e : ρ[i]? with
    | none => rw [e] at h2; cases h2
    | some c =>
      obtain ⟨c', e', k⟩ := x.kind i c e
      rw [e] at h2
      rw [e']
      cases c <;> cases c' <;> first | exact k.elim | exact ⟨_, rfl⟩ | cases h2
theorem TvOk.now {t : TV} {v : V} {d : D} (m : Mt B F H σ ρ) (h : TvOk σ F H ρ t v) (e : deref ρ t = some d) : NowD F H v d := by
  cases t with
  | d y => cases e; exact .inl h
  | s i =>
    obtain ⟨h1, _⟩ := h
    have e' : cellD ρ[i]? = some d := e
    cases q : ρ[i]? with
    | none => rw [q] at e'; cases e'
    | some c =>
      have w := m.cell i _ c h1 q
      rw [q] at e'
      cases c with
      | no => cases e'
      | fz y => cases e'; obtain ⟨u, z, g⟩ := w; cases z; exact .inl g
      | ow y => cases e'; obtain ⟨a, o, z, g, sh, _⟩ := w; cases z; exact .inr ⟨a, o, rfl, g, sh⟩
      | bw y => cases e'; obtain ⟨a, o, z, g, sh, _⟩ := w; cases z; exact .inr ⟨a, o, rfl, g, sh⟩
end

/-! ### what follows -/
def Post {α β : Type} (B : Bd) (EX : Str → Hp → Prop) (F H : Hp) (σ : L2.St) (ρ : Rho) (VP : L2.St → Hp → Hp → Rho → α → β → Prop) (r : R α) (Q : β → Hp → Prop) : Prop := match r with
  | .ok a ρ' => ∀ (v : β) (F' H' : Hp), Stp B F H σ ρ F' H' ρ' → VP σ F' H' ρ' a v → Q v H'
  | .ex c ρ' => ∀ (F' H' : Hp), Stp B F H σ ρ F' H' ρ' → EX c H'
  | .no => False
theorem Post.from {α β : Type} {B : Bd} {EX : Str → Hp → Prop} {F H F' H' : Hp} {σ : L2.St} {ρ ρ' : Rho} {VP : L2.St → Hp → Hp → Rho → α → β → Prop} {r : R α} {Q : β → Hp → Prop} (h : Post B EX F H σ ρ VP r Q) (x : Stp B F H σ ρ F' H' ρ') :
    Post B EX F' H' σ ρ' VP r Q := by
  cases r with
  | ok a r => exact fun v F2 H2 y p => h v F2 H2 (x.trans y) p
  | ex c r => exact fun F2 H2 y => h F2 H2 (x.trans y)
  | no => exact h

abbrev Rd1 (β : Type) := L2.St → Hp → (β → Hp → Prop) → Prop
def Ev {α β : Type} (B : Bd) (EX : Str → Hp → Prop) (VP : L2.St → Hp → Hp → Rho → α → β → Prop) (t : Rd1 β) (f : M α) : Prop :=
  ∀ (F H : Hp) (σ : L2.St) (ρ : Rho) (Q : β → Hp → Prop), Mt B F H σ ρ → Post B EX F H σ ρ VP (f ρ) Q → t σ H Q

/-- values of an expression: frozen; transient; a truth value; lists of such -/
abbrev VD : L2.St → Hp → Hp → Rho → D → V → Prop := fun _ F _ _ d v => Den F d v
abbrev VT : L2.St → Hp → Hp → Rho → TV → V → Prop := fun σ F H ρ t v => TvOk σ F H ρ t v
abbrev VB : L2.St → Hp → Hp → Rho → Bool → Bool → Prop := fun _ _ _ _ b v => v = b
abbrev VL : L2.St → Hp → Hp → Rho → List D → List V → Prop := fun _ F _ _ d v => DenL F d v
def TvAll (σ : L2.St) (F H : Hp) (ρ : Rho) : List TV → List V → Prop
  | [], vs => vs = []
  | t :: ts, vs => ∃ v r, vs = v :: r ∧ TvOk σ F H ρ t v ∧ TvAll σ F H ρ ts r
abbrev VTs : L2.St → Hp → Hp → Rho → List TV → List V → Prop := fun σ F H ρ t v => TvAll σ F H ρ t v
theorem TvAll.step {B : Bd} {F H F' H' : Hp} {σ : L2.St} {ρ ρ' : Rho} (x : Stp B F H σ ρ F' H' ρ') : ∀ {ts : List TV} {vs : List V}, TvAll σ F H ρ ts vs → TvAll σ F' H' ρ' ts vs
  | [], _, h => h
  | _ :: _, _, ⟨v, r, e, h, l⟩ => ⟨v, r, e, h.step x, TvAll.step x l⟩

/-- one piece, then another that leans on its value -/
theorem Ev.bind {α β γ δ : Type} {B : Bd} {EX : Str → Hp → Prop} {VP : L2.St → Hp → Hp → Rho → α → β → Prop} {VQ : L2.St → Hp → Hp → Rho → γ → δ → Prop} {ta : Rd1 β} {tb : β → Rd1 δ} {fa : M α} {k : α → M γ} (ha : Ev B EX VP ta fa)
    (hb : ∀ (a : α) (x : β) (F H : Hp) (σ : L2.St) (ρ : Rho) (Q : δ → Hp → Prop), Mt B F H σ ρ → VP σ F H ρ a x → Post B EX F H σ ρ VQ (k a ρ) Q → tb x σ H Q) :
    Ev B EX VQ (fun σ H Q => ta σ H fun x H1 => tb x σ H1 Q) (bnd fa k) := by
  intro F H σ ρ Q m h
  refine ha F H σ ρ _ m ?_
  unfold bnd at h
  cases e : fa ρ with
  | ok a r => rw [e] at h; exact fun v F' H' x p => hb a v F' H' σ r Q x.mt p (h.from x)
  | ex c r => rw [e] at h; exact h
  | no => rw [e] at h; exact h
/-- at a state: one more value from values that are there -/
theorem Post.ext {α : Type} {B : Bd} {EX : Str → Hp → Prop} {F H : Hp} {σ : L2.St} {ρ : Rho} {d : D} {Q : VK} (m : Mt B F H σ ρ) (h : Post B EX F H σ ρ VD (.ok d ρ) Q) : ∀ v F' H', Ext F H F' H' → Den F' d v → Q v H' :=
  fun v F' H' e p => h v F' H' (m.ext e) p

/-! ### names, constants -/
def mVar (i : Nat) : M D := fun ρ => match ρ[i]? with
  | some (.fz d) => .ok d ρ
  | some (.ow d) => .ok d (ρ.set i (.fz d))
  | _ => .no
def mVarT (i : Nat) : M TV := fun ρ => match cellD ρ[i]? with
  | some _ => .ok (.s i) ρ
  | none => .no
def mT (f : M D) : M TV := bnd f fun d => ret (.d d)
section
variable {B : Bd} {EX : Str → Hp → Prop}
theorem ev_var {i : Nat} : Ev B EX VD (tVar i) (mVar i) := by
  intro F H σ ρ Q m h
  unfold mVar at h
  cases e : ρ[i]? with
  | none => rw [e] at h; exact h.elim
  | some c =>
    have hi : i < σ.length := by rw [← m.len]; exact (List.getElem?_eq_some_iff.mp e).1
    have hv := List.getElem?_eq_getElem hi
    rw [e] at h
    have w := m.cell i _ c hv e
    cases c with
    | no => exact h.elim
    | bw d => exact h.elim
    | fz d => obtain ⟨u, e1, e2⟩ := w; exact ⟨u, by rw [hv, e1], h u F H m.refl e2⟩
    | ow d =>
      obtain ⟨a, o, e1, e2, e3, e4, e5⟩ := w
      rw [e1] at hv
      exact ⟨.ref a, hv, h (.ref a) (upd F a o) H (m.freeze hv e e2 e3 e4 e5) ((e3.mono (same_upd e4)).den upd_same)⟩
theorem ev_varT {i : Nat} : Ev B EX VT (tVar i) (mVarT i) := by
  intro F H σ ρ Q m h
  unfold mVarT at h
  cases q : cellD ρ[i]? with
  | none => rw [q] at h; exact h.elim
  | some d =>
    rw [q] at h
    cases e : ρ[i]? with
    | none => rw [e] at q; cases q
    | some c =>
      have hi : i < σ.length := by rw [← m.len]; exact (List.getElem?_eq_some_iff.mp e).1
      have hv := List.getElem?_eq_getElem hi
      have w := m.cell i _ c hv e
      have g : ∃ u, σ[i]? = some (some u) := by
        cases c with
        | no => rw [e] at q; cases q
        | fz d => obtain ⟨u, e1, e2⟩ := w; exact ⟨u, by rw [hv, e1]⟩
        | ow d => obtain ⟨a, o, e1, _⟩ := w; exact ⟨.ref a, by rw [hv, e1]⟩
        | bw d => obtain ⟨a, o, e1, _⟩ := w; exact ⟨.ref a, by rw [hv, e1]⟩
      obtain ⟨u, hu⟩ := g
      exact ⟨u, hu, h u F H m.refl ⟨hu, d, q⟩⟩
theorem ev_T {t : TE} {f : M D} (h : Ev B EX VD t f) : Ev B EX VT t (mT f) := by
  refine Ev.bind (tb := fun x σ H Q => Q x H) h fun a x F H σ ρ Q m p q => ?_
  exact q x F H m.refl p
theorem ev_const {v : V} {d : D} (hd : ∀ F, Den F d v) : Ev B EX VD (tC v) (ret d) := fun F H σ ρ Q m h => h v F H m.refl (hd F)

/-! ### operators -/
def OpOk (r : R2) (f : D → D → Option D) : Prop := ∀ {F H : Hp} {v w : V} {d e z : D} {Q : VK}, Same F H → NowD F H v d → NowD F H w e → f d e = some z → (∀ v' F' H', Ext F H F' H' → Den F' z v' → Q v' H') → r v w H Q
def UnOk (r : V → Hp → VK → Prop) (f : D → Option D) : Prop := ∀ {F H : Hp} {v : V} {d z : D} {Q : VK}, Same F H → NowD F H v d → f d = some z → (∀ v' F' H', Ext F H F' H' → Den F' z v' → Q v' H') → r v H Q
def mOp (f : D → D → Option D) (a b : M TV) : M D := bnd a fun x => bnd b fun y => fun ρ => match deref ρ x, deref ρ y with
  | some d, some e => lft (f d e) ρ
  | _, _ => .no
def mUn (f : D → Option D) (a : M TV) : M D := bnd a fun x => fun ρ => match deref ρ x with
  | some d => lft (f d) ρ
  | _ => .no
theorem ev_op {r : R2} {f : D → D → Option D} {ta tb : TE} {fa fb : M TV} (ho : OpOk r f) (ha : Ev B EX VT ta fa) (hb : Ev B EX VT tb fb) : Ev B EX VD (tOp r ta tb) (mOp f fa fb) := by
  refine Ev.bind (tb := fun x σ H Q => tb σ H fun y H2 => r x y H2 Q) ha fun a x F H σ ρ Q m p q => ?_
  refine hb F H σ ρ _ m ?_
  unfold bnd at q
  cases e : fb ρ with
  | ex c r => rw [e] at q; exact q
  | no => rw [e] at q; exact q
  | ok b ρ1 =>
    rw [e] at q
    intro y F1 H1 s1 py
    have m1 := s1.mt
    have px := p.step s1
    cases e1 : deref ρ1 a with
    | none => simp only [e1] at q; exact q.elim
    | some d =>
      cases e2 : deref ρ1 b with
      | none => simp only [e1, e2] at q; exact q.elim
      | some d2 =>
        simp only [e1, e2] at q
        unfold lft at q
        cases e3 : f d d2 with
        | none => rw [e3] at q; exact q.elim
        | some z =>
          rw [e3] at q
          exact ho m1.sub (px.now m1 e1) (TvOk.now m1 py e2) e3 fun v' F' H' x' dz => q v' F' H' (s1.ext x') dz
theorem ev_un {r : V → Hp → VK → Prop} {f : D → Option D} {ta : TE} {fa : M TV} (ho : UnOk r f) (ha : Ev B EX VT ta fa) : Ev B EX VD (tUn r ta) (mUn f fa) := by
  refine Ev.bind (tb := fun x σ H Q => r x H Q) ha fun a x F H σ ρ Q m p q => ?_
  cases e1 : deref ρ a with
  | none => simp only [e1] at q; exact q.elim
  | some d =>
    simp only [e1] at q
    unfold lft at q
    cases e3 : f d with
    | none => rw [e3] at q; exact q.elim
    | some z =>
      rw [e3] at q
      exact ho m.sub (p.now m e1) e3 fun v' F' H' x' dz => q v' F' H' (m.ext x') dz

/-! ### arguments -/
def mNil {α : Type} : M (List α) := ret []
def mCons {α : Type} (a : M α) (r : M (List α)) : M (List α) := bnd a fun x => bnd r fun xs => ret (x :: xs)
theorem ev_nil : Ev B EX VL tNil mNil := fun F H σ ρ Q m h => h [] F H m.refl rfl
theorem ev_cons {ta : TE} {tr : TA} {fa : M D} {fr : M (List D)} (ha : Ev B EX VD ta fa) (hr : Ev B EX VL tr fr) : Ev B EX VL (tCons ta tr) (mCons fa fr) := by
  refine Ev.bind (tb := fun x σ H Q => tr σ H fun xs H2 => Q (x :: xs) H2) ha fun a x F H σ ρ Q m p q => ?_
  refine hr F H σ ρ _ m ?_
  unfold bnd at q
  cases e : fr ρ with
  | ex c r => rw [e] at q; exact q
  | no => rw [e] at q; exact q
  | ok b ρ1 =>
    rw [e] at q
    exact fun xs F1 H1 s1 pxs => q (x :: xs) F1 H1 s1 ⟨x, xs, rfl, Den.mono s1.old p, pxs⟩
theorem ev_nilT : Ev B EX VTs tNil mNil := fun F H σ ρ Q m h => h [] F H m.refl rfl
theorem ev_consT {ta : TE} {tr : TA} {fa : M TV} {fr : M (List TV)} (ha : Ev B EX VT ta fa) (hr : Ev B EX VTs tr fr) : Ev B EX VTs (tCons ta tr) (mCons fa fr) := by
  refine Ev.bind (tb := fun x σ H Q => tr σ H fun xs H2 => Q (x :: xs) H2) ha fun a x F H σ ρ Q m p q => ?_
  refine hr F H σ ρ _ m ?_
  unfold bnd at q
  cases e : fr ρ with
  | ex c r => rw [e] at q; exact q
  | no => rw [e] at q; exact q
  | ok b ρ1 =>
    rw [e] at q
    exact fun xs F1 H1 s1 pxs => q (x :: xs) F1 H1 s1 ⟨x, xs, rfl, p.step s1, pxs⟩
/-! ### calls of built-ins -/
def NowAll (F H : Hp) : List V → List D → Prop
  | vs, [] => vs = []
  | vs, d :: ds => ∃ v r, vs = v :: r ∧ NowD F H v d ∧ NowAll F H r ds
def derefs (ρ : Rho) : List TV → Option (List D)
  | [] => some []
  | t :: ts => match deref ρ t, derefs ρ ts with
    | some d, some ds => some (d :: ds)
    | _, _ => none
theorem TvAll.now {F H : Hp} {σ : L2.St} {ρ : Rho} (m : Mt B F H σ ρ) : ∀ {ts : List TV} {vs : List V} {ds : List D}, TvAll σ F H ρ ts vs → derefs ρ ts = some ds → NowAll F H vs ds
  | [], _, _, h, e => by cases e; exact h
  | t :: ts, _, ds, ⟨v, r, e, h, l⟩, q => by
    unfold derefs at q
    cases e1 : deref ρ t with
    | none => simp [e1] at q
    | some d =>
      cases e2 : derefs ρ ts with
      | none => simp [e1, e2] at q
      | some ds' =>
        simp [e1, e2] at q
        subst q
        exact ⟨v, r, e, h.now m e1, TvAll.now m l e2⟩
def CallOk (r : List V → Hp → VK → Prop) (f : List D → Option D) : Prop := ∀ {F H : Hp} {vs : List V} {ds : List D} {z : D} {Q : VK}, Same F H → NowAll F H vs ds → f ds = some z → (∀ v' F' H', Ext F H F' H' → Den F' z v' → Q v' H') → r vs H Q
def mCB (f : List D → Option D) (a : M (List TV)) : M D := bnd a fun xs => fun ρ => match derefs ρ xs with
  | some ds => lft (f ds) ρ
  | none => .no
theorem ev_cb {r : List V → Hp → VK → Prop} {f : List D → Option D} {ta : TA} {fa : M (List TV)} (ho : CallOk r f) (ha : Ev B EX VTs ta fa) : Ev B EX VD (tCB r ta) (mCB f fa) := by
  refine Ev.bind (tb := fun x σ H Q => r x H Q) ha fun a x F H σ ρ Q m p q => ?_
  cases e1 : derefs ρ a with
  | none => simp only [e1] at q; exact q.elim
  | some d =>
    simp only [e1] at q
    unfold lft at q
    cases e3 : f d with
    | none => rw [e3] at q; exact q.elim
    | some z =>
      rw [e3] at q
      exact ho m.sub (TvAll.now m p e1) e3 fun v' F' H' x' dz => q v' F' H' (m.ext x') dz
/-! ### displays -/
def mTup (a : M (List D)) : M D := bnd a fun ds => fun ρ => if ds.length ≤ 100 then .ok (.tuple ds) ρ else .no
theorem fewer {n : Nat} (h : n ≤ 100) : n ≤ sizeLine := Nat.le_trans h (by decide)
theorem ev_tup {ta : TA} {fa : M (List D)} (ha : Ev B EX VL ta fa) : Ev B EX VD (tTup ta) (mTup fa) := by
  refine Ev.bind (tb := fun xs σ H Q => xs.length ≤ sizeLine ∧ ∀ p, H p = none → Q (V.ref p) (upd H p (.tup xs))) ha fun a x F H σ ρ Q m p q => ?_
  by_cases hl : a.length ≤ 100
  · simp only [if_pos hl] at q
    refine ⟨by rw [← DenL.len p]; exact fewer hl, fun c hc => ?_⟩
    have e := Ext.laid m.sub hc (.tup x)
    exact q (.ref c) _ _ (m.ext e) ⟨c, x, rfl, upd_same, DenL.mono e.old p⟩
  · simp only [if_neg hl] at q; exact q.elim
/-! ### fresh lists -/
def VFr (H : Hp) (F' H' : Hp) (d : D) (v : V) : Prop := ∃ a o, v = .ref a ∧ H' a = some o ∧ Shal F' d o ∧ F' a = none ∧ H a = none
def EvF (B : Bd) (EX : Str → Hp → Prop) (t : TE) (f : M D) : Prop :=
  ∀ (F H : Hp) (σ : L2.St) (ρ : Rho) (Q : VK), Mt B F H σ ρ → Post B EX F H σ ρ (fun _ F' H' _ d v => VFr H F' H' d v) (f ρ) Q → t σ H Q
theorem Mt.freeze0 {F H : Hp} {σ : L2.St} {ρ : Rho} (m : Mt B F H σ ρ) {a : Addr} {o : HO} (ho : H a = some o) (hn : F a = none) (h0 : B.H0 a = none) (na : ¬ Owns σ ρ a) : Mt B (upd F a o) H σ ρ := by
  have sF : Same F (upd F a o) := same_upd hn
  refine ⟨fun b u e => ?_, m.old.trans sF, fun b u e => ?_, m.frm, m.dom, m.len, fun j v c h1 h2 => ?_, m.apart⟩
  · by_cases hb : b = a
    · subst hb; rw [upd_same] at e; cases e; exact ho
    · rw [upd_ne hb] at e; exact m.sub _ _ e
  · by_cases hb : b = a
    · subst hb; exact .inr h0
    · rw [upd_ne hb] at e; exact m.new _ _ e
  · have q := m.cell j v c h1 h2
    cases c with
    | no => trivial
    | fz d' => obtain ⟨u, x, y⟩ := q; exact ⟨u, x, y.mono sF⟩
    | ow d' =>
      obtain ⟨b, u, rfl, x2, x3, x4, x5⟩ := q
      refine ⟨b, u, rfl, x2, x3.mono sF, ?_, x5⟩
      rw [upd_ne (fun z => na ⟨j, _, by rw [h1, z], h2, rfl⟩)]
      exact x4
    | bw d' =>
      obtain ⟨b, u, rfl, x2, x3, x4, x5⟩ := q
      refine ⟨b, u, rfl, x2, x3.mono sF, ?_, x5⟩
      rw [upd_ne (fun z => na ⟨j, _, by rw [h1, z], h2, rfl⟩)]
      exact x4
theorem Stp.freeze0 {F H F' H' : Hp} {σ : L2.St} {ρ ρ' : Rho} (m : Mt B F H σ ρ) (x : Stp B F H σ ρ F' H' ρ') {a : Addr} {o : HO} (ho : H' a = some o) (hn : F' a = none) (h0 : H a = none) : Stp B F H σ ρ (upd F' a o) H' ρ' := by
  have na : ¬ Owns σ ρ' a := fun q => m.noOwn h0 (x.own _ q)
  refine ⟨x.mt.freeze0 ho hn (m.dom _ h0) na, x.old.trans (same_upd hn), fun b u e => ?_, x.frm, x.dom, x.own, x.kind⟩
  by_cases hb : b = a
  · subst hb; exact .inr (.inl h0)
  · rw [upd_ne hb] at e; exact x.new _ _ e
/-- a fresh list as a frozen value -/
theorem ev_ofF {t : TE} {f : M D} (h : EvF B EX t f) : Ev B EX VD t f := by
  intro F H σ ρ Q m p
  refine h F H σ ρ Q m ?_
  cases e : f ρ with
  | no => rw [e] at p; exact p
  | ex c r => rw [e] at p; exact p
  | ok d r =>
    rw [e] at p
    rintro v F' H' x ⟨a, o, rfl, h1, h2, h3, h4⟩
    exact p (.ref a) (upd F' a o) H' (Stp.freeze0 m x h1 h3 h4) ((h2.mono (same_upd h3)).den upd_same)
def mLst (a : M (List D)) : M D := bnd a fun ds => fun ρ => if ds.length ≤ 100 then .ok (.list ds) ρ else .no
theorem evf_bind {α β : Type} {VP : L2.St → Hp → Hp → Rho → α → β → Prop} {ta : Rd1 β} {tb : β → TE} {fa : M α} {k : α → M D} (ha : Ev B EX VP ta fa)
    (hb : ∀ (a : α) (x : β) (F H : Hp) (σ : L2.St) (ρ : Rho) (Q : VK), Mt B F H σ ρ → VP σ F H ρ a x → Post B EX F H σ ρ (fun _ F' H' _ d v => VFr H F' H' d v) (k a ρ) Q → tb x σ H Q) :
    EvF B EX (fun σ H Q => ta σ H fun x H1 => tb x σ H1 Q) (bnd fa k) := by
  intro F H σ ρ Q m h
  refine ha F H σ ρ _ m ?_
  unfold bnd at h
  cases e : fa ρ with
  | ok a r =>
    rw [e] at h
    intro v F' H' x p
    refine hb a v F' H' σ r Q x.mt p ?_
    have h' : Post B EX F H σ ρ (fun _ F' H' _ d v => VFr H F' H' d v) (k a r) Q := h
    cases e2 : k a r with
    | no => rw [e2] at h'; exact h'
    | ex c r' => rw [e2] at h'; exact fun F2 H2 y => h' F2 H2 (x.trans y)
    | ok d r' =>
      rw [e2] at h'
      rintro u F2 H2 y ⟨b, o, h1, h2, h3, h4, h5⟩
      exact h' u F2 H2 (x.trans y) ⟨b, o, h1, h2, h3, h4, x.dom _ h5⟩
  | ex c r => rw [e] at h; exact h
  | no => rw [e] at h; exact h
theorem evf_lst {ta : TA} {fa : M (List D)} (ha : Ev B EX VL ta fa) : EvF B EX (tLst ta) (mLst fa) := by
  refine evf_bind (tb := fun xs σ H Q => xs.length ≤ sizeLine ∧ ∀ p, H p = none → Q (V.ref p) (upd H p (.lst xs))) ha fun a x F H σ ρ Q m p q => ?_
  by_cases hl : a.length ≤ 100
  · simp only [if_pos hl] at q
    refine ⟨by rw [← DenL.len p]; exact fewer hl, fun c hc => ?_⟩
    exact q (.ref c) F _ (m.ext (Ext.loose m.sub hc (.lst x))) ⟨c, _, rfl, upd_same, p, m.sub.free hc, hc⟩
  · simp only [if_neg hl] at q; exact q.elim
/-- operations that make a fresh list -/
def OpOkF (r : R2) (f : D → D → Option D) : Prop := ∀ {F H : Hp} {v w : V} {d e z : D} {Q : VK}, Same F H → NowD F H v d → NowD F H w e → f d e = some z → (∀ p o, H p = none → Shal F z o → Q (.ref p) (upd H p o)) → r v w H Q
theorem evf_op {r : R2} {f : D → D → Option D} {ta tb : TE} {fa fb : M TV} (ho : OpOkF r f) (ha : Ev B EX VT ta fa) (hb : Ev B EX VT tb fb) : EvF B EX (tOp r ta tb) (mOp f fa fb) := by
  refine evf_bind (tb := fun x σ H Q => tb σ H fun y H2 => r x y H2 Q) ha fun a x F H σ ρ Q m p q => ?_
  refine hb F H σ ρ _ m ?_
  unfold bnd at q
  cases e : fb ρ with
  | ex c r => rw [e] at q; exact q
  | no => rw [e] at q; exact q
  | ok b ρ1 =>
    rw [e] at q
    intro y F1 H1 s1 py
    have m1 := s1.mt
    have px := p.step s1
    cases e1 : deref ρ1 a with
    | none => simp only [e1] at q; exact q.elim
    | some d =>
      cases e2 : deref ρ1 b with
      | none => simp only [e1, e2] at q; exact q.elim
      | some d2 =>
        simp only [e1, e2] at q
        unfold lft at q
        cases e3 : f d d2 with
        | none => rw [e3] at q; exact q.elim
        | some z =>
          rw [e3] at q
          refine ho m1.sub (px.now m1 e1) (TvOk.now m1 py e2) e3 fun c o hc sh => ?_
          exact q (.ref c) F1 _ (s1.ext (Ext.loose m1.sub hc o)) ⟨c, o, rfl, upd_same, sh, m1.sub.free hc, s1.dom _ hc⟩
def CallOkF (r : List V → Hp → VK → Prop) (f : List D → Option D) : Prop := ∀ {F H : Hp} {vs : List V} {ds : List D} {z : D} {Q : VK}, Same F H → NowAll F H vs ds → f ds = some z → (∀ p o, H p = none → Shal F z o → Q (.ref p) (upd H p o)) → r vs H Q
theorem evf_cb {r : List V → Hp → VK → Prop} {f : List D → Option D} {ta : TA} {fa : M (List TV)} (ho : CallOkF r f) (ha : Ev B EX VTs ta fa) : EvF B EX (tCB r ta) (mCB f fa) := by
  refine evf_bind (tb := fun x σ H Q => r x H Q) ha fun a x F H σ ρ Q m p q => ?_
  cases e1 : derefs ρ a with
  | none => simp only [e1] at q; exact q.elim
  | some d =>
    simp only [e1] at q
    unfold lft at q
    cases e3 : f d with
    | none => rw [e3] at q; exact q.elim
    | some z =>
      rw [e3] at q
      refine ho m.sub (TvAll.now m p e1) e3 fun c o hc sh => ?_
      exact q (.ref c) F _ (m.ext (Ext.loose m.sub hc o)) ⟨c, o, rfl, upd_same, sh, m.sub.free hc, hc⟩
/-! ### tests -/
def asBool : D → Option Bool
  | .bool b => some b
  | _ => none
def mTst (f : M D) : M Bool := bnd f fun d => lft (asBool d)
theorem asBool_eq {d : D} {b : Bool} (h : asBool d = some b) : d = .bool b := by
  cases d <;> simp [asBool] at h
  rw [h]
theorem ev_tst {t : TE} {f : M D} (h : Ev B EX VD t f) : Ev B EX VB (tTest t) (mTst f) := by
  refine Ev.bind (tb := fun x σ H Q => ∃ k, x = .bl k ∧ Q k H) h fun a x F H σ ρ Q m p q => ?_
  unfold lft at q
  cases e : asBool a with
  | none => rw [e] at q; exact q.elim
  | some b =>
    rw [e] at q
    have e2 := asBool_eq e
    subst e2
    exact ⟨b, p, q b F H m.refl rfl⟩
def mAnd (a b : M Bool) : M Bool := bnd a fun x => if x = true then b else ret false
def mOr (a b : M Bool) : M Bool := bnd a fun x => if x = true then ret true else b
def mNot (a : M Bool) : M Bool := bnd a fun x => ret (!x)
theorem ev_and {t u : TT} {f g : M Bool} (h : Ev B EX VB t f) (h2 : Ev B EX VB u g) : Ev B EX VB (tAnd t u) (mAnd f g) := by
  refine Ev.bind (tb := fun c σ H Q => if c = true then u σ H Q else Q false H) h fun a x F H σ ρ Q m p q => ?_
  cases p
  cases a with
  | true => exact h2 F H σ ρ Q m q
  | false => exact q false F H m.refl rfl
theorem ev_or {t u : TT} {f g : M Bool} (h : Ev B EX VB t f) (h2 : Ev B EX VB u g) : Ev B EX VB (tOr t u) (mOr f g) := by
  refine Ev.bind (tb := fun c σ H Q => if c = true then Q true H else u σ H Q) h fun a x F H σ ρ Q m p q => ?_
  cases p
  cases a with
  | false => exact h2 F H σ ρ Q m q
  | true => exact q true F H m.refl rfl
theorem ev_not {t : TT} {f : M Bool} (h : Ev B EX VB t f) : Ev B EX VB (tNot t) (mNot f) := by
  refine Ev.bind (tb := fun c σ H Q => Q (!c) H) h fun a x F H σ ρ Q m p q => ?_
  cases p
  exact q (!a) F H m.refl rfl
/-- and, or, not as values -/
def mAndV (a b : M D) : M D := bnd a fun x => match asBool x with
  | some true => b
  | some false => ret (.bool false)
  | none => stuck
def mOrV (a b : M D) : M D := bnd a fun x => match asBool x with
  | some true => ret (.bool true)
  | some false => b
  | none => stuck
def mNotV (a : M D) : M D := bnd a fun x => match asBool x with
  | some b => ret (.bool (!b))
  | none => stuck
theorem ev_andV {t u : TE} {f g : M D} (h : Ev B EX VD t f) (h2 : Ev B EX VD u g) : Ev B EX VD (tAndV t u) (mAndV f g) := by
  refine Ev.bind (tb := fun x σ H Q => ∃ c, x = .bl c ∧ if c = true then u σ H Q else Q (.bl false) H) h fun a x F H σ ρ Q m p q => ?_
  cases e : asBool a with
  | none => simp only [e] at q; exact q.elim
  | some b =>
    simp only [e] at q
    have e2 := asBool_eq e
    subst e2
    cases b with
    | true => exact ⟨true, p, h2 F H σ ρ Q m q⟩
    | false => exact ⟨false, p, q (.bl false) F H m.refl rfl⟩
theorem ev_orV {t u : TE} {f g : M D} (h : Ev B EX VD t f) (h2 : Ev B EX VD u g) : Ev B EX VD (tOrV t u) (mOrV f g) := by
  refine Ev.bind (tb := fun x σ H Q => ∃ c, x = .bl c ∧ if c = true then Q (.bl true) H else u σ H Q) h fun a x F H σ ρ Q m p q => ?_
  cases e : asBool a with
  | none => simp only [e] at q; exact q.elim
  | some b =>
    simp only [e] at q
    have e2 := asBool_eq e
    subst e2
    cases b with
    | false => exact ⟨false, p, h2 F H σ ρ Q m q⟩
    | true => exact ⟨true, p, q (.bl true) F H m.refl rfl⟩
theorem ev_notV {t : TE} {f : M D} (h : Ev B EX VD t f) : Ev B EX VD (tNotV t) (mNotV f) := by
  refine Ev.bind (tb := fun x σ H Q => ∃ c, x = V.bl c ∧ Q (V.bl (!c)) H) h fun a x F H σ ρ Q m p q => ?_
  cases e : asBool a with
  | none => simp only [e] at q; exact q.elim
  | some b =>
    simp only [e] at q
    have e2 := asBool_eq e
    subst e2
    exact ⟨b, p, q (.bl (!b)) F H m.refl rfl⟩
def mIf {α : Type} (c : M Bool) (a b : M α) : M α := bnd c fun x => if x = true then a else b
theorem ev_if {c : TT} {ta tb : TE} {fc : M Bool} {fa fb : M D} (hc : Ev B EX VB c fc) (ha : Ev B EX VD ta fa) (hb : Ev B EX VD tb fb) : Ev B EX VD (tIf c ta tb) (mIf fc fa fb) := by
  refine Ev.bind (tb := fun c σ H Q => if c = true then ta σ H Q else tb σ H Q) hc fun a x F H σ ρ Q m p q => ?_
  cases p
  cases a with
  | true => exact ha F H σ ρ Q m q
  | false => exact hb F H σ ρ Q m q
/-- a op b op c -/
def mChain (f g : D → D → Option D) (a b c : M TV) : M D := bnd a fun x => bnd b fun y => fun ρ => match deref ρ x, deref ρ y with
  | some d, some e => (match (f d e).bind asBool with
    | some true => bnd c (fun z => fun ρ => match deref ρ y, deref ρ z with
      | some e, some k => lft (g e k) ρ
      | _, _ => .no) ρ
    | some false => .ok (.bool false) ρ
    | none => .no)
  | _, _ => .no
theorem ev_chain {r r' : R2} {f g : D → D → Option D} {ta tb tc : TE} {fa fb fc : M TV} (ho : OpOk r f) (ho' : OpOk r' g) (ha : Ev B EX VT ta fa) (hb : Ev B EX VT tb fb) (hc : Ev B EX VT tc fc) : Ev B EX VD (tChain r r' ta tb tc) (mChain f g fa fb fc) := by
  refine Ev.bind (tb := fun x σ H Q => tb σ H fun y H2 => r x y H2 fun z H3 => ∃ k, z = .bl k ∧ (if k = true then tc σ H3 fun w' H4 => r' y w' H4 Q else Q (.bl false) H3)) ha fun a x F H σ ρ Q m p q => ?_
  refine hb F H σ ρ _ m ?_
  unfold bnd at q
  cases e : fb ρ with
  | ex c r => rw [e] at q; exact q
  | no => rw [e] at q; exact q
  | ok b ρ1 =>
    rw [e] at q
    intro y F1 H1 s1 py
    have m1 := s1.mt
    have px := p.step s1
    cases e1 : deref ρ1 a with
    | none => simp only [e1] at q; exact q.elim
    | some d =>
      cases e2 : deref ρ1 b with
      | none => simp only [e1, e2] at q; exact q.elim
      | some d2 =>
        simp only [e1, e2] at q
        cases e3 : f d d2 with
        | none => rw [e3] at q; exact q.elim
        | some z =>
          rw [e3] at q
          cases e4 : asBool z with
          | none => simp only [Option.bind, e4] at q; exact q.elim
          | some k =>
            simp only [Option.bind, e4] at q
            have e5 := asBool_eq e4
            subst e5
            refine ho m1.sub (px.now m1 e1) (TvOk.now m1 py e2) e3 fun v' F2 H2 x2 dz => ⟨k, dz, ?_⟩
            have s2 := m1.ext x2
            cases k with
            | false => exact q (.bl false) F2 H2 (s1.trans s2) rfl
            | true =>
              refine hc F2 H2 σ ρ1 _ s2.mt ?_
              have q2 : Post B EX F2 H2 σ ρ1 VD (bnd fc (fun z => fun ρ => match deref ρ b, deref ρ z with
                | some e, some k => lft (g e k) ρ
                | _, _ => .no) ρ1) Q := Post.from q (s1.trans s2)
              unfold bnd at q2
              cases e6 : fc ρ1 with
              | ex c r => rw [e6] at q2; exact q2
              | no => rw [e6] at q2; exact q2
              | ok c ρ3 =>
                rw [e6] at q2
                intro w F3 H3 s3 pw
                have py3 := (TvOk.step py s2).step s3
                cases e7 : deref ρ3 b with
                | none => simp only [e7] at q2; exact q2.elim
                | some d7 =>
                  cases e8 : deref ρ3 c with
                  | none => simp only [e7, e8] at q2; exact q2.elim
                  | some d8 =>
                    simp only [e7, e8] at q2
                    unfold lft at q2
                    cases e9 : g d7 d8 with
                    | none => rw [e9] at q2; exact q2.elim
                    | some z9 =>
                      rw [e9] at q2
                      exact ho' s3.mt.sub (py3.now s3.mt e7) (TvOk.now s3.mt pw e8) e9 fun v' F' H' x' dz => q2 v' F' H' (s3.ext x') dz
end
end Rn
end

section
set_option Elab.async false
set_option linter.all false
set_option maxRecDepth 100000
/-! Core3: operations on data, and that the readings of the layer's rules give them. -/
namespace Rn
open PySem PySem.Spec L2

/-! ### now -/
section
variable {F H : Hp} {v : V}
theorem NowD.none (h : NowD F H v .none) : v = .non := by
  rcases h with h | ⟨a, o, _, _, h⟩
  · exact h
  · cases o <;> exact h.elim
theorem NowD.bool {b : Bool} (h : NowD F H v (.bool b)) : v = .bl b := by
  rcases h with h | ⟨a, o, _, _, h⟩
  · exact h
  · cases o <;> exact h.elim
theorem NowD.int {b : Int} (h : NowD F H v (.int b)) : v = .int b := by
  rcases h with h | ⟨a, o, _, _, h⟩
  · exact h
  · cases o <;> exact h.elim
theorem NowD.str {b : Str} (h : NowD F H v (.str b)) : v = .str b := by
  rcases h with h | ⟨a, o, _, _, h⟩
  · exact h
  · cases o <;> exact h.elim
theorem NowD.lst {ds : List D} (s : Same F H) (h : NowD F H v (.list ds)) : ∃ a vs, v = .ref a ∧ H a = some (.lst vs) ∧ DenL F ds vs := by
  rcases h with ⟨a, vs, e, h, l⟩ | ⟨a, o, e, h, l⟩
  · exact ⟨a, vs, e, s _ _ h, l⟩
  · obtain ⟨vs, rfl, q⟩ := l.lst
    exact ⟨a, vs, e, h, q⟩
theorem NowD.tup {ds : List D} (s : Same F H) (h : NowD F H v (.tuple ds)) : ∃ a vs, v = .ref a ∧ F a = some (.tup vs) ∧ H a = some (.tup vs) ∧ DenL F ds vs := by
  rcases h with ⟨a, vs, e, h, l⟩ | ⟨a, o, e, h, l⟩
  · exact ⟨a, vs, e, h, s _ _ h, l⟩
  · cases o <;> exact l.elim
theorem NowD.dic {ds : List (D × D)} (s : Same F H) (h : NowD F H v (.dict ds)) : ∃ a vs, v = .ref a ∧ H a = some (.dK vs) ∧ DenK F ds vs := by
  rcases h with ⟨a, vs, e, h, l⟩ | ⟨a, o, e, h, l⟩
  · exact ⟨a, vs, e, s _ _ h, l⟩
  · obtain ⟨vs, rfl, q⟩ := l.dic
    exact ⟨a, vs, e, h, q⟩
end
mutual
theorem Den.dp {K : PySem.W.Frag} {F H : Hp} (s : Same F H) : ∀ {d : D} {v : V}, d.plain = true → Den F d v → Dp K H v d
  | .none, _, _, h => by cases h; exact .non
  | .bool _, _, _, h => by cases h; exact .bl _
  | .int _, _, _, h => by cases h; exact .int _
  | .str _, _, _, h => by cases h; exact .str _
  | .list ds, _, p, ⟨a, vs, e, h, l⟩ => by subst e; exact .lst (SqL.of (s _ _ h)) (DenL.dp s p l)
  | .tuple ds, _, p, ⟨a, vs, e, h, l⟩ => by subst e; exact .tup (SqT.of (s _ _ h)) (DenL.dp s p l)
  | .dict kds, _, p, _ => by cases p
theorem DenL.dp {K : PySem.W.Frag} {F H : Hp} (s : Same F H) : ∀ {ds : List D} {vs : List V}, PyData.plainAll ds = true → DenL F ds vs → DpAll K H vs ds
  | [], _, _, h => by cases h; exact .nil
  | _ :: _, _, p, ⟨v, r, e, h, l⟩ => by
    subst e
    have p' := Bool.and_eq_true_iff.mp p
    exact .cons (Den.dp s p'.1 h) (DenL.dp s p'.2 l)
end
theorem NowD.dp {K : PySem.W.Frag} {F H : Hp} (s : Same F H) {d : D} {v : V} (p : d.plain = true) (h : NowD F H v d) : Dp K H v d := by
  rcases h with h | ⟨a, o, rfl, e, sh⟩
  · exact h.dp s p
  · rcases sh.cases with ⟨ds, vs, rfl, rfl, l⟩ | ⟨ds, vs, rfl, rfl, l⟩
    · exact .lst (SqL.of e) (DenL.dp s p l)
    · cases p

/-! ### == and in, over data -/
def dOk (d e : D) : Bool := d.plain && e.plain && decide (min d.depth e.depth ≤ 64)
def rEqP (K : PySem.W.Frag) : R2 := fun x y H Q => ∃ d e, Dp K H x d ∧ Dp K H y e ∧ dOk d e = true ∧ Q (.bl (PyData.eqv d e)) H
def rNeP (K : PySem.W.Frag) : R2 := fun x y H Q => ∃ d e, Dp K H x d ∧ Dp K H y e ∧ dOk d e = true ∧ Q (.bl (!PyData.eqv d e)) H
theorem dOk_parts {d e : D} (h : dOk d e = true) : d.plain = true ∧ e.plain = true ∧ min d.depth e.depth ≤ 64 := by
  unfold dOk at h
  rw [Bool.and_eq_true, Bool.and_eq_true] at h
  exact ⟨h.1.1, h.1.2, of_decide_eq_true h.2⟩
section
variable {X : Cx}
theorem op_eqP (hu : X.A.units + 64 < cLine) : OpR X (compareOp .Eq) (rEqP X.K) := by
  intro pins s σ H x y v u Q I rx ry h
  obtain ⟨d, e, h1, h2, ok, q⟩ := h
  obtain ⟨p1, p2, p3⟩ := dOk_parts ok
  obtain ⟨as, r1⟩ := Dp.reads I d x v h1 rx
  obtain ⟨bs, r2⟩ := Dp.reads I e y u h2 ry
  exact PySem.SeqAt.eq_plain r1 r2 p1 p2 (by omega) ⟨.bl _, H, I, rfl, q⟩
theorem op_neP (hu : X.A.units + 64 < cLine) : OpR X (compareOp .NotEq) (rNeP X.K) := by
  intro pins s σ H x y v u Q I rx ry h
  obtain ⟨d, e, h1, h2, ok, q⟩ := h
  obtain ⟨p1, p2, p3⟩ := dOk_parts ok
  obtain ⟨as, r1⟩ := Dp.reads I d x v h1 rx
  obtain ⟨bs, r2⟩ := Dp.reads I e y u h2 ry
  exact PySem.SeqAt.ne_plain r1 r2 p1 p2 (by omega) ⟨.bl _, H, I, rfl, q⟩
def isSeqD (d : D) (ds : List D) : Prop := d = .list ds ∨ d = .tuple ds
def inOk (d : D) (ds : List D) : Bool := d.plain && PyData.plainAll ds && decide (min (PyData.depthAll ds) d.depth ≤ 63)
def rInP (K : PySem.W.Frag) (neg : Bool) : R2 := fun x y H Q => ∃ d e ds, Dp K H x d ∧ Dp K H y e ∧ isSeqD e ds ∧ inOk d ds = true ∧ Q (.bl (if neg then !(ds.any fun z => PyData.eqv z d) else ds.any fun z => PyData.eqv z d)) H
theorem op_inP (hu : X.A.units + 64 < cLine) : OpR X (compareOp .In) (rInP X.K false) := by
  intro pins s σ H x y v u Q I rx ry h
  obtain ⟨d, e, ds, h1, h2, h3, ok, q⟩ := h
  unfold inOk at ok
  rw [Bool.and_eq_true, Bool.and_eq_true] at ok
  obtain ⟨⟨p1, p2⟩, p3⟩ := ok
  have p3 := of_decide_eq_true p3
  obtain ⟨as, r1⟩ := Dp.reads I d x v h1 rx
  obtain ⟨bs, r2⟩ := Dp.reads I e y u h2 ry
  rcases h3 with rfl | rfl
  · exact PySem.SeqAt.in_list_data r2 r1 p2 p1 (by omega) ⟨.bl _, H, I, rfl, q⟩
  · exact PySem.SeqAt.in_tuple_data r2 r1 p2 p1 (by omega) ⟨.bl _, H, I, rfl, q⟩
theorem op_notInP (hu : X.A.units + 64 < cLine) : OpR X (compareOp .NotIn) (rInP X.K true) := by
  intro pins s σ H x y v u Q I rx ry h
  obtain ⟨d, e, ds, h1, h2, h3, ok, q⟩ := h
  unfold inOk at ok
  rw [Bool.and_eq_true, Bool.and_eq_true] at ok
  obtain ⟨⟨p1, p2⟩, p3⟩ := ok
  have p3 := of_decide_eq_true p3
  obtain ⟨as, r1⟩ := Dp.reads I d x v h1 rx
  obtain ⟨bs, r2⟩ := Dp.reads I e y u h2 ry
  rcases h3 with rfl | rfl
  · exact PySem.SeqAt.notIn_list_data r2 r1 p2 p1 (by omega) ⟨.bl _, H, I, rfl, q⟩
  · exact PySem.SeqAt.notIn_tuple_data r2 r1 p2 p1 (by omega) ⟨.bl _, H, I, rfl, q⟩
end
def eqF (d e : D) : Option D := if dOk d e = true then some (.bool (PyData.eqv d e)) else none
def neF (d e : D) : Option D := if dOk d e = true then some (.bool (!PyData.eqv d e)) else none
theorem ok_eq {K : PySem.W.Frag} : OpOk (rEqP K) eqF := by
  intro F H v w d e z Q s h1 h2 h3 q
  unfold eqF at h3
  split at h3
  · next ok =>
    cases h3
    obtain ⟨p1, p2, p3⟩ := dOk_parts ok
    exact ⟨d, e, h1.dp s p1, h2.dp s p2, ok, q _ F H (Ext.refl s) rfl⟩
  · cases h3
theorem ok_ne {K : PySem.W.Frag} : OpOk (rNeP K) neF := by
  intro F H v w d e z Q s h1 h2 h3 q
  unfold neF at h3
  split at h3
  · next ok =>
    cases h3
    obtain ⟨p1, p2, p3⟩ := dOk_parts ok
    exact ⟨d, e, h1.dp s p1, h2.dp s p2, ok, q _ F H (Ext.refl s) rfl⟩
  · cases h3
def seqD : D → Option (List D)
  | .list ds => some ds
  | .tuple ds => some ds
  | _ => none
theorem seqD_is {e : D} {ds : List D} (h : seqD e = some ds) : isSeqD e ds := by
  cases e <;> simp [seqD] at h
  · exact .inl (by rw [h])
  · exact .inr (by rw [h])
def inF (neg : Bool) (d e : D) : Option D := match seqD e with
  | some ds => if inOk d ds = true then some (.bool (if neg then !(ds.any fun z => PyData.eqv z d) else ds.any fun z => PyData.eqv z d)) else none
  | none => none
theorem ok_in {K : PySem.W.Frag} {neg : Bool} : OpOk (rInP K neg) (inF neg) := by
  intro F H v w d e z Q s h1 h2 h3 q
  unfold inF at h3
  cases e1 : seqD e with
  | none => simp only [e1] at h3; cases h3
  | some ds =>
    simp only [e1] at h3
    split at h3
    · next ok =>
      cases h3
      have ok' := ok
      unfold inOk at ok'
      rw [Bool.and_eq_true, Bool.and_eq_true] at ok'
      obtain ⟨⟨p1, p2⟩, p3⟩ := ok'
      have pe : e.plain = true := by
        rcases seqD_is e1 with rfl | rfl <;> exact p2
      exact ⟨d, e, ds, h1.dp s p1, h2.dp s pe, seqD_is e1, ok, q _ F H (Ext.refl s) rfl⟩
    · cases h3

/-! ### ints, texts, lists, tuples -/
def big : Nat := 1000000
theorem big_le {n : Nat} (h : n ≤ big) : n ≤ sizeLine := Nat.le_trans h (by decide)
def rAddA (K : PySem.W.Frag) : R2 := fun x y H Q => (((rI0 fun i j => .int (i + j)) x y H Q ∨ ∃ i j, x = .str i ∧ y = .str j ∧ i.length + j.length ≤ sizeLine ∧ Q (.str (i ++ j)) H) ∨ rCat x y H Q) ∨ rCatA K x y H Q
theorem op_addA {X : Cx} : OpR X (binaryOp .Add) (rAddA X.K) := ((op_add.or op_add_str).or op_cat).or op_catA
def addF : D → D → Option D
  | .int i, .int j => some (.int (i + j))
  | .str i, .str j => if i.length + j.length ≤ big then some (.str (i ++ j)) else none
  | .list i, .list j => if i.length + j.length ≤ big then some (.list (i ++ j)) else none
  | .tuple i, .tuple j => if i.length + j.length ≤ big then some (.tuple (i ++ j)) else none
  | _, _ => none
theorem nil_of_len {α : Type} {l : List α} (h : l.length = 0) : l = [] := List.length_eq_zero_iff.mp h
theorem ok_add {K : PySem.W.Frag} : OpOk (rAddA K) addF := by
  intro F H v w d e z Q s h1 h2 h3 q
  unfold addF at h3
  split at h3
  · cases h3
    exact .inl (.inl (.inl ⟨_, _, h1.int, h2.int, q _ F H (Ext.refl s) rfl⟩))
  · split at h3
    · next hl => cases h3; exact .inl (.inl (.inr ⟨_, _, h1.str, h2.str, big_le hl, q _ F H (Ext.refl s) rfl⟩))
    · cases h3
  · split at h3
    · next hl =>
      cases h3
      obtain ⟨a, vs, rfl, e1, l1⟩ := h1.lst s
      obtain ⟨b, ws, rfl, e2, l2⟩ := h2.lst s
      refine .inl (.inr ⟨a, b, vs, ws, rfl, rfl, e1, e2, big_le (by rw [← l1.len, ← l2.len]; exact hl), fun p hp => ?_⟩)
      have x := Ext.laid s hp (.lst (vs ++ ws))
      exact q _ _ _ x ⟨p, _, rfl, upd_same, DenL.mono x.old (l1.app l2)⟩
    · cases h3
  · split at h3
    · next hl =>
      cases h3
      obtain ⟨a, vs, rfl, f1, e1, l1⟩ := h1.tup s
      obtain ⟨b, ws, rfl, f2, e2, l2⟩ := h2.tup s
      refine .inr ⟨a, b, vs, ws, rfl, rfl, SqT.of e1, SqT.of e2, big_le (by rw [← l1.len, ← l2.len]; exact hl), fun h => ?_, fun _ h => ?_, fun _ _ p hp => ?_⟩
      · subst h
        have l1' := nil_of_len l1.len
        subst l1'
        exact q _ F H (Ext.refl s) ⟨b, ws, rfl, f2, l2⟩
      · subst h
        have l2' := nil_of_len l2.len
        subst l2'
        exact q _ F H (Ext.refl s) ⟨a, vs, rfl, f1, by rw [List.append_nil]; exact l1⟩
      · have x := Ext.laid s hp (.tup (vs ++ ws))
        exact q _ _ _ x ⟨p, _, rfl, upd_same, DenL.mono x.old (l1.app l2)⟩
    · cases h3
  · cases h3
def catF : D → D → Option D
  | .list i, .list j => if i.length + j.length ≤ big then some (.list (i ++ j)) else none
  | _, _ => none
theorem okF_cat : OpOkF rCat catF := by
  intro F H v w d e z Q s h1 h2 h3 q
  unfold catF at h3
  split at h3
  · split at h3
    · next hl =>
      cases h3
      obtain ⟨a, vs, rfl, e1, l1⟩ := h1.lst s
      obtain ⟨b, ws, rfl, e2, l2⟩ := h2.lst s
      exact ⟨a, b, vs, ws, rfl, rfl, e1, e2, big_le (by rw [← l1.len, ← l2.len]; exact hl), fun p hp => q p _ hp (l1.app l2)⟩
    · cases h3
  · cases h3
def subF : D → D → Option D
  | .int i, .int j => some (.int (i - j))
  | _, _ => none
theorem ok_sub : OpOk (rI0 fun i j => .int (i - j)) subF := by
  intro F H v w d e z Q s h1 h2 h3 q
  unfold subF at h3
  split at h3
  · cases h3; exact ⟨_, _, h1.int, h2.int, q _ F H (Ext.refl s) rfl⟩
  · cases h3
def cmpI (p : Int → Int → Bool) : D → D → Option D
  | .int i, .int j => some (.bool (p i j))
  | _, _ => none
theorem ok_cmpI {p : Int → Int → Bool} : OpOk (rI0 fun i j => .bl (p i j)) (cmpI p) := by
  intro F H v w d e z Q s h1 h2 h3 q
  unfold cmpI at h3
  split at h3
  · cases h3; exact ⟨_, _, h1.int, h2.int, q _ F H (Ext.refl s) rfl⟩
  · cases h3
abbrev ltF := cmpI fun i j => decide (i < j)
abbrev leF := cmpI fun i j => decide (i ≤ j)
abbrev gtF := cmpI fun i j => decide (j < i)
abbrev geF := cmpI fun i j => decide (j ≤ i)
def rMulA : R2 := fun x y H Q => ((rI CMul fun i j => .int (i * j)) x y H Q ∨ (rI CMulW fun i j => .int (i * j)) x y H Q) ∨ rRep x y H Q
theorem op_mulA {X : Cx} : OpR X (binaryOp .Mult) rMulA := (op_mul.or op_mulW).or op_rep
def isSmall (i : Int) : Bool := decide (-(2 ^ 64) < i) && decide (i < 2 ^ 64)
def mulF : D → D → Option D
  | .int i, .int j => if (isSmall i || isSmall j) = true then some (.int (i * j)) else if i.natAbs < 2 ^ 400 ∧ j.natAbs < 2 ^ 400 then some (.int (i * j)) else none
  | .list i, .int j => if i.length ≤ 1000 ∧ 0 ≤ j ∧ j ≤ 1000 then some (.list (List.replicate j.toNat i).flatten) else none
  | _, _ => none
theorem small_is {i : Int} (h : isSmall i = true) : -(2 ^ 64) < i ∧ i < 2 ^ 64 := by
  unfold isSmall at h
  rw [Bool.and_eq_true] at h
  exact ⟨of_decide_eq_true h.1, of_decide_eq_true h.2⟩
theorem ok_mul : OpOk rMulA mulF := by
  intro F H v w d e z Q s h1 h2 h3 q
  unfold mulF at h3
  split at h3
  · split at h3
    · next hs =>
      cases h3
      refine .inl (.inl ⟨_, _, h1.int, h2.int, ?_, q _ F H (Ext.refl s) rfl⟩)
      rcases Bool.or_eq_true_iff.mp hs with h | h
      · exact .inl (small_is h)
      · exact .inr (small_is h)
    · split at h3
      · next hb => cases h3; exact .inl (.inr ⟨_, _, h1.int, h2.int, wide_mul hb.1 hb.2 (by decide) (by decide) (by decide), q _ F H (Ext.refl s) rfl⟩)
      · cases h3
  · split at h3
    · next hb =>
      cases h3
      obtain ⟨a, vs, rfl, e1, l1⟩ := h1.lst s
      obtain ⟨b1, b2, b3⟩ := hb
      refine .inr ⟨a, _, vs, rfl, h2.int, e1, by omega, by omega, ?_, fun p hp => ?_⟩
      · rw [← l1.len]
        exact Nat.le_trans (Nat.mul_le_mul b1 (Int.toNat_le.mpr b3)) (by decide)
      · exact q _ _ _ (Ext.laid s hp _) ⟨p, _, rfl, upd_same, DenL.mono (same_upd (s.free hp)) (l1.rep _)⟩
    · cases h3
  · cases h3
def repF : D → D → Option D
  | .list i, .int j => if i.length ≤ 1000 ∧ 0 ≤ j ∧ j ≤ 1000 then some (.list (List.replicate j.toNat i).flatten) else none
  | _, _ => none
theorem okF_rep : OpOkF rRep repF := by
  intro F H v w d e z Q s h1 h2 h3 q
  unfold repF at h3
  split at h3
  · split at h3
    · next hb =>
      cases h3
      obtain ⟨a, vs, rfl, e1, l1⟩ := h1.lst s
      obtain ⟨b1, b2, b3⟩ := hb
      refine ⟨a, _, vs, rfl, h2.int, e1, by omega, by omega, ?_, fun p hp => q p _ hp (l1.rep _)⟩
      rw [← l1.len]
      exact Nat.le_trans (Nat.mul_le_mul b1 (Int.toNat_le.mpr b3)) (by decide)
    · cases h3
  · cases h3
def fdivF : D → D → Option D
  | .int i, .int j => if 0 < j ∧ j.natAbs < 2 ^ 400 then some (.int (i / j)) else none
  | _, _ => none
theorem ok_fdiv : OpOk (rI CDivW fun i j => .int (i / j)) fdivF := by
  intro F H v w d e z Q s h1 h2 h3 q
  unfold fdivF at h3
  split at h3
  · split at h3
    · next hb => cases h3; exact ⟨_, _, h1.int, h2.int, wide_div hb.1 hb.2 (by decide) (by decide), q _ F H (Ext.refl s) rfl⟩
    · cases h3
  · cases h3
def modF : D → D → Option D
  | .int i, .int j => if 0 < j then some (.int (i % j)) else none
  | _, _ => none
theorem ok_mod : OpOk (rI (fun _ j => 0 < j) fun i j => .int (i % j)) modF := by
  intro F H v w d e z Q s h1 h2 h3 q
  unfold modF at h3
  split at h3
  · split at h3
    · next hb => cases h3; exact ⟨_, _, h1.int, h2.int, hb, q _ F H (Ext.refl s) rfl⟩
    · cases h3
  · cases h3
def powF : D → D → Option D
  | .int i, .int j => if 0 ≤ j ∧ j ≤ 100 ∧ i.natAbs < 2 ^ 64 then some (.int (i ^ j.toNat)) else none
  | _, _ => none
theorem ok_pow : OpOk (rI CPow fun i j => .int (i ^ j.toNat)) powF := by
  intro F H v w d e z Q s h1 h2 h3 q
  unfold powF at h3
  split at h3
  · split at h3
    · next hb => cases h3; exact ⟨_, _, h1.int, h2.int, ⟨hb.1, by have := hb.2.1; omega, hb.2.2⟩, q _ F H (Ext.refl s) rfl⟩
    · cases h3
  · cases h3
def negF : D → Option D
  | .int i => some (.int (-i))
  | _ => none
theorem ok_neg : UnOk (rU fun i => .int (-i)) negF := by
  intro F H v d z Q s h1 h3 q
  unfold negF at h3
  split at h3
  · cases h3; exact ⟨_, h1.int, q _ F H (Ext.refl s) rfl⟩
  · cases h3
/-! ### is None -/
def isNoneD : D → Bool
  | .none => true
  | _ => false
def isF (neg : Bool) : D → D → Option D
  | d, .none => some (.bool (if neg then !isNoneD d else isNoneD d))
  | _, _ => none
theorem now_none {F H : Hp} {v : V} {d : D} (h : NowD F H v d) : decide (v = .non) = isNoneD d := by
  cases d with
  | none => rw [h.none]; rfl
  | bool b => rw [h.bool]; rfl
  | int b => rw [h.int]; rfl
  | str b => rw [h.str]; rfl
  | list ds => rcases h with ⟨a, vs, rfl, _⟩ | ⟨a, o, rfl, _⟩ <;> rfl
  | tuple ds => rcases h with ⟨a, vs, rfl, _⟩ | ⟨a, o, rfl, _⟩ <;> rfl
  | dict ds => rcases h with ⟨a, vs, rfl, _⟩ | ⟨a, o, rfl, _⟩ <;> rfl
theorem ok_is : OpOk (fun x y H Q => y = .non ∧ Q (.bl (decide (x = .non))) H) (isF false) := by
  intro F H v w d e z Q s h1 h2 h3 q
  unfold isF at h3
  split at h3
  · cases h3; exact ⟨h2.none, by rw [now_none h1]; exact q _ F H (Ext.refl s) rfl⟩
  · cases h3
theorem ok_isnot : OpOk (fun x y H Q => y = .non ∧ Q (.bl (!decide (x = .non))) H) (isF true) := by
  intro F H v w d e z Q s h1 h2 h3 q
  unfold isF at h3
  split at h3
  · cases h3; exact ⟨h2.none, by rw [now_none h1]; exact q _ F H (Ext.refl s) rfl⟩
  · cases h3
/-! ### subscripts -/
def ixF : D → D → Option D
  | .list ds, .int i => atI ds i
  | .tuple ds, .int i => atI ds i
  | .str z, .int i => if z.length ≤ big then (atI z.cps.toList i).map fun c => .str ⟨#[c]⟩ else none
  | _, _ => none
theorem atI_den {F : Hp} {ds : List D} {vs : List V} {i : Int} {d : D} (l : DenL F ds vs) (h : atI ds i = some d) : ∃ v, atI vs i = some v ∧ Den F d v := by
  unfold atI at h ⊢
  rw [← l.len]
  cases e : ixN ds.length i with
  | none => rw [e] at h; cases h
  | some j =>
    rw [e] at h
    obtain ⟨v, h1, h2⟩ := l.get (i := j) (d := d) h
    exact ⟨v, h1, h2⟩
theorem ok_ix {K : PySem.W.Frag} : OpOk (rIx K) ixF := by
  intro F H v w d e z Q s h1 h2 h3 q
  unfold ixF at h3
  split at h3
  · obtain ⟨a, vs, rfl, e1, l1⟩ := h1.lst s
    obtain ⟨u, g1, g2⟩ := atI_den l1 h3
    exact .inl ⟨a, vs, _, u, rfl, h2.int, SqL.of e1, g1, q _ F H (Ext.refl s) g2⟩
  · obtain ⟨a, vs, rfl, f1, e1, l1⟩ := h1.tup s
    obtain ⟨u, g1, g2⟩ := atI_den l1 h3
    exact .inr (.inl ⟨a, vs, _, u, rfl, h2.int, SqT.of e1, g1, q _ F H (Ext.refl s) g2⟩)
  · split at h3
    · next hl =>
      cases e4 : atI (Array.toList _) _ with
      | none => rw [e4] at h3; cases h3
      | some c => rw [e4] at h3; cases h3; exact .inr (.inr ⟨_, _, c, h1.str, h2.int, big_le hl, e4, q _ F H (Ext.refl s) rfl⟩)
    · cases h3
  · cases h3
/-! ### slices -/
def VO : L2.St → Hp → Hp → Rho → Option Int → Option Int → Prop := fun _ _ _ _ b v => v = b
section
variable {B : Bd} {EX : Str → Hp → Prop}
def asInt : D → Option Int
  | .int i => some i
  | _ => none
def mPart (f : M D) : M (Option Int) := bnd f fun d => lft ((asInt d).map some)
def mNoPart : M (Option Int) := ret none
theorem ev_nopart : Ev B EX VO tNoPart mNoPart := fun F H σ ρ Q m h => h none F H m.refl rfl
theorem ev_part {t : TE} {f : M D} (h : Ev B EX VD t f) : Ev B EX VO (tPart t) (mPart f) := by
  refine Ev.bind (tb := fun x σ H Q => ∃ i, x = V.int i ∧ Q (some i) H) h fun a x F H σ ρ Q m p q => ?_
  cases a <;> first | exact q.elim | skip
  rename_i i
  exact ⟨i, p, q (some i) F H m.refl rfl⟩
def SlOk (r : V → Option Int → Option Int → Hp → VK → Prop) (f : D → Option Int → Option Int → Option D) : Prop := ∀ {F H : Hp} {v : V} {d z : D} {lo hi : Option Int} {Q : VK}, Same F H → NowD F H v d → f d lo hi = some z → (∀ v' F' H', Ext F H F' H' → Den F' z v' → Q v' H') → r v lo hi H Q
def mSl (f : D → Option Int → Option Int → Option D) (a : M TV) (b c : M (Option Int)) : M D := bnd a fun x => bnd b fun y => bnd c fun z => fun ρ => match deref ρ x with
  | some d => lft (f d y z) ρ
  | none => .no
theorem ev_sl {r : V → Option Int → Option Int → Hp → VK → Prop} {f : D → Option Int → Option Int → Option D} {te : TE} {tl th : TO} {fa : M TV} {fb fc : M (Option Int)} (ho : SlOk r f) (ha : Ev B EX VT te fa) (hb : Ev B EX VO tl fb) (hc : Ev B EX VO th fc) :
    Ev B EX VD (tSl r te tl th) (mSl f fa fb fc) := by
  refine Ev.bind (tb := fun x σ H Q => tl σ H fun l H2 => th σ H2 fun u H3 => r x l u H3 Q) ha fun a x F H σ ρ Q m p q => ?_
  refine hb F H σ ρ _ m ?_
  unfold bnd at q
  cases e : fb ρ with
  | ex c r => rw [e] at q; exact q
  | no => rw [e] at q; exact q
  | ok b ρ1 =>
    rw [e] at q
    intro y F1 H1 s1 py
    cases py
    refine hc F1 H1 σ ρ1 _ s1.mt ?_
    have q := Post.from q s1
    cases e2 : fc ρ1 with
    | ex c r => simp only [e2] at q; exact q
    | no => simp only [e2] at q; exact q
    | ok c ρ2 =>
      simp only [e2] at q
      intro w F2 H2 s2 pw
      cases pw
      have px := (p.step s1).step s2
      cases e1 : deref ρ2 a with
      | none => simp only [e1] at q; exact q.elim
      | some d =>
        simp only [e1] at q
        unfold lft at q
        cases e3 : f d b c with
        | none => rw [e3] at q; exact q.elim
        | some z =>
          rw [e3] at q
          exact ho s2.mt.sub (px.now s2.mt e1) e3 fun v' F' H' x' dz => q v' F' H' (s2.ext x') dz
end
def cutD (xs : List D) (lo hi : Option Int) : List D := (xs.drop (HT.sIx xs.length 0 lo)).take (HT.sIx xs.length xs.length hi - HT.sIx xs.length 0 lo)
theorem cut_den {F : Hp} {ds : List D} {vs : List V} (l : DenL F ds vs) (lo hi : Option Int) : DenL F (cutD ds lo hi) (cutV vs lo hi) := by
  unfold cutD cutV
  rw [l.len]
  exact (l.drop _).take _
def rSlAll (K : PySem.W.Frag) : V → Option Int → Option Int → Hp → VK → Prop := fun x lo hi H Q => (rSlL K x lo hi H Q ∨ rSlA K x lo hi H Q) ∨ (∃ z, x = .str z ∧ z.length ≤ sizeLine ∧ Q (.str (cutS z lo hi)) H)
def slF : D → Option Int → Option Int → Option D
  | .list ds, lo, hi => some (.list (cutD ds lo hi))
  | .tuple ds, lo, hi => some (.tuple (cutD ds lo hi))
  | .str z, lo, hi => if z.length ≤ big then some (.str (cutS z lo hi)) else none
  | _, _, _ => none
theorem whole_cut {α : Type} {xs : List α} {i j : Nat} (h1 : i = 0) (h2 : j = xs.length) : (xs.drop i).take (j - i) = xs := by
  subst h1; subst h2; simp
theorem ok_sl {K : PySem.W.Frag} : SlOk (rSlAll K) slF := by
  intro F H v d z lo hi Q s h1 h3 q
  unfold slF at h3
  split at h3
  · cases h3
    obtain ⟨a, vs, rfl, e1, l1⟩ := h1.lst s
    refine .inl (.inl ⟨a, vs, rfl, SqL.of e1, fun p hp => ?_⟩)
    exact q _ _ _ (Ext.laid s hp _) ⟨p, _, rfl, upd_same, DenL.mono (same_upd (s.free hp)) (cut_den l1 _ _)⟩
  · cases h3
    obtain ⟨a, vs, rfl, f1, e1, l1⟩ := h1.tup s
    refine .inl (.inr ⟨a, vs, rfl, SqT.of e1, fun hw => ?_, fun hw p hp => ?_⟩)
    · refine q _ F H (Ext.refl s) ⟨a, vs, rfl, f1, ?_⟩
      have e2 := cut_den l1 lo hi
      have e3 : cutV vs lo hi = vs := whole_cut hw.1 hw.2
      rw [e3] at e2
      exact e2
    · exact q _ _ _ (Ext.laid s hp _) ⟨p, _, rfl, upd_same, DenL.mono (same_upd (s.free hp)) (cut_den l1 _ _)⟩
  · split at h3
    · next hl => cases h3; exact .inr ⟨_, h1.str, big_le hl, q _ F H (Ext.refl s) rfl⟩
    · cases h3
  · cases h3
/-! ### built-in functions -/
theorem NowAll.one {F H : Hp} {vs : List V} {d : D} (h : NowAll F H vs [d]) : ∃ v, vs = [v] ∧ NowD F H v d := by
  obtain ⟨v, r, e, h1, h2⟩ := h
  cases h2
  exact ⟨v, e, h1⟩
theorem NowAll.two {F H : Hp} {vs : List V} {d e : D} (h : NowAll F H vs [d, e]) : ∃ v w, vs = [v, w] ∧ NowD F H v d ∧ NowD F H w e := by
  obtain ⟨v, r, rfl, h1, w, r2, rfl, h2, h3⟩ := h
  cases h3
  exact ⟨v, w, rfl, h1, h2⟩
theorem NowAll.three {F H : Hp} {vs : List V} {d e f : D} (h : NowAll F H vs [d, e, f]) : ∃ v w u, vs = [v, w, u] ∧ NowD F H v d ∧ NowD F H w e ∧ NowD F H u f := by
  obtain ⟨v, r, rfl, h1, w, r2, rfl, h2, u, r3, rfl, h3, h4⟩ := h
  cases h4
  exact ⟨v, w, u, rfl, h1, h2, h3⟩
def lenF : List D → Option D
  | [.list ds] => some (.int ds.length)
  | [.tuple ds] => some (.int ds.length)
  | [.str z] => if z.length ≤ big then some (.int z.length) else none
  | _ => none
theorem ok_len {K : PySem.W.Frag} : CallOk (fun xs H Q => ∃ x n, xs = [x] ∧ LenV K x H n ∧ Q (.int n) H) lenF := by
  intro F H vs ds z Q s h1 h3 q
  unfold lenF at h3
  split at h3
  · cases h3
    obtain ⟨v, rfl, h⟩ := h1.one
    obtain ⟨a, vs, rfl, e1, l1⟩ := h.lst s
    exact ⟨_, _, rfl, .inl ⟨vs, SqL.of e1, l1.len⟩, q _ F H (Ext.refl s) rfl⟩
  · cases h3
    obtain ⟨v, rfl, h⟩ := h1.one
    obtain ⟨a, vs, rfl, f1, e1, l1⟩ := h.tup s
    exact ⟨_, _, rfl, .inr ⟨vs, SqT.of e1, l1.len⟩, q _ F H (Ext.refl s) rfl⟩
  · split at h3
    · next hl =>
      cases h3
      obtain ⟨v, rfl, h⟩ := h1.one
      cases h.str
      exact ⟨_, _, rfl, ⟨big_le hl, rfl⟩, q _ F H (Ext.refl s) rfl⟩
    · cases h3
  · cases h3
def absF : List D → Option D
  | [.int i] => some (.int (if i < 0 then -i else i))
  | _ => none
theorem ok_abs : CallOk (fun xs H Q => ∃ i, xs = [.int i] ∧ Q (.int (if i < 0 then -i else i)) H) absF := by
  intro F H vs ds z Q s h1 h3 q
  unfold absF at h3
  split at h3
  · cases h3
    obtain ⟨v, rfl, h⟩ := h1.one
    cases h.int
    exact ⟨_, rfl, q _ F H (Ext.refl s) rfl⟩
  · cases h3
def max2F : List D → Option D
  | [.int i, .int j] => some (.int (if j > i then j else i))
  | _ => none
def min2F : List D → Option D
  | [.int i, .int j] => some (.int (if j < i then j else i))
  | _ => none
theorem ok_max2 : CallOk (fun xs H Q => ∃ i j, xs = [.int i, .int j] ∧ Q (.int (if j > i then j else i)) H) max2F := by
  intro F H vs ds z Q s h1 h3 q
  unfold max2F at h3
  split at h3
  · cases h3
    obtain ⟨v, w, rfl, h, h'⟩ := h1.two
    cases h.int; cases h'.int
    exact ⟨_, _, rfl, q _ F H (Ext.refl s) rfl⟩
  · cases h3
theorem ok_min2 : CallOk (fun xs H Q => ∃ i j, xs = [.int i, .int j] ∧ Q (.int (if j < i then j else i)) H) min2F := by
  intro F H vs ds z Q s h1 h3 q
  unfold min2F at h3
  split at h3
  · cases h3
    obtain ⟨v, w, rfl, h, h'⟩ := h1.two
    cases h.int; cases h'.int
    exact ⟨_, _, rfl, q _ F H (Ext.refl s) rfl⟩
  · cases h3
/-- int(x): an int, a bool, a text -/
def rIntA : List V → Hp → VK → Prop := fun xs H Q => ((∃ i, xs = [.int i] ∧ Q (.int i) H) ∨ ∃ k, xs = [.bl k] ∧ Q (.int (if k then 1 else 0)) H) ∨ ∃ a n, xs = [.str a] ∧ PySem.intText? a = some n ∧ a.length ≤ 640 ∧ Q (.int n) H
def intF : List D → Option D
  | [.int i] => some (.int i)
  | [.bool k] => some (.int (if k then 1 else 0))
  | [.str a] => if a.length ≤ 640 then (PySem.intText? a).map PyData.int else none
  | _ => none
theorem ok_int : CallOk rIntA intF := by
  intro F H vs ds z Q s h1 h3 q
  unfold intF at h3
  split at h3
  · cases h3
    obtain ⟨v, rfl, h⟩ := h1.one
    cases h.int
    exact .inl (.inl ⟨_, rfl, q _ F H (Ext.refl s) rfl⟩)
  · cases h3
    obtain ⟨v, rfl, h⟩ := h1.one
    cases h.bool
    exact .inl (.inr ⟨_, rfl, q _ F H (Ext.refl s) rfl⟩)
  · split at h3
    · next hl =>
      cases e : PySem.intText? _ with
      | none => rw [e] at h3; cases h3
      | some n =>
        rw [e] at h3; cases h3
        obtain ⟨v, rfl, h⟩ := h1.one
        cases h.str
        exact .inr ⟨_, n, rfl, e, hl, q _ F H (Ext.refl s) rfl⟩
    · cases h3
  · cases h3
def strF : List D → Option D
  | [.int i] => if i.natAbs.log2 < 1920 then some (.str (toString i)) else none
  | _ => none
theorem ok_str : CallOk (fun xs H Q => ∃ i, xs = [.int i] ∧ i.natAbs.log2 < 1920 ∧ Q (.str (toString i)) H) strF := by
  intro F H vs ds z Q s h1 h3 q
  unfold strF at h3
  split at h3
  · split at h3
    · next hl =>
      cases h3
      obtain ⟨v, rfl, h⟩ := h1.one
      cases h.int
      exact ⟨_, rfl, hl, q _ F H (Ext.refl s) rfl⟩
    · cases h3
  · cases h3
/-- tuple(x), list(x) -/
def tupleF : List D → Option D
  | [.list ds] => some (.tuple ds)
  | [.tuple ds] => some (.tuple ds)
  | _ => none
theorem ok_tuple {K : PySem.W.Frag} : CallOk (fun xs H Q => ∃ p ys, xs = [.ref p] ∧ ((SqL K H p ys ∧ ∀ l, H l = none → Q (.ref l) (upd H l (.tup ys))) ∨ (SqT K H p ys ∧ Q (.ref p) H))) tupleF := by
  intro F H vs ds z Q s h1 h3 q
  unfold tupleF at h3
  split at h3
  · cases h3
    obtain ⟨v, rfl, h⟩ := h1.one
    obtain ⟨a, vs, rfl, e1, l1⟩ := h.lst s
    refine ⟨a, vs, rfl, .inl ⟨SqL.of e1, fun p hp => ?_⟩⟩
    have x := Ext.laid s hp (.tup vs)
    exact q _ _ _ x ⟨p, _, rfl, upd_same, DenL.mono x.old l1⟩
  · cases h3
    obtain ⟨v, rfl, h⟩ := h1.one
    obtain ⟨a, vs, rfl, f1, e1, l1⟩ := h.tup s
    exact ⟨a, vs, rfl, .inr ⟨SqT.of e1, q _ F H (Ext.refl s) ⟨a, vs, rfl, f1, l1⟩⟩⟩
  · cases h3
def listF : List D → Option D
  | [.list ds] => some (.list ds)
  | [.tuple ds] => some (.list ds)
  | _ => none
theorem okF_list {K : PySem.W.Frag} : CallOkF (fun xs H Q => ∃ p ys, xs = [.ref p] ∧ (SqL K H p ys ∨ SqT K H p ys) ∧ ∀ l, H l = none → Q (.ref l) (upd H l (.lst ys))) listF := by
  intro F H vs ds z Q s h1 h3 q
  unfold listF at h3
  split at h3
  · cases h3
    obtain ⟨v, rfl, h⟩ := h1.one
    obtain ⟨a, vs, rfl, e1, l1⟩ := h.lst s
    exact ⟨a, vs, rfl, .inl (SqL.of e1), fun p hp => q p _ hp l1⟩
  · cases h3
    obtain ⟨v, rfl, h⟩ := h1.one
    obtain ⟨a, vs, rfl, f1, e1, l1⟩ := h.tup s
    exact ⟨a, vs, rfl, .inr (SqT.of e1), fun p hp => q p _ hp l1⟩
  · cases h3
/-! sums, all, any -/
def allOf {α : Type} (g : D → Option α) : List D → Option (List α)
  | [] => some []
  | d :: ds => match g d, allOf g ds with
    | some x, some xs => some (x :: xs)
    | _, _ => none
theorem allOf_eq {α : Type} {g : D → Option α} {c : α → D} (hc : ∀ d x, g d = some x → d = c x) : ∀ {ds : List D} {xs : List α}, allOf g ds = some xs → ds = xs.map c
  | [], _, h => by cases h; rfl
  | d :: ds, xs, h => by
    unfold allOf at h
    cases e1 : g d with
    | none => simp [e1] at h
    | some x =>
      cases e2 : allOf g ds with
      | none => simp [e1, e2] at h
      | some ys =>
        simp [e1, e2] at h
        subst h
        rw [hc d x e1, allOf_eq hc e2]
        rfl
theorem asInt_eq {d : D} {b : Int} (h : asInt d = some b) : d = .int b := by
  cases d <;> simp [asInt] at h
  rw [h]
def sumF : List D → Option D
  | [.list ds] => (allOf asInt ds).map fun ns => .int ns.sum
  | _ => none
theorem ok_sum {K : PySem.W.Frag} : CallOk (rSum K) sumF := by
  intro F H vs ds z Q s h1 h3 q
  unfold sumF at h3
  split at h3
  · next xs =>
    cases e : allOf asInt xs with
    | none => rw [e] at h3; cases h3
    | some ns =>
      rw [e] at h3; cases h3
      obtain ⟨v, rfl, h⟩ := h1.one
      obtain ⟨a, vs, rfl, e1, l1⟩ := h.lst s
      have e2 := allOf_eq (c := PyData.int) (fun _ _ => asInt_eq) e
      subst e2
      exact ⟨a, ns, rfl, by rw [← DenL.of_ints l1]; exact SqL.of e1, q _ F H (Ext.refl s) rfl⟩
  · cases h3
def allF : List D → Option D
  | [.list ds] => (allOf asBool ds).map fun ns => .bool (ns.all id)
  | _ => none
theorem ok_all {K : PySem.W.Frag} : CallOk (rAll K) allF := by
  intro F H vs ds z Q s h1 h3 q
  unfold allF at h3
  split at h3
  · next xs =>
    cases e : allOf asBool xs with
    | none => rw [e] at h3; cases h3
    | some ns =>
      rw [e] at h3; cases h3
      obtain ⟨v, rfl, h⟩ := h1.one
      obtain ⟨a, vs, rfl, e1, l1⟩ := h.lst s
      have e2 := allOf_eq (c := PyData.bool) (fun _ _ => asBool_eq) e
      subst e2
      exact ⟨a, ns, rfl, by rw [← DenL.of_bools l1]; exact SqL.of e1, q _ F H (Ext.refl s) rfl⟩
  · cases h3
def anyF : List D → Option D
  | [.list ds] => (allOf asBool ds).map fun ns => .bool (ns.any id)
  | _ => none
theorem ok_any {K : PySem.W.Frag} : CallOk (rAny K) anyF := by
  intro F H vs ds z Q s h1 h3 q
  unfold anyF at h3
  split at h3
  · next xs =>
    cases e : allOf asBool xs with
    | none => rw [e] at h3; cases h3
    | some ns =>
      rw [e] at h3; cases h3
      obtain ⟨v, rfl, h⟩ := h1.one
      obtain ⟨a, vs, rfl, e1, l1⟩ := h.lst s
      have e2 := allOf_eq (c := PyData.bool) (fun _ _ => asBool_eq) e
      subst e2
      exact ⟨a, ns, rfl, by rw [← DenL.of_bools l1]; exact SqL.of e1, q _ F H (Ext.refl s) rfl⟩
  · cases h3
/-! ### isinstance -/
def tyName : D → String
  | .none => "NoneType"
  | .bool _ => "bool"
  | .int _ => "int"
  | .str _ => "str"
  | .list _ => "list"
  | .tuple _ => "tuple"
  | .dict _ => "dict"
theorem now_ty {K : PySem.W.Frag} {F H : Hp} {v : V} {d : D} (s : Same F H) (h : NowD F H v d) : TyX K H v (.type (tyName d)) := by
  cases d with
  | none => rw [h.none]; exact .base .non
  | bool b => rw [h.bool]; exact .base (.bl _)
  | int b => rw [h.int]; exact .base (.int _)
  | str b => rw [h.str]; exact .base (.str _)
  | list ds => obtain ⟨a, vs, rfl, e, _⟩ := h.lst s; exact .base (.lst e)
  | tuple ds => obtain ⟨a, vs, rfl, _, e, _⟩ := h.tup s; exact .base (.tup e)
  | dict ds => obtain ⟨a, vs, rfl, e, _⟩ := h.dic s; exact .base (.dK e)
/-- what isinstance says of the seven kinds -/
structure IsiTab (T : String) (p : String → Bool) : Prop where
  n1 : kitB "NoneType" T = some (p "NoneType")
  n2 : kitB "bool" T = some (p "bool")
  n3 : kitB "int" T = some (p "int")
  n4 : kitB "str" T = some (p "str")
  n5 : kitB "list" T = some (p "list")
  n6 : kitB "tuple" T = some (p "tuple")
  n7 : kitB "dict" T = some (p "dict")
theorem IsiTab.at {T : String} {p : String → Bool} (h : IsiTab T p) (d : D) : kitB (tyName d) T = some (p (tyName d)) := by
  cases d
  · exact h.n1
  · exact h.n2
  · exact h.n3
  · exact h.n4
  · exact h.n5
  · exact h.n6
  · exact h.n7
def mIsi (p : String → Bool) (a : M TV) : M D := bnd a fun x => fun ρ => match deref ρ x with
  | some d => .ok (.bool (p (tyName d))) ρ
  | none => .no
section
variable {B : Bd} {EX : Str → Hp → Prop}
theorem ev_isi {K : PySem.W.Frag} {T : String} {p : String → Bool} {te : TE} {f : M TV} (tab : IsiTab T p) (h : Ev B EX VT te f) : Ev B EX VD (tCB (rIsi K) (tCons te (tCons (tC (.ty T)) tNil))) (mIsi p f) := by
  refine Ev.bind (tb := fun x σ H Q => rIsi K [x, .ty T] H Q) h fun a x F H σ ρ Q m p q => ?_
  cases e : deref ρ a with
  | none => simp only [e] at q; exact q.elim
  | some d =>
    simp only [e] at q
    exact ⟨x, .ty T, _, .type T, _, rfl, .ty T, now_ty m.sub (p.now m e), kit_ty (tab.at d), q _ F H m.refl rfl⟩
end
def pInt (n : String) : Bool := n == "int" || n == "bool"
def pIs (T n : String) : Bool := n == T
theorem tab_int : IsiTab "int" pInt := ⟨by decide +kernel, by decide +kernel, by decide +kernel, by decide +kernel, by decide +kernel, by decide +kernel, by decide +kernel⟩
theorem tab_bool : IsiTab "bool" (pIs "bool") := ⟨by decide +kernel, by decide +kernel, by decide +kernel, by decide +kernel, by decide +kernel, by decide +kernel, by decide +kernel⟩
theorem tab_str : IsiTab "str" (pIs "str") := ⟨by decide +kernel, by decide +kernel, by decide +kernel, by decide +kernel, by decide +kernel, by decide +kernel, by decide +kernel⟩
theorem tab_tuple : IsiTab "tuple" (pIs "tuple") := ⟨by decide +kernel, by decide +kernel, by decide +kernel, by decide +kernel, by decide +kernel, by decide +kernel, by decide +kernel⟩
end Rn
end

section
set_option Elab.async false
set_option linter.all false
set_option maxRecDepth 100000
/-! Core3d: dicts with whole numbers and texts as keys. -/
namespace Rn
open PySem PySem.Spec L2

def keyOf : D → Option Key
  | .int i => some (.inl i)
  | .str x => some (.inr x)
  | _ => none
theorem keyOf_eq {d : D} {k : Key} (h : keyOf d = some k) : d = keyD k := by
  cases d <;> simp [keyOf] at h <;> subst h <;> rfl
theorem keyD_inj {k k' : Key} (h : keyD k = keyD k') : k = k' := by
  cases k <;> cases k' <;> simp [keyD] at h <;> rw [h]
theorem den_key (F : Hp) (k : Key) : Den F (keyD k) (kV k) := by cases k <;> rfl
theorem key_den {F : Hp} {k : Key} {v : V} (h : Den F (keyD k) v) : v = kV k := by cases k <;> exact h
def keyEq : D → D → Bool
  | .int i, .int j => decide (i = j)
  | .str x, .str y => decide (x = y)
  | _, _ => false
theorem keyEq_key (k k' : Key) : keyEq (keyD k) (keyD k') = decide (k = k') := by
  cases k <;> cases k' <;> simp [keyD, keyEq]
def valD (kds : List (D × D)) (k : D) : Option D := (kds.find? fun kd => keyEq kd.1 k).map (·.2)
def putD (kds : List (D × D)) (k d : D) : List (D × D) :=
  if (kds.any fun kd => keyEq kd.1 k) = true then kds.map (fun kd => if keyEq kd.1 k = true then (kd.1, d) else kd) else kds ++ [(k, d)]
theorem DenK.val {F : Hp} {k : Key} : ∀ {kds : List (D × D)} {kvs : List (Key × V)}, DenK F kds kvs → (∀ d, valD kds (keyD k) = some d → ∃ v, valV kvs k = some v ∧ Den F d v) ∧ (valD kds (keyD k) = none → valV kvs k = none)
  | [], _, h => by
    cases h
    refine ⟨fun d e => ?_, fun _ => rfl⟩
    simp [valD] at e
  | (c, d) :: r, _, ⟨q, v, t, e, hq, hd, l⟩ => by
    subst e
    subst hq
    have ih := DenK.val (k := k) l
    unfold valD at ih ⊢
    rw [List.find?_cons, keyEq_key]
    by_cases e : q = k
    · rw [decide_eq_true e]
      refine ⟨fun d' e' => ?_, fun e' => by cases e'⟩
      cases e'
      exact ⟨v, valV_pos e, hd⟩
    · rw [decide_eq_false e, valV_neg e]
      exact ih
theorem DenK.some? {F : Hp} {k : Key} {kds : List (D × D)} {kvs : List (Key × V)} (h : DenK F kds kvs) : (valV kvs k).isSome = (valD kds (keyD k)).isSome := by
  cases e : valD kds (keyD k) with
  | none => rw [(h.val).2 e]; rfl
  | some d => obtain ⟨v, h1, _⟩ := (h.val).1 d e; rw [h1]; rfl
theorem DenK.len {F : Hp} : ∀ {kds : List (D × D)} {kvs : List (Key × V)}, DenK F kds kvs → kds.length = kvs.length
  | [], _, h => by cases h; rfl
  | (_, _) :: _, _, ⟨q, v, t, e, _, _, l⟩ => by subst e; simp [DenK.len l]
theorem DenK.app {F : Hp} {k : Key} {d : D} {v : V} (hd : Den F d v) : ∀ {kds : List (D × D)} {kvs : List (Key × V)}, DenK F kds kvs → DenK F (kds ++ [(keyD k, d)]) (kvs ++ [(k, v)])
  | [], _, h => by cases h; exact ⟨k, v, [], rfl, rfl, hd, rfl⟩
  | (_, _) :: _, _, ⟨q, u, t, e, hq, h, l⟩ => by subst e; exact ⟨q, u, _, rfl, hq, h, DenK.app hd l⟩
theorem DenK.upd {F : Hp} {k : Key} {d : D} {v : V} (hd : Den F d v) : ∀ {kds : List (D × D)} {kvs : List (Key × V)}, DenK F kds kvs → DenK F (kds.map fun kd => if keyEq kd.1 (keyD k) = true then (kd.1, d) else kd) (kvs.map fun kv => if kv.1 = k then (kv.1, v) else kv)
  | [], _, h => by cases h; rfl
  | (c, d') :: _, _, ⟨q, u, t, e, hq, h, l⟩ => by
    subst e
    subst hq
    have ih := DenK.upd (k := k) hd l
    rw [List.map_cons, List.map_cons]
    by_cases e : q = k
    · rw [if_pos (by rw [keyEq_key]; exact decide_eq_true e), if_pos e]
      exact ⟨q, v, _, rfl, rfl, hd, ih⟩
    · rw [if_neg (by rw [keyEq_key, decide_eq_false e]; decide), if_neg e]
      exact ⟨q, u, _, rfl, rfl, h, ih⟩
theorem DenK.put {F : Hp} {k : Key} {d : D} {v : V} {kds : List (D × D)} {kvs : List (Key × V)} (h : DenK F kds kvs) (hd : Den F d v) : DenK F (putD kds (keyD k) d) (putK kvs k v) := by
  have a : (kds.any fun kd => keyEq kd.1 (keyD k)) = kvs.any fun kv => decide (kv.1 = k) := by
    rw [valV_any, h.some?]
    unfold valD
    rw [Option.isSome_map, Bool.eq_iff_iff, List.find?_isSome, List.any_eq_true]
  unfold putD putK
  rw [a]
  split
  · exact h.upd hd
  · exact h.app hd

/-! ### in -/
def rDIn (neg : Bool) : R2 := fun y x H Q => ∃ a o, x = .ref a ∧ DGet H a y o ∧ Q (.bl (if neg then !o.isSome else o.isSome)) H
theorem op_din {X : Cx} (hu : X.A.units + 64 < cLine) : OpR X (compareOp .In) (rDIn false) := by
  intro pins s σ H y x v u Q I ry rx h
  obtain ⟨a, o, rfl, g, q⟩ := h
  obtain rfl : u = Value.ref a := rx
  exact d_in (by omega) I g ry fun s' I' => ⟨.bl o.isSome, H, I', rfl, q⟩
theorem op_dnotin {X : Cx} (hu : X.A.units + 64 < cLine) : OpR X (compareOp .NotIn) (rDIn true) := by
  intro pins s σ H y x v u Q I ry rx h
  obtain ⟨a, o, rfl, g, q⟩ := h
  obtain rfl : u = Value.ref a := rx
  exact d_notIn (by omega) I g ry fun s' I' => ⟨.bl (!o.isSome), H, I', rfl, q⟩
def rInA (K : PySem.W.Frag) (neg : Bool) : R2 := fun x y H Q => rInP K neg x y H Q ∨ rDIn neg x y H Q
theorem op_inA {X : Cx} (hu : X.A.units + 64 < cLine) : OpR X (compareOp .In) (rInA X.K false) := (op_inP hu).or (op_din hu)
theorem op_notInA {X : Cx} (hu : X.A.units + 64 < cLine) : OpR X (compareOp .NotIn) (rInA X.K true) := (op_notInP hu).or (op_dnotin hu)
def inAF (neg : Bool) (d e : D) : Option D := match e with
  | .dict kds => (match keyOf d with
    | some _ => some (.bool (if neg then !(valD kds d).isSome else (valD kds d).isSome))
    | none => none)
  | e => inF neg d e
theorem ok_inA {K : PySem.W.Frag} {neg : Bool} : OpOk (rInA K neg) (inAF neg) := by
  intro F H v w d e z Q s h1 h2 h3 q
  unfold inAF at h3
  split at h3
  · next kds =>
    cases e1 : keyOf d with
    | none => simp only [e1] at h3; cases h3
    | some k =>
      simp only [e1] at h3
      cases h3
      have e2 := keyOf_eq e1
      subst e2
      obtain ⟨a, kvs, rfl, ha, l⟩ := h2.dic s
      have hv : v = kV k := by
        rcases h1 with h1 | ⟨b, o, _, _, h1⟩
        · exact key_den h1
        · cases k <;> cases o <;> exact h1.elim
      subst hv
      refine .inr ⟨a, _, rfl, DGet.k ha, ?_⟩
      rw [l.some?]
      exact q _ F H (Ext.refl s) rfl
  · exact .inl (ok_in s h1 h2 h3 q)
end Rn
end

section
set_option Elab.async false
set_option linter.all false
set_option maxRecDepth 100000
set_option maxHeartbeats 1000000
/-! Core4: what is walked: a list or tuple, enumerate of either; the readings. -/
namespace Rn
open PySem PySem.Spec PyProof.Rows L2
open AutoSeq1 (wpAny_loadPart')

theorem meets_enumT {v : Value} {o : Obj} {H : Heap → Prop} (B : Begins v o H) :
    Meets (Builtin.«enumerate.__new__» ⟨[.type "enumerate", v], []⟩) (fun _ R s => H s.heap ∧
      R (.ok (.ret (.ref (s.heap.push o).objs.size))) { s with heap := (s.heap.push o).push { cls := .type "enumerate", data := .fields #[.none, .bool false, .ref s.heap.objs.size, rawInt 0, .none, .none] } }) :=
  .of_wp fun prog w A R s h => by
    obtain ⟨hp, g, d, tk, os⟩ := s; obtain ⟨h1, h⟩ := h
    have hsub := sub_enumerate
    have q1 : ∀ {A' : Around} {E : Value → Shared → Prop} {Q : Value → Shared → Prop}, Q (.ref hp.objs.size) ⟨hp.push o, g, d, tk, os⟩ → wpAny (model prog w) A' (pyIter v) Q E ⟨hp, g, d, tk, os⟩ :=
      fun q => B.iter prog w _ _ ⟨hp, g, d, tk, os⟩ _ h1 q
    wp_walk using q1
    refine wpAny_stack_any fun st => wpAny_pure ?_
    split
    · rename_i c _ _ _ _ _
      cases (c == Value.type "enumerate")
      · wp_walk using q1
        exact ⟨_, rfl, h⟩
      · wp_walk using q1
        exact ⟨_, rfl, h⟩
    · wp_walk using q1
      exact ⟨_, rfl, h⟩
theorem call_enumT {prog : Program} {w : World} {A : Around} {E : Value → Shared → Prop} {s : Shared} {v : Value} {o : Obj} {H : Heap → Prop} {Q : Value → Shared → Prop} (B : Begins v o H) (h1 : H s.heap)
    (h : ∀ h', IsEnum h' (s.heap.objs.size + 1) s.heap.objs.size 0 .none → h'.get? s.heap.objs.size = some o → h'.objs.size = s.heap.objs.size + 2 →
      (∀ b o, s.heap.get? b = some o → h'.get? b = some o) → Q (.ref (s.heap.objs.size + 1)) { s with heap := h' }) :
    wpAny (model prog w) A (call (.type "enumerate") [v]) Q E s := by
  refine callType_new F.called_enumerate (by decide) (F.typeCall_enumerate_1 _) (F.newCall_enumerate_1 _) (fun obj => F.args_object_init_2 obj _) F.entry_enumerate_new
    (meets_enumT B) ⟨h1, ?_⟩
  have hz : (s.heap.push o).objs.size = s.heap.objs.size + 1 := Heap.size_push ..
  show _ ∧ _
  rw [hz]
  have he : IsEnum ((s.heap.push o).push { cls := .type "enumerate", data := .fields #[.none, .bool false, .ref s.heap.objs.size, rawInt 0, .none, .none] }) (s.heap.objs.size + 1) s.heap.objs.size 0 .none := by
    have := Heap.get?_push_size (s.heap.push o) (o := { cls := .type "enumerate", data := .fields #[.none, .bool false, .ref s.heap.objs.size, rawInt 0, .none, .none] }) rfl
    rw [hz] at this; exact this
  refine ⟨⟨_, he, rfl⟩, h _ he (Heap.get?_push_of_some _ (Heap.get?_push_size _ B.free)) (by rw [Heap.size_push, hz]) fun b o x => Heap.get?_push_of_some _ (Heap.get?_push_of_some _ x)⟩

theorem enum_end_tuple {prog : Program} {w : World} {A : Around} {E : Value → Shared → Prop} {s : Shared} {e it t : Addr} {items : Array Value} {i : Nat} {j : Int} {old : Value} {Q : Option Value → Shared → Prop} (hh : A.handled = none)
    (he : IsEnum s.heap e it j old) (hit : s.heap.IsTupleIter it t i) (ht : s.heap.IsTuple t items) (hx : items[i]? = none)
    (hQ : ∀ h', Heap.ExtBut it s.heap h' → Q none { s with heap := h' }) : wpAny (model prog w) A (pyNext (.ref e)) Q E s := by
  have hT : s.TypeIs (.ref e) "enumerate" := ⟨_, he, rfl⟩
  unfold pyNext
  refine wpAny_bind (wpAny_attempt (wpAny_callSpecial?_slot (name := Str.ofString "__next__") hT F.slot_enumerate_next
    (wpAny_call_entry F.slot_enumerate_next hT F.entry_enumerate_next ?_ (F.args_enumerate_next_1 _))))
  show wpAny _ _ (field (.ref e) 2 >>= _) _ _ _
  refine wpAny_bind (wpAny_field he rfl (x := .ref it) rfl ?_)
  refine wpAny_bind (wpAny_nextOf_tuple_end (A := A.in1) hh hit ht hx fun h' x he' hx' => ?_)
  obtain ⟨o, ho, hc⟩ := hx'
  refine wpAny_bind (wpAny_isInstance (T := "StopIteration") (b := true) ⟨o, ho, hc⟩ isSubtype_stop ?_)
  exact wpAny_pure (hQ _ he')
/-- the tuple at a, each item in a new pair -/
def Itet (K : PySem.W.Frag) (a : Addr) : It :=
  ⟨fun i H => ∃ (xs : List V) (x : V), SqT K H a xs ∧ xs[i]? = some x, fun i H v H' => ∃ T x, v = .ref T ∧ H T = none ∧ H' = upd H T (.tup [.int (i : Nat), x]) ∧ ∀ xs, SqT K H a xs → xs[i]? = some x, fun i H => ∃ xs : List V, SqT K H a xs ∧ xs.length ≤ i⟩
theorem turn_enumT {P : Program} {w : World} {K : PySem.W.Frag} {elts : List Expr} {kk : Nat} {tpos : Pos} (a e it : Addr) (hai : a ≠ it) :
    Turn P w K (.Tuple elts kk tpos) (Itet K a) [e, it] e (fun i h => (∃ old, IsEnum h e it ((i : Nat) : Int) old) ∧ h.IsTupleIter it a i ∧ e ≠ it) where
  mem := by simp
  obj := fun i h st b hb => by
    obtain ⟨⟨old, he⟩, ⟨o, ho, hc, hd⟩, _⟩ := st
    have e' : b = e ∨ b = it := by simpa using hb
    rcases e' with z | z
    · rw [z]; exact ⟨_, he, fun v q => nomatch q⟩
    · rw [z]; exact ⟨o, ho, fun v q => by rw [hd] at q; cases q⟩
  keep := fun i h h' st k => let ⟨⟨old, he⟩, hi, hne⟩ := st; ⟨⟨old, k e (by simp) _ he⟩, hi.at fun o q => k it (by simp) o q, hne⟩
  item := by
    intro X hP hw hK hc i pins s σ H E I hf st hg
    subst hP hw hK
    obtain ⟨⟨old, he⟩, hit, hne⟩ := st
    obtain ⟨xs, x, hq, hx⟩ := hg
    obtain ⟨its, rv, p, hz⟩ := I.tuple hq
    obtain ⟨u, hu, ru⟩ := rv.get hx
    have hel : e < s.heap.objs.size := Heap.lt_size he
    have hil : it < s.heap.objs.size := by obtain ⟨_, q, _⟩ := hit; exact Heap.lt_size q
    have hlt : i < its.toArray.size := by
      have := (List.getElem?_eq_some_iff.mp hu).1
      simpa using this
    have hea : e ≠ a := fun q => by
      obtain ⟨o, ho, hcl, _⟩ := p
      rw [← q] at ho
      rw [he] at ho
      cases ho
      injection hcl with q
      exact absurd q (by decide)
    refine wpAny_pyNext_enum_itemD (Draws.tuple (A := X.A.in1) (I.ok.hd hc) it a hai its.toArray) he ⟨hit, p⟩ hlt hne (fun hm => by
      have e' : e = it ∨ e = a := by simpa using hm
      rcases e' with z | z
      · exact hne z
      · exact hea z) fun y h' tk hy ho hit' hT hsz hk => ?_
    have hyu : y = u := by
      have q : its.toArray[i]? = some y := hy
      rw [List.getElem?_toArray, hu] at q
      exact (Option.some.inj q).symm
    subst hyu
    refine ⟨_, rfl, wpAny_letOwnedTupleGo_enum (s := { s with heap := h', toks := tk + 1 }) ho fun h'' he' sb => ?_⟩
    have hT2 : h''.get? s.heap.objs.size = some { cls := .type "tuple", data := .seq #[.int i tk, y] } := (sb.2 _ (Nat.ne_of_gt hel)).trans hT
    have new : ObjOk X.prog X.w (upd H s.heap.objs.size (.tup [.int (i : Nat), x])) h'' s.heap.objs.size (.tup [.int (i : Nat), x]) :=
      ⟨by show 2 ≤ sizeLine; decide, [.int i tk, y], .cons ⟨_, rfl⟩ (.cons ru .nil), ⟨_, hT2, rfl, _, rfl⟩⟩
    have I1 : Inv X pins σ (upd H s.heap.objs.size (.tup [.int (i : Nat), x])) { s with heap := h'', toks := tk + 1 } :=
      I.turnedNew (ch := [e, it]) (fun b ob hb q => (sb.2 b (fun z => hb (by simp [z]))).trans (hk b ob (fun z => hb (by simp [z])) (fun z => hb (by simp [z])) q)) hf (Nat.le_refl _) new
    refine ⟨.ref s.heap.objs.size, _, I1, rfl, ⟨_, x, rfl, I.hok.fresh (Nat.le_refl _), rfl, fun ys hy => by rw [I.tuple_inj hy hq]; exact hx⟩, ⟨⟨y, ?_⟩, hit'.1.at fun o q => (sb.2 it (Ne.symm hne)).trans q, hne⟩, fun b hb => ?_⟩
    · have e1 : ((i + 1 : Nat) : Int) = (i : Int) + 1 := by omega
      rw [e1]; exact he'
    · have hb' : b < s.heap.objs.size := by
        have e' : b = e ∨ b = it := by simpa using hb
        rcases e' with z | z
        · rw [z]; exact hel
        · rw [z]; exact hil
      rw [upd_ne (Nat.ne_of_lt hb')]
      exact (hf b hb).1
  done := by
    intro X hP hw hK hc i pins s σ H E I hf st hg
    subst hP hw hK
    obtain ⟨⟨old, he⟩, hit, hne⟩ := st
    obtain ⟨xs, hq, hx⟩ := hg
    obtain ⟨its, rv, p, hz⟩ := I.tuple hq
    obtain ⟨f0, f1, f2, f3, f4, f5⟩ := hf it (by simp)
    have hl := rv.length
    exact enum_end_tuple (I.ok.hd hc) he hit (show s.heap.IsTuple a its.toArray from p) (by simp; omega) fun h' eb => ⟨rfl, I.turned (t' := s.toks) (fun b o hb q => eb b o hb q) f0 f1 f3 f4 f5⟩
  self := fun A i s Q E st h => let ⟨⟨_, he⟩, _⟩ := st; wpAny_pyIter_enum he h

section
variable {X : Cx} {tg : Expr}
/-- a list or a tuple -/
def iSeq (K : PySem.W.Frag) (tl : TE) : TI := fun σ H R => tl σ H fun x H1 => ∃ a, x = .ref a ∧ (((∃ xs, SqL K H1 a xs) ∧ R (Itl K a) H1) ∨ ((∃ xs, SqT K H1 a xs) ∧ R (Itt K a) H1))
theorem pi_seq {l : Expr} {tl : TE} (hl : PE X l tl) : PI X tg l (iSeq X.K tl) := by
  refine ⟨fun pins s σ H R I h => ?_⟩
  refine thn (hl.run pins s σ H _ I h) fun v s1 ⟨x, H1, I1, r1, q1⟩ => ?_
  obtain ⟨a, e, q⟩ := q1
  subst e
  cases r1
  rcases q with ⟨⟨xs, hq⟩, q⟩ | ⟨⟨xs, hq⟩, q⟩
  · obtain ⟨its, rv, p, hz⟩ := I1.list hq
    refine wpAny_pyIter_list p.isList ?_
    refine ⟨s1.heap.objs.size, [s1.heap.objs.size], _, _, H1, rfl, I1.kept (t' := s1.toks) fun b o e => Heap.get?_push_of_some _ e, turn_list a _, ⟨_, Heap.get?_push_size _ rfl, rfl, rfl⟩, fun b hb => ?_, q⟩
    have e : b = s1.heap.objs.size := by simpa using hb
    subst e
    exact I1.fpOk (Nat.le_refl _) (I1.hok.fresh (Nat.le_refl _))
  · obtain ⟨its, rv, p, hz⟩ := I1.tuple hq
    refine wpAny_pyIter_tuple (show s1.heap.IsTuple a its.toArray from p) ?_
    refine ⟨s1.heap.objs.size, [s1.heap.objs.size], _, _, H1, rfl, I1.kept (t' := s1.toks) fun b o e => Heap.get?_push_of_some _ e, turn_tuple a _, ⟨_, Heap.get?_push_size _ rfl, rfl, rfl⟩, fun b hb => ?_, q⟩
    have e : b = s1.heap.objs.size := by simpa using hb
    subst e
    exact I1.fpOk (Nat.le_refl _) (I1.hok.fresh (Nat.le_refl _))
/-- enumerate of a list or a tuple -/
def iEnumS (K : PySem.W.Frag) (ta : TA) : TI := fun σ H R => ta σ H fun vs H1 => ∃ a xs, vs = [.ref a] ∧ ((SqL K H1 a xs ∧ R (Ite K a) H1) ∨ (SqT K H1 a xs ∧ R (Itet K a) H1))
theorem pi_enumS {e : Expr} {ta : TA} {p pos tpos : Pos} {elts : List Expr} {kk : Nat} (hg : Gl X "enumerate") (hm : X.mg "enumerate" = none) (ha : PA X [e] ta) (hs : starEach [e] X.env = [(false, eval e X.env)] := by rfl) :
    PI X (.Tuple elts kk tpos) (.Call (.Name "enumerate" p) [e] [] pos) (iEnumS X.K ta) := by
  refine ⟨fun pins s σ H R I h => ?_⟩
  refine Call_ (ld_blt I hg hm boot_enumerate (PyProof.Rows.callWith_type1 (thn (ha.run pos pins s σ H _ I h) fun us s1 ⟨vs, H1, I1, r1, q1⟩ => ?_) hs rfl))
  obtain ⟨a, xs, ex, hq⟩ := q1
  subst ex
  cases r1 with
  | cons r rr =>
    cases rr
    cases r
    rcases hq with ⟨hq, q⟩ | ⟨hq, q⟩
    · obtain ⟨its, rv, p', hz⟩ := I1.list hq
      refine call_enumerate_list p'.isList fun h' he hit hsz hk => wpAny_pyIter_enum he ?_
      have I2 : Inv X pins σ H1 { s1 with heap := h' } := I1.kept (t' := s1.toks) hk
      refine ⟨s1.heap.objs.size + 1, [s1.heap.objs.size + 1, s1.heap.objs.size], _, _, H1, rfl, I2, turn_enum a (s1.heap.objs.size + 1) s1.heap.objs.size, ⟨⟨.none, he⟩, hit, Nat.succ_ne_self _⟩, fun b hb => ?_, q⟩
      have e' : b = s1.heap.objs.size + 1 ∨ b = s1.heap.objs.size := by simpa using hb
      have hle : s1.heap.objs.size ≤ b := by
        rcases e' with z | z
        · rw [z]; exact Nat.le_add_right _ _
        · rw [z]; exact Nat.le_refl _
      exact I1.fpOk hle (I1.hok.fresh hle)
    · obtain ⟨its, rv, p', hz⟩ := I1.tuple hq
      have p2 : s1.heap.IsTuple a its.toArray := p'
      refine call_enumT (begins_tuple a its.toArray) p2 fun h' he hit hsz hk => wpAny_pyIter_enum he ?_
      have I2 : Inv X pins σ H1 { s1 with heap := h' } := I1.kept (t' := s1.toks) hk
      have hal : a < s1.heap.objs.size := by obtain ⟨o, ho, _⟩ := p'; exact Heap.lt_size ho
      refine ⟨s1.heap.objs.size + 1, [s1.heap.objs.size + 1, s1.heap.objs.size], _, _, H1, rfl, I2, turn_enumT a (s1.heap.objs.size + 1) s1.heap.objs.size (Nat.ne_of_lt hal), ⟨⟨.none, he⟩, ⟨_, hit, rfl, rfl⟩, Nat.succ_ne_self _⟩, fun b hb => ?_, q⟩
      have e' : b = s1.heap.objs.size + 1 ∨ b = s1.heap.objs.size := by simpa using hb
      have hle : s1.heap.objs.size ≤ b := by
        rcases e' with z | z
        · rw [z]; exact Nat.le_add_right _ _
        · rw [z]; exact Nat.le_refl _
      exact I1.fpOk hle (I1.hok.fresh hle)
end
end Rn
end

section
set_option Elab.async false
set_option linter.all false
set_option maxRecDepth 100000
/-! Core5: iterables, targets, comprehensions. -/
namespace Rn
open PySem PySem.Spec L2

/-! ### iterables -/
def ItOk (F : Hp) (J : It) (items : List D) : Prop := ∀ (F1 H1 : Hp), Same F F1 → Same F1 H1 →
  (∀ i, items.length ≤ i → J.stop i H1) ∧ (∀ i, i < items.length → J.go i H1) ∧
  ∀ i x H2, i < items.length → J.yld i H1 x H2 → ∃ d F2, items[i]? = some d ∧ Ext F1 H1 F2 H2 ∧ Den F2 d x
abbrev VI : L2.St → Hp → Hp → Rho → List D → It → Prop := fun _ F _ _ ds J => ItOk F J ds
theorem ItOk.mono {F F' : Hp} {J : It} {items : List D} (h : ItOk F J items) (s : Same F F') : ItOk F' J items := fun F1 H1 a b => h F1 H1 (s.trans a) b
theorem itok_list {K : PySem.W.Frag} {F : Hp} {a : Addr} {vs : List V} {ds : List D} (h : F a = some (.lst vs)) (l : DenL F ds vs) : ItOk F (Itl K a) ds := by
  intro F1 H1 s1 s2
  have e : H1 a = some (.lst vs) := s2 _ _ (s1 _ _ h)
  refine ⟨fun i hi => ⟨vs, SqL.of e, by rw [← l.len]; exact hi⟩, fun i hi => ?_, fun i x H2 hi q => ?_⟩
  · rw [l.len] at hi
    exact ⟨vs, vs[i], SqL.of e, List.getElem?_eq_getElem hi⟩
  · obtain ⟨rfl, q⟩ := q
    obtain ⟨d, e1, e2⟩ := (l.mono s1).got (q vs (SqL.of e))
    exact ⟨d, F1, e1, Ext.refl s2, e2⟩
theorem itok_tup {K : PySem.W.Frag} {F : Hp} {a : Addr} {vs : List V} {ds : List D} (h : F a = some (.tup vs)) (l : DenL F ds vs) : ItOk F (Itt K a) ds := by
  intro F1 H1 s1 s2
  have e : H1 a = some (.tup vs) := s2 _ _ (s1 _ _ h)
  refine ⟨fun i hi => ⟨vs, SqT.of e, by rw [← l.len]; exact hi⟩, fun i hi => ?_, fun i x H2 hi q => ?_⟩
  · rw [l.len] at hi
    exact ⟨vs, vs[i], SqT.of e, List.getElem?_eq_getElem hi⟩
  · obtain ⟨rfl, q⟩ := q
    obtain ⟨d, e1, e2⟩ := (l.mono s1).got (q vs (SqT.of e))
    exact ⟨d, F1, e1, Ext.refl s2, e2⟩
def rangeD (lo : Int) (n : Nat) : List D := (List.range n).map fun (k : Nat) => PyData.int (lo + (k : Int))
theorem itok_range {F : Hp} {lo : Int} {n : Nat} : ItOk F (Itr lo n) (rangeD lo n) := by
  intro F1 H1 s1 s2
  have hl : (rangeD lo n).length = n := by simp [rangeD]
  refine ⟨fun i hi => by rw [hl] at hi; exact hi, fun i hi => by rw [hl] at hi; exact hi, fun i x H2 hi q => ?_⟩
  obtain ⟨rfl, rfl⟩ := q
  rw [hl] at hi
  exact ⟨.int (lo + i), F1, by simp [rangeD, hi], Ext.refl s2, rfl⟩
def enumD : Nat → List D → List D
  | _, [] => []
  | n, d :: ds => .tuple [.int (n : Nat), d] :: enumD (n + 1) ds
theorem enumD_len : ∀ (n : Nat) (ds : List D), (enumD n ds).length = ds.length
  | _, [] => rfl
  | n, _ :: ds => by simp [enumD, enumD_len (n + 1) ds]
theorem enumD_get : ∀ (n : Nat) (ds : List D) (i : Nat), (enumD n ds)[i]? = ds[i]?.map fun d => .tuple [.int ((n + i : Nat) : Int), d]
  | _, [], _ => by simp [enumD]
  | n, d :: ds, 0 => by simp [enumD]
  | n, d :: ds, i + 1 => by
    simp only [enumD, List.getElem?_cons_succ]
    rw [enumD_get (n + 1) ds i]
    rw [show n + 1 + i = n + (i + 1) by omega]
theorem pair_ext {F1 H1 : Hp} (s2 : Same F1 H1) {T : Addr} {i : Nat} {x : V} {d : D} (hT : H1 T = none) (hd : Den F1 d x) :
    Ext F1 H1 (upd F1 T (.tup [.int (i : Nat), x])) (upd H1 T (.tup [.int (i : Nat), x])) ∧ Den (upd F1 T (.tup [.int (i : Nat), x])) (.tuple [.int (i : Nat), d]) (.ref T) := by
  have e := Ext.laid s2 hT (.tup [.int (i : Nat), x])
  exact ⟨e, T, _, rfl, upd_same, .int i, [x], rfl, rfl, x, [], rfl, hd.mono e.old, rfl⟩
theorem itok_enumL {K : PySem.W.Frag} {F : Hp} {a : Addr} {vs : List V} {ds : List D} (h : F a = some (.lst vs)) (l : DenL F ds vs) : ItOk F (Ite K a) (enumD 0 ds) := by
  intro F1 H1 s1 s2
  have e : H1 a = some (.lst vs) := s2 _ _ (s1 _ _ h)
  refine ⟨fun i hi => ⟨vs, SqL.of e, by rw [← l.len, ← enumD_len 0 ds]; exact hi⟩, fun i hi => ?_, fun i x H2 hi q => ?_⟩
  · rw [enumD_len, l.len] at hi
    exact ⟨vs, vs[i], SqL.of e, List.getElem?_eq_getElem hi⟩
  · obtain ⟨T, y, rfl, hT, rfl, q⟩ := q
    obtain ⟨d, e1, e2⟩ := (l.mono s1).got (q vs (SqL.of e))
    obtain ⟨p1, p2⟩ := pair_ext (i := i) s2 hT e2
    exact ⟨_, _, by rw [enumD_get, e1]; simp, p1, p2⟩
theorem itok_enumT {K : PySem.W.Frag} {F : Hp} {a : Addr} {vs : List V} {ds : List D} (h : F a = some (.tup vs)) (l : DenL F ds vs) : ItOk F (Itet K a) (enumD 0 ds) := by
  intro F1 H1 s1 s2
  have e : H1 a = some (.tup vs) := s2 _ _ (s1 _ _ h)
  refine ⟨fun i hi => ⟨vs, SqT.of e, by rw [← l.len, ← enumD_len 0 ds]; exact hi⟩, fun i hi => ?_, fun i x H2 hi q => ?_⟩
  · rw [enumD_len, l.len] at hi
    exact ⟨vs, vs[i], SqT.of e, List.getElem?_eq_getElem hi⟩
  · obtain ⟨T, y, rfl, hT, rfl, q⟩ := q
    obtain ⟨d, e1, e2⟩ := (l.mono s1).got (q vs (SqT.of e))
    obtain ⟨p1, p2⟩ := pair_ext (i := i) s2 hT e2
    exact ⟨_, _, by rw [enumD_get, e1]; simp, p1, p2⟩
section
variable {B : Bd} {EX : Str → Hp → Prop}
def mSeqI (f : M D) : M (List D) := bnd f fun d => lft (seqD d)
theorem evi_seq {K : PySem.W.Frag} {t : TE} {f : M D} (h : Ev B EX VD t f) : Ev B EX VI (iSeq K t) (mSeqI f) := by
  refine Ev.bind (tb := fun x σ H R => ∃ a, x = .ref a ∧ (((∃ xs, SqL K H a xs) ∧ R (Itl K a) H) ∨ ((∃ xs, SqT K H a xs) ∧ R (Itt K a) H))) h fun d x F H σ ρ Q m p q => ?_
  cases d with
  | list ds =>
    obtain ⟨a, vs, rfl, e, l⟩ := p
    exact ⟨a, rfl, .inl ⟨⟨vs, SqL.of (m.sub _ _ e)⟩, q _ F H m.refl (itok_list e l)⟩⟩
  | tuple ds =>
    obtain ⟨a, vs, rfl, e, l⟩ := p
    exact ⟨a, rfl, .inr ⟨⟨vs, SqT.of (m.sub _ _ e)⟩, q _ F H m.refl (itok_tup e l)⟩⟩
  | none => exact q.elim
  | bool _ => exact q.elim
  | int _ => exact q.elim
  | str _ => exact q.elim
  | dict _ => exact q.elim
def mEnum (f : M (List D)) : M (List D) := bnd f fun ds => match ds with
  | [d] => lft ((seqD d).map (enumD 0))
  | _ => stuck
theorem evi_enum {K : PySem.W.Frag} {t : TA} {f : M (List D)} (h : Ev B EX VL t f) : Ev B EX VI (iEnumS K t) (mEnum f) := by
  refine Ev.bind (tb := fun vs σ H R => ∃ a xs, vs = [.ref a] ∧ ((SqL K H a xs ∧ R (Ite K a) H) ∨ (SqT K H a xs ∧ R (Itet K a) H))) h fun ds x F H σ ρ Q m p q => ?_
  match ds, p, q with
  | [], _, q => exact q.elim
  | _ :: _ :: _, _, q => exact q.elim
  | [.list ds], p, q =>
    obtain ⟨v, r, rfl, ⟨a, vs, rfl, e, l⟩, rfl⟩ := p
    exact ⟨a, vs, rfl, .inl ⟨SqL.of (m.sub _ _ e), q _ F H m.refl (itok_enumL e l)⟩⟩
  | [.tuple ds], p, q =>
    obtain ⟨v, r, rfl, ⟨a, vs, rfl, e, l⟩, rfl⟩ := p
    exact ⟨a, vs, rfl, .inr ⟨SqT.of (m.sub _ _ e), q _ F H m.refl (itok_enumT e l)⟩⟩
  | [.none], _, q => exact q.elim
  | [.bool _], _, q => exact q.elim
  | [.int _], _, q => exact q.elim
  | [.str _], _, q => exact q.elim
  | [.dict _], _, q => exact q.elim
def mRng1 (f : M (List D)) : M (List D) := bnd f fun ds => match ds with
  | [.int j] => if j ≤ 1000000 ∧ -1000000 ≤ j then ret (rangeD 0 j.toNat) else stuck
  | _ => stuck
def mRng2 (f : M (List D)) : M (List D) := bnd f fun ds => match ds with
  | [.int i, .int j] => if (j ≤ 1000000 ∧ -1000000 ≤ j) ∧ (i ≤ 1000000 ∧ -1000000 ≤ i) then ret (rangeD i (j - i).toNat) else stuck
  | _ => stuck
theorem evi_rng1 {t : TA} {f : M (List D)} (h : Ev B EX VL t f) : Ev B EX VI (iRng1 t) (mRng1 f) := by
  refine Ev.bind (tb := fun vs σ H R => ∃ j : Int, vs = [.int j] ∧ -(2 ^ 62) ≤ j ∧ j < 2 ^ 62 ∧ R (Itr 0 j.toNat) H) h fun ds x F H σ ρ Q m p q => ?_
  split at q
  · next j =>
    obtain ⟨v, r, rfl, rfl, rfl⟩ := p
    split at q
    · next hb => exact ⟨j, rfl, by omega, by omega, q _ F H m.refl itok_range⟩
    · exact q.elim
  · exact q.elim
theorem evi_rng2 {t : TA} {f : M (List D)} (h : Ev B EX VL t f) : Ev B EX VI (iRng2 t) (mRng2 f) := by
  refine Ev.bind (tb := fun vs σ H R => ∃ i j : Int, vs = [.int i, .int j] ∧ (-(2 ^ 62) ≤ i ∧ i < 2 ^ 62 ∧ -(2 ^ 62) ≤ j ∧ j < 2 ^ 62) ∧ R (Itr i (j - i).toNat) H) h fun ds x F H σ ρ Q m p q => ?_
  split at q
  · next i j =>
    obtain ⟨v, r, rfl, rfl, w, r2, rfl, rfl, rfl⟩ := p
    split at q
    · next hb => exact ⟨i, j, rfl, ⟨by omega, by omega, by omega, by omega⟩, q _ F H m.refl itok_range⟩
    · exact q.elim
  · exact q.elim
end

/-! ### targets -/
def UpL {α : Type} (L : List Nat) (l l' : List α) : Prop := l'.length = l.length ∧ ∀ j : Nat, j ∉ L → l'[j]? = l[j]?
theorem UpL.refl {α : Type} {L : List Nat} {l : List α} : UpL L l l := ⟨rfl, fun _ _ => rfl⟩
theorem UpL.trans {α : Type} {L L' : List Nat} {a b c : List α} (x : UpL L a b) (y : UpL L' b c) : UpL (L ++ L') a c :=
  ⟨y.1.trans x.1, fun j h => by
    have h1 : j ∉ L := fun q => h (List.mem_append_left _ q)
    have h2 : j ∉ L' := fun q => h (List.mem_append_right _ q)
    rw [y.2 j h2, x.2 j h1]⟩
theorem UpL.set {α : Type} (l : List α) (i : Nat) (x : α) : UpL [i] l (l.set i x) := ⟨List.length_set .., fun j h => by
  have : i ≠ j := fun q => h (by simp [q])
  rw [List.getElem?_set]; simp [this]⟩
structure EvG (B : Bd) (g : TG) (h : D → Rho → Option Rho) (L : List Nat) : Prop where
  run : ∀ (F H : Hp) (σ : L2.St) (ρ : Rho) (v : V) (d : D) (ρ' : Rho) (Q : L2.St → Hp → Prop), Mt B F H σ ρ → Den F d v → h d ρ = some ρ' → (∀ σ', Mt B F H σ' ρ' → UpL L σ σ' → Q σ' H) → g v σ H Q
  up : ∀ (d : D) (ρ ρ' : Rho), h d ρ = some ρ' → UpL L ρ ρ'
  fz : ∀ (d : D) (ρ ρ' : Rho) (j : Nat) (c : Cell), h d ρ = some ρ' → ρ'[j]? = some c → c.own = true → ρ[j]? = some c ∧ j ∉ L
structure EvGs (B : Bd) (g : TGs) (h : List D → Rho → Option Rho) (L : List Nat) : Prop where
  run : ∀ (F H : Hp) (σ : L2.St) (ρ : Rho) (v : List V) (d : List D) (ρ' : Rho) (Q : L2.St → Hp → Prop), Mt B F H σ ρ → DenL F d v → h d ρ = some ρ' → (∀ σ', Mt B F H σ' ρ' → UpL L σ σ' → Q σ' H) → g v σ H Q
  up : ∀ (d : List D) (ρ ρ' : Rho), h d ρ = some ρ' → UpL L ρ ρ'
  fz : ∀ (d : List D) (ρ ρ' : Rho) (j : Nat) (c : Cell), h d ρ = some ρ' → ρ'[j]? = some c → c.own = true → ρ[j]? = some c ∧ j ∉ L
def hName (i : Nat) : D → Rho → Option Rho := fun d ρ => some (ρ.set i (.fz d))
section
variable {B : Bd}
theorem eg_name {i : Nat} : EvG B (gName i) (hName i) [i] where
  run := fun F H σ ρ v d ρ' Q m p e q => by cases e; exact q _ (m.put p) (UpL.set _ _ _)
  up := fun d ρ ρ' e => by cases e; exact UpL.set _ _ _
  fz := fun d ρ ρ' j c e h1 h2 => by
    cases e
    rcases set_get h1 with ⟨rfl, rfl⟩ | ⟨ne, h1⟩
    · cases h2
    · exact ⟨h1, by simp; exact fun q => ne q.symm⟩
def hNil : List D → Rho → Option Rho := fun d ρ => match d with
  | [] => some ρ
  | _ => none
def hCons (a : D → Rho → Option Rho) (b : List D → Rho → Option Rho) : List D → Rho → Option Rho := fun d ρ => match d with
  | [] => none
  | x :: xs => (a x ρ).bind (b xs)
theorem egs_nil : EvGs B gNil hNil [] where
  run := fun F H σ ρ v d ρ' Q m p e q => by
    cases d with
    | nil => cases e; exact ⟨p, q σ m UpL.refl⟩
    | cons _ _ => cases e
  up := fun d ρ ρ' e => by
    cases d with
    | nil => cases e; exact UpL.refl
    | cons _ _ => cases e
  fz := fun d ρ ρ' j c e h1 h2 => by
    cases d with
    | nil => cases e; exact ⟨h1, by simp⟩
    | cons _ _ => cases e
theorem egs_cons {g : TG} {gs : TGs} {h : D → Rho → Option Rho} {hs : List D → Rho → Option Rho} {L Ls : List Nat} (a : EvG B g h L) (b : EvGs B gs hs Ls) : EvGs B (gCons g gs) (hCons h hs) (L ++ Ls) where
  run := fun F H σ ρ v d ρ' Q m p e q => by
    cases d with
    | nil => cases e
    | cons x xs =>
      obtain ⟨v, r, rfl, p1, p2⟩ := p
      have e' : (h x ρ).bind (hs xs) = some ρ' := e
      cases e1 : h x ρ with
      | none => rw [e1] at e'; cases e'
      | some ρ1 =>
        rw [e1] at e'
        refine ⟨v, r, rfl, a.run F H σ ρ v x ρ1 _ m p1 e1 fun σ1 m1 u1 => ?_⟩
        exact b.run F H σ1 ρ1 r xs ρ' Q m1 p2 e' fun σ2 m2 u2 => q σ2 m2 (u1.trans u2)
  up := fun d ρ ρ' e => by
    cases d with
    | nil => cases e
    | cons x xs =>
      have e' : (h x ρ).bind (hs xs) = some ρ' := e
      cases e1 : h x ρ with
      | none => rw [e1] at e'; cases e'
      | some ρ1 => rw [e1] at e'; exact (a.up x ρ ρ1 e1).trans (b.up xs ρ1 ρ' e')
  fz := fun d ρ ρ' j c e h1 h2 => by
    cases d with
    | nil => cases e
    | cons x xs =>
      have e' : (h x ρ).bind (hs xs) = some ρ' := e
      cases e1 : h x ρ with
      | none => rw [e1] at e'; cases e'
      | some ρ1 =>
        rw [e1] at e'
        obtain ⟨q1, q2⟩ := b.fz xs ρ1 ρ' j c e' h1 h2
        obtain ⟨q3, q4⟩ := a.fz x ρ ρ1 j c e1 q1 h2
        exact ⟨q3, fun z => (List.mem_append.mp z).elim q4 q2⟩
def hTup (n : Nat) (hs : List D → Rho → Option Rho) : D → Rho → Option Rho := fun d ρ => match d with
  | .tuple ds => if ds.length = n then hs ds ρ else none
  | _ => none
theorem eg_tup {K : PySem.W.Frag} {n : Nat} {gs : TGs} {hs : List D → Rho → Option Rho} {L : List Nat} (b : EvGs B gs hs L) : EvG B (gTup K n gs) (hTup n hs) L where
  run := fun F H σ ρ v d ρ' Q m p e q => by
    cases d with
    | tuple ds =>
      obtain ⟨a, vs, rfl, e1, l⟩ := p
      unfold hTup at e
      by_cases hn : ds.length = n
      · simp only [if_pos hn] at e
        exact ⟨a, vs, rfl, SqT.of (m.sub _ _ e1), by rw [← l.len]; exact hn, b.run F H σ ρ vs ds ρ' Q m l e q⟩
      · simp only [if_neg hn] at e; cases e
    | none => cases e
    | bool _ => cases e
    | int _ => cases e
    | str _ => cases e
    | list _ => cases e
    | dict _ => cases e
  up := fun d ρ ρ' e => by
    cases d with
    | tuple ds =>
      unfold hTup at e
      by_cases hn : ds.length = n
      · simp only [if_pos hn] at e; exact b.up ds ρ ρ' e
      · simp only [if_neg hn] at e; cases e
    | none => cases e
    | bool _ => cases e
    | int _ => cases e
    | str _ => cases e
    | list _ => cases e
    | dict _ => cases e
  fz := fun d ρ ρ' j c e h1 h2 => by
    cases d with
    | tuple ds =>
      unfold hTup at e
      by_cases hn : ds.length = n
      · simp only [if_pos hn] at e; exact b.fz ds ρ ρ' j c e h1 h2
      · simp only [if_neg hn] at e; cases e
    | none => cases e
    | bool _ => cases e
    | int _ => cases e
    | str _ => cases e
    | list _ => cases e
    | dict _ => cases e
end

/-! ### wiping slots -/
def wipeR (ρ : Rho) : List Nat → Rho
  | [] => ρ
  | v :: vs => (wipeR ρ vs).set v .no
def restR (ρ ρ1 : Rho) : List Nat → Rho
  | [] => ρ1
  | v :: vs => match ρ[v]? with
    | some c => (restR ρ ρ1 vs).set v c
    | none => restR ρ ρ1 vs
theorem wipeR_len (ρ : Rho) : ∀ vs : List Nat, (wipeR ρ vs).length = ρ.length
  | [] => rfl
  | v :: vs => by rw [wipeR, List.length_set, wipeR_len ρ vs]
theorem wipeR_in {ρ : Rho} {j : Nat} {c : Cell} : ∀ {vs : List Nat}, (wipeR ρ vs)[j]? = some c → c = .no ∨ (j ∉ vs ∧ ρ[j]? = some c)
  | [], h => .inr ⟨by simp, h⟩
  | v :: vs, h => by
    rcases set_get (show ((wipeR ρ vs).set v .no)[j]? = some c from h) with ⟨_, rfl⟩ | ⟨ne, h⟩
    · exact .inl rfl
    · rcases wipeR_in h with r | ⟨r1, r2⟩
      · exact .inl r
      · exact .inr ⟨fun q => (List.mem_cons.mp q).elim (fun z => ne z.symm) r1, r2⟩
theorem wipeR_out {ρ : Rho} {j : Nat} : ∀ {vs : List Nat}, j ∉ vs → (wipeR ρ vs)[j]? = ρ[j]?
  | [], _ => rfl
  | v :: vs, h => by
    have h1 : v ≠ j := fun q => h (by simp [q])
    have h2 : j ∉ vs := fun q => h (List.mem_cons_of_mem _ q)
    rw [wipeR, List.getElem?_set]; simp only [if_neg h1]; exact wipeR_out h2
theorem wipeR_no {ρ : Rho} {j : Nat} {c : Cell} : ∀ {vs : List Nat}, j ∈ vs → (wipeR ρ vs)[j]? = some c → c = .no := fun {vs} h e => by
  rcases wipeR_in e with r | ⟨r, _⟩
  · exact r
  · exact absurd h r
theorem restR_len (ρ ρ1 : Rho) : ∀ vs : List Nat, (restR ρ ρ1 vs).length = ρ1.length
  | [] => rfl
  | v :: vs => by
    unfold restR
    split
    · rw [List.length_set, restR_len ρ ρ1 vs]
    · exact restR_len ρ ρ1 vs
theorem restR_out {ρ ρ1 : Rho} {j : Nat} : ∀ {vs : List Nat}, j ∉ vs → (restR ρ ρ1 vs)[j]? = ρ1[j]?
  | [], _ => rfl
  | v :: vs, h => by
    have h1 : v ≠ j := fun q => h (by simp [q])
    have h2 : j ∉ vs := fun q => h (List.mem_cons_of_mem _ q)
    unfold restR
    split
    · rw [List.getElem?_set]; simp only [if_neg h1]; exact restR_out h2
    · exact restR_out h2
theorem restR_in {ρ ρ1 : Rho} {j : Nat} (hl : ρ.length = ρ1.length) : ∀ {vs : List Nat}, j ∈ vs → (restR ρ ρ1 vs)[j]? = ρ[j]?
  | v :: vs, h => by
    unfold restR
    by_cases e : v = j
    · subst e
      cases q : ρ[v]? with
      | some c =>
        simp only
        have : v < (restR ρ ρ1 vs).length := by rw [restR_len, ← hl]; exact (List.getElem?_eq_some_iff.mp q).1
        rw [List.getElem?_set]; simp [this]
      | none =>
        simp only
        have : ρ.length ≤ v := List.getElem?_eq_none_iff.mp q
        exact List.getElem?_eq_none_iff.mpr (by rw [restR_len, ← hl]; exact this)
    · have h2 : j ∈ vs := (List.mem_cons.mp h).elim (fun z => absurd z.symm e) id
      split
      · rw [List.getElem?_set]; simp only [if_neg e]; exact restR_in hl h2
      · exact restR_in hl h2
theorem wipe_get {σ : L2.St} {j : Nat} : ∀ {vs : List Nat}, (wipe σ vs)[j]? = if j ∈ vs then (if j < σ.length then some none else none) else σ[j]?
  | [] => by simp [wipe]
  | v :: vs => by
    rw [wipe, List.getElem?_set, wipe_length]
    by_cases e : v = j
    · subst e; simp
    · rw [if_neg e, wipe_get (vs := vs)]
      have : (j ∈ v :: vs) ↔ j ∈ vs := by
        rw [List.mem_cons]
        exact ⟨fun q => q.elim (fun z => absurd z.symm e) id, .inr⟩
      simp only [this]
theorem wipe_up {σ σ' : L2.St} {L vs : List Nat} (u : UpL L (wipe σ vs) σ') (h : ∀ i ∈ L, i ∈ vs) : wipe σ' vs = wipe σ vs := by
  have hl : σ'.length = σ.length := by rw [u.1, wipe_length]
  refine List.ext_getElem? fun j => ?_
  rw [wipe_get, wipe_get]
  by_cases hj : j ∈ vs
  · simp [hj, hl]
  · rw [if_neg hj, if_neg hj, u.2 j (fun q => hj (h j q)), wipe_get, if_neg hj]

/-! ### comprehensions -/
def lcGo (h : D → Rho → Option Rho) (ft : M Bool) (fe : M D) (vs : List Nat) : List D → Rho → R (List D)
  | [], ρ => .ok [] ρ
  | d :: ds, ρ => match h d ρ with
    | none => .no
    | some ρ1 => match ft ρ1 with
      | .ok true ρ2 => (match fe ρ2 with
        | .ok x ρ3 => (match lcGo h ft fe vs ds (wipeR ρ3 vs) with
          | .ok xs ρ4 => .ok (x :: xs) ρ4
          | _ => .no)
        | _ => .no)
      | .ok false ρ2 => lcGo h ft fe vs ds (wipeR ρ2 vs)
      | _ => .no
def mLc (fi : M (List D)) (h : D → Rho → Option Rho) (ft : M Bool) (fe : M D) (vs : List Nat) : M D := bnd fi fun items => fun ρ =>
  if items.length ≤ big then (match lcGo h ft fe vs items (wipeR ρ vs) with
    | .ok xs ρ1 => .ok (.list xs) (restR ρ ρ1 vs)
    | _ => .no) else .no
def mYes : M Bool := ret true
section
variable {B : Bd} {EX : Str → Hp → Prop}
theorem ev_yes : Ev B EX VB tYes mYes := fun F H σ ρ Q m h => h true F H m.refl rfl
theorem Mt.write0 {F H : Hp} {σ : L2.St} {ρ : Rho} (m : Mt B F H σ ρ) {a : Addr} {o : HO} (hn : F a = none) (h0 : B.H0 a = none) (na : ¬ Owns σ ρ a) : Mt B F (upd H a o) σ ρ := by
  refine ⟨fun b u e => ?_, m.old, m.new, fun b u e n => ?_, fun b e => ?_, m.len, fun j v c h1 h2 => ?_, m.apart⟩
  · rw [upd_ne (ne_of_none e hn)]; exact m.sub _ _ e
  · rw [upd_ne (ne_of_none e h0)]; exact m.frm b u e n
  · by_cases hb : b = a
    · subst hb; exact h0
    · rw [upd_ne hb] at e; exact m.dom _ e
  · have q := m.cell j v c h1 h2
    cases c with
    | no => trivial
    | fz d' => exact q
    | ow d' =>
      obtain ⟨b, u, rfl, x2, x3, x4, x5⟩ := q
      exact ⟨b, u, rfl, by rw [upd_ne (fun z => na ⟨j, _, by rw [h1, z], h2, rfl⟩)]; exact x2, x3, x4, x5⟩
    | bw d' =>
      obtain ⟨b, u, rfl, x2, x3, x4, x5⟩ := q
      exact ⟨b, u, rfl, by rw [upd_ne (fun z => na ⟨j, _, by rw [h1, z], h2, rfl⟩)]; exact x2, x3, x4, x5⟩
/-- where a comprehension's block stands: the list made so far is at A -/
structure Blk (B : Bd) (A : Addr) (F H : Hp) (σ : L2.St) (ρ : Rho) (F' H' : Hp) (ρ' : Rho) : Prop where
  mt : Mt B F' H' σ ρ'
  old : Same F F'
  new : ∀ a o, F' a = some o → F a = some o ∨ H a = none ∨ Owns σ ρ a
  frm : ∀ a o, H a = some o → ¬ Owns σ ρ a → H' a = some o
  dom : ∀ a, H' a = none → H a = none
  own : ∀ a, Owns σ ρ' a → Owns σ ρ a
  kind : ∀ (i : Nat) (c : Cell), ρ[i]? = some c → ∃ c', ρ'[i]? = some c' ∧ KStep c c'
  nA : F' A = none
theorem Blk.step {A : Addr} {F H F1 H1 F2 H2 : Hp} {σ σ1 : L2.St} {ρ ρ1 ρ2 ρ3 : Rho} {vs L : List Nat} {o' : HO} (hA : H A = none) (hA0 : B.H0 A = none) (hAo : ¬ Owns σ ρ A) (b : Blk B A F H σ ρ F1 H1 ρ1) (hA1 : ∃ o, H1 A = some o)
    (hm : Mt B F1 H1 σ1 ρ2) (up : UpL L σ σ1) (fz : ∀ (j : Nat) (c : Cell), ρ2[j]? = some c → c.own = true → ρ1[j]? = some c ∧ j ∉ L) (ru : UpL L ρ1 ρ2) (hL : ∀ i ∈ L, i ∈ vs)
    (wσ : wipe σ vs = σ) (wρ : ∀ j ∈ vs, ∀ c, ρ[j]? = some c → c = .no) (s : Stp B F1 H1 σ1 ρ2 F2 H2 ρ3) :
    F2 A = none ∧ H2 A = H1 A ∧ ¬ Owns σ1 ρ3 A ∧ Blk B A F H σ ρ F2 (upd H2 A o') (wipeR ρ3 vs) ∧ Blk B A F H σ ρ F2 H2 (wipeR ρ3 vs) := by
  have own2 : ∀ a, Owns σ1 ρ2 a → Owns σ ρ1 a := fun a ⟨j, c, h1, h2, h3⟩ => by
    obtain ⟨q1, q2⟩ := fz j c h2 h3
    exact ⟨j, c, by rw [← up.2 j q2]; exact h1, q1, h3⟩
  have nA2 : ¬ Owns σ1 ρ2 A := fun q => hAo (b.own _ (own2 _ q))
  obtain ⟨oA, eA⟩ := hA1
  have e1 : H2 A = H1 A := by rw [eA]; exact s.frm A oA eA nA2
  have e2 : F2 A = none := by
    cases q : F2 A with
    | none => rfl
    | some u =>
      rcases s.new A u q with z | z | z
      · rw [b.nA] at z; cases z
      · rw [eA] at z; cases z
      · exact absurd z nA2
  have nA3 : ¬ Owns σ1 ρ3 A := fun q => nA2 (s.own _ q)
  have lρ3 : ρ3.length = σ.length := by rw [s.mt.len, up.1]
  have wf : ∀ (i : Nat) c, (wipeR ρ3 vs)[i]? = some c → c = .no ∨ (ρ3[i]? = some c ∧ σ[i]? = σ1[i]?) := fun i c e => by
    rcases wipeR_in e with r | ⟨r1, r2⟩
    · exact .inl r
    · exact .inr ⟨r2, (up.2 i (fun q => r1 (hL i q))).symm⟩
  have mW : Mt B F2 H2 σ (wipeR ρ3 vs) := s.mt.drop (by rw [wipeR_len]; exact lρ3) wf
  have ownW : ∀ a, Owns σ (wipeR ρ3 vs) a → Owns σ1 ρ3 a := fun a ⟨j, c, h1, h2, h3⟩ => by
    rcases wf j c h2 with rfl | ⟨q1, q2⟩
    · cases h3
    · exact ⟨j, c, by rw [← q2]; exact h1, q1, h3⟩
  have ownAll : ∀ a, Owns σ (wipeR ρ3 vs) a → Owns σ ρ a := fun a q => b.own _ (own2 _ (s.own _ (ownW _ q)))
  have old : Same F F2 := b.old.trans s.old
  have new : ∀ a o, F2 a = some o → F a = some o ∨ H a = none ∨ Owns σ ρ a := fun a o e => by
    rcases s.new a o e with z | z | z
    · exact b.new a o z
    · exact .inr (.inl (b.dom _ z))
    · exact .inr (.inr (b.own _ (own2 _ z)))
  have frm : ∀ a o, H a = some o → ¬ Owns σ ρ a → H2 a = some o := fun a o e n => s.frm a o (b.frm a o e n) fun q => n (b.own _ (own2 _ q))
  have dom : ∀ a, H2 a = none → H a = none := fun a e => b.dom _ (s.dom _ e)
  have kind : ∀ (i : Nat) (c : Cell), ρ[i]? = some c → ∃ c', (wipeR ρ3 vs)[i]? = some c' ∧ KStep c c' := fun i c e => by
    by_cases hi : i ∈ vs
    · have := wρ i hi c e
      subst this
      have il : i < (wipeR ρ3 vs).length := by
        obtain ⟨c', q, _⟩ := b.kind i _ e
        have h1 := (List.getElem?_eq_some_iff.mp q).1
        rw [wipeR_len, lρ3, ← b.mt.len]; exact h1
      refine ⟨_, List.getElem?_eq_getElem il, ?_⟩
      rw [wipeR_no hi (List.getElem?_eq_getElem il)]
      trivial
    · obtain ⟨c1, q1, k1⟩ := b.kind i c e
      have q2 : ρ2[i]? = some c1 := by rw [ru.2 i (fun z => hi (hL i z))]; exact q1
      obtain ⟨c3, q3, k3⟩ := s.kind i c1 q2
      exact ⟨c3, by rw [wipeR_out hi]; exact q3, k1.trans k3⟩
  refine ⟨e2, e1, nA3, ⟨mW.write0 e2 hA0 (fun q => nA3 (ownW _ q)), old, new, fun a o e n => ?_, fun a e => ?_, ownAll, kind, e2⟩, ⟨mW, old, new, frm, dom, ownAll, kind, e2⟩⟩
  · rw [upd_ne (ne_of_none e hA)]; exact frm a o e n
  · by_cases ha : a = A
    · subst ha; exact hA
    · rw [upd_ne ha] at e; exact dom _ e
theorem Blk.ext {A : Addr} {F H F1 H1 F2 H2 : Hp} {σ : L2.St} {ρ ρ1 : Rho} (b : Blk B A F H σ ρ F1 H1 ρ1) (hA1 : ∃ o, H1 A = some o) (e : Ext F1 H1 F2 H2) : Blk B A F H σ ρ F2 H2 ρ1 := by
  refine ⟨b.mt.grow e, b.old.trans e.old, fun a o h => ?_, fun a o h n => e.same _ _ (b.frm a o h n), fun a h => b.dom _ (e.same.free h), b.own, b.kind, ?_⟩
  · rcases e.new a o h with z | z
    · exact b.new a o z
    · exact .inr (.inl (b.dom _ z))
  · cases q : F2 A with
    | none => rfl
    | some u =>
      obtain ⟨o, ho⟩ := hA1
      rcases e.new A u q with z | z
      · rw [b.nA] at z; cases z
      · rw [ho] at z; cases z
/-- the block is left -/
theorem Blk.out {A : Addr} {F H F1 H1 : Hp} {σ : L2.St} {ρ ρ1 : Rho} {vs : List Nat} (m : Mt B F H σ ρ) (b : Blk B A F H (wipe σ vs) (wipeR ρ vs) F1 H1 ρ1) : Stp B F H σ ρ F1 H1 (restR ρ ρ1 vs) := by
  have lρ : ρ.length = ρ1.length := by rw [b.mt.len, wipe_length, m.len]
  have σo : ∀ j, j ∉ vs → (wipe σ vs)[j]? = σ[j]? := fun j hj => by rw [wipe_get, if_neg hj]
  have own1 : ∀ a, Owns (wipe σ vs) (wipeR ρ vs) a → Owns σ ρ a ∧ ∀ j c, j ∈ vs → σ[j]? = some (some (V.ref a)) → ρ[j]? = some c → c.own = true → False := fun a ⟨j, c, h1, h2, h3⟩ => by
    rcases wipeR_in h2 with rfl | ⟨r1, r2⟩
    · cases h3
    · rw [σo j r1] at h1
      exact ⟨⟨j, c, h1, r2, h3⟩, fun k c' hk q1 q2 q3 => r1 (by rw [m.apart j k a c c' h1 q1 r2 q2 h3 q3]; exact hk)⟩
  have cellv : ∀ (j : Nat) v c, j ∈ vs → σ[j]? = some v → ρ[j]? = some c → CellOk B F1 H1 v c := fun j v c hj h1 h2 => by
    have q := m.cell j v c h1 h2
    cases c with
    | no => trivial
    | fz d => obtain ⟨u, x, y⟩ := q; exact ⟨u, x, y.mono b.old⟩
    | ow d =>
      obtain ⟨a, o, rfl, x2, x3, x4, x5⟩ := q
      have na : ¬ Owns (wipe σ vs) (wipeR ρ vs) a := fun z => (own1 a z).2 j _ hj h1 h2 rfl
      refine ⟨a, o, rfl, b.frm a o x2 na, x3.mono b.old, ?_, x5⟩
      cases w : F1 a with
      | none => rfl
      | some u =>
        rcases b.new a u w with z | z | z
        · rw [x4] at z; cases z
        · rw [x2] at z; cases z
        · exact absurd z na
    | bw d =>
      obtain ⟨a, o, rfl, x2, x3, x4, x5⟩ := q
      have na : ¬ Owns (wipe σ vs) (wipeR ρ vs) a := fun z => (own1 a z).2 j _ hj h1 h2 rfl
      refine ⟨a, o, rfl, b.frm a o x2 na, x3.mono b.old, ?_, x5⟩
      cases w : F1 a with
      | none => rfl
      | some u =>
        rcases b.new a u w with z | z | z
        · rw [x4] at z; cases z
        · rw [x2] at z; cases z
        · exact absurd z na
  have ownR : ∀ (j : Nat) c a, σ[j]? = some (some (V.ref a)) → (restR ρ ρ1 vs)[j]? = some c → c.own = true → (j ∈ vs ∧ ρ[j]? = some c) ∨ (j ∉ vs ∧ ρ1[j]? = some c ∧ (wipe σ vs)[j]? = some (some (V.ref a))) := fun j c a h1 h2 h3 => by
    by_cases hj : j ∈ vs
    · rw [restR_in lρ hj] at h2; exact .inl ⟨hj, h2⟩
    · rw [restR_out hj] at h2; exact .inr ⟨hj, h2, by rw [σo j hj]; exact h1⟩
  have mt : Mt B F1 H1 σ (restR ρ ρ1 vs) := by
    refine ⟨b.mt.sub, b.mt.old, b.mt.new, b.mt.frm, b.mt.dom, by rw [restR_len, ← lρ]; exact m.len, fun j v c h1 h2 => ?_, fun j k a c c' h1 h2 h3 h4 h5 h6 => ?_⟩
    · by_cases hj : j ∈ vs
      · rw [restR_in lρ hj] at h2; exact cellv j v c hj h1 h2
      · rw [restR_out hj] at h2; exact b.mt.cell j v c (by rw [σo j hj]; exact h1) h2
    · rcases ownR j c a h1 h3 h5 with ⟨y1, y2⟩ | ⟨y1, y2, y3⟩
      · rcases ownR k c' a h2 h4 h6 with ⟨z1, z2⟩ | ⟨z1, z2, z3⟩
        · exact m.apart j k a c c' h1 h2 y2 z2 h5 h6
        · exact ((own1 a (b.own a ⟨k, c', z3, z2, h6⟩)).2 j c y1 h1 y2 h5).elim
      · rcases ownR k c' a h2 h4 h6 with ⟨z1, z2⟩ | ⟨z1, z2, z3⟩
        · exact ((own1 a (b.own a ⟨j, c, y3, y2, h5⟩)).2 k c' z1 h2 z2 h6).elim
        · exact b.mt.apart j k a c c' y3 z3 y2 z2 h5 h6
  refine ⟨mt, b.old, fun a o e => ?_, fun a o e n => b.frm a o e fun q => n (own1 a q).1, b.dom, fun a q => ?_, fun j c e => ?_⟩
  · rcases b.new a o e with z | z | z
    · exact .inl z
    · exact .inr (.inl z)
    · exact .inr (.inr (own1 a z).1)
  · obtain ⟨j, c, h1, h2, h3⟩ := q
    rcases ownR j c a h1 h2 h3 with ⟨y1, y2⟩ | ⟨y1, y2, y3⟩
    · exact ⟨j, c, h1, y2, h3⟩
    · exact (own1 a (b.own a ⟨j, c, y3, y2, h3⟩)).1
  · by_cases hj : j ∈ vs
    · exact ⟨c, by rw [restR_in lρ hj]; exact e, KStep.refl c⟩
    · obtain ⟨c', q1, q2⟩ := b.kind j c (by rw [wipeR_out hj]; exact e)
      exact ⟨c', by rw [restR_out hj]; exact q1, q2⟩
abbrev EX0 : Str → Hp → Prop := fun _ _ => False
theorem evf_lc {wi : TI} {g : TG} {tt : TT} {te : TE} {fi : M (List D)} {h : D → Rho → Option Rho} {ft : M Bool} {fe : M D} {vs L : List Nat} (hi : Ev B EX VI wi fi) (hg : EvG B g h L) (ht : Ev B EX0 VB tt ft) (he : Ev B EX0 VD te fe)
    (hL : ∀ i ∈ L, i ∈ vs) : EvF B EX (tLc wi g tt te vs) (mLc fi h ft fe vs) := by
  refine evf_bind (tb := fun J σ H1 Q => ∀ D, H1 D = none → ∃ W : Nat → Nat → Hp → Prop, (∃ m, W 0 m (upd H1 D (.lst []))) ∧ ∀ i m H, W i m H →
    (J.stop i H ∧ Q (V.ref D) H) ∨ (J.go i H ∧ ∃ Nx : Hp → Prop, (∀ H', Nx H' → ∃ m', m' < m ∧ W (i + 1) m' H') ∧ ∀ x H', J.yld i H x H' → g x (wipe σ vs) H' fun σ2 H2 => wipe σ2 vs = wipe σ vs ∧ tt σ2 H2 fun b H3 =>
      if b = true then te σ2 H3 fun y H4 => ∃ acc, H4 D = some (.lst acc) ∧ acc.length < sizeLine ∧ Nx (upd H4 D (.lst (acc ++ [y]))) else Nx H3)) hi fun items J F H σ ρ Q m ok q => ?_
  intro A hA
  by_cases hbig : items.length ≤ big
  · simp only [if_pos hbig] at q
    cases e : lcGo h ft fe vs items (wipeR ρ vs) with
    | no => rw [e] at q; exact q.elim
    | ex c r => rw [e] at q; exact q.elim
    | ok total ρe =>
      rw [e] at q
      have mw : Mt B F H (wipe σ vs) (wipeR ρ vs) := m.drop (by rw [wipeR_len, wipe_length]; exact m.len) fun i c h1 => by
        rcases wipeR_in h1 with r | ⟨r1, r2⟩
        · exact .inl r
        · exact .inr ⟨r2, by rw [wipe_get, if_neg r1]⟩
      have hAo : ¬ Owns (wipe σ vs) (wipeR ρ vs) A := mw.noOwn hA
      have hA0 : B.H0 A = none := m.dom _ hA
      have b0 : Blk B A F H (wipe σ vs) (wipeR ρ vs) F (upd H A (.lst [])) (wipeR ρ vs) :=
        ⟨mw.write0 (m.sub.free hA) hA0 hAo, Same.refl _, fun _ _ z => .inl z, fun a o z _ => by rw [upd_ne (ne_of_none z hA)]; exact z, fun a z => by
          by_cases ha : a = A
          · subst ha; exact hA
          · rw [upd_ne ha] at z; exact z, fun _ z => z, fun i c z => ⟨c, z, KStep.refl c⟩, m.sub.free hA⟩
      refine ⟨fun i k Hc => i + k = items.length ∧ ∃ Fc ρc accD accV restD, Blk B A F H (wipe σ vs) (wipeR ρ vs) Fc Hc ρc ∧ Hc A = some (.lst accV) ∧ DenL Fc accD accV ∧ accD.length ≤ i ∧
        lcGo h ft fe vs (items.drop i) ρc = .ok restD ρe ∧ accD ++ restD = total, ⟨items.length, by omega, F, wipeR ρ vs, [], [], total, b0, upd_same, rfl, Nat.le_refl _, by rw [List.drop_zero]; exact e, rfl⟩, ?_⟩
      rintro i k Hc ⟨hik, Fc, ρc, accD, accV, restD, b, hcA, dacc, lacc, lc, tot⟩
      have it := ok Fc Hc b.old b.mt.sub
      by_cases hi : i < items.length
      · refine .inr ⟨it.2.1 i hi, fun Hc => (i + 1) + (k - 1) = items.length ∧ ∃ Fc ρc accD accV restD, Blk B A F H (wipe σ vs) (wipeR ρ vs) Fc Hc ρc ∧ Hc A = some (.lst accV) ∧ DenL Fc accD accV ∧ accD.length ≤ i + 1 ∧
          lcGo h ft fe vs (items.drop (i + 1)) ρc = .ok restD ρe ∧ accD ++ restD = total, fun H' hN => ⟨k - 1, by omega, hN⟩, fun x H2 hy => ?_⟩
        obtain ⟨d, F2, ed, ex, dx⟩ := it.2.2 i x H2 hi hy
        have hdrop : items.drop i = d :: items.drop (i + 1) := by
          rw [List.drop_eq_getElem_cons hi]
          rw [List.getElem?_eq_getElem hi] at ed
          rw [Option.some.inj ed]
        rw [hdrop] at lc
        unfold lcGo at lc
        have hA2 : H2 A = some (.lst accV) := ex.same _ _ hcA
        have b2 := b.ext ⟨_, hcA⟩ ex
        cases e1 : h d ρc with
        | none => rw [e1] at lc; cases lc
        | some ρ1 =>
          rw [e1] at lc
          simp only at lc
          refine hg.run F2 H2 (wipe σ vs) ρc x d ρ1 _ b2.mt dx e1 fun σ1 m3 up => ⟨wipe_up up hL, ?_⟩
          refine ht F2 H2 σ1 ρ1 _ m3 ?_
          have wσ : wipe (wipe σ vs) vs = wipe σ vs := wipe_up UpL.refl (fun i h => h)
          have wρ : ∀ j ∈ vs, ∀ c, (wipeR ρ vs)[j]? = some c → c = .no := fun j hj c z => wipeR_no hj z
          cases e2 : ft ρ1 with
          | no => rw [e2] at lc; cases lc
          | ex c r => rw [e2] at lc; cases lc
          | ok bb ρ2 =>
            rw [e2] at lc
            intro b' F3 H3 s3 eb
            subst eb
            cases b' with
            | true =>
              simp only at lc
              simp only [if_true]
              refine he F3 H3 σ1 ρ2 _ s3.mt ?_
              cases e3 : fe ρ2 with
              | no => rw [e3] at lc; cases lc
              | ex c r => rw [e3] at lc; cases lc
              | ok y ρ3 =>
                rw [e3] at lc
                simp only at lc
                intro v F4 H4 s4 dv
                obtain ⟨p1, p2, p3, p4, _⟩ := Blk.step (o' := .lst (accV ++ [v])) hA hA0 hAo b2 ⟨_, hA2⟩ m3 up (fun j c z1 z2 => hg.fz d ρc ρ1 j c e1 z1 z2) (hg.up d ρc ρ1 e1) hL wσ wρ (s3.trans s4)
                cases e4 : lcGo h ft fe vs (items.drop (i + 1)) (wipeR ρ3 vs) with
                | no => rw [e4] at lc; cases lc
                | ex c r => rw [e4] at lc; cases lc
                | ok xs ρ4 =>
                  rw [e4] at lc
                  cases lc
                  refine ⟨accV, by rw [p2]; exact hA2, ?_, by omega, F4, wipeR ρ3 vs, accD ++ [y], accV ++ [v], xs, p4, upd_same, (dacc.mono (ex.old.trans (s3.trans s4).old)).app (DenL.one dv), by simp; exact lacc, e4, by rw [List.append_assoc]; exact tot⟩
                  rw [← dacc.len]
                  exact Nat.lt_of_le_of_lt lacc (Nat.lt_of_lt_of_le hi (big_le hbig))
            | false =>
              simp only at lc
              simp only [Bool.false_eq_true, if_false]
              obtain ⟨p1, p2, p3, _, p4⟩ := Blk.step (o' := .lst accV) hA hA0 hAo b2 ⟨_, hA2⟩ m3 up (fun j c z1 z2 => hg.fz d ρc ρ1 j c e1 z1 z2) (hg.up d ρc ρ1 e1) hL wσ wρ s3
              exact ⟨by omega, F3, wipeR ρ2 vs, accD, accV, restD, p4, by rw [p2]; exact hA2, dacc.mono (ex.old.trans s3.old), by omega, lc, tot⟩
      · have hdrop : items.drop i = [] := List.drop_eq_nil_of_le (by omega)
        rw [hdrop] at lc
        cases lc
        rw [List.append_nil] at tot
        subst tot
        exact .inl ⟨it.1 i (by omega), q (.ref A) Fc Hc (b.out m) ⟨A, _, rfl, hcA, dacc, b.nA, hA⟩⟩
  · simp only [if_neg hbig] at q; exact q.elim
end
end Rn
end

section
set_option Elab.async false
set_option linter.all false
set_option maxRecDepth 100000
/-! Core6: statements, loops, defs. -/
namespace Rn
open PySem PySem.Spec L2

inductive Out where
  | nx (r : Rho)
  | rt (d : D) (r : Rho)
  | rf (d : D) (r : Rho)
  | bk (r : Rho)
  | ct (r : Rho)
  | ex (c : Str) (r : Rho)
  | no
abbrev S := Rho → Out

def PostS (B : Bd) (EX : Str → Hp → Prop) (F : Hp) (E : Ends) : Out → Prop
  | .nx ρ' => ∀ σ' F' H', Mt B F' H' σ' ρ' → Same F F' → E.nx σ' H'
  | .rt d ρ' => ∀ v σ' F' H', Mt B F' H' σ' ρ' → Same F F' → Den F' d v → E.rt v H'
  | .rf d ρ' => ∀ v σ' F' H', Mt B F' H' σ' ρ' → Same F F' → VFr B.H0 F' H' d v → E.rt v H'
  | .bk ρ' => ∀ σ' F' H', Mt B F' H' σ' ρ' → Same F F' → E.bk σ' H'
  | .ct ρ' => ∀ σ' F' H', Mt B F' H' σ' ρ' → Same F F' → E.ct σ' H'
  | .ex c ρ' => ∀ σ' F' H', Mt B F' H' σ' ρ' → EX c H'
  | .no => False
def EvS (B : Bd) (EX : Str → Hp → Prop) (t : TS) (f : S) : Prop :=
  ∀ (F H : Hp) (σ : L2.St) (ρ : Rho) (E : Ends), Mt B F H σ ρ → PostS B EX F E (f ρ) → t E σ H
section
variable {B : Bd} {EX : Str → Hp → Prop}
theorem PostS.from {F F' : Hp} {E : Ends} {o : Out} (h : PostS B EX F E o) (s : Same F F') : PostS B EX F' E o := by
  cases o with
  | nx r => exact fun σ' F2 H2 m q => h σ' F2 H2 m (s.trans q)
  | rt d r => exact fun v σ' F2 H2 m q => h v σ' F2 H2 m (s.trans q)
  | rf d r => exact fun v σ' F2 H2 m q => h v σ' F2 H2 m (s.trans q)
  | bk r => exact fun σ' F2 H2 m q => h σ' F2 H2 m (s.trans q)
  | ct r => exact fun σ' F2 H2 m q => h σ' F2 H2 m (s.trans q)
  | ex c r => exact h
  | no => exact h
/-- an expression, then what leans on its value -/
def sBind {α : Type} (f : M α) (k : α → S) : S := fun ρ => match f ρ with
  | .ok a r => k a r
  | .ex c r => .ex c r
  | .no => .no
theorem es_bind {α β : Type} {VP : L2.St → Hp → Hp → Rho → α → β → Prop} {ta : Rd1 β} {tb : β → TS} {f : M α} {k : α → S} (ha : Ev B EX VP ta f)
    (hb : ∀ (a : α) (x : β) (F H : Hp) (σ : L2.St) (ρ : Rho) (E : Ends), Mt B F H σ ρ → VP σ F H ρ a x → PostS B EX F E (k a ρ) → tb x E σ H) :
    EvS B EX (fun E σ H => ta σ H fun x H1 => tb x E σ H1) (sBind f k) := by
  intro F H σ ρ E m h
  refine ha F H σ ρ _ m ?_
  unfold sBind at h
  cases e : f ρ with
  | ok a r => rw [e] at h; exact fun v F' H' x p => hb a v F' H' σ r E x.mt p (h.from x.old)
  | ex c r => rw [e] at h; exact fun F' H' x => h σ F' H' x.mt
  | no => rw [e] at h; exact h
/-! ### small statements -/
def sNext : S := fun ρ => .nx ρ
def sSeq (f g : S) : S := fun ρ => match f ρ with
  | .nx r => g r
  | o => o
theorem es_next : EvS B EX tNext sNext := fun F H σ ρ E m h => h σ F H m (Same.refl _)
theorem es_seq {t u : TS} {f g : S} (h1 : EvS B EX t f) (h2 : EvS B EX u g) : EvS B EX (tSeq t u) (sSeq f g) := by
  intro F H σ ρ E m h
  refine h1 F H σ ρ _ m ?_
  unfold sSeq at h
  cases e : f ρ with
  | nx r => rw [e] at h; exact fun σ' F' H' m' s => h2 F' H' σ' r E m' (h.from s)
  | rt d r => rw [e] at h; exact h
  | rf d r => rw [e] at h; exact h
  | bk r => rw [e] at h; exact h
  | ct r => rw [e] at h; exact h
  | ex c r => rw [e] at h; exact h
  | no => rw [e] at h; exact h
def sDrop (f : M D) : S := sBind f fun _ => sNext
theorem es_drop {t : TE} {f : M D} (h : Ev B EX VD t f) : EvS B EX (tDrop t) (sDrop f) :=
  es_bind (tb := fun x E σ H => E.nx σ H) h fun a x F H σ ρ E m p q => q σ F H m (Same.refl _)
def sRet (f : M D) : S := sBind f fun d => fun ρ => .rt d ρ
theorem es_ret {t : TE} {f : M D} (h : Ev B EX VD t f) : EvS B EX (tRet t) (sRet f) :=
  es_bind (tb := fun x E σ H => E.rt x H) h fun a x F H σ ρ E m p q => q x σ F H m (Same.refl _) p
/-- return of a list or dict of the def's own, not frozen -/
def sRetF (i : Nat) : S := fun ρ => match ρ[i]? with
  | some (.ow d) => .rf d ρ
  | _ => .no
theorem es_retF {i : Nat} : EvS B EX (tRet (tVar i)) (sRetF i) := by
  intro F H σ ρ E m h
  unfold sRetF at h
  split at h
  · next d e =>
    have hl : i < σ.length := by rw [← m.len]; exact (List.getElem?_eq_some_iff.mp e).1
    have hs : σ[i]? = some σ[i] := List.getElem?_eq_getElem hl
    obtain ⟨a, o, h1, h2, h3, h4, h5⟩ := m.cell i _ _ hs e
    exact ⟨.ref a, by rw [hs, h1], h (.ref a) σ F H m (Same.refl _) ⟨a, o, rfl, h2, h3, h4, h5⟩⟩
  · exact h.elim
def sRetN : S := fun ρ => .rt .none ρ
theorem es_retN : EvS B EX tRetN sRetN := fun F H σ ρ E m h => h .non σ F H m (Same.refl _) rfl
def sIf (c : M Bool) (f g : S) : S := sBind c fun b => if b = true then f else g
theorem es_if {c : TT} {t u : TS} {fc : M Bool} {f g : S} (hc : Ev B EX VB c fc) (h1 : EvS B EX t f) (h2 : EvS B EX u g) : EvS B EX (tIfS c t u) (sIf fc f g) :=
  es_bind (tb := fun b E σ H => if b = true then t E σ H else u E σ H) hc fun a x F H σ ρ E m p q => by
    cases p
    cases a with
    | true => exact h1 F H σ ρ E m q
    | false => exact h2 F H σ ρ E m q
def sBreak : S := fun ρ => .bk ρ
def sCont : S := fun ρ => .ct ρ
theorem es_break : EvS B EX tBreak sBreak := fun F H σ ρ E m h => h σ F H m (Same.refl _)
theorem es_cont : EvS B EX tCont sCont := fun F H σ ρ E m h => h σ F H m (Same.refl _)
/-! ### assignments -/
def sAsg (f : M D) (h : D → Rho → Option Rho) : S := sBind f fun d => fun ρ => match h d ρ with
  | some r => .nx r
  | none => .no
theorem es_asg {t : TE} {f : M D} {g : TG} {h : D → Rho → Option Rho} {L : List Nat} (he : Ev B EX VD t f) (hg : EvG B g h L) : EvS B EX (tAsg t g) (sAsg f h) :=
  es_bind (tb := fun x E σ H => g x σ H E.nx) he fun a x F H σ ρ E m p q => by
    cases e : h a ρ with
    | none => simp only [e] at q; exact q.elim
    | some r =>
      simp only [e] at q
      exact hg.run F H σ ρ x a r _ m p e fun σ' m' _ => q σ' F H m' (Same.refl _)
def sOwn (f : M D) (i : Nat) : S := sBind f fun d => fun ρ => .nx (ρ.set i (.ow d))
theorem es_own {t : TE} {f : M D} {i : Nat} (he : EvF B EX t f) : EvS B EX (tAsg t (gName i)) (sOwn f i) := by
  intro F H σ ρ E m h
  refine he F H σ ρ _ m ?_
  unfold sOwn sBind at h
  cases e : f ρ with
  | ex c r => rw [e] at h; exact fun F' H' x => h σ F' H' x.mt
  | no => rw [e] at h; exact h
  | ok d r =>
    rw [e] at h
    rintro v F' H' x ⟨a, o, rfl, h1, h2, h3, h4⟩
    exact h _ F' H' (x.mt.putOwn h1 h2 h3 (m.dom _ h4) fun q => m.noOwn h4 (x.own _ q)) x.old
/-! ### several at once -/
def ownAt : List Bool → List V → List Addr
  | true :: ms, .ref a :: vs => a :: ownAt ms vs
  | _ :: ms, _ :: vs => ownAt ms vs
  | _, _ => []
def VM (Hs : Hp) : List Bool → Hp → Hp → List D → List V → Prop
  | [], _, _, [], vs => vs = []
  | true :: ms, F, H, d :: ds, vs => ∃ a o r, vs = .ref a :: r ∧ H a = some o ∧ Shal F d o ∧ F a = none ∧ Hs a = none ∧ a ∉ ownAt ms r ∧ VM Hs ms F H ds r
  | false :: ms, F, H, d :: ds, vs => ∃ v r, vs = v :: r ∧ Den F d v ∧ VM Hs ms F H ds r
  | _, _, _, _, _ => False
theorem VM.free {Hs : Hp} : ∀ {ms : List Bool} {F H : Hp} {ds : List D} {vs : List V} {a : Addr}, VM Hs ms F H ds vs → a ∈ ownAt ms vs → Hs a = none
  | [], _, _, [], _, a, h, q => by cases h; cases q
  | [], _, _, _ :: _, _, a, h, q => h.elim
  | true :: ms, F, H, [], vs, a, h, q => h.elim
  | false :: ms, F, H, [], vs, a, h, q => h.elim
  | true :: ms, F, H, d :: ds, vs, a, ⟨b, o, r, e, h1, h2, h3, h4, h5, h6⟩, q => by
    subst e
    rcases List.mem_cons.mp (show a ∈ b :: ownAt ms r from q) with rfl | q
    · exact h4
    · exact VM.free h6 q
  | false :: ms, F, H, d :: ds, vs, a, ⟨v, r, e, h1, h2⟩, q => by
    subst e
    have q' : a ∈ ownAt ms r := by
      cases v <;> exact q
    exact VM.free h2 q'
theorem VM.from {Hs Hs' : Hp} (k : ∀ a, Hs a = none → Hs' a = none) : ∀ {ms : List Bool} {F H : Hp} {ds : List D} {vs : List V}, VM Hs ms F H ds vs → VM Hs' ms F H ds vs
  | [], _, _, [], _, h => h
  | [], _, _, _ :: _, _, h => h.elim
  | true :: ms, F, H, [], vs, h => h.elim
  | false :: ms, F, H, [], vs, h => h.elim
  | true :: ms, F, H, d :: ds, vs, ⟨b, o, r, e, h1, h2, h3, h4, h5, h6⟩ => ⟨b, o, r, e, h1, h2, h3, k _ h4, h5, VM.from k h6⟩
  | false :: ms, F, H, d :: ds, vs, ⟨v, r, e, h1, h2⟩ => ⟨v, r, e, h1, VM.from k h2⟩
def EvM (B : Bd) (EX : Str → Hp → Prop) (ms : List Bool) (t : TA) (f : M (List D)) : Prop :=
  ∀ (F H : Hp) (σ : L2.St) (ρ : Rho) (Q : List V → Hp → Prop), Mt B F H σ ρ → Post B EX F H σ ρ (fun _ F' H' _ ds vs => VM H ms F' H' ds vs) (f ρ) Q → t σ H Q
theorem evm_nil : EvM B EX [] tNil mNil := fun F H σ ρ Q m h => h [] F H m.refl rfl
theorem evm_cons {ms : List Bool} {ta : TE} {tr : TA} {fa : M D} {fr : M (List D)} (ha : Ev B EX VD ta fa) (hr : EvM B EX ms tr fr) : EvM B EX (false :: ms) (tCons ta tr) (mCons fa fr) := by
  intro F H σ ρ Q m h
  refine ha F H σ ρ _ m ?_
  unfold mCons bnd at h
  cases e : fa ρ with
  | ex c r => rw [e] at h; exact h
  | no => rw [e] at h; exact h
  | ok d r =>
    rw [e] at h
    simp only at h
    intro v F1 H1 x1 dv
    refine hr F1 H1 σ r _ x1.mt ?_
    cases e2 : fr r with
    | ex c r2 => rw [e2] at h; exact fun F2 H2 x2 => h F2 H2 (x1.trans x2)
    | no => rw [e2] at h; exact h
    | ok ds r2 =>
      rw [e2] at h
      exact fun vs F2 H2 x2 hv => h (v :: vs) F2 H2 (x1.trans x2) ⟨v, vs, rfl, dv.mono x2.old, VM.from (fun a z => x1.dom _ z) hv⟩
theorem evm_own {ms : List Bool} {ta : TE} {tr : TA} {fa : M D} {fr : M (List D)} (ha : EvF B EX ta fa) (hr : EvM B EX ms tr fr) : EvM B EX (true :: ms) (tCons ta tr) (mCons fa fr) := by
  intro F H σ ρ Q m h
  refine ha F H σ ρ _ m ?_
  unfold mCons bnd at h
  cases e : fa ρ with
  | ex c r => rw [e] at h; exact h
  | no => rw [e] at h; exact h
  | ok d r =>
    rw [e] at h
    simp only at h
    rintro v F1 H1 x1 ⟨a, o, rfl, h1, h2, h3, h4⟩
    refine hr F1 H1 σ r _ x1.mt ?_
    have na : ¬ Owns σ r a := fun q => m.noOwn h4 (x1.own _ q)
    cases e2 : fr r with
    | ex c r2 => rw [e2] at h; exact fun F2 H2 x2 => h F2 H2 (x1.trans x2)
    | no => rw [e2] at h; exact h
    | ok ds r2 =>
      rw [e2] at h
      intro vs F2 H2 x2 hv
      refine h (.ref a :: vs) F2 H2 (x1.trans x2) ⟨a, o, vs, rfl, x2.frm a o h1 na, h2.mono x2.old, ?_, h4, fun q => ?_, VM.from (fun a z => x1.dom _ z) hv⟩
      · cases w : F2 a with
        | none => rfl
        | some u =>
          rcases x2.new a u w with z | z | z
          · rw [h3] at z; cases z
          · rw [h1] at z; cases z
          · exact absurd z na
      · have z := VM.free hv q
        rw [h1] at z; cases z
def parSet : List Bool → List Nat → List D → Rho → Option Rho
  | [], [], [], ρ => some ρ
  | m :: ms, i :: is, d :: ds, ρ => parSet ms is ds (ρ.set i (if m = true then .ow d else .fz d))
  | _, _, _, _ => none
def setAll : List Nat → List V → L2.St → L2.St
  | i :: is, v :: vs, σ => setAll is vs (σ.set i (some v))
  | _, _, σ => σ
theorem par_set {Hs : Hp} {F H : Hp} (hs : ∀ a, Hs a = none → B.H0 a = none) : ∀ {ms : List Bool} {is : List Nat} {ds : List D} {vs : List V} {σ : L2.St} {ρ ρ' : Rho}, Mt B F H σ ρ → VM Hs ms F H ds vs → (∀ a ∈ ownAt ms vs, ¬ Owns σ ρ a) → parSet ms is ds ρ = some ρ' → Mt B F H (setAll is vs σ) ρ' ∧ vs.length = is.length
  | [], [], [], vs, σ, ρ, ρ', m, h, _, e => by cases h; cases e; exact ⟨m, rfl⟩
  | [], _ :: _, [], vs, σ, ρ, ρ', m, h, _, e => by cases e
  | [], _, _ :: _, vs, σ, ρ, ρ', m, h, _, e => h.elim
  | true :: ms, _, [], vs, σ, ρ, ρ', m, h, _, e => h.elim
  | false :: ms, _, [], vs, σ, ρ, ρ', m, h, _, e => h.elim
  | true :: ms, [], _ :: _, vs, σ, ρ, ρ', m, h, _, e => by cases e
  | false :: ms, [], _ :: _, vs, σ, ρ, ρ', m, h, _, e => by cases e
  | true :: ms, i :: is, d :: ds, vs, σ, ρ, ρ', m, ⟨a, o, r, ev, h1, h2, h3, h4, h5, h6⟩, na, e => by
    subst ev
    have na1 : ¬ Owns σ ρ a := na a (List.mem_cons_self ..)
    have m1 := m.putOwn (i := i) h1 h2 h3 (hs _ h4) na1
    have na2 : ∀ b ∈ ownAt ms r, ¬ Owns (σ.set i (some (.ref a))) (ρ.set i (.ow d)) b := fun b hb ⟨j, c, q1, q2, q3⟩ => by
      rcases set_get q1 with ⟨_, z⟩ | ⟨ne, q1⟩
      · cases z; exact h5 hb
      · rcases set_get q2 with ⟨z, _⟩ | ⟨_, q2⟩
        · exact absurd z ne
        · exact na b (List.mem_cons_of_mem _ hb) ⟨j, c, q1, q2, q3⟩
    obtain ⟨p1, p2⟩ := par_set hs (is := is) m1 h6 na2 (show parSet ms is ds (ρ.set i (.ow d)) = some ρ' from e)
    exact ⟨p1, by simp [p2]⟩
  | false :: ms, i :: is, d :: ds, vs, σ, ρ, ρ', m, ⟨v, r, ev, h1, h2⟩, na, e => by
    subst ev
    have m1 := m.put (i := i) h1
    have na2 : ∀ b ∈ ownAt ms r, ¬ Owns (σ.set i (some v)) (ρ.set i (.fz d)) b := fun b hb ⟨j, c, q1, q2, q3⟩ => by
      rcases set_get q2 with ⟨_, z⟩ | ⟨ne, q2⟩
      · subst z; cases q3
      · rcases set_get q1 with ⟨z, _⟩ | ⟨_, q1⟩
        · exact absurd z ne
        · refine na b ?_ ⟨j, c, q1, q2, q3⟩
          cases v <;> exact hb
    obtain ⟨p1, p2⟩ := par_set hs (is := is) m1 h2 na2 (show parSet ms is ds (ρ.set i (.fz d)) = some ρ' from e)
    exact ⟨p1, by simp [p2]⟩
def sPar (ms : List Bool) (is : List Nat) (f : M (List D)) : S := sBind f fun ds => fun ρ => match parSet ms is ds ρ with
  | some r => .nx r
  | none => .no
theorem es_parG {ms : List Bool} {is : List Nat} {ta : TA} {f : M (List D)} {tb : List V → TS} (ha : EvM B EX ms ta f)
    (hb : ∀ (vs : List V) (E : Ends) (σ : L2.St) (F H : Hp), Same F H → vs.length = is.length → (∀ H', Ext F H F H' → E.nx (setAll is vs σ) H') → tb vs E σ H) :
    EvS B EX (fun E σ H => ta σ H fun vs H1 => tb vs E σ H1) (sPar ms is f) := by
  intro F H σ ρ E m h
  refine ha F H σ ρ _ m ?_
  unfold sPar sBind at h
  cases e : f ρ with
  | ex c r => rw [e] at h; exact fun F' H' x => h σ F' H' x.mt
  | no => rw [e] at h; exact h
  | ok ds r =>
    rw [e] at h
    intro vs F' H' x hv
    cases e2 : parSet ms is ds r with
    | none => simp only [e2] at h; exact h.elim
    | some r2 =>
      simp only [e2] at h
      obtain ⟨p1, p2⟩ := par_set (fun a z => m.dom _ z) (is := is) x.mt hv (fun a q z => m.noOwn (VM.free hv q) (x.own _ z)) e2
      refine hb vs E σ F' H' x.mt.sub p2 fun H2 e => h _ F' H2 (p1.grow e) x.old
theorem es_par2 {ms : List Bool} {i j : Nat} {ta : TA} {f : M (List D)} (ha : EvM B EX ms ta f) : EvS B EX (tPar i j ta) (sPar ms [i, j] f) := by
  refine es_parG (tb := fun vs E σ H => ∃ v w, vs = [v, w] ∧ E.nx ((σ.set i (some v)).set j (some w)) H) ha fun vs E σ F H s hl q => ?_
  match vs, hl with
  | [v, w], _ => exact ⟨v, w, rfl, q H (Ext.refl s)⟩
theorem es_par3 {ms : List Bool} {i j l : Nat} {ta : TA} {f : M (List D)} (ha : EvM B EX ms ta f) : EvS B EX (tPar3 i j l ta) (sPar ms [i, j, l] f) := by
  refine es_parG (tb := fun vs E σ H => ∃ u v w, vs = [u, v, w] ∧ E.nx (((σ.set i (some u)).set j (some v)).set l (some w)) H) ha fun vs E σ F H s hl q => ?_
  match vs, hl with
  | [u, v, w], _ => exact ⟨u, v, w, rfl, q H (Ext.refl s)⟩
/-- .. by a tuple that is made and taken apart -/
def gNames : List Nat → TGs
  | [] => gNil
  | i :: is => gCons (gName i) (gNames is)
theorem gNames_run {H : Hp} : ∀ {is : List Nat} {vs : List V} {σ : L2.St} {Q : L2.St → Hp → Prop}, vs.length = is.length → Q (setAll is vs σ) H → gNames is vs σ H Q
  | [], [], σ, Q, _, h => ⟨rfl, h⟩
  | i :: is, v :: vs, σ, Q, hl, h => ⟨v, vs, rfl, gNames_run (is := is) (by simpa using hl) h⟩
  | [], _ :: _, _, _, hl, _ => by simp at hl
  | _ :: _, [], _, _, hl, _ => by simp at hl
theorem es_parT {K : PySem.W.Frag} {ms : List Bool} {is : List Nat} {n : Nat} {ta : TA} {f : M (List D)} (ha : EvM B EX ms ta f) (hn : is.length = n) (hn2 : n ≤ 100) : EvS B EX (tAsg (tTup ta) (gTup K n (gNames is))) (sPar ms is f) := by
  refine es_parG (tb := fun vs E σ H => vs.length ≤ sizeLine ∧ ∀ p, H p = none → gTup K n (gNames is) (V.ref p) σ (upd H p (.tup vs)) E.nx) ha fun vs E σ F H s hl q => ?_
  refine ⟨by rw [hl, hn]; exact fewer hn2, fun p hp => ⟨p, vs, rfl, SqT.of upd_same, by rw [hl]; exact hn, gNames_run hl (q _ (Ext.loose s hp _))⟩⟩
/-! ### lists that change -/
def putCell (ρ : Rho) (i : Nat) (d : D) : Option Rho := match ρ[i]? with
  | some (.ow _) => some (ρ.set i (.ow d))
  | some (.bw _) => some (ρ.set i (.bw d))
  | _ => none
theorem Mt.putCell {F H : Hp} {σ : L2.St} {ρ ρ' : Rho} (m : Mt B F H σ ρ) {i : Nat} {d : D} (h : putCell ρ i d = some ρ') : ∃ a o e, σ[i]? = some (some (.ref a)) ∧ cellD ρ[i]? = some e ∧ H a = some o ∧ Shal F e o ∧ ∀ o', Shal F d o' → Stp B F H σ ρ F (upd H a o') ρ' := by
  unfold Rn.putCell at h
  cases e : ρ[i]? with
  | none => rw [e] at h; cases h
  | some c =>
    rw [e] at h
    have hi : i < σ.length := by rw [← m.len]; exact (List.getElem?_eq_some_iff.mp e).1
    have hv := List.getElem?_eq_getElem hi
    have w := m.cell i _ c hv e
    cases c with
    | no => cases h
    | fz y => cases h
    | ow y =>
      cases h
      obtain ⟨a, o, e1, e2, e3, e4, e5⟩ := w
      rw [e1] at hv
      exact ⟨a, o, y, hv, rfl, e2, e3, fun o' sh => m.write hv e rfl sh (.inl ⟨y, rfl, rfl⟩)⟩
    | bw y =>
      cases h
      obtain ⟨a, o, e1, e2, e3, e4, e5⟩ := w
      rw [e1] at hv
      exact ⟨a, o, y, hv, rfl, e2, e3, fun o' sh => m.write hv e rfl sh (.inr ⟨y, rfl, rfl⟩)⟩
theorem tVar_of {i : Nat} {v : V} {σ : L2.St} {H : Hp} {Q : VK} (h : σ[i]? = some (some v)) (q : Q v H) : tVar i σ H Q := ⟨v, h, q⟩
/-- xs.append(e) -/
def appendD (ρ : Rho) (i : Nat) (d : D) : Option Rho := match cellD ρ[i]? with
  | some (.list ds) => if ds.length < big then putCell ρ i (.list (ds ++ [d])) else none
  | _ => none
def sAppend (i : Nat) (f : M D) : S := fun ρ => match cellD ρ[i]? with
  | some (.list _) => sBind f (fun d => fun ρ => match appendD ρ i d with
    | some r => .nx r
    | none => .no) ρ
  | _ => .no
theorem es_append {K : PySem.W.Frag} {i : Nat} {te : TE} {f : M D} (h : Ev B EX VD te f) : EvS B EX (tDrop (tBM K "list" rAppend (tVar i) (tCons te tNil))) (sAppend i f) := by
  intro F H σ ρ E m q
  unfold sAppend at q
  cases e0 : cellD ρ[i]? with
  | none => rw [e0] at q; exact q.elim
  | some d0 =>
    rw [e0] at q
    cases d0 with
    | list ds0 =>
      simp only at q
      have hv : ∃ v, σ[i]? = some (some v) ∧ TvOk σ F H ρ (.s i) v := by
        cases e1 : ρ[i]? with
        | none => rw [e1] at e0; cases e0
        | some c =>
          have hi : i < σ.length := by rw [← m.len]; exact (List.getElem?_eq_some_iff.mp e1).1
          have hv := List.getElem?_eq_getElem hi
          have w := m.cell i _ c hv e1
          have g : ∃ u, σ[i]? = some (some u) := by
            cases c with
            | no => rw [e1] at e0; cases e0
            | fz d => obtain ⟨u, e1, e2⟩ := w; exact ⟨u, by rw [hv, e1]⟩
            | ow d => obtain ⟨a, o, e1, _⟩ := w; exact ⟨.ref a, by rw [hv, e1]⟩
            | bw d => obtain ⟨a, o, e1, _⟩ := w; exact ⟨.ref a, by rw [hv, e1]⟩
          obtain ⟨u, hu⟩ := g
          exact ⟨u, hu, hu, _, e0⟩
      obtain ⟨v, hv1, hv2⟩ := hv
      obtain ⟨a0, vs0, rfl, ha0, _⟩ := (hv2.now m e0).lst m.sub
      refine ⟨.ref a0, hv1, .inl ⟨rfl, vs0, SqL.of ha0⟩, ?_⟩
      refine h F H σ ρ _ m ?_
      unfold sBind at q
      cases e : f ρ with
      | ex c r => rw [e] at q; exact fun F' H' x => q σ F' H' x.mt
      | no => rw [e] at q; exact q
      | ok d r =>
        rw [e] at q
        simp only at q
        intro y F1 H1 x1 dy
        unfold appendD at q
        cases e2 : cellD r[i]? with
        | none => simp only [e2] at q; exact q.elim
        | some d2 =>
          simp only [e2] at q
          cases d2 with
          | list ds =>
            simp only at q
            by_cases hl : ds.length < big
            · simp only [if_pos hl] at q
              cases e3 : putCell r i (.list (ds ++ [d])) with
              | none => simp only [e3] at q; exact q.elim
              | some r2 =>
                simp only [e3] at q
                obtain ⟨a, o, e', k1, k2, k3, k4, k5⟩ := x1.mt.putCell e3
                rw [hv1] at k1
                cases k1
                rw [e2] at k2
                cases k2
                obtain ⟨vs, rfl, l⟩ := k4.lst
                refine ⟨a0, vs, y, rfl, rfl, k3, ?_, ?_⟩
                · rw [← l.len]; exact Nat.lt_of_lt_of_le hl (big_le (Nat.le_refl _))
                · have st := k5 (.lst (vs ++ [y])) (l.app (DenL.one dy))
                  exact q σ F1 _ st.mt (x1.old.trans st.old)
            · simp only [if_neg hl] at q; exact q.elim
          | none => exact q.elim
          | bool _ => exact q.elim
          | int _ => exact q.elim
          | str _ => exact q.elim
          | tuple _ => exact q.elim
          | dict _ => exact q.elim
    | none => exact q.elim
    | bool _ => exact q.elim
    | int _ => exact q.elim
    | str _ => exact q.elim
    | tuple _ => exact q.elim
    | dict _ => exact q.elim
/-- xs.pop() -/
def mPop (i : Nat) : M D := fun ρ => match cellD ρ[i]? with
  | some (.list ds) => (match ds[ds.length - 1]? with
    | some d => (match putCell ρ i (.list ds.dropLast) with
      | some r => .ok d r
      | none => .no)
    | none => .no)
  | _ => .no
theorem ev_pop {K : PySem.W.Frag} {i : Nat} : Ev B EX VD (tBM0 K "list" rPop (tVar i)) (mPop i) := by
  intro F H σ ρ Q m q
  unfold mPop at q
  cases e2 : cellD ρ[i]? with
  | none => simp only [e2] at q; exact q.elim
  | some d2 =>
    simp only [e2] at q
    cases d2 with
    | list ds =>
      simp only at q
      cases e4 : ds[ds.length - 1]? with
      | none => simp only [e4] at q; exact q.elim
      | some d =>
        simp only [e4] at q
        cases e3 : putCell ρ i (.list ds.dropLast) with
        | none => simp only [e3] at q; exact q.elim
        | some r2 =>
          simp only [e3] at q
          obtain ⟨a, o, e', k1, k2, k3, k4, k5⟩ := m.putCell e3
          rw [e2] at k2
          cases k2
          obtain ⟨vs, rfl, l⟩ := k4.lst
          obtain ⟨v, h1, h2⟩ := l.get e4
          refine ⟨.ref a, k1, .inl ⟨rfl, vs, SqL.of k3⟩, a, vs, v, rfl, rfl, k3, by rw [← l.len]; exact h1, ?_⟩
          exact q v F _ (k5 (.lst vs.dropLast) l.dropLast) h2
    | none => exact q.elim
    | bool _ => exact q.elim
    | int _ => exact q.elim
    | str _ => exact q.elim
    | tuple _ => exact q.elim
    | dict _ => exact q.elim
/-- xs[k] = e -/
def setD (ρ : Rho) (i : Nat) (k : Int) (d : D) : Option Rho := match cellD ρ[i]? with
  | some (.list ds) => (match ixN ds.length k with
    | some j => putCell ρ i (.list (ds.set j d))
    | none => none)
  | _ => none
def sSetItem (i : Nat) (fe fk : M D) : S := sBind fe fun d => fun ρ => match cellD ρ[i]? with
  | some _ => sBind fk (fun kd => fun ρ => match asInt kd with
    | some k => (match setD ρ i k d with
      | some r => .nx r
      | none => .no)
    | none => .no) ρ
  | none => .no
theorem slot_at {F H : Hp} {σ : L2.St} {ρ : Rho} {i : Nat} {d0 : D} (m : Mt B F H σ ρ) (e0 : cellD ρ[i]? = some d0) : ∃ v, σ[i]? = some (some v) ∧ TvOk σ F H ρ (.s i) v := by
  cases e1 : ρ[i]? with
  | none => rw [e1] at e0; cases e0
  | some c =>
    have hi : i < σ.length := by rw [← m.len]; exact (List.getElem?_eq_some_iff.mp e1).1
    have hv := List.getElem?_eq_getElem hi
    have w := m.cell i _ c hv e1
    have g : ∃ u, σ[i]? = some (some u) := by
      cases c with
      | no => rw [e1] at e0; cases e0
      | fz d => obtain ⟨u, e1, e2⟩ := w; exact ⟨u, by rw [hv, e1]⟩
      | ow d => obtain ⟨a, o, e1, _⟩ := w; exact ⟨.ref a, by rw [hv, e1]⟩
      | bw d => obtain ⟨a, o, e1, _⟩ := w; exact ⟨.ref a, by rw [hv, e1]⟩
    obtain ⟨u, hu⟩ := g
    exact ⟨u, hu, hu, _, e0⟩
theorem es_setitem {i : Nat} {te tk : TE} {fe fk : M D} (he : Ev B EX VD te fe) (hk : Ev B EX VD tk fk) : EvS B EX (tAsg te (gSub (tVar i) tk rSetL)) (sSetItem i fe fk) := by
  refine es_bind (tb := fun x E σ H => gSub (tVar i) tk rSetL x σ H E.nx) he fun d y F H σ ρ E m dy q => ?_
  cases e0 : cellD ρ[i]? with
  | none => simp only [e0] at q; exact q.elim
  | some d0 =>
    simp only [e0] at q
    obtain ⟨v, hv1, hv2⟩ := slot_at m e0
    refine ⟨v, hv1, ?_⟩
    refine hk F H σ ρ _ m ?_
    unfold sBind at q
    cases e : fk ρ with
    | ex c r => rw [e] at q; exact fun F' H' x => q σ F' H' x.mt
    | no => rw [e] at q; exact q
    | ok kd r =>
      rw [e] at q
      simp only at q
      intro w F1 H1 x1 dw
      cases e5 : asInt kd with
      | none => simp only [e5] at q; exact q.elim
      | some k =>
        simp only [e5] at q
        have e6 := asInt_eq e5
        subst e6
        have ew : w = V.int k := dw
        subst ew
        unfold setD at q
        cases e2 : cellD r[i]? with
        | none => simp only [e2] at q; exact q.elim
        | some d2 =>
          simp only [e2] at q
          cases d2 with
          | list ds =>
            simp only at q
            cases e7 : ixN ds.length k with
            | none => simp only [e7] at q; exact q.elim
            | some j =>
              simp only [e7] at q
              cases e3 : putCell r i (.list (ds.set j d)) with
              | none => simp only [e3] at q; exact q.elim
              | some r2 =>
                simp only [e3] at q
                obtain ⟨a, o, e', k1, k2, k3, k4, k5⟩ := x1.mt.putCell e3
                rw [hv1] at k1
                cases k1
                rw [e2] at k2
                cases k2
                obtain ⟨vs, rfl, l⟩ := k4.lst
                refine ⟨a, vs, k, j, rfl, rfl, k3, by rw [← l.len]; exact e7, ?_⟩
                have st := k5 (.lst (vs.set j y)) (DenL.set (dy.mono x1.old) j l)
                exact q σ F1 _ st.mt (x1.old.trans st.old)
          | none => exact q.elim
          | bool _ => exact q.elim
          | int _ => exact q.elim
          | str _ => exact q.elim
          | tuple _ => exact q.elim
          | dict _ => exact q.elim
/-! ### loops -/
def forGo (h : D → Rho → Option Rho) (b : S) : List D → S
  | [], ρ => .nx ρ
  | d :: ds, ρ => match h d ρ with
    | none => .no
    | some ρ1 => match b ρ1 with
      | .nx ρ2 => forGo h b ds ρ2
      | .ct ρ2 => forGo h b ds ρ2
      | .bk ρ2 => .nx ρ2
      | o => o
def sFor (fi : M (List D)) (h : D → Rho → Option Rho) (b : S) : S := sBind fi fun items => forGo h b items
theorem es_for {wi : TI} {g : TG} {tb : TS} {fi : M (List D)} {h : D → Rho → Option Rho} {L : List Nat} {fb : S} (hi : Ev B EX VI wi fi) (hg : EvG B g h L) (hb : EvS B EX tb fb) : EvS B EX (tFor wi g tb) (sFor fi h fb) := by
  refine es_bind (tb := fun J D σ H1 => ∃ W : Nat → Nat → L2.St → Hp → Prop, (∃ m, W 0 m σ H1) ∧ ∀ i m σ H, W i m σ H →
    (J.stop i H ∧ D.nx σ H) ∨ (J.go i H ∧ ∃ N : L2.St → Hp → Prop, (∀ σ' H', N σ' H' → ∃ m', m' < m ∧ W (i + 1) m' σ' H') ∧ ∀ x H', J.yld i H x H' → g x σ H' fun σ2 H2 => tb { D with nx := N, ct := N, bk := D.nx } σ2 H2)) hi fun items J F H σ ρ E m ok q => ?_
  refine ⟨fun i k σc Hc => i + k = items.length ∧ ∃ Fc ρc, Same F Fc ∧ Mt B Fc Hc σc ρc ∧ PostS B EX F E (forGo h fb (items.drop i) ρc), ⟨items.length, by omega, F, ρ, Same.refl _, m, by rw [List.drop_zero]; exact q⟩, ?_⟩
  rintro i k σc Hc ⟨hik, Fc, ρc, sc, mc, q⟩
  have it := ok Fc Hc sc mc.sub
  by_cases hi : i < items.length
  · refine .inr ⟨it.2.1 i hi, fun σc Hc => (i + 1) + (k - 1) = items.length ∧ ∃ Fc ρc, Same F Fc ∧ Mt B Fc Hc σc ρc ∧ PostS B EX F E (forGo h fb (items.drop (i + 1)) ρc), fun σ' H' hN => ⟨k - 1, by omega, hN⟩, fun x H2 hy => ?_⟩
    obtain ⟨d, F2, ed, ex, dx⟩ := it.2.2 i x H2 hi hy
    have hdrop : items.drop i = d :: items.drop (i + 1) := by
      rw [List.drop_eq_getElem_cons hi]
      rw [List.getElem?_eq_getElem hi] at ed
      rw [Option.some.inj ed]
    rw [hdrop] at q
    unfold forGo at q
    cases e1 : h d ρc with
    | none => rw [e1] at q; exact q.elim
    | some ρ1 =>
      rw [e1] at q
      simp only at q
      refine hg.run F2 H2 σc ρc x d ρ1 _ (mc.grow ex) dx e1 fun σ1 m3 up => ?_
      refine hb F2 H2 σ1 ρ1 _ m3 ?_
      have s2 : Same F F2 := sc.trans ex.old
      cases e2 : fb ρ1 with
      | nx r => rw [e2] at q; exact fun σ' F' H' m' s => ⟨by omega, F', r, s2.trans s, m', q⟩
      | ct r => rw [e2] at q; exact fun σ' F' H' m' s => ⟨by omega, F', r, s2.trans s, m', q⟩
      | bk r => rw [e2] at q; exact fun σ' F' H' m' s => q σ' F' H' m' (s2.trans s)
      | rt d r => rw [e2] at q; exact fun v σ' F' H' m' s => q v σ' F' H' m' (s2.trans s)
      | rf d r => rw [e2] at q; exact fun v σ' F' H' m' s => q v σ' F' H' m' (s2.trans s)
      | ex c r => rw [e2] at q; exact q
      | no => rw [e2] at q; exact q
  · have hdrop : items.drop i = [] := List.drop_eq_nil_of_le (by omega)
    rw [hdrop] at q
    exact .inl ⟨it.1 i (by omega), q σc Fc Hc mc sc⟩
def whileGo (c : M Bool) (b : S) : Nat → S
  | 0, _ => .no
  | n + 1, ρ => match c ρ with
    | .ok true ρ1 => (match b ρ1 with
      | .nx ρ2 => whileGo c b n ρ2
      | .ct ρ2 => whileGo c b n ρ2
      | .bk ρ2 => .nx ρ2
      | o => o)
    | .ok false ρ1 => .nx ρ1
    | .ex x r => .ex x r
    | .no => .no
theorem es_while {c : TT} {tb : TS} {fc : M Bool} {fb : S} {n : Nat} (hc : Ev B EX VB c fc) (hb : EvS B EX tb fb) : EvS B EX (tWhile c tb) (whileGo fc fb n) := by
  intro F H σ ρ E m q
  refine ⟨fun k σc Hc => ∃ Fc ρc, Same F Fc ∧ Mt B Fc Hc σc ρc ∧ PostS B EX F E (whileGo fc fb k ρc), ⟨n, F, ρ, Same.refl _, m, q⟩, ?_⟩
  rintro k σc Hc ⟨Fc, ρc, sc, mc, q⟩
  refine hc Fc Hc σc ρc _ mc ?_
  cases k with
  | zero => exact q.elim
  | succ k =>
    unfold whileGo at q
    cases e : fc ρc with
    | no => rw [e] at q; exact q.elim
    | ex x r => rw [e] at q; exact fun F' H' x => q σc F' H' x.mt
    | ok b r =>
      rw [e] at q
      intro b' F1 H1 x1 eb
      subst eb
      cases b' with
      | false => simp only [Bool.false_eq_true, if_false]; exact q σc F1 H1 x1.mt (sc.trans x1.old)
      | true =>
        simp only [if_true]
        simp only at q
        refine ⟨fun σ' H' => ∃ Fc ρc, Same F Fc ∧ Mt B Fc H' σ' ρc ∧ PostS B EX F E (whileGo fc fb k ρc), fun σ' H' hN => ⟨k, Nat.lt_succ_self _, hN⟩, ?_⟩
        refine hb F1 H1 σc r _ x1.mt ?_
        have s2 : Same F F1 := sc.trans x1.old
        cases e2 : fb r with
        | nx r => rw [e2] at q; exact fun σ' F' H' m' s => ⟨F', r, s2.trans s, m', q⟩
        | ct r => rw [e2] at q; exact fun σ' F' H' m' s => ⟨F', r, s2.trans s, m', q⟩
        | bk r => rw [e2] at q; exact fun σ' F' H' m' s => q σ' F' H' m' (s2.trans s)
        | rt d r => rw [e2] at q; exact fun v σ' F' H' m' s => q v σ' F' H' m' (s2.trans s)
        | rf d r => rw [e2] at q; exact fun v σ' F' H' m' s => q v σ' F' H' m' (s2.trans s)
        | ex c r => rw [e2] at q; exact q
        | no => rw [e2] at q; exact q
/-! ### raise -/
def sRaise (c : Str) : S := fun ρ => .ex c ρ
theorem es_raise {C : Addr} {c : Str} {E : XK} (hE : ∀ H, EX c H → E (.ref C) none H) : EvS B EX (fun _ σ H => (fun (_ : L2.St) H (Q : XK) => Q (.ref C) none H) σ H fun cls d H' => (fun cls d (_ : L2.St) H => E cls d H) cls d σ H') (sRaise c) := fun F H σ ρ E' m h => hE H (h σ F H m)
end

/-! ### defs -/
inductive RR where
  | ok (d : D)
  | fr (d : D)
  | ex (c : Str)
  | no
def finO : Out → RR
  | .nx _ => .ok .none
  | .rt d _ => .ok d
  | .rf d _ => .fr d
  | .ex c _ => .ex c
  | _ => .no
def startR (n : Nat) (ds : List D) : Rho := ds.map Cell.fz ++ List.replicate (n - ds.length) Cell.no
def callD (np n : Nat) (body : S) (ds : List D) : RR := if ds.length = np then finO (body (startR n ds)) else .no
def spV (C : Str → Addr) (g : List D → RR) : Sp := fun vs H Q E => ∃ (F : Hp) (ds : List D), Same F H ∧ DenL F ds vs ∧ (match g ds with
  | .ok d => ∀ v F' H', Ext F H F' H' → Den F' d v → Q v H'
  | .fr d => ∀ v F' H', Ext F H F' H' → VFr H F' H' d v → Q v H'
  | .ex c => ∀ H', Same H H' → E (.ref (C c)) none H'
  | .no => False)
def mCall (g : List D → RR) (fa : M (List D)) : M D := bnd fa fun ds => fun ρ => match g ds with
  | .ok d => .ok d ρ
  | .fr d => .ok d ρ
  | .ex c => .ex c ρ
  | .no => .no
def mCall0 (g : List D → RR) (fa : M (List D)) : M D := bnd fa fun ds => fun ρ => match g ds with
  | .ok d => .ok d ρ
  | .fr d => .ok d ρ
  | _ => .no
theorem Ext.frz {F H F' H' : Hp} {d : D} {v : V} (x : Ext F H F' H') (f : VFr H F' H' d v) : ∃ F2, Ext F H F2 H' ∧ Den F2 d v := by
  obtain ⟨a, o, rfl, h1, h2, h3, h4⟩ := f
  refine ⟨upd F' a o, ⟨x.same, x.old.trans (same_upd h3), fun b u e => ?_, fun b u e => ?_⟩, (h2.mono (same_upd h3)).den upd_same⟩
  · by_cases hb : b = a
    · subst hb; rw [upd_same] at e; cases e; exact h1
    · rw [upd_ne hb] at e; exact x.sub _ _ e
  · by_cases hb : b = a
    · subst hb; exact .inr h4
    · rw [upd_ne hb] at e; exact x.new _ _ e
section
variable {B : Bd} {EX : Str → Hp → Prop}
theorem ev_call {C : Str → Addr} {g : List D → RR} {E : XK} {ta : TA} {fa : M (List D)} (hE : ∀ c H, EX c H → E (.ref (C c)) none H) (ha : Ev B EX VL ta fa) : Ev B EX VD (tCall (spV C g) [] E ta) (mCall g fa) := by
  refine Ev.bind (tb := fun vs σ H Q => spV C g (vs ++ []) H Q E) ha fun ds vs F H σ ρ Q m p q => ?_
  rw [List.append_nil]
  refine ⟨F, ds, m.sub, p, ?_⟩
  cases e : g ds with
  | no => simp only [e] at q; exact q
  | ok d => simp only [e] at q; exact fun v F' H' x dv => q v F' H' (m.ext x) dv
  | fr d =>
    simp only [e] at q
    intro v F' H' x dv
    obtain ⟨F2, x2, d2⟩ := x.frz dv
    exact q v F2 H' (m.ext x2) d2
  | ex c => simp only [e] at q; exact fun H' s => hE c H' (q F H' (m.ext ⟨s, Same.refl _, m.sub.trans s, fun _ _ z => .inl z⟩))
theorem ev_call0 {C : Str → Addr} {g : List D → RR} {ta : TA} {fa : M (List D)} (ha : Ev B EX VL ta fa) : Ev B EX VD (tCall (spV C g) [] E0 ta) (mCall0 g fa) := by
  refine Ev.bind (tb := fun vs σ H Q => spV C g (vs ++ []) H Q E0) ha fun ds vs F H σ ρ Q m p q => ?_
  rw [List.append_nil]
  refine ⟨F, ds, m.sub, p, ?_⟩
  cases e : g ds with
  | no => simp only [e] at q; exact q
  | ok d => simp only [e] at q; exact fun v F' H' x dv => q v F' H' (m.ext x) dv
  | fr d =>
    simp only [e] at q
    intro v F' H' x dv
    obtain ⟨F2, x2, d2⟩ := x.frz dv
    exact q v F2 H' (m.ext x2) d2
  | ex c => simp only [e] at q; exact q.elim
end
/-- a call that gives a fresh list or dict -/
def mCallF (g : List D → RR) (fa : M (List D)) : M D := bnd fa fun ds => fun ρ => match g ds with
  | .fr d => .ok d ρ
  | .ex c => .ex c ρ
  | _ => .no
def mCallF0 (g : List D → RR) (fa : M (List D)) : M D := bnd fa fun ds => fun ρ => match g ds with
  | .fr d => .ok d ρ
  | _ => .no
section
variable {B : Bd} {EX : Str → Hp → Prop}
theorem evf_call {C : Str → Addr} {g : List D → RR} {E : XK} {ta : TA} {fa : M (List D)} (hE : ∀ c H, EX c H → E (.ref (C c)) none H) (ha : Ev B EX VL ta fa) : EvF B EX (tCall (spV C g) [] E ta) (mCallF g fa) := by
  refine evf_bind (tb := fun vs σ H Q => spV C g (vs ++ []) H Q E) ha fun ds vs F H σ ρ Q m p q => ?_
  rw [List.append_nil]
  refine ⟨F, ds, m.sub, p, ?_⟩
  cases e : g ds with
  | no => simp only [e] at q; exact q
  | ok d => simp only [e] at q; exact q.elim
  | fr d => simp only [e] at q; exact fun v F' H' x dv => q v F' H' (m.ext x) dv
  | ex c => simp only [e] at q; exact fun H' s => hE c H' (q F H' (m.ext ⟨s, Same.refl _, m.sub.trans s, fun _ _ z => .inl z⟩))
theorem evf_call0 {C : Str → Addr} {g : List D → RR} {ta : TA} {fa : M (List D)} (ha : Ev B EX VL ta fa) : EvF B EX (tCall (spV C g) [] E0 ta) (mCallF0 g fa) := by
  refine evf_bind (tb := fun vs σ H Q => spV C g (vs ++ []) H Q E0) ha fun ds vs F H σ ρ Q m p q => ?_
  rw [List.append_nil]
  refine ⟨F, ds, m.sub, p, ?_⟩
  cases e : g ds with
  | no => simp only [e] at q; exact q
  | ok d => simp only [e] at q; exact q.elim
  | fr d => simp only [e] at q; exact fun v F' H' x dv => q v F' H' (m.ext x) dv
  | ex c => simp only [e] at q; exact q.elim
end
theorem start_mt {F H : Hp} {ds : List D} {vs : List V} {N : List Str} (s : Same F H) (l : DenL F ds vs) : Mt ⟨H, F, []⟩ F H (L2.start N vs) (startR N.length ds) := by
  have hl := l.len
  refine ⟨s, Same.refl _, fun _ _ e => .inl e, fun _ _ e _ => e, fun _ e => e, ?_, fun j v c h1 h2 => ?_, fun j k a c c' h1 h2 h3 h4 h5 h6 => ?_⟩
  · simp [startR, L2.start, hl]
  · unfold startR at h2
    unfold L2.start at h1
    rw [List.getElem?_append] at h1 h2
    rw [List.length_map] at h1 h2
    by_cases hj : j < ds.length
    · rw [if_pos hj] at h2
      rw [if_pos (by rw [← hl]; exact hj)] at h1
      rw [List.getElem?_map] at h1 h2
      cases e1 : ds[j]? with
      | none => rw [e1] at h2; cases h2
      | some d =>
        rw [e1] at h2
        obtain ⟨u, e2, e3⟩ := l.get e1
        rw [e2] at h1
        cases h1; cases h2
        exact ⟨u, rfl, e3⟩
    · rw [if_neg hj] at h2
      have : c = .no := by
        have := List.mem_of_getElem? h2
        exact (List.mem_replicate.mp this).2
      subst this
      trivial
  · have : ∀ (j : Nat) (c : Cell), (startR N.length ds)[j]? = some c → c.own = true → False := fun j c e o => by
      have q := List.mem_of_getElem? e
      unfold startR at q
      rcases List.mem_append.mp q with q | q
      · obtain ⟨d, _, rfl⟩ := List.mem_map.mp q
        cases o
      · rw [(List.mem_replicate.mp q).2] at o; cases o
    exact (this j c h3 h5).elim
theorem spV_len {C : Str → Addr} {np n : Nat} {body : S} {vs : List V} {H : Hp} {Q : VK} {E : XK} (h : spV C (callD np n body) vs H Q E) : vs.length = np := by
  obtain ⟨F, ds, s, l, q⟩ := h
  unfold callD at q
  by_cases e : ds.length = np
  · rw [← l.len]; exact e
  · simp only [if_neg e] at q
/-- a def's body keeps the promise -/
theorem body_ok {C : Str → Addr} {np : Nat} {body : S} {N : List Str} {vs : List V} {H : Hp} {Q : VK} {E : XK} {t : TS} (h : spV C (callD np N.length body) vs H Q E)
    (ev : ∀ F, EvS ⟨H, F, []⟩ (fun c H' => E (.ref (C c)) none H') t body) : t { nx := fun _ H' => Q .non H', rt := Q } (L2.start N vs) H := by
  obtain ⟨F, ds, s, l, q⟩ := h
  unfold callD at q
  by_cases e : ds.length = np
  · simp only [if_pos e] at q
    refine ev F F H (L2.start N vs) (startR N.length ds) _ (start_mt s l) ?_
    have ext : ∀ {F' H' : Hp} {σ' : L2.St} {ρ' : Rho}, Mt ⟨H, F, []⟩ F' H' σ' ρ' → Ext F H F' H' := fun m => ⟨fun a o z => m.frm a o z (by simp), m.old, m.sub, m.new⟩
    cases e2 : body (startR N.length ds) with
    | nx r => rw [e2] at q; exact fun σ' F' H' m _ => q .non F' H' (ext m) rfl
    | rt d r => rw [e2] at q; exact fun v σ' F' H' m _ dv => q v F' H' (ext m) dv
    | rf d r => rw [e2] at q; exact fun v σ' F' H' m _ dv => q v F' H' (ext m) dv
    | bk r => rw [e2] at q; exact q.elim
    | ct r => rw [e2] at q; exact q.elim
    | ex c r => rw [e2] at q; exact fun σ' F' H' m => q H' (ext m).same
    | no => rw [e2] at q; exact q.elim
  · simp only [if_neg e] at q
end Rn
end

section
set_option Elab.async false
set_option linter.all false
set_option autoImplicit false
set_option maxRecDepth 100000
/-! Core7: a piece of syntax, its reading, and what it computes, in one. -/
namespace Rn
open PySem PySem.Spec L2

structure JE (X : Cx) (B : Bd) (EX : Str → Hp → Prop) (e : Expr) (t : TE) (f : M D) : Prop where
  p : PE X e t
  v : Ev B EX VD t f
structure JR (X : Cx) (B : Bd) (EX : Str → Hp → Prop) (e : Expr) (t : TE) (f : M TV) : Prop where
  p : PE X e t
  v : Ev B EX VT t f
structure JF (X : Cx) (B : Bd) (EX : Str → Hp → Prop) (e : Expr) (t : TE) (f : M D) : Prop where
  p : PE X e t
  v : EvF B EX t f
structure JB (X : Cx) (B : Bd) (EX : Str → Hp → Prop) (e : Expr) (t : TT) (f : M Bool) : Prop where
  p : PT X e t
  v : Ev B EX VB t f
structure JW (X : Cx) (B : Bd) (EX : Str → Hp → Prop) (e : Expr) (t : TT) (f : M Bool) : Prop where
  p : PW X e t
  v : Ev B EX VB t f
structure JBs (X : Cx) (B : Bd) (EX : Str → Hp → Prop) (e : List Expr) (t : TT) (f : M Bool) : Prop where
  p : PTs X e t
  v : Ev B EX VB t f
structure JA (X : Cx) (B : Bd) (EX : Str → Hp → Prop) (es : List Expr) (t : TA) (f : M (List D)) : Prop where
  p : PA X es t
  v : Ev B EX VL t f
structure JAR (X : Cx) (B : Bd) (EX : Str → Hp → Prop) (es : List Expr) (t : TA) (f : M (List TV)) : Prop where
  p : PA X es t
  v : Ev B EX VTs t f
structure JAM (X : Cx) (B : Bd) (EX : Str → Hp → Prop) (ms : List Bool) (es : List Expr) (t : TA) (f : M (List D)) : Prop where
  p : PA X es t
  v : EvM B EX ms t f
structure JO (X : Cx) (B : Bd) (EX : Str → Hp → Prop) (e : Option Expr) (t : TO) (f : M (Option Int)) : Prop where
  p : PO X e t
  v : Ev B EX VO t f
structure JI (X : Cx) (B : Bd) (EX : Str → Hp → Prop) (tg it : Expr) (t : TI) (f : M (List D)) : Prop where
  p : PI X tg it t
  v : Ev B EX VI t f
structure JG (X : Cx) (B : Bd) (tg : Expr) (g : TG) (h : D → Rho → Option Rho) (L : List Nat) : Prop where
  p : PG X tg g
  v : EvG B g h L
structure JGs (X : Cx) (B : Bd) (tg : List Expr) (g : TGs) (h : List D → Rho → Option Rho) (L : List Nat) : Prop where
  p : PGs X tg g
  v : EvGs B g h L
structure JS (X : Cx) (B : Bd) (EX : Str → Hp → Prop) (s : Stmt) (t : TS) (f : S) : Prop where
  p : PS X s t
  v : EvS B EX t f
structure JSs (X : Cx) (B : Bd) (EX : Str → Hp → Prop) (s : List Stmt) (t : TS) (f : S) : Prop where
  p : PSs X s t
  v : EvS B EX t f

section
variable {X : Cx} {B : Bd} {EX : Str → Hp → Prop} {a b c e : Expr} {es : List Expr} {ta tb tc te : TE} {fa fb fc fe : M D} {ra rb rc : M TV} {pos : Pos}
/-! ### names, constants -/
theorem je_var (i : Nat) {x : Str} (hN : X.N[i]? = some x := by rfl) (hv : Vis X.env.scope x := by first | exact Or.inl rfl | exact Or.inr (Or.inl rfl) | exact Or.inr (Or.inr rfl)) (hd : (x == ("__debug__" : Str)) = false := by decide)
    (hcd : (x == ("__classdict__" : Str)) = false := by decide) : JE X B EX (.Name x pos) (tVar i) (mVar i) := ⟨pv i hN hv hd hcd, ev_var⟩
theorem jr_var (i : Nat) {x : Str} (hN : X.N[i]? = some x := by rfl) (hv : Vis X.env.scope x := by first | exact Or.inl rfl | exact Or.inr (Or.inl rfl) | exact Or.inr (Or.inr rfl)) (hd : (x == ("__debug__" : Str)) = false := by decide)
    (hcd : (x == ("__classdict__" : Str)) = false := by decide) : JR X B EX (.Name x pos) (tVar i) (mVarT i) := ⟨pv i hN hv hd hcd, ev_varT⟩
theorem jr_of (h : JE X B EX e te fe) : JR X B EX e te (mT fe) := ⟨h.p, ev_T h.v⟩
theorem je_of (h : JF X B EX e te fe) : JE X B EX e te fe := ⟨h.p, ev_ofF h.v⟩
theorem je_int {i j} : JE X B EX (.Constant (.int i) j pos) (tC (.int i)) (ret (.int i)) := ⟨pe_int, ev_const fun _ => rfl⟩
theorem je_bl {i j} : JE X B EX (.Constant (.bool i) j pos) (tC (.bl i)) (ret (.bool i)) := ⟨pe_bl, ev_const fun _ => rfl⟩
theorem je_non {j} : JE X B EX (.Constant .none j pos) (tC .non) (ret .none) := ⟨pe_non, ev_const fun _ => rfl⟩
theorem je_str {x j} : JE X B EX (.Constant (.str x) j pos) (tC (.str x)) (ret (.str x)) := ⟨pe_str, ev_const fun _ => rfl⟩
theorem je_gint {x : Str} {i : Int} {t : Tok} (hm : X.mg x = some (.int i t)) (hg : Gl X x := by rfl) (hd : (x == ("__debug__" : Str)) = false := by decide) : JE X B EX (.Name x pos) (tC (.int i)) (ret (.int i)) := ⟨pe_glob hg hm ⟨t, rfl⟩ hd, ev_const fun _ => rfl⟩
/-! ### operators -/
theorem je_op {op : Operator} {r : R2} {f : D → D → Option D} (ho : OpR X (binaryOp op) r) (hk : OpOk r f) (ha : JR X B EX a ta ra) (hb : JR X B EX b tb rb) : JE X B EX (.BinOp a op b pos) (tOp r ta tb) (mOp f ra rb) := ⟨pe_op ho ha.p hb.p, ev_op hk ha.v hb.v⟩
theorem jf_op {op : Operator} {r : R2} {f : D → D → Option D} (ho : OpR X (binaryOp op) r) (hk : OpOkF r f) (ha : JR X B EX a ta ra) (hb : JR X B EX b tb rb) : JF X B EX (.BinOp a op b pos) (tOp r ta tb) (mOp f ra rb) := ⟨pe_op ho ha.p hb.p, evf_op hk ha.v hb.v⟩
theorem je_add {K : PySem.W.Frag} (ha : JR X B EX a ta ra) (hb : JR X B EX b tb rb) (hK : X.K = K := by rfl) : JE X B EX (.BinOp a .Add b pos) (tOp (rAddA K) ta tb) (mOp addF ra rb) := by
  subst hK
  exact je_op op_addA ok_add ha hb
theorem je_sub (ha : JR X B EX a ta ra) (hb : JR X B EX b tb rb) : JE X B EX (.BinOp a .Sub b pos) (tOp (rI0 fun i j => .int (i - j)) ta tb) (mOp subF ra rb) := je_op op_sub ok_sub ha hb
theorem je_mul (ha : JR X B EX a ta ra) (hb : JR X B EX b tb rb) : JE X B EX (.BinOp a .Mult b pos) (tOp rMulA ta tb) (mOp mulF ra rb) := je_op op_mulA ok_mul ha hb
theorem je_fdiv (ha : JR X B EX a ta ra) (hb : JR X B EX b tb rb) : JE X B EX (.BinOp a .FloorDiv b pos) (tOp (rI CDivW fun i j => .int (i / j)) ta tb) (mOp fdivF ra rb) := je_op op_fdivW ok_fdiv ha hb
theorem je_mod (ha : JR X B EX a ta ra) (hb : JR X B EX b tb rb) : JE X B EX (.BinOp a .Mod b pos) (tOp (rI (fun _ j => 0 < j) fun i j => .int (i % j)) ta tb) (mOp modF ra rb) := je_op op_mod ok_mod ha hb
theorem je_pow (ha : JR X B EX a ta ra) (hb : JR X B EX b tb rb) : JE X B EX (.BinOp a .Pow b pos) (tOp (rI CPow fun i j => .int (i ^ j.toNat)) ta tb) (mOp powF ra rb) := je_op op_pow ok_pow ha hb
theorem jf_cat (ha : JR X B EX a ta ra) (hb : JR X B EX b tb rb) : JF X B EX (.BinOp a .Add b pos) (tOp rCat ta tb) (mOp catF ra rb) := jf_op op_cat okF_cat ha hb
theorem jf_rep (ha : JR X B EX a ta ra) (hb : JR X B EX b tb rb) : JF X B EX (.BinOp a .Mult b pos) (tOp rRep ta tb) (mOp repF ra rb) := jf_op op_rep okF_rep ha hb
theorem je_neg (ha : JR X B EX a ta ra) : JE X B EX (.UnaryOp .USub a pos) (tUn (rU fun i => .int (-i)) ta) (mUn negF ra) := ⟨pe_un un_neg ha.p, ev_un ok_neg ha.v⟩
/-! ### comparisons -/
theorem je_cmp {op : CmpOp} {r : R2} {f : D → D → Option D} (ho : OpR X (compareOp op) r) (hk : OpOk r f) (ha : JR X B EX a ta ra) (hb : JR X B EX b tb rb) (hm : behindInMarks op b = false) : JE X B EX (.Compare a [op] [b] pos) (tOp r ta tb) (mOp f ra rb) := ⟨pe_cmpR ho ha.p hb.p hm, ev_op hk ha.v hb.v⟩
theorem je_lt (ha : JR X B EX a ta ra) (hb : JR X B EX b tb rb) : JE X B EX (.Compare a [.Lt] [b] pos) (tOp (rI0 fun i j => .bl (decide (i < j))) ta tb) (mOp ltF ra rb) := je_cmp op_lt ok_cmpI ha hb (nomark _)
theorem je_le (ha : JR X B EX a ta ra) (hb : JR X B EX b tb rb) : JE X B EX (.Compare a [.LtE] [b] pos) (tOp (rI0 fun i j => .bl (decide (i ≤ j))) ta tb) (mOp leF ra rb) := je_cmp op_le ok_cmpI ha hb (nomark _)
theorem je_gt (ha : JR X B EX a ta ra) (hb : JR X B EX b tb rb) : JE X B EX (.Compare a [.Gt] [b] pos) (tOp (rI0 fun i j => .bl (decide (j < i))) ta tb) (mOp gtF ra rb) := je_cmp op_gt ok_cmpI ha hb (nomark _)
theorem je_ge (ha : JR X B EX a ta ra) (hb : JR X B EX b tb rb) : JE X B EX (.Compare a [.GtE] [b] pos) (tOp (rI0 fun i j => .bl (decide (j ≤ i))) ta tb) (mOp geF ra rb) := je_cmp op_ge ok_cmpI ha hb (nomark _)
theorem je_eq {K : PySem.W.Frag} (hu : X.A.units + 64 < cLine) (ha : JR X B EX a ta ra) (hb : JR X B EX b tb rb) (hK : X.K = K := by rfl) : JE X B EX (.Compare a [.Eq] [b] pos) (tOp (rEqP K) ta tb) (mOp eqF ra rb) := by
  subst hK
  exact je_cmp (op_eqP hu) ok_eq ha hb (nomark _)
theorem je_ne {K : PySem.W.Frag} (hu : X.A.units + 64 < cLine) (ha : JR X B EX a ta ra) (hb : JR X B EX b tb rb) (hK : X.K = K := by rfl) : JE X B EX (.Compare a [.NotEq] [b] pos) (tOp (rNeP K) ta tb) (mOp neF ra rb) := by
  subst hK
  exact je_cmp (op_neP hu) ok_ne ha hb (nomark _)
theorem je_is (ha : JR X B EX a ta ra) (hb : JR X B EX b tb rb) : JE X B EX (.Compare a [.Is] [b] pos) (tOp (fun x y H Q => y = .non ∧ Q (.bl (decide (x = .non))) H) ta tb) (mOp (isF false) ra rb) := je_cmp op_isN ok_is ha hb (nomark _)
theorem je_isnot (ha : JR X B EX a ta ra) (hb : JR X B EX b tb rb) : JE X B EX (.Compare a [.IsNot] [b] pos) (tOp (fun x y H Q => y = .non ∧ Q (.bl (!decide (x = .non))) H) ta tb) (mOp (isF true) ra rb) := je_cmp op_notN ok_isnot ha hb (nomark _)
theorem je_in {K : PySem.W.Frag} (hu : X.A.units + 64 < cLine) (ha : JR X B EX a ta ra) (hb : JR X B EX b tb rb) (hm : behindInMarks .In b = false := by with_unfolding_all rfl) (hK : X.K = K := by rfl) : JE X B EX (.Compare a [.In] [b] pos) (tOp (rInA K false) ta tb) (mOp (inAF false) ra rb) := by
  subst hK
  exact je_cmp (op_inA hu) ok_inA ha hb hm
theorem je_notin {K : PySem.W.Frag} (hu : X.A.units + 64 < cLine) (ha : JR X B EX a ta ra) (hb : JR X B EX b tb rb) (hm : behindInMarks .NotIn b = false := by with_unfolding_all rfl) (hK : X.K = K := by rfl) : JE X B EX (.Compare a [.NotIn] [b] pos) (tOp (rInA K true) ta tb) (mOp (inAF true) ra rb) := by
  subst hK
  exact je_cmp (op_notInA hu) ok_inA ha hb hm
theorem je_chain {op op' : CmpOp} {r r' : R2} {f g : D → D → Option D} (ho : OpR X (compareOp op) r) (ho' : OpR X (compareOp op') r') (hk : OpOk r f) (hk' : OpOk r' g) (ha : JR X B EX a ta ra) (hb : JR X B EX b tb rb) (hc : JR X B EX c tc rc)
    (hm : lastMarks [op, op'] [b, c] = false := by with_unfolding_all rfl) : JE X B EX (.Compare a [op, op'] [b, c] pos) (tChain r r' ta tb tc) (mChain f g ra rb rc) := ⟨pe_chain ho ho' ha.p hb.p hc.p hm, ev_chain hk hk' ha.v hb.v hc.v⟩
/-! ### truth -/
variable {tA tB' tC' : TT} {gA gB gC : M Bool} {rest : List Expr}
theorem jb_val (h : JE X B EX e te fe) (he : ∀ whole, isTrue e X.env whole = (do let v ← whole; standAt e.pos; holding [v] (truthy v)) := by intro _; rfl) : JB X B EX e (tTest te) (mTst fe) := ⟨pt_val h.p he, ev_tst h.v⟩
theorem oK_eq {K : PySem.W.Frag} (hK : X.K = K) (hu : X.A.units + 64 < cLine) : OpR X (compareOp .Eq) (rEqP K) := by subst hK; exact op_eqP hu
theorem oK_ne {K : PySem.W.Frag} (hK : X.K = K) (hu : X.A.units + 64 < cLine) : OpR X (compareOp .NotEq) (rNeP K) := by subst hK; exact op_neP hu
theorem jb_cmp {op : CmpOp} {r : R2} {f : D → D → Option D} (ho : OpR X (compareOp op) r) (hk : OpOk r f) (ha : JR X B EX a ta ra) (hb : JR X B EX b tb rb) (hm : behindInMarks op b = false) : JB X B EX (.Compare a [op] [b] pos) (tTest (tOp r ta tb)) (mTst (mOp f ra rb)) := ⟨pt_cmpR ho ha.p hb.p hm, ev_tst (ev_op hk ha.v hb.v)⟩
theorem jb_lt (ha : JR X B EX a ta ra) (hb : JR X B EX b tb rb) : JB X B EX (.Compare a [.Lt] [b] pos) (tTest (tOp (rI0 fun i j => .bl (decide (i < j))) ta tb)) (mTst (mOp ltF ra rb)) := jb_cmp op_lt ok_cmpI ha hb (nomark _)
theorem jb_le (ha : JR X B EX a ta ra) (hb : JR X B EX b tb rb) : JB X B EX (.Compare a [.LtE] [b] pos) (tTest (tOp (rI0 fun i j => .bl (decide (i ≤ j))) ta tb)) (mTst (mOp leF ra rb)) := jb_cmp op_le ok_cmpI ha hb (nomark _)
theorem jb_gt (ha : JR X B EX a ta ra) (hb : JR X B EX b tb rb) : JB X B EX (.Compare a [.Gt] [b] pos) (tTest (tOp (rI0 fun i j => .bl (decide (j < i))) ta tb)) (mTst (mOp gtF ra rb)) := jb_cmp op_gt ok_cmpI ha hb (nomark _)
theorem jb_ge (ha : JR X B EX a ta ra) (hb : JR X B EX b tb rb) : JB X B EX (.Compare a [.GtE] [b] pos) (tTest (tOp (rI0 fun i j => .bl (decide (j ≤ i))) ta tb)) (mTst (mOp geF ra rb)) := jb_cmp op_ge ok_cmpI ha hb (nomark _)
theorem jb_eq {K : PySem.W.Frag} (hu : X.A.units + 64 < cLine) (ha : JR X B EX a ta ra) (hb : JR X B EX b tb rb) (hK : X.K = K := by rfl) : JB X B EX (.Compare a [.Eq] [b] pos) (tTest (tOp (rEqP K) ta tb)) (mTst (mOp eqF ra rb)) := by
  subst hK
  exact jb_cmp (op_eqP hu) ok_eq ha hb (nomark _)
theorem jb_ne {K : PySem.W.Frag} (hu : X.A.units + 64 < cLine) (ha : JR X B EX a ta ra) (hb : JR X B EX b tb rb) (hK : X.K = K := by rfl) : JB X B EX (.Compare a [.NotEq] [b] pos) (tTest (tOp (rNeP K) ta tb)) (mTst (mOp neF ra rb)) := by
  subst hK
  exact jb_cmp (op_neP hu) ok_ne ha hb (nomark _)
theorem jb_is (ha : JR X B EX a ta ra) (hb : JR X B EX b tb rb) : JB X B EX (.Compare a [.Is] [b] pos) (tTest (tOp (fun x y H Q => y = .non ∧ Q (.bl (decide (x = .non))) H) ta tb)) (mTst (mOp (isF false) ra rb)) := jb_cmp op_isN ok_is ha hb (nomark _)
theorem jb_isnot (ha : JR X B EX a ta ra) (hb : JR X B EX b tb rb) : JB X B EX (.Compare a [.IsNot] [b] pos) (tTest (tOp (fun x y H Q => y = .non ∧ Q (.bl (!decide (x = .non))) H) ta tb)) (mTst (mOp (isF true) ra rb)) := jb_cmp op_notN ok_isnot ha hb (nomark _)
theorem jb_in {K : PySem.W.Frag} (hu : X.A.units + 64 < cLine) (ha : JR X B EX a ta ra) (hb : JR X B EX b tb rb) (hm : behindInMarks .In b = false := by with_unfolding_all rfl) (hK : X.K = K := by rfl) : JB X B EX (.Compare a [.In] [b] pos) (tTest (tOp (rInA K false) ta tb)) (mTst (mOp (inAF false) ra rb)) := by
  subst hK
  exact jb_cmp (op_inA hu) ok_inA ha hb hm
theorem jb_notin {K : PySem.W.Frag} (hu : X.A.units + 64 < cLine) (ha : JR X B EX a ta ra) (hb : JR X B EX b tb rb) (hm : behindInMarks .NotIn b = false := by with_unfolding_all rfl) (hK : X.K = K := by rfl) : JB X B EX (.Compare a [.NotIn] [b] pos) (tTest (tOp (rInA K true) ta tb)) (mTst (mOp (inAF true) ra rb)) := by
  subst hK
  exact jb_cmp (op_notInA hu) ok_inA ha hb hm
theorem jb_chain {op op' : CmpOp} {r r' : R2} {f g : D → D → Option D} (ho : OpR X (compareOp op) r) (ho' : OpR X (compareOp op') r') (hk : OpOk r f) (hk' : OpOk r' g) (ha : JR X B EX a ta ra) (hb : JR X B EX b tb rb) (hc : JR X B EX c tc rc) (hm : lastMarks [op, op'] [b, c] = false := by with_unfolding_all rfl) : JB X B EX (.Compare a [op, op'] [b, c] pos) (tTest (tChain r r' ta tb tc)) (mTst (mChain f g ra rb rc)) := ⟨pt_chain ho ho' ha.p hb.p hc.p hm, ev_tst (ev_chain hk hk' ha.v hb.v hc.v)⟩
theorem jb_not (h : JB X B EX e tA gA) : JB X B EX (.UnaryOp .Not e pos) (tNot tA) (mNot gA) := ⟨pt_not h.p, ev_not h.v⟩
theorem jb_w (h : JW X B EX e tA gA) : JB X B EX e tA gA := ⟨h.p.pt, h.v⟩
theorem jw_and1 (h : JB X B EX a tA gA) : JW X B EX (.BoolOp .And [a] pos) tA gA := ⟨pw_and1 h.p, h.v⟩
theorem jw_or1 (h : JB X B EX a tA gA) : JW X B EX (.BoolOp .Or [a] pos) tA gA := ⟨pw_or1 h.p, h.v⟩
theorem jw_and (ha : JB X B EX a tA gA) (hb : JW X B EX (.BoolOp .And (b :: rest) pos) tB' gB) : JW X B EX (.BoolOp .And (a :: b :: rest) pos) (tAnd tA tB') (mAnd gA gB) := ⟨pw_and ha.p hb.p, ev_and ha.v hb.v⟩
theorem jw_or (ha : JB X B EX a tA gA) (hb : JW X B EX (.BoolOp .Or (b :: rest) pos) tB' gB) : JW X B EX (.BoolOp .Or (a :: b :: rest) pos) (tOr tA tB') (mOr gA gB) := ⟨pw_or ha.p hb.p, ev_or ha.v hb.v⟩
theorem je_one {op} (h : JE X B EX a ta fa) : JE X B EX (.BoolOp op [a] pos) ta fa := ⟨pe_one h.p, h.v⟩
theorem je_and (ha : JE X B EX a ta fa) (hb : JE X B EX (.BoolOp .And (b :: rest) pos) tb fb) : JE X B EX (.BoolOp .And (a :: b :: rest) pos) (tAndV ta tb) (mAndV fa fb) := ⟨pe_and ha.p hb.p, ev_andV ha.v hb.v⟩
theorem je_or (ha : JE X B EX a ta fa) (hb : JE X B EX (.BoolOp .Or (b :: rest) pos) tb fb) : JE X B EX (.BoolOp .Or (a :: b :: rest) pos) (tOrV ta tb) (mOrV fa fb) := ⟨pe_or ha.p hb.p, ev_orV ha.v hb.v⟩
theorem je_not (ha : JE X B EX a ta fa) : JE X B EX (.UnaryOp .Not a pos) (tNotV ta) (mNotV fa) := ⟨pe_not ha.p, ev_notV ha.v⟩
theorem je_if (hc : JB X B EX c tA gA) (ha : JE X B EX a ta fa) (hb : JE X B EX b tb fb) : JE X B EX (.IfExp c a b pos) (tIf tA ta tb) (mIf gA fa fb) := ⟨pe_ifExp hc.p ha.p hb.p, ev_if hc.v ha.v hb.v⟩
theorem jbs_nil : JBs X B EX [] tYes mYes := ⟨pts_nil, ev_yes⟩
theorem jbs_one (h : JB X B EX a tA gA) : JBs X B EX [a] tA gA := ⟨pts_one h.p, h.v⟩
/-! ### arguments -/
variable {tl : TA} {fl : M (List D)} {rl : M (List TV)}
theorem ja_nil : JA X B EX [] tNil mNil := ⟨pa_nil, ev_nil⟩
theorem ja_cons (ha : JE X B EX e te fe) (hr : JA X B EX es tl fl) (hs : starEach (e :: es) X.env = (false, eval e X.env) :: starEach es X.env := by rfl) : JA X B EX (e :: es) (tCons te tl) (mCons fe fl) := ⟨pa_cons ha.p hr.p hs, ev_cons ha.v hr.v⟩
theorem jar_nil : JAR X B EX [] tNil mNil := ⟨pa_nil, ev_nilT⟩
theorem jar_cons (ha : JR X B EX e te ra) (hr : JAR X B EX es tl rl) (hs : starEach (e :: es) X.env = (false, eval e X.env) :: starEach es X.env := by rfl) : JAR X B EX (e :: es) (tCons te tl) (mCons ra rl) := ⟨pa_cons ha.p hr.p hs, ev_consT ha.v hr.v⟩
theorem jam_nil : JAM X B EX [] [] tNil mNil := ⟨pa_nil, evm_nil⟩
theorem jam_cons {ms : List Bool} (ha : JE X B EX e te fe) (hr : JAM X B EX ms es tl fl) (hs : starEach (e :: es) X.env = (false, eval e X.env) :: starEach es X.env := by rfl) : JAM X B EX (false :: ms) (e :: es) (tCons te tl) (mCons fe fl) := ⟨pa_cons ha.p hr.p hs, evm_cons ha.v hr.v⟩
theorem jam_own {ms : List Bool} (ha : JF X B EX e te fe) (hr : JAM X B EX ms es tl fl) (hs : starEach (e :: es) X.env = (false, eval e X.env) :: starEach es X.env := by rfl) : JAM X B EX (true :: ms) (e :: es) (tCons te tl) (mCons fe fl) := ⟨pa_cons ha.p hr.p hs, evm_own ha.v hr.v⟩
/-! ### displays, subscripts, slices -/
theorem je_tup {x1} (h : JA X B EX es tl fl) : JE X B EX (.Tuple es x1 pos) (tTup tl) (mTup fl) := ⟨pe_tup h.p, ev_tup h.v⟩
theorem jf_lst (h : JA X B EX es tl fl) : JF X B EX (.List es pos) (tLst tl) (mLst fl) := ⟨pe_lst h.p, evf_lst h.v⟩
theorem je_ix {K : PySem.W.Frag} (ha : JR X B EX a ta ra) (hb : JR X B EX b tb rb) (hs : PlainIx b := by exact fun _ _ => rfl) (hK : X.K = K := by rfl) : JE X B EX (.Subscript a b pos) (tOp (rIx K) ta tb) (mOp ixF ra rb) := by
  subst hK
  exact ⟨pe_ix ix_seq ha.p hb.p hs, ev_op ok_ix ha.v hb.v⟩
theorem jo_none : JO X B EX none tNoPart mNoPart := ⟨po_none, ev_nopart⟩
theorem jo_some (h : JE X B EX e te fe) : JO X B EX (some e) (tPart te) (mPart fe) := ⟨po_some h.p, ev_part h.v⟩
theorem sl_all : SlR X (rSlAll X.K) := (sl_list.or sl_tupA).or sl_str
theorem je_sl {K : PySem.W.Frag} {lo hi : Option Expr} {t1 t2 : TO} {f1 f2 : M (Option Int)} {p2 : Pos} (ha : JR X B EX a ta ra) (hl : JO X B EX lo t1 f1) (hh : JO X B EX hi t2 f2) (hK : X.K = K := by rfl) : JE X B EX (.Subscript a (.Slice lo hi none p2) pos) (tSl (rSlAll K) ta t1 t2) (mSl slF ra f1 f2) := by
  subst hK
  exact ⟨pe_slice sl_all ha.p hl.p hh.p, ev_sl ok_sl ha.v hl.v hh.v⟩
/-! ### built-ins -/
variable {x : Str} {p : Pos}
theorem je_cb {id : String} {r : List V → Hp → VK → Prop} {f : List D → Option D} (hc : CallR X (.builtin id) r) (hk : CallOk r f) (hv : bootBuiltins x = some (.builtin id)) (hm : X.mg x = none) (ha : JAR X B EX (e :: es) tl rl) (hg : Gl X x := by rfl) (hn : x ≠ "__name__" := by decide) (hdb : (x == ("__debug__" : Str)) = false := by decide)
    (he : starEach (e :: es) X.env = (false, eval e X.env) :: starEach es X.env := by rfl) (hpl : (backTo pos (starEach es X.env)).any (·.1) = false := by rfl) : JE X B EX (.Call (.Name x p) (e :: es) [] pos) (tCB r tl) (mCB f rl) := ⟨pe_callB hc hg hm hv ha.p hn hdb he hpl, ev_cb hk ha.v⟩
theorem je_ct {T : String} {r : List V → Hp → VK → Prop} {f : List D → Option D} (hc : CallR X (.type T) r) (hk : CallOk r f) (hv : bootBuiltins x = some (.type T)) (hm : X.mg x = none) (ha : JAR X B EX (e :: es) tl rl) (hg : Gl X x := by rfl) (hn : x ≠ "__name__" := by decide) (hdb : (x == ("__debug__" : Str)) = false := by decide)
    (he : starEach (e :: es) X.env = (false, eval e X.env) :: starEach es X.env := by rfl) (hpl : (backTo pos (starEach es X.env)).any (·.1) = false := by rfl) : JE X B EX (.Call (.Name x p) (e :: es) [] pos) (tCB r tl) (mCB f rl) := ⟨pe_callTy hc hg hm hv ha.p hn hdb he hpl, ev_cb hk ha.v⟩
theorem jf_ct {T : String} {r : List V → Hp → VK → Prop} {f : List D → Option D} (hc : CallR X (.type T) r) (hk : CallOkF r f) (hv : bootBuiltins x = some (.type T)) (hm : X.mg x = none) (ha : JAR X B EX (e :: es) tl rl) (hg : Gl X x := by rfl) (hn : x ≠ "__name__" := by decide) (hdb : (x == ("__debug__" : Str)) = false := by decide)
    (he : starEach (e :: es) X.env = (false, eval e X.env) :: starEach es X.env := by rfl) (hpl : (backTo pos (starEach es X.env)).any (·.1) = false := by rfl) : JF X B EX (.Call (.Name x p) (e :: es) [] pos) (tCB r tl) (mCB f rl) := ⟨pe_callTy hc hg hm hv ha.p hn hdb he hpl, evf_cb hk ha.v⟩
def rLenK (K : PySem.W.Frag) : List V → Hp → VK → Prop := fun xs H Q => ∃ x n, xs = [x] ∧ LenV K x H n ∧ Q (.int n) H
def rTupK (K : PySem.W.Frag) : List V → Hp → VK → Prop := fun xs H Q => ∃ p ys, xs = [.ref p] ∧ ((SqL K H p ys ∧ ∀ l, H l = none → Q (.ref l) (upd H l (.tup ys))) ∨ (SqT K H p ys ∧ Q (.ref p) H))
def rListK (K : PySem.W.Frag) : List V → Hp → VK → Prop := fun xs H Q => ∃ p ys, xs = [.ref p] ∧ (SqL K H p ys ∨ SqT K H p ys) ∧ ∀ l, H l = none → Q (.ref l) (upd H l (.lst ys))
theorem cK_len {K : PySem.W.Frag} (hK : X.K = K) : CallR X (.builtin "len") (rLenK K) := by subst hK; exact call_len
theorem cK_tuple {K : PySem.W.Frag} (hK : X.K = K) : CallR X (.type "tuple") (rTupK K) := by subst hK; exact call_tuple_of
theorem cK_list {K : PySem.W.Frag} (hK : X.K = K) : CallR X (.type "list") (rListK K) := by subst hK; exact call_list_of
theorem cK_all {K : PySem.W.Frag} (hK : X.K = K) (hc : X.calm = true) : CallR X (.builtin "all") (rAll K) := by subst hK; exact cr_all hc
theorem cK_any {K : PySem.W.Frag} (hK : X.K = K) (hc : X.calm = true) : CallR X (.builtin "any") (rAny K) := by subst hK; exact cr_any hc
theorem cK_sum {K : PySem.W.Frag} (hK : X.K = K) (hc : X.calm = true) : CallR X (.builtin "sum") (rSum K) := by subst hK; exact cr_sum hc
theorem okK_len {K : PySem.W.Frag} : CallOk (rLenK K) lenF := ok_len
theorem okK_tuple {K : PySem.W.Frag} : CallOk (rTupK K) tupleF := ok_tuple
theorem okK_list {K : PySem.W.Frag} : CallOkF (rListK K) listF := okF_list
theorem call_intA : CallR X (.type "int") rIntA := call_int1.or call_int_str
/-- isinstance(e, T) -/
theorem je_isi {K : PySem.W.Frag} {T : Str} {n : String} {q : String → Bool} {p2 : Pos} (tab : IsiTab n q) (hb : bootBuiltins T = some (.type n)) (hmT : X.mg T = none) (hm : X.mg "isinstance" = none) (h : JR X B EX e te ra) (hgT : Gl X T := by rfl) (hg : Gl X "isinstance" := by rfl) (hnT : T ≠ "__name__" := by decide) (hdT : (T == ("__debug__" : Str)) = false := by decide)
    (h1 : starEach [e, .Name T p2] X.env = (false, eval e X.env) :: starEach [.Name T p2] X.env := by rfl) (h2 : starEach [.Name T p2] X.env = (false, eval (.Name T p2) X.env) :: starEach [] X.env := by rfl) (hpl : (backTo pos (starEach [.Name T p2] X.env)).any (·.1) = false := by rfl) (hK : X.K = K := by rfl) :
    JE X B EX (.Call (.Name "isinstance" p) [e, .Name T p2] [] pos) (tCB (rIsi K) (tCons te (tCons (tC (.ty n)) tNil))) (mIsi q ra) := by
  subst hK
  exact ⟨pe_callB call_isi hg hm PyProof.Rows.boot_isinstance (pa_cons h.p (pa_cons (pe_bltn (v := .ty n) hgT hmT hb rfl hnT hdT) pa_nil h2) h1) (by decide) (by decide) h1 hpl, ev_isi tab h.v⟩
/-! ### defs of the text -/
end

/-- a def of the text that keeps the promise g, by at most level k -/
def DefV (P : Program) (w : World) (K : PySem.W.Frag) (mg : Str → Option Value) (base : Heap) (CX : CXT) (C : Str → Addr) (x : Str) (ps : List Str) (k : Nat) (g : List D → RR) : Prop :=
  ∃ f fd, FnOk P w K mg base CX k f fd ps (spV C g) ∧ mg x = some (.ref f) ∧ PySem.W.keepIn K (.ref f) = true ∧ Binds K fd ps []
section
variable {X : Cx} {B : Bd} {EX : Str → Hp → Prop} {a b c e : Expr} {es : List Expr} {ta tb tc te : TE} {fa fb fc fe : M D} {ra rb rc : M TV} {pos : Pos} {tl : TA} {fl : M (List D)} {x : Str} {p : Pos}
theorem je_call0 {C : Str → Addr} {ps : List Str} {k j : Nat} {g : List D → RR} (d : DefV X.prog X.w X.K X.mg X.base CX0 C x ps k g) (hr : Room j X.A) (ha : JA X B EX (e :: es) tl fl) (hkj : k ≤ j := by decide) (hg : Gl X x := by rfl) (hdb : (x == ("__debug__" : Str)) = false := by decide)
    (he : starEach (e :: es) X.env = (false, eval e X.env) :: starEach es X.env := by rfl) (hpl : (backTo pos (starEach es X.env)).any (·.1) = false := by rfl) : JE X B EX (.Call (.Name x p) (e :: es) [] pos) (tCall (spV C g) [] E0 tl) (mCall0 g fl) := by
  obtain ⟨f, fd, F, hm, hk, hb⟩ := d
  exact ⟨pe_call F (hr.mono hkj) hg hm hk hb .nil pass0 ha.p hdb he hpl, ev_call0 ha.v⟩
theorem je_callX {C : Str → Addr} {ps : List Str} {k j : Nat} {g : List D → RR} {E : XK} (d : DefV X.prog X.w X.K X.mg X.base (L2.CX X.prog X.w) C x ps k g) (hr : Room j X.A) (hx : Passes (L2.CX X.prog X.w) X E) (hE : ∀ c H, EX c H → E (.ref (C c)) none H) (ha : JA X B EX (e :: es) tl fl) (hkj : k ≤ j := by decide) (hg : Gl X x := by rfl) (hdb : (x == ("__debug__" : Str)) = false := by decide)
    (he : starEach (e :: es) X.env = (false, eval e X.env) :: starEach es X.env := by rfl) (hpl : (backTo pos (starEach es X.env)).any (·.1) = false := by rfl) : JE X B EX (.Call (.Name x p) (e :: es) [] pos) (tCall (spV C g) [] E tl) (mCall g fl) := by
  obtain ⟨f, fd, F, hm, hk, hb⟩ := d
  exact ⟨pe_call F (hr.mono hkj) hg hm hk hb .nil hx ha.p hdb he hpl, ev_call hE ha.v⟩
/-! ### iterables, targets -/
variable {tg : Expr} {wi : TI} {fi : M (List D)}
theorem ji_seq {K : PySem.W.Frag} (h : JE X B EX e te fe) (hK : X.K = K := by rfl) : JI X B EX tg e (iSeq K te) (mSeqI fe) := by
  subst hK
  exact ⟨pi_seq h.p, evi_seq h.v⟩
theorem ji_rng1 (hm : X.mg "range" = none) (ha : JA X B EX [a] tl fl) (hg : Gl X "range" := by rfl) (hs : starEach [a] X.env = [(false, eval a X.env)] := by rfl) : JI X B EX tg (.Call (.Name "range" p) [a] [] pos) (iRng1 tl) (mRng1 fl) := ⟨pi_range1 hg hm ha.p hs, evi_rng1 ha.v⟩
theorem ji_rng2 (hm : X.mg "range" = none) (ha : JA X B EX [a, b] tl fl) (hg : Gl X "range" := by rfl) (hs : starEach [a, b] X.env = [(false, eval a X.env), (false, eval b X.env)] := by rfl) (hs2 : starEach [b] X.env = [(false, eval b X.env)] := by rfl) : JI X B EX tg (.Call (.Name "range" p) [a, b] [] pos) (iRng2 tl) (mRng2 fl) := ⟨pi_range2 hg hm ha.p hs hs2, evi_rng2 ha.v⟩
theorem ji_enum {K : PySem.W.Frag} {elts : List Expr} {kk : Nat} {tpos : Pos} (hm : X.mg "enumerate" = none) (ha : JA X B EX [a] tl fl) (hg : Gl X "enumerate" := by rfl) (hs : starEach [a] X.env = [(false, eval a X.env)] := by rfl) (hK : X.K = K := by rfl) : JI X B EX (.Tuple elts kk tpos) (.Call (.Name "enumerate" p) [a] [] pos) (iEnumS K tl) (mEnum fl) := by
  subst hK
  exact ⟨pi_enumS hg hm ha.p hs, evi_enum ha.v⟩
theorem jg_name (i : Nat) {y : Str} (hN : X.N.Nodup) (hi : X.N[i]? = some y := by rfl) (hx : Loc X.env.scope y := by first | exact Or.inl rfl | exact Or.inr rfl) (hf : X.fn y = true ∨ X.env.scope.names.lookup y = some .local := by first | exact .inl rfl | exact .inr rfl) : JG X B (.Name y pos) (gName i) (hName i) [i] := ⟨pg_name hN hi hx hf, eg_name⟩
theorem jgs_nil : JGs X B [] gNil hNil [] := ⟨pgs_nil, egs_nil⟩
theorem jgs_cons {gs : TGs} {g : TG} {h : D → Rho → Option Rho} {hs : List D → Rho → Option Rho} {L Ls : List Nat} (h1 : JG X B e g h L) (h2 : JGs X B es gs hs Ls) (hs' : (assignEach (e :: es) X.env).map (·.2) = assign e X.env :: (assignEach es X.env).map (·.2) := by rfl) : JGs X B (e :: es) (gCons g gs) (hCons h hs) (L ++ Ls) := ⟨pgs_cons h1.p h2.p hs', egs_cons h1.v h2.v⟩
theorem jg_tup {K : PySem.W.Frag} {k n : Nat} {gs : TGs} {hs : List D → Rho → Option Rho} {L : List Nat} (h : JGs X B es gs hs L) (hc : X.calm = true := by rfl) (hn : (assignEach es X.env).length = n := by rfl) (hst : (assignEach es X.env).findIdx? (·.1) = none := by rfl) (hK : X.K = K := by rfl) : JG X B (.Tuple es k pos) (gTup K n gs) (hTup n hs) L := by
  subst hK
  exact ⟨pg_tup hc h.p hn hst, eg_tup h.v⟩
/-! ### comprehensions -/
theorem jf_lc {elt iter : Expr} {ifs : List Expr} {scope : Scope} {own : List (Str × Nat)} {g : TG} {h : D → Rho → Option Rho} {L : List Nat} {tt : TT} {ft : M Bool} (hN : X.N.Nodup) (ok : BlkOk X.N X.env.scope scope own) (hi : JI X B EX tg iter wi fi)
    (hg : ∀ (s : Shared) (H : Hp) (C : Addr) (cl : List (Str × Addr)) (fp : List Addr), JG (X.blk s H scope (compEnvC scope cl C X.env) fp) B tg g h L) (ht : ∀ (s : Shared) (H : Hp) (C : Addr) (cl : List (Str × Addr)) (fp : List Addr), JBs (X.blk s H scope (compEnvC scope cl C X.env) fp) B EX0 ifs tt ft)
    (he : ∀ (s : Shared) (H : Hp) (C : Addr) (cl : List (Str × Addr)) (fp : List Addr), JE (X.blk s H scope (compEnvC scope cl C X.env) fp) B EX0 elt te fe) (hL : ∀ i ∈ L, i ∈ own.map (·.2) := by decide) (hc : X.calm = true := by rfl) (hs : ∀ x, foldedSetIterable iter X.env x = pure x := by intro _; rfl) :
    JF X B EX (.ListComp elt [⟨tg, iter, ifs, 0⟩] scope pos) (tLc wi g tt te (own.map (·.2))) (mLc fi h ft fe (own.map (·.2))) :=
  ⟨pe_lc hc hN hi.p ok (fun s H C cl fp => (hg s H C cl fp).p) (fun s H C cl fp => (ht s H C cl fp).p) (fun s H C cl fp => (he s H C cl fp).p) hs, evf_lc hi.v (hg X.s_0 X.H_0 0 [] []).v (ht X.s_0 X.H_0 0 [] []).v (he X.s_0 X.H_0 0 [] []).v hL⟩
/-! ### statements -/
variable {st : Stmt} {sts : List Stmt} {t u : TS} {f f' : S} {tA : TT} {gA : M Bool}
theorem jss_nil : JSs X B EX [] tNext sNext := ⟨pss_nil, es_next⟩
theorem jss_one (h : JS X B EX st t f) : JSs X B EX [st] t f := ⟨pss_one h.p, h.v⟩
theorem jss_cons (h : JS X B EX st t f) (h2 : JSs X B EX sts u f') : JSs X B EX (st :: sts) (tSeq t u) (sSeq f f') := ⟨pss_cons h.p h2.p, es_seq h.v h2.v⟩
theorem js_pass : JS X B EX (.Pass pos) tNext sNext := ⟨ps_pass, es_next⟩
theorem js_break : JS X B EX (.Break pos) tBreak sBreak := ⟨ps_break, es_break⟩
theorem js_cont : JS X B EX (.Continue pos) tCont sCont := ⟨ps_continue, es_cont⟩
theorem js_expr (h : JE X B EX e te fe) (hs : swapsWith e none pos.line X.env = pure false := by rfl) : JS X B EX (.Expr e pos) (tDrop te) (sDrop fe) := ⟨ps_expr h.p hs, es_drop h.v⟩
theorem js_ret (h : JE X B EX e te fe) : JS X B EX (.Return (some e) pos) (tRet te) (sRet fe) := ⟨ps_ret h.p, es_ret h.v⟩
theorem js_retN : JS X B EX (.Return none pos) tRetN sRetN := ⟨ps_retN, es_retN⟩
theorem js_if {a b : List Stmt} (hc : JB X B EX c tA gA) (ha : JSs X B EX a t f) (hb : JSs X B EX b u f') : JS X B EX (.If c a b pos) (tIfS tA t u) (sIf gA f f') := ⟨ps_if hc.p ha.p hb.p, es_if hc.v ha.v hb.v⟩
theorem js_set (i : Nat) {y : Str} {pos' : Pos} (hN : X.N.Nodup) (h : JE X B EX e te fe) (hi : X.N[i]? = some y := by rfl) (hx : Loc X.env.scope y := by first | exact Or.inl rfl | exact Or.inr rfl) (hs : swapsWith e (some (.Name y pos')) pos.line X.env = pure false := by rfl)
    (hf : X.fn y = true ∨ X.env.scope.names.lookup y = some .local := by first | exact .inl rfl | exact .inr rfl) : JS X B EX (.Assign [.Name y pos'] e pos) (tAsg te (gName i)) (sAsg fe (hName i)) := ⟨ps_set hN hi hx h.p hs hf, es_asg h.v eg_name⟩
theorem js_own (i : Nat) {y : Str} {pos' : Pos} (hN : X.N.Nodup) (h : JF X B EX e te fe) (hi : X.N[i]? = some y := by rfl) (hx : Loc X.env.scope y := by first | exact Or.inl rfl | exact Or.inr rfl) (hs : swapsWith e (some (.Name y pos')) pos.line X.env = pure false := by rfl)
    (hf : X.fn y = true ∨ X.env.scope.names.lookup y = some .local := by first | exact .inl rfl | exact .inr rfl) : JS X B EX (.Assign [.Name y pos'] e pos) (tAsg te (gName i)) (sOwn fe i) := ⟨ps_set hN hi hx h.p hs hf, es_own h.v⟩
theorem setLc_p (i : Nat) {y : Str} {py : Pos} {elt iter : Expr} {ifs : List Expr} {scope : Scope} {own : List (Str × Nat)} {g : TG} {h : D → Rho → Option Rho} {L : List Nat} {tt : TT} {ft : M Bool} (hN : X.N.Nodup) (ok : BlkOk X.N X.env.scope scope own) (hi : JI X B EX tg iter wi fi)
    (hg : ∀ (s : Shared) (H : Hp) (C : Addr) (cl : List (Str × Addr)) (fp : List Addr), JG (X.blk s H scope (compEnvC scope cl C X.env) fp) B tg g h L) (ht : ∀ (s : Shared) (H : Hp) (C : Addr) (cl : List (Str × Addr)) (fp : List Addr), JBs (X.blk s H scope (compEnvC scope cl C X.env) fp) B EX0 ifs tt ft)
    (he : ∀ (s : Shared) (H : Hp) (C : Addr) (cl : List (Str × Addr)) (fp : List Addr), JE (X.blk s H scope (compEnvC scope cl C X.env) fp) B EX0 elt te fe) (hc : X.calm = true) (hy : X.N[i]? = some y) (hyl : X.env.scope.names.lookup y = some .local)
    (hsw : swapsWith (.ListComp elt [⟨tg, iter, ifs, 0⟩] scope pos) (some (.Name y py)) p.line X.env = pure true) (hs : ∀ x, foldedSetIterable iter X.env x = pure x) :
    PS X (.Assign [.Name y py] (.ListComp elt [⟨tg, iter, ifs, 0⟩] scope pos) p) (tAsg (tLc wi g tt te (own.map (·.2))) (gName i)) :=
  ps_setLc hc hN hy hyl hsw hi.p ok (fun s H C cl fp => (hg s H C cl fp).p) (fun s H C cl fp => (ht s H C cl fp).p) (fun s H C cl fp => (he s H C cl fp).p) hs
/-- y = [..], y a local: frozen; owned -/
theorem js_setLc (i : Nat) {y : Str} {py : Pos} {elt iter : Expr} {ifs : List Expr} {scope : Scope} {own : List (Str × Nat)} {g : TG} {h : D → Rho → Option Rho} {L : List Nat} {tt : TT} {ft : M Bool} (hN : X.N.Nodup) (ok : BlkOk X.N X.env.scope scope own) (hi : JI X B EX tg iter wi fi)
    (hg : ∀ (s : Shared) (H : Hp) (C : Addr) (cl : List (Str × Addr)) (fp : List Addr), JG (X.blk s H scope (compEnvC scope cl C X.env) fp) B tg g h L) (ht : ∀ (s : Shared) (H : Hp) (C : Addr) (cl : List (Str × Addr)) (fp : List Addr), JBs (X.blk s H scope (compEnvC scope cl C X.env) fp) B EX0 ifs tt ft)
    (he : ∀ (s : Shared) (H : Hp) (C : Addr) (cl : List (Str × Addr)) (fp : List Addr), JE (X.blk s H scope (compEnvC scope cl C X.env) fp) B EX0 elt te fe) (hsw : swapsWith (.ListComp elt [⟨tg, iter, ifs, 0⟩] scope pos) (some (.Name y py)) p.line X.env = pure true) (hL : ∀ i ∈ L, i ∈ own.map (·.2) := by decide) (hc : X.calm = true := by rfl) (hy : X.N[i]? = some y := by rfl) (hyl : X.env.scope.names.lookup y = some .local := by rfl)
    (hs : ∀ x, foldedSetIterable iter X.env x = pure x := by intro _; rfl) :
    JS X B EX (.Assign [.Name y py] (.ListComp elt [⟨tg, iter, ifs, 0⟩] scope pos) p) (tAsg (tLc wi g tt te (own.map (·.2))) (gName i)) (sAsg (mLc fi h ft fe (own.map (·.2))) (hName i)) :=
  ⟨setLc_p i hN ok hi hg ht he hc hy hyl hsw hs, es_asg (ev_ofF (evf_lc hi.v (hg X.s_0 X.H_0 0 [] []).v (ht X.s_0 X.H_0 0 [] []).v (he X.s_0 X.H_0 0 [] []).v hL)) eg_name⟩
theorem js_ownLc (i : Nat) {y : Str} {py : Pos} {elt iter : Expr} {ifs : List Expr} {scope : Scope} {own : List (Str × Nat)} {g : TG} {h : D → Rho → Option Rho} {L : List Nat} {tt : TT} {ft : M Bool} (hN : X.N.Nodup) (ok : BlkOk X.N X.env.scope scope own) (hi : JI X B EX tg iter wi fi)
    (hg : ∀ (s : Shared) (H : Hp) (C : Addr) (cl : List (Str × Addr)) (fp : List Addr), JG (X.blk s H scope (compEnvC scope cl C X.env) fp) B tg g h L) (ht : ∀ (s : Shared) (H : Hp) (C : Addr) (cl : List (Str × Addr)) (fp : List Addr), JBs (X.blk s H scope (compEnvC scope cl C X.env) fp) B EX0 ifs tt ft)
    (he : ∀ (s : Shared) (H : Hp) (C : Addr) (cl : List (Str × Addr)) (fp : List Addr), JE (X.blk s H scope (compEnvC scope cl C X.env) fp) B EX0 elt te fe) (hsw : swapsWith (.ListComp elt [⟨tg, iter, ifs, 0⟩] scope pos) (some (.Name y py)) p.line X.env = pure true) (hL : ∀ i ∈ L, i ∈ own.map (·.2) := by decide) (hc : X.calm = true := by rfl) (hy : X.N[i]? = some y := by rfl) (hyl : X.env.scope.names.lookup y = some .local := by rfl)
    (hs : ∀ x, foldedSetIterable iter X.env x = pure x := by intro _; rfl) :
    JS X B EX (.Assign [.Name y py] (.ListComp elt [⟨tg, iter, ifs, 0⟩] scope pos) p) (tAsg (tLc wi g tt te (own.map (·.2))) (gName i)) (sOwn (mLc fi h ft fe (own.map (·.2))) i) :=
  ⟨setLc_p i hN ok hi hg ht he hc hy hyl hsw hs, es_own (evf_lc hi.v (hg X.s_0 X.H_0 0 [] []).v (ht X.s_0 X.H_0 0 [] []).v (he X.s_0 X.H_0 0 [] []).v hL)⟩
/-- target = e, any target -/
theorem js_asg {g : TG} {h : D → Rho → Option Rho} {L : List Nat} (he : JE X B EX e te fe) (hg : JG X B tg g h L) (hs : swapsWithSole [tg] e pos.line X.env = pure false := by rfl) (hw : swappedStores [tg] e X.env = pure none := by rfl)
    (h1 : (assignEach [tg] X.env).map (·.2) = [assign tg X.env] := by rfl) : JS X B EX (.Assign [tg] e pos) (tAsg te g) (sAsg fe h) := ⟨ps_asg he.p hg.p hs hw h1, es_asg he.v hg.v⟩
theorem js_par2 (i j : Nat) {ms : List Bool} {x y : Str} {px py pt pt2 : Pos} {kt k2} (hN : X.N.Nodup) (ha : JAM X B EX ms [a, b] tl fl) (hc : X.calm = true := by rfl) (hi : X.N[i]? = some x := by rfl) (hj : X.N[j]? = some y := by rfl) (hij : i ≠ j := by decide) (hx : X.env.scope.names.lookup x = some .local := by rfl) (hy : X.env.scope.names.lookup y = some .local := by rfl)
    (hw : swappedStores [.Tuple [.Name x px, .Name y py] kt pt] (.Tuple [a, b] k2 pt2) X.env = pure (some [x, y]) := by rfl) (hs : swapsWithSole [.Tuple [.Name x px, .Name y py] kt pt] (.Tuple [a, b] k2 pt2) pos.line X.env = pure false := by rfl) :
    JS X B EX (.Assign [.Tuple [.Name x px, .Name y py] kt pt] (.Tuple [a, b] k2 pt2) pos) (tPar i j tl) (sPar ms [i, j] fl) := ⟨ps_par hc hN hi hj hij hx hy ha.p hw hs, es_par2 ha.v⟩
theorem js_par3 (i j l : Nat) {ms : List Bool} {x y z : Str} {px py pz pt pt2 : Pos} {kt k2} (hN : X.N.Nodup) (ha : JAM X B EX ms [a, b, c] tl fl) (hc : X.calm = true := by rfl) (hi : X.N[i]? = some x := by rfl) (hj : X.N[j]? = some y := by rfl) (hl : X.N[l]? = some z := by rfl) (hij : i ≠ j := by decide) (hil : i ≠ l := by decide) (hjl : j ≠ l := by decide) (hx : X.env.scope.names.lookup x = some .local := by rfl) (hy : X.env.scope.names.lookup y = some .local := by rfl) (hz : X.env.scope.names.lookup z = some .local := by rfl)
    (hw : swappedStores [.Tuple [.Name x px, .Name y py, .Name z pz] kt pt] (.Tuple [a, b, c] k2 pt2) X.env = pure (some [x, y, z]) := by rfl) (hs : swapsWithSole [.Tuple [.Name x px, .Name y py, .Name z pz] kt pt] (.Tuple [a, b, c] k2 pt2) pos.line X.env = pure false := by rfl) :
    JS X B EX (.Assign [.Tuple [.Name x px, .Name y py, .Name z pz] kt pt] (.Tuple [a, b, c] k2 pt2) pos) (tPar3 i j l tl) (sPar ms [i, j, l] fl) := ⟨ps_par3 hc hN hi hj hl hij hil hjl hx hy hz ha.p hw hs, es_par3 ha.v⟩
/-- several names at once, some of them cells -/
theorem js_parT {K : PySem.W.Frag} {ms : List Bool} {is : List Nat} {n k2 : Nat} {pt2 : Pos} {tgs : List Expr} {kt : Nat} {pt : Pos} (ha : JAM X B EX ms es tl fl) (hg : PG X (.Tuple tgs kt pt) (gTup K n (gNames is))) (hn : is.length = n := by rfl) (hn2 : n ≤ 100 := by decide) (hs : swapsWithSole [.Tuple tgs kt pt] (.Tuple es k2 pt2) pos.line X.env = pure false := by rfl) (hw : swappedStores [.Tuple tgs kt pt] (.Tuple es k2 pt2) X.env = pure none := by rfl)
    (h1 : (assignEach [.Tuple tgs kt pt] X.env).map (·.2) = [assign (.Tuple tgs kt pt) X.env] := by rfl) (hK : X.K = K := by rfl) : JS X B EX (.Assign [.Tuple tgs kt pt] (.Tuple es k2 pt2) pos) (tAsg (tTup tl) (gTup K n (gNames is))) (sPar ms is fl) := by
  subst hK
  exact ⟨ps_asg (pe_tup ha.p) hg hs hw h1, es_parT ha.v hn hn2⟩
theorem js_append {K : PySem.W.Frag} (i : Nat) {y : Str} {p1 p2 p3 : Pos} (h : JE X B EX e te fe) (hN : X.N[i]? = some y := by rfl) (hv : Vis X.env.scope y := by first | exact Or.inl rfl | exact Or.inr (Or.inl rfl) | exact Or.inr (Or.inr rfl)) (hd : (y == ("__debug__" : Str)) = false := by decide) (hcd : (y == ("__classdict__" : Str)) = false := by decide)
    (hst : starEach [e] X.env = (false, eval e X.env) :: starEach [] X.env := by rfl) (hline : (p2.endLine == p3.line) = true := by rfl)
    (hfew : ((backTo p3 (starEach [e] X.env)).all (fun x => !x.1) && (backToKw p3 (keywordEach [] X.env)).all (fun x => x.1.isSome) && decide (([e] : List Expr).length + ([] : List Keyword).length + (if ([] : List Keyword).isEmpty then 0 else 1) < 30)) = true := by rfl)
    (hbase : attributeBase (.Name y p1) "append" X.env (eval (.Name y p1) X.env) = eval (.Name y p1) X.env := by rfl) (hpl : (backTo p3 (starEach [] X.env)).any (·.1) = false := by rfl) (hs : swapsWith (.Call (.Attribute (.Name y p1) "append" p2) [e] [] p3) none pos.line X.env = pure false := by rfl) (hK : X.K = K := by rfl) :
    JS X B EX (.Expr (.Call (.Attribute (.Name y p1) "append" p2) [e] [] p3) pos) (tDrop (tBM K "list" rAppend (tVar i) (tCons te tNil))) (sAppend i fe) := by
  subst hK
  exact ⟨ps_expr (pe_bm PySem.F.plainAttrs_list PySem.F.slot_list_append PySem.F.type_list_append mt_append (pv i hN hv hd hcd) (pa_cons h.p pa_nil hst) hbase hfew hline hst hpl) hs, es_append h.v⟩
theorem je_pop {K : PySem.W.Frag} (i : Nat) {y : Str} {p1 p2 : Pos} (hN : X.N[i]? = some y := by rfl) (hv : Vis X.env.scope y := by first | exact Or.inl rfl | exact Or.inr (Or.inl rfl) | exact Or.inr (Or.inr rfl)) (hd : (y == ("__debug__" : Str)) = false := by decide) (hcd : (y == ("__classdict__" : Str)) = false := by decide)
    (hbase : attributeBase (.Name y p1) "pop" X.env (eval (.Name y p1) X.env) = eval (.Name y p1) X.env := by rfl) (hline : (p2.endLine == pos.line) = true := by rfl) (hK : X.K = K := by rfl) : JE X B EX (.Call (.Attribute (.Name y p1) "pop" p2) [] [] pos) (tBM0 K "list" rPop (tVar i)) (mPop i) := by
  subst hK
  exact ⟨pe_bm0 PySem.F.plainAttrs_list PySem.F.slot_list_pop PySem.F.type_list_pop mt_pop (pv i hN hv hd hcd) hbase hline, ev_pop⟩
theorem js_setitem (i : Nat) {y : Str} {k : Expr} {tk : TE} {fk : M D} {p1 p2 : Pos} (he : JE X B EX e te fe) (hk : JE X B EX k tk fk) (hN : X.N[i]? = some y := by rfl) (hv : Vis X.env.scope y := by first | exact Or.inl rfl | exact Or.inr (Or.inl rfl) | exact Or.inr (Or.inr rfl)) (hd : (y == ("__debug__" : Str)) = false := by decide) (hcd : (y == ("__classdict__" : Str)) = false := by decide)
    (hsub : ∀ v, assign (.Subscript (.Name y p1) k p2) X.env v = (do
      let ov ← holding [v] (eval (.Name y p1) X.env)
      let iv ← holding [v, ov] (eval k X.env)
      standAt p2
      holding [v, ov, iv] (setItem ov iv v)
      release [v, ov, iv] []) := by intro _; rfl)
    (hs : swapsWithSole [.Subscript (.Name y p1) k p2] e pos.line X.env = pure false := by rfl) (hw : swappedStores [.Subscript (.Name y p1) k p2] e X.env = pure none := by rfl)
    (h1 : (assignEach [.Subscript (.Name y p1) k p2] X.env).map (·.2) = [assign (.Subscript (.Name y p1) k p2) X.env] := by rfl) :
    JS X B EX (.Assign [.Subscript (.Name y p1) k p2] e pos) (tAsg te (gSub (tVar i) tk rSetL)) (sSetItem i fe fk) :=
  ⟨ps_asg he.p (pg_sub (pv i hN hv hd hcd) hk.p set_list hsub) hs hw h1, es_setitem he.v hk.v⟩
theorem js_for {iter : Expr} {body : List Stmt} {g : TG} {h : D → Rho → Option Rho} {L : List Nat} (hp : PassesOwn (model X.prog X.w) X.A X.env X.xe) (hi : JI X B EX tg iter wi fi) (hg : JG X B tg g h L) (hb : JSs X B EX body t f) (hc : X.calm = true := by rfl) (hs : ∀ x, foldedSetIterable iter X.env x = pure x := by intro _; rfl) :
    JS X B EX (.For tg iter body [] pos) (tFor wi g t) (sFor fi h f) := ⟨ps_for hp hc hi.p hg.p hb.p hs, es_for hi.v hg.v hb.v⟩
theorem js_while {body : List Stmt} (n : Nat) (hp : PassesOwn (model X.prog X.w) X.A X.env X.xe) (hc : JB X B EX c tA gA) (hb : JSs X B EX body t f) : JS X B EX (.While c body [] pos) (tWhile tA t) (whileGo gA f n) := ⟨ps_while hp hc.p hb.p, es_while hc.v hb.v⟩
end

/-! ### a def, by its body -/
section
variable {P : Program} {w : World} {K : PySem.W.Frag} {mg : Str → Option Value} {base : Heap} {C : Str → Addr}
theorem def_ok0 {x qual : Str} {st : Stmt} {f : Addr} {fd : FuncData} {N ps : List Str} {k : Nat} {body : S} (F : Fun K x qual st f fd) (Sc : FnScope N ps (defScope st))
    (hb : ∀ (cdv : Value) (A : Around) (outer : List Env) (s : Shared) (H : Hp) (E : XK), Room k (A.deeper (PyProof.Rows.envOfC qual (defScope st) s.heap.objs.size f cdv)) →
      ∃ t, ∀ (B : Bd) (EX : Str → Hp → Prop), JSs (cxOf CX0 P w K mg base N qual (defScope st) f cdv A outer s H E).nox B EX (defBody st) t body) :
    FnOk P w K mg base CX0 (k + 1) f fd ps (spV C (callD ps.length N.length body)) := by
  refine F.ok Sc (fun vs H Q E h => spV_len h) (fun cdv A outer s H vs Q E hr h => ?_)
  obtain ⟨t, ht⟩ := hb cdv A outer s H E hr
  exact ⟨t, (ht ⟨H, H, []⟩ EX0).p, body_ok h fun F => (ht _ _).v⟩
theorem def_okX {x qual : Str} {st : Stmt} {f : Addr} {fd : FuncData} {N ps : List Str} {k : Nat} {body : S} (F : Fun K x qual st f fd) (Sc : FnScope N ps (defScope st))
    (hb : ∀ (cdv : Value) (A : Around) (outer : List Env) (s : Shared) (H : Hp) (E : XK), Room k (A.deeper (PyProof.Rows.envOfC qual (defScope st) s.heap.objs.size f cdv)) →
      ∃ t, ∀ (B : Bd), JSs (cxOf (L2.CX P w) P w K mg base N qual (defScope st) f cdv A outer s H E) B (fun c H' => E (.ref (C c)) none H') (defBody st) t body) :
    FnOk P w K mg base (L2.CX P w) (k + 1) f fd ps (spV C (callD ps.length N.length body)) := by
  refine F.okX Sc (fun vs H Q E h => spV_len h) (fun cdv A outer s H vs Q E hr h => ?_)
  obtain ⟨t, ht⟩ := hb cdv A outer s H E hr
  exact ⟨t, (ht ⟨H, H, []⟩).p, body_ok h fun F => (ht _).v⟩
end
end Rn
end

section
set_option Elab.async false
set_option linter.all false
set_option autoImplicit false
set_option maxRecDepth 100000
/-! Core8: defs by what the head tells; raising. -/
namespace Rn
open PySem PySem.Spec L2

abbrev FnP (K : PySem.W.Frag) (x : Str) (st : Stmt) (f : Addr) (fd : FuncData) : Prop := FunD K x x (defArgs st) (defBody st) (defScope st) [] [] f fd
/-- a def of the text, with its name and parameters -/
def HasF (K : PySem.W.Frag) (mg : Str → Option Value) (x : Str) (st : Stmt) (ps : List Str) : Prop := ∃ f fd, FnP K x st f fd ∧ mg x = some (.ref f) ∧ Binds K fd ps []
structure ExcF (K : PySem.W.Frag) (mg : Str → Option Value) (C : Str → Addr) (x : Str) : Prop where
  g : mg x = some (.ref (C x))
  q : PySem.W.excIn K (C x) He.veBase "ValueError.__new__" = true
  k : PySem.W.keepIn K (.ref (C x)) = true
  s : PySem.W.subIn K (.ref (C x)) (.type "BaseException") = some true
  t : PySem.W.typeIn K (.ref (C x)) = some (.type "type")
section
variable {P : Program} {w : World} {K : PySem.W.Frag} {mg : Str → Option Value} {base : Heap} {C : Str → Addr}
theorem def_v0 {x : Str} {st : Stmt} {N ps : List Str} {k : Nat} {body : S} (h : HasF K mg x st ps) (Sc : FnScope N ps (defScope st))
    (hb : ∀ (f : Addr) (cdv : Value) (A : Around) (outer : List Env) (s : Shared) (H : Hp) (E : XK), Room k (A.deeper (PyProof.Rows.envOfC x (defScope st) s.heap.objs.size f cdv)) →
      ∃ t, ∀ (B : Bd) (EX : Str → Hp → Prop), JSs (cxOf CX0 P w K mg base N x (defScope st) f cdv A outer s H E).nox B EX (defBody st) t body) :
    DefV P w K mg base CX0 C x ps (k + 1) (callD ps.length N.length body) := by
  obtain ⟨f, fd, F, hm, hbd⟩ := h
  refine ⟨f, fd, F.ok Sc (fun vs H Q E h => spV_len h) (fun cdv A outer s H vs Q E hr h => ?_), hm, F.kp, hbd⟩
  obtain ⟨t, ht⟩ := hb f cdv A outer s H E hr
  exact ⟨t, PSs.nox (ht ⟨H, H, []⟩ EX0).p, body_ok h fun F => (ht _ _).v⟩
theorem def_vX {x : Str} {st : Stmt} {N ps : List Str} {k : Nat} {body : S} (h : HasF K mg x st ps) (Sc : FnScope N ps (defScope st))
    (hb : ∀ (f : Addr) (cdv : Value) (A : Around) (outer : List Env) (s : Shared) (H : Hp) (E : XK), Room k (A.deeper (PyProof.Rows.envOfC x (defScope st) s.heap.objs.size f cdv)) →
      ∃ t, ∀ (B : Bd), JSs (cxOf (L2.CX P w) P w K mg base N x (defScope st) f cdv A outer s H E) B (fun c H' => E (.ref (C c)) none H') (defBody st) t body) :
    DefV P w K mg base (L2.CX P w) C x ps (k + 1) (callD ps.length N.length body) := by
  obtain ⟨f, fd, F, hm, hbd⟩ := h
  refine ⟨f, fd, F.ok Sc (fun vs H Q E h => spV_len h) (fun cdv A outer s H vs Q E hr h => ?_), hm, F.kp, hbd⟩
  obtain ⟨t, ht⟩ := hb f cdv A outer s H E hr
  exact ⟨t, (ht ⟨H, H, []⟩).p, body_ok h fun F => (ht _).v⟩
/-- a call in the body of a def that may raise -/
theorem je_call {qual : Str} {N : List Str} {scope : Scope} {f : Addr} {cdv : Value} {A : Around} {outer : List Env} {s : Shared} {H : Hp} {E : XK} {B : Bd} {x : Str} {p pos : Pos} {e : Expr} {es : List Expr} {tl : TA} {fl : M (List D)} {ps : List Str} {k j : Nat} {g : List D → RR}
    (d : DefV P w K mg base (L2.CX P w) C x ps k g) (hr : Room j (cxOf (L2.CX P w) P w K mg base N qual scope f cdv A outer s H E).A) (ha : JA (cxOf (L2.CX P w) P w K mg base N qual scope f cdv A outer s H E) B (fun c H' => E (.ref (C c)) none H') (e :: es) tl fl) (hkj : k ≤ j := by decide)
    (hg : Gl (cxOf (L2.CX P w) P w K mg base N qual scope f cdv A outer s H E) x := by rfl) (hdb : (x == ("__debug__" : Str)) = false := by decide)
    (he : starEach (e :: es) (cxOf (L2.CX P w) P w K mg base N qual scope f cdv A outer s H E).env = (false, eval e (cxOf (L2.CX P w) P w K mg base N qual scope f cdv A outer s H E).env) :: starEach es (cxOf (L2.CX P w) P w K mg base N qual scope f cdv A outer s H E).env := by rfl)
    (hpl : (backTo pos (starEach es (cxOf (L2.CX P w) P w K mg base N qual scope f cdv A outer s H E).env)).any (·.1) = false := by rfl) :
    JE (cxOf (L2.CX P w) P w K mg base N qual scope f cdv A outer s H E) B (fun c H' => E (.ref (C c)) none H') (.Call (.Name x p) (e :: es) [] pos) (tCall (spV C g) [] E tl) (mCall g fl) :=
  je_callX (X := cxOf (L2.CX P w) P w K mg base N qual scope f cdv A outer s H E) d hr (passes_call (W := fun cls d _ H => E cls d H) (takes_of rfl rfl rfl rfl) (fun _ _ _ _ q => q)) (fun _ _ q => q) ha hkj hg hdb he hpl
theorem js_raise {qual : Str} {N : List Str} {scope : Scope} {f : Addr} {cdv : Value} {A : Around} {outer : List Env} {s : Shared} {H : Hp} {E : XK} {B : Bd} {x m : Str} {j : Nat} {p p2 p3 pos : Pos} (c : ExcF K mg C x) (hg : Gl (cxOf (L2.CX P w) P w K mg base N qual scope f cdv A outer s H E) x := by rfl) (hdb : (x == ("__debug__" : Str)) = false := by decide) :
    JS (cxOf (L2.CX P w) P w K mg base N qual scope f cdv A outer s H E) B (fun c H' => E (.ref (C c)) none H') (.Raise (some (.Call (.Name x p) [.Constant (.str m) j p2] [] p3)) none pos)
      (fun _ σ H => (fun (_ : L2.St) H (Q : XK) => Q (.ref (C x)) none H) σ H fun cls d H' => (fun cls d (_ : L2.St) H => E cls d H) cls d σ H') (sRaise x) :=
  ⟨ps_raise rfl (takes_of rfl rfl rfl rfl) (pmk_own PySem.F.excBase_ValueError c.q c.g c.k (raises_own c.s c.t) hg hdb), es_raise fun _ q => q⟩
theorem pass_own {qual : Str} {N : List Str} {scope : Scope} {f : Addr} {cdv : Value} {A : Around} {outer : List Env} {s : Shared} {H : Hp} {E : XK} : PassesOwn (model P w) (cxOf (L2.CX P w) P w K mg base N qual scope f cdv A outer s H E).A (cxOf (L2.CX P w) P w K mg base N qual scope f cdv A outer s H E).env (cxOf (L2.CX P w) P w K mg base N qual scope f cdv A outer s H E).xe := passes_of rfl
theorem je_gi {X : Cx} {B : Bd} {EX : Str → Hp → Prop} {pos : Pos} {x : Str} {i : Int} (hm : ∃ t, X.mg x = some (.int i t)) (hg : Gl X x := by rfl) (hd : (x == ("__debug__" : Str)) = false := by decide) : JE X B EX (.Name x pos) (tC (.int i)) (ret (.int i)) := by
  obtain ⟨t, h⟩ := hm
  exact je_gint h hg hd
end
end Rn
end

section
set_option Elab.async false
set_option linter.all false
set_option autoImplicit false
set_option maxRecDepth 100000
/-! Core9: sorted, three-argument max and min. -/
namespace Rn
open PySem PySem.Spec L2

/-! ### sorting data -/
def ins (x : D) : List D → List D
  | [] => [x]
  | y :: ys => if PySem.W.dataLt y x = true then y :: ins x ys else x :: y :: ys
def isort : List D → List D
  | [] => []
  | x :: xs => ins x (isort xs)
abbrev dle (x y : D) : Prop := PySem.W.dataLt y x = false
theorem dle_total (x y : D) : dle x y ∨ dle y x := by
  by_cases h : PySem.W.dataLt y x = true
  · right
    cases e : PySem.W.dataLt x y with
    | false => exact e
    | true =>
      have t := PyProof.Rows.lex_trans _ _ _ h e
      rw [PyProof.Rows.lex_irrefl] at t
      cases t
  · left; simpa using h
theorem dle_trans {x y z : D} (h1 : dle x y) (h2 : dle y z) : dle x z := by
  cases e : PySem.W.dataLt z x with
  | false => exact e
  | true =>
    rcases PyProof.Rows.lex_negTrans _ (PySem.W.keyToks y) _ e with h | h
    · exact absurd h (by rw [show PyProof.Rows.lexLt PyProof.Rows.itemOrd (PySem.W.keyToks z) (PySem.W.keyToks y) = false from h2]; decide)
    · exact absurd h (by rw [show PyProof.Rows.lexLt PyProof.Rows.itemOrd (PySem.W.keyToks y) (PySem.W.keyToks x) = false from h1]; decide)
theorem ins_perm (x : D) : ∀ ys : List D, (ins x ys).Perm (x :: ys)
  | [] => .refl _
  | y :: ys => by
    unfold ins
    split
    · exact ((ins_perm x ys).cons y).trans (.swap x y ys)
    · exact .refl _
theorem isort_perm : ∀ xs : List D, (isort xs).Perm xs
  | [] => .refl _
  | x :: xs => (ins_perm x _).trans ((isort_perm xs).cons x)
theorem ins_pw (x : D) : ∀ ys : List D, ys.Pairwise dle → (ins x ys).Pairwise dle
  | [], _ => List.pairwise_singleton _ _
  | y :: ys, h => by
    obtain ⟨h1, h2⟩ := List.pairwise_cons.mp h
    unfold ins
    split
    · next e =>
      refine List.pairwise_cons.mpr ⟨fun z hz => ?_, ins_pw x ys h2⟩
      rcases List.mem_cons.mp ((ins_perm x ys).mem_iff.mp hz) with rfl | hz
      · rcases dle_total y z with q | q
        · exact q
        · rw [show PySem.W.dataLt y z = false from q] at e; cases e
      · exact h1 z hz
    · next e =>
      have e' : dle x y := by simpa using e
      refine List.pairwise_cons.mpr ⟨fun z hz => ?_, h⟩
      rcases List.mem_cons.mp hz with rfl | hz
      · exact e'
      · exact dle_trans e' (h1 z hz)
theorem isort_pw : ∀ xs : List D, (isort xs).Pairwise dle
  | [] => .nil
  | x :: xs => ins_pw x _ (isort_pw xs)
mutual
theorem toks_inj : ∀ (x y : D) (l m : List (Int ⊕ List Nat)), PySem.W.alike x y = true → PySem.W.keyToks x ++ l = PySem.W.keyToks y ++ m → x = y ∧ l = m
  | .none, y, l, m, h, e => by
    cases y <;> simp [PySem.W.alike] at h
    exact ⟨rfl, by simpa [PySem.W.keyToks] using e⟩
  | .bool a, y, l, m, h, e => by
    cases y <;> simp [PySem.W.alike] at h
    next b =>
      simp only [PySem.W.keyToks, List.cons_append, List.nil_append, List.cons.injEq, Sum.inl.injEq] at e
      cases a <;> cases b <;> simp_all
  | .int a, y, l, m, h, e => by
    cases y <;> simp [PySem.W.alike] at h
    simp only [PySem.W.keyToks, List.cons_append, List.nil_append, List.cons.injEq, Sum.inl.injEq] at e
    exact ⟨by rw [e.1], e.2⟩
  | .str a, y, l, m, h, e => by
    cases y <;> simp [PySem.W.alike] at h
    simp only [PySem.W.keyToks, List.cons_append, List.nil_append, List.cons.injEq, Sum.inr.injEq] at e
    exact ⟨by rw [PySem.W.str_of_cps e.1], e.2⟩
  | .list xs, y, l, m, h, e => by
    cases y <;> simp [PySem.W.alike] at h
    simp only [PySem.W.keyToks] at e
    obtain ⟨a, b⟩ := toksAll_inj xs _ l m h e
    exact ⟨by rw [a], b⟩
  | .tuple xs, y, l, m, h, e => by
    cases y <;> simp [PySem.W.alike] at h
    simp only [PySem.W.keyToks] at e
    obtain ⟨a, b⟩ := toksAll_inj xs _ l m h e
    exact ⟨by rw [a], b⟩
  | .dict _, y, l, m, h, e => by
    cases y <;> simp [PySem.W.alike] at h
theorem toksAll_inj : ∀ (xs ys : List D) (l m : List (Int ⊕ List Nat)), PySem.W.alikeAll xs ys = true → PySem.W.keyToksAll xs ++ l = PySem.W.keyToksAll ys ++ m → xs = ys ∧ l = m
  | [], [], l, m, _, e => ⟨rfl, by simpa [PySem.W.keyToksAll] using e⟩
  | [], y :: ys, l, m, _, e => by simp [PySem.W.keyToksAll] at e
  | x :: xs, [], l, m, _, e => by simp [PySem.W.keyToksAll] at e
  | x :: xs, y :: ys, l, m, h, e => by
    obtain ⟨h1, h2⟩ := PySem.W.alike_all_cons h
    simp only [PySem.W.keyToksAll, List.cons_append, List.append_assoc, List.cons.injEq, true_and] at e
    obtain ⟨a, b⟩ := toks_inj x y _ _ h1 e
    obtain ⟨c, d⟩ := toksAll_inj xs ys _ _ h2 b
    exact ⟨by rw [a, c], d⟩
end
theorem dle_anti {x y : D} (h : PySem.W.alike x y = true) (h1 : dle x y) (h2 : dle y x) : x = y :=
  (toks_inj x y [] [] h (by rw [PyProof.Rows.lex_total _ _ h2 h1])).1
theorem isort_uniq {l ds : List D} (al : PySem.W.AllAlike ds) (p : l.Perm ds) (s : l.Pairwise dle) : l = isort ds :=
  List.Perm.eq_of_pairwise (le := dle) (fun a b ha hb h1 h2 => dle_anti (al a (p.mem_iff.mp ha) b ((isort_perm ds).mem_iff.mp hb)) h1 h2) s (isort_pw ds) (p.trans (isort_perm ds).symm)
theorem merge_isort {β : Type} (enc : β → D) (bs : List β) (al : PySem.W.AllAlike (bs.map enc)) : (bs.mergeSort (PySem.W.dataLe false enc)).map enc = isort (bs.map enc) := by
  refine isort_uniq al ((List.mergeSort_perm _ _).map enc) ?_
  refine List.pairwise_map.mpr ((List.pairwise_mergeSort (le := PySem.W.dataLe false enc) (fun a b c h1 h2 => ?_) (fun a b => ?_) bs).imp fun {a b} h => ?_)
  · have h1' : dle (enc a) (enc b) := by simpa [PySem.W.dataLe_eq] using h1
    have h2' : dle (enc b) (enc c) := by simpa [PySem.W.dataLe_eq] using h2
    have := dle_trans h1' h2'
    simpa [PySem.W.dataLe_eq] using this
  · have := dle_total (enc a) (enc b)
    simpa [PySem.W.dataLe_eq] using this
  · simpa [PySem.W.dataLe_eq] using h
/-- data that sorted can sort -/
def isTup1 : D → Bool
  | .tuple (_ :: _) => true
  | _ => false
def isOth : D → Bool
  | .none => false
  | .tuple _ => false
  | _ => true
def sortOk (ds : List D) : Bool := (ds.all fun x => ds.all fun y => PySem.W.alike x y) && (ds.all isTup1 || ds.all isOth) && PyData.plainAll ds && decide (ds.length ≤ big) && ds.all fun d => decide (d.depth ≤ 60)
theorem sortOk_parts {ds : List D} (h : sortOk ds = true) : PySem.W.AllAlike ds ∧ PySem.W.Sortable ds ∧ PyData.plainAll ds = true ∧ ds.length ≤ big ∧ ∀ d ∈ ds, d.depth ≤ 60 := by
  unfold sortOk at h
  simp only [Bool.and_eq_true, Bool.or_eq_true, decide_eq_true_eq] at h
  obtain ⟨⟨⟨⟨h1, h2⟩, h3⟩, h4⟩, h5⟩ := h
  refine ⟨fun d hd e he => List.all_eq_true.mp (List.all_eq_true.mp h1 d hd) e he, ?_, h3, h4, fun d hd => by simpa using List.all_eq_true.mp h5 d hd⟩
  rcases h2 with h2 | h2
  · refine .inl fun d hd => ?_
    have q := List.all_eq_true.mp h2 d hd
    unfold isTup1 at q
    split at q
    · exact ⟨_, _, rfl⟩
    · cases q
  · refine .inr fun d hd => ?_
    have q := List.all_eq_true.mp h2 d hd
    unfold isOth at q
    split at q <;> first | cases q | exact ⟨by rintro rfl; contradiction, by rintro xs rfl; contradiction⟩ | skip
    next a b => exact ⟨fun e => a e, fun xs e => b xs e⟩
def sortF : List D → Option D
  | [.list ds] => if sortOk ds = true then some (.list (isort ds)) else none
  | _ => none
def rSortD (K : PySem.W.Frag) : List V → Hp → VK → Prop := fun vs H Q => ∃ (a : Addr) (xs : List V) (ds : List D), vs = [V.ref a] ∧ SqL K H a xs ∧ DpAll K H xs ds ∧ sortOk ds = true ∧
  ∀ p ys (bs : List (V × D)), bs.Perm (xs.zip ds) → bs.map (·.2) = isort ds → ys = bs.map (·.1) → H p = none → Q (.ref p) (upd H p (.lst ys))
theorem vals_zip : ∀ {xs : List V} {its : List Value} (ds : List D), Vals xs its → ds.length = xs.length → PySem.W.EachIs (fun (u : Value) (b : V × D) => RelV b.1 u) its (xs.zip ds)
  | [], its, ds, r, h => by
    cases r
    cases ds with
    | nil => exact .nil
    | cons => simp at h
  | x :: xs, its, ds, r, h => by
    cases r with
    | cons r1 r2 =>
      cases ds with
      | nil => simp at h
      | cons d ds => exact .cons r1 (vals_zip ds r2 (by simpa using h))
theorem each_vals : ∀ {its : List Value} {bs : List (V × D)}, PySem.W.EachIs (fun (u : Value) (b : V × D) => RelV b.1 u) its bs → Vals (bs.map (·.1)) its
  | _, _, .nil => .nil
  | _, _, .cons h t => .cons h (each_vals t)
theorem dpAll_len {K : PySem.W.Frag} {H : Hp} : ∀ {vs : List V} {ds : List D}, DpAll K H vs ds → ds.length = vs.length
  | _, _, .nil => rfl
  | _, _, .cons _ t => by simp [dpAll_len t]
theorem reads_zip {X : Cx} {pins : List (Addr × Obj)} {s : Shared} {σ : L2.St} {H : Hp} (I : Inv X pins σ H s) : ∀ {xs : List V} {its : List Value} {ds : List D}, Vals xs its → DpAll X.K H xs ds → PySem.W.EachIs (fun (u : Value) (b : V × D) => ∃ as, Reads s.heap u b.2 as) its (xs.zip ds)
  | [], its, ds, r, h => by
    cases r
    cases h
    exact .nil
  | x :: xs, its, ds, r, h => by
    cases r with
    | cons r1 r2 =>
      cases h with
      | cons h1 h2 => exact .cons (Dp.reads I _ _ _ h1 r1) (reads_zip I r2 h2)
theorem call_sortD {X : Cx} (hu : X.A.units + 64 < cLine) : CallR X (.builtin "sorted") (rSortD X.K) := by
  intro pins s σ H vs us Q I r h
  obtain ⟨a, xs, ds, rfl, hs, hd, ok, q⟩ := h
  obtain ⟨al, so, pl, le, dp⟩ := sortOk_parts ok
  obtain ⟨its, rv, hl, hz⟩ := I.list hs
  obtain ⟨u, rfl, ru⟩ := vals1 r
  obtain rfl : u = Value.ref a := ru
  have hlen := dpAll_len hd
  have e2 : (xs.zip ds).map (·.2) = ds := List.map_snd_zip (by omega)
  refine PySem.W.sorted_data (enc := fun b : V × D => b.2) (R := fun u b => RelV b.1 u) (bs := xs.zip ds) hl.isList (vals_zip ds rv hlen) (reads_zip I rv hd) (by rw [e2]; exact al) (by rw [e2]; exact so) (by rw [List.length_zip]; omega) (fun b hb => ?_) fun out ho eo => ?_
  · have := dp b.2 (List.of_mem_zip (a := b.1) (b := b.2) hb).2
    omega
  · obtain ⟨n, hn⟩ := PyProof.Rows.sortedAll_at s.heap its out.toArray
    have v := each_vals eo
    have pm : ((xs.zip ds).mergeSort (PySem.W.dataLe false fun b : V × D => b.2)).Perm (xs.zip ds) := List.mergeSort_perm _ _
    have me := merge_isort (fun b : V × D => b.2) (xs.zip ds) (by rw [e2]; exact al)
    rw [e2] at me
    refine ⟨.ref (s.heap.objs.size + 1), upd H (s.heap.objs.size + 1) (.lst _), I.laid (t' := s.toks) (fun b o e => PyProof.Rows.sortedAll_old e) (Nat.le_succ _) ⟨?_, out, n, v, hn⟩, rfl, q _ _ _ pm me rfl (I.hok.fresh (Nat.le_succ _))⟩
    rw [List.length_map, pm.length_eq, List.length_zip]
    omega
theorem den_zip {F : Hp} : ∀ {ds : List D} {vs : List V}, DenL F ds vs → ∀ b ∈ vs.zip ds, Den F b.2 b.1
  | [], _, h, b, hb => by cases h; simp at hb
  | d :: ds, _, ⟨v, r, e, h, l⟩, b, hb => by
    subst e
    rw [List.zip_cons_cons] at hb
    rcases List.mem_cons.mp hb with rfl | hb
    · exact h
    · exact den_zip l b hb
theorem den_of_pairs {F : Hp} : ∀ {bs : List (V × D)}, (∀ b ∈ bs, Den F b.2 b.1) → DenL F (bs.map (·.2)) (bs.map (·.1))
  | [], _ => rfl
  | b :: bs, h => ⟨b.1, _, rfl, h b (List.mem_cons_self ..), den_of_pairs fun c hc => h c (List.mem_cons_of_mem _ hc)⟩
theorem okF_sort {K : PySem.W.Frag} : CallOkF (rSortD K) sortF := by
  intro F H vs ds z Q s hn hf q
  unfold sortF at hf
  split at hf
  · next es =>
    split at hf
    · next ok =>
      cases hf
      obtain ⟨v0, r0, rfl, h1, h2⟩ := hn
      cases h2
      obtain ⟨a, ws, rfl, e, l⟩ := h1.lst s
      obtain ⟨al, so, pl, le, dp⟩ := sortOk_parts ok
      refine ⟨a, ws, es, rfl, SqL.of e, DenL.dp s pl l, ok, fun p ys bs pm me ey hp => ?_⟩
      subst ey
      refine q p _ hp ?_
      show DenL F (isort es) (bs.map (·.1))
      rw [← me]
      exact den_of_pairs fun b hb => den_zip l b (pm.mem_iff.mp hb)
    · cases hf
  · cases hf
section
variable {X : Cx} {B : Bd} {EX : Str → Hp → Prop} {e : Expr} {es : List Expr} {pos : Pos} {tl : TA} {rl : M (List TV)} {x : Str} {p : Pos}
theorem jf_cb {id : String} {r : List V → Hp → VK → Prop} {f : List D → Option D} (hc : CallR X (.builtin id) r) (hk : CallOkF r f) (hv : bootBuiltins x = some (.builtin id)) (hm : X.mg x = none) (ha : JAR X B EX (e :: es) tl rl) (hg : Gl X x := by rfl) (hn : x ≠ "__name__" := by decide) (hdb : (x == ("__debug__" : Str)) = false := by decide)
    (he : starEach (e :: es) X.env = (false, eval e X.env) :: starEach es X.env := by rfl) (hpl : (backTo pos (starEach es X.env)).any (·.1) = false := by rfl) : JF X B EX (.Call (.Name x p) (e :: es) [] pos) (tCB r tl) (mCB f rl) := ⟨pe_callB hc hg hm hv ha.p hn hdb he hpl, evf_cb hk ha.v⟩
theorem cK_sort {K : PySem.W.Frag} (hK : X.K = K) (hu : X.A.units + 64 < cLine) : CallR X (.builtin "sorted") (rSortD K) := by subst hK; exact call_sortD hu
end
/-! ### max of three -/
def max3F : List D → Option D
  | [.int i, .int j, .int k] => some (.int (if (if j > i then j else i) < k then k else (if j > i then j else i)))
  | _ => none
def min3F : List D → Option D
  | [.int i, .int j, .int k] => some (.int (if k < (if j < i then j else i) then k else (if j < i then j else i)))
  | _ => none
theorem nuMax2_int (i j : Int) : nuMax2 (.int i) (.int j) = some (.int (if j > i then j else i)) := by
  show some (if decide (i < j) = true then V.int j else V.int i) = _
  by_cases h : i < j <;> simp [h]
theorem nuMin2_int (i j : Int) : nuMin2 (.int i) (.int j) = some (.int (if j < i then j else i)) := by
  show some (if decide (j < i) = true then V.int j else V.int i) = _
  by_cases h : j < i <;> simp [h]
theorem ok_max3 : CallOk (rNuC3 nuMax3) max3F := by
  intro F H vs ds z Q s hn hf q
  unfold max3F at hf
  split at hf
  · cases hf
    obtain ⟨v0, r0, rfl, h1, v1, r1, rfl, h2, v2, r2, rfl, h3, h4⟩ := hn
    cases h4
    rw [h1.int, h2.int, h3.int]
    refine ⟨_, _, _, _, rfl, ?_, q _ F H (Ext.refl s) rfl⟩
    unfold nuMax3
    rw [nuMax2_int]
    exact nuMax2_int _ _
  · cases hf
theorem ok_min3 : CallOk (rNuC3 nuMin3) min3F := by
  intro F H vs ds z Q s hn hf q
  unfold min3F at hf
  split at hf
  · cases hf
    obtain ⟨v0, r0, rfl, h1, v1, r1, rfl, h2, v2, r2, rfl, h3, h4⟩ := hn
    cases h4
    rw [h1.int, h2.int, h3.int]
    refine ⟨_, _, _, _, rfl, ?_, q _ F H (Ext.refl s) rfl⟩
    unfold nuMin3
    rw [nuMin2_int]
    exact nuMin2_int _ _
  · cases hf
end Rn
end

section
set_option Elab.async false
set_option linter.all false
set_option autoImplicit false
set_option maxRecDepth 100000
/-! Core10: dicts in statements, fresh results, lists lent to a call. -/
namespace Rn
open PySem PySem.Spec L2

/-- an object laid on the way, not frozen, is written -/
theorem Stp.poke {B : Bd} {F H F' H' : Hp} {σ : L2.St} {ρ ρ' : Rho} (x : Stp B F H σ ρ F' H' ρ') (m : Mt B F H σ ρ) {p : Addr} (hp : H p = none) (fp : F' p = none) (o : HO) : Stp B F H σ ρ F' (upd H' p o) ρ' := by
  have b0 : B.H0 p = none := m.dom _ hp
  have np : ¬ Owns σ ρ' p := fun z => m.noOwn hp (x.own _ z)
  have ne : ∀ b u, F' b = some u → b ≠ p := fun b u z w => by subst w; rw [fp] at z; cases z
  refine ⟨⟨fun b u z => by rw [upd_ne (ne b u z)]; exact x.mt.sub _ _ z, x.mt.old, x.mt.new, fun b u z w => ?_, fun b z => ?_, x.mt.len, fun j vv c g1 g2 => ?_, x.mt.apart⟩, x.old, x.new, fun b u z w => ?_, fun b z => ?_, x.own, x.kind⟩
  · have hb : b ≠ p := fun w' => by subst w'; rw [b0] at z; cases z
    rw [upd_ne hb]; exact x.mt.frm b u z w
  · by_cases hb : b = p
    · subst hb; exact b0
    · rw [upd_ne hb] at z; exact x.mt.dom b z
  · have g := x.mt.cell j vv c g1 g2
    cases c with
    | no => trivial
    | fz d => exact g
    | ow d =>
      obtain ⟨b, o, k1, k2, k3, k4, k5⟩ := g
      have hb : b ≠ p := fun w' => np ⟨j, _, by rw [g1, k1, w'], g2, rfl⟩
      exact ⟨b, o, k1, by rw [upd_ne hb]; exact k2, k3, k4, k5⟩
    | bw d =>
      obtain ⟨b, o, k1, k2, k3, k4, k5⟩ := g
      have hb : b ≠ p := fun w' => np ⟨j, _, by rw [g1, k1, w'], g2, rfl⟩
      exact ⟨b, o, k1, by rw [upd_ne hb]; exact k2, k3, k4, k5⟩
  · have hb : b ≠ p := fun w' => by subst w'; rw [hp] at z; cases z
    rw [upd_ne hb]; exact x.frm b u z w
  · by_cases hb : b = p
    · subst hb; exact hp
    · rw [upd_ne hb] at z; exact x.dom b z
/-- .. and frozen -/
theorem Stp.pokeF {B : Bd} {F H F' H' : Hp} {σ : L2.St} {ρ ρ' : Rho} (x : Stp B F H σ ρ F' H' ρ') (m : Mt B F H σ ρ) {p : Addr} (hp : H p = none) (fp : F' p = none) (o : HO) : Stp B F H σ ρ (upd F' p o) (upd H' p o) ρ' :=
  Stp.freeze0 m (x.poke m hp fp o) upd_same fp hp
/-! ### {k: v} -/
def mDisp1 (fk fv : M D) : M D := bnd fk fun k => bnd fv fun v => fun ρ => match keyOf k with
  | some _ => .ok (.dict [(k, v)]) ρ
  | none => .no
theorem evf_disp1 {B : Bd} {EX : Str → Hp → Prop} {tk tv : TE} {fk fv : M D} (hk : Ev B EX VD tk fk) (hv : Ev B EX VD tv fv) : EvF B EX (tDisp [(tk, tv)]) (mDisp1 fk fv) := by
  intro F H σ ρ Q m h p hp
  have x0 := m.ext (Ext.loose m.sub hp (.dK []))
  have np : ¬ Owns σ ρ p := m.noOwn hp
  refine hk F _ σ ρ _ x0.mt ?_
  unfold mDisp1 bnd at h
  cases e : fk ρ with
  | no => rw [e] at h; exact h
  | ex c r => rw [e] at h; exact fun F' H' x => h F' H' (x0.trans x)
  | ok k r =>
    rw [e] at h
    intro y F1 H1 x1 dy
    refine hv F1 H1 σ r _ x1.mt ?_
    simp only at h
    cases e2 : fv r with
    | no => rw [e2] at h; exact h
    | ex c r2 => rw [e2] at h; exact fun F' H' x => h F' H' (x0.trans (x1.trans x))
    | ok v r2 =>
      rw [e2] at h
      intro u F2 H2 x2 du
      simp only at h
      cases e3 : keyOf k with
      | none => simp only [e3] at h; exact h.elim
      | some q =>
        simp only [e3] at h
        have e4 := keyOf_eq e3
        subst e4
        have ey : y = kV q := key_den dy
        subst ey
        have x3 := x0.trans (x1.trans x2)
        have h1 : H1 p = some (.dK []) := x1.frm p _ upd_same np
        have np1 : ¬ Owns σ r p := fun z => np (x1.own _ z)
        have h2 : H2 p = some (.dK []) := x2.frm p _ h1 np1
        have fp : F2 p = none := by
          cases w : F2 p with
          | none => rfl
          | some o =>
            rcases (x1.trans x2).new p o w with z | z | z
            · rw [m.sub.free hp] at z; cases z
            · rw [upd_same] at z; cases z
            · exact (np z).elim
        refine ⟨h2, [(q, u)], rfl, by simp, ?_⟩
        exact h (.ref p) F2 _ (x3.poke m hp fp _) ⟨p, _, rfl, upd_same, ⟨q, u, [], rfl, rfl, du, rfl⟩, fp, hp⟩
/-! ### d[k] = v -/
def putDC (ρ : Rho) (i : Nat) (k d : D) : Option Rho := match cellD ρ[i]? with
  | some (.dict ds) => (match keyOf k with
    | some _ => if ds.length ≤ big then putCell ρ i (.dict (putD ds k d)) else none
    | none => none)
  | _ => none
def sPutItem (i : Nat) (fe fk : M D) : S := sBind fe fun d => fun ρ => match cellD ρ[i]? with
  | some _ => sBind fk (fun k => fun ρ => match putDC ρ i k d with
      | some r => .nx r
      | none => .no) ρ
  | none => .no
theorem big_lt {n : Nat} (h : n ≤ big) : n < sizeLine := Nat.lt_of_le_of_lt h (by decide)
theorem es_putitem {B : Bd} {EX : Str → Hp → Prop} {i : Nat} {te tk : TE} {fe fk : M D} (he : Ev B EX VD te fe) (hk : Ev B EX VD tk fk) : EvS B EX (tAsg te (gSub (tVar i) tk rSetD)) (sPutItem i fe fk) := by
  refine es_bind (tb := fun x E σ H => gSub (tVar i) tk rSetD x σ H E.nx) he fun d y F H σ ρ E m dy q => ?_
  cases e0 : cellD ρ[i]? with
  | none => simp only [e0] at q; exact q.elim
  | some d0 =>
    simp only [e0] at q
    obtain ⟨v, hv1, hv2⟩ := slot_at m e0
    refine ⟨v, hv1, ?_⟩
    refine hk F H σ ρ _ m ?_
    unfold sBind at q
    cases e : fk ρ with
    | ex c r => rw [e] at q; exact fun F' H' x => q σ F' H' x.mt
    | no => rw [e] at q; exact q
    | ok kd r =>
      rw [e] at q
      simp only at q
      intro w F1 H1 x1 dw
      unfold putDC at q
      cases e2 : cellD r[i]? with
      | none => simp only [e2] at q; exact q.elim
      | some d2 =>
        simp only [e2] at q
        cases d2 with
        | dict ds =>
          simp only at q
          cases e5 : keyOf kd with
          | none => simp only [e5] at q; exact q.elim
          | some k =>
            simp only [e5] at q
            have e6 := keyOf_eq e5
            subst e6
            have ew : w = kV k := key_den dw
            subst ew
            by_cases hl : ds.length ≤ big
            · rw [if_pos hl] at q
              cases e3 : putCell r i (.dict (putD ds (keyD k) d)) with
              | none => simp only [e3] at q; exact q.elim
              | some r2 =>
                simp only [e3] at q
                obtain ⟨a, o, e', k1, k2, k3, k4, k5⟩ := x1.mt.putCell e3
                rw [hv1] at k1
                cases k1
                rw [e2] at k2
                cases k2
                obtain ⟨vs, rfl, l⟩ := k4.dic
                refine ⟨a, _, rfl, DPut.k k3 (big_lt (by rw [← l.len]; exact hl)), ?_⟩
                have st := k5 (.dK (putK vs k y)) (l.put (dy.mono x1.old))
                exact q σ F1 _ st.mt (x1.old.trans st.old)
            · rw [if_neg hl] at q; exact q.elim
        | none => exact q.elim
        | bool _ => exact q.elim
        | int _ => exact q.elim
        | str _ => exact q.elim
        | tuple _ => exact q.elim
        | list _ => exact q.elim
/-! ### for k in a fresh dict -/
def iKeysF (td : TE) : TI := fun σ H R => td σ H fun x H1 => ∃ d kvs, x = .ref d ∧ H1 d = some (.dK kvs) ∧ ∀ od, R (Itk d od kvs) (upd H1 d (.frz od (.dK kvs)))
theorem pi_keysF {X : Cx} {tg e : Expr} {td : TE} (he : PE X e td) : PI X tg e (iKeysF td) := by
  refine ⟨fun pins s σ H R I h => ?_⟩
  refine thn (he.run pins s σ H _ I h) fun u s1 ⟨x, H1, I1, rx, d, kvs, ex, hd, q⟩ => ?_
  subst ex
  obtain rfl : u = Value.ref d := rx
  obtain ⟨od, I2⟩ := I1.lock hd trivial
  obtain ⟨hs, hgd, hx, es, ep, vs, hdt, hsz, kv, hm⟩ := I2.frzK upd_same
  refine iter_keys hs hgd hx hdt (pi_one (tk := s1.toks) I2 _ (turn_keys _ hdt) ⟨_, Heap.get?_push_size _ rfl, rfl, ?_⟩ (q od))
  rw [hsz] <;> rfl
def mKeysI (f : M D) : M (List D) := bnd f fun d => fun ρ => match d with
  | .dict kds => .ok (kds.map (·.1)) ρ
  | _ => .no
theorem DenK.keyAt {F : Hp} : ∀ {kds : List (D × D)} {kvs : List (Key × V)} {i : Nat} {k : Key} {v : V}, DenK F kds kvs → kvs[i]? = some (k, v) → (kds.map (·.1))[i]? = some (keyD k)
  | [], _, _, _, _, h, e => by cases h; simp at e
  | (c, d) :: _, _, 0, _, _, ⟨q, u, t, z, hq, h, l⟩, e => by subst z; simp at e; obtain ⟨rfl, rfl⟩ := e; simp [hq]
  | (c, d) :: _, _, i + 1, _, _, ⟨q, u, t, z, hq, h, l⟩, e => by
    subst z
    have := DenK.keyAt (i := i) l (by simpa using e)
    simpa using this
theorem itok_keys {F : Hp} {a : Addr} {od : Obj} {kvs : List (Key × V)} {kds : List (D × D)} (h : F a = some (.frz od (.dK kvs))) (l : DenK F kds kvs) : ItOk F (Itk a od kvs) (kds.map (·.1)) := by
  intro F1 H1 s1 s2
  have e : H1 a = some (.frz od (.dK kvs)) := s2 _ _ (s1 _ _ h)
  have hl := l.len
  refine ⟨fun i hi => ⟨e, by rw [List.length_map] at hi; omega⟩, fun i hi => ⟨e, by rw [List.length_map] at hi; omega⟩, fun i x H2 hi q => ?_⟩
  obtain ⟨rfl, k, v, e1, rfl⟩ := q
  exact ⟨keyD k, F1, l.keyAt e1, Ext.refl s2, den_key F1 k⟩
theorem evi_keysF {B : Bd} {EX : Str → Hp → Prop} {td : TE} {f : M D} (h : EvF B EX td f) : Ev B EX VI (iKeysF td) (mKeysI f) := by
  intro F H σ ρ Q m q
  refine h F H σ ρ _ m ?_
  unfold mKeysI bnd at q
  cases e : f ρ with
  | no => rw [e] at q; exact q
  | ex c r => rw [e] at q; exact q
  | ok d r =>
    rw [e] at q
    rintro v F' H' x ⟨a, o, rfl, h1, h2, h3, h4⟩
    simp only at q
    cases d with
    | dict kds =>
      simp only at q
      obtain ⟨kvs, rfl, l⟩ := h2.dic
      refine ⟨a, kvs, rfl, h1, fun od => ?_⟩
      have st := x.pokeF m h4 h3 (.frz od (.dK kvs))
      exact q _ _ _ st (itok_keys upd_same (l.mono (same_upd h3)))
    | none => exact q.elim
    | bool _ => exact q.elim
    | int _ => exact q.elim
    | str _ => exact q.elim
    | tuple _ => exact q.elim
    | list _ => exact q.elim
/-! ### a list lent to a call -/
inductive RB where
  | ok (d d1 : D)
  | ex (c : Str) (d1 : D)
  | no
structure XB (F H : Hp) (a : Addr) (F' H' : Hp) : Prop where
  same : ∀ b x, b ≠ a → H b = some x → H' b = some x
  old : Same F F'
  sub : Same F' H'
  new : ∀ b x, F' b = some x → F b = some x ∨ H b = none
def spB (C : Str → Addr) (g : D → List D → RB) : Sp := fun vs H Q E => ∃ (F : Hp) (a : Addr) (o : HO) (d0 : D) (ds : List D) (ws : List V), vs = .ref a :: ws ∧ Same F H ∧ F a = none ∧ H a = some o ∧ Shal F d0 o ∧ DenL F ds ws ∧ (match g d0 ds with
  | .ok d d1 => ∀ v F' H' o', XB F H a F' H' → H' a = some o' → Shal F' d1 o' → F' a = none → Den F' d v → Q v H'
  | .ex c d1 => ∀ F' H' o', XB F H a F' H' → H' a = some o' → Shal F' d1 o' → F' a = none → E (.ref (C c)) none H'
  | .no => False)
def bwOf (ρ : Rho) : Option D := match ρ[(0 : Nat)]? with
  | some (.bw d) => some d
  | _ => none
def finB : Out → RB
  | .nx ρ => (match bwOf ρ with
    | some d1 => .ok .none d1
    | none => .no)
  | .rt d ρ => (match bwOf ρ with
    | some d1 => .ok d d1
    | none => .no)
  | .ex c ρ => (match bwOf ρ with
    | some d1 => .ex c d1
    | none => .no)
  | _ => .no
def callB (np n : Nat) (body : S) (d0 : D) (ds : List D) : RB := if ds.length + 1 = np then finB (body (Cell.bw d0 :: startR (n - 1) ds)) else .no
theorem spB_len {C : Str → Addr} {np n : Nat} {body : S} {vs : List V} {H : Hp} {Q : VK} {E : XK} (h : spB C (callB np n body) vs H Q E) : vs.length = np := by
  obtain ⟨F, a, o, d0, ds, ws, rfl, s, fa, ha, sh, l, q⟩ := h
  unfold callB at q
  by_cases e : ds.length + 1 = np
  · rw [List.length_cons, ← l.len]; exact e
  · simp only [if_neg e] at q
theorem start_consR {n : Nat} {ds : List D} : ∀ (j : Nat) (c : Cell), (startR n ds)[j]? = some c → c.own = true → False := fun j c e o => by
  have q := List.mem_of_getElem? e
  unfold startR at q
  rcases List.mem_append.mp q with q | q
  · obtain ⟨d, _, rfl⟩ := List.mem_map.mp q
    cases o
  · rw [(List.mem_replicate.mp q).2] at o; cases o
theorem start_mtB {F H : Hp} {a : Addr} {o : HO} {d0 : D} {ds : List D} {ws : List V} {y : Str} {N : List Str} (s : Same F H) (fa : F a = none) (ha : H a = some o) (sh : Shal F d0 o) (l : DenL F ds ws) :
    Mt ⟨H, F, [a]⟩ F H (L2.start (y :: N) (.ref a :: ws)) (Cell.bw d0 :: startR N.length ds) := by
  have m0 := start_mt (N := N) s l
  have es : L2.start (y :: N) (.ref a :: ws) = some (.ref a) :: L2.start N ws := by
    simp [L2.start]
  rw [es]
  refine ⟨s, Same.refl _, fun _ _ e => .inl e, fun _ _ e _ => e, fun _ e => e, by simp [m0.len], fun j v c h1 h2 => ?_, fun j k b c c' h1 h2 h3 h4 h5 h6 => ?_⟩
  · cases j with
    | zero => simp at h1 h2; subst h1; subst h2; exact ⟨a, o, rfl, ha, sh, fa, by simp⟩
    | succ j =>
      rw [List.getElem?_cons_succ] at h1 h2
      have g := m0.cell j v c h1 h2
      cases c with
      | no => trivial
      | fz d => exact g
      | ow d => exact (start_consR j _ h2 rfl).elim
      | bw d => exact (start_consR j _ h2 rfl).elim
  · cases j with
    | succ j => rw [List.getElem?_cons_succ] at h3; exact (start_consR j _ h3 h5).elim
    | zero => cases k with
      | zero => rfl
      | succ k => rw [List.getElem?_cons_succ] at h4; exact (start_consR k _ h4 h6).elim
theorem mt_xb {F H F' H' : Hp} {a : Addr} {σ' : L2.St} {ρ' : Rho} {d1 : D} (m : Mt ⟨H, F, [a]⟩ F' H' σ' ρ') (e : bwOf ρ' = some d1) : XB F H a F' H' ∧ F' a = none ∧ ∃ o', H' a = some o' ∧ Shal F' d1 o' := by
  unfold bwOf at e
  split at e
  · next d hd =>
    cases e
    have hl : 0 < σ'.length := by rw [← m.len]; exact (List.getElem?_eq_some_iff.mp hd).1
    obtain ⟨b, o, k1, k2, k3, k4, k5⟩ := m.cell 0 _ _ (List.getElem?_eq_getElem hl) hd
    have eb : b = a := by simpa using k5
    subst eb
    exact ⟨⟨fun b x hb z => m.frm b x z (by simpa using hb), m.old, m.sub, m.new⟩, k4, o, k2, k3⟩
  · cases e
theorem body_okB {C : Str → Addr} {np : Nat} {body : S} {y : Str} {N : List Str} {vs : List V} {H : Hp} {Q : VK} {E : XK} {t : TS} (h : spB C (callB np (y :: N).length body) vs H Q E)
    (ev : ∀ F a, EvS ⟨H, F, [a]⟩ (fun c H' => E (.ref (C c)) none H') t body) : t { nx := fun _ H' => Q .non H', rt := Q } (L2.start (y :: N) vs) H := by
  obtain ⟨F, a, o, d0, ds, ws, rfl, s, fa, ha, sh, l, q⟩ := h
  unfold callB at q
  by_cases e : ds.length + 1 = np
  · simp only [if_pos e] at q
    refine ev F a F H _ (Cell.bw d0 :: startR N.length ds) _ (start_mtB s fa ha sh l) ?_
    rw [List.length_cons, Nat.add_sub_cancel] at q
    cases e2 : body (Cell.bw d0 :: startR N.length ds) with
    | nx r =>
      rw [e2] at q
      intro σ' F' H' m _
      simp only [finB] at q
      cases e3 : bwOf r with
      | none => rw [e3] at q; exact q.elim
      | some d1 =>
        rw [e3] at q
        obtain ⟨k1, k2, o', k3, k4⟩ := mt_xb m e3
        exact q .non F' H' o' k1 k3 k4 k2 rfl
    | rt d r =>
      rw [e2] at q
      intro v σ' F' H' m _ dv
      simp only [finB] at q
      cases e3 : bwOf r with
      | none => rw [e3] at q; exact q.elim
      | some d1 =>
        rw [e3] at q
        obtain ⟨k1, k2, o', k3, k4⟩ := mt_xb m e3
        exact q v F' H' o' k1 k3 k4 k2 dv
    | ex c r =>
      rw [e2] at q
      intro σ' F' H' m
      simp only [finB] at q
      cases e3 : bwOf r with
      | none => rw [e3] at q; exact q.elim
      | some d1 =>
        rw [e3] at q
        obtain ⟨k1, k2, o', k3, k4⟩ := mt_xb m e3
        exact q F' H' o' k1 k3 k4 k2
    | rf d r => rw [e2] at q; exact q.elim
    | bk r => rw [e2] at q; exact q.elim
    | ct r => rw [e2] at q; exact q.elim
    | no => rw [e2] at q; exact q.elim
  · simp only [if_neg e] at q
def mCallB (g : D → List D → RB) (i : Nat) (fa : M (List D)) : M D := fun ρ => match cellD ρ[i]? with
  | some _ => bnd fa (fun ds => fun ρ => match cellD ρ[i]? with
    | some d0 => (match g d0 ds with
      | .ok d d1 => (match putCell ρ i d1 with
        | some r => .ok d r
        | none => .no)
      | .ex c d1 => (match putCell ρ i d1 with
        | some r => .ex c r
        | none => .no)
      | .no => .no)
    | none => .no) ρ
  | none => .no
/-- a promise that tells of no raising -/
def noEx (g : D → List D → RB) (d : D) (ds : List D) : RB := match g d ds with
  | .ok d d1 => .ok d d1
  | _ => .no
theorem noEx_ne {g : D → List D → RB} {d : D} {ds : List D} {c : Str} {d1 : D} : noEx g d ds ≠ .ex c d1 := by
  unfold noEx
  split <;> simp
theorem spB_noEx {C : Str → Addr} {g : D → List D → RB} {vs : List V} {H : Hp} {Q : VK} {E : XK} (h : spB C (noEx g) vs H Q E) : spB C g vs H Q E := by
  obtain ⟨F, a, o, d0, ds, ws, e, s, fa, ha, sh, l, q⟩ := h
  refine ⟨F, a, o, d0, ds, ws, e, s, fa, ha, sh, l, ?_⟩
  unfold noEx at q
  cases e2 : g d0 ds with
  | ok d d1 => simp only [e2] at q; exact q
  | ex c d1 => simp only [e2] at q
  | no => simp only [e2] at q
theorem XB.stp {B : Bd} {F H F' H' : Hp} {σ : L2.St} {ρ ρ' : Rho} {i : Nat} {a : Addr} {d1 : D} {o' : HO} (m : Mt B F H σ ρ) (x : XB F H a F' H') (ha : σ[i]? = some (some (.ref a))) (hp : putCell ρ i d1 = some ρ') (h1 : H' a = some o') (h2 : Shal F' d1 o') (h3 : F' a = none) : Stp B F H σ ρ F' H' ρ' := by
  obtain ⟨b, o, e, k1, k2, k3, k4, k5⟩ := m.putCell hp
  rw [ha] at k1
  cases k1
  have ex : Ext F H F' (upd H' a o) := by
    refine ⟨fun b u z => ?_, x.old, fun b u z => ?_, x.new⟩
    · by_cases hb : b = a
      · subst hb; rw [upd_same, ← k3]; exact z
      · rw [upd_ne hb]; exact x.same b u hb z
    · have hb : b ≠ a := fun w => by subst w; rw [h3] at z; cases z
      rw [upd_ne hb]; exact x.sub _ _ z
  have st1 := m.ext ex
  obtain ⟨b2, o2, e2, j1, j2, j3, j4, j5⟩ := st1.mt.putCell hp
  rw [ha] at j1
  cases j1
  have st2 := j5 o' h2
  have eh : upd (upd H' a o) a o' = H' := by
    funext b
    by_cases hb : b = a
    · subst hb; rw [upd_same]; exact h1.symm
    · rw [upd_ne hb, upd_ne hb]
  rw [eh] at st2
  exact st1.trans st2
theorem ev_callB {B : Bd} {EX : Str → Hp → Prop} {C : Str → Addr} {g : D → List D → RB} {i : Nat} {E : XK} {ta : TA} {fa : M (List D)} (hE : ∀ d ds c d1, g d ds = .ex c d1 → ∀ H, EX c H → E (.ref (C c)) none H) (ha : Ev B EX VL ta fa) : Ev B EX VD (tCall (spB C g) [] E (tCons (tVar i) ta)) (mCallB g i fa) := by
  intro F H σ ρ Q m q
  unfold mCallB at q
  cases e0 : cellD ρ[i]? with
  | none => rw [e0] at q; exact q.elim
  | some d =>
    rw [e0] at q
    simp only at q
    obtain ⟨v, hv, _⟩ := slot_at m e0
    refine ⟨v, hv, ?_⟩
    refine ha F H σ ρ _ m ?_
    unfold bnd at q
    cases e : fa ρ with
    | no => rw [e] at q; exact q
    | ex c r => rw [e] at q; exact q
    | ok ds r =>
      rw [e] at q
      intro ws F1 H1 x1 l
      simp only at q
      cases e1 : cellD r[i]? with
      | none => rw [e1] at q; exact q.elim
      | some d0 =>
        rw [e1] at q
        simp only at q
        rw [List.append_nil]
        cases e2 : g d0 ds with
        | no => rw [e2] at q; exact q.elim
        | ok d2 d1 =>
          rw [e2] at q
          simp only at q
          cases e3 : putCell r i d1 with
          | none => rw [e3] at q; exact q.elim
          | some r2 =>
            rw [e3] at q
            simp only at q
            obtain ⟨a, o, e', k1, k2, k3, k4, k5⟩ := x1.mt.putCell e3
            rw [hv] at k1
            cases k1
            rw [e1] at k2
            cases k2
            refine ⟨F1, a, o, d0, ds, ws, rfl, x1.mt.sub, ?_, k3, k4, l, ?_⟩
            · have ow : Owns σ r a := by
                unfold Rn.putCell at e3
                cases e4 : r[i]? with
                | none => rw [e4] at e3; cases e3
                | some c => cases c with
                  | no => rw [e4] at e3; cases e3
                  | fz d => rw [e4] at e3; cases e3
                  | ow d => exact ⟨i, _, hv, e4, rfl⟩
                  | bw d => exact ⟨i, _, hv, e4, rfl⟩
              exact (x1.mt.hasOwn ow).1
            · rw [e2]
              exact fun u F' H' o' x h1 h2 h3 du => q u F' H' (x1.trans (x.stp x1.mt hv e3 h1 h2 h3)) du
        | ex c d1 =>
          rw [e2] at q
          simp only at q
          cases e3 : putCell r i d1 with
          | none => rw [e3] at q; exact q.elim
          | some r2 =>
            rw [e3] at q
            simp only at q
            obtain ⟨a, o, e', k1, k2, k3, k4, k5⟩ := x1.mt.putCell e3
            rw [hv] at k1
            cases k1
            rw [e1] at k2
            cases k2
            refine ⟨F1, a, o, d0, ds, ws, rfl, x1.mt.sub, ?_, k3, k4, l, ?_⟩
            · have ow : Owns σ r a := by
                unfold Rn.putCell at e3
                cases e4 : r[i]? with
                | none => rw [e4] at e3; cases e3
                | some c => cases c with
                  | no => rw [e4] at e3; cases e3
                  | fz d => rw [e4] at e3; cases e3
                  | ow d => exact ⟨i, _, hv, e4, rfl⟩
                  | bw d => exact ⟨i, _, hv, e4, rfl⟩
              exact (x1.mt.hasOwn ow).1
            · rw [e2]
              exact fun F' H' o' x h1 h2 h3 => hE _ _ _ _ e2 H' (q F' H' (x1.trans (x.stp x1.mt hv e3 h1 h2 h3)))
end Rn
end

section
set_option Elab.async false
set_option linter.all false
set_option autoImplicit false
set_option maxRecDepth 100000
/-! Core11: rules for what Core10 brings. -/
namespace Rn
open PySem PySem.Spec L2

section
variable {X : Cx} {B : Bd} {EX : Str → Hp → Prop} {a b c e : Expr} {es : List Expr} {ta tb tc te : TE} {fa fb fc fe : M D} {pos : Pos} {tl : TA} {fl : M (List D)} {x : Str} {p : Pos} {tg : Expr}
theorem jf_disp1 (ha : JE X B EX a ta fa) (hb : JE X B EX b tb fb) : JF X B EX (.Dict [some a] [b] pos) (tDisp [(ta, tb)]) (mDisp1 fa fb) := ⟨pe_disp (pps_cons ha.p hb.p pps_nil) rfl rfl (by simp) (by simp), evf_disp1 ha.v hb.v⟩
theorem ji_keysF (h : JF X B EX e te fe) : JI X B EX tg e (iKeysF te) (mKeysI fe) := ⟨pi_keysF h.p, evi_keysF h.v⟩
theorem js_putitem (i : Nat) {y : Str} {k : Expr} {tk : TE} {fk : M D} {p1 p2 : Pos} (hu : X.A.units + 64 < cLine) (he : JE X B EX e te fe) (hk : JE X B EX k tk fk) (hN : X.N[i]? = some y := by rfl) (hv : Vis X.env.scope y := by first | exact Or.inl rfl | exact Or.inr (Or.inl rfl) | exact Or.inr (Or.inr rfl)) (hd : (y == ("__debug__" : Str)) = false := by decide) (hcd : (y == ("__classdict__" : Str)) = false := by decide)
    (hsub : ∀ v, assign (.Subscript (.Name y p1) k p2) X.env v = (do
      let ov ← holding [v] (eval (.Name y p1) X.env)
      let iv ← holding [v, ov] (eval k X.env)
      standAt p2
      holding [v, ov, iv] (setItem ov iv v)
      release [v, ov, iv] []) := by intro _; rfl)
    (hs : swapsWithSole [.Subscript (.Name y p1) k p2] e pos.line X.env = pure false := by rfl) (hw : swappedStores [.Subscript (.Name y p1) k p2] e X.env = pure none := by rfl)
    (h1 : (assignEach [.Subscript (.Name y p1) k p2] X.env).map (·.2) = [assign (.Subscript (.Name y p1) k p2) X.env] := by rfl) :
    JS X B EX (.Assign [.Subscript (.Name y p1) k p2] e pos) (tAsg te (gSub (tVar i) tk rSetD)) (sPutItem i fe fk) :=
  ⟨ps_asg he.p (pg_sub (pv i hN hv hd hcd) hk.p (set_dict (by omega)) hsub) hs hw h1, es_putitem he.v hk.v⟩
theorem js_retF (i : Nat) {y : Str} {p1 : Pos} (hN : X.N[i]? = some y := by rfl) (hv : Vis X.env.scope y := by first | exact Or.inl rfl | exact Or.inr (Or.inl rfl) | exact Or.inr (Or.inr rfl)) (hd : (y == ("__debug__" : Str)) = false := by decide) (hcd : (y == ("__classdict__" : Str)) = false := by decide) :
    JS X B EX (.Return (some (.Name y p1)) pos) (tRet (tVar i)) (sRetF i) := ⟨ps_ret (pv i hN hv hd hcd), es_retF⟩
theorem jf_call0 {C : Str → Addr} {ps : List Str} {k j : Nat} {g : List D → RR} (d : DefV X.prog X.w X.K X.mg X.base CX0 C x ps k g) (hr : Room j X.A) (ha : JA X B EX (e :: es) tl fl) (hkj : k ≤ j := by decide) (hg : Gl X x := by rfl) (hdb : (x == ("__debug__" : Str)) = false := by decide)
    (he : starEach (e :: es) X.env = (false, eval e X.env) :: starEach es X.env := by rfl) (hpl : (backTo pos (starEach es X.env)).any (·.1) = false := by rfl) : JF X B EX (.Call (.Name x p) (e :: es) [] pos) (tCall (spV C g) [] E0 tl) (mCallF0 g fl) := by
  obtain ⟨f, fd, F, hm, hk, hb⟩ := d
  exact ⟨pe_call F (hr.mono hkj) hg hm hk hb .nil pass0 ha.p hdb he hpl, evf_call0 ha.v⟩
end
/-- a def of the text that is lent its first list -/
def DefB (P : Program) (w : World) (K : PySem.W.Frag) (mg : Str → Option Value) (base : Heap) (CX : CXT) (C : Str → Addr) (x : Str) (ps : List Str) (k : Nat) (g : D → List D → RB) : Prop :=
  ∃ f fd, FnOk P w K mg base CX k f fd ps (spB C g) ∧ mg x = some (.ref f) ∧ PySem.W.keepIn K (.ref f) = true ∧ Binds K fd ps []
section
variable {X : Cx} {B : Bd} {EX : Str → Hp → Prop} {es : List Expr} {pos : Pos} {tl : TA} {fl : M (List D)} {x y : Str} {p p1 : Pos}
theorem je_callB0 (i : Nat) {C : Str → Addr} {ps : List Str} {k j : Nat} {g : D → List D → RB} (d : DefB X.prog X.w X.K X.mg X.base CX0 C x ps k (noEx g)) (hr : Room j X.A) (ha : JA X B EX es tl fl) (hkj : k ≤ j := by decide) (hg : Gl X x := by rfl) (hdb : (x == ("__debug__" : Str)) = false := by decide)
    (hN : X.N[i]? = some y := by rfl) (hv : Vis X.env.scope y := by first | exact Or.inl rfl | exact Or.inr (Or.inl rfl) | exact Or.inr (Or.inr rfl)) (hd : (y == ("__debug__" : Str)) = false := by decide) (hcd : (y == ("__classdict__" : Str)) = false := by decide)
    (he : starEach (.Name y p1 :: es) X.env = (false, eval (.Name y p1) X.env) :: starEach es X.env := by rfl) (hpl : (backTo pos (starEach es X.env)).any (·.1) = false := by rfl) : JE X B EX (.Call (.Name x p) (.Name y p1 :: es) [] pos) (tCall (spB C (noEx g)) [] E0 (tCons (tVar i) tl)) (mCallB (noEx g) i fl) := by
  obtain ⟨f, fd, F, hm, hk, hb⟩ := d
  exact ⟨pe_call F (hr.mono hkj) hg hm hk hb .nil pass0 (pa_cons (pv i hN hv hd hcd) ha.p he) hdb he hpl, ev_callB (fun _ _ _ _ e => (noEx_ne e).elim) ha.v⟩
end
section
variable {P : Program} {w : World} {K : PySem.W.Frag} {mg : Str → Option Value} {base : Heap} {C : Str → Addr}
theorem def_b0 {x y : Str} {st : Stmt} {N ps : List Str} {k : Nat} {body : S} (h : HasF K mg x st ps) (Sc : FnScope (y :: N) ps (defScope st))
    (hb : ∀ (f : Addr) (cdv : Value) (A : Around) (outer : List Env) (s : Shared) (H : Hp) (E : XK), Room k (A.deeper (PyProof.Rows.envOfC x (defScope st) s.heap.objs.size f cdv)) →
      ∃ t, ∀ (B : Bd) (EX : Str → Hp → Prop), JSs (cxOf CX0 P w K mg base (y :: N) x (defScope st) f cdv A outer s H E).nox B EX (defBody st) t body) :
    DefB P w K mg base CX0 C x ps (k + 1) (noEx (callB ps.length (y :: N).length body)) := by
  obtain ⟨f, fd, F, hm, hbd⟩ := h
  refine ⟨f, fd, F.ok Sc (fun vs H Q E h => spB_len (spB_noEx h)) (fun cdv A outer s H vs Q E hr h => ?_), hm, F.kp, hbd⟩
  obtain ⟨t, ht⟩ := hb f cdv A outer s H E hr
  exact ⟨t, PSs.nox (ht ⟨H, H, []⟩ EX0).p, body_okB (spB_noEx h) fun F a => (ht _ _).v⟩
end
end Rn
end

section
set_option Elab.async false
set_option linter.all false
set_option autoImplicit false
set_option maxRecDepth 100000
/-! Core12: a law's cells and rounds, and its loop over them. -/
namespace Rn
open PySem PySem.Spec L2

theorem sql_same {K : PySem.W.Frag} {H H' : Hp} {a : Addr} {xs : List V} (s : Same H H') (h : SqL K H a xs) : SqL K H' a xs := by
  rcases h with (h | ⟨o, h⟩) | h
  · exact .inl (.inl (s _ _ h))
  · exact .inl (.inr ⟨o, s _ _ h⟩)
  · exact .inr h
theorem dpAll_ints {K : PySem.W.Frag} {H : Hp} : ∀ ns : List Int, DpAll K H (ns.map V.int) (ns.map PyData.int)
  | [] => .nil
  | n :: ns => .cons (.int n) (dpAll_ints ns)
theorem plain_ints : ∀ ns : List Int, PyData.plainAll (ns.map PyData.int) = true
  | [] => rfl
  | n :: ns => by
    show (PyData.plain (.int n) && PyData.plainAll (ns.map PyData.int)) = true
    rw [plain_ints ns]
    rfl
abbrev rMaxI : List V → Hp → VK → Prop := fun xs H Q => ∃ i j, xs = [.int i, .int j] ∧ Q (.int (if j > i then j else i)) H
abbrev rMinI : List V → Hp → VK → Prop := fun xs H Q => ∃ i j, xs = [.int i, .int j] ∧ Q (.int (if j < i then j else i)) H
abbrev rModI : R2 := rI (fun _ j => 0 < j) fun i j => .int (i % j)
abbrev rFdivI : R2 := rI CDivW fun i j => .int (i / j)
abbrev tLenS (K : PySem.W.Frag) : TE := tCB (rLenK K) (tCons (tVar 0) tNil)
/-- _law_cell -/
def tCellS (K : PySem.W.Frag) : TS := tSeq (tIfS (tTest (tOp (rEqP K) (tVar 0) (tLst tNil))) (tRet (tOp rMulA (tVar 1) (tC (.int 7919)))) tNext)
  (tRet (tOp (rAddA K) (tOp (rIx K) (tVar 0) (tOp rModI (tVar 1) (tLenS K))) (tOp rMulA (tOp rFdivI (tVar 1) (tLenS K)) (tC (.int 104729)))))
def spCellS (K : PySem.W.Frag) : Sp := fun vs H Q _ => ∃ (a : Addr) (ns : List Int) (k : Int), vs = [.ref a, .int k] ∧ SqL K H a (ns.map V.int) ∧ ns.length ≤ 63 ∧ 0 ≤ k ∧ ∀ c H', Same H H' → Q (.int c) H'
theorem cell_run {K : PySem.W.Frag} {vs : List V} {H : Hp} {Q : VK} {E : XK} (h : spCellS K vs H Q E) : tCellS K { nx := fun _ H' => Q .non H', rt := Q } (L2.start ["script", "k"] vs) H := by
  obtain ⟨a, ns, k, rfl, hs, hn, hk, q⟩ := h
  refine ⟨.ref a, rfl, by decide, fun p hp => ?_⟩
  have s1 : Same H (upd H p (.lst [])) := same_upd hp
  have hs1 := sql_same s1 hs
  refine ⟨.list (ns.map PyData.int), .list [], .lst hs1 (dpAll_ints ns), .lst (SqL.of upd_same) .nil, ?_, _, rfl, ?_⟩
  · unfold dOk
    rw [show PyData.plain (.list (ns.map PyData.int)) = PyData.plainAll (ns.map PyData.int) from rfl, plain_ints]
    have : (PyData.depth (.list [])) ≤ 64 := by decide
    simp only [Bool.true_and, show PyData.plain (.list []) = true from rfl, decide_eq_true_eq]
    omega
  · have ixs : ns ≠ [] → tRet (tOp (rAddA K) (tOp (rIx K) (tVar 0) (tOp rModI (tVar 1) (tLenS K))) (tOp rMulA (tOp rFdivI (tVar 1) (tLenS K)) (tC (.int 104729)))) { nx := fun _ H' => Q .non H', rt := Q } (L2.start ["script", "k"] [.ref a, .int k]) (upd H p (.lst [])) := by
      intro hne
      have hpos : 0 < ns.length := List.length_pos_iff.mpr hne
      have hl : ((ns.map V.int).length : Int) = (ns.length : Int) := by rw [List.length_map]
      have h63 : (ns.length : Int).natAbs.log2 < 9000 := by
        have e : (ns.length : Int).natAbs = ns.length := by omega
        rw [e]
        exact Nat.lt_of_le_of_lt (Nat.log2_le_self _) (by omega)
      have hm1 := Int.emod_nonneg k (show (ns.length : Int) ≠ 0 by omega)
      have hm2 := Int.emod_lt_of_pos k (show (0 : Int) < ns.length by omega)
      have hj : (k % (ns.length : Int)).toNat < ns.length := by omega
      refine ⟨.ref a, rfl, .int k, rfl, .ref a, rfl, .ref a, (ns.map V.int).length, rfl, .inl ⟨_, hs1, rfl⟩, k, ((ns.map V.int).length : Int), rfl, rfl, by rw [hl]; omega, ?_⟩
      refine .inl ⟨a, ns.map V.int, k % ((ns.map V.int).length : Int), .int (ns[(k % (ns.length : Int)).toNat]), rfl, rfl, hs1, ?_, ?_⟩
      · rw [hl]
        unfold atI ixN
        rw [if_pos hm1]
        rw [List.length_map, if_pos hm2]
        show (ns.map V.int)[(k % (ns.length : Int)).toNat]? = _
        simp [hj]
      · refine ⟨.int k, rfl, .ref a, rfl, .ref a, (ns.map V.int).length, rfl, .inl ⟨_, hs1, rfl⟩, k, ((ns.map V.int).length : Int), rfl, rfl, ⟨by rw [hl]; omega, by rw [hl]; exact h63⟩, ?_⟩
        refine .inl (.inl ⟨_, 104729, rfl, rfl, .inr ⟨by decide, by decide⟩, ?_⟩)
        exact .inl (.inl (.inl ⟨_, _, rfl, rfl, q _ _ s1⟩))
    cases ns with
    | nil =>
      show if PyData.eqv (.list (([] : List Int).map PyData.int)) (.list []) = true then _ else _
      rw [if_pos (by decide)]
      refine ⟨.int k, rfl, .inl (.inl ⟨k, 7919, rfl, rfl, .inr ⟨by decide, by decide⟩, q _ _ s1⟩)⟩
    | cons n ns =>
      show if PyData.eqv (.list ((n :: ns).map PyData.int)) (.list []) = true then _ else _
      rw [if_neg (by
        show ¬ PyData.eqvAll (PyData.int n :: ns.map PyData.int) [] = true
        unfold PyData.eqvAll
        decide)]
      exact ixs (by simp)
/-- _law_rounds -/
def tRoundsS (K : PySem.W.Frag) : TS := tRet (tLc (iRng1 (tCons (tCB rMaxI (tCons (tC (.int 1)) (tCons (tCB rMinI (tCons (tVar 1) (tCons (tLenS K) tNil))) tNil))) tNil)) (gName 2) tYes
  (tLst (tCons (tCall (spCellS K) [] E0 (tCons (tVar 0) (tCons (tVar 2) tNil))) (tCons (tC (.int 0)) tNil))) [2])
def IsRounds (H : Hp) (p : Addr) (as : List Addr) (cs : List Int) : Prop := as.length = cs.length ∧ (p :: as).Nodup ∧ H p = some (.lst (as.map V.ref)) ∧ ∀ (i : Nat) a c, as[i]? = some a → cs[i]? = some c → H a = some (.lst [.int c, .int 0])
def spRoundsS (K : PySem.W.Frag) : Sp := fun vs H Q _ => ∃ (a : Addr) (ns : List Int) (m : Int), vs = [.ref a, .int m] ∧ SqL K H a (ns.map V.int) ∧ ns.length ≤ 63 ∧ m ≤ 63 ∧ ∀ p as cs H', IsRounds H' p as cs → Q (.ref p) H'
theorem rounds_run {K : PySem.W.Frag} {vs : List V} {H : Hp} {Q : VK} {E : XK} (h : spRoundsS K vs H Q E) : tRoundsS K { nx := fun _ H' => Q .non H', rt := Q } (L2.start ["script", "most", "k"] vs) H := by
  obtain ⟨a, ns, m, rfl, hs, hn, hm, q⟩ := h
  refine ⟨.int m, rfl, .ref a, rfl, .ref a, (ns.map V.int).length, rfl, .inl ⟨_, hs, rfl⟩, m, ((ns.map V.int).length : Int), rfl, 1, _, rfl, ?_⟩
  generalize hj : (if (if ((ns.map V.int).length : Int) < m then ((ns.map V.int).length : Int) else m) > 1 then (if ((ns.map V.int).length : Int) < m then ((ns.map V.int).length : Int) else m) else 1) = j
  have hl : ((ns.map V.int).length : Int) = (ns.length : Int) := by rw [List.length_map]
  rw [hl] at hj
  have j1 : 0 ≤ j ∧ j ≤ 63 := by
    subst hj
    split <;> split <;> omega
  refine ⟨j, rfl, by omega, by omega, fun Dd hD => ?_⟩
  generalize hnn : j.toNat = n
  refine ⟨fun i k Hc => i + k = n ∧ Same H Hc ∧ ∃ as cs, as.length = i ∧ IsRounds Hc Dd as cs, ⟨n, by omega, same_upd hD, [], [], rfl, rfl, by simp, upd_same, fun i a c e => by simp at e⟩, ?_⟩
  rintro i k Hc ⟨hik, hsame, as, cs, hli, hla, nd, hp, hel⟩
  by_cases hi : i < n
  · refine .inr ⟨hi, fun Hc => (i + 1) + (k - 1) = n ∧ Same H Hc ∧ ∃ as cs, as.length = i + 1 ∧ IsRounds Hc Dd as cs, fun H' hN => ⟨k - 1, by omega, hN⟩, ?_⟩
    rintro x H' ⟨rfl, rfl⟩
    refine ⟨rfl, ?_⟩
    unfold tYes
    simp only [if_true]
    refine ⟨.ref a, rfl, .int ((0 : Int) + (i : Nat)), rfl, a, ns, _, rfl, sql_same hsame hs, hn, by omega, fun c H2 s2 => ?_⟩
    refine ⟨fewer (by simp), fun p2 hp2 => ?_⟩
    have ne : Dd ≠ p2 := fun z => by rw [z] at hp; rw [s2 _ _ hp] at hp2; cases hp2
    refine ⟨as.map V.ref, by rw [upd_ne ne]; exact s2 _ _ hp, ?_, ?_⟩
    · rw [List.length_map, hli]
      have : n ≤ 63 := by omega
      exact Nat.lt_of_lt_of_le hi (Nat.le_trans this (by decide))
    · have na : p2 ∉ as := fun z => by
        obtain ⟨t, ht, e⟩ := List.mem_iff_getElem.mp z
        have h2 := hel t p2 cs[t] (by rw [List.getElem?_eq_getElem ht, e]) (List.getElem?_eq_getElem (by omega))
        rw [s2 _ _ h2] at hp2; cases hp2
      have ndD := (List.nodup_cons.mp nd)
      refine ⟨by omega, fun b o z => ?_, as ++ [p2], cs ++ [c], by simp [hli], by simp [hla], ?_, by rw [upd_same]; simp, fun t b d e1 e2 => ?_⟩
      · have b1 : b ≠ Dd := fun w => by subst w; rw [hD] at z; cases z
        have b2 : b ≠ p2 := fun w => by subst w; rw [s2 _ _ (hsame _ _ z)] at hp2; cases hp2
        rw [upd_ne b1, upd_ne b2]
        exact s2 _ _ (hsame _ _ z)
      · rw [List.nodup_cons, List.nodup_append]
        refine ⟨?_, ndD.2, by simp, ?_⟩
        · simp only [List.mem_append, List.mem_singleton, not_or]
          exact ⟨ndD.1, ne⟩
        · intro u hu w hw
          simp at hw
          subst hw
          exact fun z => na (z ▸ hu)
      · rw [List.getElem?_append] at e1 e2
        by_cases ht : t < as.length
        · rw [if_pos ht] at e1
          rw [if_pos (by omega)] at e2
          have hb : b ∈ as := List.mem_of_getElem? e1
          have b1 : b ≠ Dd := fun w => ndD.1 (w ▸ hb)
          have b2 : b ≠ p2 := fun w => na (w ▸ hb)
          rw [upd_ne b1, upd_ne b2]
          exact s2 _ _ (hel t b d e1 e2)
        · rw [if_neg ht] at e1
          rw [if_neg (by omega)] at e2
          have t0 : t - as.length = 0 := by
            have := (List.getElem?_eq_some_iff.mp e1).1
            simp at this
            omega
          rw [t0] at e1
          rw [show t - cs.length = 0 by omega] at e2
          simp at e1 e2
          subst e1; subst e2
          rw [upd_ne (fun w => ne w.symm), upd_same]
  · exact .inl ⟨by show n ≤ i; omega, q Dd as cs Hc ⟨hla, nd, hp, hel⟩⟩
/-- a block leaves as many slots as it finds -/
def tLn (n : Nat) (t : TS) : TS := fun D σ H => t ⟨fun σ' H' => σ'.length = n → D.nx σ' H', D.rt, fun σ' H' => σ'.length = n → D.bk σ' H', fun σ' H' => σ'.length = n → D.ct σ' H'⟩ σ H
theorem pss_ln {X : Cx} {st : List Stmt} {t : TS} (h : PSs X st t) : PSs X st (tLn X.N.length t) := by
  refine ⟨fun pins s σ H D I hw => ?_⟩
  refine thn (h.run pins s σ H _ I hw) fun f s1 q => ?_
  cases f with
  | next => obtain ⟨σ', H', I2, q⟩ := q; exact ⟨σ', H', I2, q I2.len⟩
  | brk => obtain ⟨σ', H', I2, q⟩ := q; exact ⟨σ', H', I2, q I2.len⟩
  | cont => obtain ⟨σ', H', I2, q⟩ := q; exact ⟨σ', H', I2, q I2.len⟩
  | ret v => exact q
/-- a def of the text by its promise -/
def DefS (P : Program) (w : World) (K : PySem.W.Frag) (mg : Str → Option Value) (base : Heap) (CX : CXT) (x : Str) (ps : List Str) (k : Nat) (sp : Sp) : Prop :=
  ∃ f fd, FnOk P w K mg base CX k f fd ps sp ∧ mg x = some (.ref f) ∧ PySem.W.keepIn K (.ref f) = true ∧ Binds K fd ps []
/-- the body of the loop that begins a block -/
def forBody : List Stmt → List Stmt
  | .For _ _ b _ _ :: _ => b
  | _ => []
/-- law: a loop over the rounds -/
def tLawS (K : PySem.W.Frag) (n : Nat) (m : Int) (tb : TS) : TS := tSeq (tFor (iSeq K (tCall (spRoundsS K) [] E0 (tCons (tVar 0) (tCons (tC (.int m)) tNil)))) (gName 1) (tLn n tb)) (tRet (tC (.bl true)))
def spLawS (K : PySem.W.Frag) : Sp := fun vs H Q _ => ∃ (a : Addr) (ns : List Int), vs = [.ref a] ∧ SqL K H a (ns.map V.int) ∧ ns.length ≤ 63 ∧ ∀ H', Q (.bl true) H'
/-- what a round starts with -/
def rho0 (n : Nat) (c : Int) : Rho := Cell.no :: Cell.bw (.list [.int c, .int 0]) :: List.replicate (n - 2) Cell.no
def RoundOk (n : Nat) (fb : S) : Prop := ∀ c : Int, ∃ r, fb (rho0 n c) = .nx r ∨ fb (rho0 n c) = .ct r
theorem rho0_get {n : Nat} {c : Int} {j : Nat} {x : Cell} (h : (rho0 n c)[j]? = some x) : (j = 1 ∧ x = .bw (.list [.int c, .int 0])) ∨ x = .no := by
  unfold rho0 at h
  match j with
  | 0 => simp at h; exact .inr h.symm
  | 1 => simp at h; exact .inl ⟨rfl, h.symm⟩
  | j + 2 =>
    simp only [List.getElem?_cons_succ] at h
    exact .inr (List.mem_replicate.mp (List.mem_of_getElem? h)).2
theorem law_run {K : PySem.W.Frag} {N : List Str} {m : Int} {tb : TS} {fb : S} {vs : List V} {H : Hp} {Q : VK} {E : XK} (hN : 2 ≤ N.length) (hm : m ≤ 63) {EX : Str → Hp → Prop} (ev : ∀ B : Bd, EvS B EX tb fb) (ok : RoundOk N.length fb) (h : spLawS K vs H Q E) :
    tLawS K N.length m tb { nx := fun _ H' => Q .non H', rt := Q } (L2.start N vs) H := by
  obtain ⟨a, ns, rfl, hs, hn, q⟩ := h
  refine ⟨.ref a, by simp [L2.start], a, ns, m, rfl, hs, hn, hm, fun p as cs H1 R1 => ?_⟩
  refine ⟨p, rfl, .inl ⟨⟨_, SqL.of R1.2.2.1⟩, ?_⟩⟩
  refine ⟨fun i k σc Hc => i + k = as.length ∧ σc.length = N.length ∧ Hc p = some (.lst (as.map V.ref)) ∧ ∀ (j : Nat) b d, i ≤ j → as[j]? = some b → cs[j]? = some d → Hc b = some (.lst [.int d, .int 0]), ⟨as.length, by omega, by simp [L2.start]; omega, R1.2.2.1, fun j b d _ => R1.2.2.2 j b d⟩, ?_⟩
  rintro i k σc Hc ⟨hik, hsl, hp, hel⟩
  have hsq : SqL K Hc p (as.map V.ref) := SqL.of hp
  by_cases hi : i < as.length
  · have hic : i < cs.length := by rw [← R1.1]; exact hi
    refine .inr ⟨⟨as.map V.ref, .ref as[i], hsq, by simp [hi]⟩, fun σ' H' => (i + 1) + (k - 1) = as.length ∧ σ'.length = N.length ∧ H' p = some (.lst (as.map V.ref)) ∧ ∀ (j : Nat) b d, i + 1 ≤ j → as[j]? = some b → cs[j]? = some d → H' b = some (.lst [.int d, .int 0]), fun σ' H' hN => ⟨k - 1, by omega, hN⟩, ?_⟩
    rintro x H' ⟨rfl, hx⟩
    have ex := hx _ hsq
    simp [hi] at ex
    subst ex
    have hai := hel i as[i] cs[i] (Nat.le_refl _) (List.getElem?_eq_getElem hi) (List.getElem?_eq_getElem hic)
    have nd := R1.2.1
    have np : p ∉ as := (List.nodup_cons.mp nd).1
    have nda := (List.nodup_cons.mp nd).2
    have hpa : p ≠ as[i] := fun z => np (z ▸ List.getElem_mem hi)
    have ml : (rho0 N.length cs[i]).length = (σc.set 1 (some (.ref as[i]))).length := by
      rw [List.length_set, hsl]
      simp [rho0]
      omega
    have m0 : Mt ⟨H', fun _ => none, [as[i]]⟩ (fun _ => none) H' (σc.set 1 (some (.ref as[i]))) (rho0 N.length cs[i]) := by
      refine ⟨fun _ _ z => (nomatch z), fun _ _ z => (nomatch z), fun _ _ z => (nomatch z), fun _ _ z _ => z, fun _ z => z, ml, fun j v c h1 h2 => ?_, fun j l b c c' h1 h2 h3 h4 h5 h6 => ?_⟩
      · rcases rho0_get h2 with ⟨rfl, rfl⟩ | rfl
        · have l1 : 1 < σc.length := by omega
          rw [List.getElem?_set_self l1] at h1
          cases h1
          exact ⟨as[i], _, rfl, hai, ⟨.int cs[i], [.int 0], rfl, rfl, .int 0, [], rfl, rfl, rfl⟩, rfl, by simp⟩
        · trivial
      · rcases rho0_get h3 with ⟨rfl, rfl⟩ | rfl
        · rcases rho0_get h4 with ⟨rfl, rfl⟩ | rfl
          · rfl
          · cases h6
        · cases h5
    refine ev ⟨H', fun _ => none, [as[i]]⟩ (fun _ => none) H' _ (rho0 N.length cs[i]) _ m0 ?_
    have fin : ∀ (r : Rho) (σ' : L2.St) (F' H2 : Hp), Mt ⟨H', fun _ => none, [as[i]]⟩ F' H2 σ' r → σ'.length = N.length → (i + 1) + (k - 1) = as.length ∧ σ'.length = N.length ∧ H2 p = some (.lst (as.map V.ref)) ∧ ∀ (j : Nat) b d, i + 1 ≤ j → as[j]? = some b → cs[j]? = some d → H2 b = some (.lst [.int d, .int 0]) := by
      intro r σ' F' H2 mt hr
      refine ⟨by omega, hr, mt.frm p _ hp (by simpa using hpa), fun j b d hj e1 e2 => mt.frm b _ (hel j b d (by omega) e1 e2) ?_⟩
      intro z
      have hb : b = as[i] := by simpa using z
      obtain ⟨hjl, e1'⟩ := List.getElem?_eq_some_iff.mp e1
      have : i = j := (List.getElem_inj nda).mp (hb.symm.trans e1'.symm)
      omega
    obtain ⟨r, hr | hr⟩ := ok cs[i]
    · rw [hr]
      exact fun σ' F' H2 mt _ hl => fin r σ' F' H2 mt hl
    · rw [hr]
      exact fun σ' F' H2 mt _ hl => fin r σ' F' H2 mt hl
  · refine .inl ⟨⟨as.map V.ref, hsq, by simp; omega⟩, q Hc⟩
end Rn
end

section
set_option Elab.async false
set_option linter.all false
set_option maxRecDepth 100000
set_option maxHeartbeats 4000000
namespace Rn
open PySem PySem.Spec L2

/-- what the text leaves free, its numbers, its errors -/
structure Nm (K : PySem.W.Frag) (mg : Str → Option Value) (C : Str → Addr) : Prop where
  ValueError : mg "ValueError" = none
  abs : mg "abs" = none
  all : mg "all" = none
  any : mg "any" = none
  bool : mg "bool" = none
  enumerate : mg "enumerate" = none
  int : mg "int" = none
  isinstance : mg "isinstance" = none
  len : mg "len" = none
  list : mg "list" = none
  max : mg "max" = none
  min : mg "min" = none
  range : mg "range" = none
  sorted : mg "sorted" = none
  str : mg "str" = none
  sum : mg "sum" = none
  tuple : mg "tuple" = none
  MOST_EVENTS : ∃ t, mg "MOST_EVENTS" = some (.int 5 t)
  MOST_BACK : ∃ t, mg "MOST_BACK" = some (.int 8 t)
  MOST_ROOMS : ∃ t, mg "MOST_ROOMS" = some (.int 6 t)
  X_RoundError : ExcF K mg C "RoundError"
  X_InvalidNet : ExcF K mg C "InvalidNet"
  X_InvalidEvent : ExcF K mg C "InvalidEvent"
  X_InvalidNumber : ExcF K mg C "InvalidNumber"
  X_InvalidStores : ExcF K mg C "InvalidStores"

/-! ### is_whole -/
def b_is_whole : S := sRet (mAndV (mIsi pInt (mVarT 0)) (mAndV (mNotV (mIsi (pIs "bool") (mVarT 0))) (mChain leF leF (mVarT 1) (mVarT 0) (mVarT 2))))
def g_is_whole : List D → RR := callD 3 3 b_is_whole
theorem sc_is_whole : FnScope ["value", "low", "high"] ["value", "low", "high"] (defScope s_is_whole) := ⟨rfl, rfl, rfl, by decide +kernel, rfl, by decide +kernel, by decide +kernel⟩
theorem ok_is_whole {P : Program} {w : World} {K : PySem.W.Frag} {mg : Str → Option Value} {base : Heap} {C : Str → Addr} (nm : Nm K mg C) (h : HasF K mg "is_whole" s_is_whole ["value", "low", "high"]) : DefV P w K mg base CX0 C "is_whole" ["value", "low", "high"] 1 g_is_whole := by
  have nd := sc_is_whole.nd
  refine' def_v0 (k := 0) (N := ["value", "low", "high"]) h sc_is_whole ?hb
  intro f cdv A outer s H E hr
  refine' ⟨_, ?hc⟩
  case hc =>
    intro B EX
    refine' jss_one ?k1_0
    case k1_0 =>
      refine' js_ret ?k2_0
      case k2_0 =>
        refine' je_and ?k3_0 ?k3_1
        case k3_0 =>
          refine' je_isi (K := K) tab_int PyProof.Rows.boot_int nm.int nm.isinstance ?k4_0
          case k4_0 =>
            exact jr_var 0
        case k3_1 =>
          refine' je_and ?k5_0 ?k5_1
          case k5_0 =>
            refine' je_not ?k6_0
            case k6_0 =>
              refine' je_isi (K := K) tab_bool PyProof.Rows.boot_bool nm.bool nm.isinstance ?k7_0
              case k7_0 =>
                exact jr_var 0
          case k5_1 =>
            refine' je_one ?k8_0
            case k8_0 =>
              refine' je_chain op_le op_le ok_cmpI ok_cmpI ?k9_0 ?k9_1 ?k9_2
              case k9_0 =>
                exact jr_var 1
              case k9_1 =>
                exact jr_var 0
              case k9_2 =>
                exact jr_var 2


/-! ### event_of -/
def b_event_of : S := sRet (mIf (mTst (mOp eqF (mT (mOp ixF (mVarT 0) (mT (ret (.int 0))))) (mT (ret (.str "e"))))) (mCB intF (mCons (mT (mSl slF (mVarT 0) (mPart (ret (.int 1))) (mNoPart))) (mNil))) (ret .none))
def g_event_of : List D → RR := callD 1 1 b_event_of
theorem sc_event_of : FnScope ["source"] ["source"] (defScope s_event_of) := ⟨rfl, rfl, rfl, by decide +kernel, rfl, by decide +kernel, by decide +kernel⟩
theorem ok_event_of {P : Program} {w : World} {K : PySem.W.Frag} {mg : Str → Option Value} {base : Heap} {C : Str → Addr} (nm : Nm K mg C) (h : HasF K mg "event_of" s_event_of ["source"]) : DefV P w K mg base CX0 C "event_of" ["source"] 1 g_event_of := by
  have nd := sc_event_of.nd
  refine' def_v0 (k := 0) (N := ["source"]) h sc_event_of ?hb
  intro f cdv A outer s H E hr
  refine' ⟨_, ?hc⟩
  case hc =>
    intro B EX
    refine' jss_one ?k10_0
    case k10_0 =>
      refine' js_ret ?k11_0
      case k11_0 =>
        refine' je_if ?k12_0 ?k12_1 ?k12_2
        case k12_0 =>
          refine' jb_eq (K := K) hr.units ?k13_0 ?k13_1
          case k13_0 =>
            refine' jr_of ?k14_0
            case k14_0 =>
              refine' je_ix (K := K) ?k15_0 ?k15_1
              case k15_0 =>
                exact jr_var 0
              case k15_1 =>
                refine' jr_of ?k16_0
                case k16_0 =>
                  exact je_int
          case k13_1 =>
            refine' jr_of ?k17_0
            case k17_0 =>
              exact je_str
        case k12_1 =>
          refine' je_ct call_intA ok_int PyProof.Rows.boot_int nm.int ?k18_0
          case k18_0 =>
            refine' jar_cons ?k19_0 ?k19_1
            case k19_0 =>
              refine' jr_of ?k20_0
              case k20_0 =>
                refine' je_sl (K := K) ?k21_0 ?k21_1 ?k21_2
                case k21_0 =>
                  exact jr_var 0
                case k21_1 =>
                  refine' jo_some ?k22_0
                  case k22_0 =>
                    exact je_int
                case k21_2 =>
                  exact jo_none
            case k19_1 =>
              exact jar_nil
        case k12_2 =>
          exact je_non


/-! ### is_source -/
def b_is_source : S := sSeq (sIf (mNot (mTst (mIsi (pIs "str") (mVarT 0)))) (sRet (ret (.bool false))) (sNext))
 (sRet (mOrV (mOp eqF (mVarT 0) (mT (ret (.str "s")))) (mOp (inAF false) (mVarT 0) (mT (mOp addF (mT (mLc (mRng1 (mCons (mVar 1) (mNil))) (hName 3) (mYes) (mOp addF (mT (ret (.str "u"))) (mT (mCB strF (mCons (mVarT 3) (mNil))))) [3])) (mT (mLc (mRng1 (mCons (mVar 2) (mNil))) (hName 3) (mYes) (mOp addF (mT (ret (.str "e"))) (mT (mCB strF (mCons (mVarT 3) (mNil))))) [3])))))))
def g_is_source : List D → RR := callD 3 4 b_is_source
theorem sc_is_source : FnScope ["value", "inputs", "events", "at"] ["value", "inputs", "events"] (defScope s_is_source) := ⟨rfl, rfl, rfl, by decide +kernel, rfl, by decide +kernel, by decide +kernel⟩
theorem ok_is_source {P : Program} {w : World} {K : PySem.W.Frag} {mg : Str → Option Value} {base : Heap} {C : Str → Addr} (nm : Nm K mg C) (h : HasF K mg "is_source" s_is_source ["value", "inputs", "events"]) : DefV P w K mg base CX0 C "is_source" ["value", "inputs", "events"] 1 g_is_source := by
  have nd := sc_is_source.nd
  refine' def_v0 (k := 0) (N := ["value", "inputs", "events", "at"]) h sc_is_source ?hb
  intro f cdv A outer s H E hr
  refine' ⟨_, ?hc⟩
  case hc =>
    intro B EX
    refine' jss_cons ?k23_0 ?k23_1
    case k23_0 =>
      refine' js_if ?k24_0 ?k24_1 ?k24_2
      case k24_0 =>
        refine' jb_not ?k25_0
        case k25_0 =>
          refine' jb_val ?k26_0
          case k26_0 =>
            refine' je_isi (K := K) tab_str PyProof.Rows.boot_str nm.str nm.isinstance ?k27_0
            case k27_0 =>
              exact jr_var 0
      case k24_1 =>
        refine' jss_one ?k28_0
        case k28_0 =>
          refine' js_ret ?k29_0
          case k29_0 =>
            exact je_bl
      case k24_2 =>
        exact jss_nil
    case k23_1 =>
      refine' jss_one ?k30_0
      case k30_0 =>
        refine' js_ret ?k31_0
        case k31_0 =>
          refine' je_or ?k32_0 ?k32_1
          case k32_0 =>
            refine' je_eq (K := K) hr.units ?k33_0 ?k33_1
            case k33_0 =>
              exact jr_var 0
            case k33_1 =>
              refine' jr_of ?k34_0
              case k34_0 =>
                exact je_str
          case k32_1 =>
            refine' je_one ?k35_0
            case k35_0 =>
              refine' je_in (K := K) hr.units ?k36_0 ?k36_1
              case k36_0 =>
                exact jr_var 0
              case k36_1 =>
                refine' jr_of ?k37_0
                case k37_0 =>
                  refine' je_add (K := K) ?k38_0 ?k38_1
                  case k38_0 =>
                    refine' jr_of ?k39_0
                    case k39_0 =>
                      refine' je_of ?k40_0
                      case k40_0 =>
                        refine' jf_lc (own := [("at", 3)]) (L := [3]) nd (blkOk_by (by kernel_rfl)) ?k41_0 ?k41_1 ?k41_2 ?k41_3
                        case k41_0 =>
                          refine' ji_rng1 nm.range ?k42_0
                          case k42_0 =>
                            refine' ja_cons ?k43_0 ?k43_1
                            case k43_0 =>
                              exact je_var 1
                            case k43_1 =>
                              exact ja_nil
                        case k41_1 =>
                          intro _ _ _ _ _
                          exact jg_name 3 nd
                        case k41_2 =>
                          intro _ _ _ _ _
                          exact jbs_nil
                        case k41_3 =>
                          intro _ _ _ _ _
                          refine' je_add (K := K) ?k44_0 ?k44_1
                          case k44_0 =>
                            refine' jr_of ?k45_0
                            case k45_0 =>
                              exact je_str
                          case k44_1 =>
                            refine' jr_of ?k46_0
                            case k46_0 =>
                              refine' je_ct call_str_int ok_str PyProof.Rows.boot_str nm.str ?k47_0
                              case k47_0 =>
                                refine' jar_cons ?k48_0 ?k48_1
                                case k48_0 =>
                                  exact jr_var 3
                                case k48_1 =>
                                  exact jar_nil
                  case k38_1 =>
                    refine' jr_of ?k49_0
                    case k49_0 =>
                      refine' je_of ?k50_0
                      case k50_0 =>
                        refine' jf_lc (own := [("at", 3)]) (L := [3]) nd (blkOk_by (by kernel_rfl)) ?k51_0 ?k51_1 ?k51_2 ?k51_3
                        case k51_0 =>
                          refine' ji_rng1 nm.range ?k52_0
                          case k52_0 =>
                            refine' ja_cons ?k53_0 ?k53_1
                            case k53_0 =>
                              exact je_var 2
                            case k53_1 =>
                              exact ja_nil
                        case k51_1 =>
                          intro _ _ _ _ _
                          exact jg_name 3 nd
                        case k51_2 =>
                          intro _ _ _ _ _
                          exact jbs_nil
                        case k51_3 =>
                          intro _ _ _ _ _
                          refine' je_add (K := K) ?k54_0 ?k54_1
                          case k54_0 =>
                            refine' jr_of ?k55_0
                            case k55_0 =>
                              exact je_str
                          case k54_1 =>
                            refine' jr_of ?k56_0
                            case k56_0 =>
                              refine' je_ct call_str_int ok_str PyProof.Rows.boot_str nm.str ?k57_0
                              case k57_0 =>
                                refine' jar_cons ?k58_0 ?k58_1
                                case k58_0 =>
                                  exact jr_var 3
                                case k58_1 =>
                                  exact jar_nil


/-! ### is_arc -/
def b_is_arc : S := sSeq (sIf (mOr (mNot (mTst (mIsi (pIs "tuple") (mVarT 0)))) (mOr (mTst (mOp neF (mT (mCB lenF (mCons (mVarT 0) (mNil)))) (mT (ret (.int 3))))) (mNot (mTst (mCall0 g_is_source (mCons (mOp ixF (mVarT 0) (mT (ret (.int 0)))) (mCons (mVar 1) (mCons (mVar 2) (mNil))))))))) (sRet (ret (.bool false))) (sNext))
 (sRet (mAndV (mCall0 g_is_whole (mCons (mOp ixF (mVarT 0) (mT (ret (.int 1)))) (mCons (ret (.int 0)) (mCons (ret (.int 9)) (mNil))))) (mCall0 g_is_whole (mCons (mOp ixF (mVarT 0) (mT (ret (.int 2)))) (mCons (ret (.int 0)) (mCons (ret (.int 3)) (mNil)))))))
def g_is_arc : List D → RR := callD 3 3 b_is_arc
theorem sc_is_arc : FnScope ["value", "inputs", "events"] ["value", "inputs", "events"] (defScope s_is_arc) := ⟨rfl, rfl, rfl, by decide +kernel, rfl, by decide +kernel, by decide +kernel⟩
theorem ok_is_arc {P : Program} {w : World} {K : PySem.W.Frag} {mg : Str → Option Value} {base : Heap} {C : Str → Addr} (nm : Nm K mg C) (h : HasF K mg "is_arc" s_is_arc ["value", "inputs", "events"]) (D_is_source : DefV P w K mg base CX0 C "is_source" ["value", "inputs", "events"] 1 g_is_source) (D_is_whole : DefV P w K mg base CX0 C "is_whole" ["value", "low", "high"] 1 g_is_whole) : DefV P w K mg base CX0 C "is_arc" ["value", "inputs", "events"] 2 g_is_arc := by
  have nd := sc_is_arc.nd
  refine' def_v0 (k := 1) (N := ["value", "inputs", "events"]) h sc_is_arc ?hb
  intro f cdv A outer s H E hr
  refine' ⟨_, ?hc⟩
  case hc =>
    intro B EX
    refine' jss_cons ?k59_0 ?k59_1
    case k59_0 =>
      refine' js_if ?k60_0 ?k60_1 ?k60_2
      case k60_0 =>
        refine' jb_w ?k61_0
        case k61_0 =>
          refine' jw_or ?k62_0 ?k62_1
          case k62_0 =>
            refine' jb_not ?k63_0
            case k63_0 =>
              refine' jb_val ?k64_0
              case k64_0 =>
                refine' je_isi (K := K) tab_tuple PyProof.Rows.boot_tuple nm.tuple nm.isinstance ?k65_0
                case k65_0 =>
                  exact jr_var 0
          case k62_1 =>
            refine' jw_or ?k66_0 ?k66_1
            case k66_0 =>
              refine' jb_ne (K := K) hr.units ?k67_0 ?k67_1
              case k67_0 =>
                refine' jr_of ?k68_0
                case k68_0 =>
                  refine' je_cb (cK_len (K := K) rfl) okK_len PySem.boot_len nm.len ?k69_0
                  case k69_0 =>
                    refine' jar_cons ?k70_0 ?k70_1
                    case k70_0 =>
                      exact jr_var 0
                    case k70_1 =>
                      exact jar_nil
              case k67_1 =>
                refine' jr_of ?k71_0
                case k71_0 =>
                  exact je_int
            case k66_1 =>
              refine' jw_or1 ?k72_0
              case k72_0 =>
                refine' jb_not ?k73_0
                case k73_0 =>
                  refine' jb_val ?k74_0
                  case k74_0 =>
                    refine' je_call0 D_is_source hr ?k75_0
                    case k75_0 =>
                      refine' ja_cons ?k76_0 ?k76_1
                      case k76_0 =>
                        refine' je_ix (K := K) ?k77_0 ?k77_1
                        case k77_0 =>
                          exact jr_var 0
                        case k77_1 =>
                          refine' jr_of ?k78_0
                          case k78_0 =>
                            exact je_int
                      case k76_1 =>
                        refine' ja_cons ?k79_0 ?k79_1
                        case k79_0 =>
                          exact je_var 1
                        case k79_1 =>
                          refine' ja_cons ?k80_0 ?k80_1
                          case k80_0 =>
                            exact je_var 2
                          case k80_1 =>
                            exact ja_nil
      case k60_1 =>
        refine' jss_one ?k81_0
        case k81_0 =>
          refine' js_ret ?k82_0
          case k82_0 =>
            exact je_bl
      case k60_2 =>
        exact jss_nil
    case k59_1 =>
      refine' jss_one ?k83_0
      case k83_0 =>
        refine' js_ret ?k84_0
        case k84_0 =>
          refine' je_and ?k85_0 ?k85_1
          case k85_0 =>
            refine' je_call0 D_is_whole hr ?k86_0
            case k86_0 =>
              refine' ja_cons ?k87_0 ?k87_1
              case k87_0 =>
                refine' je_ix (K := K) ?k88_0 ?k88_1
                case k88_0 =>
                  exact jr_var 0
                case k88_1 =>
                  refine' jr_of ?k89_0
                  case k89_0 =>
                    exact je_int
              case k87_1 =>
                refine' ja_cons ?k90_0 ?k90_1
                case k90_0 =>
                  exact je_int
                case k90_1 =>
                  refine' ja_cons ?k91_0 ?k91_1
                  case k91_0 =>
                    exact je_int
                  case k91_1 =>
                    exact ja_nil
          case k85_1 =>
            refine' je_one ?k92_0
            case k92_0 =>
              refine' je_call0 D_is_whole hr ?k93_0
              case k93_0 =>
                refine' ja_cons ?k94_0 ?k94_1
                case k94_0 =>
                  refine' je_ix (K := K) ?k95_0 ?k95_1
                  case k95_0 =>
                    exact jr_var 0
                  case k95_1 =>
                    refine' jr_of ?k96_0
                    case k96_0 =>
                      exact je_int
                case k94_1 =>
                  refine' ja_cons ?k97_0 ?k97_1
                  case k97_0 =>
                    exact je_int
                  case k97_1 =>
                    refine' ja_cons ?k98_0 ?k98_1
                    case k98_0 =>
                      exact je_int
                    case k98_1 =>
                      exact ja_nil


/-! ### is_row -/
def b_is_row : S := sRet (mAndV (mIsi (pIs "tuple") (mVarT 0)) (mAndV (mOp leF (mT (mCB lenF (mCons (mVarT 0) (mNil)))) (mT (ret (.int 4)))) (mCB allF (mCons (mT (mLc (mSeqI (mVar 0)) (hName 3) (mYes) (mCall0 g_is_arc (mCons (mVar 3) (mCons (mVar 1) (mCons (mVar 2) (mNil))))) [3])) (mNil)))))
def g_is_row : List D → RR := callD 3 4 b_is_row
theorem sc_is_row : FnScope ["value", "inputs", "events", "one"] ["value", "inputs", "events"] (defScope s_is_row) := ⟨rfl, rfl, rfl, by decide +kernel, rfl, by decide +kernel, by decide +kernel⟩
theorem ok_is_row {P : Program} {w : World} {K : PySem.W.Frag} {mg : Str → Option Value} {base : Heap} {C : Str → Addr} (nm : Nm K mg C) (h : HasF K mg "is_row" s_is_row ["value", "inputs", "events"]) (D_is_arc : DefV P w K mg base CX0 C "is_arc" ["value", "inputs", "events"] 2 g_is_arc) : DefV P w K mg base CX0 C "is_row" ["value", "inputs", "events"] 3 g_is_row := by
  have nd := sc_is_row.nd
  refine' def_v0 (k := 2) (N := ["value", "inputs", "events", "one"]) h sc_is_row ?hb
  intro f cdv A outer s H E hr
  refine' ⟨_, ?hc⟩
  case hc =>
    intro B EX
    refine' jss_one ?k99_0
    case k99_0 =>
      refine' js_ret ?k100_0
      case k100_0 =>
        refine' je_and ?k101_0 ?k101_1
        case k101_0 =>
          refine' je_isi (K := K) tab_tuple PyProof.Rows.boot_tuple nm.tuple nm.isinstance ?k102_0
          case k102_0 =>
            exact jr_var 0
        case k101_1 =>
          refine' je_and ?k103_0 ?k103_1
          case k103_0 =>
            refine' je_le ?k104_0 ?k104_1
            case k104_0 =>
              refine' jr_of ?k105_0
              case k105_0 =>
                refine' je_cb (cK_len (K := K) rfl) okK_len PySem.boot_len nm.len ?k106_0
                case k106_0 =>
                  refine' jar_cons ?k107_0 ?k107_1
                  case k107_0 =>
                    exact jr_var 0
                  case k107_1 =>
                    exact jar_nil
            case k104_1 =>
              refine' jr_of ?k108_0
              case k108_0 =>
                exact je_int
          case k103_1 =>
            refine' je_one ?k109_0
            case k109_0 =>
              refine' je_cb (cK_all (K := K) rfl rfl) ok_all PyProof.Rows.boot_all nm.all ?k110_0
              case k110_0 =>
                refine' jar_cons ?k111_0 ?k111_1
                case k111_0 =>
                  refine' jr_of ?k112_0
                  case k112_0 =>
                    refine' je_of ?k113_0
                    case k113_0 =>
                      refine' jf_lc (own := [("one", 3)]) (L := [3]) nd (blkOk_by (by kernel_rfl)) ?k114_0 ?k114_1 ?k114_2 ?k114_3
                      case k114_0 =>
                        refine' ji_seq (K := K) ?k115_0
                        case k115_0 =>
                          exact je_var 0
                      case k114_1 =>
                        intro _ _ _ _ _
                        exact jg_name 3 nd
                      case k114_2 =>
                        intro _ _ _ _ _
                        exact jbs_nil
                      case k114_3 =>
                        intro _ _ _ _ _
                        refine' je_call0 D_is_arc hr ?k116_0
                        case k116_0 =>
                          refine' ja_cons ?k117_0 ?k117_1
                          case k117_0 =>
                            exact je_var 3
                          case k117_1 =>
                            refine' ja_cons ?k118_0 ?k118_1
                            case k118_0 =>
                              exact je_var 1
                            case k118_1 =>
                              refine' ja_cons ?k119_0 ?k119_1
                              case k119_0 =>
                                exact je_var 2
                              case k119_1 =>
                                exact ja_nil
                case k111_1 =>
                  exact jar_nil


/-! ### is_shaped -/
def b_is_shaped : S := sSeq (sIf (mOr (mNot (mTst (mIsi (pIs "tuple") (mVarT 0)))) (mOr (mTst (mOp neF (mT (mCB lenF (mCons (mVarT 0) (mNil)))) (mT (ret (.int 3))))) (mNot (mTst (mCall0 g_is_whole (mCons (mOp ixF (mVarT 0) (mT (ret (.int 0)))) (mCons (ret (.int 0)) (mCons (ret (.int 2)) (mNil))))))))) (sRet (ret (.bool false))) (sNext))
 (sSeq (sAsg (mVar 0) (hTup 3 (hCons (hName 1) (hCons (hName 2) (hCons (hName 3) (hNil))))))
 (sSeq (sIf (mOr (mNot (mTst (mIsi (pIs "tuple") (mVarT 2)))) (mNot (mTst (mChain leF leF (mT (ret (.int 1))) (mT (mCB lenF (mCons (mVarT 2) (mNil)))) (mT (ret (.int 5))))))) (sRet (ret (.bool false))) (sNext))
 (sSeq (sIf (mNot (mTst (mCB allF (mCons (mT (mLc (mSeqI (mVar 2)) (hName 5) (mYes) (mCall0 g_is_row (mCons (mVar 5) (mCons (mVar 1) (mCons (mCB lenF (mCons (mVarT 2) (mNil))) (mNil))))) [5])) (mNil))))) (sRet (ret (.bool false))) (sNext))
 (sSeq (sIf (mOr (mNot (mTst (mIsi (pIs "tuple") (mVarT 3)))) (mNot (mTst (mChain leF leF (mT (ret (.int 1))) (mT (mCB lenF (mCons (mVarT 3) (mNil)))) (mT (ret (.int 3))))))) (sRet (ret (.bool false))) (sNext))
 (sRet (mCB allF (mCons (mT (mLc (mSeqI (mVar 3)) (hName 4) (mYes) (mCall0 g_is_whole (mCons (mVar 4) (mCons (ret (.int 0)) (mCons (mOp subF (mT (mCB lenF (mCons (mVarT 2) (mNil)))) (mT (ret (.int 1)))) (mNil))))) [4])) (mNil))))))))
def g_is_shaped : List D → RR := callD 1 6 b_is_shaped
theorem sc_is_shaped : FnScope ["value", "inputs", "rows", "outputs", "one", "row"] ["value"] (defScope s_is_shaped) := ⟨rfl, rfl, rfl, by decide +kernel, rfl, by decide +kernel, by decide +kernel⟩
theorem ok_is_shaped {P : Program} {w : World} {K : PySem.W.Frag} {mg : Str → Option Value} {base : Heap} {C : Str → Addr} (nm : Nm K mg C) (h : HasF K mg "is_shaped" s_is_shaped ["value"]) (D_is_whole : DefV P w K mg base CX0 C "is_whole" ["value", "low", "high"] 1 g_is_whole) (D_is_row : DefV P w K mg base CX0 C "is_row" ["value", "inputs", "events"] 3 g_is_row) : DefV P w K mg base CX0 C "is_shaped" ["value"] 4 g_is_shaped := by
  have nd := sc_is_shaped.nd
  refine' def_v0 (k := 3) (N := ["value", "inputs", "rows", "outputs", "one", "row"]) h sc_is_shaped ?hb
  intro f cdv A outer s H E hr
  refine' ⟨_, ?hc⟩
  case hc =>
    intro B EX
    refine' jss_cons ?k120_0 ?k120_1
    case k120_0 =>
      refine' js_if ?k121_0 ?k121_1 ?k121_2
      case k121_0 =>
        refine' jb_w ?k122_0
        case k122_0 =>
          refine' jw_or ?k123_0 ?k123_1
          case k123_0 =>
            refine' jb_not ?k124_0
            case k124_0 =>
              refine' jb_val ?k125_0
              case k125_0 =>
                refine' je_isi (K := K) tab_tuple PyProof.Rows.boot_tuple nm.tuple nm.isinstance ?k126_0
                case k126_0 =>
                  exact jr_var 0
          case k123_1 =>
            refine' jw_or ?k127_0 ?k127_1
            case k127_0 =>
              refine' jb_ne (K := K) hr.units ?k128_0 ?k128_1
              case k128_0 =>
                refine' jr_of ?k129_0
                case k129_0 =>
                  refine' je_cb (cK_len (K := K) rfl) okK_len PySem.boot_len nm.len ?k130_0
                  case k130_0 =>
                    refine' jar_cons ?k131_0 ?k131_1
                    case k131_0 =>
                      exact jr_var 0
                    case k131_1 =>
                      exact jar_nil
              case k128_1 =>
                refine' jr_of ?k132_0
                case k132_0 =>
                  exact je_int
            case k127_1 =>
              refine' jw_or1 ?k133_0
              case k133_0 =>
                refine' jb_not ?k134_0
                case k134_0 =>
                  refine' jb_val ?k135_0
                  case k135_0 =>
                    refine' je_call0 D_is_whole hr ?k136_0
                    case k136_0 =>
                      refine' ja_cons ?k137_0 ?k137_1
                      case k137_0 =>
                        refine' je_ix (K := K) ?k138_0 ?k138_1
                        case k138_0 =>
                          exact jr_var 0
                        case k138_1 =>
                          refine' jr_of ?k139_0
                          case k139_0 =>
                            exact je_int
                      case k137_1 =>
                        refine' ja_cons ?k140_0 ?k140_1
                        case k140_0 =>
                          exact je_int
                        case k140_1 =>
                          refine' ja_cons ?k141_0 ?k141_1
                          case k141_0 =>
                            exact je_int
                          case k141_1 =>
                            exact ja_nil
      case k121_1 =>
        refine' jss_one ?k142_0
        case k142_0 =>
          refine' js_ret ?k143_0
          case k143_0 =>
            exact je_bl
      case k121_2 =>
        exact jss_nil
    case k120_1 =>
      refine' jss_cons ?k144_0 ?k144_1
      case k144_0 =>
        refine' js_asg ?k145_0 ?k145_1
        case k145_0 =>
          exact je_var 0
        case k145_1 =>
          refine' jg_tup (K := K) ?k146_0
          case k146_0 =>
            refine' jgs_cons ?k147_0 ?k147_1
            case k147_0 =>
              exact jg_name 1 nd
            case k147_1 =>
              refine' jgs_cons ?k148_0 ?k148_1
              case k148_0 =>
                exact jg_name 2 nd
              case k148_1 =>
                refine' jgs_cons ?k149_0 ?k149_1
                case k149_0 =>
                  exact jg_name 3 nd
                case k149_1 =>
                  exact jgs_nil
      case k144_1 =>
        refine' jss_cons ?k150_0 ?k150_1
        case k150_0 =>
          refine' js_if ?k151_0 ?k151_1 ?k151_2
          case k151_0 =>
            refine' jb_w ?k152_0
            case k152_0 =>
              refine' jw_or ?k153_0 ?k153_1
              case k153_0 =>
                refine' jb_not ?k154_0
                case k154_0 =>
                  refine' jb_val ?k155_0
                  case k155_0 =>
                    refine' je_isi (K := K) tab_tuple PyProof.Rows.boot_tuple nm.tuple nm.isinstance ?k156_0
                    case k156_0 =>
                      exact jr_var 2
              case k153_1 =>
                refine' jw_or1 ?k157_0
                case k157_0 =>
                  refine' jb_not ?k158_0
                  case k158_0 =>
                    refine' jb_chain op_le op_le ok_cmpI ok_cmpI ?k159_0 ?k159_1 ?k159_2
                    case k159_0 =>
                      refine' jr_of ?k160_0
                      case k160_0 =>
                        exact je_int
                    case k159_1 =>
                      refine' jr_of ?k161_0
                      case k161_0 =>
                        refine' je_cb (cK_len (K := K) rfl) okK_len PySem.boot_len nm.len ?k162_0
                        case k162_0 =>
                          refine' jar_cons ?k163_0 ?k163_1
                          case k163_0 =>
                            exact jr_var 2
                          case k163_1 =>
                            exact jar_nil
                    case k159_2 =>
                      refine' jr_of ?k164_0
                      case k164_0 =>
                        exact je_gi nm.MOST_EVENTS
          case k151_1 =>
            refine' jss_one ?k165_0
            case k165_0 =>
              refine' js_ret ?k166_0
              case k166_0 =>
                exact je_bl
          case k151_2 =>
            exact jss_nil
        case k150_1 =>
          refine' jss_cons ?k167_0 ?k167_1
          case k167_0 =>
            refine' js_if ?k168_0 ?k168_1 ?k168_2
            case k168_0 =>
              refine' jb_not ?k169_0
              case k169_0 =>
                refine' jb_val ?k170_0
                case k170_0 =>
                  refine' je_cb (cK_all (K := K) rfl rfl) ok_all PyProof.Rows.boot_all nm.all ?k171_0
                  case k171_0 =>
                    refine' jar_cons ?k172_0 ?k172_1
                    case k172_0 =>
                      refine' jr_of ?k173_0
                      case k173_0 =>
                        refine' je_of ?k174_0
                        case k174_0 =>
                          refine' jf_lc (own := [("row", 5)]) (L := [5]) nd (blkOk_by (by kernel_rfl)) ?k175_0 ?k175_1 ?k175_2 ?k175_3
                          case k175_0 =>
                            refine' ji_seq (K := K) ?k176_0
                            case k176_0 =>
                              exact je_var 2
                          case k175_1 =>
                            intro _ _ _ _ _
                            exact jg_name 5 nd
                          case k175_2 =>
                            intro _ _ _ _ _
                            exact jbs_nil
                          case k175_3 =>
                            intro _ _ _ _ _
                            refine' je_call0 D_is_row hr ?k177_0
                            case k177_0 =>
                              refine' ja_cons ?k178_0 ?k178_1
                              case k178_0 =>
                                exact je_var 5
                              case k178_1 =>
                                refine' ja_cons ?k179_0 ?k179_1
                                case k179_0 =>
                                  exact je_var 1
                                case k179_1 =>
                                  refine' ja_cons ?k180_0 ?k180_1
                                  case k180_0 =>
                                    refine' je_cb (cK_len (K := K) rfl) okK_len PySem.boot_len nm.len ?k181_0
                                    case k181_0 =>
                                      refine' jar_cons ?k182_0 ?k182_1
                                      case k182_0 =>
                                        exact jr_var 2
                                      case k182_1 =>
                                        exact jar_nil
                                  case k180_1 =>
                                    exact ja_nil
                    case k172_1 =>
                      exact jar_nil
            case k168_1 =>
              refine' jss_one ?k183_0
              case k183_0 =>
                refine' js_ret ?k184_0
                case k184_0 =>
                  exact je_bl
            case k168_2 =>
              exact jss_nil
          case k167_1 =>
            refine' jss_cons ?k185_0 ?k185_1
            case k185_0 =>
              refine' js_if ?k186_0 ?k186_1 ?k186_2
              case k186_0 =>
                refine' jb_w ?k187_0
                case k187_0 =>
                  refine' jw_or ?k188_0 ?k188_1
                  case k188_0 =>
                    refine' jb_not ?k189_0
                    case k189_0 =>
                      refine' jb_val ?k190_0
                      case k190_0 =>
                        refine' je_isi (K := K) tab_tuple PyProof.Rows.boot_tuple nm.tuple nm.isinstance ?k191_0
                        case k191_0 =>
                          exact jr_var 3
                  case k188_1 =>
                    refine' jw_or1 ?k192_0
                    case k192_0 =>
                      refine' jb_not ?k193_0
                      case k193_0 =>
                        refine' jb_chain op_le op_le ok_cmpI ok_cmpI ?k194_0 ?k194_1 ?k194_2
                        case k194_0 =>
                          refine' jr_of ?k195_0
                          case k195_0 =>
                            exact je_int
                        case k194_1 =>
                          refine' jr_of ?k196_0
                          case k196_0 =>
                            refine' je_cb (cK_len (K := K) rfl) okK_len PySem.boot_len nm.len ?k197_0
                            case k197_0 =>
                              refine' jar_cons ?k198_0 ?k198_1
                              case k198_0 =>
                                exact jr_var 3
                              case k198_1 =>
                                exact jar_nil
                        case k194_2 =>
                          refine' jr_of ?k199_0
                          case k199_0 =>
                            exact je_int
              case k186_1 =>
                refine' jss_one ?k200_0
                case k200_0 =>
                  refine' js_ret ?k201_0
                  case k201_0 =>
                    exact je_bl
              case k186_2 =>
                exact jss_nil
            case k185_1 =>
              refine' jss_one ?k202_0
              case k202_0 =>
                refine' js_ret ?k203_0
                case k203_0 =>
                  refine' je_cb (cK_all (K := K) rfl rfl) ok_all PyProof.Rows.boot_all nm.all ?k204_0
                  case k204_0 =>
                    refine' jar_cons ?k205_0 ?k205_1
                    case k205_0 =>
                      refine' jr_of ?k206_0
                      case k206_0 =>
                        refine' je_of ?k207_0
                        case k207_0 =>
                          refine' jf_lc (own := [("one", 4)]) (L := [4]) nd (blkOk_by (by kernel_rfl)) ?k208_0 ?k208_1 ?k208_2 ?k208_3
                          case k208_0 =>
                            refine' ji_seq (K := K) ?k209_0
                            case k209_0 =>
                              exact je_var 3
                          case k208_1 =>
                            intro _ _ _ _ _
                            exact jg_name 4 nd
                          case k208_2 =>
                            intro _ _ _ _ _
                            exact jbs_nil
                          case k208_3 =>
                            intro _ _ _ _ _
                            refine' je_call0 D_is_whole hr ?k210_0
                            case k210_0 =>
                              refine' ja_cons ?k211_0 ?k211_1
                              case k211_0 =>
                                exact je_var 4
                              case k211_1 =>
                                refine' ja_cons ?k212_0 ?k212_1
                                case k212_0 =>
                                  exact je_int
                                case k212_1 =>
                                  refine' ja_cons ?k213_0 ?k213_1
                                  case k213_0 =>
                                    refine' je_sub ?k214_0 ?k214_1
                                    case k214_0 =>
                                      refine' jr_of ?k215_0
                                      case k215_0 =>
                                        refine' je_cb (cK_len (K := K) rfl) okK_len PySem.boot_len nm.len ?k216_0
                                        case k216_0 =>
                                          refine' jar_cons ?k217_0 ?k217_1
                                          case k217_0 =>
                                            exact jr_var 2
                                          case k217_1 =>
                                            exact jar_nil
                                    case k214_1 =>
                                      refine' jr_of ?k218_0
                                      case k218_0 =>
                                        exact je_int
                                  case k213_1 =>
                                    exact ja_nil
                    case k205_1 =>
                      exact jar_nil


/-! ### same_round -/
def b_same_round : S := sSeq (sOwn (mLst (mNil)) 1)
 (sSeq (sFor (mSeqI (mVar 0)) (hName 2) (sSeq (sAsg (mLc (mSeqI (mVar 2)) (hTup 3 (hCons (hName 4) (hCons (hName 5) (hCons (hName 6) (hNil))))) (mTst (mOp eqF (mVarT 6) (mT (ret (.int 0))))) (mCall0 g_event_of (mCons (mVar 4) (mNil))) [4, 5, 6]) (hName 3))
 (sAppend 1 (mLc (mSeqI (mVar 3)) (hName 7) (mTst (mOp (isF true) (mVarT 7) (mT (ret .none)))) (mVar 7) [7]))))
 (sRet (mVar 1)))
def g_same_round : List D → RR := callD 1 8 b_same_round
theorem sc_same_round : FnScope ["rows", "found", "row", "some", "source", "delay", "back", "one"] ["rows"] (defScope s_same_round) := ⟨rfl, rfl, rfl, by decide +kernel, rfl, by decide +kernel, by decide +kernel⟩
theorem ok_same_round {P : Program} {w : World} {K : PySem.W.Frag} {mg : Str → Option Value} {base : Heap} {C : Str → Addr} (nm : Nm K mg C) (h : HasF K mg "same_round" s_same_round ["rows"]) (D_event_of : DefV P w K mg base CX0 C "event_of" ["source"] 1 g_event_of) : DefV P w K mg base CX0 C "same_round" ["rows"] 2 g_same_round := by
  have nd := sc_same_round.nd
  refine' def_v0 (k := 1) (N := ["rows", "found", "row", "some", "source", "delay", "back", "one"]) h sc_same_round ?hb
  intro f cdv A outer s H E hr
  refine' ⟨_, ?hc⟩
  case hc =>
    intro B EX
    refine' jss_cons ?k219_0 ?k219_1
    case k219_0 =>
      refine' js_own 1 nd ?k220_0
      case k220_0 =>
        refine' jf_lst ?k221_0
        case k221_0 =>
          exact ja_nil
    case k219_1 =>
      refine' jss_cons ?k222_0 ?k222_1
      case k222_0 =>
        refine' js_for PassesOwn.never ?k223_0 ?k223_1 ?k223_2
        case k223_0 =>
          refine' ji_seq (K := K) ?k224_0
          case k224_0 =>
            exact je_var 0
        case k223_1 =>
          exact jg_name 2 nd
        case k223_2 =>
          refine' jss_cons ?k225_0 ?k225_1
          case k225_0 =>
            refine' js_setLc 3 (own := [("source", 4), ("delay", 5), ("back", 6)]) (L := ([4] ++ ([5] ++ ([6] ++ [])))) nd (blkOk_by (by kernel_rfl)) ?k226_0 ?k226_1 ?k226_2 ?k226_3 (sw_true rfl rfl rfl (by kernel_rfl))
            case k226_0 =>
              refine' ji_seq (K := K) ?k227_0
              case k227_0 =>
                exact je_var 2
            case k226_1 =>
              intro _ _ _ _ _
              refine' jg_tup (K := K) ?k228_0
              case k228_0 =>
                refine' jgs_cons ?k229_0 ?k229_1
                case k229_0 =>
                  exact jg_name 4 nd
                case k229_1 =>
                  refine' jgs_cons ?k230_0 ?k230_1
                  case k230_0 =>
                    exact jg_name 5 nd
                  case k230_1 =>
                    refine' jgs_cons ?k231_0 ?k231_1
                    case k231_0 =>
                      exact jg_name 6 nd
                    case k231_1 =>
                      exact jgs_nil
            case k226_2 =>
              intro _ _ _ _ _
              refine' jbs_one ?k232_0
              case k232_0 =>
                refine' jb_eq (K := K) hr.units ?k233_0 ?k233_1
                case k233_0 =>
                  exact jr_var 6
                case k233_1 =>
                  refine' jr_of ?k234_0
                  case k234_0 =>
                    exact je_int
            case k226_3 =>
              intro _ _ _ _ _
              refine' je_call0 D_event_of hr ?k235_0
              case k235_0 =>
                refine' ja_cons ?k236_0 ?k236_1
                case k236_0 =>
                  exact je_var 4
                case k236_1 =>
                  exact ja_nil
          case k225_1 =>
            refine' jss_one ?k237_0
            case k237_0 =>
              refine' js_append (K := K) 1 ?k238_0
              case k238_0 =>
                refine' je_of ?k239_0
                case k239_0 =>
                  refine' jf_lc (own := [("one", 7)]) (L := [7]) nd (blkOk_by (by kernel_rfl)) ?k240_0 ?k240_1 ?k240_2 ?k240_3
                  case k240_0 =>
                    refine' ji_seq (K := K) ?k241_0
                    case k241_0 =>
                      exact je_var 3
                  case k240_1 =>
                    intro _ _ _ _ _
                    exact jg_name 7 nd
                  case k240_2 =>
                    intro _ _ _ _ _
                    refine' jbs_one ?k242_0
                    case k242_0 =>
                      refine' jb_isnot ?k243_0 ?k243_1
                      case k243_0 =>
                        exact jr_var 7
                      case k243_1 =>
                        refine' jr_of ?k244_0
                        case k244_0 =>
                          exact je_non
                  case k240_3 =>
                    intro _ _ _ _ _
                    exact je_var 7
      case k222_1 =>
        refine' jss_one ?k245_0
        case k245_0 =>
          refine' js_ret ?k246_0
          case k246_0 =>
            exact je_var 1


/-! ### order_of -/
def b_order_of : S := sSeq (sPar [false, true] [1, 2] (mCons (mCall0 g_same_round (mCons (mVar 0) (mNil))) (mCons (mLst (mNil)) (mNil))))
 (sSeq (whileGo (mTst (mOp ltF (mT (mCB lenF (mCons (mVarT 2) (mNil)))) (mT (mCB lenF (mCons (mVarT 0) (mNil)))))) (sSeq (sAsg (mLc (mRng1 (mCons (mCB lenF (mCons (mVarT 0) (mNil))) (mNil))) (hName 4) (mAnd (mTst (mOp (inAF true) (mVarT 4) (mVarT 2))) (mTst (mCB allF (mCons (mT (mLc (mSeqI (mOp ixF (mVarT 1) (mVarT 4))) (hName 5) (mYes) (mOp (inAF false) (mVarT 5) (mVarT 2)) [5])) (mNil))))) (mVar 4) [4]) (hName 3))
 (sSeq (sIf (mTst (mOp eqF (mVarT 3) (mT (mLst (mNil))))) (sRet (ret .none)) (sNext))
 (sAppend 2 (mOp ixF (mVarT 3) (mT (ret (.int 0))))))) 1000000)
 (sRet (mVar 2)))
def g_order_of : List D → RR := callD 1 6 b_order_of
theorem sc_order_of : FnScope ["rows", "waits", "found", "free", "at", "one"] ["rows"] (defScope s_order_of) := ⟨rfl, rfl, rfl, by decide +kernel, rfl, by decide +kernel, by decide +kernel⟩
theorem ok_order_of {P : Program} {w : World} {K : PySem.W.Frag} {mg : Str → Option Value} {base : Heap} {C : Str → Addr} (nm : Nm K mg C) (h : HasF K mg "order_of" s_order_of ["rows"]) (D_same_round : DefV P w K mg base CX0 C "same_round" ["rows"] 2 g_same_round) : DefV P w K mg base CX0 C "order_of" ["rows"] 3 g_order_of := by
  have nd := sc_order_of.nd
  refine' def_v0 (k := 2) (N := ["rows", "waits", "found", "free", "at", "one"]) h sc_order_of ?hb
  intro f cdv A outer s H E hr
  refine' ⟨_, ?hc⟩
  case hc =>
    intro B EX
    refine' jss_cons ?k247_0 ?k247_1
    case k247_0 =>
      refine' js_parT (K := K) (is := [1, 2]) ?k248_0 ?k248_1
      case k248_0 =>
        refine' jam_cons ?k249_0 ?k249_1
        case k249_0 =>
          refine' je_call0 D_same_round hr ?k250_0
          case k250_0 =>
            refine' ja_cons ?k251_0 ?k251_1
            case k251_0 =>
              exact je_var 0
            case k251_1 =>
              exact ja_nil
        case k249_1 =>
          refine' jam_own ?k252_0 ?k252_1
          case k252_0 =>
            refine' jf_lst ?k253_0
            case k253_0 =>
              exact ja_nil
          case k252_1 =>
            exact jam_nil
      case k248_1 =>
        exact (pg_tup rfl (pgs_cons (pg_name (i := 1) nd rfl (by first | exact Or.inl rfl | exact Or.inr rfl)) (pgs_cons (pg_name (i := 2) nd rfl (by first | exact Or.inl rfl | exact Or.inr rfl)) (pgs_nil))))
    case k247_1 =>
      refine' jss_cons ?k254_0 ?k254_1
      case k254_0 =>
        refine' js_while 1000000 PassesOwn.never ?k255_0 ?k255_1
        case k255_0 =>
          refine' jb_lt ?k256_0 ?k256_1
          case k256_0 =>
            refine' jr_of ?k257_0
            case k257_0 =>
              refine' je_cb (cK_len (K := K) rfl) okK_len PySem.boot_len nm.len ?k258_0
              case k258_0 =>
                refine' jar_cons ?k259_0 ?k259_1
                case k259_0 =>
                  exact jr_var 2
                case k259_1 =>
                  exact jar_nil
          case k256_1 =>
            refine' jr_of ?k260_0
            case k260_0 =>
              refine' je_cb (cK_len (K := K) rfl) okK_len PySem.boot_len nm.len ?k261_0
              case k261_0 =>
                refine' jar_cons ?k262_0 ?k262_1
                case k262_0 =>
                  exact jr_var 0
                case k262_1 =>
                  exact jar_nil
        case k255_1 =>
          refine' jss_cons ?k263_0 ?k263_1
          case k263_0 =>
            refine' js_setLc 3 (own := [("at", 4)]) (L := [4]) nd (blkOk_by (by kernel_rfl)) ?k264_0 ?k264_1 ?k264_2 ?k264_3 (sw_true rfl rfl rfl (by kernel_rfl))
            case k264_0 =>
              refine' ji_rng1 nm.range ?k265_0
              case k265_0 =>
                refine' ja_cons ?k266_0 ?k266_1
                case k266_0 =>
                  refine' je_cb (cK_len (K := K) rfl) okK_len PySem.boot_len nm.len ?k267_0
                  case k267_0 =>
                    refine' jar_cons ?k268_0 ?k268_1
                    case k268_0 =>
                      exact jr_var 0
                    case k268_1 =>
                      exact jar_nil
                case k266_1 =>
                  exact ja_nil
            case k264_1 =>
              intro _ _ _ _ _
              exact jg_name 4 nd
            case k264_2 =>
              intro _ _ _ _ _
              refine' jbs_one ?k269_0
              case k269_0 =>
                refine' jb_w ?k270_0
                case k270_0 =>
                  refine' jw_and ?k271_0 ?k271_1
                  case k271_0 =>
                    refine' jb_notin (K := K) hr.units ?k272_0 ?k272_1
                    case k272_0 =>
                      exact jr_var 4
                    case k272_1 =>
                      exact jr_var 2
                  case k271_1 =>
                    refine' jw_and1 ?k273_0
                    case k273_0 =>
                      refine' jb_val ?k274_0
                      case k274_0 =>
                        refine' je_cb (cK_all (K := K) rfl rfl) ok_all PyProof.Rows.boot_all nm.all ?k275_0
                        case k275_0 =>
                          refine' jar_cons ?k276_0 ?k276_1
                          case k276_0 =>
                            refine' jr_of ?k277_0
                            case k277_0 =>
                              refine' je_of ?k278_0
                              case k278_0 =>
                                refine' jf_lc (own := [("one", 5)]) (L := [5]) nd (blkOk_by (by kernel_rfl)) ?k279_0 ?k279_1 ?k279_2 ?k279_3
                                case k279_0 =>
                                  refine' ji_seq (K := K) ?k280_0
                                  case k280_0 =>
                                    refine' je_ix (K := K) ?k281_0 ?k281_1
                                    case k281_0 =>
                                      exact jr_var 1
                                    case k281_1 =>
                                      exact jr_var 4
                                case k279_1 =>
                                  intro _ _ _ _ _
                                  exact jg_name 5 nd
                                case k279_2 =>
                                  intro _ _ _ _ _
                                  exact jbs_nil
                                case k279_3 =>
                                  intro _ _ _ _ _
                                  refine' je_in (K := K) hr.units ?k282_0 ?k282_1
                                  case k282_0 =>
                                    exact jr_var 5
                                  case k282_1 =>
                                    exact jr_var 2
                          case k276_1 =>
                            exact jar_nil
            case k264_3 =>
              intro _ _ _ _ _
              exact je_var 4
          case k263_1 =>
            refine' jss_cons ?k283_0 ?k283_1
            case k283_0 =>
              refine' js_if ?k284_0 ?k284_1 ?k284_2
              case k284_0 =>
                refine' jb_eq (K := K) hr.units ?k285_0 ?k285_1
                case k285_0 =>
                  exact jr_var 3
                case k285_1 =>
                  refine' jr_of ?k286_0
                  case k286_0 =>
                    refine' je_of ?k287_0
                    case k287_0 =>
                      refine' jf_lst ?k288_0
                      case k288_0 =>
                        exact ja_nil
              case k284_1 =>
                refine' jss_one ?k289_0
                case k289_0 =>
                  refine' js_ret ?k290_0
                  case k290_0 =>
                    exact je_non
              case k284_2 =>
                exact jss_nil
            case k283_1 =>
              refine' jss_one ?k291_0
              case k291_0 =>
                refine' js_append (K := K) 2 ?k292_0
                case k292_0 =>
                  refine' je_ix (K := K) ?k293_0 ?k293_1
                  case k293_0 =>
                    exact jr_var 3
                  case k293_1 =>
                    refine' jr_of ?k294_0
                    case k294_0 =>
                      exact je_int
      case k254_1 =>
        refine' jss_one ?k295_0
        case k295_0 =>
          refine' js_ret ?k296_0
          case k296_0 =>
            exact je_var 2


/-! ### all_back -/
def b_all_back : S := sRet (mCB sumF (mCons (mT (mLc (mSeqI (mVar 0)) (hName 1) (mYes) (mCB sumF (mCons (mT (mLc (mSeqI (mVar 1)) (hTup 3 (hCons (hName 2) (hCons (hName 3) (hCons (hName 4) (hNil))))) (mYes) (mVar 4) [2, 3, 4])) (mNil))) [1])) (mNil)))
def g_all_back : List D → RR := callD 1 5 b_all_back
theorem sc_all_back : FnScope ["rows", "row", "source", "delay", "back"] ["rows"] (defScope s_all_back) := ⟨rfl, rfl, rfl, by decide +kernel, rfl, by decide +kernel, by decide +kernel⟩
theorem ok_all_back {P : Program} {w : World} {K : PySem.W.Frag} {mg : Str → Option Value} {base : Heap} {C : Str → Addr} (nm : Nm K mg C) (h : HasF K mg "all_back" s_all_back ["rows"]) : DefV P w K mg base CX0 C "all_back" ["rows"] 1 g_all_back := by
  have nd := sc_all_back.nd
  refine' def_v0 (k := 0) (N := ["rows", "row", "source", "delay", "back"]) h sc_all_back ?hb
  intro f cdv A outer s H E hr
  refine' ⟨_, ?hc⟩
  case hc =>
    intro B EX
    refine' jss_one ?k297_0
    case k297_0 =>
      refine' js_ret ?k298_0
      case k298_0 =>
        refine' je_cb (cK_sum (K := K) rfl rfl) ok_sum PyProof.Rows.boot_sum nm.sum ?k299_0
        case k299_0 =>
          refine' jar_cons ?k300_0 ?k300_1
          case k300_0 =>
            refine' jr_of ?k301_0
            case k301_0 =>
              refine' je_of ?k302_0
              case k302_0 =>
                refine' jf_lc (own := [("row", 1)]) (L := [1]) nd (blkOk_by (by kernel_rfl)) ?k303_0 ?k303_1 ?k303_2 ?k303_3
                case k303_0 =>
                  refine' ji_seq (K := K) ?k304_0
                  case k304_0 =>
                    exact je_var 0
                case k303_1 =>
                  intro _ _ _ _ _
                  exact jg_name 1 nd
                case k303_2 =>
                  intro _ _ _ _ _
                  exact jbs_nil
                case k303_3 =>
                  intro _ _ _ _ _
                  refine' je_cb (cK_sum (K := K) rfl rfl) ok_sum PyProof.Rows.boot_sum nm.sum ?k305_0
                  case k305_0 =>
                    refine' jar_cons ?k306_0 ?k306_1
                    case k306_0 =>
                      refine' jr_of ?k307_0
                      case k307_0 =>
                        refine' je_of ?k308_0
                        case k308_0 =>
                          refine' jf_lc (own := [("source", 2), ("delay", 3), ("back", 4)]) (L := ([2] ++ ([3] ++ ([4] ++ [])))) nd (blkOk_by (by kernel_rfl)) ?k309_0 ?k309_1 ?k309_2 ?k309_3
                          case k309_0 =>
                            refine' ji_seq (K := K) ?k310_0
                            case k310_0 =>
                              exact je_var 1
                          case k309_1 =>
                            intro _ _ _ _ _
                            refine' jg_tup (K := K) ?k311_0
                            case k311_0 =>
                              refine' jgs_cons ?k312_0 ?k312_1
                              case k312_0 =>
                                exact jg_name 2 nd
                              case k312_1 =>
                                refine' jgs_cons ?k313_0 ?k313_1
                                case k313_0 =>
                                  exact jg_name 3 nd
                                case k313_1 =>
                                  refine' jgs_cons ?k314_0 ?k314_1
                                  case k314_0 =>
                                    exact jg_name 4 nd
                                  case k314_1 =>
                                    exact jgs_nil
                          case k309_2 =>
                            intro _ _ _ _ _
                            exact jbs_nil
                          case k309_3 =>
                            intro _ _ _ _ _
                            exact je_var 4
                    case k306_1 =>
                      exact jar_nil
          case k300_1 =>
            exact jar_nil


/-! ### is_net -/
def b_is_net : S := sRet (mAndV (mCall0 g_is_shaped (mCons (mVar 0) (mNil))) (mAndV (mOp leF (mT (mCall0 g_all_back (mCons (mOp ixF (mVarT 0) (mT (ret (.int 1)))) (mNil)))) (mT (ret (.int 8)))) (mOp (isF true) (mT (mCall0 g_order_of (mCons (mOp ixF (mVarT 0) (mT (ret (.int 1)))) (mNil)))) (mT (ret .none)))))
def g_is_net : List D → RR := callD 1 1 b_is_net
theorem sc_is_net : FnScope ["value"] ["value"] (defScope s_is_net) := ⟨rfl, rfl, rfl, by decide +kernel, rfl, by decide +kernel, by decide +kernel⟩
theorem ok_is_net {P : Program} {w : World} {K : PySem.W.Frag} {mg : Str → Option Value} {base : Heap} {C : Str → Addr} (nm : Nm K mg C) (h : HasF K mg "is_net" s_is_net ["value"]) (D_is_shaped : DefV P w K mg base CX0 C "is_shaped" ["value"] 4 g_is_shaped) (D_all_back : DefV P w K mg base CX0 C "all_back" ["rows"] 1 g_all_back) (D_order_of : DefV P w K mg base CX0 C "order_of" ["rows"] 3 g_order_of) : DefV P w K mg base CX0 C "is_net" ["value"] 5 g_is_net := by
  have nd := sc_is_net.nd
  refine' def_v0 (k := 4) (N := ["value"]) h sc_is_net ?hb
  intro f cdv A outer s H E hr
  refine' ⟨_, ?hc⟩
  case hc =>
    intro B EX
    refine' jss_one ?k315_0
    case k315_0 =>
      refine' js_ret ?k316_0
      case k316_0 =>
        refine' je_and ?k317_0 ?k317_1
        case k317_0 =>
          refine' je_call0 D_is_shaped hr ?k318_0
          case k318_0 =>
            refine' ja_cons ?k319_0 ?k319_1
            case k319_0 =>
              exact je_var 0
            case k319_1 =>
              exact ja_nil
        case k317_1 =>
          refine' je_and ?k320_0 ?k320_1
          case k320_0 =>
            refine' je_le ?k321_0 ?k321_1
            case k321_0 =>
              refine' jr_of ?k322_0
              case k322_0 =>
                refine' je_call0 D_all_back hr ?k323_0
                case k323_0 =>
                  refine' ja_cons ?k324_0 ?k324_1
                  case k324_0 =>
                    refine' je_ix (K := K) ?k325_0 ?k325_1
                    case k325_0 =>
                      exact jr_var 0
                    case k325_1 =>
                      refine' jr_of ?k326_0
                      case k326_0 =>
                        exact je_int
                  case k324_1 =>
                    exact ja_nil
            case k321_1 =>
              refine' jr_of ?k327_0
              case k327_0 =>
                exact je_gi nm.MOST_BACK
          case k320_1 =>
            refine' je_one ?k328_0
            case k328_0 =>
              refine' je_isnot ?k329_0 ?k329_1
              case k329_0 =>
                refine' jr_of ?k330_0
                case k330_0 =>
                  refine' je_call0 D_order_of hr ?k331_0
                  case k331_0 =>
                    refine' ja_cons ?k332_0 ?k332_1
                    case k332_0 =>
                      refine' je_ix (K := K) ?k333_0 ?k333_1
                      case k333_0 =>
                        exact jr_var 0
                      case k333_1 =>
                        refine' jr_of ?k334_0
                        case k334_0 =>
                          exact je_int
                    case k332_1 =>
                      exact ja_nil
              case k329_1 =>
                refine' jr_of ?k335_0
                case k335_0 =>
                  exact je_non


/-! ### need_net -/
def b_need_net : S := sIf (mNot (mTst (mCall0 g_is_net (mCons (mVar 0) (mNil))))) (sRaise "InvalidNet") (sNext)
def g_need_net : List D → RR := callD 1 1 b_need_net
theorem sc_need_net : FnScope ["net"] ["net"] (defScope s_need_net) := ⟨rfl, rfl, rfl, by decide +kernel, rfl, by decide +kernel, by decide +kernel⟩
theorem ok_need_net {P : Program} {w : World} {K : PySem.W.Frag} {mg : Str → Option Value} {base : Heap} {C : Str → Addr} (nm : Nm K mg C) (h : HasF K mg "need_net" s_need_net ["net"]) (D_is_net : DefV P w K mg base CX0 C "is_net" ["value"] 5 g_is_net) : DefV P w K mg base (L2.CX P w) C "need_net" ["net"] 6 g_need_net := by
  have nd := sc_need_net.nd
  refine' def_vX (k := 5) (N := ["net"]) h sc_need_net ?hb
  intro f cdv A outer s H E hr
  refine' ⟨_, ?hc⟩
  case hc =>
    intro B
    refine' jss_one ?k336_0
    case k336_0 =>
      refine' js_if ?k337_0 ?k337_1 ?k337_2
      case k337_0 =>
        refine' jb_not ?k338_0
        case k338_0 =>
          refine' jb_val ?k339_0
          case k339_0 =>
            refine' je_call0 D_is_net hr ?k340_0
            case k340_0 =>
              refine' ja_cons ?k341_0 ?k341_1
              case k341_0 =>
                exact je_var 0
              case k341_1 =>
                exact ja_nil
      case k337_1 =>
        refine' jss_one ?k342_0
        case k342_0 =>
          exact js_raise nm.X_InvalidNet
      case k337_2 =>
        exact jss_nil


/-! ### need_event -/
def b_need_event : S := sSeq (sDrop (mCall g_need_net (mCons (mVar 0) (mNil))))
 (sIf (mNot (mTst (mCall0 g_is_whole (mCons (mVar 1) (mCons (ret (.int 0)) (mCons (mOp subF (mT (mCB lenF (mCons (mT (mOp ixF (mVarT 0) (mT (ret (.int 1))))) (mNil)))) (mT (ret (.int 1)))) (mNil))))))) (sRaise "InvalidEvent") (sNext))
def g_need_event : List D → RR := callD 2 2 b_need_event
theorem sc_need_event : FnScope ["net", "event"] ["net", "event"] (defScope s_need_event) := ⟨rfl, rfl, rfl, by decide +kernel, rfl, by decide +kernel, by decide +kernel⟩
theorem ok_need_event {P : Program} {w : World} {K : PySem.W.Frag} {mg : Str → Option Value} {base : Heap} {C : Str → Addr} (nm : Nm K mg C) (h : HasF K mg "need_event" s_need_event ["net", "event"]) (D_need_net : DefV P w K mg base (L2.CX P w) C "need_net" ["net"] 6 g_need_net) (D_is_whole : DefV P w K mg base CX0 C "is_whole" ["value", "low", "high"] 1 g_is_whole) : DefV P w K mg base (L2.CX P w) C "need_event" ["net", "event"] 7 g_need_event := by
  have nd := sc_need_event.nd
  refine' def_vX (k := 6) (N := ["net", "event"]) h sc_need_event ?hb
  intro f cdv A outer s H E hr
  refine' ⟨_, ?hc⟩
  case hc =>
    intro B
    refine' jss_cons ?k343_0 ?k343_1
    case k343_0 =>
      refine' js_expr ?k344_0
      case k344_0 =>
        refine' je_call D_need_net hr ?k345_0
        case k345_0 =>
          refine' ja_cons ?k346_0 ?k346_1
          case k346_0 =>
            exact je_var 0
          case k346_1 =>
            exact ja_nil
    case k343_1 =>
      refine' jss_one ?k347_0
      case k347_0 =>
        refine' js_if ?k348_0 ?k348_1 ?k348_2
        case k348_0 =>
          refine' jb_not ?k349_0
          case k349_0 =>
            refine' jb_val ?k350_0
            case k350_0 =>
              refine' je_call0 D_is_whole hr ?k351_0
              case k351_0 =>
                refine' ja_cons ?k352_0 ?k352_1
                case k352_0 =>
                  exact je_var 1
                case k352_1 =>
                  refine' ja_cons ?k353_0 ?k353_1
                  case k353_0 =>
                    exact je_int
                  case k353_1 =>
                    refine' ja_cons ?k354_0 ?k354_1
                    case k354_0 =>
                      refine' je_sub ?k355_0 ?k355_1
                      case k355_0 =>
                        refine' jr_of ?k356_0
                        case k356_0 =>
                          refine' je_cb (cK_len (K := K) rfl) okK_len PySem.boot_len nm.len ?k357_0
                          case k357_0 =>
                            refine' jar_cons ?k358_0 ?k358_1
                            case k358_0 =>
                              refine' jr_of ?k359_0
                              case k359_0 =>
                                refine' je_ix (K := K) ?k360_0 ?k360_1
                                case k360_0 =>
                                  exact jr_var 0
                                case k360_1 =>
                                  refine' jr_of ?k361_0
                                  case k361_0 =>
                                    exact je_int
                            case k358_1 =>
                              exact jar_nil
                      case k355_1 =>
                        refine' jr_of ?k362_0
                        case k362_0 =>
                          exact je_int
                    case k354_1 =>
                      exact ja_nil
        case k348_1 =>
          refine' jss_one ?k363_0
          case k363_0 =>
            exact js_raise nm.X_InvalidEvent
        case k348_2 =>
          exact jss_nil


/-! ### divisor -/
def b_divisor : S := sSeq (whileGo (mTst (mOp neF (mVarT 1) (mT (ret (.int 0))))) (sPar [false, false] [0, 1] (mCons (mVar 1) (mCons (mOp modF (mVarT 0) (mVarT 1)) (mNil)))) 1000000)
 (sRet (mVar 0))
def g_divisor : List D → RR := callD 2 2 b_divisor
theorem sc_divisor : FnScope ["one", "other"] ["one", "other"] (defScope s_divisor) := ⟨rfl, rfl, rfl, by decide +kernel, rfl, by decide +kernel, by decide +kernel⟩
theorem ok_divisor {P : Program} {w : World} {K : PySem.W.Frag} {mg : Str → Option Value} {base : Heap} {C : Str → Addr} (nm : Nm K mg C) (h : HasF K mg "divisor" s_divisor ["one", "other"]) : DefV P w K mg base CX0 C "divisor" ["one", "other"] 1 g_divisor := by
  have nd := sc_divisor.nd
  refine' def_v0 (k := 0) (N := ["one", "other"]) h sc_divisor ?hb
  intro f cdv A outer s H E hr
  refine' ⟨_, ?hc⟩
  case hc =>
    intro B EX
    refine' jss_cons ?k364_0 ?k364_1
    case k364_0 =>
      refine' js_while 1000000 PassesOwn.never ?k365_0 ?k365_1
      case k365_0 =>
        refine' jb_ne (K := K) hr.units ?k366_0 ?k366_1
        case k366_0 =>
          exact jr_var 1
        case k366_1 =>
          refine' jr_of ?k367_0
          case k367_0 =>
            exact je_int
      case k365_1 =>
        refine' jss_one ?k368_0
        case k368_0 =>
          refine' js_par2 0 1 nd ?k369_0
          case k369_0 =>
            refine' jam_cons ?k370_0 ?k370_1
            case k370_0 =>
              exact je_var 1
            case k370_1 =>
              refine' jam_cons ?k371_0 ?k371_1
              case k371_0 =>
                refine' je_mod ?k372_0 ?k372_1
                case k372_0 =>
                  exact jr_var 0
                case k372_1 =>
                  exact jr_var 1
              case k371_1 =>
                exact jam_nil
    case k364_1 =>
      refine' jss_one ?k373_0
      case k373_0 =>
        refine' js_ret ?k374_0
        case k374_0 =>
          exact je_var 0


/-! ### lowest -/
def b_lowest : S := sSeq (sAsg (mCall0 g_divisor (mCons (mCB absF (mCons (mVarT 0) (mNil))) (mCons (mVar 1) (mNil)))) (hName 2))
 (sRet (mTup (mCons (mOp fdivF (mVarT 0) (mVarT 2)) (mCons (mOp fdivF (mVarT 1) (mVarT 2)) (mNil)))))
def g_lowest : List D → RR := callD 2 3 b_lowest
theorem sc_lowest : FnScope ["top", "bottom", "common"] ["top", "bottom"] (defScope s_lowest) := ⟨rfl, rfl, rfl, by decide +kernel, rfl, by decide +kernel, by decide +kernel⟩
theorem ok_lowest {P : Program} {w : World} {K : PySem.W.Frag} {mg : Str → Option Value} {base : Heap} {C : Str → Addr} (nm : Nm K mg C) (h : HasF K mg "lowest" s_lowest ["top", "bottom"]) (D_divisor : DefV P w K mg base CX0 C "divisor" ["one", "other"] 1 g_divisor) : DefV P w K mg base CX0 C "lowest" ["top", "bottom"] 2 g_lowest := by
  have nd := sc_lowest.nd
  refine' def_v0 (k := 1) (N := ["top", "bottom", "common"]) h sc_lowest ?hb
  intro f cdv A outer s H E hr
  refine' ⟨_, ?hc⟩
  case hc =>
    intro B EX
    refine' jss_cons ?k375_0 ?k375_1
    case k375_0 =>
      refine' js_set 2 nd ?k376_0
      case k376_0 =>
        refine' je_call0 D_divisor hr ?k377_0
        case k377_0 =>
          refine' ja_cons ?k378_0 ?k378_1
          case k378_0 =>
            refine' je_cb call_abs ok_abs PyProof.Rows.boot_abs nm.abs ?k379_0
            case k379_0 =>
              refine' jar_cons ?k380_0 ?k380_1
              case k380_0 =>
                exact jr_var 0
              case k380_1 =>
                exact jar_nil
          case k378_1 =>
            refine' ja_cons ?k381_0 ?k381_1
            case k381_0 =>
              exact je_var 1
            case k381_1 =>
              exact ja_nil
    case k375_1 =>
      refine' jss_one ?k382_0
      case k382_0 =>
        refine' js_ret ?k383_0
        case k383_0 =>
          refine' je_tup ?k384_0
          case k384_0 =>
            refine' ja_cons ?k385_0 ?k385_1
            case k385_0 =>
              refine' je_fdiv ?k386_0 ?k386_1
              case k386_0 =>
                exact jr_var 0
              case k386_1 =>
                exact jr_var 2
            case k385_1 =>
              refine' ja_cons ?k387_0 ?k387_1
              case k387_0 =>
                refine' je_fdiv ?k388_0 ?k388_1
                case k388_0 =>
                  exact jr_var 1
                case k388_1 =>
                  exact jr_var 2
              case k387_1 =>
                exact ja_nil


/-! ### rings_from -/
def b_rings_from : S := sSeq (sPar [true, true] [2, 3] (mCons (mLst (mNil)) (mCons (mLst (mCons (mTup (mCons (mVar 1) (mCons (mLst (mNil)) (mNil)))) (mNil))) (mNil))))
 (sSeq (whileGo (mTst (mOp neF (mVarT 3) (mT (mLst (mNil))))) (sSeq (sAsg (mPop 3) (hTup 2 (hCons (hName 4) (hCons (hName 5) (hNil)))))
 (sSeq (sAsg (mLc (mSeqI (mVar 5)) (hTup 2 (hCons (hName 10) (hCons (hName 7) (hNil)))) (mYes) (mVar 10) [10, 7]) (hName 6))
 (sFor (mEnum (mCons (mOp ixF (mVarT 0) (mVarT 4)) (mNil))) (hTup 2 (hCons (hName 7) (hCons (hName 8) (hNil)))) (sSeq (sAsg (mCall0 g_event_of (mCons (mOp ixF (mVarT 8) (mT (ret (.int 0)))) (mNil))) (hName 9))
 (sIf (mTst (mOp eqF (mVarT 9) (mVarT 1))) (sAppend 2 (mOp addF (mVarT 5) (mT (mLst (mCons (mTup (mCons (mVar 4) (mCons (mVar 7) (mNil)))) (mNil)))))) (sIf (mAnd (mTst (mOp (isF true) (mVarT 9) (mT (ret .none)))) (mAnd (mTst (mOp gtF (mVarT 9) (mVarT 1))) (mAnd (mTst (mOp (inAF true) (mVarT 9) (mVarT 6))) (mTst (mOp neF (mVarT 9) (mVarT 4)))))) (sAppend 3 (mTup (mCons (mVar 9) (mCons (mOp addF (mVarT 5) (mT (mLst (mCons (mTup (mCons (mVar 4) (mCons (mVar 7) (mNil)))) (mNil))))) (mNil))))) (sNext))))))) 1000000)
 (sRet (mVar 2)))
def g_rings_from : List D → RR := callD 2 11 b_rings_from
theorem sc_rings_from : FnScope ["rows", "first", "found", "waiting", "event", "way", "passed", "place", "arc", "source", "one"] ["rows", "first"] (defScope s_rings_from) := ⟨rfl, rfl, rfl, by decide +kernel, rfl, by decide +kernel, by decide +kernel⟩
theorem ok_rings_from {P : Program} {w : World} {K : PySem.W.Frag} {mg : Str → Option Value} {base : Heap} {C : Str → Addr} (nm : Nm K mg C) (h : HasF K mg "rings_from" s_rings_from ["rows", "first"]) (D_event_of : DefV P w K mg base CX0 C "event_of" ["source"] 1 g_event_of) : DefV P w K mg base CX0 C "rings_from" ["rows", "first"] 2 g_rings_from := by
  have nd := sc_rings_from.nd
  refine' def_v0 (k := 1) (N := ["rows", "first", "found", "waiting", "event", "way", "passed", "place", "arc", "source", "one"]) h sc_rings_from ?hb
  intro f cdv A outer s H E hr
  refine' ⟨_, ?hc⟩
  case hc =>
    intro B EX
    refine' jss_cons ?k389_0 ?k389_1
    case k389_0 =>
      refine' js_par2 2 3 nd ?k390_0
      case k390_0 =>
        refine' jam_own ?k391_0 ?k391_1
        case k391_0 =>
          refine' jf_lst ?k392_0
          case k392_0 =>
            exact ja_nil
        case k391_1 =>
          refine' jam_own ?k393_0 ?k393_1
          case k393_0 =>
            refine' jf_lst ?k394_0
            case k394_0 =>
              refine' ja_cons ?k395_0 ?k395_1
              case k395_0 =>
                refine' je_tup ?k396_0
                case k396_0 =>
                  refine' ja_cons ?k397_0 ?k397_1
                  case k397_0 =>
                    exact je_var 1
                  case k397_1 =>
                    refine' ja_cons ?k398_0 ?k398_1
                    case k398_0 =>
                      refine' je_of ?k399_0
                      case k399_0 =>
                        refine' jf_lst ?k400_0
                        case k400_0 =>
                          exact ja_nil
                    case k398_1 =>
                      exact ja_nil
              case k395_1 =>
                exact ja_nil
          case k393_1 =>
            exact jam_nil
    case k389_1 =>
      refine' jss_cons ?k401_0 ?k401_1
      case k401_0 =>
        refine' js_while 1000000 PassesOwn.never ?k402_0 ?k402_1
        case k402_0 =>
          refine' jb_ne (K := K) hr.units ?k403_0 ?k403_1
          case k403_0 =>
            exact jr_var 3
          case k403_1 =>
            refine' jr_of ?k404_0
            case k404_0 =>
              refine' je_of ?k405_0
              case k405_0 =>
                refine' jf_lst ?k406_0
                case k406_0 =>
                  exact ja_nil
        case k402_1 =>
          refine' jss_cons ?k407_0 ?k407_1
          case k407_0 =>
            refine' js_asg ?k408_0 ?k408_1
            case k408_0 =>
              exact je_pop (K := K) 3
            case k408_1 =>
              refine' jg_tup (K := K) ?k409_0
              case k409_0 =>
                refine' jgs_cons ?k410_0 ?k410_1
                case k410_0 =>
                  exact jg_name 4 nd
                case k410_1 =>
                  refine' jgs_cons ?k411_0 ?k411_1
                  case k411_0 =>
                    exact jg_name 5 nd
                  case k411_1 =>
                    exact jgs_nil
          case k407_1 =>
            refine' jss_cons ?k412_0 ?k412_1
            case k412_0 =>
              refine' js_setLc 6 (own := [("one", 10), ("place", 7)]) (L := ([10] ++ ([7] ++ []))) nd (blkOk_by (by kernel_rfl)) ?k413_0 ?k413_1 ?k413_2 ?k413_3 (sw_true rfl rfl rfl (by kernel_rfl))
              case k413_0 =>
                refine' ji_seq (K := K) ?k414_0
                case k414_0 =>
                  exact je_var 5
              case k413_1 =>
                intro _ _ _ _ _
                refine' jg_tup (K := K) ?k415_0
                case k415_0 =>
                  refine' jgs_cons ?k416_0 ?k416_1
                  case k416_0 =>
                    exact jg_name 10 nd
                  case k416_1 =>
                    refine' jgs_cons ?k417_0 ?k417_1
                    case k417_0 =>
                      exact jg_name 7 nd
                    case k417_1 =>
                      exact jgs_nil
              case k413_2 =>
                intro _ _ _ _ _
                exact jbs_nil
              case k413_3 =>
                intro _ _ _ _ _
                exact je_var 10
            case k412_1 =>
              refine' jss_one ?k418_0
              case k418_0 =>
                refine' js_for PassesOwn.never ?k419_0 ?k419_1 ?k419_2
                case k419_0 =>
                  refine' ji_enum (K := K) nm.enumerate ?k420_0
                  case k420_0 =>
                    refine' ja_cons ?k421_0 ?k421_1
                    case k421_0 =>
                      refine' je_ix (K := K) ?k422_0 ?k422_1
                      case k422_0 =>
                        exact jr_var 0
                      case k422_1 =>
                        exact jr_var 4
                    case k421_1 =>
                      exact ja_nil
                case k419_1 =>
                  refine' jg_tup (K := K) ?k423_0
                  case k423_0 =>
                    refine' jgs_cons ?k424_0 ?k424_1
                    case k424_0 =>
                      exact jg_name 7 nd
                    case k424_1 =>
                      refine' jgs_cons ?k425_0 ?k425_1
                      case k425_0 =>
                        exact jg_name 8 nd
                      case k425_1 =>
                        exact jgs_nil
                case k419_2 =>
                  refine' jss_cons ?k426_0 ?k426_1
                  case k426_0 =>
                    refine' js_set 9 nd ?k427_0
                    case k427_0 =>
                      refine' je_call0 D_event_of hr ?k428_0
                      case k428_0 =>
                        refine' ja_cons ?k429_0 ?k429_1
                        case k429_0 =>
                          refine' je_ix (K := K) ?k430_0 ?k430_1
                          case k430_0 =>
                            exact jr_var 8
                          case k430_1 =>
                            refine' jr_of ?k431_0
                            case k431_0 =>
                              exact je_int
                        case k429_1 =>
                          exact ja_nil
                  case k426_1 =>
                    refine' jss_one ?k432_0
                    case k432_0 =>
                      refine' js_if ?k433_0 ?k433_1 ?k433_2
                      case k433_0 =>
                        refine' jb_eq (K := K) hr.units ?k434_0 ?k434_1
                        case k434_0 =>
                          exact jr_var 9
                        case k434_1 =>
                          exact jr_var 1
                      case k433_1 =>
                        refine' jss_one ?k435_0
                        case k435_0 =>
                          refine' js_append (K := K) 2 ?k436_0
                          case k436_0 =>
                            refine' je_add (K := K) ?k437_0 ?k437_1
                            case k437_0 =>
                              exact jr_var 5
                            case k437_1 =>
                              refine' jr_of ?k438_0
                              case k438_0 =>
                                refine' je_of ?k439_0
                                case k439_0 =>
                                  refine' jf_lst ?k440_0
                                  case k440_0 =>
                                    refine' ja_cons ?k441_0 ?k441_1
                                    case k441_0 =>
                                      refine' je_tup ?k442_0
                                      case k442_0 =>
                                        refine' ja_cons ?k443_0 ?k443_1
                                        case k443_0 =>
                                          exact je_var 4
                                        case k443_1 =>
                                          refine' ja_cons ?k444_0 ?k444_1
                                          case k444_0 =>
                                            exact je_var 7
                                          case k444_1 =>
                                            exact ja_nil
                                    case k441_1 =>
                                      exact ja_nil
                      case k433_2 =>
                        refine' jss_one ?k445_0
                        case k445_0 =>
                          refine' js_if ?k446_0 ?k446_1 ?k446_2
                          case k446_0 =>
                            refine' jb_w ?k447_0
                            case k447_0 =>
                              refine' jw_and ?k448_0 ?k448_1
                              case k448_0 =>
                                refine' jb_isnot ?k449_0 ?k449_1
                                case k449_0 =>
                                  exact jr_var 9
                                case k449_1 =>
                                  refine' jr_of ?k450_0
                                  case k450_0 =>
                                    exact je_non
                              case k448_1 =>
                                refine' jw_and ?k451_0 ?k451_1
                                case k451_0 =>
                                  refine' jb_gt ?k452_0 ?k452_1
                                  case k452_0 =>
                                    exact jr_var 9
                                  case k452_1 =>
                                    exact jr_var 1
                                case k451_1 =>
                                  refine' jw_and ?k453_0 ?k453_1
                                  case k453_0 =>
                                    refine' jb_notin (K := K) hr.units ?k454_0 ?k454_1
                                    case k454_0 =>
                                      exact jr_var 9
                                    case k454_1 =>
                                      exact jr_var 6
                                  case k453_1 =>
                                    refine' jw_and1 ?k455_0
                                    case k455_0 =>
                                      refine' jb_ne (K := K) hr.units ?k456_0 ?k456_1
                                      case k456_0 =>
                                        exact jr_var 9
                                      case k456_1 =>
                                        exact jr_var 4
                          case k446_1 =>
                            refine' jss_one ?k457_0
                            case k457_0 =>
                              refine' js_append (K := K) 3 ?k458_0
                              case k458_0 =>
                                refine' je_tup ?k459_0
                                case k459_0 =>
                                  refine' ja_cons ?k460_0 ?k460_1
                                  case k460_0 =>
                                    exact je_var 9
                                  case k460_1 =>
                                    refine' ja_cons ?k461_0 ?k461_1
                                    case k461_0 =>
                                      refine' je_add (K := K) ?k462_0 ?k462_1
                                      case k462_0 =>
                                        exact jr_var 5
                                      case k462_1 =>
                                        refine' jr_of ?k463_0
                                        case k463_0 =>
                                          refine' je_of ?k464_0
                                          case k464_0 =>
                                            refine' jf_lst ?k465_0
                                            case k465_0 =>
                                              refine' ja_cons ?k466_0 ?k466_1
                                              case k466_0 =>
                                                refine' je_tup ?k467_0
                                                case k467_0 =>
                                                  refine' ja_cons ?k468_0 ?k468_1
                                                  case k468_0 =>
                                                    exact je_var 4
                                                  case k468_1 =>
                                                    refine' ja_cons ?k469_0 ?k469_1
                                                    case k469_0 =>
                                                      exact je_var 7
                                                    case k469_1 =>
                                                      exact ja_nil
                                              case k466_1 =>
                                                exact ja_nil
                                    case k461_1 =>
                                      exact ja_nil
                          case k446_2 =>
                            exact jss_nil
      case k401_1 =>
        refine' jss_one ?k470_0
        case k470_0 =>
          refine' js_ret ?k471_0
          case k471_0 =>
            exact je_var 2


/-! ### rings_of -/
def b_rings_of : S := sSeq (sAsg (mLst (mNil)) (hName 1))
 (sSeq (sFor (mRng1 (mCons (mCB lenF (mCons (mVarT 0) (mNil))) (mNil))) (hName 2) (sAsg (mOp addF (mVarT 1) (mT (mLc (mSeqI (mCall0 g_rings_from (mCons (mVar 0) (mCons (mVar 2) (mNil))))) (hName 3) (mYes) (mCB tupleF (mCons (mVarT 3) (mNil))) [3]))) (hName 1)))
 (sRet (mCB sortF (mCons (mVarT 1) (mNil)))))
def g_rings_of : List D → RR := callD 1 4 b_rings_of
theorem sc_rings_of : FnScope ["rows", "found", "first", "ring"] ["rows"] (defScope s_rings_of) := ⟨rfl, rfl, rfl, by decide +kernel, rfl, by decide +kernel, by decide +kernel⟩
theorem ok_rings_of {P : Program} {w : World} {K : PySem.W.Frag} {mg : Str → Option Value} {base : Heap} {C : Str → Addr} (nm : Nm K mg C) (h : HasF K mg "rings_of" s_rings_of ["rows"]) (D_rings_from : DefV P w K mg base CX0 C "rings_from" ["rows", "first"] 2 g_rings_from) : DefV P w K mg base CX0 C "rings_of" ["rows"] 3 g_rings_of := by
  have nd := sc_rings_of.nd
  refine' def_v0 (k := 2) (N := ["rows", "found", "first", "ring"]) h sc_rings_of ?hb
  intro f cdv A outer s H E hr
  refine' ⟨_, ?hc⟩
  case hc =>
    intro B EX
    refine' jss_cons ?k472_0 ?k472_1
    case k472_0 =>
      refine' js_set 1 nd ?k473_0
      case k473_0 =>
        refine' je_of ?k474_0
        case k474_0 =>
          refine' jf_lst ?k475_0
          case k475_0 =>
            exact ja_nil
    case k472_1 =>
      refine' jss_cons ?k476_0 ?k476_1
      case k476_0 =>
        refine' js_for PassesOwn.never ?k477_0 ?k477_1 ?k477_2
        case k477_0 =>
          refine' ji_rng1 nm.range ?k478_0
          case k478_0 =>
            refine' ja_cons ?k479_0 ?k479_1
            case k479_0 =>
              refine' je_cb (cK_len (K := K) rfl) okK_len PySem.boot_len nm.len ?k480_0
              case k480_0 =>
                refine' jar_cons ?k481_0 ?k481_1
                case k481_0 =>
                  exact jr_var 0
                case k481_1 =>
                  exact jar_nil
            case k479_1 =>
              exact ja_nil
        case k477_1 =>
          exact jg_name 2 nd
        case k477_2 =>
          refine' jss_one ?k482_0
          case k482_0 =>
            refine' js_set 1 nd ?k483_0
            case k483_0 =>
              refine' je_add (K := K) ?k484_0 ?k484_1
              case k484_0 =>
                exact jr_var 1
              case k484_1 =>
                refine' jr_of ?k485_0
                case k485_0 =>
                  refine' je_of ?k486_0
                  case k486_0 =>
                    refine' jf_lc (own := [("ring", 3)]) (L := [3]) nd (blkOk_by (by kernel_rfl)) ?k487_0 ?k487_1 ?k487_2 ?k487_3
                    case k487_0 =>
                      refine' ji_seq (K := K) ?k488_0
                      case k488_0 =>
                        refine' je_call0 D_rings_from hr ?k489_0
                        case k489_0 =>
                          refine' ja_cons ?k490_0 ?k490_1
                          case k490_0 =>
                            exact je_var 0
                          case k490_1 =>
                            refine' ja_cons ?k491_0 ?k491_1
                            case k491_0 =>
                              exact je_var 2
                            case k491_1 =>
                              exact ja_nil
                    case k487_1 =>
                      intro _ _ _ _ _
                      exact jg_name 3 nd
                    case k487_2 =>
                      intro _ _ _ _ _
                      exact jbs_nil
                    case k487_3 =>
                      intro _ _ _ _ _
                      refine' je_ct (cK_tuple (K := K) rfl) okK_tuple PyProof.Rows.boot_tuple nm.tuple ?k492_0
                      case k492_0 =>
                        refine' jar_cons ?k493_0 ?k493_1
                        case k493_0 =>
                          exact jr_var 3
                        case k493_1 =>
                          exact jar_nil
      case k476_1 =>
        refine' jss_one ?k494_0
        case k494_0 =>
          refine' js_ret ?k495_0
          case k495_0 =>
            refine' je_of ?k496_0
            case k496_0 =>
              refine' jf_cb (cK_sort (K := K) rfl hr.units) okF_sort PyProof.Rows.boot_sorted nm.sorted ?k497_0
              case k497_0 =>
                refine' jar_cons ?k498_0 ?k498_1
                case k498_0 =>
                  exact jr_var 1
                case k498_1 =>
                  exact jar_nil


/-! ### measure -/
def b_measure : S := sSeq (sAsg (mLc (mSeqI (mVar 1)) (hTup 2 (hCons (hName 3) (hCons (hName 4) (hNil)))) (mYes) (mOp ixF (mT (mOp ixF (mVarT 0) (mVarT 3))) (mVarT 4)) [3, 4]) (hName 2))
 (sRet (mTup (mCons (mCB sumF (mCons (mT (mLc (mSeqI (mVar 2)) (hName 5) (mYes) (mOp ixF (mVarT 5) (mT (ret (.int 1)))) [5])) (mNil))) (mCons (mCB sumF (mCons (mT (mLc (mSeqI (mVar 2)) (hName 5) (mYes) (mOp ixF (mVarT 5) (mT (ret (.int 2)))) [5])) (mNil))) (mNil)))))
def g_measure : List D → RR := callD 2 6 b_measure
theorem sc_measure : FnScope ["rows", "ring", "arcs", "event", "place", "arc"] ["rows", "ring"] (defScope s_measure) := ⟨rfl, rfl, rfl, by decide +kernel, rfl, by decide +kernel, by decide +kernel⟩
theorem ok_measure {P : Program} {w : World} {K : PySem.W.Frag} {mg : Str → Option Value} {base : Heap} {C : Str → Addr} (nm : Nm K mg C) (h : HasF K mg "measure" s_measure ["rows", "ring"]) : DefV P w K mg base CX0 C "measure" ["rows", "ring"] 1 g_measure := by
  have nd := sc_measure.nd
  refine' def_v0 (k := 0) (N := ["rows", "ring", "arcs", "event", "place", "arc"]) h sc_measure ?hb
  intro f cdv A outer s H E hr
  refine' ⟨_, ?hc⟩
  case hc =>
    intro B EX
    refine' jss_cons ?k499_0 ?k499_1
    case k499_0 =>
      refine' js_setLc 2 (own := [("event", 3), ("place", 4)]) (L := ([3] ++ ([4] ++ []))) nd (blkOk_by (by kernel_rfl)) ?k500_0 ?k500_1 ?k500_2 ?k500_3 (sw_true rfl rfl rfl (by kernel_rfl))
      case k500_0 =>
        refine' ji_seq (K := K) ?k501_0
        case k501_0 =>
          exact je_var 1
      case k500_1 =>
        intro _ _ _ _ _
        refine' jg_tup (K := K) ?k502_0
        case k502_0 =>
          refine' jgs_cons ?k503_0 ?k503_1
          case k503_0 =>
            exact jg_name 3 nd
          case k503_1 =>
            refine' jgs_cons ?k504_0 ?k504_1
            case k504_0 =>
              exact jg_name 4 nd
            case k504_1 =>
              exact jgs_nil
      case k500_2 =>
        intro _ _ _ _ _
        exact jbs_nil
      case k500_3 =>
        intro _ _ _ _ _
        refine' je_ix (K := K) ?k505_0 ?k505_1
        case k505_0 =>
          refine' jr_of ?k506_0
          case k506_0 =>
            refine' je_ix (K := K) ?k507_0 ?k507_1
            case k507_0 =>
              exact jr_var 0
            case k507_1 =>
              exact jr_var 3
        case k505_1 =>
          exact jr_var 4
    case k499_1 =>
      refine' jss_one ?k508_0
      case k508_0 =>
        refine' js_ret ?k509_0
        case k509_0 =>
          refine' je_tup ?k510_0
          case k510_0 =>
            refine' ja_cons ?k511_0 ?k511_1
            case k511_0 =>
              refine' je_cb (cK_sum (K := K) rfl rfl) ok_sum PyProof.Rows.boot_sum nm.sum ?k512_0
              case k512_0 =>
                refine' jar_cons ?k513_0 ?k513_1
                case k513_0 =>
                  refine' jr_of ?k514_0
                  case k514_0 =>
                    refine' je_of ?k515_0
                    case k515_0 =>
                      refine' jf_lc (own := [("arc", 5)]) (L := [5]) nd (blkOk_by (by kernel_rfl)) ?k516_0 ?k516_1 ?k516_2 ?k516_3
                      case k516_0 =>
                        refine' ji_seq (K := K) ?k517_0
                        case k517_0 =>
                          exact je_var 2
                      case k516_1 =>
                        intro _ _ _ _ _
                        exact jg_name 5 nd
                      case k516_2 =>
                        intro _ _ _ _ _
                        exact jbs_nil
                      case k516_3 =>
                        intro _ _ _ _ _
                        refine' je_ix (K := K) ?k518_0 ?k518_1
                        case k518_0 =>
                          exact jr_var 5
                        case k518_1 =>
                          refine' jr_of ?k519_0
                          case k519_0 =>
                            exact je_int
                case k513_1 =>
                  exact jar_nil
            case k511_1 =>
              refine' ja_cons ?k520_0 ?k520_1
              case k520_0 =>
                refine' je_cb (cK_sum (K := K) rfl rfl) ok_sum PyProof.Rows.boot_sum nm.sum ?k521_0
                case k521_0 =>
                  refine' jar_cons ?k522_0 ?k522_1
                  case k522_0 =>
                    refine' jr_of ?k523_0
                    case k523_0 =>
                      refine' je_of ?k524_0
                      case k524_0 =>
                        refine' jf_lc (own := [("arc", 5)]) (L := [5]) nd (blkOk_by (by kernel_rfl)) ?k525_0 ?k525_1 ?k525_2 ?k525_3
                        case k525_0 =>
                          refine' ji_seq (K := K) ?k526_0
                          case k526_0 =>
                            exact je_var 2
                        case k525_1 =>
                          intro _ _ _ _ _
                          exact jg_name 5 nd
                        case k525_2 =>
                          intro _ _ _ _ _
                          exact jbs_nil
                        case k525_3 =>
                          intro _ _ _ _ _
                          refine' je_ix (K := K) ?k527_0 ?k527_1
                          case k527_0 =>
                            exact jr_var 5
                          case k527_1 =>
                            refine' jr_of ?k528_0
                            case k528_0 =>
                              exact je_int
                  case k522_1 =>
                    exact jar_nil
              case k520_1 =>
                exact ja_nil


/-! ### ratio -/
def b_ratio : S := sSeq (sAsg (mCall0 g_measure (mCons (mVar 0) (mCons (mVar 1) (mNil)))) (hTup 2 (hCons (hName 2) (hCons (hName 3) (hNil)))))
 (sRet (mCall0 g_lowest (mCons (mVar 2) (mCons (mVar 3) (mNil)))))
def g_ratio : List D → RR := callD 2 4 b_ratio
theorem sc_ratio : FnScope ["rows", "ring", "delay", "back"] ["rows", "ring"] (defScope s_ratio) := ⟨rfl, rfl, rfl, by decide +kernel, rfl, by decide +kernel, by decide +kernel⟩
theorem ok_ratio {P : Program} {w : World} {K : PySem.W.Frag} {mg : Str → Option Value} {base : Heap} {C : Str → Addr} (nm : Nm K mg C) (h : HasF K mg "ratio" s_ratio ["rows", "ring"]) (D_measure : DefV P w K mg base CX0 C "measure" ["rows", "ring"] 1 g_measure) (D_lowest : DefV P w K mg base CX0 C "lowest" ["top", "bottom"] 2 g_lowest) : DefV P w K mg base CX0 C "ratio" ["rows", "ring"] 3 g_ratio := by
  have nd := sc_ratio.nd
  refine' def_v0 (k := 2) (N := ["rows", "ring", "delay", "back"]) h sc_ratio ?hb
  intro f cdv A outer s H E hr
  refine' ⟨_, ?hc⟩
  case hc =>
    intro B EX
    refine' jss_cons ?k529_0 ?k529_1
    case k529_0 =>
      refine' js_asg ?k530_0 ?k530_1
      case k530_0 =>
        refine' je_call0 D_measure hr ?k531_0
        case k531_0 =>
          refine' ja_cons ?k532_0 ?k532_1
          case k532_0 =>
            exact je_var 0
          case k532_1 =>
            refine' ja_cons ?k533_0 ?k533_1
            case k533_0 =>
              exact je_var 1
            case k533_1 =>
              exact ja_nil
      case k530_1 =>
        refine' jg_tup (K := K) ?k534_0
        case k534_0 =>
          refine' jgs_cons ?k535_0 ?k535_1
          case k535_0 =>
            exact jg_name 2 nd
          case k535_1 =>
            refine' jgs_cons ?k536_0 ?k536_1
            case k536_0 =>
              exact jg_name 3 nd
            case k536_1 =>
              exact jgs_nil
    case k529_1 =>
      refine' jss_one ?k537_0
      case k537_0 =>
        refine' js_ret ?k538_0
        case k538_0 =>
          refine' je_call0 D_lowest hr ?k539_0
          case k539_0 =>
            refine' ja_cons ?k540_0 ?k540_1
            case k540_0 =>
              exact je_var 2
            case k540_1 =>
              refine' ja_cons ?k541_0 ?k541_1
              case k541_0 =>
                exact je_var 3
              case k541_1 =>
                exact ja_nil


/-! ### is_less -/
def b_is_less : S := sRet (mOp ltF (mT (mOp mulF (mT (mOp ixF (mVarT 0) (mT (ret (.int 0))))) (mT (mOp ixF (mVarT 1) (mT (ret (.int 1))))))) (mT (mOp mulF (mT (mOp ixF (mVarT 1) (mT (ret (.int 0))))) (mT (mOp ixF (mVarT 0) (mT (ret (.int 1))))))))
def g_is_less : List D → RR := callD 2 2 b_is_less
theorem sc_is_less : FnScope ["one", "other"] ["one", "other"] (defScope s_is_less) := ⟨rfl, rfl, rfl, by decide +kernel, rfl, by decide +kernel, by decide +kernel⟩
theorem ok_is_less {P : Program} {w : World} {K : PySem.W.Frag} {mg : Str → Option Value} {base : Heap} {C : Str → Addr} (nm : Nm K mg C) (h : HasF K mg "is_less" s_is_less ["one", "other"]) : DefV P w K mg base CX0 C "is_less" ["one", "other"] 1 g_is_less := by
  have nd := sc_is_less.nd
  refine' def_v0 (k := 0) (N := ["one", "other"]) h sc_is_less ?hb
  intro f cdv A outer s H E hr
  refine' ⟨_, ?hc⟩
  case hc =>
    intro B EX
    refine' jss_one ?k542_0
    case k542_0 =>
      refine' js_ret ?k543_0
      case k543_0 =>
        refine' je_lt ?k544_0 ?k544_1
        case k544_0 =>
          refine' jr_of ?k545_0
          case k545_0 =>
            refine' je_mul ?k546_0 ?k546_1
            case k546_0 =>
              refine' jr_of ?k547_0
              case k547_0 =>
                refine' je_ix (K := K) ?k548_0 ?k548_1
                case k548_0 =>
                  exact jr_var 0
                case k548_1 =>
                  refine' jr_of ?k549_0
                  case k549_0 =>
                    exact je_int
            case k546_1 =>
              refine' jr_of ?k550_0
              case k550_0 =>
                refine' je_ix (K := K) ?k551_0 ?k551_1
                case k551_0 =>
                  exact jr_var 1
                case k551_1 =>
                  refine' jr_of ?k552_0
                  case k552_0 =>
                    exact je_int
        case k544_1 =>
          refine' jr_of ?k553_0
          case k553_0 =>
            refine' je_mul ?k554_0 ?k554_1
            case k554_0 =>
              refine' jr_of ?k555_0
              case k555_0 =>
                refine' je_ix (K := K) ?k556_0 ?k556_1
                case k556_0 =>
                  exact jr_var 1
                case k556_1 =>
                  refine' jr_of ?k557_0
                  case k557_0 =>
                    exact je_int
            case k554_1 =>
              refine' jr_of ?k558_0
              case k558_0 =>
                refine' je_ix (K := K) ?k559_0 ?k559_1
                case k559_0 =>
                  exact jr_var 0
                case k559_1 =>
                  refine' jr_of ?k560_0
                  case k560_0 =>
                    exact je_int


/-! ### greatest -/
def b_greatest : S := sSeq (sAsg (ret .none) (hName 1))
 (sSeq (sFor (mSeqI (mVar 0)) (hName 2) (sAsg (mIf (mOr (mTst (mOp (isF false) (mVarT 1) (mT (ret .none)))) (mTst (mCall0 g_is_less (mCons (mVar 1) (mCons (mVar 2) (mNil)))))) (mVar 2) (mVar 1)) (hName 1)))
 (sRet (mVar 1)))
def g_greatest : List D → RR := callD 1 3 b_greatest
theorem sc_greatest : FnScope ["fractions", "found", "one"] ["fractions"] (defScope s_greatest) := ⟨rfl, rfl, rfl, by decide +kernel, rfl, by decide +kernel, by decide +kernel⟩
theorem ok_greatest {P : Program} {w : World} {K : PySem.W.Frag} {mg : Str → Option Value} {base : Heap} {C : Str → Addr} (nm : Nm K mg C) (h : HasF K mg "greatest" s_greatest ["fractions"]) (D_is_less : DefV P w K mg base CX0 C "is_less" ["one", "other"] 1 g_is_less) : DefV P w K mg base CX0 C "greatest" ["fractions"] 2 g_greatest := by
  have nd := sc_greatest.nd
  refine' def_v0 (k := 1) (N := ["fractions", "found", "one"]) h sc_greatest ?hb
  intro f cdv A outer s H E hr
  refine' ⟨_, ?hc⟩
  case hc =>
    intro B EX
    refine' jss_cons ?k561_0 ?k561_1
    case k561_0 =>
      refine' js_set 1 nd ?k562_0
      case k562_0 =>
        exact je_non
    case k561_1 =>
      refine' jss_cons ?k563_0 ?k563_1
      case k563_0 =>
        refine' js_for PassesOwn.never ?k564_0 ?k564_1 ?k564_2
        case k564_0 =>
          refine' ji_seq (K := K) ?k565_0
          case k565_0 =>
            exact je_var 0
        case k564_1 =>
          exact jg_name 2 nd
        case k564_2 =>
          refine' jss_one ?k566_0
          case k566_0 =>
            refine' js_set 1 nd ?k567_0
            case k567_0 =>
              refine' je_if ?k568_0 ?k568_1 ?k568_2
              case k568_0 =>
                refine' jb_w ?k569_0
                case k569_0 =>
                  refine' jw_or ?k570_0 ?k570_1
                  case k570_0 =>
                    refine' jb_is ?k571_0 ?k571_1
                    case k571_0 =>
                      exact jr_var 1
                    case k571_1 =>
                      refine' jr_of ?k572_0
                      case k572_0 =>
                        exact je_non
                  case k570_1 =>
                    refine' jw_or1 ?k573_0
                    case k573_0 =>
                      refine' jb_val ?k574_0
                      case k574_0 =>
                        refine' je_call0 D_is_less hr ?k575_0
                        case k575_0 =>
                          refine' ja_cons ?k576_0 ?k576_1
                          case k576_0 =>
                            exact je_var 1
                          case k576_1 =>
                            refine' ja_cons ?k577_0 ?k577_1
                            case k577_0 =>
                              exact je_var 2
                            case k577_1 =>
                              exact ja_nil
              case k568_1 =>
                exact je_var 2
              case k568_2 =>
                exact je_var 1
      case k563_1 =>
        refine' jss_one ?k578_0
        case k578_0 =>
          refine' js_ret ?k579_0
          case k579_0 =>
            exact je_var 1


/-! ### slowest_of -/
def b_slowest_of : S := sRet (mCall0 g_greatest (mCons (mLc (mSeqI (mCall0 g_rings_of (mCons (mVar 0) (mNil)))) (hName 1) (mYes) (mCall0 g_ratio (mCons (mVar 0) (mCons (mVar 1) (mNil)))) [1]) (mNil)))
def g_slowest_of : List D → RR := callD 1 2 b_slowest_of
theorem sc_slowest_of : FnScope ["rows", "ring"] ["rows"] (defScope s_slowest_of) := ⟨rfl, rfl, rfl, by decide +kernel, rfl, by decide +kernel, by decide +kernel⟩
theorem ok_slowest_of {P : Program} {w : World} {K : PySem.W.Frag} {mg : Str → Option Value} {base : Heap} {C : Str → Addr} (nm : Nm K mg C) (h : HasF K mg "slowest_of" s_slowest_of ["rows"]) (D_greatest : DefV P w K mg base CX0 C "greatest" ["fractions"] 2 g_greatest) (D_rings_of : DefV P w K mg base CX0 C "rings_of" ["rows"] 3 g_rings_of) (D_ratio : DefV P w K mg base CX0 C "ratio" ["rows", "ring"] 3 g_ratio) : DefV P w K mg base CX0 C "slowest_of" ["rows"] 4 g_slowest_of := by
  have nd := sc_slowest_of.nd
  refine' def_v0 (k := 3) (N := ["rows", "ring"]) h sc_slowest_of ?hb
  intro f cdv A outer s H E hr
  refine' ⟨_, ?hc⟩
  case hc =>
    intro B EX
    refine' jss_one ?k580_0
    case k580_0 =>
      refine' js_ret ?k581_0
      case k581_0 =>
        refine' je_call0 D_greatest hr ?k582_0
        case k582_0 =>
          refine' ja_cons ?k583_0 ?k583_1
          case k583_0 =>
            refine' je_of ?k584_0
            case k584_0 =>
              refine' jf_lc (own := [("ring", 1)]) (L := [1]) nd (blkOk_by (by kernel_rfl)) ?k585_0 ?k585_1 ?k585_2 ?k585_3
              case k585_0 =>
                refine' ji_seq (K := K) ?k586_0
                case k586_0 =>
                  refine' je_call0 D_rings_of hr ?k587_0
                  case k587_0 =>
                    refine' ja_cons ?k588_0 ?k588_1
                    case k588_0 =>
                      exact je_var 0
                    case k588_1 =>
                      exact ja_nil
              case k585_1 =>
                intro _ _ _ _ _
                exact jg_name 1 nd
              case k585_2 =>
                intro _ _ _ _ _
                exact jbs_nil
              case k585_3 =>
                intro _ _ _ _ _
                refine' je_call0 D_ratio hr ?k589_0
                case k589_0 =>
                  refine' ja_cons ?k590_0 ?k590_1
                  case k590_0 =>
                    exact je_var 0
                  case k590_1 =>
                    refine' ja_cons ?k591_0 ?k591_1
                    case k591_0 =>
                      exact je_var 1
                    case k591_1 =>
                      exact ja_nil
          case k583_1 =>
            exact ja_nil


/-! ### slowest -/
def b_slowest : S := sSeq (sDrop (mCall g_need_net (mCons (mVar 0) (mNil))))
 (sRet (mCall0 g_slowest_of (mCons (mOp ixF (mVarT 0) (mT (ret (.int 1)))) (mNil))))
def g_slowest : List D → RR := callD 1 1 b_slowest
theorem sc_slowest : FnScope ["net"] ["net"] (defScope s_slowest) := ⟨rfl, rfl, rfl, by decide +kernel, rfl, by decide +kernel, by decide +kernel⟩
theorem ok_slowest {P : Program} {w : World} {K : PySem.W.Frag} {mg : Str → Option Value} {base : Heap} {C : Str → Addr} (nm : Nm K mg C) (h : HasF K mg "slowest" s_slowest ["net"]) (D_need_net : DefV P w K mg base (L2.CX P w) C "need_net" ["net"] 6 g_need_net) (D_slowest_of : DefV P w K mg base CX0 C "slowest_of" ["rows"] 4 g_slowest_of) : DefV P w K mg base (L2.CX P w) C "slowest" ["net"] 7 g_slowest := by
  have nd := sc_slowest.nd
  refine' def_vX (k := 6) (N := ["net"]) h sc_slowest ?hb
  intro f cdv A outer s H E hr
  refine' ⟨_, ?hc⟩
  case hc =>
    intro B
    refine' jss_cons ?k592_0 ?k592_1
    case k592_0 =>
      refine' js_expr ?k593_0
      case k593_0 =>
        refine' je_call D_need_net hr ?k594_0
        case k594_0 =>
          refine' ja_cons ?k595_0 ?k595_1
          case k595_0 =>
            exact je_var 0
          case k595_1 =>
            exact ja_nil
    case k592_1 =>
      refine' jss_one ?k596_0
      case k596_0 =>
        refine' js_ret ?k597_0
        case k597_0 =>
          refine' je_call0 D_slowest_of hr ?k598_0
          case k598_0 =>
            refine' ja_cons ?k599_0 ?k599_1
            case k599_0 =>
              refine' je_ix (K := K) ?k600_0 ?k600_1
              case k600_0 =>
                exact jr_var 0
              case k600_1 =>
                refine' jr_of ?k601_0
                case k601_0 =>
                  exact je_int
            case k599_1 =>
              exact ja_nil


/-! ### reach_back -/
def b_reach_back : S := sSeq (sPar [true, true] [2, 3] (mCons (mDisp1 (mVar 1) (ret (.bool true))) (mCons (mLst (mCons (mVar 1) (mNil))) (mNil))))
 (sSeq (whileGo (mTst (mOp neF (mVarT 3) (mT (mLst (mNil))))) (sFor (mSeqI (mOp ixF (mVarT 0) (mT (mPop 3)))) (hTup 3 (hCons (hName 4) (hCons (hName 5) (hCons (hName 6) (hNil))))) (sSeq (sAsg (mCall0 g_event_of (mCons (mVar 4) (mNil))) (hName 7))
 (sIf (mAnd (mTst (mOp (isF true) (mVarT 7) (mT (ret .none)))) (mTst (mOp (inAF true) (mVarT 7) (mVarT 2)))) (sSeq (sPutItem 2 (ret (.bool true)) (mVar 7))
 (sAppend 3 (mVar 7))) (sNext)))) 1000000)
 (sRetF 2))
def g_reach_back : List D → RR := callD 2 8 b_reach_back
theorem sc_reach_back : FnScope ["rows", "event", "found", "waiting", "source", "delay", "back", "one"] ["rows", "event"] (defScope s_reach_back) := ⟨rfl, rfl, rfl, by decide +kernel, rfl, by decide +kernel, by decide +kernel⟩
theorem ok_reach_back {P : Program} {w : World} {K : PySem.W.Frag} {mg : Str → Option Value} {base : Heap} {C : Str → Addr} (nm : Nm K mg C) (h : HasF K mg "reach_back" s_reach_back ["rows", "event"]) (D_event_of : DefV P w K mg base CX0 C "event_of" ["source"] 1 g_event_of) : DefV P w K mg base CX0 C "reach_back" ["rows", "event"] 2 g_reach_back := by
  have nd := sc_reach_back.nd
  refine' def_v0 (k := 1) (N := ["rows", "event", "found", "waiting", "source", "delay", "back", "one"]) h sc_reach_back ?hb
  intro f cdv A outer s H E hr
  refine' ⟨_, ?hc⟩
  case hc =>
    intro B EX
    refine' jss_cons ?k602_0 ?k602_1
    case k602_0 =>
      refine' js_par2 2 3 nd ?k603_0
      case k603_0 =>
        refine' jam_own ?k604_0 ?k604_1
        case k604_0 =>
          refine' jf_disp1 ?k605_0 ?k605_1
          case k605_0 =>
            exact je_var 1
          case k605_1 =>
            exact je_bl
        case k604_1 =>
          refine' jam_own ?k606_0 ?k606_1
          case k606_0 =>
            refine' jf_lst ?k607_0
            case k607_0 =>
              refine' ja_cons ?k608_0 ?k608_1
              case k608_0 =>
                exact je_var 1
              case k608_1 =>
                exact ja_nil
          case k606_1 =>
            exact jam_nil
    case k602_1 =>
      refine' jss_cons ?k609_0 ?k609_1
      case k609_0 =>
        refine' js_while 1000000 PassesOwn.never ?k610_0 ?k610_1
        case k610_0 =>
          refine' jb_ne (K := K) hr.units ?k611_0 ?k611_1
          case k611_0 =>
            exact jr_var 3
          case k611_1 =>
            refine' jr_of ?k612_0
            case k612_0 =>
              refine' je_of ?k613_0
              case k613_0 =>
                refine' jf_lst ?k614_0
                case k614_0 =>
                  exact ja_nil
        case k610_1 =>
          refine' jss_one ?k615_0
          case k615_0 =>
            refine' js_for PassesOwn.never ?k616_0 ?k616_1 ?k616_2
            case k616_0 =>
              refine' ji_seq (K := K) ?k617_0
              case k617_0 =>
                refine' je_ix (K := K) ?k618_0 ?k618_1
                case k618_0 =>
                  exact jr_var 0
                case k618_1 =>
                  refine' jr_of ?k619_0
                  case k619_0 =>
                    exact je_pop (K := K) 3
            case k616_1 =>
              refine' jg_tup (K := K) ?k620_0
              case k620_0 =>
                refine' jgs_cons ?k621_0 ?k621_1
                case k621_0 =>
                  exact jg_name 4 nd
                case k621_1 =>
                  refine' jgs_cons ?k622_0 ?k622_1
                  case k622_0 =>
                    exact jg_name 5 nd
                  case k622_1 =>
                    refine' jgs_cons ?k623_0 ?k623_1
                    case k623_0 =>
                      exact jg_name 6 nd
                    case k623_1 =>
                      exact jgs_nil
            case k616_2 =>
              refine' jss_cons ?k624_0 ?k624_1
              case k624_0 =>
                refine' js_set 7 nd ?k625_0
                case k625_0 =>
                  refine' je_call0 D_event_of hr ?k626_0
                  case k626_0 =>
                    refine' ja_cons ?k627_0 ?k627_1
                    case k627_0 =>
                      exact je_var 4
                    case k627_1 =>
                      exact ja_nil
              case k624_1 =>
                refine' jss_one ?k628_0
                case k628_0 =>
                  refine' js_if ?k629_0 ?k629_1 ?k629_2
                  case k629_0 =>
                    refine' jb_w ?k630_0
                    case k630_0 =>
                      refine' jw_and ?k631_0 ?k631_1
                      case k631_0 =>
                        refine' jb_isnot ?k632_0 ?k632_1
                        case k632_0 =>
                          exact jr_var 7
                        case k632_1 =>
                          refine' jr_of ?k633_0
                          case k633_0 =>
                            exact je_non
                      case k631_1 =>
                        refine' jw_and1 ?k634_0
                        case k634_0 =>
                          refine' jb_notin (K := K) hr.units ?k635_0 ?k635_1
                          case k635_0 =>
                            exact jr_var 7
                          case k635_1 =>
                            exact jr_var 2
                  case k629_1 =>
                    refine' jss_cons ?k636_0 ?k636_1
                    case k636_0 =>
                      refine' js_putitem 2 hr.units ?k637_0 ?k637_1
                      case k637_0 =>
                        exact je_bl
                      case k637_1 =>
                        exact je_var 7
                    case k636_1 =>
                      refine' jss_one ?k638_0
                      case k638_0 =>
                        refine' js_append (K := K) 3 ?k639_0
                        case k639_0 =>
                          exact je_var 7
                  case k629_2 =>
                    exact jss_nil
      case k609_1 =>
        refine' jss_one ?k640_0
        case k640_0 =>
          exact js_retF 2


/-! ### has_start -/
def b_has_start : S := sRet (mCB anyF (mCons (mT (mLc (mKeysI (mCallF0 g_reach_back (mCons (mVar 0) (mCons (mVar 1) (mNil))))) (hName 2) (mYes) (mCB anyF (mCons (mT (mLc (mSeqI (mOp ixF (mVarT 0) (mVarT 2))) (hTup 3 (hCons (hName 3) (hCons (hName 4) (hCons (hName 5) (hNil))))) (mYes) (mOp eqF (mVarT 3) (mT (ret (.str "s")))) [3, 4, 5])) (mNil))) [2])) (mNil)))
def g_has_start : List D → RR := callD 2 6 b_has_start
theorem sc_has_start : FnScope ["rows", "event", "one", "source", "delay", "back"] ["rows", "event"] (defScope s_has_start) := ⟨rfl, rfl, rfl, by decide +kernel, rfl, by decide +kernel, by decide +kernel⟩
theorem ok_has_start {P : Program} {w : World} {K : PySem.W.Frag} {mg : Str → Option Value} {base : Heap} {C : Str → Addr} (nm : Nm K mg C) (h : HasF K mg "has_start" s_has_start ["rows", "event"]) (D_reach_back : DefV P w K mg base CX0 C "reach_back" ["rows", "event"] 2 g_reach_back) : DefV P w K mg base CX0 C "has_start" ["rows", "event"] 3 g_has_start := by
  have nd := sc_has_start.nd
  refine' def_v0 (k := 2) (N := ["rows", "event", "one", "source", "delay", "back"]) h sc_has_start ?hb
  intro f cdv A outer s H E hr
  refine' ⟨_, ?hc⟩
  case hc =>
    intro B EX
    refine' jss_one ?k641_0
    case k641_0 =>
      refine' js_ret ?k642_0
      case k642_0 =>
        refine' je_cb (cK_any (K := K) rfl rfl) ok_any PyProof.Rows.boot_any nm.any ?k643_0
        case k643_0 =>
          refine' jar_cons ?k644_0 ?k644_1
          case k644_0 =>
            refine' jr_of ?k645_0
            case k645_0 =>
              refine' je_of ?k646_0
              case k646_0 =>
                refine' jf_lc (own := [("one", 2)]) (L := [2]) nd (blkOk_by (by kernel_rfl)) ?k647_0 ?k647_1 ?k647_2 ?k647_3
                case k647_0 =>
                  refine' ji_keysF ?k648_0
                  case k648_0 =>
                    refine' jf_call0 D_reach_back hr ?k649_0
                    case k649_0 =>
                      refine' ja_cons ?k650_0 ?k650_1
                      case k650_0 =>
                        exact je_var 0
                      case k650_1 =>
                        refine' ja_cons ?k651_0 ?k651_1
                        case k651_0 =>
                          exact je_var 1
                        case k651_1 =>
                          exact ja_nil
                case k647_1 =>
                  intro _ _ _ _ _
                  exact jg_name 2 nd
                case k647_2 =>
                  intro _ _ _ _ _
                  exact jbs_nil
                case k647_3 =>
                  intro _ _ _ _ _
                  refine' je_cb (cK_any (K := K) rfl rfl) ok_any PyProof.Rows.boot_any nm.any ?k652_0
                  case k652_0 =>
                    refine' jar_cons ?k653_0 ?k653_1
                    case k653_0 =>
                      refine' jr_of ?k654_0
                      case k654_0 =>
                        refine' je_of ?k655_0
                        case k655_0 =>
                          refine' jf_lc (own := [("source", 3), ("delay", 4), ("back", 5)]) (L := ([3] ++ ([4] ++ ([5] ++ [])))) nd (blkOk_by (by kernel_rfl)) ?k656_0 ?k656_1 ?k656_2 ?k656_3
                          case k656_0 =>
                            refine' ji_seq (K := K) ?k657_0
                            case k657_0 =>
                              refine' je_ix (K := K) ?k658_0 ?k658_1
                              case k658_0 =>
                                exact jr_var 0
                              case k658_1 =>
                                exact jr_var 2
                          case k656_1 =>
                            intro _ _ _ _ _
                            refine' jg_tup (K := K) ?k659_0
                            case k659_0 =>
                              refine' jgs_cons ?k660_0 ?k660_1
                              case k660_0 =>
                                exact jg_name 3 nd
                              case k660_1 =>
                                refine' jgs_cons ?k661_0 ?k661_1
                                case k661_0 =>
                                  exact jg_name 4 nd
                                case k661_1 =>
                                  refine' jgs_cons ?k662_0 ?k662_1
                                  case k662_0 =>
                                    exact jg_name 5 nd
                                  case k662_1 =>
                                    exact jgs_nil
                          case k656_2 =>
                            intro _ _ _ _ _
                            exact jbs_nil
                          case k656_3 =>
                            intro _ _ _ _ _
                            refine' je_eq (K := K) hr.units ?k663_0 ?k663_1
                            case k663_0 =>
                              exact jr_var 3
                            case k663_1 =>
                              refine' jr_of ?k664_0
                              case k664_0 =>
                                exact je_str
                    case k653_1 =>
                      exact jar_nil
          case k644_1 =>
            exact jar_nil


/-! ### pace -/
def b_pace : S := sSeq (sDrop (mCall g_need_event (mCons (mVar 0) (mCons (mVar 1) (mNil)))))
 (sSeq (sPar [false, true] [2, 3] (mCons (mOp ixF (mVarT 0) (mT (ret (.int 1)))) (mCons (mLst (mNil)) (mNil))))
 (sSeq (sAsg (mCall0 g_reach_back (mCons (mVar 2) (mCons (mVar 1) (mNil)))) (hName 4))
 (sSeq (sFor (mSeqI (mCall0 g_rings_of (mCons (mVar 2) (mNil)))) (hName 5) (sIf (mAnd (mTst (mOp (inAF false) (mT (mOp ixF (mT (mOp ixF (mVarT 5) (mT (ret (.int 0))))) (mT (ret (.int 0))))) (mVarT 4))) (mTst (mCall0 g_has_start (mCons (mVar 2) (mCons (mOp ixF (mT (mOp ixF (mVarT 5) (mT (ret (.int 0))))) (mT (ret (.int 0)))) (mNil)))))) (sAppend 3 (mCall0 g_ratio (mCons (mVar 2) (mCons (mVar 5) (mNil))))) (sNext)))
 (sRet (mCall0 g_greatest (mCons (mVar 3) (mNil)))))))
def g_pace : List D → RR := callD 2 6 b_pace
theorem sc_pace : FnScope ["net", "event", "rows", "found", "back", "ring"] ["net", "event"] (defScope s_pace) := ⟨rfl, rfl, rfl, by decide +kernel, rfl, by decide +kernel, by decide +kernel⟩
theorem ok_pace {P : Program} {w : World} {K : PySem.W.Frag} {mg : Str → Option Value} {base : Heap} {C : Str → Addr} (nm : Nm K mg C) (h : HasF K mg "pace" s_pace ["net", "event"]) (D_need_event : DefV P w K mg base (L2.CX P w) C "need_event" ["net", "event"] 7 g_need_event) (D_reach_back : DefV P w K mg base CX0 C "reach_back" ["rows", "event"] 2 g_reach_back) (D_rings_of : DefV P w K mg base CX0 C "rings_of" ["rows"] 3 g_rings_of) (D_has_start : DefV P w K mg base CX0 C "has_start" ["rows", "event"] 3 g_has_start) (D_ratio : DefV P w K mg base CX0 C "ratio" ["rows", "ring"] 3 g_ratio) (D_greatest : DefV P w K mg base CX0 C "greatest" ["fractions"] 2 g_greatest) : DefV P w K mg base (L2.CX P w) C "pace" ["net", "event"] 8 g_pace := by
  have nd := sc_pace.nd
  refine' def_vX (k := 7) (N := ["net", "event", "rows", "found", "back", "ring"]) h sc_pace ?hb
  intro f cdv A outer s H E hr
  refine' ⟨_, ?hc⟩
  case hc =>
    intro B
    refine' jss_cons ?k665_0 ?k665_1
    case k665_0 =>
      refine' js_expr ?k666_0
      case k666_0 =>
        refine' je_call D_need_event hr ?k667_0
        case k667_0 =>
          refine' ja_cons ?k668_0 ?k668_1
          case k668_0 =>
            exact je_var 0
          case k668_1 =>
            refine' ja_cons ?k669_0 ?k669_1
            case k669_0 =>
              exact je_var 1
            case k669_1 =>
              exact ja_nil
    case k665_1 =>
      refine' jss_cons ?k670_0 ?k670_1
      case k670_0 =>
        refine' js_par2 2 3 nd ?k671_0
        case k671_0 =>
          refine' jam_cons ?k672_0 ?k672_1
          case k672_0 =>
            refine' je_ix (K := K) ?k673_0 ?k673_1
            case k673_0 =>
              exact jr_var 0
            case k673_1 =>
              refine' jr_of ?k674_0
              case k674_0 =>
                exact je_int
          case k672_1 =>
            refine' jam_own ?k675_0 ?k675_1
            case k675_0 =>
              refine' jf_lst ?k676_0
              case k676_0 =>
                exact ja_nil
            case k675_1 =>
              exact jam_nil
      case k670_1 =>
        refine' jss_cons ?k677_0 ?k677_1
        case k677_0 =>
          refine' js_set 4 nd ?k678_0
          case k678_0 =>
            refine' je_call0 D_reach_back hr ?k679_0
            case k679_0 =>
              refine' ja_cons ?k680_0 ?k680_1
              case k680_0 =>
                exact je_var 2
              case k680_1 =>
                refine' ja_cons ?k681_0 ?k681_1
                case k681_0 =>
                  exact je_var 1
                case k681_1 =>
                  exact ja_nil
        case k677_1 =>
          refine' jss_cons ?k682_0 ?k682_1
          case k682_0 =>
            refine' js_for pass_own ?k683_0 ?k683_1 ?k683_2
            case k683_0 =>
              refine' ji_seq (K := K) ?k684_0
              case k684_0 =>
                refine' je_call0 D_rings_of hr ?k685_0
                case k685_0 =>
                  refine' ja_cons ?k686_0 ?k686_1
                  case k686_0 =>
                    exact je_var 2
                  case k686_1 =>
                    exact ja_nil
            case k683_1 =>
              exact jg_name 5 nd
            case k683_2 =>
              refine' jss_one ?k687_0
              case k687_0 =>
                refine' js_if ?k688_0 ?k688_1 ?k688_2
                case k688_0 =>
                  refine' jb_w ?k689_0
                  case k689_0 =>
                    refine' jw_and ?k690_0 ?k690_1
                    case k690_0 =>
                      refine' jb_in (K := K) hr.units ?k691_0 ?k691_1
                      case k691_0 =>
                        refine' jr_of ?k692_0
                        case k692_0 =>
                          refine' je_ix (K := K) ?k693_0 ?k693_1
                          case k693_0 =>
                            refine' jr_of ?k694_0
                            case k694_0 =>
                              refine' je_ix (K := K) ?k695_0 ?k695_1
                              case k695_0 =>
                                exact jr_var 5
                              case k695_1 =>
                                refine' jr_of ?k696_0
                                case k696_0 =>
                                  exact je_int
                          case k693_1 =>
                            refine' jr_of ?k697_0
                            case k697_0 =>
                              exact je_int
                      case k691_1 =>
                        exact jr_var 4
                    case k690_1 =>
                      refine' jw_and1 ?k698_0
                      case k698_0 =>
                        refine' jb_val ?k699_0
                        case k699_0 =>
                          refine' je_call0 D_has_start hr ?k700_0
                          case k700_0 =>
                            refine' ja_cons ?k701_0 ?k701_1
                            case k701_0 =>
                              exact je_var 2
                            case k701_1 =>
                              refine' ja_cons ?k702_0 ?k702_1
                              case k702_0 =>
                                refine' je_ix (K := K) ?k703_0 ?k703_1
                                case k703_0 =>
                                  refine' jr_of ?k704_0
                                  case k704_0 =>
                                    refine' je_ix (K := K) ?k705_0 ?k705_1
                                    case k705_0 =>
                                      exact jr_var 5
                                    case k705_1 =>
                                      refine' jr_of ?k706_0
                                      case k706_0 =>
                                        exact je_int
                                case k703_1 =>
                                  refine' jr_of ?k707_0
                                  case k707_0 =>
                                    exact je_int
                              case k702_1 =>
                                exact ja_nil
                case k688_1 =>
                  refine' jss_one ?k708_0
                  case k708_0 =>
                    refine' js_append (K := K) 3 ?k709_0
                    case k709_0 =>
                      refine' je_call0 D_ratio hr ?k710_0
                      case k710_0 =>
                        refine' ja_cons ?k711_0 ?k711_1
                        case k711_0 =>
                          exact je_var 2
                        case k711_1 =>
                          refine' ja_cons ?k712_0 ?k712_1
                          case k712_0 =>
                            exact je_var 5
                          case k712_1 =>
                            exact ja_nil
                case k688_2 =>
                  exact jss_nil
          case k682_1 =>
            refine' jss_one ?k713_0
            case k713_0 =>
              refine' js_ret ?k714_0
              case k714_0 =>
                refine' je_call0 D_greatest hr ?k715_0
                case k715_0 =>
                  refine' ja_cons ?k716_0 ?k716_1
                  case k716_0 =>
                    exact je_var 3
                  case k716_1 =>
                    exact ja_nil


/-! ### are_stores -/
def b_are_stores : S := sSeq (sIf (mOr (mNot (mTst (mIsi (pIs "tuple") (mVarT 1)))) (mNot (mTst (mChain leF leF (mT (ret (.int 1))) (mT (mCB lenF (mCons (mVarT 1) (mNil)))) (mT (ret (.int 2))))))) (sRet (ret (.bool false))) (sNext))
 (sSeq (sFor (mSeqI (mVar 1)) (hName 2) (sSeq (sIf (mOr (mNot (mTst (mIsi (pIs "tuple") (mVarT 2)))) (mTst (mOp neF (mT (mCB lenF (mCons (mVarT 2) (mNil)))) (mT (ret (.int 2)))))) (sRet (ret (.bool false))) (sNext))
 (sIf (mNot (mTst (mCB allF (mCons (mT (mLc (mSeqI (mVar 2)) (hName 3) (mYes) (mCall0 g_is_whole (mCons (mVar 3) (mCons (ret (.int 0)) (mCons (mOp subF (mT (mCB lenF (mCons (mT (mOp ixF (mVarT 0) (mT (ret (.int 1))))) (mNil)))) (mT (ret (.int 1)))) (mNil))))) [3])) (mNil))))) (sRet (ret (.bool false))) (sNext))))
 (sRet (ret (.bool true))))
def g_are_stores : List D → RR := callD 2 4 b_are_stores
theorem sc_are_stores : FnScope ["net", "value", "store", "one"] ["net", "value"] (defScope s_are_stores) := ⟨rfl, rfl, rfl, by decide +kernel, rfl, by decide +kernel, by decide +kernel⟩
theorem ok_are_stores {P : Program} {w : World} {K : PySem.W.Frag} {mg : Str → Option Value} {base : Heap} {C : Str → Addr} (nm : Nm K mg C) (h : HasF K mg "are_stores" s_are_stores ["net", "value"]) (D_is_whole : DefV P w K mg base CX0 C "is_whole" ["value", "low", "high"] 1 g_is_whole) : DefV P w K mg base CX0 C "are_stores" ["net", "value"] 2 g_are_stores := by
  have nd := sc_are_stores.nd
  refine' def_v0 (k := 1) (N := ["net", "value", "store", "one"]) h sc_are_stores ?hb
  intro f cdv A outer s H E hr
  refine' ⟨_, ?hc⟩
  case hc =>
    intro B EX
    refine' jss_cons ?k717_0 ?k717_1
    case k717_0 =>
      refine' js_if ?k718_0 ?k718_1 ?k718_2
      case k718_0 =>
        refine' jb_w ?k719_0
        case k719_0 =>
          refine' jw_or ?k720_0 ?k720_1
          case k720_0 =>
            refine' jb_not ?k721_0
            case k721_0 =>
              refine' jb_val ?k722_0
              case k722_0 =>
                refine' je_isi (K := K) tab_tuple PyProof.Rows.boot_tuple nm.tuple nm.isinstance ?k723_0
                case k723_0 =>
                  exact jr_var 1
          case k720_1 =>
            refine' jw_or1 ?k724_0
            case k724_0 =>
              refine' jb_not ?k725_0
              case k725_0 =>
                refine' jb_chain op_le op_le ok_cmpI ok_cmpI ?k726_0 ?k726_1 ?k726_2
                case k726_0 =>
                  refine' jr_of ?k727_0
                  case k727_0 =>
                    exact je_int
                case k726_1 =>
                  refine' jr_of ?k728_0
                  case k728_0 =>
                    refine' je_cb (cK_len (K := K) rfl) okK_len PySem.boot_len nm.len ?k729_0
                    case k729_0 =>
                      refine' jar_cons ?k730_0 ?k730_1
                      case k730_0 =>
                        exact jr_var 1
                      case k730_1 =>
                        exact jar_nil
                case k726_2 =>
                  refine' jr_of ?k731_0
                  case k731_0 =>
                    exact je_int
      case k718_1 =>
        refine' jss_one ?k732_0
        case k732_0 =>
          refine' js_ret ?k733_0
          case k733_0 =>
            exact je_bl
      case k718_2 =>
        exact jss_nil
    case k717_1 =>
      refine' jss_cons ?k734_0 ?k734_1
      case k734_0 =>
        refine' js_for PassesOwn.never ?k735_0 ?k735_1 ?k735_2
        case k735_0 =>
          refine' ji_seq (K := K) ?k736_0
          case k736_0 =>
            exact je_var 1
        case k735_1 =>
          exact jg_name 2 nd
        case k735_2 =>
          refine' jss_cons ?k737_0 ?k737_1
          case k737_0 =>
            refine' js_if ?k738_0 ?k738_1 ?k738_2
            case k738_0 =>
              refine' jb_w ?k739_0
              case k739_0 =>
                refine' jw_or ?k740_0 ?k740_1
                case k740_0 =>
                  refine' jb_not ?k741_0
                  case k741_0 =>
                    refine' jb_val ?k742_0
                    case k742_0 =>
                      refine' je_isi (K := K) tab_tuple PyProof.Rows.boot_tuple nm.tuple nm.isinstance ?k743_0
                      case k743_0 =>
                        exact jr_var 2
                case k740_1 =>
                  refine' jw_or1 ?k744_0
                  case k744_0 =>
                    refine' jb_ne (K := K) hr.units ?k745_0 ?k745_1
                    case k745_0 =>
                      refine' jr_of ?k746_0
                      case k746_0 =>
                        refine' je_cb (cK_len (K := K) rfl) okK_len PySem.boot_len nm.len ?k747_0
                        case k747_0 =>
                          refine' jar_cons ?k748_0 ?k748_1
                          case k748_0 =>
                            exact jr_var 2
                          case k748_1 =>
                            exact jar_nil
                    case k745_1 =>
                      refine' jr_of ?k749_0
                      case k749_0 =>
                        exact je_int
            case k738_1 =>
              refine' jss_one ?k750_0
              case k750_0 =>
                refine' js_ret ?k751_0
                case k751_0 =>
                  exact je_bl
            case k738_2 =>
              exact jss_nil
          case k737_1 =>
            refine' jss_one ?k752_0
            case k752_0 =>
              refine' js_if ?k753_0 ?k753_1 ?k753_2
              case k753_0 =>
                refine' jb_not ?k754_0
                case k754_0 =>
                  refine' jb_val ?k755_0
                  case k755_0 =>
                    refine' je_cb (cK_all (K := K) rfl rfl) ok_all PyProof.Rows.boot_all nm.all ?k756_0
                    case k756_0 =>
                      refine' jar_cons ?k757_0 ?k757_1
                      case k757_0 =>
                        refine' jr_of ?k758_0
                        case k758_0 =>
                          refine' je_of ?k759_0
                          case k759_0 =>
                            refine' jf_lc (own := [("one", 3)]) (L := [3]) nd (blkOk_by (by kernel_rfl)) ?k760_0 ?k760_1 ?k760_2 ?k760_3
                            case k760_0 =>
                              refine' ji_seq (K := K) ?k761_0
                              case k761_0 =>
                                exact je_var 2
                            case k760_1 =>
                              intro _ _ _ _ _
                              exact jg_name 3 nd
                            case k760_2 =>
                              intro _ _ _ _ _
                              exact jbs_nil
                            case k760_3 =>
                              intro _ _ _ _ _
                              refine' je_call0 D_is_whole hr ?k762_0
                              case k762_0 =>
                                refine' ja_cons ?k763_0 ?k763_1
                                case k763_0 =>
                                  exact je_var 3
                                case k763_1 =>
                                  refine' ja_cons ?k764_0 ?k764_1
                                  case k764_0 =>
                                    exact je_int
                                  case k764_1 =>
                                    refine' ja_cons ?k765_0 ?k765_1
                                    case k765_0 =>
                                      refine' je_sub ?k766_0 ?k766_1
                                      case k766_0 =>
                                        refine' jr_of ?k767_0
                                        case k767_0 =>
                                          refine' je_cb (cK_len (K := K) rfl) okK_len PySem.boot_len nm.len ?k768_0
                                          case k768_0 =>
                                            refine' jar_cons ?k769_0 ?k769_1
                                            case k769_0 =>
                                              refine' jr_of ?k770_0
                                              case k770_0 =>
                                                refine' je_ix (K := K) ?k771_0 ?k771_1
                                                case k771_0 =>
                                                  exact jr_var 0
                                                case k771_1 =>
                                                  refine' jr_of ?k772_0
                                                  case k772_0 =>
                                                    exact je_int
                                            case k769_1 =>
                                              exact jar_nil
                                      case k766_1 =>
                                        refine' jr_of ?k773_0
                                        case k773_0 =>
                                          exact je_int
                                    case k765_1 =>
                                      exact ja_nil
                      case k757_1 =>
                        exact jar_nil
              case k753_1 =>
                refine' jss_one ?k774_0
                case k774_0 =>
                  refine' js_ret ?k775_0
                  case k775_0 =>
                    exact je_bl
              case k753_2 =>
                exact jss_nil
      case k734_1 =>
        refine' jss_one ?k776_0
        case k776_0 =>
          refine' js_ret ?k777_0
          case k777_0 =>
            exact je_bl


/-! ### need_stores -/
def b_need_stores : S := sSeq (sDrop (mCall g_need_net (mCons (mVar 0) (mNil))))
 (sIf (mNot (mTst (mCall0 g_are_stores (mCons (mVar 0) (mCons (mVar 1) (mNil)))))) (sRaise "InvalidStores") (sNext))
def g_need_stores : List D → RR := callD 2 2 b_need_stores
theorem sc_need_stores : FnScope ["net", "stores"] ["net", "stores"] (defScope s_need_stores) := ⟨rfl, rfl, rfl, by decide +kernel, rfl, by decide +kernel, by decide +kernel⟩
theorem ok_need_stores {P : Program} {w : World} {K : PySem.W.Frag} {mg : Str → Option Value} {base : Heap} {C : Str → Addr} (nm : Nm K mg C) (h : HasF K mg "need_stores" s_need_stores ["net", "stores"]) (D_need_net : DefV P w K mg base (L2.CX P w) C "need_net" ["net"] 6 g_need_net) (D_are_stores : DefV P w K mg base CX0 C "are_stores" ["net", "value"] 2 g_are_stores) : DefV P w K mg base (L2.CX P w) C "need_stores" ["net", "stores"] 7 g_need_stores := by
  have nd := sc_need_stores.nd
  refine' def_vX (k := 6) (N := ["net", "stores"]) h sc_need_stores ?hb
  intro f cdv A outer s H E hr
  refine' ⟨_, ?hc⟩
  case hc =>
    intro B
    refine' jss_cons ?k778_0 ?k778_1
    case k778_0 =>
      refine' js_expr ?k779_0
      case k779_0 =>
        refine' je_call D_need_net hr ?k780_0
        case k780_0 =>
          refine' ja_cons ?k781_0 ?k781_1
          case k781_0 =>
            exact je_var 0
          case k781_1 =>
            exact ja_nil
    case k778_1 =>
      refine' jss_one ?k782_0
      case k782_0 =>
        refine' js_if ?k783_0 ?k783_1 ?k783_2
        case k783_0 =>
          refine' jb_not ?k784_0
          case k784_0 =>
            refine' jb_val ?k785_0
            case k785_0 =>
              refine' je_call0 D_are_stores hr ?k786_0
              case k786_0 =>
                refine' ja_cons ?k787_0 ?k787_1
                case k787_0 =>
                  exact je_var 0
                case k787_1 =>
                  refine' ja_cons ?k788_0 ?k788_1
                  case k788_0 =>
                    exact je_var 1
                  case k788_1 =>
                    exact ja_nil
        case k783_1 =>
          refine' jss_one ?k789_0
          case k789_0 =>
            exact js_raise nm.X_InvalidStores
        case k783_2 =>
          exact jss_nil


/-! ### need_rooms -/
def b_need_rooms : S := sSeq (sIf (mOr (mNot (mTst (mIsi (pIs "tuple") (mVarT 1)))) (mTst (mOp neF (mT (mCB lenF (mCons (mVarT 1) (mNil)))) (mT (mCB lenF (mCons (mVarT 0) (mNil))))))) (sRaise "InvalidNumber") (sNext))
 (sIf (mNot (mTst (mCB allF (mCons (mT (mLc (mSeqI (mVar 1)) (hName 2) (mYes) (mCall0 g_is_whole (mCons (mVar 2) (mCons (ret (.int 1)) (mCons (ret (.int 6)) (mNil))))) [2])) (mNil))))) (sRaise "InvalidNumber") (sNext))
def g_need_rooms : List D → RR := callD 2 3 b_need_rooms
theorem sc_need_rooms : FnScope ["stores", "rooms", "one"] ["stores", "rooms"] (defScope s_need_rooms) := ⟨rfl, rfl, rfl, by decide +kernel, rfl, by decide +kernel, by decide +kernel⟩
theorem ok_need_rooms {P : Program} {w : World} {K : PySem.W.Frag} {mg : Str → Option Value} {base : Heap} {C : Str → Addr} (nm : Nm K mg C) (h : HasF K mg "need_rooms" s_need_rooms ["stores", "rooms"]) (D_is_whole : DefV P w K mg base CX0 C "is_whole" ["value", "low", "high"] 1 g_is_whole) : DefV P w K mg base (L2.CX P w) C "need_rooms" ["stores", "rooms"] 2 g_need_rooms := by
  have nd := sc_need_rooms.nd
  refine' def_vX (k := 1) (N := ["stores", "rooms", "one"]) h sc_need_rooms ?hb
  intro f cdv A outer s H E hr
  refine' ⟨_, ?hc⟩
  case hc =>
    intro B
    refine' jss_cons ?k790_0 ?k790_1
    case k790_0 =>
      refine' js_if ?k791_0 ?k791_1 ?k791_2
      case k791_0 =>
        refine' jb_w ?k792_0
        case k792_0 =>
          refine' jw_or ?k793_0 ?k793_1
          case k793_0 =>
            refine' jb_not ?k794_0
            case k794_0 =>
              refine' jb_val ?k795_0
              case k795_0 =>
                refine' je_isi (K := K) tab_tuple PyProof.Rows.boot_tuple nm.tuple nm.isinstance ?k796_0
                case k796_0 =>
                  exact jr_var 1
          case k793_1 =>
            refine' jw_or1 ?k797_0
            case k797_0 =>
              refine' jb_ne (K := K) hr.units ?k798_0 ?k798_1
              case k798_0 =>
                refine' jr_of ?k799_0
                case k799_0 =>
                  refine' je_cb (cK_len (K := K) rfl) okK_len PySem.boot_len nm.len ?k800_0
                  case k800_0 =>
                    refine' jar_cons ?k801_0 ?k801_1
                    case k801_0 =>
                      exact jr_var 1
                    case k801_1 =>
                      exact jar_nil
              case k798_1 =>
                refine' jr_of ?k802_0
                case k802_0 =>
                  refine' je_cb (cK_len (K := K) rfl) okK_len PySem.boot_len nm.len ?k803_0
                  case k803_0 =>
                    refine' jar_cons ?k804_0 ?k804_1
                    case k804_0 =>
                      exact jr_var 0
                    case k804_1 =>
                      exact jar_nil
      case k791_1 =>
        refine' jss_one ?k805_0
        case k805_0 =>
          exact js_raise nm.X_InvalidNumber
      case k791_2 =>
        exact jss_nil
    case k790_1 =>
      refine' jss_one ?k806_0
      case k806_0 =>
        refine' js_if ?k807_0 ?k807_1 ?k807_2
        case k807_0 =>
          refine' jb_not ?k808_0
          case k808_0 =>
            refine' jb_val ?k809_0
            case k809_0 =>
              refine' je_cb (cK_all (K := K) rfl rfl) ok_all PyProof.Rows.boot_all nm.all ?k810_0
              case k810_0 =>
                refine' jar_cons ?k811_0 ?k811_1
                case k811_0 =>
                  refine' jr_of ?k812_0
                  case k812_0 =>
                    refine' je_of ?k813_0
                    case k813_0 =>
                      refine' jf_lc (own := [("one", 2)]) (L := [2]) nd (blkOk_by (by kernel_rfl)) ?k814_0 ?k814_1 ?k814_2 ?k814_3
                      case k814_0 =>
                        refine' ji_seq (K := K) ?k815_0
                        case k815_0 =>
                          exact je_var 1
                      case k814_1 =>
                        intro _ _ _ _ _
                        exact jg_name 2 nd
                      case k814_2 =>
                        intro _ _ _ _ _
                        exact jbs_nil
                      case k814_3 =>
                        intro _ _ _ _ _
                        refine' je_call0 D_is_whole hr ?k816_0
                        case k816_0 =>
                          refine' ja_cons ?k817_0 ?k817_1
                          case k817_0 =>
                            exact je_var 2
                          case k817_1 =>
                            refine' ja_cons ?k818_0 ?k818_1
                            case k818_0 =>
                              exact je_int
                            case k818_1 =>
                              refine' ja_cons ?k819_0 ?k819_1
                              case k819_0 =>
                                exact je_gi nm.MOST_ROOMS
                              case k819_1 =>
                                exact ja_nil
                case k811_1 =>
                  exact jar_nil
        case k807_1 =>
          refine' jss_one ?k820_0
          case k820_0 =>
            exact js_raise nm.X_InvalidNumber
        case k807_2 =>
          exact jss_nil


/-! ### with_rooms -/
def b_with_rooms : S := sSeq (sOwn (mCB listF (mCons (mVarT 0) (mNil))) 3)
 (sSeq (sFor (mEnum (mCons (mVar 1) (mNil))) (hTup 2 (hCons (hName 4) (hCons (hTup 2 (hCons (hName 5) (hCons (hName 6) (hNil)))) (hNil)))) (sSetItem 3 (mOp addF (mT (mOp ixF (mVarT 3) (mVarT 5))) (mT (mTup (mCons (mTup (mCons (mOp addF (mT (ret (.str "e"))) (mT (mCB strF (mCons (mVarT 6) (mNil))))) (mCons (ret (.int 0)) (mCons (mOp ixF (mVarT 2) (mVarT 4)) (mNil))))) (mNil))))) (mVar 5)))
 (sRet (mCB tupleF (mCons (mVarT 3) (mNil)))))
def g_with_rooms : List D → RR := callD 3 7 b_with_rooms
theorem sc_with_rooms : FnScope ["rows", "stores", "rooms", "found", "at", "giver", "taker"] ["rows", "stores", "rooms"] (defScope s_with_rooms) := ⟨rfl, rfl, rfl, by decide +kernel, rfl, by decide +kernel, by decide +kernel⟩
theorem ok_with_rooms {P : Program} {w : World} {K : PySem.W.Frag} {mg : Str → Option Value} {base : Heap} {C : Str → Addr} (nm : Nm K mg C) (h : HasF K mg "with_rooms" s_with_rooms ["rows", "stores", "rooms"]) : DefV P w K mg base CX0 C "with_rooms" ["rows", "stores", "rooms"] 1 g_with_rooms := by
  have nd := sc_with_rooms.nd
  refine' def_v0 (k := 0) (N := ["rows", "stores", "rooms", "found", "at", "giver", "taker"]) h sc_with_rooms ?hb
  intro f cdv A outer s H E hr
  refine' ⟨_, ?hc⟩
  case hc =>
    intro B EX
    refine' jss_cons ?k821_0 ?k821_1
    case k821_0 =>
      refine' js_own 3 nd ?k822_0
      case k822_0 =>
        refine' jf_ct (cK_list (K := K) rfl) okK_list PyProof.Rows.boot_list nm.list ?k823_0
        case k823_0 =>
          refine' jar_cons ?k824_0 ?k824_1
          case k824_0 =>
            exact jr_var 0
          case k824_1 =>
            exact jar_nil
    case k821_1 =>
      refine' jss_cons ?k825_0 ?k825_1
      case k825_0 =>
        refine' js_for PassesOwn.never ?k826_0 ?k826_1 ?k826_2
        case k826_0 =>
          refine' ji_enum (K := K) nm.enumerate ?k827_0
          case k827_0 =>
            refine' ja_cons ?k828_0 ?k828_1
            case k828_0 =>
              exact je_var 1
            case k828_1 =>
              exact ja_nil
        case k826_1 =>
          refine' jg_tup (K := K) ?k829_0
          case k829_0 =>
            refine' jgs_cons ?k830_0 ?k830_1
            case k830_0 =>
              exact jg_name 4 nd
            case k830_1 =>
              refine' jgs_cons ?k831_0 ?k831_1
              case k831_0 =>
                refine' jg_tup (K := K) ?k832_0
                case k832_0 =>
                  refine' jgs_cons ?k833_0 ?k833_1
                  case k833_0 =>
                    exact jg_name 5 nd
                  case k833_1 =>
                    refine' jgs_cons ?k834_0 ?k834_1
                    case k834_0 =>
                      exact jg_name 6 nd
                    case k834_1 =>
                      exact jgs_nil
              case k831_1 =>
                exact jgs_nil
        case k826_2 =>
          refine' jss_one ?k835_0
          case k835_0 =>
            refine' js_setitem 3 ?k836_0 ?k836_1
            case k836_0 =>
              refine' je_add (K := K) ?k837_0 ?k837_1
              case k837_0 =>
                refine' jr_of ?k838_0
                case k838_0 =>
                  refine' je_ix (K := K) ?k839_0 ?k839_1
                  case k839_0 =>
                    exact jr_var 3
                  case k839_1 =>
                    exact jr_var 5
              case k837_1 =>
                refine' jr_of ?k840_0
                case k840_0 =>
                  refine' je_tup ?k841_0
                  case k841_0 =>
                    refine' ja_cons ?k842_0 ?k842_1
                    case k842_0 =>
                      refine' je_tup ?k843_0
                      case k843_0 =>
                        refine' ja_cons ?k844_0 ?k844_1
                        case k844_0 =>
                          refine' je_add (K := K) ?k845_0 ?k845_1
                          case k845_0 =>
                            refine' jr_of ?k846_0
                            case k846_0 =>
                              exact je_str
                          case k845_1 =>
                            refine' jr_of ?k847_0
                            case k847_0 =>
                              refine' je_ct call_str_int ok_str PyProof.Rows.boot_str nm.str ?k848_0
                              case k848_0 =>
                                refine' jar_cons ?k849_0 ?k849_1
                                case k849_0 =>
                                  exact jr_var 6
                                case k849_1 =>
                                  exact jar_nil
                        case k844_1 =>
                          refine' ja_cons ?k850_0 ?k850_1
                          case k850_0 =>
                            exact je_int
                          case k850_1 =>
                            refine' ja_cons ?k851_0 ?k851_1
                            case k851_0 =>
                              refine' je_ix (K := K) ?k852_0 ?k852_1
                              case k852_0 =>
                                exact jr_var 2
                              case k852_1 =>
                                exact jr_var 4
                            case k851_1 =>
                              exact ja_nil
                    case k842_1 =>
                      exact ja_nil
            case k836_1 =>
              exact je_var 5
      case k825_1 =>
        refine' jss_one ?k853_0
        case k853_0 =>
          refine' js_ret ?k854_0
          case k854_0 =>
            refine' je_ct (cK_tuple (K := K) rfl) okK_tuple PyProof.Rows.boot_tuple nm.tuple ?k855_0
            case k855_0 =>
              refine' jar_cons ?k856_0 ?k856_1
              case k856_0 =>
                exact jr_var 3
              case k856_1 =>
                exact jar_nil


/-! ### slowest_with -/
def b_slowest_with : S := sSeq (sDrop (mCall g_need_stores (mCons (mVar 0) (mCons (mVar 1) (mNil)))))
 (sSeq (sDrop (mCall g_need_rooms (mCons (mVar 1) (mCons (mVar 2) (mNil)))))
 (sRet (mCall0 g_slowest_of (mCons (mCall0 g_with_rooms (mCons (mOp ixF (mVarT 0) (mT (ret (.int 1)))) (mCons (mVar 1) (mCons (mVar 2) (mNil))))) (mNil)))))
def g_slowest_with : List D → RR := callD 3 3 b_slowest_with
theorem sc_slowest_with : FnScope ["net", "stores", "rooms"] ["net", "stores", "rooms"] (defScope s_slowest_with) := ⟨rfl, rfl, rfl, by decide +kernel, rfl, by decide +kernel, by decide +kernel⟩
theorem ok_slowest_with {P : Program} {w : World} {K : PySem.W.Frag} {mg : Str → Option Value} {base : Heap} {C : Str → Addr} (nm : Nm K mg C) (h : HasF K mg "slowest_with" s_slowest_with ["net", "stores", "rooms"]) (D_need_stores : DefV P w K mg base (L2.CX P w) C "need_stores" ["net", "stores"] 7 g_need_stores) (D_need_rooms : DefV P w K mg base (L2.CX P w) C "need_rooms" ["stores", "rooms"] 2 g_need_rooms) (D_slowest_of : DefV P w K mg base CX0 C "slowest_of" ["rows"] 4 g_slowest_of) (D_with_rooms : DefV P w K mg base CX0 C "with_rooms" ["rows", "stores", "rooms"] 1 g_with_rooms) : DefV P w K mg base (L2.CX P w) C "slowest_with" ["net", "stores", "rooms"] 8 g_slowest_with := by
  have nd := sc_slowest_with.nd
  refine' def_vX (k := 7) (N := ["net", "stores", "rooms"]) h sc_slowest_with ?hb
  intro f cdv A outer s H E hr
  refine' ⟨_, ?hc⟩
  case hc =>
    intro B
    refine' jss_cons ?k857_0 ?k857_1
    case k857_0 =>
      refine' js_expr ?k858_0
      case k858_0 =>
        refine' je_call D_need_stores hr ?k859_0
        case k859_0 =>
          refine' ja_cons ?k860_0 ?k860_1
          case k860_0 =>
            exact je_var 0
          case k860_1 =>
            refine' ja_cons ?k861_0 ?k861_1
            case k861_0 =>
              exact je_var 1
            case k861_1 =>
              exact ja_nil
    case k857_1 =>
      refine' jss_cons ?k862_0 ?k862_1
      case k862_0 =>
        refine' js_expr ?k863_0
        case k863_0 =>
          refine' je_call D_need_rooms hr ?k864_0
          case k864_0 =>
            refine' ja_cons ?k865_0 ?k865_1
            case k865_0 =>
              exact je_var 1
            case k865_1 =>
              refine' ja_cons ?k866_0 ?k866_1
              case k866_0 =>
                exact je_var 2
              case k866_1 =>
                exact ja_nil
      case k862_1 =>
        refine' jss_one ?k867_0
        case k867_0 =>
          refine' js_ret ?k868_0
          case k868_0 =>
            refine' je_call0 D_slowest_of hr ?k869_0
            case k869_0 =>
              refine' ja_cons ?k870_0 ?k870_1
              case k870_0 =>
                refine' je_call0 D_with_rooms hr ?k871_0
                case k871_0 =>
                  refine' ja_cons ?k872_0 ?k872_1
                  case k872_0 =>
                    refine' je_ix (K := K) ?k873_0 ?k873_1
                    case k873_0 =>
                      exact jr_var 0
                    case k873_1 =>
                      refine' jr_of ?k874_0
                      case k874_0 =>
                        exact je_int
                  case k872_1 =>
                    refine' ja_cons ?k875_0 ?k875_1
                    case k875_0 =>
                      exact je_var 1
                    case k875_1 =>
                      refine' ja_cons ?k876_0 ?k876_1
                      case k876_0 =>
                        exact je_var 2
                      case k876_1 =>
                        exact ja_nil
              case k870_1 =>
                exact ja_nil


/-! ### all_rooms -/
def b_all_rooms : S := sSeq (sAsg (mLst (mCons (mTup (mNil)) (mNil))) (hName 1))
 (sSeq (sFor (mRng1 (mCons (mVar 0) (mNil))) (hName 2) (sSeq (sAsg (mLst (mNil)) (hName 3))
 (sSeq (sFor (mSeqI (mVar 1)) (hName 4) (sAsg (mOp addF (mVarT 3) (mT (mLc (mRng2 (mCons (ret (.int 1)) (mCons (mOp addF (mT (ret (.int 6))) (mT (ret (.int 1)))) (mNil)))) (hName 5) (mYes) (mOp addF (mVarT 4) (mT (mTup (mCons (mVar 5) (mNil))))) [5]))) (hName 3)))
 (sAsg (mVar 3) (hName 1)))))
 (sRet (mVar 1)))
def g_all_rooms : List D → RR := callD 1 6 b_all_rooms
theorem sc_all_rooms : FnScope ["many", "found", "turn", "longer", "row", "one"] ["many"] (defScope s_all_rooms) := ⟨rfl, rfl, rfl, by decide +kernel, rfl, by decide +kernel, by decide +kernel⟩
theorem ok_all_rooms {P : Program} {w : World} {K : PySem.W.Frag} {mg : Str → Option Value} {base : Heap} {C : Str → Addr} (nm : Nm K mg C) (h : HasF K mg "all_rooms" s_all_rooms ["many"]) : DefV P w K mg base CX0 C "all_rooms" ["many"] 1 g_all_rooms := by
  have nd := sc_all_rooms.nd
  refine' def_v0 (k := 0) (N := ["many", "found", "turn", "longer", "row", "one"]) h sc_all_rooms ?hb
  intro f cdv A outer s H E hr
  refine' ⟨_, ?hc⟩
  case hc =>
    intro B EX
    refine' jss_cons ?k877_0 ?k877_1
    case k877_0 =>
      refine' js_set 1 nd ?k878_0
      case k878_0 =>
        refine' je_of ?k879_0
        case k879_0 =>
          refine' jf_lst ?k880_0
          case k880_0 =>
            refine' ja_cons ?k881_0 ?k881_1
            case k881_0 =>
              refine' je_tup ?k882_0
              case k882_0 =>
                exact ja_nil
            case k881_1 =>
              exact ja_nil
    case k877_1 =>
      refine' jss_cons ?k883_0 ?k883_1
      case k883_0 =>
        refine' js_for PassesOwn.never ?k884_0 ?k884_1 ?k884_2
        case k884_0 =>
          refine' ji_rng1 nm.range ?k885_0
          case k885_0 =>
            refine' ja_cons ?k886_0 ?k886_1
            case k886_0 =>
              exact je_var 0
            case k886_1 =>
              exact ja_nil
        case k884_1 =>
          exact jg_name 2 nd
        case k884_2 =>
          refine' jss_cons ?k887_0 ?k887_1
          case k887_0 =>
            refine' js_set 3 nd ?k888_0
            case k888_0 =>
              refine' je_of ?k889_0
              case k889_0 =>
                refine' jf_lst ?k890_0
                case k890_0 =>
                  exact ja_nil
          case k887_1 =>
            refine' jss_cons ?k891_0 ?k891_1
            case k891_0 =>
              refine' js_for PassesOwn.never ?k892_0 ?k892_1 ?k892_2
              case k892_0 =>
                refine' ji_seq (K := K) ?k893_0
                case k893_0 =>
                  exact je_var 1
              case k892_1 =>
                exact jg_name 4 nd
              case k892_2 =>
                refine' jss_one ?k894_0
                case k894_0 =>
                  refine' js_set 3 nd ?k895_0
                  case k895_0 =>
                    refine' je_add (K := K) ?k896_0 ?k896_1
                    case k896_0 =>
                      exact jr_var 3
                    case k896_1 =>
                      refine' jr_of ?k897_0
                      case k897_0 =>
                        refine' je_of ?k898_0
                        case k898_0 =>
                          refine' jf_lc (own := [("one", 5)]) (L := [5]) nd (blkOk_by (by kernel_rfl)) ?k899_0 ?k899_1 ?k899_2 ?k899_3
                          case k899_0 =>
                            refine' ji_rng2 nm.range ?k900_0
                            case k900_0 =>
                              refine' ja_cons ?k901_0 ?k901_1
                              case k901_0 =>
                                exact je_int
                              case k901_1 =>
                                refine' ja_cons ?k902_0 ?k902_1
                                case k902_0 =>
                                  refine' je_add (K := K) ?k903_0 ?k903_1
                                  case k903_0 =>
                                    refine' jr_of ?k904_0
                                    case k904_0 =>
                                      exact je_gi nm.MOST_ROOMS
                                  case k903_1 =>
                                    refine' jr_of ?k905_0
                                    case k905_0 =>
                                      exact je_int
                                case k902_1 =>
                                  exact ja_nil
                          case k899_1 =>
                            intro _ _ _ _ _
                            exact jg_name 5 nd
                          case k899_2 =>
                            intro _ _ _ _ _
                            exact jbs_nil
                          case k899_3 =>
                            intro _ _ _ _ _
                            refine' je_add (K := K) ?k906_0 ?k906_1
                            case k906_0 =>
                              exact jr_var 4
                            case k906_1 =>
                              refine' jr_of ?k907_0
                              case k907_0 =>
                                refine' je_tup ?k908_0
                                case k908_0 =>
                                  refine' ja_cons ?k909_0 ?k909_1
                                  case k909_0 =>
                                    exact je_var 5
                                  case k909_1 =>
                                    exact ja_nil
            case k891_1 =>
              refine' jss_one ?k910_0
              case k910_0 =>
                refine' js_set 1 nd ?k911_0
                case k911_0 =>
                  exact je_var 3
      case k883_1 =>
        refine' jss_one ?k912_0
        case k912_0 =>
          refine' js_ret ?k913_0
          case k913_0 =>
            exact je_var 1


/-! ### is_pace -/
def b_is_pace : S := sSeq (sIf (mOr (mNot (mTst (mIsi (pIs "tuple") (mVarT 0)))) (mTst (mOp neF (mT (mCB lenF (mCons (mVarT 0) (mNil)))) (mT (ret (.int 2)))))) (sRet (ret (.bool false))) (sNext))
 (sRet (mAndV (mCall0 g_is_whole (mCons (mOp ixF (mVarT 0) (mT (ret (.int 0)))) (mCons (ret (.int 0)) (mCons (ret (.int 1000)) (mNil))))) (mAndV (mCall0 g_is_whole (mCons (mOp ixF (mVarT 0) (mT (ret (.int 1)))) (mCons (ret (.int 1)) (mCons (ret (.int 1000)) (mNil))))) (mOp eqF (mT (mCall0 g_lowest (mCons (mOp ixF (mVarT 0) (mT (ret (.int 0)))) (mCons (mOp ixF (mVarT 0) (mT (ret (.int 1)))) (mNil))))) (mVarT 0)))))
def g_is_pace : List D → RR := callD 1 1 b_is_pace
theorem sc_is_pace : FnScope ["value"] ["value"] (defScope s_is_pace) := ⟨rfl, rfl, rfl, by decide +kernel, rfl, by decide +kernel, by decide +kernel⟩
theorem ok_is_pace {P : Program} {w : World} {K : PySem.W.Frag} {mg : Str → Option Value} {base : Heap} {C : Str → Addr} (nm : Nm K mg C) (h : HasF K mg "is_pace" s_is_pace ["value"]) (D_is_whole : DefV P w K mg base CX0 C "is_whole" ["value", "low", "high"] 1 g_is_whole) (D_lowest : DefV P w K mg base CX0 C "lowest" ["top", "bottom"] 2 g_lowest) : DefV P w K mg base CX0 C "is_pace" ["value"] 3 g_is_pace := by
  have nd := sc_is_pace.nd
  refine' def_v0 (k := 2) (N := ["value"]) h sc_is_pace ?hb
  intro f cdv A outer s H E hr
  refine' ⟨_, ?hc⟩
  case hc =>
    intro B EX
    refine' jss_cons ?k914_0 ?k914_1
    case k914_0 =>
      refine' js_if ?k915_0 ?k915_1 ?k915_2
      case k915_0 =>
        refine' jb_w ?k916_0
        case k916_0 =>
          refine' jw_or ?k917_0 ?k917_1
          case k917_0 =>
            refine' jb_not ?k918_0
            case k918_0 =>
              refine' jb_val ?k919_0
              case k919_0 =>
                refine' je_isi (K := K) tab_tuple PyProof.Rows.boot_tuple nm.tuple nm.isinstance ?k920_0
                case k920_0 =>
                  exact jr_var 0
          case k917_1 =>
            refine' jw_or1 ?k921_0
            case k921_0 =>
              refine' jb_ne (K := K) hr.units ?k922_0 ?k922_1
              case k922_0 =>
                refine' jr_of ?k923_0
                case k923_0 =>
                  refine' je_cb (cK_len (K := K) rfl) okK_len PySem.boot_len nm.len ?k924_0
                  case k924_0 =>
                    refine' jar_cons ?k925_0 ?k925_1
                    case k925_0 =>
                      exact jr_var 0
                    case k925_1 =>
                      exact jar_nil
              case k922_1 =>
                refine' jr_of ?k926_0
                case k926_0 =>
                  exact je_int
      case k915_1 =>
        refine' jss_one ?k927_0
        case k927_0 =>
          refine' js_ret ?k928_0
          case k928_0 =>
            exact je_bl
      case k915_2 =>
        exact jss_nil
    case k914_1 =>
      refine' jss_one ?k929_0
      case k929_0 =>
        refine' js_ret ?k930_0
        case k930_0 =>
          refine' je_and ?k931_0 ?k931_1
          case k931_0 =>
            refine' je_call0 D_is_whole hr ?k932_0
            case k932_0 =>
              refine' ja_cons ?k933_0 ?k933_1
              case k933_0 =>
                refine' je_ix (K := K) ?k934_0 ?k934_1
                case k934_0 =>
                  exact jr_var 0
                case k934_1 =>
                  refine' jr_of ?k935_0
                  case k935_0 =>
                    exact je_int
              case k933_1 =>
                refine' ja_cons ?k936_0 ?k936_1
                case k936_0 =>
                  exact je_int
                case k936_1 =>
                  refine' ja_cons ?k937_0 ?k937_1
                  case k937_0 =>
                    exact je_int
                  case k937_1 =>
                    exact ja_nil
          case k931_1 =>
            refine' je_and ?k938_0 ?k938_1
            case k938_0 =>
              refine' je_call0 D_is_whole hr ?k939_0
              case k939_0 =>
                refine' ja_cons ?k940_0 ?k940_1
                case k940_0 =>
                  refine' je_ix (K := K) ?k941_0 ?k941_1
                  case k941_0 =>
                    exact jr_var 0
                  case k941_1 =>
                    refine' jr_of ?k942_0
                    case k942_0 =>
                      exact je_int
                case k940_1 =>
                  refine' ja_cons ?k943_0 ?k943_1
                  case k943_0 =>
                    exact je_int
                  case k943_1 =>
                    refine' ja_cons ?k944_0 ?k944_1
                    case k944_0 =>
                      exact je_int
                    case k944_1 =>
                      exact ja_nil
            case k938_1 =>
              refine' je_one ?k945_0
              case k945_0 =>
                refine' je_eq (K := K) hr.units ?k946_0 ?k946_1
                case k946_0 =>
                  refine' jr_of ?k947_0
                  case k947_0 =>
                    refine' je_call0 D_lowest hr ?k948_0
                    case k948_0 =>
                      refine' ja_cons ?k949_0 ?k949_1
                      case k949_0 =>
                        refine' je_ix (K := K) ?k950_0 ?k950_1
                        case k950_0 =>
                          exact jr_var 0
                        case k950_1 =>
                          refine' jr_of ?k951_0
                          case k951_0 =>
                            exact je_int
                      case k949_1 =>
                        refine' ja_cons ?k952_0 ?k952_1
                        case k952_0 =>
                          refine' je_ix (K := K) ?k953_0 ?k953_1
                          case k953_0 =>
                            exact jr_var 0
                          case k953_1 =>
                            refine' jr_of ?k954_0
                            case k954_0 =>
                              exact je_int
                        case k952_1 =>
                          exact ja_nil
                case k946_1 =>
                  exact jr_var 0


/-! ### keeps -/
def b_keeps : S := sSeq (sAsg (mCall0 g_slowest_of (mCons (mCall0 g_with_rooms (mCons (mVar 0) (mCons (mVar 1) (mCons (mVar 2) (mNil))))) (mNil))) (hName 4))
 (sRet (mOrV (mOp (isF false) (mVarT 4) (mT (ret .none))) (mNotV (mCall0 g_is_less (mCons (mVar 3) (mCons (mVar 4) (mNil)))))))
def g_keeps : List D → RR := callD 4 5 b_keeps
theorem sc_keeps : FnScope ["rows", "stores", "rooms", "pace", "most"] ["rows", "stores", "rooms", "pace"] (defScope s_keeps) := ⟨rfl, rfl, rfl, by decide +kernel, rfl, by decide +kernel, by decide +kernel⟩
theorem ok_keeps {P : Program} {w : World} {K : PySem.W.Frag} {mg : Str → Option Value} {base : Heap} {C : Str → Addr} (nm : Nm K mg C) (h : HasF K mg "keeps" s_keeps ["rows", "stores", "rooms", "pace"]) (D_slowest_of : DefV P w K mg base CX0 C "slowest_of" ["rows"] 4 g_slowest_of) (D_with_rooms : DefV P w K mg base CX0 C "with_rooms" ["rows", "stores", "rooms"] 1 g_with_rooms) (D_is_less : DefV P w K mg base CX0 C "is_less" ["one", "other"] 1 g_is_less) : DefV P w K mg base CX0 C "keeps" ["rows", "stores", "rooms", "pace"] 5 g_keeps := by
  have nd := sc_keeps.nd
  refine' def_v0 (k := 4) (N := ["rows", "stores", "rooms", "pace", "most"]) h sc_keeps ?hb
  intro f cdv A outer s H E hr
  refine' ⟨_, ?hc⟩
  case hc =>
    intro B EX
    refine' jss_cons ?k955_0 ?k955_1
    case k955_0 =>
      refine' js_set 4 nd ?k956_0
      case k956_0 =>
        refine' je_call0 D_slowest_of hr ?k957_0
        case k957_0 =>
          refine' ja_cons ?k958_0 ?k958_1
          case k958_0 =>
            refine' je_call0 D_with_rooms hr ?k959_0
            case k959_0 =>
              refine' ja_cons ?k960_0 ?k960_1
              case k960_0 =>
                exact je_var 0
              case k960_1 =>
                refine' ja_cons ?k961_0 ?k961_1
                case k961_0 =>
                  exact je_var 1
                case k961_1 =>
                  refine' ja_cons ?k962_0 ?k962_1
                  case k962_0 =>
                    exact je_var 2
                  case k962_1 =>
                    exact ja_nil
          case k958_1 =>
            exact ja_nil
    case k955_1 =>
      refine' jss_one ?k963_0
      case k963_0 =>
        refine' js_ret ?k964_0
        case k964_0 =>
          refine' je_or ?k965_0 ?k965_1
          case k965_0 =>
            refine' je_is ?k966_0 ?k966_1
            case k966_0 =>
              exact jr_var 4
            case k966_1 =>
              refine' jr_of ?k967_0
              case k967_0 =>
                exact je_non
          case k965_1 =>
            refine' je_one ?k968_0
            case k968_0 =>
              refine' je_not ?k969_0
              case k969_0 =>
                refine' je_call0 D_is_less hr ?k970_0
                case k970_0 =>
                  refine' ja_cons ?k971_0 ?k971_1
                  case k971_0 =>
                    exact je_var 3
                  case k971_1 =>
                    refine' ja_cons ?k972_0 ?k972_1
                    case k972_0 =>
                      exact je_var 4
                    case k972_1 =>
                      exact ja_nil


/-! ### least_rooms -/
def b_least_rooms : S := sSeq (sDrop (mCall g_need_stores (mCons (mVar 0) (mCons (mVar 1) (mNil)))))
 (sSeq (sIf (mNot (mTst (mCall0 g_is_pace (mCons (mVar 2) (mNil))))) (sRaise "InvalidNumber") (sNext))
 (sSeq (sAsg (mLc (mSeqI (mCall0 g_all_rooms (mCons (mCB lenF (mCons (mVarT 1) (mNil))) (mNil)))) (hName 5) (mTst (mCall0 g_keeps (mCons (mOp ixF (mVarT 0) (mT (ret (.int 1)))) (mCons (mVar 1) (mCons (mVar 5) (mCons (mVar 2) (mNil))))))) (mVar 5) [5]) (hName 3))
 (sSeq (sOwn (mLst (mNil)) 4)
 (sSeq (sFor (mSeqI (mVar 3)) (hName 5) (sSeq (sAsg (mLc (mSeqI (mVar 3)) (hName 7) (mAnd (mTst (mOp neF (mVarT 7) (mVarT 5))) (mTst (mCB allF (mCons (mT (mLc (mEnum (mCons (mVar 7) (mNil))) (hTup 2 (hCons (hName 8) (hCons (hName 9) (hNil)))) (mYes) (mOp leF (mVarT 9) (mT (mOp ixF (mVarT 5) (mVarT 8)))) [8, 9])) (mNil))))) (mVar 7) [7]) (hName 6))
 (sIf (mTst (mOp eqF (mVarT 6) (mT (mLst (mNil))))) (sAppend 4 (mVar 5)) (sNext))))
 (sRet (mCB tupleF (mCons (mVarT 4) (mNil))))))))
def g_least_rooms : List D → RR := callD 3 10 b_least_rooms
theorem sc_least_rooms : FnScope ["net", "stores", "pace", "good", "found", "rooms", "lesser", "one", "at", "a"] ["net", "stores", "pace"] (defScope s_least_rooms) := ⟨rfl, rfl, rfl, by decide +kernel, rfl, by decide +kernel, by decide +kernel⟩
theorem ok_least_rooms {P : Program} {w : World} {K : PySem.W.Frag} {mg : Str → Option Value} {base : Heap} {C : Str → Addr} (nm : Nm K mg C) (h : HasF K mg "least_rooms" s_least_rooms ["net", "stores", "pace"]) (D_need_stores : DefV P w K mg base (L2.CX P w) C "need_stores" ["net", "stores"] 7 g_need_stores) (D_is_pace : DefV P w K mg base CX0 C "is_pace" ["value"] 3 g_is_pace) (D_all_rooms : DefV P w K mg base CX0 C "all_rooms" ["many"] 1 g_all_rooms) (D_keeps : DefV P w K mg base CX0 C "keeps" ["rows", "stores", "rooms", "pace"] 5 g_keeps) : DefV P w K mg base (L2.CX P w) C "least_rooms" ["net", "stores", "pace"] 8 g_least_rooms := by
  have nd := sc_least_rooms.nd
  refine' def_vX (k := 7) (N := ["net", "stores", "pace", "good", "found", "rooms", "lesser", "one", "at", "a"]) h sc_least_rooms ?hb
  intro f cdv A outer s H E hr
  refine' ⟨_, ?hc⟩
  case hc =>
    intro B
    refine' jss_cons ?k973_0 ?k973_1
    case k973_0 =>
      refine' js_expr ?k974_0
      case k974_0 =>
        refine' je_call D_need_stores hr ?k975_0
        case k975_0 =>
          refine' ja_cons ?k976_0 ?k976_1
          case k976_0 =>
            exact je_var 0
          case k976_1 =>
            refine' ja_cons ?k977_0 ?k977_1
            case k977_0 =>
              exact je_var 1
            case k977_1 =>
              exact ja_nil
    case k973_1 =>
      refine' jss_cons ?k978_0 ?k978_1
      case k978_0 =>
        refine' js_if ?k979_0 ?k979_1 ?k979_2
        case k979_0 =>
          refine' jb_not ?k980_0
          case k980_0 =>
            refine' jb_val ?k981_0
            case k981_0 =>
              refine' je_call0 D_is_pace hr ?k982_0
              case k982_0 =>
                refine' ja_cons ?k983_0 ?k983_1
                case k983_0 =>
                  exact je_var 2
                case k983_1 =>
                  exact ja_nil
        case k979_1 =>
          refine' jss_one ?k984_0
          case k984_0 =>
            exact js_raise nm.X_InvalidNumber
        case k979_2 =>
          exact jss_nil
      case k978_1 =>
        refine' jss_cons ?k985_0 ?k985_1
        case k985_0 =>
          refine' js_setLc 3 (own := [("rooms", 5)]) (L := [5]) nd (blkOk_by (by kernel_rfl)) ?k986_0 ?k986_1 ?k986_2 ?k986_3 (sw_true rfl rfl rfl (by kernel_rfl))
          case k986_0 =>
            refine' ji_seq (K := K) ?k987_0
            case k987_0 =>
              refine' je_call0 D_all_rooms hr ?k988_0
              case k988_0 =>
                refine' ja_cons ?k989_0 ?k989_1
                case k989_0 =>
                  refine' je_cb (cK_len (K := K) rfl) okK_len PySem.boot_len nm.len ?k990_0
                  case k990_0 =>
                    refine' jar_cons ?k991_0 ?k991_1
                    case k991_0 =>
                      exact jr_var 1
                    case k991_1 =>
                      exact jar_nil
                case k989_1 =>
                  exact ja_nil
          case k986_1 =>
            intro _ _ _ _ _
            exact jg_name 5 nd
          case k986_2 =>
            intro _ _ _ _ _
            refine' jbs_one ?k992_0
            case k992_0 =>
              refine' jb_val ?k993_0
              case k993_0 =>
                refine' je_call0 D_keeps hr ?k994_0
                case k994_0 =>
                  refine' ja_cons ?k995_0 ?k995_1
                  case k995_0 =>
                    refine' je_ix (K := K) ?k996_0 ?k996_1
                    case k996_0 =>
                      exact jr_var 0
                    case k996_1 =>
                      refine' jr_of ?k997_0
                      case k997_0 =>
                        exact je_int
                  case k995_1 =>
                    refine' ja_cons ?k998_0 ?k998_1
                    case k998_0 =>
                      exact je_var 1
                    case k998_1 =>
                      refine' ja_cons ?k999_0 ?k999_1
                      case k999_0 =>
                        exact je_var 5
                      case k999_1 =>
                        refine' ja_cons ?k1000_0 ?k1000_1
                        case k1000_0 =>
                          exact je_var 2
                        case k1000_1 =>
                          exact ja_nil
          case k986_3 =>
            intro _ _ _ _ _
            exact je_var 5
        case k985_1 =>
          refine' jss_cons ?k1001_0 ?k1001_1
          case k1001_0 =>
            refine' js_own 4 nd ?k1002_0
            case k1002_0 =>
              refine' jf_lst ?k1003_0
              case k1003_0 =>
                exact ja_nil
          case k1001_1 =>
            refine' jss_cons ?k1004_0 ?k1004_1
            case k1004_0 =>
              refine' js_for pass_own ?k1005_0 ?k1005_1 ?k1005_2
              case k1005_0 =>
                refine' ji_seq (K := K) ?k1006_0
                case k1006_0 =>
                  exact je_var 3
              case k1005_1 =>
                exact jg_name 5 nd
              case k1005_2 =>
                refine' jss_cons ?k1007_0 ?k1007_1
                case k1007_0 =>
                  refine' js_setLc 6 (own := [("one", 7)]) (L := [7]) nd (blkOk_by (by kernel_rfl)) ?k1008_0 ?k1008_1 ?k1008_2 ?k1008_3 (sw_true rfl rfl rfl (by kernel_rfl))
                  case k1008_0 =>
                    refine' ji_seq (K := K) ?k1009_0
                    case k1009_0 =>
                      exact je_var 3
                  case k1008_1 =>
                    intro _ _ _ _ _
                    exact jg_name 7 nd
                  case k1008_2 =>
                    intro _ _ _ _ _
                    refine' jbs_one ?k1010_0
                    case k1010_0 =>
                      refine' jb_w ?k1011_0
                      case k1011_0 =>
                        refine' jw_and ?k1012_0 ?k1012_1
                        case k1012_0 =>
                          refine' jb_ne (K := K) hr.units ?k1013_0 ?k1013_1
                          case k1013_0 =>
                            exact jr_var 7
                          case k1013_1 =>
                            exact jr_var 5
                        case k1012_1 =>
                          refine' jw_and1 ?k1014_0
                          case k1014_0 =>
                            refine' jb_val ?k1015_0
                            case k1015_0 =>
                              refine' je_cb (cK_all (K := K) rfl rfl) ok_all PyProof.Rows.boot_all nm.all ?k1016_0
                              case k1016_0 =>
                                refine' jar_cons ?k1017_0 ?k1017_1
                                case k1017_0 =>
                                  refine' jr_of ?k1018_0
                                  case k1018_0 =>
                                    refine' je_of ?k1019_0
                                    case k1019_0 =>
                                      refine' jf_lc (own := [("at", 8), ("a", 9)]) (L := ([8] ++ ([9] ++ []))) nd (blkOk_by (by kernel_rfl)) ?k1020_0 ?k1020_1 ?k1020_2 ?k1020_3
                                      case k1020_0 =>
                                        refine' ji_enum (K := K) nm.enumerate ?k1021_0
                                        case k1021_0 =>
                                          refine' ja_cons ?k1022_0 ?k1022_1
                                          case k1022_0 =>
                                            exact je_var 7
                                          case k1022_1 =>
                                            exact ja_nil
                                      case k1020_1 =>
                                        intro _ _ _ _ _
                                        refine' jg_tup (K := K) ?k1023_0
                                        case k1023_0 =>
                                          refine' jgs_cons ?k1024_0 ?k1024_1
                                          case k1024_0 =>
                                            exact jg_name 8 nd
                                          case k1024_1 =>
                                            refine' jgs_cons ?k1025_0 ?k1025_1
                                            case k1025_0 =>
                                              exact jg_name 9 nd
                                            case k1025_1 =>
                                              exact jgs_nil
                                      case k1020_2 =>
                                        intro _ _ _ _ _
                                        exact jbs_nil
                                      case k1020_3 =>
                                        intro _ _ _ _ _
                                        refine' je_le ?k1026_0 ?k1026_1
                                        case k1026_0 =>
                                          exact jr_var 9
                                        case k1026_1 =>
                                          refine' jr_of ?k1027_0
                                          case k1027_0 =>
                                            refine' je_ix (K := K) ?k1028_0 ?k1028_1
                                            case k1028_0 =>
                                              exact jr_var 5
                                            case k1028_1 =>
                                              exact jr_var 8
                                case k1017_1 =>
                                  exact jar_nil
                  case k1008_3 =>
                    intro _ _ _ _ _
                    exact je_var 7
                case k1007_1 =>
                  refine' jss_one ?k1029_0
                  case k1029_0 =>
                    refine' js_if ?k1030_0 ?k1030_1 ?k1030_2
                    case k1030_0 =>
                      refine' jb_eq (K := K) hr.units ?k1031_0 ?k1031_1
                      case k1031_0 =>
                        exact jr_var 6
                      case k1031_1 =>
                        refine' jr_of ?k1032_0
                        case k1032_0 =>
                          refine' je_of ?k1033_0
                          case k1033_0 =>
                            refine' jf_lst ?k1034_0
                            case k1034_0 =>
                              exact ja_nil
                    case k1030_1 =>
                      refine' jss_one ?k1035_0
                      case k1035_0 =>
                        refine' js_append (K := K) 4 ?k1036_0
                        case k1036_0 =>
                          exact je_var 5
                    case k1030_2 =>
                      exact jss_nil
            case k1004_1 =>
              refine' jss_one ?k1037_0
              case k1037_0 =>
                refine' js_ret ?k1038_0
                case k1038_0 =>
                  refine' je_ct (cK_tuple (K := K) rfl) okK_tuple PyProof.Rows.boot_tuple nm.tuple ?k1039_0
                  case k1039_0 =>
                    refine' jar_cons ?k1040_0 ?k1040_1
                    case k1040_0 =>
                      exact jr_var 4
                    case k1040_1 =>
                      exact jar_nil


/-! ### _law_drawn -/
def b__law_drawn : S := sSeq (sAsg (mOp modF (mT (mOp addF (mT (mOp mulF (mVarT 0) (mT (ret (.int 6364136223846793005))))) (mT (mOp mulF (mT (mOp addF (mVarT 1) (mT (ret (.int 1))))) (mT (ret (.int 1442695040888963407))))))) (mT (ret (.int 340282366920938463463374607431768211507)))) (hName 2))
 (sSeq (sAsg (mOp modF (mT (mOp mulF (mVarT 2) (mVarT 2))) (mT (ret (.int 340282366920938463463374607431768211297)))) (hName 2))
 (sSeq (sAsg (mOp mulF (mT (mOp mulF (mT (mOp addF (mT (mOp modF (mVarT 2) (mT (ret (.int 18446744073709551557))))) (mT (ret (.int 1))))) (mT (mOp addF (mT (mOp fdivF (mVarT 2) (mT (ret (.int 18446744073709551557))))) (mT (ret (.int 1))))))) (mVarT 2)) (hName 2))
 (sRet (mOp modF (mVarT 2) (mT (ret (.int 340282366920938463463374607431768211507)))))))
def g__law_drawn : List D → RR := callD 2 3 b__law_drawn
theorem sc__law_drawn : FnScope ["cell", "k", "more"] ["cell", "k"] (defScope s__law_drawn) := ⟨rfl, rfl, rfl, by decide +kernel, rfl, by decide +kernel, by decide +kernel⟩
theorem ok__law_drawn {P : Program} {w : World} {K : PySem.W.Frag} {mg : Str → Option Value} {base : Heap} {C : Str → Addr} (nm : Nm K mg C) (h : HasF K mg "_law_drawn" s__law_drawn ["cell", "k"]) : DefV P w K mg base CX0 C "_law_drawn" ["cell", "k"] 1 g__law_drawn := by
  have nd := sc__law_drawn.nd
  refine' def_v0 (k := 0) (N := ["cell", "k", "more"]) h sc__law_drawn ?hb
  intro f cdv A outer s H E hr
  refine' ⟨_, ?hc⟩
  case hc =>
    intro B EX
    refine' jss_cons ?k1041_0 ?k1041_1
    case k1041_0 =>
      refine' js_set 2 nd ?k1042_0
      case k1042_0 =>
        refine' je_mod ?k1043_0 ?k1043_1
        case k1043_0 =>
          refine' jr_of ?k1044_0
          case k1044_0 =>
            refine' je_add (K := K) ?k1045_0 ?k1045_1
            case k1045_0 =>
              refine' jr_of ?k1046_0
              case k1046_0 =>
                refine' je_mul ?k1047_0 ?k1047_1
                case k1047_0 =>
                  exact jr_var 0
                case k1047_1 =>
                  refine' jr_of ?k1048_0
                  case k1048_0 =>
                    exact je_int
            case k1045_1 =>
              refine' jr_of ?k1049_0
              case k1049_0 =>
                refine' je_mul ?k1050_0 ?k1050_1
                case k1050_0 =>
                  refine' jr_of ?k1051_0
                  case k1051_0 =>
                    refine' je_add (K := K) ?k1052_0 ?k1052_1
                    case k1052_0 =>
                      exact jr_var 1
                    case k1052_1 =>
                      refine' jr_of ?k1053_0
                      case k1053_0 =>
                        exact je_int
                case k1050_1 =>
                  refine' jr_of ?k1054_0
                  case k1054_0 =>
                    exact je_int
        case k1043_1 =>
          refine' jr_of ?k1055_0
          case k1055_0 =>
            exact je_int
    case k1041_1 =>
      refine' jss_cons ?k1056_0 ?k1056_1
      case k1056_0 =>
        refine' js_set 2 nd ?k1057_0
        case k1057_0 =>
          refine' je_mod ?k1058_0 ?k1058_1
          case k1058_0 =>
            refine' jr_of ?k1059_0
            case k1059_0 =>
              refine' je_mul ?k1060_0 ?k1060_1
              case k1060_0 =>
                exact jr_var 2
              case k1060_1 =>
                exact jr_var 2
          case k1058_1 =>
            refine' jr_of ?k1061_0
            case k1061_0 =>
              exact je_int
      case k1056_1 =>
        refine' jss_cons ?k1062_0 ?k1062_1
        case k1062_0 =>
          refine' js_set 2 nd ?k1063_0
          case k1063_0 =>
            refine' je_mul ?k1064_0 ?k1064_1
            case k1064_0 =>
              refine' jr_of ?k1065_0
              case k1065_0 =>
                refine' je_mul ?k1066_0 ?k1066_1
                case k1066_0 =>
                  refine' jr_of ?k1067_0
                  case k1067_0 =>
                    refine' je_add (K := K) ?k1068_0 ?k1068_1
                    case k1068_0 =>
                      refine' jr_of ?k1069_0
                      case k1069_0 =>
                        refine' je_mod ?k1070_0 ?k1070_1
                        case k1070_0 =>
                          exact jr_var 2
                        case k1070_1 =>
                          refine' jr_of ?k1071_0
                          case k1071_0 =>
                            exact je_int
                    case k1068_1 =>
                      refine' jr_of ?k1072_0
                      case k1072_0 =>
                        exact je_int
                case k1066_1 =>
                  refine' jr_of ?k1073_0
                  case k1073_0 =>
                    refine' je_add (K := K) ?k1074_0 ?k1074_1
                    case k1074_0 =>
                      refine' jr_of ?k1075_0
                      case k1075_0 =>
                        refine' je_fdiv ?k1076_0 ?k1076_1
                        case k1076_0 =>
                          exact jr_var 2
                        case k1076_1 =>
                          refine' jr_of ?k1077_0
                          case k1077_0 =>
                            exact je_int
                    case k1074_1 =>
                      refine' jr_of ?k1078_0
                      case k1078_0 =>
                        exact je_int
            case k1064_1 =>
              exact jr_var 2
        case k1062_1 =>
          refine' jss_one ?k1079_0
          case k1079_0 =>
            refine' js_ret ?k1080_0
            case k1080_0 =>
              refine' je_mod ?k1081_0 ?k1081_1
              case k1081_0 =>
                exact jr_var 2
              case k1081_1 =>
                refine' jr_of ?k1082_0
                case k1082_0 =>
                  exact je_int


/-! ### _law_roll -/
def b__law_roll : S := sSeq (sIf (mTst (mOp geF (mT (mOp ixF (mVarT 0) (mT (ret (.int 0))))) (mT (mOp powF (mT (ret (.int 10))) (mT (ret (.int 18))))))) (sSeq (sAsg (mOp modF (mT (mOp ixF (mVarT 0) (mT (ret (.int 0))))) (mVarT 1)) (hName 2))
 (sSeq (sSetItem 0 (mOp fdivF (mT (mOp ixF (mVarT 0) (mT (ret (.int 0))))) (mVarT 1)) (ret (.int 0)))
 (sRet (mVar 2)))) (sNext))
 (sSeq (sSetItem 0 (mOp addF (mT (mOp ixF (mVarT 0) (mT (ret (.int 1))))) (mT (ret (.int 1)))) (ret (.int 1)))
 (sRet (mOp modF (mT (mOp fdivF (mT (mCall0 g__law_drawn (mCons (mOp ixF (mVarT 0) (mT (ret (.int 0)))) (mCons (mOp ixF (mVarT 0) (mT (ret (.int 1)))) (mNil))))) (mT (ret (.int 8))))) (mVarT 1))))
def c__law_roll : D → List D → RB := callB 2 3 b__law_roll
theorem sc__law_roll : FnScope ["dice", "many", "told"] ["dice", "many"] (defScope s__law_roll) := ⟨rfl, rfl, rfl, by decide +kernel, rfl, by decide +kernel, by decide +kernel⟩
theorem ok__law_roll {P : Program} {w : World} {K : PySem.W.Frag} {mg : Str → Option Value} {base : Heap} {C : Str → Addr} (nm : Nm K mg C) (h : HasF K mg "_law_roll" s__law_roll ["dice", "many"]) (D__law_drawn : DefV P w K mg base CX0 C "_law_drawn" ["cell", "k"] 1 g__law_drawn) : DefB P w K mg base CX0 C "_law_roll" ["dice", "many"] 2 (noEx c__law_roll) := by
  have nd := sc__law_roll.nd
  refine' def_b0 (k := 1) (y := "dice") (N := ["many", "told"]) h sc__law_roll ?hb
  intro f cdv A outer s H E hr
  refine' ⟨_, ?hc⟩
  case hc =>
    intro B EX
    refine' jss_cons ?k1083_0 ?k1083_1
    case k1083_0 =>
      refine' js_if ?k1084_0 ?k1084_1 ?k1084_2
      case k1084_0 =>
        refine' jb_ge ?k1085_0 ?k1085_1
        case k1085_0 =>
          refine' jr_of ?k1086_0
          case k1086_0 =>
            refine' je_ix (K := K) ?k1087_0 ?k1087_1
            case k1087_0 =>
              exact jr_var 0
            case k1087_1 =>
              refine' jr_of ?k1088_0
              case k1088_0 =>
                exact je_int
        case k1085_1 =>
          refine' jr_of ?k1089_0
          case k1089_0 =>
            refine' je_pow ?k1090_0 ?k1090_1
            case k1090_0 =>
              refine' jr_of ?k1091_0
              case k1091_0 =>
                exact je_int
            case k1090_1 =>
              refine' jr_of ?k1092_0
              case k1092_0 =>
                exact je_int
      case k1084_1 =>
        refine' jss_cons ?k1093_0 ?k1093_1
        case k1093_0 =>
          refine' js_set 2 nd ?k1094_0
          case k1094_0 =>
            refine' je_mod ?k1095_0 ?k1095_1
            case k1095_0 =>
              refine' jr_of ?k1096_0
              case k1096_0 =>
                refine' je_ix (K := K) ?k1097_0 ?k1097_1
                case k1097_0 =>
                  exact jr_var 0
                case k1097_1 =>
                  refine' jr_of ?k1098_0
                  case k1098_0 =>
                    exact je_int
            case k1095_1 =>
              exact jr_var 1
        case k1093_1 =>
          refine' jss_cons ?k1099_0 ?k1099_1
          case k1099_0 =>
            refine' js_setitem 0 ?k1100_0 ?k1100_1
            case k1100_0 =>
              refine' je_fdiv ?k1101_0 ?k1101_1
              case k1101_0 =>
                refine' jr_of ?k1102_0
                case k1102_0 =>
                  refine' je_ix (K := K) ?k1103_0 ?k1103_1
                  case k1103_0 =>
                    exact jr_var 0
                  case k1103_1 =>
                    refine' jr_of ?k1104_0
                    case k1104_0 =>
                      exact je_int
              case k1101_1 =>
                exact jr_var 1
            case k1100_1 =>
              exact je_int
          case k1099_1 =>
            refine' jss_one ?k1105_0
            case k1105_0 =>
              refine' js_ret ?k1106_0
              case k1106_0 =>
                exact je_var 2
      case k1084_2 =>
        exact jss_nil
    case k1083_1 =>
      refine' jss_cons ?k1107_0 ?k1107_1
      case k1107_0 =>
        refine' js_setitem 0 ?k1108_0 ?k1108_1
        case k1108_0 =>
          refine' je_add (K := K) ?k1109_0 ?k1109_1
          case k1109_0 =>
            refine' jr_of ?k1110_0
            case k1110_0 =>
              refine' je_ix (K := K) ?k1111_0 ?k1111_1
              case k1111_0 =>
                exact jr_var 0
              case k1111_1 =>
                refine' jr_of ?k1112_0
                case k1112_0 =>
                  exact je_int
          case k1109_1 =>
            refine' jr_of ?k1113_0
            case k1113_0 =>
              exact je_int
        case k1108_1 =>
          exact je_int
      case k1107_1 =>
        refine' jss_one ?k1114_0
        case k1114_0 =>
          refine' js_ret ?k1115_0
          case k1115_0 =>
            refine' je_mod ?k1116_0 ?k1116_1
            case k1116_0 =>
              refine' jr_of ?k1117_0
              case k1117_0 =>
                refine' je_fdiv ?k1118_0 ?k1118_1
                case k1118_0 =>
                  refine' jr_of ?k1119_0
                  case k1119_0 =>
                    refine' je_call0 D__law_drawn hr ?k1120_0
                    case k1120_0 =>
                      refine' ja_cons ?k1121_0 ?k1121_1
                      case k1121_0 =>
                        refine' je_ix (K := K) ?k1122_0 ?k1122_1
                        case k1122_0 =>
                          exact jr_var 0
                        case k1122_1 =>
                          refine' jr_of ?k1123_0
                          case k1123_0 =>
                            exact je_int
                      case k1121_1 =>
                        refine' ja_cons ?k1124_0 ?k1124_1
                        case k1124_0 =>
                          refine' je_ix (K := K) ?k1125_0 ?k1125_1
                          case k1125_0 =>
                            exact jr_var 0
                          case k1125_1 =>
                            refine' jr_of ?k1126_0
                            case k1126_0 =>
                              exact je_int
                        case k1124_1 =>
                          exact ja_nil
                case k1118_1 =>
                  refine' jr_of ?k1127_0
                  case k1127_0 =>
                    exact je_int
            case k1116_1 =>
              exact jr_var 1


/-! ### _law_cell, _law_rounds -/
theorem sc__law_cell : FnScope ["script", "k"] ["script", "k"] (defScope s__law_cell) := ⟨rfl, rfl, rfl, by decide +kernel, rfl, by decide +kernel, by decide +kernel⟩
theorem sc__law_rounds : FnScope ["script", "most", "k"] ["script", "most"] (defScope s__law_rounds) := ⟨rfl, rfl, rfl, by decide +kernel, rfl, by decide +kernel, by decide +kernel⟩
theorem ok__law_cell {P : Program} {w : World} {K : PySem.W.Frag} {mg : Str → Option Value} {base : Heap} {C : Str → Addr} (nm : Nm K mg C) (h : HasF K mg "_law_cell" s__law_cell ["script", "k"]) : DefS P w K mg base CX0 "_law_cell" ["script", "k"] 1 (spCellS K) := by
  have nd := sc__law_cell.nd
  obtain ⟨f, fd, F, hm, hb⟩ := h
  refine ⟨f, fd, F.ok (k := 0) sc__law_cell (fun vs H Q E h => ?_) (fun cdv A outer s H vs Q E hr h => ⟨tCellS K, PSs.nox ?_, cell_run h⟩), hm, F.kp, hb⟩
  · obtain ⟨a, ns, k, rfl, _⟩ := h
    rfl
  · have j : ∀ B EX, ∃ ff, JSs (cxOf CX0 P w K mg base ["script", "k"] "_law_cell" (defScope s__law_cell) f cdv A outer s H E).nox B EX (defBody s__law_cell) (tCellS K) ff := fun B EX => ⟨_, jss_cons (js_if (jb_eq (K := K) hr.units (jr_var 0) (jr_of (je_of (jf_lst ja_nil)))) (jss_one (js_ret (je_mul (jr_var 1) (jr_of je_int)))) jss_nil)
        (jss_one (js_ret (je_add (K := K) (jr_of (je_ix (K := K) (jr_var 0) (jr_of (je_mod (jr_var 1) (jr_of (je_cb (cK_len (K := K) rfl) okK_len PySem.boot_len nm.len (jar_cons (jr_var 0) jar_nil))))))) (jr_of (je_mul (jr_of (je_fdiv (jr_var 1) (jr_of (je_cb (cK_len (K := K) rfl) okK_len PySem.boot_len nm.len (jar_cons (jr_var 0) jar_nil))))) (jr_of je_int))))))⟩
    obtain ⟨_, q⟩ := j ⟨H, H, []⟩ EX0
    exact q.p
theorem ok__law_rounds {P : Program} {w : World} {K : PySem.W.Frag} {mg : Str → Option Value} {base : Heap} {C : Str → Addr} (nm : Nm K mg C) (h : HasF K mg "_law_rounds" s__law_rounds ["script", "most"]) (D : DefS P w K mg base CX0 "_law_cell" ["script", "k"] 1 (spCellS K)) : DefS P w K mg base CX0 "_law_rounds" ["script", "most"] 2 (spRoundsS K) := by
  have nd := sc__law_rounds.nd
  obtain ⟨f, fd, F, hm, hb⟩ := h
  obtain ⟨f2, fd2, F2, hm2, hk2, hb2⟩ := D
  refine ⟨f, fd, F.ok (k := 1) sc__law_rounds (fun vs H Q E h => ?_) (fun cdv A outer s H vs Q E hr h => ⟨tRoundsS K, PSs.nox ?_, rounds_run h⟩), hm, F.kp, hb⟩
  · obtain ⟨a, ns, k, rfl, _⟩ := h
    rfl
  · refine pss_one (ps_ret (pe_lc (own := [("k", 2)]) rfl nd (pi_range1 rfl nm.range (pa_cons (pe_callB (call_max2 rfl) rfl nm.max PyProof.Rows.boot_max (pa_cons pe_int (pa_cons (pe_callB (call_min2 rfl) rfl nm.min PyProof.Rows.boot_min (pa_cons (pv 1) (pa_cons (pe_callB (cK_len (K := K) rfl) rfl nm.len PySem.boot_len (pa_cons (pv 0) pa_nil)) pa_nil))) pa_nil))) pa_nil)) (blkOk_by (by kernel_rfl)) (fun _ _ _ _ _ => ?_) (fun _ _ _ _ _ => ?_) (fun _ _ _ _ _ => ?_)))
    · exact pg_name (i := 2) nd rfl (by first | exact Or.inl rfl | exact Or.inr rfl)
    · exact pts_nil
    · exact pe_lst (pa_cons (pe_call F2 hr rfl hm2 hk2 hb2 .nil pass0 (pa_cons (pv 0) (pa_cons (pv 2) pa_nil))) (pa_cons pe_int pa_nil))

/-! ### law -/
abbrev lawN : List Str := ["script", "dice", "a", "b", "d", "net", "last", "room", "asked_pace", "due", "twice", "own", "told", "top", "bottom"]
def b_law : S := sSeq (sPar [false, false, false] [2, 3, 4] (mCons (mCallB (noEx c__law_roll) 1 (mCons (ret (.int 10)) (mNil))) (mCons (mCallB (noEx c__law_roll) 1 (mCons (ret (.int 10)) (mNil))) (mCons (mCallB (noEx c__law_roll) 1 (mCons (ret (.int 10)) (mNil))) (mNil)))))
 (sSeq (sAsg (mTup (mCons (ret (.int 0)) (mCons (mTup (mCons (mTup (mCons (mTup (mCons (ret (.str "s")) (mCons (ret (.int 0)) (mCons (ret (.int 0)) (mNil))))) (mCons (mTup (mCons (ret (.str "e0")) (mCons (mVar 2) (mCons (ret (.int 1)) (mNil))))) (mNil)))) (mCons (mTup (mCons (mTup (mCons (ret (.str "e0")) (mCons (mVar 4) (mCons (ret (.int 0)) (mNil))))) (mCons (mTup (mCons (ret (.str "e1")) (mCons (mVar 3) (mCons (ret (.int 1)) (mNil))))) (mNil)))) (mNil)))) (mCons (mTup (mCons (ret (.int 1)) (mNil))) (mNil))))) (hName 5))
 (sSeq (sIf (mOr (mTst (mOp neF (mT (mCall g_slowest (mCons (mVar 5) (mNil)))) (mT (mTup (mCons (mCB max2F (mCons (mVarT 2) (mCons (mVarT 3) (mNil)))) (mCons (ret (.int 1)) (mNil))))))) (mOr (mTst (mOp neF (mT (mCall g_pace (mCons (mVar 5) (mCons (ret (.int 1)) (mNil))))) (mT (mTup (mCons (mCB max2F (mCons (mVarT 2) (mCons (mVarT 3) (mNil)))) (mCons (ret (.int 1)) (mNil))))))) (mTst (mOp neF (mT (mCall g_pace (mCons (mVar 5) (mCons (ret (.int 0)) (mNil))))) (mT (mTup (mCons (mVar 2) (mCons (ret (.int 1)) (mNil))))))))) (sRet (ret (.bool false))) (sNext))
 (sSeq (sAsg (ret .none) (hName 6))
 (sSeq (sFor (mRng2 (mCons (ret (.int 1)) (mCons (ret (.int 7)) (mNil)))) (hName 7) (sSeq (sAsg (mCall g_slowest_with (mCons (mVar 5) (mCons (mTup (mCons (mTup (mCons (ret (.int 0)) (mCons (ret (.int 1)) (mNil)))) (mNil))) (mCons (mTup (mCons (mVar 7) (mNil))) (mNil))))) (hName 12))
 (sSeq (sAsg (mIf (mTst (mOp gtF (mVarT 4) (mT (mOp mulF (mT (mCB max2F (mCons (mVarT 2) (mCons (mVarT 3) (mNil))))) (mVarT 7))))) (mTup (mCons (mVar 4) (mCons (mVar 7) (mNil)))) (mTup (mCons (mCB max2F (mCons (mVarT 2) (mCons (mVarT 3) (mNil)))) (mCons (ret (.int 1)) (mNil))))) (hTup 2 (hCons (hName 13) (hCons (hName 14) (hNil)))))
 (sSeq (sIf (mTst (mOp neF (mT (mOp mulF (mT (mOp ixF (mVarT 12) (mT (ret (.int 0))))) (mVarT 14))) (mT (mOp mulF (mVarT 13) (mT (mOp ixF (mVarT 12) (mT (ret (.int 1))))))))) (sRet (ret (.bool false))) (sNext))
 (sSeq (sIf (mAnd (mTst (mOp (isF true) (mVarT 6) (mT (ret .none)))) (mTst (mOp gtF (mT (mOp mulF (mT (mOp ixF (mVarT 12) (mT (ret (.int 0))))) (mT (mOp ixF (mVarT 6) (mT (ret (.int 1))))))) (mT (mOp mulF (mT (mOp ixF (mVarT 6) (mT (ret (.int 0))))) (mT (mOp ixF (mVarT 12) (mT (ret (.int 1)))))))))) (sRet (ret (.bool false))) (sNext))
 (sAsg (mVar 12) (hName 6)))))))
 (sSeq (sAsg (mTup (mCons (mOp addF (mT (mCB max3F (mCons (mVarT 2) (mCons (mVarT 3) (mCons (mT (ret (.int 1))) (mNil)))))) (mT (mCallB (noEx c__law_roll) 1 (mCons (ret (.int 3)) (mNil))))) (mCons (ret (.int 1)) (mNil)))) (hName 8))
 (sSeq (sAsg (mCB max2F (mCons (mT (ret (.int 1))) (mCons (mT (mOp fdivF (mT (mOp subF (mT (mOp addF (mVarT 4) (mT (mOp ixF (mVarT 8) (mT (ret (.int 0))))))) (mT (ret (.int 1))))) (mT (mOp ixF (mVarT 8) (mT (ret (.int 0))))))) (mNil)))) (hName 7))
 (sSeq (sAsg (mIf (mTst (mOp leF (mVarT 7) (mT (ret (.int 6))))) (mTup (mCons (mTup (mCons (mVar 7) (mNil))) (mNil))) (mTup (mNil))) (hName 9))
 (sSeq (sIf (mTst (mOp neF (mT (mCall g_least_rooms (mCons (mVar 5) (mCons (mTup (mCons (mTup (mCons (ret (.int 0)) (mCons (ret (.int 1)) (mNil)))) (mNil))) (mCons (mVar 8) (mNil)))))) (mVarT 9))) (sRet (ret (.bool false))) (sNext))
 (sSeq (sAsg (mCall g_least_rooms (mCons (mVar 5) (mCons (mTup (mCons (mTup (mCons (ret (.int 0)) (mCons (ret (.int 1)) (mNil)))) (mCons (mTup (mCons (ret (.int 0)) (mCons (ret (.int 1)) (mNil)))) (mNil)))) (mCons (mVar 8) (mNil))))) (hName 10))
 (sSeq (sIf (mTst (mOp neF (mVarT 10) (mT (mIf (mTst (mOp leF (mVarT 7) (mT (ret (.int 6))))) (mTup (mCons (mTup (mCons (mVar 7) (mCons (mVar 7) (mNil)))) (mNil))) (mTup (mNil)))))) (sRet (ret (.bool false))) (sNext))
 (sSeq (sIf (mAnd (mTst (mOp gtF (mT (mCB max2F (mCons (mVarT 2) (mCons (mVarT 3) (mNil))))) (mT (ret (.int 0))))) (mTst (mOp neF (mT (mCall g_least_rooms (mCons (mVar 5) (mCons (mTup (mCons (mTup (mCons (ret (.int 0)) (mCons (ret (.int 1)) (mNil)))) (mNil))) (mCons (mTup (mCons (mOp subF (mT (mCB max2F (mCons (mVarT 2) (mCons (mVarT 3) (mNil))))) (mT (ret (.int 1)))) (mCons (ret (.int 1)) (mNil)))) (mNil)))))) (mT (mTup (mNil)))))) (sRet (ret (.bool false))) (sNext))
 (sSeq (sAsg (mCall g_slowest_with (mCons (mVar 5) (mCons (mTup (mCons (mTup (mCons (ret (.int 0)) (mCons (ret (.int 0)) (mNil)))) (mNil))) (mCons (mTup (mCons (ret (.int 2)) (mNil))) (mNil))))) (hName 11))
 (sIf (mTst (mOp neF (mVarT 11) (mT (mTup (mCons (mCB max2F (mCons (mVarT 2) (mCons (mVarT 3) (mNil)))) (mCons (ret (.int 1)) (mNil))))))) (sRet (ret (.bool false))) (sNext))))))))))))))
theorem sc_law : FnScope lawN ["script"] (defScope s_law) := ⟨rfl, rfl, rfl, by decide +kernel, rfl, by decide +kernel, by decide +kernel⟩
theorem ok_law {P : Program} {w : World} {K : PySem.W.Frag} {mg : Str → Option Value} {base : Heap} {C : Str → Addr} (nm : Nm K mg C) {f : Addr} {fd : FuncData} (F : FnP K "law" s_law f fd) (DR : DefS P w K mg base CX0 "_law_rounds" ["script", "most"] 2 (spRoundsS K)) (D__law_roll : DefB P w K mg base CX0 C "_law_roll" ["dice", "many"] 2 (noEx c__law_roll)) (D_slowest : DefV P w K mg base (L2.CX P w) C "slowest" ["net"] 7 g_slowest) (D_pace : DefV P w K mg base (L2.CX P w) C "pace" ["net", "event"] 8 g_pace) (D_slowest_with : DefV P w K mg base (L2.CX P w) C "slowest_with" ["net", "stores", "rooms"] 8 g_slowest_with) (D_least_rooms : DefV P w K mg base (L2.CX P w) C "least_rooms" ["net", "stores", "pace"] 8 g_least_rooms) (rk : RoundOk lawN.length b_law) : FnOk P w K mg base (L2.CX P w) 9 f fd ["script"] (spLawS K) := by
  have nd := sc_law.nd
  obtain ⟨f2, fd2, F2, hm2, hk2, hb2⟩ := DR
  refine F.ok (k := 8) sc_law (fun vs H Q E h => ?_) (fun cdv A outer s H vs Q E hr h => ?_)
  · obtain ⟨a, ns, rfl, _⟩ := h
    rfl
  · have j : ∃ t, ∀ B : Bd, JSs (cxOf (L2.CX P w) P w K mg base lawN "law" (defScope s_law) f cdv A outer s H E) B (fun c H' => E (.ref (C c)) none H') (forBody (defBody s_law)) t b_law := by
      refine' ⟨_, ?hc⟩
      case hc =>
        intro B
        refine' jss_cons ?k1128_0 ?k1128_1
        case k1128_0 =>
          refine' js_par3 2 3 4 nd ?k1129_0
          case k1129_0 =>
            refine' jam_cons ?k1130_0 ?k1130_1
            case k1130_0 =>
              refine' je_callB0 1 D__law_roll hr ?k1131_0
              case k1131_0 =>
                refine' ja_cons ?k1132_0 ?k1132_1
                case k1132_0 =>
                  exact je_int
                case k1132_1 =>
                  exact ja_nil
            case k1130_1 =>
              refine' jam_cons ?k1133_0 ?k1133_1
              case k1133_0 =>
                refine' je_callB0 1 D__law_roll hr ?k1134_0
                case k1134_0 =>
                  refine' ja_cons ?k1135_0 ?k1135_1
                  case k1135_0 =>
                    exact je_int
                  case k1135_1 =>
                    exact ja_nil
              case k1133_1 =>
                refine' jam_cons ?k1136_0 ?k1136_1
                case k1136_0 =>
                  refine' je_callB0 1 D__law_roll hr ?k1137_0
                  case k1137_0 =>
                    refine' ja_cons ?k1138_0 ?k1138_1
                    case k1138_0 =>
                      exact je_int
                    case k1138_1 =>
                      exact ja_nil
                case k1136_1 =>
                  exact jam_nil
        case k1128_1 =>
          refine' jss_cons ?k1139_0 ?k1139_1
          case k1139_0 =>
            refine' js_set 5 nd ?k1140_0
            case k1140_0 =>
              refine' je_tup ?k1141_0
              case k1141_0 =>
                refine' ja_cons ?k1142_0 ?k1142_1
                case k1142_0 =>
                  exact je_int
                case k1142_1 =>
                  refine' ja_cons ?k1143_0 ?k1143_1
                  case k1143_0 =>
                    refine' je_tup ?k1144_0
                    case k1144_0 =>
                      refine' ja_cons ?k1145_0 ?k1145_1
                      case k1145_0 =>
                        refine' je_tup ?k1146_0
                        case k1146_0 =>
                          refine' ja_cons ?k1147_0 ?k1147_1
                          case k1147_0 =>
                            refine' je_tup ?k1148_0
                            case k1148_0 =>
                              refine' ja_cons ?k1149_0 ?k1149_1
                              case k1149_0 =>
                                exact je_str
                              case k1149_1 =>
                                refine' ja_cons ?k1150_0 ?k1150_1
                                case k1150_0 =>
                                  exact je_int
                                case k1150_1 =>
                                  refine' ja_cons ?k1151_0 ?k1151_1
                                  case k1151_0 =>
                                    exact je_int
                                  case k1151_1 =>
                                    exact ja_nil
                          case k1147_1 =>
                            refine' ja_cons ?k1152_0 ?k1152_1
                            case k1152_0 =>
                              refine' je_tup ?k1153_0
                              case k1153_0 =>
                                refine' ja_cons ?k1154_0 ?k1154_1
                                case k1154_0 =>
                                  exact je_str
                                case k1154_1 =>
                                  refine' ja_cons ?k1155_0 ?k1155_1
                                  case k1155_0 =>
                                    exact je_var 2
                                  case k1155_1 =>
                                    refine' ja_cons ?k1156_0 ?k1156_1
                                    case k1156_0 =>
                                      exact je_int
                                    case k1156_1 =>
                                      exact ja_nil
                            case k1152_1 =>
                              exact ja_nil
                      case k1145_1 =>
                        refine' ja_cons ?k1157_0 ?k1157_1
                        case k1157_0 =>
                          refine' je_tup ?k1158_0
                          case k1158_0 =>
                            refine' ja_cons ?k1159_0 ?k1159_1
                            case k1159_0 =>
                              refine' je_tup ?k1160_0
                              case k1160_0 =>
                                refine' ja_cons ?k1161_0 ?k1161_1
                                case k1161_0 =>
                                  exact je_str
                                case k1161_1 =>
                                  refine' ja_cons ?k1162_0 ?k1162_1
                                  case k1162_0 =>
                                    exact je_var 4
                                  case k1162_1 =>
                                    refine' ja_cons ?k1163_0 ?k1163_1
                                    case k1163_0 =>
                                      exact je_int
                                    case k1163_1 =>
                                      exact ja_nil
                            case k1159_1 =>
                              refine' ja_cons ?k1164_0 ?k1164_1
                              case k1164_0 =>
                                refine' je_tup ?k1165_0
                                case k1165_0 =>
                                  refine' ja_cons ?k1166_0 ?k1166_1
                                  case k1166_0 =>
                                    exact je_str
                                  case k1166_1 =>
                                    refine' ja_cons ?k1167_0 ?k1167_1
                                    case k1167_0 =>
                                      exact je_var 3
                                    case k1167_1 =>
                                      refine' ja_cons ?k1168_0 ?k1168_1
                                      case k1168_0 =>
                                        exact je_int
                                      case k1168_1 =>
                                        exact ja_nil
                              case k1164_1 =>
                                exact ja_nil
                        case k1157_1 =>
                          exact ja_nil
                  case k1143_1 =>
                    refine' ja_cons ?k1169_0 ?k1169_1
                    case k1169_0 =>
                      refine' je_tup ?k1170_0
                      case k1170_0 =>
                        refine' ja_cons ?k1171_0 ?k1171_1
                        case k1171_0 =>
                          exact je_int
                        case k1171_1 =>
                          exact ja_nil
                    case k1169_1 =>
                      exact ja_nil
          case k1139_1 =>
            refine' jss_cons ?k1172_0 ?k1172_1
            case k1172_0 =>
              refine' js_if ?k1173_0 ?k1173_1 ?k1173_2
              case k1173_0 =>
                refine' jb_w ?k1174_0
                case k1174_0 =>
                  refine' jw_or ?k1175_0 ?k1175_1
                  case k1175_0 =>
                    refine' jb_ne (K := K) hr.units ?k1176_0 ?k1176_1
                    case k1176_0 =>
                      refine' jr_of ?k1177_0
                      case k1177_0 =>
                        refine' je_call D_slowest hr ?k1178_0
                        case k1178_0 =>
                          refine' ja_cons ?k1179_0 ?k1179_1
                          case k1179_0 =>
                            exact je_var 5
                          case k1179_1 =>
                            exact ja_nil
                    case k1176_1 =>
                      refine' jr_of ?k1180_0
                      case k1180_0 =>
                        refine' je_tup ?k1181_0
                        case k1181_0 =>
                          refine' ja_cons ?k1182_0 ?k1182_1
                          case k1182_0 =>
                            refine' je_cb (call_max2 rfl) ok_max2 PyProof.Rows.boot_max nm.max ?k1183_0
                            case k1183_0 =>
                              refine' jar_cons ?k1184_0 ?k1184_1
                              case k1184_0 =>
                                exact jr_var 2
                              case k1184_1 =>
                                refine' jar_cons ?k1185_0 ?k1185_1
                                case k1185_0 =>
                                  exact jr_var 3
                                case k1185_1 =>
                                  exact jar_nil
                          case k1182_1 =>
                            refine' ja_cons ?k1186_0 ?k1186_1
                            case k1186_0 =>
                              exact je_int
                            case k1186_1 =>
                              exact ja_nil
                  case k1175_1 =>
                    refine' jw_or ?k1187_0 ?k1187_1
                    case k1187_0 =>
                      refine' jb_ne (K := K) hr.units ?k1188_0 ?k1188_1
                      case k1188_0 =>
                        refine' jr_of ?k1189_0
                        case k1189_0 =>
                          refine' je_call D_pace hr ?k1190_0
                          case k1190_0 =>
                            refine' ja_cons ?k1191_0 ?k1191_1
                            case k1191_0 =>
                              exact je_var 5
                            case k1191_1 =>
                              refine' ja_cons ?k1192_0 ?k1192_1
                              case k1192_0 =>
                                exact je_int
                              case k1192_1 =>
                                exact ja_nil
                      case k1188_1 =>
                        refine' jr_of ?k1193_0
                        case k1193_0 =>
                          refine' je_tup ?k1194_0
                          case k1194_0 =>
                            refine' ja_cons ?k1195_0 ?k1195_1
                            case k1195_0 =>
                              refine' je_cb (call_max2 rfl) ok_max2 PyProof.Rows.boot_max nm.max ?k1196_0
                              case k1196_0 =>
                                refine' jar_cons ?k1197_0 ?k1197_1
                                case k1197_0 =>
                                  exact jr_var 2
                                case k1197_1 =>
                                  refine' jar_cons ?k1198_0 ?k1198_1
                                  case k1198_0 =>
                                    exact jr_var 3
                                  case k1198_1 =>
                                    exact jar_nil
                            case k1195_1 =>
                              refine' ja_cons ?k1199_0 ?k1199_1
                              case k1199_0 =>
                                exact je_int
                              case k1199_1 =>
                                exact ja_nil
                    case k1187_1 =>
                      refine' jw_or1 ?k1200_0
                      case k1200_0 =>
                        refine' jb_ne (K := K) hr.units ?k1201_0 ?k1201_1
                        case k1201_0 =>
                          refine' jr_of ?k1202_0
                          case k1202_0 =>
                            refine' je_call D_pace hr ?k1203_0
                            case k1203_0 =>
                              refine' ja_cons ?k1204_0 ?k1204_1
                              case k1204_0 =>
                                exact je_var 5
                              case k1204_1 =>
                                refine' ja_cons ?k1205_0 ?k1205_1
                                case k1205_0 =>
                                  exact je_int
                                case k1205_1 =>
                                  exact ja_nil
                        case k1201_1 =>
                          refine' jr_of ?k1206_0
                          case k1206_0 =>
                            refine' je_tup ?k1207_0
                            case k1207_0 =>
                              refine' ja_cons ?k1208_0 ?k1208_1
                              case k1208_0 =>
                                exact je_var 2
                              case k1208_1 =>
                                refine' ja_cons ?k1209_0 ?k1209_1
                                case k1209_0 =>
                                  exact je_int
                                case k1209_1 =>
                                  exact ja_nil
              case k1173_1 =>
                refine' jss_one ?k1210_0
                case k1210_0 =>
                  refine' js_ret ?k1211_0
                  case k1211_0 =>
                    exact je_bl
              case k1173_2 =>
                exact jss_nil
            case k1172_1 =>
              refine' jss_cons ?k1212_0 ?k1212_1
              case k1212_0 =>
                refine' js_set 6 nd ?k1213_0
                case k1213_0 =>
                  exact je_non
              case k1212_1 =>
                refine' jss_cons ?k1214_0 ?k1214_1
                case k1214_0 =>
                  refine' js_for pass_own ?k1215_0 ?k1215_1 ?k1215_2
                  case k1215_0 =>
                    refine' ji_rng2 nm.range ?k1216_0
                    case k1216_0 =>
                      refine' ja_cons ?k1217_0 ?k1217_1
                      case k1217_0 =>
                        exact je_int
                      case k1217_1 =>
                        refine' ja_cons ?k1218_0 ?k1218_1
                        case k1218_0 =>
                          exact je_int
                        case k1218_1 =>
                          exact ja_nil
                  case k1215_1 =>
                    exact jg_name 7 nd
                  case k1215_2 =>
                    refine' jss_cons ?k1219_0 ?k1219_1
                    case k1219_0 =>
                      refine' js_set 12 nd ?k1220_0
                      case k1220_0 =>
                        refine' je_call D_slowest_with hr ?k1221_0
                        case k1221_0 =>
                          refine' ja_cons ?k1222_0 ?k1222_1
                          case k1222_0 =>
                            exact je_var 5
                          case k1222_1 =>
                            refine' ja_cons ?k1223_0 ?k1223_1
                            case k1223_0 =>
                              refine' je_tup ?k1224_0
                              case k1224_0 =>
                                refine' ja_cons ?k1225_0 ?k1225_1
                                case k1225_0 =>
                                  refine' je_tup ?k1226_0
                                  case k1226_0 =>
                                    refine' ja_cons ?k1227_0 ?k1227_1
                                    case k1227_0 =>
                                      exact je_int
                                    case k1227_1 =>
                                      refine' ja_cons ?k1228_0 ?k1228_1
                                      case k1228_0 =>
                                        exact je_int
                                      case k1228_1 =>
                                        exact ja_nil
                                case k1225_1 =>
                                  exact ja_nil
                            case k1223_1 =>
                              refine' ja_cons ?k1229_0 ?k1229_1
                              case k1229_0 =>
                                refine' je_tup ?k1230_0
                                case k1230_0 =>
                                  refine' ja_cons ?k1231_0 ?k1231_1
                                  case k1231_0 =>
                                    exact je_var 7
                                  case k1231_1 =>
                                    exact ja_nil
                              case k1229_1 =>
                                exact ja_nil
                    case k1219_1 =>
                      refine' jss_cons ?k1232_0 ?k1232_1
                      case k1232_0 =>
                        refine' js_asg ?k1233_0 ?k1233_1
                        case k1233_0 =>
                          refine' je_if ?k1234_0 ?k1234_1 ?k1234_2
                          case k1234_0 =>
                            refine' jb_gt ?k1235_0 ?k1235_1
                            case k1235_0 =>
                              exact jr_var 4
                            case k1235_1 =>
                              refine' jr_of ?k1236_0
                              case k1236_0 =>
                                refine' je_mul ?k1237_0 ?k1237_1
                                case k1237_0 =>
                                  refine' jr_of ?k1238_0
                                  case k1238_0 =>
                                    refine' je_cb (call_max2 rfl) ok_max2 PyProof.Rows.boot_max nm.max ?k1239_0
                                    case k1239_0 =>
                                      refine' jar_cons ?k1240_0 ?k1240_1
                                      case k1240_0 =>
                                        exact jr_var 2
                                      case k1240_1 =>
                                        refine' jar_cons ?k1241_0 ?k1241_1
                                        case k1241_0 =>
                                          exact jr_var 3
                                        case k1241_1 =>
                                          exact jar_nil
                                case k1237_1 =>
                                  exact jr_var 7
                          case k1234_1 =>
                            refine' je_tup ?k1242_0
                            case k1242_0 =>
                              refine' ja_cons ?k1243_0 ?k1243_1
                              case k1243_0 =>
                                exact je_var 4
                              case k1243_1 =>
                                refine' ja_cons ?k1244_0 ?k1244_1
                                case k1244_0 =>
                                  exact je_var 7
                                case k1244_1 =>
                                  exact ja_nil
                          case k1234_2 =>
                            refine' je_tup ?k1245_0
                            case k1245_0 =>
                              refine' ja_cons ?k1246_0 ?k1246_1
                              case k1246_0 =>
                                refine' je_cb (call_max2 rfl) ok_max2 PyProof.Rows.boot_max nm.max ?k1247_0
                                case k1247_0 =>
                                  refine' jar_cons ?k1248_0 ?k1248_1
                                  case k1248_0 =>
                                    exact jr_var 2
                                  case k1248_1 =>
                                    refine' jar_cons ?k1249_0 ?k1249_1
                                    case k1249_0 =>
                                      exact jr_var 3
                                    case k1249_1 =>
                                      exact jar_nil
                              case k1246_1 =>
                                refine' ja_cons ?k1250_0 ?k1250_1
                                case k1250_0 =>
                                  exact je_int
                                case k1250_1 =>
                                  exact ja_nil
                        case k1233_1 =>
                          refine' jg_tup (K := K) ?k1251_0
                          case k1251_0 =>
                            refine' jgs_cons ?k1252_0 ?k1252_1
                            case k1252_0 =>
                              exact jg_name 13 nd
                            case k1252_1 =>
                              refine' jgs_cons ?k1253_0 ?k1253_1
                              case k1253_0 =>
                                exact jg_name 14 nd
                              case k1253_1 =>
                                exact jgs_nil
                      case k1232_1 =>
                        refine' jss_cons ?k1254_0 ?k1254_1
                        case k1254_0 =>
                          refine' js_if ?k1255_0 ?k1255_1 ?k1255_2
                          case k1255_0 =>
                            refine' jb_ne (K := K) hr.units ?k1256_0 ?k1256_1
                            case k1256_0 =>
                              refine' jr_of ?k1257_0
                              case k1257_0 =>
                                refine' je_mul ?k1258_0 ?k1258_1
                                case k1258_0 =>
                                  refine' jr_of ?k1259_0
                                  case k1259_0 =>
                                    refine' je_ix (K := K) ?k1260_0 ?k1260_1
                                    case k1260_0 =>
                                      exact jr_var 12
                                    case k1260_1 =>
                                      refine' jr_of ?k1261_0
                                      case k1261_0 =>
                                        exact je_int
                                case k1258_1 =>
                                  exact jr_var 14
                            case k1256_1 =>
                              refine' jr_of ?k1262_0
                              case k1262_0 =>
                                refine' je_mul ?k1263_0 ?k1263_1
                                case k1263_0 =>
                                  exact jr_var 13
                                case k1263_1 =>
                                  refine' jr_of ?k1264_0
                                  case k1264_0 =>
                                    refine' je_ix (K := K) ?k1265_0 ?k1265_1
                                    case k1265_0 =>
                                      exact jr_var 12
                                    case k1265_1 =>
                                      refine' jr_of ?k1266_0
                                      case k1266_0 =>
                                        exact je_int
                          case k1255_1 =>
                            refine' jss_one ?k1267_0
                            case k1267_0 =>
                              refine' js_ret ?k1268_0
                              case k1268_0 =>
                                exact je_bl
                          case k1255_2 =>
                            exact jss_nil
                        case k1254_1 =>
                          refine' jss_cons ?k1269_0 ?k1269_1
                          case k1269_0 =>
                            refine' js_if ?k1270_0 ?k1270_1 ?k1270_2
                            case k1270_0 =>
                              refine' jb_w ?k1271_0
                              case k1271_0 =>
                                refine' jw_and ?k1272_0 ?k1272_1
                                case k1272_0 =>
                                  refine' jb_isnot ?k1273_0 ?k1273_1
                                  case k1273_0 =>
                                    exact jr_var 6
                                  case k1273_1 =>
                                    refine' jr_of ?k1274_0
                                    case k1274_0 =>
                                      exact je_non
                                case k1272_1 =>
                                  refine' jw_and1 ?k1275_0
                                  case k1275_0 =>
                                    refine' jb_gt ?k1276_0 ?k1276_1
                                    case k1276_0 =>
                                      refine' jr_of ?k1277_0
                                      case k1277_0 =>
                                        refine' je_mul ?k1278_0 ?k1278_1
                                        case k1278_0 =>
                                          refine' jr_of ?k1279_0
                                          case k1279_0 =>
                                            refine' je_ix (K := K) ?k1280_0 ?k1280_1
                                            case k1280_0 =>
                                              exact jr_var 12
                                            case k1280_1 =>
                                              refine' jr_of ?k1281_0
                                              case k1281_0 =>
                                                exact je_int
                                        case k1278_1 =>
                                          refine' jr_of ?k1282_0
                                          case k1282_0 =>
                                            refine' je_ix (K := K) ?k1283_0 ?k1283_1
                                            case k1283_0 =>
                                              exact jr_var 6
                                            case k1283_1 =>
                                              refine' jr_of ?k1284_0
                                              case k1284_0 =>
                                                exact je_int
                                    case k1276_1 =>
                                      refine' jr_of ?k1285_0
                                      case k1285_0 =>
                                        refine' je_mul ?k1286_0 ?k1286_1
                                        case k1286_0 =>
                                          refine' jr_of ?k1287_0
                                          case k1287_0 =>
                                            refine' je_ix (K := K) ?k1288_0 ?k1288_1
                                            case k1288_0 =>
                                              exact jr_var 6
                                            case k1288_1 =>
                                              refine' jr_of ?k1289_0
                                              case k1289_0 =>
                                                exact je_int
                                        case k1286_1 =>
                                          refine' jr_of ?k1290_0
                                          case k1290_0 =>
                                            refine' je_ix (K := K) ?k1291_0 ?k1291_1
                                            case k1291_0 =>
                                              exact jr_var 12
                                            case k1291_1 =>
                                              refine' jr_of ?k1292_0
                                              case k1292_0 =>
                                                exact je_int
                            case k1270_1 =>
                              refine' jss_one ?k1293_0
                              case k1293_0 =>
                                refine' js_ret ?k1294_0
                                case k1294_0 =>
                                  exact je_bl
                            case k1270_2 =>
                              exact jss_nil
                          case k1269_1 =>
                            refine' jss_one ?k1295_0
                            case k1295_0 =>
                              refine' js_set 6 nd ?k1296_0
                              case k1296_0 =>
                                exact je_var 12
                case k1214_1 =>
                  refine' jss_cons ?k1297_0 ?k1297_1
                  case k1297_0 =>
                    refine' js_set 8 nd ?k1298_0
                    case k1298_0 =>
                      refine' je_tup ?k1299_0
                      case k1299_0 =>
                        refine' ja_cons ?k1300_0 ?k1300_1
                        case k1300_0 =>
                          refine' je_add (K := K) ?k1301_0 ?k1301_1
                          case k1301_0 =>
                            refine' jr_of ?k1302_0
                            case k1302_0 =>
                              refine' je_cb (call_max3Nu rfl) ok_max3 PyProof.Rows.boot_max nm.max ?k1303_0
                              case k1303_0 =>
                                refine' jar_cons ?k1304_0 ?k1304_1
                                case k1304_0 =>
                                  exact jr_var 2
                                case k1304_1 =>
                                  refine' jar_cons ?k1305_0 ?k1305_1
                                  case k1305_0 =>
                                    exact jr_var 3
                                  case k1305_1 =>
                                    refine' jar_cons ?k1306_0 ?k1306_1
                                    case k1306_0 =>
                                      refine' jr_of ?k1307_0
                                      case k1307_0 =>
                                        exact je_int
                                    case k1306_1 =>
                                      exact jar_nil
                          case k1301_1 =>
                            refine' jr_of ?k1308_0
                            case k1308_0 =>
                              refine' je_callB0 1 D__law_roll hr ?k1309_0
                              case k1309_0 =>
                                refine' ja_cons ?k1310_0 ?k1310_1
                                case k1310_0 =>
                                  exact je_int
                                case k1310_1 =>
                                  exact ja_nil
                        case k1300_1 =>
                          refine' ja_cons ?k1311_0 ?k1311_1
                          case k1311_0 =>
                            exact je_int
                          case k1311_1 =>
                            exact ja_nil
                  case k1297_1 =>
                    refine' jss_cons ?k1312_0 ?k1312_1
                    case k1312_0 =>
                      refine' js_set 7 nd ?k1313_0
                      case k1313_0 =>
                        refine' je_cb (call_max2 rfl) ok_max2 PyProof.Rows.boot_max nm.max ?k1314_0
                        case k1314_0 =>
                          refine' jar_cons ?k1315_0 ?k1315_1
                          case k1315_0 =>
                            refine' jr_of ?k1316_0
                            case k1316_0 =>
                              exact je_int
                          case k1315_1 =>
                            refine' jar_cons ?k1317_0 ?k1317_1
                            case k1317_0 =>
                              refine' jr_of ?k1318_0
                              case k1318_0 =>
                                refine' je_fdiv ?k1319_0 ?k1319_1
                                case k1319_0 =>
                                  refine' jr_of ?k1320_0
                                  case k1320_0 =>
                                    refine' je_sub ?k1321_0 ?k1321_1
                                    case k1321_0 =>
                                      refine' jr_of ?k1322_0
                                      case k1322_0 =>
                                        refine' je_add (K := K) ?k1323_0 ?k1323_1
                                        case k1323_0 =>
                                          exact jr_var 4
                                        case k1323_1 =>
                                          refine' jr_of ?k1324_0
                                          case k1324_0 =>
                                            refine' je_ix (K := K) ?k1325_0 ?k1325_1
                                            case k1325_0 =>
                                              exact jr_var 8
                                            case k1325_1 =>
                                              refine' jr_of ?k1326_0
                                              case k1326_0 =>
                                                exact je_int
                                    case k1321_1 =>
                                      refine' jr_of ?k1327_0
                                      case k1327_0 =>
                                        exact je_int
                                case k1319_1 =>
                                  refine' jr_of ?k1328_0
                                  case k1328_0 =>
                                    refine' je_ix (K := K) ?k1329_0 ?k1329_1
                                    case k1329_0 =>
                                      exact jr_var 8
                                    case k1329_1 =>
                                      refine' jr_of ?k1330_0
                                      case k1330_0 =>
                                        exact je_int
                            case k1317_1 =>
                              exact jar_nil
                    case k1312_1 =>
                      refine' jss_cons ?k1331_0 ?k1331_1
                      case k1331_0 =>
                        refine' js_set 9 nd ?k1332_0
                        case k1332_0 =>
                          refine' je_if ?k1333_0 ?k1333_1 ?k1333_2
                          case k1333_0 =>
                            refine' jb_le ?k1334_0 ?k1334_1
                            case k1334_0 =>
                              exact jr_var 7
                            case k1334_1 =>
                              refine' jr_of ?k1335_0
                              case k1335_0 =>
                                exact je_int
                          case k1333_1 =>
                            refine' je_tup ?k1336_0
                            case k1336_0 =>
                              refine' ja_cons ?k1337_0 ?k1337_1
                              case k1337_0 =>
                                refine' je_tup ?k1338_0
                                case k1338_0 =>
                                  refine' ja_cons ?k1339_0 ?k1339_1
                                  case k1339_0 =>
                                    exact je_var 7
                                  case k1339_1 =>
                                    exact ja_nil
                              case k1337_1 =>
                                exact ja_nil
                          case k1333_2 =>
                            refine' je_tup ?k1340_0
                            case k1340_0 =>
                              exact ja_nil
                      case k1331_1 =>
                        refine' jss_cons ?k1341_0 ?k1341_1
                        case k1341_0 =>
                          refine' js_if ?k1342_0 ?k1342_1 ?k1342_2
                          case k1342_0 =>
                            refine' jb_ne (K := K) hr.units ?k1343_0 ?k1343_1
                            case k1343_0 =>
                              refine' jr_of ?k1344_0
                              case k1344_0 =>
                                refine' je_call D_least_rooms hr ?k1345_0
                                case k1345_0 =>
                                  refine' ja_cons ?k1346_0 ?k1346_1
                                  case k1346_0 =>
                                    exact je_var 5
                                  case k1346_1 =>
                                    refine' ja_cons ?k1347_0 ?k1347_1
                                    case k1347_0 =>
                                      refine' je_tup ?k1348_0
                                      case k1348_0 =>
                                        refine' ja_cons ?k1349_0 ?k1349_1
                                        case k1349_0 =>
                                          refine' je_tup ?k1350_0
                                          case k1350_0 =>
                                            refine' ja_cons ?k1351_0 ?k1351_1
                                            case k1351_0 =>
                                              exact je_int
                                            case k1351_1 =>
                                              refine' ja_cons ?k1352_0 ?k1352_1
                                              case k1352_0 =>
                                                exact je_int
                                              case k1352_1 =>
                                                exact ja_nil
                                        case k1349_1 =>
                                          exact ja_nil
                                    case k1347_1 =>
                                      refine' ja_cons ?k1353_0 ?k1353_1
                                      case k1353_0 =>
                                        exact je_var 8
                                      case k1353_1 =>
                                        exact ja_nil
                            case k1343_1 =>
                              exact jr_var 9
                          case k1342_1 =>
                            refine' jss_one ?k1354_0
                            case k1354_0 =>
                              refine' js_ret ?k1355_0
                              case k1355_0 =>
                                exact je_bl
                          case k1342_2 =>
                            exact jss_nil
                        case k1341_1 =>
                          refine' jss_cons ?k1356_0 ?k1356_1
                          case k1356_0 =>
                            refine' js_set 10 nd ?k1357_0
                            case k1357_0 =>
                              refine' je_call D_least_rooms hr ?k1358_0
                              case k1358_0 =>
                                refine' ja_cons ?k1359_0 ?k1359_1
                                case k1359_0 =>
                                  exact je_var 5
                                case k1359_1 =>
                                  refine' ja_cons ?k1360_0 ?k1360_1
                                  case k1360_0 =>
                                    refine' je_tup ?k1361_0
                                    case k1361_0 =>
                                      refine' ja_cons ?k1362_0 ?k1362_1
                                      case k1362_0 =>
                                        refine' je_tup ?k1363_0
                                        case k1363_0 =>
                                          refine' ja_cons ?k1364_0 ?k1364_1
                                          case k1364_0 =>
                                            exact je_int
                                          case k1364_1 =>
                                            refine' ja_cons ?k1365_0 ?k1365_1
                                            case k1365_0 =>
                                              exact je_int
                                            case k1365_1 =>
                                              exact ja_nil
                                      case k1362_1 =>
                                        refine' ja_cons ?k1366_0 ?k1366_1
                                        case k1366_0 =>
                                          refine' je_tup ?k1367_0
                                          case k1367_0 =>
                                            refine' ja_cons ?k1368_0 ?k1368_1
                                            case k1368_0 =>
                                              exact je_int
                                            case k1368_1 =>
                                              refine' ja_cons ?k1369_0 ?k1369_1
                                              case k1369_0 =>
                                                exact je_int
                                              case k1369_1 =>
                                                exact ja_nil
                                        case k1366_1 =>
                                          exact ja_nil
                                  case k1360_1 =>
                                    refine' ja_cons ?k1370_0 ?k1370_1
                                    case k1370_0 =>
                                      exact je_var 8
                                    case k1370_1 =>
                                      exact ja_nil
                          case k1356_1 =>
                            refine' jss_cons ?k1371_0 ?k1371_1
                            case k1371_0 =>
                              refine' js_if ?k1372_0 ?k1372_1 ?k1372_2
                              case k1372_0 =>
                                refine' jb_ne (K := K) hr.units ?k1373_0 ?k1373_1
                                case k1373_0 =>
                                  exact jr_var 10
                                case k1373_1 =>
                                  refine' jr_of ?k1374_0
                                  case k1374_0 =>
                                    refine' je_if ?k1375_0 ?k1375_1 ?k1375_2
                                    case k1375_0 =>
                                      refine' jb_le ?k1376_0 ?k1376_1
                                      case k1376_0 =>
                                        exact jr_var 7
                                      case k1376_1 =>
                                        refine' jr_of ?k1377_0
                                        case k1377_0 =>
                                          exact je_int
                                    case k1375_1 =>
                                      refine' je_tup ?k1378_0
                                      case k1378_0 =>
                                        refine' ja_cons ?k1379_0 ?k1379_1
                                        case k1379_0 =>
                                          refine' je_tup ?k1380_0
                                          case k1380_0 =>
                                            refine' ja_cons ?k1381_0 ?k1381_1
                                            case k1381_0 =>
                                              exact je_var 7
                                            case k1381_1 =>
                                              refine' ja_cons ?k1382_0 ?k1382_1
                                              case k1382_0 =>
                                                exact je_var 7
                                              case k1382_1 =>
                                                exact ja_nil
                                        case k1379_1 =>
                                          exact ja_nil
                                    case k1375_2 =>
                                      refine' je_tup ?k1383_0
                                      case k1383_0 =>
                                        exact ja_nil
                              case k1372_1 =>
                                refine' jss_one ?k1384_0
                                case k1384_0 =>
                                  refine' js_ret ?k1385_0
                                  case k1385_0 =>
                                    exact je_bl
                              case k1372_2 =>
                                exact jss_nil
                            case k1371_1 =>
                              refine' jss_cons ?k1386_0 ?k1386_1
                              case k1386_0 =>
                                refine' js_if ?k1387_0 ?k1387_1 ?k1387_2
                                case k1387_0 =>
                                  refine' jb_w ?k1388_0
                                  case k1388_0 =>
                                    refine' jw_and ?k1389_0 ?k1389_1
                                    case k1389_0 =>
                                      refine' jb_gt ?k1390_0 ?k1390_1
                                      case k1390_0 =>
                                        refine' jr_of ?k1391_0
                                        case k1391_0 =>
                                          refine' je_cb (call_max2 rfl) ok_max2 PyProof.Rows.boot_max nm.max ?k1392_0
                                          case k1392_0 =>
                                            refine' jar_cons ?k1393_0 ?k1393_1
                                            case k1393_0 =>
                                              exact jr_var 2
                                            case k1393_1 =>
                                              refine' jar_cons ?k1394_0 ?k1394_1
                                              case k1394_0 =>
                                                exact jr_var 3
                                              case k1394_1 =>
                                                exact jar_nil
                                      case k1390_1 =>
                                        refine' jr_of ?k1395_0
                                        case k1395_0 =>
                                          exact je_int
                                    case k1389_1 =>
                                      refine' jw_and1 ?k1396_0
                                      case k1396_0 =>
                                        refine' jb_ne (K := K) hr.units ?k1397_0 ?k1397_1
                                        case k1397_0 =>
                                          refine' jr_of ?k1398_0
                                          case k1398_0 =>
                                            refine' je_call D_least_rooms hr ?k1399_0
                                            case k1399_0 =>
                                              refine' ja_cons ?k1400_0 ?k1400_1
                                              case k1400_0 =>
                                                exact je_var 5
                                              case k1400_1 =>
                                                refine' ja_cons ?k1401_0 ?k1401_1
                                                case k1401_0 =>
                                                  refine' je_tup ?k1402_0
                                                  case k1402_0 =>
                                                    refine' ja_cons ?k1403_0 ?k1403_1
                                                    case k1403_0 =>
                                                      refine' je_tup ?k1404_0
                                                      case k1404_0 =>
                                                        refine' ja_cons ?k1405_0 ?k1405_1
                                                        case k1405_0 =>
                                                          exact je_int
                                                        case k1405_1 =>
                                                          refine' ja_cons ?k1406_0 ?k1406_1
                                                          case k1406_0 =>
                                                            exact je_int
                                                          case k1406_1 =>
                                                            exact ja_nil
                                                    case k1403_1 =>
                                                      exact ja_nil
                                                case k1401_1 =>
                                                  refine' ja_cons ?k1407_0 ?k1407_1
                                                  case k1407_0 =>
                                                    refine' je_tup ?k1408_0
                                                    case k1408_0 =>
                                                      refine' ja_cons ?k1409_0 ?k1409_1
                                                      case k1409_0 =>
                                                        refine' je_sub ?k1410_0 ?k1410_1
                                                        case k1410_0 =>
                                                          refine' jr_of ?k1411_0
                                                          case k1411_0 =>
                                                            refine' je_cb (call_max2 rfl) ok_max2 PyProof.Rows.boot_max nm.max ?k1412_0
                                                            case k1412_0 =>
                                                              refine' jar_cons ?k1413_0 ?k1413_1
                                                              case k1413_0 =>
                                                                exact jr_var 2
                                                              case k1413_1 =>
                                                                refine' jar_cons ?k1414_0 ?k1414_1
                                                                case k1414_0 =>
                                                                  exact jr_var 3
                                                                case k1414_1 =>
                                                                  exact jar_nil
                                                        case k1410_1 =>
                                                          refine' jr_of ?k1415_0
                                                          case k1415_0 =>
                                                            exact je_int
                                                      case k1409_1 =>
                                                        refine' ja_cons ?k1416_0 ?k1416_1
                                                        case k1416_0 =>
                                                          exact je_int
                                                        case k1416_1 =>
                                                          exact ja_nil
                                                  case k1407_1 =>
                                                    exact ja_nil
                                        case k1397_1 =>
                                          refine' jr_of ?k1417_0
                                          case k1417_0 =>
                                            refine' je_tup ?k1418_0
                                            case k1418_0 =>
                                              exact ja_nil
                                case k1387_1 =>
                                  refine' jss_one ?k1419_0
                                  case k1419_0 =>
                                    refine' js_ret ?k1420_0
                                    case k1420_0 =>
                                      exact je_bl
                                case k1387_2 =>
                                  exact jss_nil
                              case k1386_1 =>
                                refine' jss_cons ?k1421_0 ?k1421_1
                                case k1421_0 =>
                                  refine' js_set 11 nd ?k1422_0
                                  case k1422_0 =>
                                    refine' je_call D_slowest_with hr ?k1423_0
                                    case k1423_0 =>
                                      refine' ja_cons ?k1424_0 ?k1424_1
                                      case k1424_0 =>
                                        exact je_var 5
                                      case k1424_1 =>
                                        refine' ja_cons ?k1425_0 ?k1425_1
                                        case k1425_0 =>
                                          refine' je_tup ?k1426_0
                                          case k1426_0 =>
                                            refine' ja_cons ?k1427_0 ?k1427_1
                                            case k1427_0 =>
                                              refine' je_tup ?k1428_0
                                              case k1428_0 =>
                                                refine' ja_cons ?k1429_0 ?k1429_1
                                                case k1429_0 =>
                                                  exact je_int
                                                case k1429_1 =>
                                                  refine' ja_cons ?k1430_0 ?k1430_1
                                                  case k1430_0 =>
                                                    exact je_int
                                                  case k1430_1 =>
                                                    exact ja_nil
                                            case k1427_1 =>
                                              exact ja_nil
                                        case k1425_1 =>
                                          refine' ja_cons ?k1431_0 ?k1431_1
                                          case k1431_0 =>
                                            refine' je_tup ?k1432_0
                                            case k1432_0 =>
                                              refine' ja_cons ?k1433_0 ?k1433_1
                                              case k1433_0 =>
                                                exact je_int
                                              case k1433_1 =>
                                                exact ja_nil
                                          case k1431_1 =>
                                            exact ja_nil
                                case k1421_1 =>
                                  refine' jss_one ?k1434_0
                                  case k1434_0 =>
                                    refine' js_if ?k1435_0 ?k1435_1 ?k1435_2
                                    case k1435_0 =>
                                      refine' jb_ne (K := K) hr.units ?k1436_0 ?k1436_1
                                      case k1436_0 =>
                                        exact jr_var 11
                                      case k1436_1 =>
                                        refine' jr_of ?k1437_0
                                        case k1437_0 =>
                                          refine' je_tup ?k1438_0
                                          case k1438_0 =>
                                            refine' ja_cons ?k1439_0 ?k1439_1
                                            case k1439_0 =>
                                              refine' je_cb (call_max2 rfl) ok_max2 PyProof.Rows.boot_max nm.max ?k1440_0
                                              case k1440_0 =>
                                                refine' jar_cons ?k1441_0 ?k1441_1
                                                case k1441_0 =>
                                                  exact jr_var 2
                                                case k1441_1 =>
                                                  refine' jar_cons ?k1442_0 ?k1442_1
                                                  case k1442_0 =>
                                                    exact jr_var 3
                                                  case k1442_1 =>
                                                    exact jar_nil
                                            case k1439_1 =>
                                              refine' ja_cons ?k1443_0 ?k1443_1
                                              case k1443_0 =>
                                                exact je_int
                                              case k1443_1 =>
                                                exact ja_nil
                                    case k1435_1 =>
                                      refine' jss_one ?k1444_0
                                      case k1444_0 =>
                                        refine' js_ret ?k1445_0
                                        case k1445_0 =>
                                          exact je_bl
                                    case k1435_2 =>
                                      exact jss_nil

    obtain ⟨t, j⟩ := j
    refine ⟨tLawS K lawN.length 3 t, ?_, law_run (by decide) (by decide) (fun B => (j B).v) rk h⟩
    refine pss_cons (ps_for pass_own rfl (pi_seq (pe_call F2 (hr.mono (by decide)) rfl hm2 hk2 hb2 .nil pass0 (pa_cons (pv 0) (pa_cons pe_int pa_nil)))) (pg_name (i := 1) nd rfl (by first | exact Or.inl rfl | exact Or.inr rfl)) ?_) (pss_one (ps_ret pe_bl))
    exact pss_ln (j ⟨H, H, []⟩).p

end Rn
end

section
set_option Elab.async false
set_option linter.all false
set_option maxRecDepth 100000
/-! Math0: comprehensions and loops without effects. -/
namespace Rn
open PySem PySem.Spec L2
/-! ### what the parts do, each applied to its environment -/
section
variable {α β : Type}
theorem ev_bnd (x : M α) (k : α → M β) (r : Rho) : bnd x k r = (match x r with | .ok a r => k a r | .ex c r => .ex c r | .no => .no) := rfl
theorem ev_ret (a : α) (r : Rho) : ret a r = .ok a r := rfl
theorem ev_lfS (a : α) (r : Rho) : lft (some a) r = .ok a r := rfl
theorem ev_lfN (r : Rho) : lft (none : Option α) r = .no := rfl
theorem ev_stk (r : Rho) : (stuck : M α) r = .no := rfl
theorem ev_vr (i : Nat) (r : Rho) : mVar i r = (match r[i]? with | some (.fz d) => .ok d r | some (.ow d) => .ok d (r.set i (.fz d)) | _ => .no) := rfl
theorem ev_vrT (i : Nat) (r : Rho) : mVarT i r = (match cellD r[i]? with | some _ => .ok (.s i) r | none => .no) := rfl
theorem ev_mT (f : M D) (r : Rho) : mT f r = bnd f (fun d => ret (.d d)) r := rfl
theorem ev_cF (d : D) : cellD (some (.fz d)) = some d := rfl
theorem ev_cO (d : D) : cellD (some (.ow d)) = some d := rfl
theorem ev_cB (d : D) : cellD (some (.bw d)) = some d := rfl
theorem ev_dd (r : Rho) (d : D) : deref r (.d d) = some d := rfl
theorem ev_ds (r : Rho) (i : Nat) : deref r (.s i) = cellD r[i]? := rfl
theorem ev_d0 (r : Rho) : derefs r [] = some [] := rfl
theorem ev_dc (r : Rho) (t : TV) (ts : List TV) : derefs r (t :: ts) = (match deref r t, derefs r ts with | some d, some ds => some (d :: ds) | _, _ => none) := rfl
theorem ev_opr (f : D → D → Option D) (a b : M TV) (r : Rho) : mOp f a b r = bnd a (fun x => bnd b fun y => fun ρ => match deref ρ x, deref ρ y with | some d, some e => lft (f d e) ρ | _, _ => .no) r := rfl
theorem ev_unr (f : D → Option D) (a : M TV) (r : Rho) : mUn f a r = bnd a (fun x => fun ρ => match deref ρ x with | some d => lft (f d) ρ | _ => .no) r := rfl
theorem ev_nl (r : Rho) : (mNil : M (List α)) r = .ok [] r := rfl
theorem ev_cns (a : M α) (b : M (List α)) (r : Rho) : mCons a b r = bnd a (fun x => bnd b fun xs => ret (x :: xs)) r := rfl
theorem ev_cbr (f : List D → Option D) (a : M (List TV)) (r : Rho) : mCB f a r = bnd a (fun xs => fun ρ => match derefs ρ xs with | some ds => lft (f ds) ρ | none => .no) r := rfl
theorem ev_ab (b : Bool) : asBool (.bool b) = some b := rfl
theorem ev_ai (b : Int) : asInt (.int b) = some b := rfl
theorem ev_tst' (f : M D) (r : Rho) : mTst f r = bnd f (fun d => lft (asBool d)) r := rfl
theorem ev_an (a b : M Bool) (r : Rho) : mAnd a b r = (match a r with | .ok true r => b r | .ok false r => .ok false r | .ex c r => .ex c r | .no => .no) := by
  unfold mAnd bnd
  cases a r with
  | ok x r => cases x <;> rfl
  | ex c r => rfl
  | no => rfl
theorem ev_orr (a b : M Bool) (r : Rho) : mOr a b r = (match a r with | .ok true r => .ok true r | .ok false r => b r | .ex c r => .ex c r | .no => .no) := by
  unfold mOr bnd
  cases a r with
  | ok x r => cases x <;> rfl
  | ex c r => rfl
  | no => rfl
theorem ev_nt (a : M Bool) (r : Rho) : mNot a r = bnd a (fun x => ret (!x)) r := rfl
theorem ev_anV (a b : M D) (r : Rho) : mAndV a b r = bnd a (fun x => match asBool x with | some true => b | some false => ret (.bool false) | none => stuck) r := rfl
theorem ev_orV' (a b : M D) (r : Rho) : mOrV a b r = bnd a (fun x => match asBool x with | some true => ret (.bool true) | some false => b | none => stuck) r := rfl
theorem ev_ntV (a : M D) (r : Rho) : mNotV a r = bnd a (fun x => match asBool x with | some b => ret (.bool (!b)) | none => stuck) r := rfl
theorem ev_ifm (c : M Bool) (a b : M α) (r : Rho) : mIf c a b r = (match c r with | .ok true r => a r | .ok false r => b r | .ex c r => .ex c r | .no => .no) := by
  unfold mIf bnd
  cases c r with
  | ok x r => cases x <;> rfl
  | ex c r => rfl
  | no => rfl
theorem ev_ch (f g : D → D → Option D) (a b c : M TV) (r : Rho) : mChain f g a b c r = bnd a (fun x => bnd b fun y => fun ρ => match deref ρ x, deref ρ y with
  | some d, some e => (match (f d e).bind asBool with
    | some true => bnd c (fun z => fun ρ => match deref ρ y, deref ρ z with
      | some e, some k => lft (g e k) ρ
      | _, _ => .no) ρ
    | some false => .ok (.bool false) ρ
    | none => .no)
  | _, _ => .no) r := rfl
theorem ev_tp (a : M (List D)) (r : Rho) : mTup a r = bnd a (fun ds => fun ρ => if ds.length ≤ 100 then .ok (.tuple ds) ρ else .no) r := rfl
theorem ev_ls (a : M (List D)) (r : Rho) : mLst a r = bnd a (fun ds => fun ρ => if ds.length ≤ 100 then .ok (.list ds) ρ else .no) r := rfl
theorem ev_cl (g : List D → RR) (a : M (List D)) (r : Rho) : mCall g a r = bnd a (fun ds => fun ρ => match g ds with | .ok d => .ok d ρ | .fr d => .ok d ρ | .ex c => .ex c ρ | .no => .no) r := rfl
theorem ev_cl0 (g : List D → RR) (a : M (List D)) (r : Rho) : mCall0 g a r = bnd a (fun ds => fun ρ => match g ds with | .ok d => .ok d ρ | .fr d => .ok d ρ | _ => .no) r := rfl
theorem ev_isr (p : String → Bool) (a : M TV) (r : Rho) : mIsi p a r = bnd a (fun x => fun ρ => match deref ρ x with | some d => .ok (.bool (p (tyName d))) ρ | none => .no) r := rfl
theorem ev_sqI (f : M D) (r : Rho) : mSeqI f r = bnd f (fun d => lft (seqD d)) r := rfl
theorem ev_lc' (fi : M (List D)) (h : D → Rho → Option Rho) (ft : M Bool) (fe : M D) (vs : List Nat) (r : Rho) : mLc fi h ft fe vs r = bnd fi (fun items => fun ρ => if items.length ≤ big then (match lcGo h ft fe vs items (wipeR ρ vs) with | .ok xs ρ1 => .ok (.list xs) (restR ρ ρ1 vs) | _ => .no) else .no) r := rfl
theorem ev_g0 (h : D → Rho → Option Rho) (ft : M Bool) (fe : M D) (vs : List Nat) (r : Rho) : lcGo h ft fe vs [] r = .ok [] r := rfl
theorem ev_gc (h : D → Rho → Option Rho) (ft : M Bool) (fe : M D) (vs : List Nat) (d : D) (ds : List D) (r : Rho) : lcGo h ft fe vs (d :: ds) r = (match h d r with
    | none => .no
    | some ρ1 => match ft ρ1 with
      | .ok true ρ2 => (match fe ρ2 with
        | .ok x ρ3 => (match lcGo h ft fe vs ds (wipeR ρ3 vs) with
          | .ok xs ρ4 => .ok (x :: xs) ρ4
          | _ => .no)
        | _ => .no)
      | .ok false ρ2 => lcGo h ft fe vs ds (wipeR ρ2 vs)
      | _ => .no) := rfl
theorem ev_y (r : Rho) : mYes r = .ok true r := rfl
theorem ev_fo0 (h : D → Rho → Option Rho) (b : S) (r : Rho) : forGo h b [] r = .nx r := rfl
theorem ev_foc (h : D → Rho → Option Rho) (b : S) (d : D) (ds : List D) (r : Rho) : forGo h b (d :: ds) r = (match h d r with
    | none => .no
    | some ρ1 => match b ρ1 with
      | .nx ρ2 => forGo h b ds ρ2
      | .ct ρ2 => forGo h b ds ρ2
      | .bk ρ2 => .nx ρ2
      | o => o) := rfl
theorem ev_app (i : Nat) (f : M D) (r : Rho) : sAppend i f r = (match cellD r[i]? with
    | some (.list _) => sBind f (fun d => fun ρ => match appendD ρ i d with
      | some r => .nx r
      | none => .no) r
    | _ => .no) := rfl
theorem ev_enm (f : M (List D)) (r : Rho) : mEnum f r = bnd f (fun ds => match ds with | [d] => lft ((seqD d).map (enumD 0)) | _ => stuck) r := rfl
theorem ev_rn1 (f : M (List D)) (r : Rho) : mRng1 f r = bnd f (fun ds => match ds with | [.int j] => if j ≤ 1000000 ∧ -1000000 ≤ j then ret (rangeD 0 j.toNat) else stuck | _ => stuck) r := rfl
theorem ev_rn2 (f : M (List D)) (r : Rho) : mRng2 f r = bnd f (fun ds => match ds with | [.int i, .int j] => if (j ≤ 1000000 ∧ -1000000 ≤ j) ∧ (i ≤ 1000000 ∧ -1000000 ≤ i) then ret (rangeD i (j - i).toNat) else stuck | _ => stuck) r := rfl
theorem ev_rs (c : Str) (r : Rho) : sRaise c r = .ex c r := rfl
theorem ev_all0 : allF [.list []] = some (.bool true) := rfl
theorem ev_sqL (ds : List D) : seqD (.list ds) = some ds := rfl
theorem ev_sqT (ds : List D) : seqD (.tuple ds) = some ds := rfl
theorem ev_sb (f : M α) (k : α → S) (r : Rho) : sBind f k r = (match f r with | .ok a r => k a r | .ex c r => .ex c r | .no => .no) := rfl
theorem ev_ss (f g : S) (r : Rho) : sSeq f g r = (match f r with | .nx r => g r | o => o) := rfl
theorem ev_sn (r : Rho) : sNext r = .nx r := rfl
theorem ev_sa (f : M D) (h : D → Rho → Option Rho) (r : Rho) : sAsg f h r = sBind f (fun d => fun ρ => match h d ρ with | some r => .nx r | none => .no) r := rfl
theorem ev_so (f : M D) (i : Nat) (r : Rho) : sOwn f i r = sBind f (fun d => fun ρ => .nx (ρ.set i (.ow d))) r := rfl
theorem ev_sr (f : M D) (r : Rho) : sRet f r = sBind f (fun d => fun ρ => .rt d ρ) r := rfl
theorem ev_sdr (f : M D) (r : Rho) : sDrop f r = sBind f (fun _ => sNext) r := rfl
theorem ev_si (c : M Bool) (f g : S) (r : Rho) : sIf c f g r = (match c r with | .ok true r => f r | .ok false r => g r | .ex c r => .ex c r | .no => .no) := by
  unfold sIf sBind
  cases c r with
  | ok x r => cases x <;> rfl
  | ex c r => rfl
  | no => rfl
theorem ev_sp (ms : List Bool) (is : List Nat) (f : M (List D)) (r : Rho) : sPar ms is f r = sBind f (fun ds => fun ρ => match parSet ms is ds ρ with | some r => .nx r | none => .no) r := rfl
theorem ev_p0 (r : Rho) : parSet [] [] [] r = some r := rfl
theorem ev_pF (ms : List Bool) (i : Nat) (is : List Nat) (d : D) (ds : List D) (r : Rho) : parSet (false :: ms) (i :: is) (d :: ds) r = parSet ms is ds (r.set i (.fz d)) := rfl
theorem ev_pT (ms : List Bool) (i : Nat) (is : List Nat) (d : D) (ds : List D) (r : Rho) : parSet (true :: ms) (i :: is) (d :: ds) r = parSet ms is ds (r.set i (.ow d)) := rfl
theorem ev_sf (fi : M (List D)) (h : D → Rho → Option Rho) (b : S) (r : Rho) : sFor fi h b r = sBind fi (fun items => forGo h b items) r := rfl
theorem ev_hn (i : Nat) (d : D) (r : Rho) : hName i d r = some (r.set i (.fz d)) := rfl
theorem ev_ht (n : Nat) (hs : List D → Rho → Option Rho) (ds : List D) (r : Rho) : hTup n hs (.tuple ds) r = (if ds.length = n then hs ds r else none) := rfl
theorem ev_hc (a : D → Rho → Option Rho) (b : List D → Rho → Option Rho) (d : D) (ds : List D) (r : Rho) : hCons a b (d :: ds) r = (a d r).bind (b ds) := rfl
theorem ev_h0 (r : Rho) : hNil [] r = some r := rfl
theorem ev_cal (np n : Nat) (b : S) (ds : List D) : callD np n b ds = (if ds.length = np then finO (b (ds.map Cell.fz ++ List.replicate (n - ds.length) Cell.no)) else .no) := rfl
theorem ev_f1 (r : Rho) : finO (.nx r) = .ok .none := rfl
theorem ev_f2 (d : D) (r : Rho) : finO (.rt d r) = .ok d := rfl
theorem ev_f3 (c : Str) (r : Rho) : finO (.ex c r) = .ex c := rfl
theorem ev_f4 (d : D) (r : Rho) : finO (.rf d r) = .fr d := rfl
theorem ev_cmp (p : Int → Int → Bool) (i j : Int) : cmpI p (.int i) (.int j) = some (.bool (p i j)) := rfl
theorem ev_add (i j : Int) : addF (.int i) (.int j) = some (.int (i + j)) := rfl
theorem ev_sub (i j : Int) : subF (.int i) (.int j) = some (.int (i - j)) := rfl
theorem ev_mod (i j : Int) : modF (.int i) (.int j) = (if 0 < j then some (.int (i % j)) else none) := rfl
theorem ev_fdv (i j : Int) : fdivF (.int i) (.int j) = (if 0 < j ∧ j.natAbs < 2 ^ 400 then some (.int (i / j)) else none) := rfl
theorem ev_mul (i j : Int) (h : (isSmall i || isSmall j) = true) : mulF (.int i) (.int j) = some (.int (i * j)) := by
  show (if (isSmall i || isSmall j) = true then some (PyData.int (i * j)) else _) = _
  rw [if_pos h]
theorem ev_isn (b : Bool) (d : D) : isF b d .none = some (.bool (if b then !isNoneD d else isNoneD d)) := by cases d <;> rfl
theorem ev_n1 : isNoneD .none = true := rfl
theorem ev_n2 (ds : List D) : isNoneD (.tuple ds) = false := rfl
theorem ev_n3 (ds : List D) : isNoneD (.list ds) = false := rfl
theorem ev_n4 (i : Int) : isNoneD (.int i) = false := rfl
theorem ev_ixL (ds : List D) (i : Int) : ixF (.list ds) (.int i) = atI ds i := rfl
theorem ev_ixT (ds : List D) (i : Int) : ixF (.tuple ds) (.int i) = atI ds i := rfl
theorem ev_an' (xs : List α) (n : Nat) (x : α) (h : xs[n]? = some x) : atI xs (n : Int) = some x := by
  have hl := (List.getElem?_eq_some_iff.mp h).1
  have h1 : (0 : Int) ≤ (n : Int) := by omega
  have h2 : ((n : Int) < (xs.length : Int)) := by omega
  unfold atI ixN
  rw [if_pos h1, if_pos h2]
  show xs[(n : Int).toNat]? = some x
  rw [Int.toNat_natCast]
  exact h
theorem ev_a0 (x : α) (xs : List α) : atI (x :: xs) 0 = some x := ev_an' _ 0 _ rfl
theorem ev_a1 (x y : α) (xs : List α) : atI (x :: y :: xs) 1 = some y := ev_an' _ 1 _ rfl
theorem ev_a2 (x y z : α) (xs : List α) : atI (x :: y :: z :: xs) 2 = some z := ev_an' _ 2 _ rfl
theorem ev_lL (ds : List D) : lenF [.list ds] = some (.int ds.length) := rfl
theorem ev_lT (ds : List D) : lenF [.tuple ds] = some (.int ds.length) := rfl
theorem ev_tL (ds : List D) : tupleF [.list ds] = some (.tuple ds) := rfl
theorem ev_tT (ds : List D) : tupleF [.tuple ds] = some (.tuple ds) := rfl
theorem ev_liT (ds : List D) : listF [.tuple ds] = some (.list ds) := rfl
theorem ev_abs (i : Int) : absF [.int i] = some (.int (if i < 0 then -i else i)) := rfl
theorem ev_mx (i j : Int) : max2F [.int i, .int j] = some (.int (if j > i then j else i)) := rfl
theorem ev_mn (i j : Int) : min2F [.int i, .int j] = some (.int (if j < i then j else i)) := rfl
theorem ev_mx3 (i j k : Int) : max3F [.int i, .int j, .int k] = some (.int (if (if j > i then j else i) < k then k else (if j > i then j else i))) := rfl
theorem ev_t1 (i : Int) : tyName (.int i) = "int" := rfl
theorem ev_t2 (ds : List D) : tyName (.tuple ds) = "tuple" := rfl
theorem ev_t3 (i : Str) : tyName (.str i) = "str" := rfl
theorem ev_eqI (a b : Int) : eqF (.int a) (.int b) = some (.bool (decide (a = b))) := by
  have e : dOk (.int a) (.int b) = true := rfl
  unfold eqF
  rw [if_pos e]
  have : PyData.eqv (.int a) (.int b) = decide (a = b) := by
    unfold PyData.eqv
    by_cases h : a = b <;> simp [h]
  rw [this]
theorem ev_neI (a b : Int) : neF (.int a) (.int b) = some (.bool (!decide (a = b))) := by
  have e : dOk (.int a) (.int b) = true := rfl
  unfold neF
  rw [if_pos e]
  have : PyData.eqv (.int a) (.int b) = decide (a = b) := by
    unfold PyData.eqv
    by_cases h : a = b <;> simp [h]
  rw [this]
end
theorem lc_pure {h : D → Rho → Option Rho} {ft : M Bool} {fe : M D} {vs : List Nat} {t : D → Bool} {g : D → D} {rw : Rho} : ∀ items : List D, (∀ d ∈ items, ∃ r1, h d rw = some r1 ∧ ft r1 = .ok (t d) r1 ∧ (t d = true → fe r1 = .ok (g d) r1) ∧ wipeR r1 vs = rw) →
    lcGo h ft fe vs items rw = .ok ((items.filter t).map g) rw
  | [], _ => rfl
  | d :: ds, H => by
    obtain ⟨r1, e1, e2, e3, e4⟩ := H d (List.mem_cons_self ..)
    have ih := lc_pure ds fun x hx => H x (List.mem_cons_of_mem _ hx)
    unfold lcGo
    rw [e1]
    simp only [e2]
    cases et : t d with
    | true =>
      rw [et] at e3
      simp only [e3 rfl, e4, ih, List.filter_cons_of_pos et, List.map_cons]
    | false =>
      simp only [e4, ih]
      rw [List.filter_cons_of_neg (by rw [et]; decide)]
theorem mlc_pure {fi : M (List D)} {h : D → Rho → Option Rho} {ft : M Bool} {fe : M D} {vs : List Nat} {t : D → Bool} {g : D → D} {ρ : Rho} {items : List D} (hi : fi ρ = .ok items ρ) (hl : items.length ≤ big) (hr : restR ρ (wipeR ρ vs) vs = ρ)
    (H : ∀ d ∈ items, ∃ r1, h d (wipeR ρ vs) = some r1 ∧ ft r1 = .ok (t d) r1 ∧ (t d = true → fe r1 = .ok (g d) r1) ∧ wipeR r1 vs = wipeR ρ vs) :
    mLc fi h ft fe vs ρ = .ok (.list ((items.filter t).map g)) ρ := by
  unfold mLc bnd
  rw [hi]
  simp only [if_pos hl, lc_pure items H, hr]
/-- a loop whose body does x to one slot -/
theorem for_fold {α : Type} {h : D → Rho → Option Rho} {b : S} (st : α → Rho) (f : α → D → α) : ∀ (items : List D) (a : α), (∀ a d, d ∈ items → ∃ r, h d (st a) = some r ∧ (b r = .nx (st (f a d)) ∨ b r = .ct (st (f a d)))) → forGo h b items (st a) = .nx (st (items.foldl f a))
  | [], _, _ => rfl
  | d :: ds, a, H => by
    obtain ⟨r, e1, e2⟩ := H a d (List.mem_cons_self ..)
    have ih := for_fold st f ds (f a d) fun a x hx => H a x (List.mem_cons_of_mem _ hx)
    unfold forGo
    rw [e1]
    rcases e2 with e2 | e2
    · simp only [e2, ih, List.foldl_cons]
    · simp only [e2, ih, List.foldl_cons]
end Rn
end

section
set_option Elab.async false
set_option linter.all false
set_option maxRecDepth 100000
set_option maxHeartbeats 4000000
namespace Rn
open PySem PySem.Spec L2
abbrev I (x : Int) : D := .int x
abbrev T (xs : List D) : D := .tuple xs
theorem w_is_whole (v lo hi : Int) : g_is_whole [.int v, .int lo, .int hi] = .ok (.bool (decide (lo ≤ v) && decide (v ≤ hi))) := by
  by_cases h : lo ≤ v <;> by_cases h2 : v ≤ hi <;> simp [g_is_whole, b_is_whole, ev_foc, ev_fo0, ev_app, ev_enm, ev_rs, ev_lc', ev_g0, ev_gc, ev_y, big, ev_bnd, ev_ret, ev_lfS, ev_lfN, ev_stk, ev_vr, ev_vrT, ev_mT, ev_cF, ev_cO, ev_cB, ev_dd, ev_ds, ev_d0, ev_dc, ev_opr, ev_unr, ev_nl, ev_cns, ev_cbr, ev_ab, ev_ai, ev_tst', ev_an, ev_orr, ev_nt, ev_anV, ev_orV', ev_ntV, ev_ifm, ev_ch, ev_tp, ev_ls, ev_cl, ev_cl0, ev_isr, ev_sqI, ev_sqL, ev_sqT, ev_sb, ev_ss, ev_sn, ev_sa, ev_so, ev_sr, ev_sdr, ev_si, ev_sp, ev_p0, ev_pF, ev_pT, ev_sf, ev_hn, ev_ht, ev_hc, ev_h0, ev_cal, ev_f1, ev_f2, ev_f3, ev_f4, ev_cmp, ev_add, ev_sub, ev_mod, ev_fdv, ev_isn, ev_n1, ev_n2, ev_n3, ev_n4, ev_ixL, ev_ixT, ev_a0, ev_a1, ev_a2, ev_lL, ev_lT, ev_tL, ev_tT, ev_liT, ev_abs, ev_mx, ev_mn, ev_mx3, ev_t1, ev_t2, ev_t3, ev_eqI, ev_neI, List.getElem?_cons_zero, List.getElem?_cons_succ, List.set_cons_zero, List.set_cons_succ, List.length_cons, List.length_nil, List.map_cons, List.map_nil, List.replicate_succ, List.replicate_zero, List.cons_append, List.nil_append, List.append_nil, Option.bind_some, Option.map_some, Nat.reduceAdd, Nat.reduceSub, Nat.reduceLT, Nat.reduceLeDiff, Nat.reduceEqDiff, if_true, if_false, reduceIte, Bool.false_eq_true, wipeR, restR, h, h2, pInt, pIs]
theorem w_is_less (p q r s : Int) (h1 : isSmall s = true) (h2 : isSmall q = true) : g_is_less [.tuple [.int p, .int q], .tuple [.int r, .int s]] = .ok (.bool (decide (p * s < r * q))) := by
  simp [g_is_less, b_is_less, ev_foc, ev_fo0, ev_app, ev_enm, ev_rs, ev_lc', ev_g0, ev_gc, ev_y, big, ev_bnd, ev_ret, ev_lfS, ev_lfN, ev_stk, ev_vr, ev_vrT, ev_mT, ev_cF, ev_cO, ev_cB, ev_dd, ev_ds, ev_d0, ev_dc, ev_opr, ev_unr, ev_nl, ev_cns, ev_cbr, ev_ab, ev_ai, ev_tst', ev_an, ev_orr, ev_nt, ev_anV, ev_orV', ev_ntV, ev_ifm, ev_ch, ev_tp, ev_ls, ev_cl, ev_cl0, ev_isr, ev_sqI, ev_sqL, ev_sqT, ev_sb, ev_ss, ev_sn, ev_sa, ev_so, ev_sr, ev_sdr, ev_si, ev_sp, ev_p0, ev_pF, ev_pT, ev_sf, ev_hn, ev_ht, ev_hc, ev_h0, ev_cal, ev_f1, ev_f2, ev_f3, ev_f4, ev_cmp, ev_add, ev_sub, ev_mod, ev_fdv, ev_isn, ev_n1, ev_n2, ev_n3, ev_n4, ev_ixL, ev_ixT, ev_a0, ev_a1, ev_a2, ev_lL, ev_lT, ev_tL, ev_tT, ev_liT, ev_abs, ev_mx, ev_mn, ev_mx3, ev_t1, ev_t2, ev_t3, ev_eqI, ev_neI, List.getElem?_cons_zero, List.getElem?_cons_succ, List.set_cons_zero, List.set_cons_succ, List.length_cons, List.length_nil, List.map_cons, List.map_nil, List.replicate_succ, List.replicate_zero, List.cons_append, List.nil_append, List.append_nil, Option.bind_some, Option.map_some, Nat.reduceAdd, Nat.reduceSub, Nat.reduceLT, Nat.reduceLeDiff, Nat.reduceEqDiff, if_true, if_false, reduceIte, Bool.false_eq_true, wipeR, restR, ev_mul, h1, h2]
/-! ### the greatest fraction -/
abbrev Fr := Int × Int
def encF (f : Fr) : D := .tuple [.int f.1, .int f.2]
def encO : Option Fr → D
  | none => .none
  | some f => encF f
def grt (o : Option Fr) (f : Fr) : Option Fr := match o with
  | none => some f
  | some g => if g.1 * f.2 < f.1 * g.2 then some f else some g
theorem grt_mem {fs : List Fr} : ∀ {o : Option Fr} {gs : List Fr}, (∀ f ∈ gs, f ∈ fs) → (∀ g, o = some g → g ∈ fs) → ∀ g, gs.foldl grt o = some g → g ∈ fs
  | o, [], _, h2, g, e => h2 g e
  | o, f :: gs, h1, h2, g, e => by
    refine grt_mem (o := grt o f) (gs := gs) (fun x hx => h1 x (List.mem_cons_of_mem _ hx)) (fun y hy => ?_) g e
    unfold grt at hy
    cases o with
    | none => cases hy; exact h1 f (List.mem_cons_self ..)
    | some k =>
      simp only at hy
      split at hy
      · cases hy; exact h1 f (List.mem_cons_self ..)
      · cases hy; exact h2 _ rfl
def smallF (f : Fr) : Bool := isSmall f.1 && isSmall f.2
def grSt (fs : List D) (x : D) (o : Option Fr) : Rho := [.fz (.list fs), .fz (encO o), .fz x]
theorem gr_step (fs : List D) (o : Option Fr) (x : Cell) (f : Fr) (hf : isSmall f.2 = true) (ho : ∀ g, o = some g → isSmall g.2 = true) :
    (sAsg (mIf (mOr (mTst (mOp (isF false) (mVarT 1) (mT (ret .none)))) (mTst (mCall0 g_is_less (mCons (mVar 1) (mCons (mVar 2) (mNil)))))) (mVar 2) (mVar 1)) (hName 1)) [.fz (.list fs), .fz (encO o), .fz (encF f)] = .nx [.fz (.list fs), .fz (encO (grt o f)), .fz (encF f)] := by
  cases o with
  | none => simp [ev_foc, ev_fo0, ev_app, ev_enm, ev_rs, ev_lc', ev_g0, ev_gc, ev_y, big, ev_bnd, ev_ret, ev_lfS, ev_lfN, ev_stk, ev_vr, ev_vrT, ev_mT, ev_cF, ev_cO, ev_cB, ev_dd, ev_ds, ev_d0, ev_dc, ev_opr, ev_unr, ev_nl, ev_cns, ev_cbr, ev_ab, ev_ai, ev_tst', ev_an, ev_orr, ev_nt, ev_anV, ev_orV', ev_ntV, ev_ifm, ev_ch, ev_tp, ev_ls, ev_cl, ev_cl0, ev_isr, ev_sqI, ev_sqL, ev_sqT, ev_sb, ev_ss, ev_sn, ev_sa, ev_so, ev_sr, ev_sdr, ev_si, ev_sp, ev_p0, ev_pF, ev_pT, ev_sf, ev_hn, ev_ht, ev_hc, ev_h0, ev_cal, ev_f1, ev_f2, ev_f3, ev_f4, ev_cmp, ev_add, ev_sub, ev_mod, ev_fdv, ev_isn, ev_n1, ev_n2, ev_n3, ev_n4, ev_ixL, ev_ixT, ev_a0, ev_a1, ev_a2, ev_lL, ev_lT, ev_tL, ev_tT, ev_liT, ev_abs, ev_mx, ev_mn, ev_mx3, ev_t1, ev_t2, ev_t3, ev_eqI, ev_neI, List.getElem?_cons_zero, List.getElem?_cons_succ, List.set_cons_zero, List.set_cons_succ, List.length_cons, List.length_nil, List.map_cons, List.map_nil, List.replicate_succ, List.replicate_zero, List.cons_append, List.nil_append, List.append_nil, Option.bind_some, Option.map_some, Nat.reduceAdd, Nat.reduceSub, Nat.reduceLT, Nat.reduceLeDiff, Nat.reduceEqDiff, if_true, if_false, reduceIte, Bool.false_eq_true, wipeR, restR, encO, grt]
  | some g =>
    have hl := w_is_less g.1 g.2 f.1 f.2 hf (ho g rfl)
    simp only [ev_foc, ev_fo0, ev_app, ev_enm, ev_rs, ev_lc', ev_g0, ev_gc, ev_y, big, ev_bnd, ev_ret, ev_lfS, ev_lfN, ev_stk, ev_vr, ev_vrT, ev_mT, ev_cF, ev_cO, ev_cB, ev_dd, ev_ds, ev_d0, ev_dc, ev_opr, ev_unr, ev_nl, ev_cns, ev_cbr, ev_ab, ev_ai, ev_tst', ev_an, ev_orr, ev_nt, ev_anV, ev_orV', ev_ntV, ev_ifm, ev_ch, ev_tp, ev_ls, ev_cl, ev_cl0, ev_isr, ev_sqI, ev_sqL, ev_sqT, ev_sb, ev_ss, ev_sn, ev_sa, ev_so, ev_sr, ev_sdr, ev_si, ev_sp, ev_p0, ev_pF, ev_pT, ev_sf, ev_hn, ev_ht, ev_hc, ev_h0, ev_cal, ev_f1, ev_f2, ev_f3, ev_f4, ev_cmp, ev_add, ev_sub, ev_mod, ev_fdv, ev_isn, ev_n1, ev_n2, ev_n3, ev_n4, ev_ixL, ev_ixT, ev_a0, ev_a1, ev_a2, ev_lL, ev_lT, ev_tL, ev_tT, ev_liT, ev_abs, ev_mx, ev_mn, ev_mx3, ev_t1, ev_t2, ev_t3, ev_eqI, ev_neI, List.getElem?_cons_zero, List.getElem?_cons_succ, List.set_cons_zero, List.set_cons_succ, List.length_cons, List.length_nil, List.map_cons, List.map_nil, List.replicate_succ, List.replicate_zero, List.cons_append, List.nil_append, List.append_nil, Option.bind_some, Option.map_some, Nat.reduceAdd, Nat.reduceSub, Nat.reduceLT, Nat.reduceLeDiff, Nat.reduceEqDiff, if_true, if_false, reduceIte, Bool.false_eq_true, wipeR, restR, encO, encF] at hl ⊢
    rw [hl]
    by_cases h : g.1 * f.2 < f.1 * g.2
    · simp [ev_foc, ev_fo0, ev_app, ev_enm, ev_rs, ev_lc', ev_g0, ev_gc, ev_y, big, ev_bnd, ev_ret, ev_lfS, ev_lfN, ev_stk, ev_vr, ev_vrT, ev_mT, ev_cF, ev_cO, ev_cB, ev_dd, ev_ds, ev_d0, ev_dc, ev_opr, ev_unr, ev_nl, ev_cns, ev_cbr, ev_ab, ev_ai, ev_tst', ev_an, ev_orr, ev_nt, ev_anV, ev_orV', ev_ntV, ev_ifm, ev_ch, ev_tp, ev_ls, ev_cl, ev_cl0, ev_isr, ev_sqI, ev_sqL, ev_sqT, ev_sb, ev_ss, ev_sn, ev_sa, ev_so, ev_sr, ev_sdr, ev_si, ev_sp, ev_p0, ev_pF, ev_pT, ev_sf, ev_hn, ev_ht, ev_hc, ev_h0, ev_cal, ev_f1, ev_f2, ev_f3, ev_f4, ev_cmp, ev_add, ev_sub, ev_mod, ev_fdv, ev_isn, ev_n1, ev_n2, ev_n3, ev_n4, ev_ixL, ev_ixT, ev_a0, ev_a1, ev_a2, ev_lL, ev_lT, ev_tL, ev_tT, ev_liT, ev_abs, ev_mx, ev_mn, ev_mx3, ev_t1, ev_t2, ev_t3, ev_eqI, ev_neI, List.getElem?_cons_zero, List.getElem?_cons_succ, List.set_cons_zero, List.set_cons_succ, List.length_cons, List.length_nil, List.map_cons, List.map_nil, List.replicate_succ, List.replicate_zero, List.cons_append, List.nil_append, List.append_nil, Option.bind_some, Option.map_some, Nat.reduceAdd, Nat.reduceSub, Nat.reduceLT, Nat.reduceLeDiff, Nat.reduceEqDiff, if_true, if_false, reduceIte, Bool.false_eq_true, wipeR, restR, grt, h, encO, encF]
    · simp [ev_foc, ev_fo0, ev_app, ev_enm, ev_rs, ev_lc', ev_g0, ev_gc, ev_y, big, ev_bnd, ev_ret, ev_lfS, ev_lfN, ev_stk, ev_vr, ev_vrT, ev_mT, ev_cF, ev_cO, ev_cB, ev_dd, ev_ds, ev_d0, ev_dc, ev_opr, ev_unr, ev_nl, ev_cns, ev_cbr, ev_ab, ev_ai, ev_tst', ev_an, ev_orr, ev_nt, ev_anV, ev_orV', ev_ntV, ev_ifm, ev_ch, ev_tp, ev_ls, ev_cl, ev_cl0, ev_isr, ev_sqI, ev_sqL, ev_sqT, ev_sb, ev_ss, ev_sn, ev_sa, ev_so, ev_sr, ev_sdr, ev_si, ev_sp, ev_p0, ev_pF, ev_pT, ev_sf, ev_hn, ev_ht, ev_hc, ev_h0, ev_cal, ev_f1, ev_f2, ev_f3, ev_f4, ev_cmp, ev_add, ev_sub, ev_mod, ev_fdv, ev_isn, ev_n1, ev_n2, ev_n3, ev_n4, ev_ixL, ev_ixT, ev_a0, ev_a1, ev_a2, ev_lL, ev_lT, ev_tL, ev_tT, ev_liT, ev_abs, ev_mx, ev_mn, ev_mx3, ev_t1, ev_t2, ev_t3, ev_eqI, ev_neI, List.getElem?_cons_zero, List.getElem?_cons_succ, List.set_cons_zero, List.set_cons_succ, List.length_cons, List.length_nil, List.map_cons, List.map_nil, List.replicate_succ, List.replicate_zero, List.cons_append, List.nil_append, List.append_nil, Option.bind_some, Option.map_some, Nat.reduceAdd, Nat.reduceSub, Nat.reduceLT, Nat.reduceLeDiff, Nat.reduceEqDiff, if_true, if_false, reduceIte, Bool.false_eq_true, wipeR, restR, grt, h, encO, encF]
theorem gr_loop (gs : List D) : ∀ (fs : List Fr) (o : Option Fr) (x : Cell), (∀ f ∈ fs, isSmall f.2 = true) → (∀ g, o = some g → isSmall g.2 = true) → ∃ y,
    forGo (hName 2) (sAsg (mIf (mOr (mTst (mOp (isF false) (mVarT 1) (mT (ret .none)))) (mTst (mCall0 g_is_less (mCons (mVar 1) (mCons (mVar 2) (mNil)))))) (mVar 2) (mVar 1)) (hName 1)) (fs.map encF) [.fz (.list gs), .fz (encO o), x] = .nx [.fz (.list gs), .fz (encO (fs.foldl grt o)), y]
  | [], o, x, _, _ => ⟨x, rfl⟩
  | f :: fs, o, x, h1, h2 => by
    have hf := h1 f (List.mem_cons_self ..)
    obtain ⟨y, ih⟩ := gr_loop gs fs (grt o f) (.fz (encF f)) (fun z hz => h1 z (List.mem_cons_of_mem _ hz)) (fun g hg => by
      unfold grt at hg
      cases o with
      | none => cases hg; exact hf
      | some k =>
        simp only at hg
        split at hg
        · cases hg; exact hf
        · cases hg; exact h2 _ rfl)
    refine ⟨y, ?_⟩
    have st := gr_step gs o x f hf h2
    rw [List.map_cons]
    unfold forGo
    simp only [hName, List.set_cons_succ, List.set_cons_zero] at st ih ⊢
    rw [st]
    simp only [ih, List.foldl_cons]
theorem w_greatest (fs : List Fr) (h : ∀ f ∈ fs, isSmall f.2 = true) : g_greatest [.list (fs.map encF)] = .ok (encO (fs.foldl grt none)) := by
  obtain ⟨y, e⟩ := gr_loop (fs.map encF) fs none .no h (by simp)
  change forGo _ _ _ [Cell.fz (.list (fs.map encF)), Cell.fz .none, Cell.no] = _ at e
  simp only [g_greatest, b_greatest, ev_foc, ev_fo0, ev_app, ev_enm, ev_rs, ev_lc', ev_g0, ev_gc, ev_y, big, ev_bnd, ev_ret, ev_lfS, ev_lfN, ev_stk, ev_vr, ev_vrT, ev_mT, ev_cF, ev_cO, ev_cB, ev_dd, ev_ds, ev_d0, ev_dc, ev_opr, ev_unr, ev_nl, ev_cns, ev_cbr, ev_ab, ev_ai, ev_tst', ev_an, ev_orr, ev_nt, ev_anV, ev_orV', ev_ntV, ev_ifm, ev_ch, ev_tp, ev_ls, ev_cl, ev_cl0, ev_isr, ev_sqI, ev_sqL, ev_sqT, ev_sb, ev_ss, ev_sn, ev_sa, ev_so, ev_sr, ev_sdr, ev_si, ev_sp, ev_p0, ev_pF, ev_pT, ev_sf, ev_hn, ev_ht, ev_hc, ev_h0, ev_cal, ev_f1, ev_f2, ev_f3, ev_f4, ev_cmp, ev_add, ev_sub, ev_mod, ev_fdv, ev_isn, ev_n1, ev_n2, ev_n3, ev_n4, ev_ixL, ev_ixT, ev_a0, ev_a1, ev_a2, ev_lL, ev_lT, ev_tL, ev_tT, ev_liT, ev_abs, ev_mx, ev_mn, ev_mx3, ev_t1, ev_t2, ev_t3, ev_eqI, ev_neI, List.getElem?_cons_zero, List.getElem?_cons_succ, List.set_cons_zero, List.set_cons_succ, List.length_cons, List.length_nil, List.map_cons, List.map_nil, List.replicate_succ, List.replicate_zero, List.cons_append, List.nil_append, List.append_nil, Option.bind_some, Option.map_some, Nat.reduceAdd, Nat.reduceSub, Nat.reduceLT, Nat.reduceLeDiff, Nat.reduceEqDiff, if_true, if_false, reduceIte, Bool.false_eq_true, wipeR, restR]
  rw [e]
  simp only [ev_foc, ev_fo0, ev_app, ev_enm, ev_rs, ev_lc', ev_g0, ev_gc, ev_y, big, ev_bnd, ev_ret, ev_lfS, ev_lfN, ev_stk, ev_vr, ev_vrT, ev_mT, ev_cF, ev_cO, ev_cB, ev_dd, ev_ds, ev_d0, ev_dc, ev_opr, ev_unr, ev_nl, ev_cns, ev_cbr, ev_ab, ev_ai, ev_tst', ev_an, ev_orr, ev_nt, ev_anV, ev_orV', ev_ntV, ev_ifm, ev_ch, ev_tp, ev_ls, ev_cl, ev_cl0, ev_isr, ev_sqI, ev_sqL, ev_sqT, ev_sb, ev_ss, ev_sn, ev_sa, ev_so, ev_sr, ev_sdr, ev_si, ev_sp, ev_p0, ev_pF, ev_pT, ev_sf, ev_hn, ev_ht, ev_hc, ev_h0, ev_cal, ev_f1, ev_f2, ev_f3, ev_f4, ev_cmp, ev_add, ev_sub, ev_mod, ev_fdv, ev_isn, ev_n1, ev_n2, ev_n3, ev_n4, ev_ixL, ev_ixT, ev_a0, ev_a1, ev_a2, ev_lL, ev_lT, ev_tL, ev_tT, ev_liT, ev_abs, ev_mx, ev_mn, ev_mx3, ev_t1, ev_t2, ev_t3, ev_eqI, ev_neI, List.getElem?_cons_zero, List.getElem?_cons_succ, List.set_cons_zero, List.set_cons_succ, List.length_cons, List.length_nil, List.map_cons, List.map_nil, List.replicate_succ, List.replicate_zero, List.cons_append, List.nil_append, List.append_nil, Option.bind_some, Option.map_some, Nat.reduceAdd, Nat.reduceSub, Nat.reduceLT, Nat.reduceLeDiff, Nat.reduceEqDiff, if_true, if_false, reduceIte, Bool.false_eq_true, wipeR, restR]
/-! ### lowest terms -/
theorem div_loop : ∀ (n x y : Nat), y < n → whileGo (mTst (mOp neF (mVarT 1) (mT (ret (.int 0))))) (sPar [false, false] [0, 1] (mCons (mVar 1) (mCons (mOp modF (mVarT 0) (mVarT 1)) (mNil)))) n [.fz (.int x), .fz (.int y)] = .nx [.fz (.int (Nat.gcd x y)), .fz (.int 0)]
  | 0, _, _, h => absurd h (Nat.not_lt_zero _)
  | n + 1, x, y, h => by
    unfold whileGo
    by_cases h0 : y = 0
    · subst h0
      simp [ev_foc, ev_fo0, ev_app, ev_enm, ev_rs, ev_lc', ev_g0, ev_gc, ev_y, big, ev_bnd, ev_ret, ev_lfS, ev_lfN, ev_stk, ev_vr, ev_vrT, ev_mT, ev_cF, ev_cO, ev_cB, ev_dd, ev_ds, ev_d0, ev_dc, ev_opr, ev_unr, ev_nl, ev_cns, ev_cbr, ev_ab, ev_ai, ev_tst', ev_an, ev_orr, ev_nt, ev_anV, ev_orV', ev_ntV, ev_ifm, ev_ch, ev_tp, ev_ls, ev_cl, ev_cl0, ev_isr, ev_sqI, ev_sqL, ev_sqT, ev_sb, ev_ss, ev_sn, ev_sa, ev_so, ev_sr, ev_sdr, ev_si, ev_sp, ev_p0, ev_pF, ev_pT, ev_sf, ev_hn, ev_ht, ev_hc, ev_h0, ev_cal, ev_f1, ev_f2, ev_f3, ev_f4, ev_cmp, ev_add, ev_sub, ev_mod, ev_fdv, ev_isn, ev_n1, ev_n2, ev_n3, ev_n4, ev_ixL, ev_ixT, ev_a0, ev_a1, ev_a2, ev_lL, ev_lT, ev_tL, ev_tT, ev_liT, ev_abs, ev_mx, ev_mn, ev_mx3, ev_t1, ev_t2, ev_t3, ev_eqI, ev_neI, List.getElem?_cons_zero, List.getElem?_cons_succ, List.set_cons_zero, List.set_cons_succ, List.length_cons, List.length_nil, List.map_cons, List.map_nil, List.replicate_succ, List.replicate_zero, List.cons_append, List.nil_append, List.append_nil, Option.bind_some, Option.map_some, Nat.reduceAdd, Nat.reduceSub, Nat.reduceLT, Nat.reduceLeDiff, Nat.reduceEqDiff, if_true, if_false, reduceIte, Bool.false_eq_true, wipeR, restR, ev_neI]
    · have hp : 0 < y := Nat.pos_of_ne_zero h0
      have hi : (0 : Int) < (y : Int) := by omega
      have hne : ((y : Int) = 0) = False := by simp; omega
      have ih := div_loop n y (x % y) (Nat.lt_of_lt_of_le (Nat.mod_lt _ hp) (Nat.le_of_lt_succ h))
      have e : (x : Int) % (y : Int) = ((x % y : Nat) : Int) := by simp
      simp only [ev_foc, ev_fo0, ev_app, ev_enm, ev_rs, ev_lc', ev_g0, ev_gc, ev_y, big, ev_bnd, ev_ret, ev_lfS, ev_lfN, ev_stk, ev_vr, ev_vrT, ev_mT, ev_cF, ev_cO, ev_cB, ev_dd, ev_ds, ev_d0, ev_dc, ev_opr, ev_unr, ev_nl, ev_cns, ev_cbr, ev_ab, ev_ai, ev_tst', ev_an, ev_orr, ev_nt, ev_anV, ev_orV', ev_ntV, ev_ifm, ev_ch, ev_tp, ev_ls, ev_cl, ev_cl0, ev_isr, ev_sqI, ev_sqL, ev_sqT, ev_sb, ev_ss, ev_sn, ev_sa, ev_so, ev_sr, ev_sdr, ev_si, ev_sp, ev_p0, ev_pF, ev_pT, ev_sf, ev_hn, ev_ht, ev_hc, ev_h0, ev_cal, ev_f1, ev_f2, ev_f3, ev_f4, ev_cmp, ev_add, ev_sub, ev_mod, ev_fdv, ev_isn, ev_n1, ev_n2, ev_n3, ev_n4, ev_ixL, ev_ixT, ev_a0, ev_a1, ev_a2, ev_lL, ev_lT, ev_tL, ev_tT, ev_liT, ev_abs, ev_mx, ev_mn, ev_mx3, ev_t1, ev_t2, ev_t3, ev_eqI, ev_neI, List.getElem?_cons_zero, List.getElem?_cons_succ, List.set_cons_zero, List.set_cons_succ, List.length_cons, List.length_nil, List.map_cons, List.map_nil, List.replicate_succ, List.replicate_zero, List.cons_append, List.nil_append, List.append_nil, Option.bind_some, Option.map_some, Nat.reduceAdd, Nat.reduceSub, Nat.reduceLT, Nat.reduceLeDiff, Nat.reduceEqDiff, if_true, if_false, reduceIte, Bool.false_eq_true, wipeR, restR, ev_neI, hne, hi, decide_false, Bool.not_false, e, ih]
      rw [Nat.gcd_comm x y, Nat.gcd_rec y x, Nat.gcd_comm]
theorem w_divisor (x y : Nat) (h : y < 1000000) : g_divisor [.int x, .int y] = .ok (.int (Nat.gcd x y)) := by
  simp only [g_divisor, b_divisor, ev_foc, ev_fo0, ev_app, ev_enm, ev_rs, ev_lc', ev_g0, ev_gc, ev_y, big, ev_bnd, ev_ret, ev_lfS, ev_lfN, ev_stk, ev_vr, ev_vrT, ev_mT, ev_cF, ev_cO, ev_cB, ev_dd, ev_ds, ev_d0, ev_dc, ev_opr, ev_unr, ev_nl, ev_cns, ev_cbr, ev_ab, ev_ai, ev_tst', ev_an, ev_orr, ev_nt, ev_anV, ev_orV', ev_ntV, ev_ifm, ev_ch, ev_tp, ev_ls, ev_cl, ev_cl0, ev_isr, ev_sqI, ev_sqL, ev_sqT, ev_sb, ev_ss, ev_sn, ev_sa, ev_so, ev_sr, ev_sdr, ev_si, ev_sp, ev_p0, ev_pF, ev_pT, ev_sf, ev_hn, ev_ht, ev_hc, ev_h0, ev_cal, ev_f1, ev_f2, ev_f3, ev_f4, ev_cmp, ev_add, ev_sub, ev_mod, ev_fdv, ev_isn, ev_n1, ev_n2, ev_n3, ev_n4, ev_ixL, ev_ixT, ev_a0, ev_a1, ev_a2, ev_lL, ev_lT, ev_tL, ev_tT, ev_liT, ev_abs, ev_mx, ev_mn, ev_mx3, ev_t1, ev_t2, ev_t3, ev_eqI, ev_neI, List.getElem?_cons_zero, List.getElem?_cons_succ, List.set_cons_zero, List.set_cons_succ, List.length_cons, List.length_nil, List.map_cons, List.map_nil, List.replicate_succ, List.replicate_zero, List.cons_append, List.nil_append, List.append_nil, Option.bind_some, Option.map_some, Nat.reduceAdd, Nat.reduceSub, Nat.reduceLT, Nat.reduceLeDiff, Nat.reduceEqDiff, if_true, if_false, reduceIte, Bool.false_eq_true, wipeR, restR, div_loop _ x y h]
theorem w_lowest (t b : Nat) (h0 : 0 < b) (h : b < 1000000) : g_lowest [.int t, .int b] = .ok (.tuple [.int (t / Nat.gcd t b : Nat), .int (b / Nat.gcd t b : Nat)]) := by
  have hg : 0 < Nat.gcd t b := Nat.gcd_pos_of_pos_right t h0
  have hg2 : Nat.gcd t b ≤ b := Nat.gcd_le_right t h0
  have hi : (0 : Int) < (Nat.gcd t b : Int) ∧ (Nat.gcd t b : Int).natAbs < 2 ^ 400 := by
    refine ⟨by omega, ?_⟩
    have : (Nat.gcd t b : Int).natAbs = Nat.gcd t b := by omega
    rw [this]
    exact Nat.lt_of_lt_of_le (Nat.lt_of_le_of_lt hg2 h) (by decide)
  have hn : ¬ ((t : Int) < 0) := by omega
  simp only [g_lowest, b_lowest, ev_foc, ev_fo0, ev_app, ev_enm, ev_rs, ev_lc', ev_g0, ev_gc, ev_y, big, ev_bnd, ev_ret, ev_lfS, ev_lfN, ev_stk, ev_vr, ev_vrT, ev_mT, ev_cF, ev_cO, ev_cB, ev_dd, ev_ds, ev_d0, ev_dc, ev_opr, ev_unr, ev_nl, ev_cns, ev_cbr, ev_ab, ev_ai, ev_tst', ev_an, ev_orr, ev_nt, ev_anV, ev_orV', ev_ntV, ev_ifm, ev_ch, ev_tp, ev_ls, ev_cl, ev_cl0, ev_isr, ev_sqI, ev_sqL, ev_sqT, ev_sb, ev_ss, ev_sn, ev_sa, ev_so, ev_sr, ev_sdr, ev_si, ev_sp, ev_p0, ev_pF, ev_pT, ev_sf, ev_hn, ev_ht, ev_hc, ev_h0, ev_cal, ev_f1, ev_f2, ev_f3, ev_f4, ev_cmp, ev_add, ev_sub, ev_mod, ev_fdv, ev_isn, ev_n1, ev_n2, ev_n3, ev_n4, ev_ixL, ev_ixT, ev_a0, ev_a1, ev_a2, ev_lL, ev_lT, ev_tL, ev_tT, ev_liT, ev_abs, ev_mx, ev_mn, ev_mx3, ev_t1, ev_t2, ev_t3, ev_eqI, ev_neI, List.getElem?_cons_zero, List.getElem?_cons_succ, List.set_cons_zero, List.set_cons_succ, List.length_cons, List.length_nil, List.map_cons, List.map_nil, List.replicate_succ, List.replicate_zero, List.cons_append, List.nil_append, List.append_nil, Option.bind_some, Option.map_some, Nat.reduceAdd, Nat.reduceSub, Nat.reduceLT, Nat.reduceLeDiff, Nat.reduceEqDiff, if_true, if_false, reduceIte, Bool.false_eq_true, wipeR, restR, hn, w_divisor t b h, hi, and_self, Int.natCast_ediv]
end Rn
end

section
set_option Elab.async false
set_option linter.all false
set_option maxRecDepth 100000
set_option maxHeartbeats 4000000
namespace Rn
open PySem PySem.Spec L2
abbrev arc (x : Str) (i j : Int) : D := T [.str x, I i, I j]
def rowsX (a b d : Nat) (more : List D) : D := T [T ([arc "s" 0 0, arc "e0" a 1] ++ more), T [arc "e0" d 0, arc "e1" b 1]]
abbrev rows (a b d : Nat) : D := rowsX a b d []
def net (a b d : Nat) : D := T [I 0, rows a b d, T [I 1]]
abbrev r1 (r : Nat) : List D := [arc "e1" 0 r]
abbrev r2 (r s : Nat) : List D := [arc "e1" 0 r, arc "e1" 0 s]
abbrev r0 : List D := [arc "e0" 0 2]
abbrev st1 : D := T [T [I 0, I 1]]
abbrev st2 : D := T [T [I 0, I 1], T [I 0, I 1]]
abbrev st0 : D := T [T [I 0, I 0]]
theorem q_with1 (a b d r : Nat) : g_with_rooms [rows a b d, st1, T [I r]] = .ok (rowsX a b d (r1 r)) := by kernel_rfl
theorem q_with2 (a b d r s : Nat) : g_with_rooms [rows a b d, st2, T [I r, I s]] = .ok (rowsX a b d (r2 r s)) := by kernel_rfl
theorem q_with0 (a b d : Nat) : g_with_rooms [rows a b d, st0, T [I 2]] = .ok (rowsX a b d r0) := by kernel_rfl
abbrev ga0 : D := T [T [I 0, I 1]]
abbrev gb0 : D := T [T [I 1, I 1]]
abbrev gr1 : D := T [T [I 0, I 2], T [I 1, I 0]]
abbrev gr2 : D := T [T [I 0, I 3], T [I 1, I 0]]
abbrev gs0 : D := T [T [I 0, I 2]]
theorem q_rings (a b d : Nat) : g_rings_of [rows a b d] = .ok (.list [ga0, gb0]) := by kernel_rfl
theorem q_rings1 (a b d r : Nat) : g_rings_of [rowsX a b d (r1 r)] = .ok (.list [ga0, gr1, gb0]) := by kernel_rfl
theorem q_rings2 (a b d r s : Nat) : g_rings_of [rowsX a b d (r2 r s)] = .ok (.list [ga0, gr1, gr2, gb0]) := by kernel_rfl
theorem q_rings0 (a b d : Nat) : g_rings_of [rowsX a b d r0] = .ok (.list [ga0, gs0, gb0]) := by kernel_rfl
theorem q_ma (a b d : Nat) : g_measure [rowsX a b d [], ga0] = .ok (T [I ([(a : Int)].sum), I ([1].sum)]) := by kernel_rfl
theorem q_mb (a b d : Nat) : g_measure [rowsX a b d [], gb0] = .ok (T [I ([(b : Int)].sum), I ([1].sum)]) := by kernel_rfl
theorem q_ma1 (a b d r : Nat) : g_measure [rowsX a b d (r1 r), ga0] = .ok (T [I ([(a : Int)].sum), I ([1].sum)]) := by kernel_rfl
theorem q_mb1 (a b d r : Nat) : g_measure [rowsX a b d (r1 r), gb0] = .ok (T [I ([(b : Int)].sum), I ([1].sum)]) := by kernel_rfl
theorem q_ma2 (a b d r s : Nat) : g_measure [rowsX a b d (r2 r s), ga0] = .ok (T [I ([(a : Int)].sum), I ([1].sum)]) := by kernel_rfl
theorem q_mb2 (a b d r s : Nat) : g_measure [rowsX a b d (r2 r s), gb0] = .ok (T [I ([(b : Int)].sum), I ([1].sum)]) := by kernel_rfl
theorem q_ma0 (a b d : Nat) : g_measure [rowsX a b d r0, ga0] = .ok (T [I ([(a : Int)].sum), I ([1].sum)]) := by kernel_rfl
theorem q_mb0 (a b d : Nat) : g_measure [rowsX a b d r0, gb0] = .ok (T [I ([(b : Int)].sum), I ([1].sum)]) := by kernel_rfl
theorem q_m1 (a b d r : Nat) : g_measure [rowsX a b d (r1 r), gr1] = .ok (T [I ([0, (d : Int)].sum), I ([(r : Int), 0].sum)]) := by kernel_rfl
theorem q_m21 (a b d r s : Nat) : g_measure [rowsX a b d (r2 r s), gr1] = .ok (T [I ([0, (d : Int)].sum), I ([(r : Int), 0].sum)]) := by kernel_rfl
theorem q_m22 (a b d r s : Nat) : g_measure [rowsX a b d (r2 r s), gr2] = .ok (T [I ([0, (d : Int)].sum), I ([(s : Int), 0].sum)]) := by kernel_rfl
theorem q_m0 (a b d : Nat) : g_measure [rowsX a b d r0, gs0] = .ok (T [I ([0].sum), I ([2].sum)]) := by kernel_rfl
def low (t b : Nat) : Fr := (((t / Nat.gcd t b : Nat) : Int), ((b / Nat.gcd t b : Nat) : Int))
theorem low1 (a : Nat) : low a 1 = ((a : Int), 1) := by simp [low]
theorem ratio_of {rows ring : D} {t b : Nat} (h0 : 0 < b) (h : b < 1000000) (hm : g_measure [rows, ring] = .ok (T [I t, I b])) : g_ratio [rows, ring] = .ok (encF (low t b)) := by
  have e := w_lowest t b h0 h
  simp only [g_ratio, b_ratio, ev_foc, ev_fo0, ev_app, ev_enm, ev_rs, ev_lc', ev_g0, ev_gc, ev_y, big, ev_bnd, ev_ret, ev_lfS, ev_lfN, ev_stk, ev_vr, ev_vrT, ev_mT, ev_cF, ev_cO, ev_cB, ev_dd, ev_ds, ev_d0, ev_dc, ev_opr, ev_unr, ev_nl, ev_cns, ev_cbr, ev_ab, ev_ai, ev_tst', ev_an, ev_orr, ev_nt, ev_anV, ev_orV', ev_ntV, ev_ifm, ev_ch, ev_tp, ev_ls, ev_cl, ev_cl0, ev_isr, ev_sqI, ev_sqL, ev_sqT, ev_sb, ev_ss, ev_sn, ev_sa, ev_so, ev_sr, ev_sdr, ev_si, ev_sp, ev_p0, ev_pF, ev_pT, ev_sf, ev_hn, ev_ht, ev_hc, ev_h0, ev_cal, ev_f1, ev_f2, ev_f3, ev_f4, ev_cmp, ev_add, ev_sub, ev_mod, ev_fdv, ev_isn, ev_n1, ev_n2, ev_n3, ev_n4, ev_ixL, ev_ixT, ev_a0, ev_a1, ev_a2, ev_lL, ev_lT, ev_tL, ev_tT, ev_liT, ev_abs, ev_mx, ev_mn, ev_mx3, ev_t1, ev_t2, ev_t3, ev_eqI, ev_neI, List.getElem?_cons_zero, List.getElem?_cons_succ, List.set_cons_zero, List.set_cons_succ, List.length_cons, List.length_nil, List.map_cons, List.map_nil, List.replicate_succ, List.replicate_zero, List.cons_append, List.nil_append, List.append_nil, Option.bind_some, Option.map_some, Nat.reduceAdd, Nat.reduceSub, Nat.reduceLT, Nat.reduceLeDiff, Nat.reduceEqDiff, if_true, if_false, reduceIte, Bool.false_eq_true, wipeR, restR, hm, e, T, I] 
  rfl
theorem q_ra (a b d : Nat) : g_ratio [rowsX a b d [], ga0] = .ok (encF ((a : Int), 1)) := by
  rw [← low1]
  exact ratio_of (by decide) (by decide) ((q_ma a b d).trans (by simp))
theorem q_rb (a b d : Nat) : g_ratio [rowsX a b d [], gb0] = .ok (encF ((b : Int), 1)) := by
  rw [← low1]
  exact ratio_of (by decide) (by decide) ((q_mb a b d).trans (by simp))
theorem q_ra1 (a b d r : Nat) : g_ratio [rowsX a b d (r1 r), ga0] = .ok (encF ((a : Int), 1)) := by
  rw [← low1]
  exact ratio_of (by decide) (by decide) ((q_ma1 a b d r).trans (by simp))
theorem q_rb1 (a b d r : Nat) : g_ratio [rowsX a b d (r1 r), gb0] = .ok (encF ((b : Int), 1)) := by
  rw [← low1]
  exact ratio_of (by decide) (by decide) ((q_mb1 a b d r).trans (by simp))
theorem q_ra2 (a b d r s : Nat) : g_ratio [rowsX a b d (r2 r s), ga0] = .ok (encF ((a : Int), 1)) := by
  rw [← low1]
  exact ratio_of (by decide) (by decide) ((q_ma2 a b d r s).trans (by simp))
theorem q_rb2 (a b d r s : Nat) : g_ratio [rowsX a b d (r2 r s), gb0] = .ok (encF ((b : Int), 1)) := by
  rw [← low1]
  exact ratio_of (by decide) (by decide) ((q_mb2 a b d r s).trans (by simp))
theorem q_ra0 (a b d : Nat) : g_ratio [rowsX a b d r0, ga0] = .ok (encF ((a : Int), 1)) := by
  rw [← low1]
  exact ratio_of (by decide) (by decide) ((q_ma0 a b d).trans (by simp))
theorem q_rb0 (a b d : Nat) : g_ratio [rowsX a b d r0, gb0] = .ok (encF ((b : Int), 1)) := by
  rw [← low1]
  exact ratio_of (by decide) (by decide) ((q_mb0 a b d).trans (by simp))
section
variable (a b d r s : Nat) (h0 : 0 < r) (h : r < 1000000) (k0 : 0 < s) (k : s < 1000000)
include h0 h in
theorem q_r1 : g_ratio [rowsX a b d (r1 r), gr1] = .ok (encF (low d r)) := ratio_of h0 h ((q_m1 a b d r).trans (by simp))
include h0 h in
theorem q_r21 : g_ratio [rowsX a b d (r2 r s), gr1] = .ok (encF (low d r)) := ratio_of h0 h ((q_m21 a b d r s).trans (by simp))
include k0 k in
theorem q_r22 : g_ratio [rowsX a b d (r2 r s), gr2] = .ok (encF (low d s)) := ratio_of k0 k ((q_m22 a b d r s).trans (by simp))
theorem q_r0 : g_ratio [rowsX a b d r0, gs0] = .ok (encF (low 0 2)) := ratio_of (by decide) (by decide) ((q_m0 a b d).trans (by simp))
end
/-! ### the slowest -/
theorem isSmall_le {n m : Nat} (h : n ≤ m) (hm : m < 2 ^ 64) : isSmall (n : Int) = true := by
  unfold isSmall
  simp only [Bool.and_eq_true, decide_eq_true_eq]
  omega
theorem low_small {t b : Nat} (h : b < 1000000) : isSmall (low t b).2 = true := isSmall_le (Nat.div_le_self b _) (by omega)
theorem all2 {P : Fr → Prop} {x y : Fr} (h1 : P x) (h2 : P y) : ∀ f ∈ [x, y], P f := by
  intro f hf
  simp only [List.mem_cons, List.not_mem_nil, or_false] at hf
  rcases hf with e | e
  · exact e ▸ h1
  · exact e ▸ h2
theorem all3 {P : Fr → Prop} {x y z : Fr} (h1 : P x) (h2 : P y) (h3 : P z) : ∀ f ∈ [x, y, z], P f := by
  intro f hf
  simp only [List.mem_cons, List.not_mem_nil, or_false] at hf
  rcases hf with e | e | e
  · exact e ▸ h1
  · exact e ▸ h2
  · exact e ▸ h3
theorem all4 {P : Fr → Prop} {x y z u : Fr} (h1 : P x) (h2 : P y) (h3 : P z) (h4 : P u) : ∀ f ∈ [x, y, z, u], P f := by
  intro f hf
  simp only [List.mem_cons, List.not_mem_nil, or_false] at hf
  rcases hf with e | e | e | e
  · exact e ▸ h1
  · exact e ▸ h2
  · exact e ▸ h3
  · exact e ▸ h4
theorem slow_of {rows : D} {rings : List D} (fs : List Fr) (hr : g_rings_of [rows] = .ok (.list rings)) (hl : rings.length ≤ big) (hf : ∀ f ∈ fs, isSmall f.2 = true) (ht : lcGo (hName 1) mYes (mCall0 g_ratio (mCons (mVar 0) (mCons (mVar 1) mNil))) [1] rings [.fz rows, .no] = .ok (fs.map encF) [.fz rows, .no]) :
    g_slowest_of [rows] = .ok (encO (fs.foldl grt none)) := by
  have e := w_greatest fs hf
  have hl' : rings.length ≤ 1000000 := hl
  simp only [g_slowest_of, b_slowest_of, ev_foc, ev_fo0, ev_app, ev_enm, ev_rs, ev_lc', ev_g0, ev_gc, ev_y, big, ev_bnd, ev_ret, ev_lfS, ev_lfN, ev_stk, ev_vr, ev_vrT, ev_mT, ev_cF, ev_cO, ev_cB, ev_dd, ev_ds, ev_d0, ev_dc, ev_opr, ev_unr, ev_nl, ev_cns, ev_cbr, ev_ab, ev_ai, ev_tst', ev_an, ev_orr, ev_nt, ev_anV, ev_orV', ev_ntV, ev_ifm, ev_ch, ev_tp, ev_ls, ev_cl, ev_cl0, ev_isr, ev_sqI, ev_sqL, ev_sqT, ev_sb, ev_ss, ev_sn, ev_sa, ev_so, ev_sr, ev_sdr, ev_si, ev_sp, ev_p0, ev_pF, ev_pT, ev_sf, ev_hn, ev_ht, ev_hc, ev_h0, ev_cal, ev_f1, ev_f2, ev_f3, ev_f4, ev_cmp, ev_add, ev_sub, ev_mod, ev_fdv, ev_isn, ev_n1, ev_n2, ev_n3, ev_n4, ev_ixL, ev_ixT, ev_a0, ev_a1, ev_a2, ev_lL, ev_lT, ev_tL, ev_tT, ev_liT, ev_abs, ev_mx, ev_mn, ev_mx3, ev_t1, ev_t2, ev_t3, ev_eqI, ev_neI, List.getElem?_cons_zero, List.getElem?_cons_succ, List.set_cons_zero, List.set_cons_succ, List.length_cons, List.length_nil, List.map_cons, List.map_nil, List.replicate_succ, List.replicate_zero, List.cons_append, List.nil_append, List.append_nil, Option.bind_some, Option.map_some, Nat.reduceAdd, Nat.reduceSub, Nat.reduceLT, Nat.reduceLeDiff, Nat.reduceEqDiff, if_true, if_false, reduceIte, Bool.false_eq_true, wipeR, restR, hr, ht, hl', e]
theorem q_slow (a b d : Nat) : g_slowest_of [rows a b d] = .ok (encO ([((a : Int), 1), ((b : Int), 1)].foldl grt none)) := by
  refine slow_of _ (q_rings a b d) (by decide) (all2 rfl rfl) ?_
  simp only [ev_foc, ev_fo0, ev_app, ev_enm, ev_rs, ev_lc', ev_g0, ev_gc, ev_y, big, ev_bnd, ev_ret, ev_lfS, ev_lfN, ev_stk, ev_vr, ev_vrT, ev_mT, ev_cF, ev_cO, ev_cB, ev_dd, ev_ds, ev_d0, ev_dc, ev_opr, ev_unr, ev_nl, ev_cns, ev_cbr, ev_ab, ev_ai, ev_tst', ev_an, ev_orr, ev_nt, ev_anV, ev_orV', ev_ntV, ev_ifm, ev_ch, ev_tp, ev_ls, ev_cl, ev_cl0, ev_isr, ev_sqI, ev_sqL, ev_sqT, ev_sb, ev_ss, ev_sn, ev_sa, ev_so, ev_sr, ev_sdr, ev_si, ev_sp, ev_p0, ev_pF, ev_pT, ev_sf, ev_hn, ev_ht, ev_hc, ev_h0, ev_cal, ev_f1, ev_f2, ev_f3, ev_f4, ev_cmp, ev_add, ev_sub, ev_mod, ev_fdv, ev_isn, ev_n1, ev_n2, ev_n3, ev_n4, ev_ixL, ev_ixT, ev_a0, ev_a1, ev_a2, ev_lL, ev_lT, ev_tL, ev_tT, ev_liT, ev_abs, ev_mx, ev_mn, ev_mx3, ev_t1, ev_t2, ev_t3, ev_eqI, ev_neI, List.getElem?_cons_zero, List.getElem?_cons_succ, List.set_cons_zero, List.set_cons_succ, List.length_cons, List.length_nil, List.map_cons, List.map_nil, List.replicate_succ, List.replicate_zero, List.cons_append, List.nil_append, List.append_nil, Option.bind_some, Option.map_some, Nat.reduceAdd, Nat.reduceSub, Nat.reduceLT, Nat.reduceLeDiff, Nat.reduceEqDiff, if_true, if_false, reduceIte, Bool.false_eq_true, wipeR, restR, q_ra, q_rb]
theorem q_slow1 (a b d r : Nat) (h0 : 0 < r) (h : r < 1000000) : g_slowest_of [rowsX a b d (r1 r)] = .ok (encO ([((a : Int), 1), low d r, ((b : Int), 1)].foldl grt none)) := by
  refine slow_of _ (q_rings1 a b d r) (by decide) (all3 rfl (low_small h) rfl) ?_
  simp only [ev_foc, ev_fo0, ev_app, ev_enm, ev_rs, ev_lc', ev_g0, ev_gc, ev_y, big, ev_bnd, ev_ret, ev_lfS, ev_lfN, ev_stk, ev_vr, ev_vrT, ev_mT, ev_cF, ev_cO, ev_cB, ev_dd, ev_ds, ev_d0, ev_dc, ev_opr, ev_unr, ev_nl, ev_cns, ev_cbr, ev_ab, ev_ai, ev_tst', ev_an, ev_orr, ev_nt, ev_anV, ev_orV', ev_ntV, ev_ifm, ev_ch, ev_tp, ev_ls, ev_cl, ev_cl0, ev_isr, ev_sqI, ev_sqL, ev_sqT, ev_sb, ev_ss, ev_sn, ev_sa, ev_so, ev_sr, ev_sdr, ev_si, ev_sp, ev_p0, ev_pF, ev_pT, ev_sf, ev_hn, ev_ht, ev_hc, ev_h0, ev_cal, ev_f1, ev_f2, ev_f3, ev_f4, ev_cmp, ev_add, ev_sub, ev_mod, ev_fdv, ev_isn, ev_n1, ev_n2, ev_n3, ev_n4, ev_ixL, ev_ixT, ev_a0, ev_a1, ev_a2, ev_lL, ev_lT, ev_tL, ev_tT, ev_liT, ev_abs, ev_mx, ev_mn, ev_mx3, ev_t1, ev_t2, ev_t3, ev_eqI, ev_neI, List.getElem?_cons_zero, List.getElem?_cons_succ, List.set_cons_zero, List.set_cons_succ, List.length_cons, List.length_nil, List.map_cons, List.map_nil, List.replicate_succ, List.replicate_zero, List.cons_append, List.nil_append, List.append_nil, Option.bind_some, Option.map_some, Nat.reduceAdd, Nat.reduceSub, Nat.reduceLT, Nat.reduceLeDiff, Nat.reduceEqDiff, if_true, if_false, reduceIte, Bool.false_eq_true, wipeR, restR, q_ra1, q_rb1, q_r1 a b d r h0 h]
theorem q_slow2 (a b d r s : Nat) (h0 : 0 < r) (h : r < 1000000) (k0 : 0 < s) (k : s < 1000000) : g_slowest_of [rowsX a b d (r2 r s)] = .ok (encO ([((a : Int), 1), low d r, low d s, ((b : Int), 1)].foldl grt none)) := by
  refine slow_of _ (q_rings2 a b d r s) (by decide) (all4 rfl (low_small h) (low_small k) rfl) ?_
  simp only [ev_foc, ev_fo0, ev_app, ev_enm, ev_rs, ev_lc', ev_g0, ev_gc, ev_y, big, ev_bnd, ev_ret, ev_lfS, ev_lfN, ev_stk, ev_vr, ev_vrT, ev_mT, ev_cF, ev_cO, ev_cB, ev_dd, ev_ds, ev_d0, ev_dc, ev_opr, ev_unr, ev_nl, ev_cns, ev_cbr, ev_ab, ev_ai, ev_tst', ev_an, ev_orr, ev_nt, ev_anV, ev_orV', ev_ntV, ev_ifm, ev_ch, ev_tp, ev_ls, ev_cl, ev_cl0, ev_isr, ev_sqI, ev_sqL, ev_sqT, ev_sb, ev_ss, ev_sn, ev_sa, ev_so, ev_sr, ev_sdr, ev_si, ev_sp, ev_p0, ev_pF, ev_pT, ev_sf, ev_hn, ev_ht, ev_hc, ev_h0, ev_cal, ev_f1, ev_f2, ev_f3, ev_f4, ev_cmp, ev_add, ev_sub, ev_mod, ev_fdv, ev_isn, ev_n1, ev_n2, ev_n3, ev_n4, ev_ixL, ev_ixT, ev_a0, ev_a1, ev_a2, ev_lL, ev_lT, ev_tL, ev_tT, ev_liT, ev_abs, ev_mx, ev_mn, ev_mx3, ev_t1, ev_t2, ev_t3, ev_eqI, ev_neI, List.getElem?_cons_zero, List.getElem?_cons_succ, List.set_cons_zero, List.set_cons_succ, List.length_cons, List.length_nil, List.map_cons, List.map_nil, List.replicate_succ, List.replicate_zero, List.cons_append, List.nil_append, List.append_nil, Option.bind_some, Option.map_some, Nat.reduceAdd, Nat.reduceSub, Nat.reduceLT, Nat.reduceLeDiff, Nat.reduceEqDiff, if_true, if_false, reduceIte, Bool.false_eq_true, wipeR, restR, q_ra2, q_rb2, q_r21 a b d r s h0 h, q_r22 a b d r s k0 k]
theorem q_slow0 (a b d : Nat) : g_slowest_of [rowsX a b d r0] = .ok (encO ([((a : Int), 1), low 0 2, ((b : Int), 1)].foldl grt none)) := by
  refine slow_of _ (q_rings0 a b d) (by decide) (all3 rfl (low_small (by decide)) rfl) ?_
  simp only [ev_foc, ev_fo0, ev_app, ev_enm, ev_rs, ev_lc', ev_g0, ev_gc, ev_y, big, ev_bnd, ev_ret, ev_lfS, ev_lfN, ev_stk, ev_vr, ev_vrT, ev_mT, ev_cF, ev_cO, ev_cB, ev_dd, ev_ds, ev_d0, ev_dc, ev_opr, ev_unr, ev_nl, ev_cns, ev_cbr, ev_ab, ev_ai, ev_tst', ev_an, ev_orr, ev_nt, ev_anV, ev_orV', ev_ntV, ev_ifm, ev_ch, ev_tp, ev_ls, ev_cl, ev_cl0, ev_isr, ev_sqI, ev_sqL, ev_sqT, ev_sb, ev_ss, ev_sn, ev_sa, ev_so, ev_sr, ev_sdr, ev_si, ev_sp, ev_p0, ev_pF, ev_pT, ev_sf, ev_hn, ev_ht, ev_hc, ev_h0, ev_cal, ev_f1, ev_f2, ev_f3, ev_f4, ev_cmp, ev_add, ev_sub, ev_mod, ev_fdv, ev_isn, ev_n1, ev_n2, ev_n3, ev_n4, ev_ixL, ev_ixT, ev_a0, ev_a1, ev_a2, ev_lL, ev_lT, ev_tL, ev_tT, ev_liT, ev_abs, ev_mx, ev_mn, ev_mx3, ev_t1, ev_t2, ev_t3, ev_eqI, ev_neI, List.getElem?_cons_zero, List.getElem?_cons_succ, List.set_cons_zero, List.set_cons_succ, List.length_cons, List.length_nil, List.map_cons, List.map_nil, List.replicate_succ, List.replicate_zero, List.cons_append, List.nil_append, List.append_nil, Option.bind_some, Option.map_some, Nat.reduceAdd, Nat.reduceSub, Nat.reduceLT, Nat.reduceLeDiff, Nat.reduceEqDiff, if_true, if_false, reduceIte, Bool.false_eq_true, wipeR, restR, q_ra0, q_rb0, q_r0]
end Rn
end

section
set_option Elab.async false
set_option linter.all false
set_option maxRecDepth 100000
set_option maxHeartbeats 4000000
namespace Rn
open PySem PySem.Spec L2
theorem q_src0 : g_is_source [.str "s", I 0, I 2] = .ok (.bool true) := by kernel_rfl
theorem q_src1 : g_is_source [.str "e0", I 0, I 2] = .ok (.bool true) := by kernel_rfl
theorem q_src2 : g_is_source [.str "e1", I 0, I 2] = .ok (.bool true) := by kernel_rfl
theorem q_arc (x : Str) (v j : Int) (hs : g_is_source [.str x, I 0, I 2] = .ok (.bool true)) (h1 : 0 ≤ v) (h2 : v ≤ 9) (h3 : 0 ≤ j) (h4 : j ≤ 3) : g_is_arc [arc x v j, I 0, I 2] = .ok (.bool true) := by
  simp -implicitDefEqProofs [g_is_arc, b_is_arc, ev_foc, ev_fo0, ev_app, ev_enm, ev_rs, ev_lc', ev_g0, ev_gc, ev_y, big, ev_bnd, ev_ret, ev_lfS, ev_lfN, ev_stk, ev_vr, ev_vrT, ev_mT, ev_cF, ev_cO, ev_cB, ev_dd, ev_ds, ev_d0, ev_dc, ev_opr, ev_unr, ev_nl, ev_cns, ev_cbr, ev_ab, ev_ai, ev_tst', ev_an, ev_orr, ev_nt, ev_anV, ev_orV', ev_ntV, ev_ifm, ev_ch, ev_tp, ev_ls, ev_cl, ev_cl0, ev_isr, ev_sqI, ev_sqL, ev_sqT, ev_sb, ev_ss, ev_sn, ev_sa, ev_so, ev_sr, ev_sdr, ev_si, ev_sp, ev_p0, ev_pF, ev_pT, ev_sf, ev_hn, ev_ht, ev_hc, ev_h0, ev_cal, ev_f1, ev_f2, ev_f3, ev_f4, ev_cmp, ev_add, ev_sub, ev_mod, ev_fdv, ev_isn, ev_n1, ev_n2, ev_n3, ev_n4, ev_ixL, ev_ixT, ev_a0, ev_a1, ev_a2, ev_lL, ev_lT, ev_tL, ev_tT, ev_liT, ev_abs, ev_mx, ev_mn, ev_mx3, ev_t1, ev_t2, ev_t3, ev_eqI, ev_neI, List.getElem?_cons_zero, List.getElem?_cons_succ, List.set_cons_zero, List.set_cons_succ, List.length_cons, List.length_nil, List.map_cons, List.map_nil, List.replicate_succ, List.replicate_zero, List.cons_append, List.nil_append, List.append_nil, Option.bind_some, Option.map_some, Nat.reduceAdd, Nat.reduceSub, Nat.reduceLT, Nat.reduceLeDiff, Nat.reduceEqDiff, if_true, if_false, reduceIte, Bool.false_eq_true, wipeR, restR, hs, w_is_whole, h1, h2, h3, h4, pIs]
theorem q_row (x y : D) (hx : g_is_arc [x, I 0, I 2] = .ok (.bool true)) (hy : g_is_arc [y, I 0, I 2] = .ok (.bool true)) : g_is_row [T [x, y], I 0, I 2] = .ok (.bool true) := by
  simp -implicitDefEqProofs [g_is_row, b_is_row, ev_foc, ev_fo0, ev_app, ev_enm, ev_rs, ev_lc', ev_g0, ev_gc, ev_y, big, ev_bnd, ev_ret, ev_lfS, ev_lfN, ev_stk, ev_vr, ev_vrT, ev_mT, ev_cF, ev_cO, ev_cB, ev_dd, ev_ds, ev_d0, ev_dc, ev_opr, ev_unr, ev_nl, ev_cns, ev_cbr, ev_ab, ev_ai, ev_tst', ev_an, ev_orr, ev_nt, ev_anV, ev_orV', ev_ntV, ev_ifm, ev_ch, ev_tp, ev_ls, ev_cl, ev_cl0, ev_isr, ev_sqI, ev_sqL, ev_sqT, ev_sb, ev_ss, ev_sn, ev_sa, ev_so, ev_sr, ev_sdr, ev_si, ev_sp, ev_p0, ev_pF, ev_pT, ev_sf, ev_hn, ev_ht, ev_hc, ev_h0, ev_cal, ev_f1, ev_f2, ev_f3, ev_f4, ev_cmp, ev_add, ev_sub, ev_mod, ev_fdv, ev_isn, ev_n1, ev_n2, ev_n3, ev_n4, ev_ixL, ev_ixT, ev_a0, ev_a1, ev_a2, ev_lL, ev_lT, ev_tL, ev_tT, ev_liT, ev_abs, ev_mx, ev_mn, ev_mx3, ev_t1, ev_t2, ev_t3, ev_eqI, ev_neI, List.getElem?_cons_zero, List.getElem?_cons_succ, List.set_cons_zero, List.set_cons_succ, List.length_cons, List.length_nil, List.map_cons, List.map_nil, List.replicate_succ, List.replicate_zero, List.cons_append, List.nil_append, List.append_nil, Option.bind_some, Option.map_some, Nat.reduceAdd, Nat.reduceSub, Nat.reduceLT, Nat.reduceLeDiff, Nat.reduceEqDiff, if_true, if_false, reduceIte, Bool.false_eq_true, wipeR, restR, hx, hy, pIs, allF, allOf]
section
variable (a b d : Nat) (ha : a ≤ 9) (hb : b ≤ 9) (hd : d ≤ 9)
theorem q_back : g_all_back [rows a b d] = .ok (I 2) := by kernel_rfl
theorem q_order : g_order_of [rows a b d] = .ok (.list [I 0, I 1]) := by kernel_rfl
include ha hb hd in
theorem q_shaped : g_is_shaped [net a b d] = .ok (.bool true) := by
  have h1 := q_row (arc "s" 0 0) (arc "e0" a 1) (q_arc "s" 0 0 q_src0 (by decide) (by decide) (by decide) (by decide)) (q_arc "e0" a 1 q_src1 (by omega) (by omega) (by decide) (by decide))
  have h2 := q_row (arc "e0" d 0) (arc "e1" b 1) (q_arc "e0" d 0 q_src1 (by omega) (by omega) (by decide) (by decide)) (q_arc "e1" b 1 q_src2 (by omega) (by omega) (by decide) (by decide))
  simp -implicitDefEqProofs [g_is_shaped, b_is_shaped, net, rows, rowsX, ev_foc, ev_fo0, ev_app, ev_enm, ev_rs, ev_lc', ev_g0, ev_gc, ev_y, big, ev_bnd, ev_ret, ev_lfS, ev_lfN, ev_stk, ev_vr, ev_vrT, ev_mT, ev_cF, ev_cO, ev_cB, ev_dd, ev_ds, ev_d0, ev_dc, ev_opr, ev_unr, ev_nl, ev_cns, ev_cbr, ev_ab, ev_ai, ev_tst', ev_an, ev_orr, ev_nt, ev_anV, ev_orV', ev_ntV, ev_ifm, ev_ch, ev_tp, ev_ls, ev_cl, ev_cl0, ev_isr, ev_sqI, ev_sqL, ev_sqT, ev_sb, ev_ss, ev_sn, ev_sa, ev_so, ev_sr, ev_sdr, ev_si, ev_sp, ev_p0, ev_pF, ev_pT, ev_sf, ev_hn, ev_ht, ev_hc, ev_h0, ev_cal, ev_f1, ev_f2, ev_f3, ev_f4, ev_cmp, ev_add, ev_sub, ev_mod, ev_fdv, ev_isn, ev_n1, ev_n2, ev_n3, ev_n4, ev_ixL, ev_ixT, ev_a0, ev_a1, ev_a2, ev_lL, ev_lT, ev_tL, ev_tT, ev_liT, ev_abs, ev_mx, ev_mn, ev_mx3, ev_t1, ev_t2, ev_t3, ev_eqI, ev_neI, List.getElem?_cons_zero, List.getElem?_cons_succ, List.set_cons_zero, List.set_cons_succ, List.length_cons, List.length_nil, List.map_cons, List.map_nil, List.replicate_succ, List.replicate_zero, List.cons_append, List.nil_append, List.append_nil, Option.bind_some, Option.map_some, Nat.reduceAdd, Nat.reduceSub, Nat.reduceLT, Nat.reduceLeDiff, Nat.reduceEqDiff, if_true, if_false, reduceIte, Bool.false_eq_true, wipeR, restR, h1, h2, pIs, allF, allOf, w_is_whole]
include ha hb hd in
theorem q_net : g_is_net [net a b d] = .ok (.bool true) := by
  have h := q_shaped a b d ha hb hd
  have h2 := q_back a b d
  have h3 := q_order a b d
  simp -implicitDefEqProofs [g_is_net, b_is_net, ev_foc, ev_fo0, ev_app, ev_enm, ev_rs, ev_lc', ev_g0, ev_gc, ev_y, big, ev_bnd, ev_ret, ev_lfS, ev_lfN, ev_stk, ev_vr, ev_vrT, ev_mT, ev_cF, ev_cO, ev_cB, ev_dd, ev_ds, ev_d0, ev_dc, ev_opr, ev_unr, ev_nl, ev_cns, ev_cbr, ev_ab, ev_ai, ev_tst', ev_an, ev_orr, ev_nt, ev_anV, ev_orV', ev_ntV, ev_ifm, ev_ch, ev_tp, ev_ls, ev_cl, ev_cl0, ev_isr, ev_sqI, ev_sqL, ev_sqT, ev_sb, ev_ss, ev_sn, ev_sa, ev_so, ev_sr, ev_sdr, ev_si, ev_sp, ev_p0, ev_pF, ev_pT, ev_sf, ev_hn, ev_ht, ev_hc, ev_h0, ev_cal, ev_f1, ev_f2, ev_f3, ev_f4, ev_cmp, ev_add, ev_sub, ev_mod, ev_fdv, ev_isn, ev_n1, ev_n2, ev_n3, ev_n4, ev_ixL, ev_ixT, ev_a0, ev_a1, ev_a2, ev_lL, ev_lT, ev_tL, ev_tT, ev_liT, ev_abs, ev_mx, ev_mn, ev_mx3, ev_t1, ev_t2, ev_t3, ev_eqI, ev_neI, List.getElem?_cons_zero, List.getElem?_cons_succ, List.set_cons_zero, List.set_cons_succ, List.length_cons, List.length_nil, List.map_cons, List.map_nil, List.replicate_succ, List.replicate_zero, List.cons_append, List.nil_append, List.append_nil, Option.bind_some, Option.map_some, Nat.reduceAdd, Nat.reduceSub, Nat.reduceLT, Nat.reduceLeDiff, Nat.reduceEqDiff, if_true, if_false, reduceIte, Bool.false_eq_true, wipeR, restR, h]
  simp -implicitDefEqProofs [net, ev_foc, ev_fo0, ev_app, ev_enm, ev_rs, ev_lc', ev_g0, ev_gc, ev_y, big, ev_bnd, ev_ret, ev_lfS, ev_lfN, ev_stk, ev_vr, ev_vrT, ev_mT, ev_cF, ev_cO, ev_cB, ev_dd, ev_ds, ev_d0, ev_dc, ev_opr, ev_unr, ev_nl, ev_cns, ev_cbr, ev_ab, ev_ai, ev_tst', ev_an, ev_orr, ev_nt, ev_anV, ev_orV', ev_ntV, ev_ifm, ev_ch, ev_tp, ev_ls, ev_cl, ev_cl0, ev_isr, ev_sqI, ev_sqL, ev_sqT, ev_sb, ev_ss, ev_sn, ev_sa, ev_so, ev_sr, ev_sdr, ev_si, ev_sp, ev_p0, ev_pF, ev_pT, ev_sf, ev_hn, ev_ht, ev_hc, ev_h0, ev_cal, ev_f1, ev_f2, ev_f3, ev_f4, ev_cmp, ev_add, ev_sub, ev_mod, ev_fdv, ev_isn, ev_n1, ev_n2, ev_n3, ev_n4, ev_ixL, ev_ixT, ev_a0, ev_a1, ev_a2, ev_lL, ev_lT, ev_tL, ev_tT, ev_liT, ev_abs, ev_mx, ev_mn, ev_mx3, ev_t1, ev_t2, ev_t3, ev_eqI, ev_neI, List.getElem?_cons_zero, List.getElem?_cons_succ, List.set_cons_zero, List.set_cons_succ, List.length_cons, List.length_nil, List.map_cons, List.map_nil, List.replicate_succ, List.replicate_zero, List.cons_append, List.nil_append, List.append_nil, Option.bind_some, Option.map_some, Nat.reduceAdd, Nat.reduceSub, Nat.reduceLT, Nat.reduceLeDiff, Nat.reduceEqDiff, if_true, if_false, reduceIte, Bool.false_eq_true, wipeR, restR, h2, h3]
include ha hb hd in
theorem q_need : g_need_net [net a b d] = .ok .none := by
  have h := q_net a b d ha hb hd
  simp -implicitDefEqProofs [g_need_net, b_need_net, ev_foc, ev_fo0, ev_app, ev_enm, ev_rs, ev_lc', ev_g0, ev_gc, ev_y, big, ev_bnd, ev_ret, ev_lfS, ev_lfN, ev_stk, ev_vr, ev_vrT, ev_mT, ev_cF, ev_cO, ev_cB, ev_dd, ev_ds, ev_d0, ev_dc, ev_opr, ev_unr, ev_nl, ev_cns, ev_cbr, ev_ab, ev_ai, ev_tst', ev_an, ev_orr, ev_nt, ev_anV, ev_orV', ev_ntV, ev_ifm, ev_ch, ev_tp, ev_ls, ev_cl, ev_cl0, ev_isr, ev_sqI, ev_sqL, ev_sqT, ev_sb, ev_ss, ev_sn, ev_sa, ev_so, ev_sr, ev_sdr, ev_si, ev_sp, ev_p0, ev_pF, ev_pT, ev_sf, ev_hn, ev_ht, ev_hc, ev_h0, ev_cal, ev_f1, ev_f2, ev_f3, ev_f4, ev_cmp, ev_add, ev_sub, ev_mod, ev_fdv, ev_isn, ev_n1, ev_n2, ev_n3, ev_n4, ev_ixL, ev_ixT, ev_a0, ev_a1, ev_a2, ev_lL, ev_lT, ev_tL, ev_tT, ev_liT, ev_abs, ev_mx, ev_mn, ev_mx3, ev_t1, ev_t2, ev_t3, ev_eqI, ev_neI, List.getElem?_cons_zero, List.getElem?_cons_succ, List.set_cons_zero, List.set_cons_succ, List.length_cons, List.length_nil, List.map_cons, List.map_nil, List.replicate_succ, List.replicate_zero, List.cons_append, List.nil_append, List.append_nil, Option.bind_some, Option.map_some, Nat.reduceAdd, Nat.reduceSub, Nat.reduceLT, Nat.reduceLeDiff, Nat.reduceEqDiff, if_true, if_false, reduceIte, Bool.false_eq_true, wipeR, restR, h]
include ha hb hd in
theorem q_slowest : g_slowest [net a b d] = .ok (encO ([((a : Int), 1), ((b : Int), 1)].foldl grt none)) := by
  have h := q_need a b d ha hb hd
  have h2 := q_slow a b d
  simp -implicitDefEqProofs only [g_slowest, b_slowest, ev_foc, ev_fo0, ev_app, ev_enm, ev_rs, ev_lc', ev_g0, ev_gc, ev_y, big, ev_bnd, ev_ret, ev_lfS, ev_lfN, ev_stk, ev_vr, ev_vrT, ev_mT, ev_cF, ev_cO, ev_cB, ev_dd, ev_ds, ev_d0, ev_dc, ev_opr, ev_unr, ev_nl, ev_cns, ev_cbr, ev_ab, ev_ai, ev_tst', ev_an, ev_orr, ev_nt, ev_anV, ev_orV', ev_ntV, ev_ifm, ev_ch, ev_tp, ev_ls, ev_cl, ev_cl0, ev_isr, ev_sqI, ev_sqL, ev_sqT, ev_sb, ev_ss, ev_sn, ev_sa, ev_so, ev_sr, ev_sdr, ev_si, ev_sp, ev_p0, ev_pF, ev_pT, ev_sf, ev_hn, ev_ht, ev_hc, ev_h0, ev_cal, ev_f1, ev_f2, ev_f3, ev_f4, ev_cmp, ev_add, ev_sub, ev_mod, ev_fdv, ev_isn, ev_n1, ev_n2, ev_n3, ev_n4, ev_ixL, ev_ixT, ev_a0, ev_a1, ev_a2, ev_lL, ev_lT, ev_tL, ev_tT, ev_liT, ev_abs, ev_mx, ev_mn, ev_mx3, ev_t1, ev_t2, ev_t3, ev_eqI, ev_neI, List.getElem?_cons_zero, List.getElem?_cons_succ, List.set_cons_zero, List.set_cons_succ, List.length_cons, List.length_nil, List.map_cons, List.map_nil, List.replicate_succ, List.replicate_zero, List.cons_append, List.nil_append, List.append_nil, Option.bind_some, Option.map_some, Nat.reduceAdd, Nat.reduceSub, Nat.reduceLT, Nat.reduceLeDiff, Nat.reduceEqDiff, if_true, if_false, reduceIte, Bool.false_eq_true, wipeR, restR, h]
  simp -implicitDefEqProofs only [net, ev_foc, ev_fo0, ev_app, ev_enm, ev_rs, ev_lc', ev_g0, ev_gc, ev_y, big, ev_bnd, ev_ret, ev_lfS, ev_lfN, ev_stk, ev_vr, ev_vrT, ev_mT, ev_cF, ev_cO, ev_cB, ev_dd, ev_ds, ev_d0, ev_dc, ev_opr, ev_unr, ev_nl, ev_cns, ev_cbr, ev_ab, ev_ai, ev_tst', ev_an, ev_orr, ev_nt, ev_anV, ev_orV', ev_ntV, ev_ifm, ev_ch, ev_tp, ev_ls, ev_cl, ev_cl0, ev_isr, ev_sqI, ev_sqL, ev_sqT, ev_sb, ev_ss, ev_sn, ev_sa, ev_so, ev_sr, ev_sdr, ev_si, ev_sp, ev_p0, ev_pF, ev_pT, ev_sf, ev_hn, ev_ht, ev_hc, ev_h0, ev_cal, ev_f1, ev_f2, ev_f3, ev_f4, ev_cmp, ev_add, ev_sub, ev_mod, ev_fdv, ev_isn, ev_n1, ev_n2, ev_n3, ev_n4, ev_ixL, ev_ixT, ev_a0, ev_a1, ev_a2, ev_lL, ev_lT, ev_tL, ev_tT, ev_liT, ev_abs, ev_mx, ev_mn, ev_mx3, ev_t1, ev_t2, ev_t3, ev_eqI, ev_neI, List.getElem?_cons_zero, List.getElem?_cons_succ, List.set_cons_zero, List.set_cons_succ, List.length_cons, List.length_nil, List.map_cons, List.map_nil, List.replicate_succ, List.replicate_zero, List.cons_append, List.nil_append, List.append_nil, Option.bind_some, Option.map_some, Nat.reduceAdd, Nat.reduceSub, Nat.reduceLT, Nat.reduceLeDiff, Nat.reduceEqDiff, if_true, if_false, reduceIte, Bool.false_eq_true, wipeR, restR, h2]
theorem q_are1 : g_are_stores [net a b d, st1] = .ok (.bool true) := by kernel_rfl
theorem q_are2 : g_are_stores [net a b d, st2] = .ok (.bool true) := by kernel_rfl
theorem q_are0 : g_are_stores [net a b d, st0] = .ok (.bool true) := by kernel_rfl
include ha hb hd in
theorem q_ns (st : D) (h2 : g_are_stores [net a b d, st] = .ok (.bool true)) : g_need_stores [net a b d, st] = .ok .none := by
  have h := q_need a b d ha hb hd
  simp -implicitDefEqProofs [g_need_stores, b_need_stores, ev_foc, ev_fo0, ev_app, ev_enm, ev_rs, ev_lc', ev_g0, ev_gc, ev_y, big, ev_bnd, ev_ret, ev_lfS, ev_lfN, ev_stk, ev_vr, ev_vrT, ev_mT, ev_cF, ev_cO, ev_cB, ev_dd, ev_ds, ev_d0, ev_dc, ev_opr, ev_unr, ev_nl, ev_cns, ev_cbr, ev_ab, ev_ai, ev_tst', ev_an, ev_orr, ev_nt, ev_anV, ev_orV', ev_ntV, ev_ifm, ev_ch, ev_tp, ev_ls, ev_cl, ev_cl0, ev_isr, ev_sqI, ev_sqL, ev_sqT, ev_sb, ev_ss, ev_sn, ev_sa, ev_so, ev_sr, ev_sdr, ev_si, ev_sp, ev_p0, ev_pF, ev_pT, ev_sf, ev_hn, ev_ht, ev_hc, ev_h0, ev_cal, ev_f1, ev_f2, ev_f3, ev_f4, ev_cmp, ev_add, ev_sub, ev_mod, ev_fdv, ev_isn, ev_n1, ev_n2, ev_n3, ev_n4, ev_ixL, ev_ixT, ev_a0, ev_a1, ev_a2, ev_lL, ev_lT, ev_tL, ev_tT, ev_liT, ev_abs, ev_mx, ev_mn, ev_mx3, ev_t1, ev_t2, ev_t3, ev_eqI, ev_neI, List.getElem?_cons_zero, List.getElem?_cons_succ, List.set_cons_zero, List.set_cons_succ, List.length_cons, List.length_nil, List.map_cons, List.map_nil, List.replicate_succ, List.replicate_zero, List.cons_append, List.nil_append, List.append_nil, Option.bind_some, Option.map_some, Nat.reduceAdd, Nat.reduceSub, Nat.reduceLT, Nat.reduceLeDiff, Nat.reduceEqDiff, if_true, if_false, reduceIte, Bool.false_eq_true, wipeR, restR, h, h2]
theorem q_nr (r : Nat) (h1 : 1 ≤ r) (h2 : r ≤ 6) : g_need_rooms [st1, T [I r]] = .ok .none := by
  have e1 : (1 : Int) ≤ (r : Int) := by omega
  have e2 : (r : Int) ≤ 6 := by omega
  simp -implicitDefEqProofs [g_need_rooms, b_need_rooms, ev_foc, ev_fo0, ev_app, ev_enm, ev_rs, ev_lc', ev_g0, ev_gc, ev_y, big, ev_bnd, ev_ret, ev_lfS, ev_lfN, ev_stk, ev_vr, ev_vrT, ev_mT, ev_cF, ev_cO, ev_cB, ev_dd, ev_ds, ev_d0, ev_dc, ev_opr, ev_unr, ev_nl, ev_cns, ev_cbr, ev_ab, ev_ai, ev_tst', ev_an, ev_orr, ev_nt, ev_anV, ev_orV', ev_ntV, ev_ifm, ev_ch, ev_tp, ev_ls, ev_cl, ev_cl0, ev_isr, ev_sqI, ev_sqL, ev_sqT, ev_sb, ev_ss, ev_sn, ev_sa, ev_so, ev_sr, ev_sdr, ev_si, ev_sp, ev_p0, ev_pF, ev_pT, ev_sf, ev_hn, ev_ht, ev_hc, ev_h0, ev_cal, ev_f1, ev_f2, ev_f3, ev_f4, ev_cmp, ev_add, ev_sub, ev_mod, ev_fdv, ev_isn, ev_n1, ev_n2, ev_n3, ev_n4, ev_ixL, ev_ixT, ev_a0, ev_a1, ev_a2, ev_lL, ev_lT, ev_tL, ev_tT, ev_liT, ev_abs, ev_mx, ev_mn, ev_mx3, ev_t1, ev_t2, ev_t3, ev_eqI, ev_neI, List.getElem?_cons_zero, List.getElem?_cons_succ, List.set_cons_zero, List.set_cons_succ, List.length_cons, List.length_nil, List.map_cons, List.map_nil, List.replicate_succ, List.replicate_zero, List.cons_append, List.nil_append, List.append_nil, Option.bind_some, Option.map_some, Nat.reduceAdd, Nat.reduceSub, Nat.reduceLT, Nat.reduceLeDiff, Nat.reduceEqDiff, if_true, if_false, reduceIte, Bool.false_eq_true, wipeR, restR, pIs, w_is_whole, allF, allOf, e1, e2]
theorem q_nr0 : g_need_rooms [st0, T [I 2]] = .ok .none := by kernel_rfl
include ha hb hd in
theorem q_sw (r : Nat) (h1 : 1 ≤ r) (h2 : r ≤ 6) : g_slowest_with [net a b d, st1, T [I r]] = .ok (encO ([((a : Int), 1), low d r, ((b : Int), 1)].foldl grt none)) := by
  have h := q_ns a b d ha hb hd st1 (q_are1 a b d)
  have h3 := q_nr r h1 h2
  have h4 := q_with1 a b d r
  have h5 := q_slow1 a b d r (by omega) (by omega)
  simp -implicitDefEqProofs only [g_slowest_with, b_slowest_with, ev_foc, ev_fo0, ev_app, ev_enm, ev_rs, ev_lc', ev_g0, ev_gc, ev_y, big, ev_bnd, ev_ret, ev_lfS, ev_lfN, ev_stk, ev_vr, ev_vrT, ev_mT, ev_cF, ev_cO, ev_cB, ev_dd, ev_ds, ev_d0, ev_dc, ev_opr, ev_unr, ev_nl, ev_cns, ev_cbr, ev_ab, ev_ai, ev_tst', ev_an, ev_orr, ev_nt, ev_anV, ev_orV', ev_ntV, ev_ifm, ev_ch, ev_tp, ev_ls, ev_cl, ev_cl0, ev_isr, ev_sqI, ev_sqL, ev_sqT, ev_sb, ev_ss, ev_sn, ev_sa, ev_so, ev_sr, ev_sdr, ev_si, ev_sp, ev_p0, ev_pF, ev_pT, ev_sf, ev_hn, ev_ht, ev_hc, ev_h0, ev_cal, ev_f1, ev_f2, ev_f3, ev_f4, ev_cmp, ev_add, ev_sub, ev_mod, ev_fdv, ev_isn, ev_n1, ev_n2, ev_n3, ev_n4, ev_ixL, ev_ixT, ev_a0, ev_a1, ev_a2, ev_lL, ev_lT, ev_tL, ev_tT, ev_liT, ev_abs, ev_mx, ev_mn, ev_mx3, ev_t1, ev_t2, ev_t3, ev_eqI, ev_neI, List.getElem?_cons_zero, List.getElem?_cons_succ, List.set_cons_zero, List.set_cons_succ, List.length_cons, List.length_nil, List.map_cons, List.map_nil, List.replicate_succ, List.replicate_zero, List.cons_append, List.nil_append, List.append_nil, Option.bind_some, Option.map_some, Nat.reduceAdd, Nat.reduceSub, Nat.reduceLT, Nat.reduceLeDiff, Nat.reduceEqDiff, if_true, if_false, reduceIte, Bool.false_eq_true, wipeR, restR, h, h3]
  simp -implicitDefEqProofs only [net, ev_foc, ev_fo0, ev_app, ev_enm, ev_rs, ev_lc', ev_g0, ev_gc, ev_y, big, ev_bnd, ev_ret, ev_lfS, ev_lfN, ev_stk, ev_vr, ev_vrT, ev_mT, ev_cF, ev_cO, ev_cB, ev_dd, ev_ds, ev_d0, ev_dc, ev_opr, ev_unr, ev_nl, ev_cns, ev_cbr, ev_ab, ev_ai, ev_tst', ev_an, ev_orr, ev_nt, ev_anV, ev_orV', ev_ntV, ev_ifm, ev_ch, ev_tp, ev_ls, ev_cl, ev_cl0, ev_isr, ev_sqI, ev_sqL, ev_sqT, ev_sb, ev_ss, ev_sn, ev_sa, ev_so, ev_sr, ev_sdr, ev_si, ev_sp, ev_p0, ev_pF, ev_pT, ev_sf, ev_hn, ev_ht, ev_hc, ev_h0, ev_cal, ev_f1, ev_f2, ev_f3, ev_f4, ev_cmp, ev_add, ev_sub, ev_mod, ev_fdv, ev_isn, ev_n1, ev_n2, ev_n3, ev_n4, ev_ixL, ev_ixT, ev_a0, ev_a1, ev_a2, ev_lL, ev_lT, ev_tL, ev_tT, ev_liT, ev_abs, ev_mx, ev_mn, ev_mx3, ev_t1, ev_t2, ev_t3, ev_eqI, ev_neI, List.getElem?_cons_zero, List.getElem?_cons_succ, List.set_cons_zero, List.set_cons_succ, List.length_cons, List.length_nil, List.map_cons, List.map_nil, List.replicate_succ, List.replicate_zero, List.cons_append, List.nil_append, List.append_nil, Option.bind_some, Option.map_some, Nat.reduceAdd, Nat.reduceSub, Nat.reduceLT, Nat.reduceLeDiff, Nat.reduceEqDiff, if_true, if_false, reduceIte, Bool.false_eq_true, wipeR, restR, h4, h5]
include ha hb hd in
theorem q_sw0 : g_slowest_with [net a b d, st0, T [I 2]] = .ok (encO ([((a : Int), 1), low 0 2, ((b : Int), 1)].foldl grt none)) := by
  have h := q_ns a b d ha hb hd st0 (q_are0 a b d)
  have h3 := q_nr0
  have h4 := q_with0 a b d
  have h5 := q_slow0 a b d
  simp -implicitDefEqProofs only [g_slowest_with, b_slowest_with, ev_foc, ev_fo0, ev_app, ev_enm, ev_rs, ev_lc', ev_g0, ev_gc, ev_y, big, ev_bnd, ev_ret, ev_lfS, ev_lfN, ev_stk, ev_vr, ev_vrT, ev_mT, ev_cF, ev_cO, ev_cB, ev_dd, ev_ds, ev_d0, ev_dc, ev_opr, ev_unr, ev_nl, ev_cns, ev_cbr, ev_ab, ev_ai, ev_tst', ev_an, ev_orr, ev_nt, ev_anV, ev_orV', ev_ntV, ev_ifm, ev_ch, ev_tp, ev_ls, ev_cl, ev_cl0, ev_isr, ev_sqI, ev_sqL, ev_sqT, ev_sb, ev_ss, ev_sn, ev_sa, ev_so, ev_sr, ev_sdr, ev_si, ev_sp, ev_p0, ev_pF, ev_pT, ev_sf, ev_hn, ev_ht, ev_hc, ev_h0, ev_cal, ev_f1, ev_f2, ev_f3, ev_f4, ev_cmp, ev_add, ev_sub, ev_mod, ev_fdv, ev_isn, ev_n1, ev_n2, ev_n3, ev_n4, ev_ixL, ev_ixT, ev_a0, ev_a1, ev_a2, ev_lL, ev_lT, ev_tL, ev_tT, ev_liT, ev_abs, ev_mx, ev_mn, ev_mx3, ev_t1, ev_t2, ev_t3, ev_eqI, ev_neI, List.getElem?_cons_zero, List.getElem?_cons_succ, List.set_cons_zero, List.set_cons_succ, List.length_cons, List.length_nil, List.map_cons, List.map_nil, List.replicate_succ, List.replicate_zero, List.cons_append, List.nil_append, List.append_nil, Option.bind_some, Option.map_some, Nat.reduceAdd, Nat.reduceSub, Nat.reduceLT, Nat.reduceLeDiff, Nat.reduceEqDiff, if_true, if_false, reduceIte, Bool.false_eq_true, wipeR, restR, h, h3]
  simp -implicitDefEqProofs only [net, ev_foc, ev_fo0, ev_app, ev_enm, ev_rs, ev_lc', ev_g0, ev_gc, ev_y, big, ev_bnd, ev_ret, ev_lfS, ev_lfN, ev_stk, ev_vr, ev_vrT, ev_mT, ev_cF, ev_cO, ev_cB, ev_dd, ev_ds, ev_d0, ev_dc, ev_opr, ev_unr, ev_nl, ev_cns, ev_cbr, ev_ab, ev_ai, ev_tst', ev_an, ev_orr, ev_nt, ev_anV, ev_orV', ev_ntV, ev_ifm, ev_ch, ev_tp, ev_ls, ev_cl, ev_cl0, ev_isr, ev_sqI, ev_sqL, ev_sqT, ev_sb, ev_ss, ev_sn, ev_sa, ev_so, ev_sr, ev_sdr, ev_si, ev_sp, ev_p0, ev_pF, ev_pT, ev_sf, ev_hn, ev_ht, ev_hc, ev_h0, ev_cal, ev_f1, ev_f2, ev_f3, ev_f4, ev_cmp, ev_add, ev_sub, ev_mod, ev_fdv, ev_isn, ev_n1, ev_n2, ev_n3, ev_n4, ev_ixL, ev_ixT, ev_a0, ev_a1, ev_a2, ev_lL, ev_lT, ev_tL, ev_tT, ev_liT, ev_abs, ev_mx, ev_mn, ev_mx3, ev_t1, ev_t2, ev_t3, ev_eqI, ev_neI, List.getElem?_cons_zero, List.getElem?_cons_succ, List.set_cons_zero, List.set_cons_succ, List.length_cons, List.length_nil, List.map_cons, List.map_nil, List.replicate_succ, List.replicate_zero, List.cons_append, List.nil_append, List.append_nil, Option.bind_some, Option.map_some, Nat.reduceAdd, Nat.reduceSub, Nat.reduceLT, Nat.reduceLeDiff, Nat.reduceEqDiff, if_true, if_false, reduceIte, Bool.false_eq_true, wipeR, restR, h4, h5]
/-! ### pace -/
theorem q_reach1 : g_reach_back [rows a b d, I 1] = .fr (.dict [(I 1, .bool true), (I 0, .bool true)]) := by kernel_rfl
theorem q_reach0 : g_reach_back [rows a b d, I 0] = .fr (.dict [(I 0, .bool true)]) := by kernel_rfl
theorem q_hs0 : g_has_start [rows a b d, I 0] = .ok (.bool true) := by kernel_rfl
theorem q_hs1 : g_has_start [rows a b d, I 1] = .ok (.bool true) := by kernel_rfl
include ha hb hd in
theorem q_nev (e : Nat) (h : e ≤ 1) : g_need_event [net a b d, I e] = .ok .none := by
  have h1 := q_need a b d ha hb hd
  have e1 : (0 : Int) ≤ (e : Int) := by omega
  have e2 : (e : Int) ≤ 1 := by omega
  simp -implicitDefEqProofs [g_need_event, b_need_event, ev_foc, ev_fo0, ev_app, ev_enm, ev_rs, ev_lc', ev_g0, ev_gc, ev_y, big, ev_bnd, ev_ret, ev_lfS, ev_lfN, ev_stk, ev_vr, ev_vrT, ev_mT, ev_cF, ev_cO, ev_cB, ev_dd, ev_ds, ev_d0, ev_dc, ev_opr, ev_unr, ev_nl, ev_cns, ev_cbr, ev_ab, ev_ai, ev_tst', ev_an, ev_orr, ev_nt, ev_anV, ev_orV', ev_ntV, ev_ifm, ev_ch, ev_tp, ev_ls, ev_cl, ev_cl0, ev_isr, ev_sqI, ev_sqL, ev_sqT, ev_sb, ev_ss, ev_sn, ev_sa, ev_so, ev_sr, ev_sdr, ev_si, ev_sp, ev_p0, ev_pF, ev_pT, ev_sf, ev_hn, ev_ht, ev_hc, ev_h0, ev_cal, ev_f1, ev_f2, ev_f3, ev_f4, ev_cmp, ev_add, ev_sub, ev_mod, ev_fdv, ev_isn, ev_n1, ev_n2, ev_n3, ev_n4, ev_ixL, ev_ixT, ev_a0, ev_a1, ev_a2, ev_lL, ev_lT, ev_tL, ev_tT, ev_liT, ev_abs, ev_mx, ev_mn, ev_mx3, ev_t1, ev_t2, ev_t3, ev_eqI, ev_neI, List.getElem?_cons_zero, List.getElem?_cons_succ, List.set_cons_zero, List.set_cons_succ, List.length_cons, List.length_nil, List.map_cons, List.map_nil, List.replicate_succ, List.replicate_zero, List.cons_append, List.nil_append, List.append_nil, Option.bind_some, Option.map_some, Nat.reduceAdd, Nat.reduceSub, Nat.reduceLT, Nat.reduceLeDiff, Nat.reduceEqDiff, if_true, if_false, reduceIte, Bool.false_eq_true, wipeR, restR, h1]
  simp -implicitDefEqProofs [net, rows, rowsX, ev_foc, ev_fo0, ev_app, ev_enm, ev_rs, ev_lc', ev_g0, ev_gc, ev_y, big, ev_bnd, ev_ret, ev_lfS, ev_lfN, ev_stk, ev_vr, ev_vrT, ev_mT, ev_cF, ev_cO, ev_cB, ev_dd, ev_ds, ev_d0, ev_dc, ev_opr, ev_unr, ev_nl, ev_cns, ev_cbr, ev_ab, ev_ai, ev_tst', ev_an, ev_orr, ev_nt, ev_anV, ev_orV', ev_ntV, ev_ifm, ev_ch, ev_tp, ev_ls, ev_cl, ev_cl0, ev_isr, ev_sqI, ev_sqL, ev_sqT, ev_sb, ev_ss, ev_sn, ev_sa, ev_so, ev_sr, ev_sdr, ev_si, ev_sp, ev_p0, ev_pF, ev_pT, ev_sf, ev_hn, ev_ht, ev_hc, ev_h0, ev_cal, ev_f1, ev_f2, ev_f3, ev_f4, ev_cmp, ev_add, ev_sub, ev_mod, ev_fdv, ev_isn, ev_n1, ev_n2, ev_n3, ev_n4, ev_ixL, ev_ixT, ev_a0, ev_a1, ev_a2, ev_lL, ev_lT, ev_tL, ev_tT, ev_liT, ev_abs, ev_mx, ev_mn, ev_mx3, ev_t1, ev_t2, ev_t3, ev_eqI, ev_neI, List.getElem?_cons_zero, List.getElem?_cons_succ, List.set_cons_zero, List.set_cons_succ, List.length_cons, List.length_nil, List.map_cons, List.map_nil, List.replicate_succ, List.replicate_zero, List.cons_append, List.nil_append, List.append_nil, Option.bind_some, Option.map_some, Nat.reduceAdd, Nat.reduceSub, Nat.reduceLT, Nat.reduceLeDiff, Nat.reduceEqDiff, if_true, if_false, reduceIte, Bool.false_eq_true, wipeR, restR, w_is_whole, e1, e2]
theorem in_a : inAF false (I 0) (.dict [(I 1, .bool true), (I 0, .bool true)]) = some (.bool true) := rfl
theorem in_b : inAF false (I 1) (.dict [(I 1, .bool true), (I 0, .bool true)]) = some (.bool true) := rfl
theorem in_c : inAF false (I 0) (.dict [(I 0, .bool true)]) = some (.bool true) := rfl
theorem in_d : inAF false (I 1) (.dict [(I 0, .bool true)]) = some (.bool false) := rfl
end
end Rn
end

section
set_option Elab.async false
set_option linter.all false
set_option maxRecDepth 100000
set_option maxHeartbeats 4000000
namespace Rn
open PySem PySem.Spec L2
abbrev bPace : S := (sIf (mAnd (mTst (mOp (inAF false) (mT (mOp ixF (mT (mOp ixF (mVarT 5) (mT (ret (.int 0))))) (mT (ret (.int 0))))) (mVarT 4))) (mTst (mCall0 g_has_start (mCons (mVar 2) (mCons (mOp ixF (mT (mOp ixF (mVarT 5) (mT (ret (.int 0))))) (mT (ret (.int 0)))) (mNil)))))) (sAppend 3 (mCall0 g_ratio (mCons (mVar 2) (mCons (mVar 5) (mNil))))) (sNext))
theorem pace_step {N E rw back : D} {fs : List D} {e pl : Int} {rest : List D} {f : D} (hi : inAF false (I e) back = some (.bool true)) (hh : g_has_start [rw, I e] = .ok (.bool true)) (hr : g_ratio [rw, T (T [I e, I pl] :: rest)] = .ok f) (hl : fs.length < 1000) :
    bPace [.fz N, .fz E, .fz rw, .ow (.list fs), .fz back, .fz (T (T [I e, I pl] :: rest))] = .nx [.fz N, .fz E, .fz rw, .ow (.list (fs ++ [f])), .fz back, .fz (T (T [I e, I pl] :: rest))] := by
  have hl' : fs.length < 1000000 := by omega
  simp -implicitDefEqProofs only [ev_foc, ev_fo0, ev_app, ev_enm, ev_rs, ev_lc', ev_g0, ev_gc, ev_y, big, ev_bnd, ev_ret, ev_lfS, ev_lfN, ev_stk, ev_vr, ev_vrT, ev_mT, ev_cF, ev_cO, ev_cB, ev_dd, ev_ds, ev_d0, ev_dc, ev_opr, ev_unr, ev_nl, ev_cns, ev_cbr, ev_ab, ev_ai, ev_tst', ev_an, ev_orr, ev_nt, ev_anV, ev_orV', ev_ntV, ev_ifm, ev_ch, ev_tp, ev_ls, ev_cl, ev_cl0, ev_isr, ev_sqI, ev_sqL, ev_sqT, ev_sb, ev_ss, ev_sn, ev_sa, ev_so, ev_sr, ev_sdr, ev_si, ev_sp, ev_p0, ev_pF, ev_pT, ev_sf, ev_hn, ev_ht, ev_hc, ev_h0, ev_cal, ev_f1, ev_f2, ev_f3, ev_f4, ev_cmp, ev_add, ev_sub, ev_mod, ev_fdv, ev_isn, ev_n1, ev_n2, ev_n3, ev_n4, ev_ixL, ev_ixT, ev_a0, ev_a1, ev_a2, ev_lL, ev_lT, ev_tL, ev_tT, ev_liT, ev_abs, ev_mx, ev_mn, ev_mx3, ev_t1, ev_t2, ev_t3, ev_eqI, ev_neI, List.getElem?_cons_zero, List.getElem?_cons_succ, List.set_cons_zero, List.set_cons_succ, List.length_cons, List.length_nil, List.map_cons, List.map_nil, List.replicate_succ, List.replicate_zero, List.cons_append, List.nil_append, List.append_nil, Option.bind_some, Option.map_some, Nat.reduceAdd, Nat.reduceSub, Nat.reduceLT, Nat.reduceLeDiff, Nat.reduceEqDiff, if_true, if_false, reduceIte, Bool.false_eq_true, wipeR, restR, hi, hh, hr, appendD, putCell, hl']
theorem pace_skip {N E rw back : D} {fs : List D} {e pl : Int} {rest : List D} (hi : inAF false (I e) back = some (.bool false)) :
    bPace [.fz N, .fz E, .fz rw, .ow (.list fs), .fz back, .fz (T (T [I e, I pl] :: rest))] = .nx [.fz N, .fz E, .fz rw, .ow (.list fs), .fz back, .fz (T (T [I e, I pl] :: rest))] := by
  simp -implicitDefEqProofs only [ev_foc, ev_fo0, ev_app, ev_enm, ev_rs, ev_lc', ev_g0, ev_gc, ev_y, big, ev_bnd, ev_ret, ev_lfS, ev_lfN, ev_stk, ev_vr, ev_vrT, ev_mT, ev_cF, ev_cO, ev_cB, ev_dd, ev_ds, ev_d0, ev_dc, ev_opr, ev_unr, ev_nl, ev_cns, ev_cbr, ev_ab, ev_ai, ev_tst', ev_an, ev_orr, ev_nt, ev_anV, ev_orV', ev_ntV, ev_ifm, ev_ch, ev_tp, ev_ls, ev_cl, ev_cl0, ev_isr, ev_sqI, ev_sqL, ev_sqT, ev_sb, ev_ss, ev_sn, ev_sa, ev_so, ev_sr, ev_sdr, ev_si, ev_sp, ev_p0, ev_pF, ev_pT, ev_sf, ev_hn, ev_ht, ev_hc, ev_h0, ev_cal, ev_f1, ev_f2, ev_f3, ev_f4, ev_cmp, ev_add, ev_sub, ev_mod, ev_fdv, ev_isn, ev_n1, ev_n2, ev_n3, ev_n4, ev_ixL, ev_ixT, ev_a0, ev_a1, ev_a2, ev_lL, ev_lT, ev_tL, ev_tT, ev_liT, ev_abs, ev_mx, ev_mn, ev_mx3, ev_t1, ev_t2, ev_t3, ev_eqI, ev_neI, List.getElem?_cons_zero, List.getElem?_cons_succ, List.set_cons_zero, List.set_cons_succ, List.length_cons, List.length_nil, List.map_cons, List.map_nil, List.replicate_succ, List.replicate_zero, List.cons_append, List.nil_append, List.append_nil, Option.bind_some, Option.map_some, Nat.reduceAdd, Nat.reduceSub, Nat.reduceLT, Nat.reduceLeDiff, Nat.reduceEqDiff, if_true, if_false, reduceIte, Bool.false_eq_true, wipeR, restR, hi]
theorem pace_of {N E rw back : D} {rings : List D} {gs : List D} {out : D} {x : Cell} (h1 : g_need_event [N, E] = .ok .none) (hN : ixF N (.int 1) = some rw) (h3 : g_reach_back [rw, E] = .fr back) (h2 : g_rings_of [rw] = .ok (.list rings))
    (hl : forGo (hName 5) bPace rings [.fz N, .fz E, .fz rw, .ow (.list []), .fz back, .no] = .nx [.fz N, .fz E, .fz rw, .ow (.list gs), .fz back, x]) (hg : g_greatest [.list gs] = .ok out) : g_pace [N, E] = .ok out := by
  simp -implicitDefEqProofs only [g_pace, b_pace, ev_foc, ev_fo0, ev_app, ev_enm, ev_rs, ev_lc', ev_g0, ev_gc, ev_y, big, ev_bnd, ev_ret, ev_lfS, ev_lfN, ev_stk, ev_vr, ev_vrT, ev_mT, ev_cF, ev_cO, ev_cB, ev_dd, ev_ds, ev_d0, ev_dc, ev_opr, ev_unr, ev_nl, ev_cns, ev_cbr, ev_ab, ev_ai, ev_tst', ev_an, ev_orr, ev_nt, ev_anV, ev_orV', ev_ntV, ev_ifm, ev_ch, ev_tp, ev_ls, ev_cl, ev_cl0, ev_isr, ev_sqI, ev_sqL, ev_sqT, ev_sb, ev_ss, ev_sn, ev_sa, ev_so, ev_sr, ev_sdr, ev_si, ev_sp, ev_p0, ev_pF, ev_pT, ev_sf, ev_hn, ev_ht, ev_hc, ev_h0, ev_cal, ev_f1, ev_f2, ev_f3, ev_f4, ev_cmp, ev_add, ev_sub, ev_mod, ev_fdv, ev_isn, ev_n1, ev_n2, ev_n3, ev_n4, ev_ixL, ev_ixT, ev_a0, ev_a1, ev_a2, ev_lL, ev_lT, ev_tL, ev_tT, ev_liT, ev_abs, ev_mx, ev_mn, ev_mx3, ev_t1, ev_t2, ev_t3, ev_eqI, ev_neI, List.getElem?_cons_zero, List.getElem?_cons_succ, List.set_cons_zero, List.set_cons_succ, List.length_cons, List.length_nil, List.map_cons, List.map_nil, List.replicate_succ, List.replicate_zero, List.cons_append, List.nil_append, List.append_nil, Option.bind_some, Option.map_some, Nat.reduceAdd, Nat.reduceSub, Nat.reduceLT, Nat.reduceLeDiff, Nat.reduceEqDiff, if_true, if_false, reduceIte, Bool.false_eq_true, wipeR, restR, h1, hN, h3, h2]
  rw [hl]
  simp -implicitDefEqProofs only [ev_foc, ev_fo0, ev_app, ev_enm, ev_rs, ev_lc', ev_g0, ev_gc, ev_y, big, ev_bnd, ev_ret, ev_lfS, ev_lfN, ev_stk, ev_vr, ev_vrT, ev_mT, ev_cF, ev_cO, ev_cB, ev_dd, ev_ds, ev_d0, ev_dc, ev_opr, ev_unr, ev_nl, ev_cns, ev_cbr, ev_ab, ev_ai, ev_tst', ev_an, ev_orr, ev_nt, ev_anV, ev_orV', ev_ntV, ev_ifm, ev_ch, ev_tp, ev_ls, ev_cl, ev_cl0, ev_isr, ev_sqI, ev_sqL, ev_sqT, ev_sb, ev_ss, ev_sn, ev_sa, ev_so, ev_sr, ev_sdr, ev_si, ev_sp, ev_p0, ev_pF, ev_pT, ev_sf, ev_hn, ev_ht, ev_hc, ev_h0, ev_cal, ev_f1, ev_f2, ev_f3, ev_f4, ev_cmp, ev_add, ev_sub, ev_mod, ev_fdv, ev_isn, ev_n1, ev_n2, ev_n3, ev_n4, ev_ixL, ev_ixT, ev_a0, ev_a1, ev_a2, ev_lL, ev_lT, ev_tL, ev_tT, ev_liT, ev_abs, ev_mx, ev_mn, ev_mx3, ev_t1, ev_t2, ev_t3, ev_eqI, ev_neI, List.getElem?_cons_zero, List.getElem?_cons_succ, List.set_cons_zero, List.set_cons_succ, List.length_cons, List.length_nil, List.map_cons, List.map_nil, List.replicate_succ, List.replicate_zero, List.cons_append, List.nil_append, List.append_nil, Option.bind_some, Option.map_some, Nat.reduceAdd, Nat.reduceSub, Nat.reduceLT, Nat.reduceLeDiff, Nat.reduceEqDiff, if_true, if_false, reduceIte, Bool.false_eq_true, wipeR, restR, hg]
end Rn
end

section
set_option Elab.async false
set_option linter.all false
set_option maxRecDepth 100000
set_option maxHeartbeats 4000000
namespace Rn
open PySem PySem.Spec L2
/-! ### the greatest fraction is the greatest -/
theorem grt_some (fs : List Fr) : ∀ (g : Fr), ∃ m, fs.foldl grt (some g) = some m := by
  induction fs with
  | nil => exact fun g => ⟨g, rfl⟩
  | cons f fs ih =>
    intro g
    rw [List.foldl_cons]
    show ∃ m, fs.foldl grt (if g.1 * f.2 < f.1 * g.2 then some f else some g) = some m
    split
    · exact ih f
    · exact ih g
theorem fr_trans {x y z : Fr} (hy : 0 < y.2) (hx : 0 < x.2) (hz : 0 < z.2) (h1 : x.1 * y.2 ≤ y.1 * x.2) (h2 : y.1 * z.2 ≤ z.1 * y.2) : x.1 * z.2 ≤ z.1 * x.2 := by
  have a : (x.1 * y.2) * z.2 ≤ (y.1 * x.2) * z.2 := Int.mul_le_mul_of_nonneg_right h1 (Int.le_of_lt hz)
  have b : (y.1 * z.2) * x.2 ≤ (z.1 * y.2) * x.2 := Int.mul_le_mul_of_nonneg_right h2 (Int.le_of_lt hx)
  have e : (x.1 * z.2) * y.2 ≤ (z.1 * x.2) * y.2 := by
    calc (x.1 * z.2) * y.2 = (x.1 * y.2) * z.2 := by rw [Int.mul_assoc, Int.mul_comm z.2, ← Int.mul_assoc]
      _ ≤ (y.1 * x.2) * z.2 := a
      _ = (y.1 * z.2) * x.2 := by rw [Int.mul_assoc, Int.mul_comm x.2, ← Int.mul_assoc]
      _ ≤ (z.1 * y.2) * x.2 := b
      _ = (z.1 * x.2) * y.2 := by rw [Int.mul_assoc, Int.mul_comm y.2, ← Int.mul_assoc]
  exact Int.le_of_mul_le_mul_right e hy
theorem grt_spec : ∀ (fs : List Fr) (g m : Fr), 0 < g.2 → (∀ f ∈ fs, 0 < f.2) → fs.foldl grt (some g) = some m → (m = g ∨ m ∈ fs) ∧ g.1 * m.2 ≤ m.1 * g.2 ∧ ∀ f ∈ fs, f.1 * m.2 ≤ m.1 * f.2
  | [], g, m, _, _, e => by cases e; exact ⟨.inl rfl, Int.le_refl _, by simp⟩
  | f :: fs, g, m, hg, hf, e => by
    have hf0 := hf f (List.mem_cons_self ..)
    have hf1 : ∀ x ∈ fs, 0 < x.2 := fun x hx => hf x (List.mem_cons_of_mem _ hx)
    rw [List.foldl_cons] at e
    change fs.foldl grt (if g.1 * f.2 < f.1 * g.2 then some f else some g) = some m at e
    split at e
    · next hlt =>
      obtain ⟨h1, h2, h3⟩ := grt_spec fs f m hf0 hf1 e
      have hm : 0 < m.2 := by
        rcases h1 with h1 | h1
        · rw [h1]; exact hf0
        · exact hf1 m h1
      refine ⟨.inr ?_, fr_trans hf0 hg hm (Int.le_of_lt hlt) h2, fun x hx => ?_⟩
      · rcases h1 with h1 | h1
        · rw [h1]; exact List.mem_cons_self ..
        · exact List.mem_cons_of_mem _ h1
      · rcases List.mem_cons.mp hx with rfl | hx
        · exact h2
        · exact h3 x hx
    · next hlt =>
      obtain ⟨h1, h2, h3⟩ := grt_spec fs g m hg hf1 e
      have hm : 0 < m.2 := by
        rcases h1 with h1 | h1
        · rw [h1]; exact hg
        · exact hf1 m h1
      refine ⟨?_, h2, fun x hx => ?_⟩
      · rcases h1 with h1 | h1
        · exact .inl h1
        · exact .inr (List.mem_cons_of_mem _ h1)
      · rcases List.mem_cons.mp hx with rfl | hx
        · exact fr_trans hg hf0 hm (Int.not_lt.mp hlt) h2
        · exact h3 x hx
/-- all fractions are at most p -/
theorem grt_le (p : Int) (g : Fr) (fs : List Fr) (m : Fr) (hg : 0 < g.2) (hf : ∀ f ∈ fs, 0 < f.2) (e : (g :: fs).foldl grt none = some m) : (p * m.2 < m.1 * 1) = ¬ (g.1 ≤ p * g.2 ∧ ∀ f ∈ fs, f.1 ≤ p * f.2) := by
  obtain ⟨h1, h2, h3⟩ := grt_spec fs g m hg hf e
  have hm : 0 < m.2 := by
    rcases h1 with h1 | h1
    · rw [h1]; exact hg
    · exact hf m h1
  have key : ∀ x : Fr, 0 < x.2 → x.1 * m.2 ≤ m.1 * x.2 → m.1 ≤ p * m.2 → x.1 ≤ p * x.2 := fun x hx h4 h5 => by
    have := fr_trans (x := x) (y := m) (z := (p, 1)) hm hx (show (0 : Int) < 1 by decide) h4 (by simpa using h5)
    simpa using this
  rw [Int.mul_one]
  refine propext ⟨fun hlt hall => ?_, fun hn => ?_⟩
  · have : m.1 ≤ p * m.2 := by
      rcases h1 with h1 | h1
      · rw [h1]; exact hall.1
      · exact hall.2 m h1
    omega
  · by_cases hlt : p * m.2 < m.1
    · exact hlt
    · have h5 := Int.not_lt.mp hlt
      exact (hn ⟨key g hg h2 h5, fun f h => key f (hf f h) (h3 f h) h5⟩).elim
theorem one_pos' : (0 : Int) < 1 := by decide
theorem low_pos {t b : Nat} (h : 0 < b) : 0 < (low t b).2 := by
  have hg : 0 < Nat.gcd t b := Nat.gcd_pos_of_pos_right t h
  have := Nat.div_pos (Nat.gcd_le_right t h) hg
  show (0 : Int) < ((b / Nat.gcd t b : Nat) : Int)
  omega
theorem low_le {t b p : Nat} (h : 0 < b) : ((low t b).1 ≤ (p : Int) * (low t b).2) ↔ t ≤ p * b := by
  have hg : 0 < Nat.gcd t b := Nat.gcd_pos_of_pos_right t h
  have e1 := Nat.div_mul_cancel (Nat.gcd_dvd_left t b)
  have e2 := Nat.div_mul_cancel (Nat.gcd_dvd_right t b)
  show (((t / Nat.gcd t b : Nat) : Int) ≤ (p : Int) * ((b / Nat.gcd t b : Nat) : Int)) ↔ _
  constructor
  · intro q
    have q' : t / Nat.gcd t b ≤ p * (b / Nat.gcd t b) := by exact_mod_cast q
    have := Nat.mul_le_mul_right (Nat.gcd t b) q'
    rw [e1, Nat.mul_assoc, e2] at this
    exact this
  · intro q
    have : t / Nat.gcd t b * Nat.gcd t b ≤ p * (b / Nat.gcd t b) * Nat.gcd t b := by rw [e1, Nat.mul_assoc, e2]; exact q
    have := Nat.le_of_mul_le_mul_right this hg
    exact_mod_cast this
/-! ### pace, by its steps -/
theorem q_pace1 (a b d : Nat) (ha : a ≤ 9) (hb : b ≤ 9) (hd : d ≤ 9) : g_pace [net a b d, I 1] = .ok (encO ([((a : Int), 1), ((b : Int), 1)].foldl grt none)) := by
  refine pace_of (q_nev a b d ha hb hd 1 (by decide)) rfl (q_reach1 a b d) (q_rings a b d) (gs := [encF ((a : Int), 1), encF ((b : Int), 1)]) (x := .fz gb0) ?_ (w_greatest [((a : Int), 1), ((b : Int), 1)] (all2 rfl rfl))
  generalize net a b d = N
  have h1 := pace_step (N := N) (E := I 1) (fs := []) (pl := 1) (rest := []) in_a (q_hs0 a b d) (q_ra a b d) (by decide)
  have h2 := pace_step (N := N) (E := I 1) (fs := [encF ((a : Int), 1)]) (pl := 1) (rest := []) in_b (q_hs1 a b d) (q_rb a b d) (by simp)
  rw [ev_foc]
  simp only [ev_hn, List.set_cons_succ, List.set_cons_zero]
  rw [h1]
  simp only [List.nil_append]
  rw [ev_foc]
  simp only [ev_hn, List.set_cons_succ, List.set_cons_zero]
  rw [h2]
  rfl
theorem q_pace0 (a b d : Nat) (ha : a ≤ 9) (hb : b ≤ 9) (hd : d ≤ 9) : g_pace [net a b d, I 0] = .ok (encF ((a : Int), 1)) := by
  refine pace_of (q_nev a b d ha hb hd 0 (by decide)) rfl (q_reach0 a b d) (q_rings a b d) (gs := [encF ((a : Int), 1)]) (x := .fz gb0) ?_ (w_greatest [((a : Int), 1)] (by intro f hf; rw [List.mem_singleton.mp hf]; rfl))
  generalize net a b d = N
  have h1 := pace_step (N := N) (E := I 0) (fs := []) (pl := 1) (rest := []) in_c (q_hs0 a b d) (q_ra a b d) (by decide)
  have h2 := pace_skip (N := N) (E := I 0) (rw := rows a b d) (fs := [encF ((a : Int), 1)]) (pl := 1) (rest := []) in_d
  rw [ev_foc]
  simp only [ev_hn, List.set_cons_succ, List.set_cons_zero]
  rw [h1]
  simp only [List.nil_append]
  rw [ev_foc]
  simp only [ev_hn, List.set_cons_succ, List.set_cons_zero]
  rw [h2]
  rfl
/-! ### keeps -/
def pc (p : Nat) : D := T [I p, I 1]
theorem keeps_abs {rw0 st rm rw1 most pace : D} {c : Bool} (h1 : g_with_rooms [rw0, st, rm] = .ok rw1) (h2 : g_slowest_of [rw1] = .ok most) (hn : isNoneD most = false) (e : g_is_less [pace, most] = .ok (.bool c)) : g_keeps [rw0, st, rm, pace] = .ok (.bool (!c)) := by
  simp -implicitDefEqProofs only [g_keeps, b_keeps, ev_foc, ev_fo0, ev_app, ev_enm, ev_rs, ev_lc', ev_g0, ev_gc, ev_y, big, ev_bnd, ev_ret, ev_lfS, ev_lfN, ev_stk, ev_vr, ev_vrT, ev_mT, ev_cF, ev_cO, ev_cB, ev_dd, ev_ds, ev_d0, ev_dc, ev_opr, ev_unr, ev_nl, ev_cns, ev_cbr, ev_ab, ev_ai, ev_tst', ev_an, ev_orr, ev_nt, ev_anV, ev_orV', ev_ntV, ev_ifm, ev_ch, ev_tp, ev_ls, ev_cl, ev_cl0, ev_isr, ev_sqI, ev_sqL, ev_sqT, ev_sb, ev_ss, ev_sn, ev_sa, ev_so, ev_sr, ev_sdr, ev_si, ev_sp, ev_p0, ev_pF, ev_pT, ev_sf, ev_hn, ev_ht, ev_hc, ev_h0, ev_cal, ev_f1, ev_f2, ev_f3, ev_f4, ev_cmp, ev_add, ev_sub, ev_mod, ev_fdv, ev_isn, ev_n1, ev_n2, ev_n3, ev_n4, ev_ixL, ev_ixT, ev_a0, ev_a1, ev_a2, ev_lL, ev_lT, ev_tL, ev_tT, ev_liT, ev_abs, ev_mx, ev_mn, ev_mx3, ev_t1, ev_t2, ev_t3, ev_eqI, ev_neI, List.getElem?_cons_zero, List.getElem?_cons_succ, List.set_cons_zero, List.set_cons_succ, List.length_cons, List.length_nil, List.map_cons, List.map_nil, List.replicate_succ, List.replicate_zero, List.cons_append, List.nil_append, List.append_nil, Option.bind_some, Option.map_some, Nat.reduceAdd, Nat.reduceSub, Nat.reduceLT, Nat.reduceLeDiff, Nat.reduceEqDiff, if_true, if_false, reduceIte, Bool.false_eq_true, wipeR, restR, h1, h2, hn, e]
theorem keeps_of {rw0 st rm : D} {rw1 : D} {p : Nat} {m : Fr} (h1 : g_with_rooms [rw0, st, rm] = .ok rw1) (h2 : g_slowest_of [rw1] = .ok (encO (some m))) (hm : isSmall m.2 = true) :
    g_keeps [rw0, st, rm, pc p] = .ok (.bool (!decide ((p : Int) * m.2 < m.1 * 1))) :=
  keeps_abs h1 h2 rfl (w_is_less (p : Int) 1 m.1 m.2 hm rfl)
theorem grt_in {g : Fr} {fs : List Fr} {m : Fr} (e : (g :: fs).foldl grt none = some m) : m ∈ g :: fs :=
  grt_mem (fs := g :: fs) (fun _ h => h) (fun _ h => by cases h) m e
theorem q_keeps1 (a b d r p : Nat) (ha : a ≤ p) (hb : b ≤ p) (h0 : 0 < r) (h : r < 1000000) : g_keeps [rows a b d, st1, T [I r], pc p] = .ok (.bool (decide (d ≤ p * r))) := by
  obtain ⟨m, e⟩ := grt_some [low d r, ((b : Int), 1)] ((a : Int), 1)
  have e' : [((a : Int), 1), low d r, ((b : Int), 1)].foldl grt none = some m := e
  have hs := q_slow1 a b d r h0 h
  rw [e'] at hs
  have hm : isSmall m.2 = true := all3 (P := fun f => isSmall f.2 = true) rfl (low_small h) rfl m (grt_in e')
  rw [keeps_of (q_with1 a b d r) hs hm]
  have k := grt_le (p : Int) ((a : Int), 1) [low d r, ((b : Int), 1)] m one_pos' (all2 (P := fun f => 0 < f.2) (low_pos h0) one_pos') e'
  have : (!decide ((p : Int) * m.2 < m.1 * 1)) = decide (d ≤ p * r) := by
    rw [Bool.eq_iff_iff]
    simp only [Bool.not_eq_true', decide_eq_false_iff_not, decide_eq_true_eq, k]
    rw [Classical.not_not]
    constructor
    · rintro ⟨_, h2⟩
      exact (low_le h0).mp (h2 _ (List.mem_cons_self ..))
    · intro h3
      exact ⟨by simp; omega, all2 (P := fun f => f.1 ≤ (p : Int) * f.2) ((low_le h0).mpr h3) (by simp; omega)⟩
  rw [this]
theorem q_keeps2 (a b d r s p : Nat) (ha : a ≤ p) (hb : b ≤ p) (h0 : 0 < r) (h : r < 1000000) (k0 : 0 < s) (kk : s < 1000000) : g_keeps [rows a b d, st2, T [I r, I s], pc p] = .ok (.bool (decide (d ≤ p * r) && decide (d ≤ p * s))) := by
  obtain ⟨m, e⟩ := grt_some [low d r, low d s, ((b : Int), 1)] ((a : Int), 1)
  have e' : [((a : Int), 1), low d r, low d s, ((b : Int), 1)].foldl grt none = some m := e
  have hs := q_slow2 a b d r s h0 h k0 kk
  rw [e'] at hs
  have hm : isSmall m.2 = true := all4 (P := fun f => isSmall f.2 = true) rfl (low_small h) (low_small kk) rfl m (grt_in e')
  rw [keeps_of (q_with2 a b d r s) hs hm]
  have k := grt_le (p : Int) ((a : Int), 1) [low d r, low d s, ((b : Int), 1)] m one_pos' (all3 (P := fun f => 0 < f.2) (low_pos h0) (low_pos k0) one_pos') e'
  have : (!decide ((p : Int) * m.2 < m.1 * 1)) = (decide (d ≤ p * r) && decide (d ≤ p * s)) := by
    rw [Bool.eq_iff_iff]
    simp only [Bool.not_eq_true', decide_eq_false_iff_not, Bool.and_eq_true, decide_eq_true_eq, k]
    rw [Classical.not_not]
    constructor
    · rintro ⟨_, h2⟩
      exact ⟨(low_le h0).mp (h2 _ (List.mem_cons_self ..)), (low_le k0).mp (h2 _ (List.mem_cons_of_mem _ (List.mem_cons_self ..)))⟩
    · rintro ⟨h3, h4⟩
      exact ⟨by simp; omega, all3 (P := fun f => f.1 ≤ (p : Int) * f.2) ((low_le h0).mpr h3) ((low_le k0).mpr h4) (by simp; omega)⟩
  rw [this]
/-- a pace less than an own one is kept by no room -/
theorem q_keepsN (a b d r p : Nat) (hab : p < a ∨ p < b) (h0 : 0 < r) (h : r < 1000000) : g_keeps [rows a b d, st1, T [I r], pc p] = .ok (.bool false) := by
  obtain ⟨m, e⟩ := grt_some [low d r, ((b : Int), 1)] ((a : Int), 1)
  have e' : [((a : Int), 1), low d r, ((b : Int), 1)].foldl grt none = some m := e
  have hs := q_slow1 a b d r h0 h
  rw [e'] at hs
  have hm : isSmall m.2 = true := all3 (P := fun f => isSmall f.2 = true) rfl (low_small h) rfl m (grt_in e')
  rw [keeps_of (q_with1 a b d r) hs hm]
  have k := grt_le (p : Int) ((a : Int), 1) [low d r, ((b : Int), 1)] m one_pos' (all2 (P := fun f => 0 < f.2) (low_pos h0) one_pos') e'
  have : (!decide ((p : Int) * m.2 < m.1 * 1)) = false := by
    simp only [Bool.not_eq_false', decide_eq_true_eq, k]
    rintro ⟨h1, h2⟩
    have h3 := h2 ((b : Int), 1) (by simp)
    simp at h1 h3
    omega
  rw [this]
end Rn
end

section
set_option Elab.async false
set_option linter.all false
set_option maxRecDepth 100000
set_option maxHeartbeats 4000000
namespace Rn
open PySem PySem.Spec L2
/-! ### rolls -/
theorem ev_sst (i : Nat) (fe fk : M D) (r : Rho) : sSetItem i fe fk r = sBind fe (fun d => fun ρ => match cellD ρ[i]? with
  | some _ => sBind fk (fun kd => fun ρ => match asInt kd with
    | some k => (match setD ρ i k d with
      | some r => .nx r
      | none => .no)
    | none => .no) ρ
  | none => .no) r := rfl
theorem mul_big {i j : Int} (h1 : i.natAbs < 2 ^ 400) (h2 : j.natAbs < 2 ^ 400) : mulF (.int i) (.int j) = some (.int (i * j)) := by
  show (if (isSmall i || isSmall j) = true then some (PyData.int (i * j)) else if i.natAbs < 2 ^ 400 ∧ j.natAbs < 2 ^ 400 then some (PyData.int (i * j)) else none) = _
  split
  · rfl
  · rw [if_pos ⟨h1, h2⟩]
theorem lt_big {i : Int} {n : Nat} (h0 : 0 ≤ i) (h : i < n) (hn : n ≤ 2 ^ 400) : i.natAbs < 2 ^ 400 := by
  have : i.natAbs < n := by omega
  exact Nat.lt_of_lt_of_le this hn
theorem md0 {i j : Int} (h : 0 < j) : modF (.int i) (.int j) = some (.int (i % j)) := by rw [ev_mod, if_pos h]
theorem fd0 {i j : Int} (h : 0 < j) (h2 : j.natAbs < 2 ^ 400) : fdivF (.int i) (.int j) = some (.int (i / j)) := by rw [ev_fdv, if_pos ⟨h, h2⟩]
theorem drawn_ok (c k : Int) : ∃ x, g__law_drawn [.int c, .int k] = .ok (.int x) := by
  have e1 := ev_mul c 6364136223846793005 (by rw [show isSmall 6364136223846793005 = true from rfl, Bool.or_true])
  have e2 := ev_mul (k + 1) 1442695040888963407 (by rw [show isSmall 1442695040888963407 = true from rfl, Bool.or_true])
  have m1 : modF (.int (c * 6364136223846793005 + (k + 1) * 1442695040888963407)) (.int 340282366920938463463374607431768211507) = some (.int ((c * 6364136223846793005 + (k + 1) * 1442695040888963407) % 340282366920938463463374607431768211507)) := md0 (by decide)
  have b1 := Int.emod_nonneg (c * 6364136223846793005 + (k + 1) * 1442695040888963407) (show (340282366920938463463374607431768211507 : Int) ≠ 0 by decide)
  have b2 := Int.emod_lt_of_pos (c * 6364136223846793005 + (k + 1) * 1442695040888963407) (show (0 : Int) < 340282366920938463463374607431768211507 by decide)
  generalize (c * 6364136223846793005 + (k + 1) * 1442695040888963407) % 340282366920938463463374607431768211507 = x1 at m1 b1 b2
  have e3 := mul_big (lt_big (n := 340282366920938463463374607431768211507) b1 b2 (by decide)) (lt_big (n := 340282366920938463463374607431768211507) b1 b2 (by decide))
  have m2 : modF (.int (x1 * x1)) (.int 340282366920938463463374607431768211297) = some (.int ((x1 * x1) % 340282366920938463463374607431768211297)) := md0 (by decide)
  have b3 := Int.emod_nonneg (x1 * x1) (show (340282366920938463463374607431768211297 : Int) ≠ 0 by decide)
  have b4 := Int.emod_lt_of_pos (x1 * x1) (show (0 : Int) < 340282366920938463463374607431768211297 by decide)
  generalize (x1 * x1) % 340282366920938463463374607431768211297 = x2 at m2 b3 b4
  have m3 : modF (.int x2) (.int 18446744073709551557) = some (.int (x2 % 18446744073709551557)) := md0 (by decide)
  have d3 : fdivF (.int x2) (.int 18446744073709551557) = some (.int (x2 / 18446744073709551557)) := fd0 (by decide) (by decide)
  have b5 := Int.emod_nonneg x2 (show (18446744073709551557 : Int) ≠ 0 by decide)
  have b6 := Int.emod_lt_of_pos x2 (show (0 : Int) < 18446744073709551557 by decide)
  have b7 : 0 ≤ x2 / 18446744073709551557 := Int.ediv_nonneg b3 (by decide)
  have b8 : x2 / 18446744073709551557 < 18446744073709551716 := Int.ediv_lt_of_lt_mul (by decide) (by omega)
  generalize x2 % 18446744073709551557 = y1 at m3 b5 b6
  generalize x2 / 18446744073709551557 = y2 at d3 b7 b8
  have e4 := mul_big (i := y1 + 1) (j := y2 + 1) (lt_big (n := 340282366920938463463374607431768211297) (by omega) (by omega) (by decide)) (lt_big (n := 340282366920938463463374607431768211297) (by omega) (by omega) (by decide))
  have b9 : (y1 + 1) * (y2 + 1) ≤ 18446744073709551717 * 18446744073709551717 := Int.mul_le_mul (by omega) (by omega) (by omega) (by decide)
  have b10 : 0 ≤ (y1 + 1) * (y2 + 1) := Int.mul_nonneg (by omega) (by omega)
  generalize (y1 + 1) * (y2 + 1) = z at e4 b9 b10
  have e5 := mul_big (i := z) (j := x2) (lt_big (n := 18446744073709551717 * 18446744073709551717 + 1) b10 (by omega) (by decide)) (lt_big (n := 340282366920938463463374607431768211297) b3 b4 (by decide))
  have m4 : modF (.int (z * x2)) (.int 340282366920938463463374607431768211507) = some (.int ((z * x2) % 340282366920938463463374607431768211507)) := md0 (by decide)
  refine ⟨(z * x2) % 340282366920938463463374607431768211507, ?_⟩
  simp -implicitDefEqProofs only [g__law_drawn, b__law_drawn, ev_foc, ev_fo0, ev_app, ev_enm, ev_rs, ev_lc', ev_g0, ev_gc, ev_y, big, ev_bnd, ev_ret, ev_lfS, ev_lfN, ev_stk, ev_vr, ev_vrT, ev_mT, ev_cF, ev_cO, ev_cB, ev_dd, ev_ds, ev_d0, ev_dc, ev_opr, ev_unr, ev_nl, ev_cns, ev_cbr, ev_ab, ev_ai, ev_tst', ev_an, ev_orr, ev_nt, ev_anV, ev_orV', ev_ntV, ev_ifm, ev_ch, ev_tp, ev_ls, ev_cl, ev_cl0, ev_isr, ev_sqI, ev_sqL, ev_sqT, ev_sb, ev_ss, ev_sn, ev_sa, ev_so, ev_sr, ev_sdr, ev_si, ev_sp, ev_p0, ev_pF, ev_pT, ev_sf, ev_hn, ev_ht, ev_hc, ev_h0, ev_cal, ev_f1, ev_f2, ev_f3, ev_f4, ev_cmp, ev_add, ev_sub, ev_isn, ev_n1, ev_n2, ev_n3, ev_n4, ev_ixL, ev_ixT, ev_a0, ev_a1, ev_a2, ev_lL, ev_lT, ev_tL, ev_tT, ev_liT, ev_abs, ev_mx, ev_mn, ev_mx3, ev_t1, ev_t2, ev_t3, ev_eqI, ev_neI, List.getElem?_cons_zero, List.getElem?_cons_succ, List.set_cons_zero, List.set_cons_succ, List.length_cons, List.length_nil, List.map_cons, List.map_nil, List.replicate_succ, List.replicate_zero, List.cons_append, List.nil_append, List.append_nil, Option.bind_some, Option.map_some, Nat.reduceAdd, Nat.reduceSub, Nat.reduceLT, Nat.reduceLeDiff, Nat.reduceEqDiff, if_true, if_false, reduceIte, Bool.false_eq_true, wipeR, restR, e1, e2, m1, e3, m2, m3, d3, e4, e5, m4]
theorem pow18 : powF (.int 10) (.int 18) = some (.int 1000000000000000000) := by kernel_rfl
theorem set0 (c k x : D) : setD [.bw (.list [c, k]), y1, y2] 0 0 x = some [.bw (.list [x, k]), y1, y2] := by
  simp [setD, cellD, ixN, putCell]
theorem set1 (c k x : D) : setD [.bw (.list [c, k]), y1, y2] 0 1 x = some [.bw (.list [c, x]), y1, y2] := by
  simp [setD, cellD, ixN, putCell]
theorem roll_ok (c k : Int) (m : Nat) (hm : 0 < m) (hm2 : m ≤ 1000000) : ∃ (r : Nat) (c' k' : Int), r < m ∧ noEx c__law_roll (.list [.int c, .int k]) [.int (m : Int)] = .ok (.int (r : Int)) (.list [.int c', .int k']) := by
  have hm3 : (0 : Int) < (m : Int) := by omega
  have hm4 : (m : Int).natAbs < 2 ^ 400 := by
    have : (m : Int).natAbs = m := by omega
    rw [this]
    exact Nat.lt_of_le_of_lt hm2 (by decide)
  have md : ∀ i : Int, modF (.int i) (.int (m : Int)) = some (.int (i % m)) := fun i => md0 hm3
  have fd : ∀ i : Int, fdivF (.int i) (.int (m : Int)) = some (.int (i / m)) := fun i => fd0 hm3 hm4
  have f8 : ∀ i : Int, fdivF (.int i) (.int 8) = some (.int (i / 8)) := fun i => fd0 (by decide) (by decide)
  have rem : ∀ i : Int, ∃ r : Nat, r < m ∧ i % (m : Int) = (r : Int) := fun i => by
    have h1 := Int.emod_nonneg i (show (m : Int) ≠ 0 by omega)
    have h2 := Int.emod_lt_of_pos i hm3
    exact ⟨(i % (m : Int)).toNat, by omega, by omega⟩
  by_cases h : c ≥ 1000000000000000000
  · obtain ⟨r, hr, er⟩ := rem c
    refine ⟨r, c / m, k, hr, ?_⟩
    have h' : (1000000000000000000 : Int) ≤ c := h
    simp -implicitDefEqProofs only [noEx, c__law_roll, callB, startR, b__law_roll, ev_foc, ev_fo0, ev_app, ev_enm, ev_rs, ev_lc', ev_g0, ev_gc, ev_y, big, ev_bnd, ev_ret, ev_lfS, ev_lfN, ev_stk, ev_vr, ev_vrT, ev_mT, ev_cF, ev_cO, ev_cB, ev_dd, ev_ds, ev_d0, ev_dc, ev_opr, ev_unr, ev_nl, ev_cns, ev_cbr, ev_ab, ev_ai, ev_tst', ev_an, ev_orr, ev_nt, ev_anV, ev_orV', ev_ntV, ev_ifm, ev_ch, ev_tp, ev_ls, ev_cl, ev_cl0, ev_isr, ev_sqI, ev_sqL, ev_sqT, ev_sb, ev_ss, ev_sn, ev_sa, ev_so, ev_sr, ev_sdr, ev_si, ev_sp, ev_p0, ev_pF, ev_pT, ev_sf, ev_hn, ev_ht, ev_hc, ev_h0, ev_cal, ev_f1, ev_f2, ev_f3, ev_f4, ev_cmp, ev_add, ev_sub, ev_isn, ev_n1, ev_n2, ev_n3, ev_n4, ev_ixL, ev_ixT, ev_a0, ev_a1, ev_a2, ev_lL, ev_lT, ev_tL, ev_tT, ev_liT, ev_abs, ev_mx, ev_mn, ev_mx3, ev_t1, ev_t2, ev_t3, ev_eqI, ev_neI, List.getElem?_cons_zero, List.getElem?_cons_succ, List.set_cons_zero, List.set_cons_succ, List.length_cons, List.length_nil, List.map_cons, List.map_nil, List.replicate_succ, List.replicate_zero, List.cons_append, List.nil_append, List.append_nil, Option.bind_some, Option.map_some, Nat.reduceAdd, Nat.reduceSub, Nat.reduceLT, Nat.reduceLeDiff, Nat.reduceEqDiff, if_true, if_false, reduceIte, Bool.false_eq_true, wipeR, restR, ev_sst, pow18, h', decide_true, md, fd, set0, finB, bwOf, er]
  · obtain ⟨x, ex⟩ := drawn_ok c (k + 1)
    obtain ⟨r, hr, er⟩ := rem (x / 8)
    refine ⟨r, c, k + 1, hr, ?_⟩
    have h' : ¬ (1000000000000000000 : Int) ≤ c := h
    simp -implicitDefEqProofs only [noEx, c__law_roll, callB, startR, b__law_roll, ev_foc, ev_fo0, ev_app, ev_enm, ev_rs, ev_lc', ev_g0, ev_gc, ev_y, big, ev_bnd, ev_ret, ev_lfS, ev_lfN, ev_stk, ev_vr, ev_vrT, ev_mT, ev_cF, ev_cO, ev_cB, ev_dd, ev_ds, ev_d0, ev_dc, ev_opr, ev_unr, ev_nl, ev_cns, ev_cbr, ev_ab, ev_ai, ev_tst', ev_an, ev_orr, ev_nt, ev_anV, ev_orV', ev_ntV, ev_ifm, ev_ch, ev_tp, ev_ls, ev_cl, ev_cl0, ev_isr, ev_sqI, ev_sqL, ev_sqT, ev_sb, ev_ss, ev_sn, ev_sa, ev_so, ev_sr, ev_sdr, ev_si, ev_sp, ev_p0, ev_pF, ev_pT, ev_sf, ev_hn, ev_ht, ev_hc, ev_h0, ev_cal, ev_f1, ev_f2, ev_f3, ev_f4, ev_cmp, ev_add, ev_sub, ev_isn, ev_n1, ev_n2, ev_n3, ev_n4, ev_ixL, ev_ixT, ev_a0, ev_a1, ev_a2, ev_lL, ev_lT, ev_tL, ev_tT, ev_liT, ev_abs, ev_mx, ev_mn, ev_mx3, ev_t1, ev_t2, ev_t3, ev_eqI, ev_neI, List.getElem?_cons_zero, List.getElem?_cons_succ, List.set_cons_zero, List.set_cons_succ, List.length_cons, List.length_nil, List.map_cons, List.map_nil, List.replicate_succ, List.replicate_zero, List.cons_append, List.nil_append, List.append_nil, Option.bind_some, Option.map_some, Nat.reduceAdd, Nat.reduceSub, Nat.reduceLT, Nat.reduceLeDiff, Nat.reduceEqDiff, if_true, if_false, reduceIte, Bool.false_eq_true, wipeR, restR, ev_sst, pow18, h', decide_false, md, fd, f8, set1, ex, finB, bwOf, er]
/-! ### least_rooms -/
abbrev lrA : S := sDrop (mCall g_need_stores (mCons (mVar 0) (mCons (mVar 1) (mNil))))
abbrev lrB : S := sIf (mNot (mTst (mCall0 g_is_pace (mCons (mVar 2) (mNil))))) (sRaise "InvalidNumber") (sNext)
abbrev lrC : S := sAsg (mLc (mSeqI (mCall0 g_all_rooms (mCons (mCB lenF (mCons (mVarT 1) (mNil))) (mNil)))) (hName 5) (mTst (mCall0 g_keeps (mCons (mOp ixF (mVarT 0) (mT (ret (.int 1)))) (mCons (mVar 1) (mCons (mVar 5) (mCons (mVar 2) (mNil))))))) (mVar 5) [5]) (hName 3)
abbrev lrR : S := sSeq (sOwn (mLst (mNil)) 4)
 (sSeq (sFor (mSeqI (mVar 3)) (hName 5) (sSeq (sAsg (mLc (mSeqI (mVar 3)) (hName 7) (mAnd (mTst (mOp neF (mVarT 7) (mVarT 5))) (mTst (mCB allF (mCons (mT (mLc (mEnum (mCons (mVar 7) (mNil))) (hTup 2 (hCons (hName 8) (hCons (hName 9) (hNil)))) (mYes) (mOp leF (mVarT 9) (mT (mOp ixF (mVarT 5) (mVarT 8)))) [8, 9])) (mNil))))) (mVar 7) [7]) (hName 6))
 (sIf (mTst (mOp eqF (mVarT 6) (mT (mLst (mNil))))) (sAppend 4 (mVar 5)) (sNext))))
 (sRet (mCB tupleF (mCons (mVarT 4) (mNil)))))
theorem lr_is : b_least_rooms = sSeq lrA (sSeq lrB (sSeq lrC lrR)) := rfl
theorem lr_abs {N st pace rw out : D} {rooms : List D} {t : D → Bool} {n : Int} (h1 : g_need_stores [N, st] = .ok .none) (h2 : g_is_pace [pace] = .ok (.bool true)) (hn : lenF [st] = some (.int n)) (h3 : g_all_rooms [.int n] = .ok (.list rooms)) (hN : ixF N (.int 1) = some rw)
    (hk : ∀ x ∈ rooms, g_keeps [rw, st, x, pace] = .ok (.bool (t x))) (hl : rooms.length ≤ big) (hrest : finO (lrR [.fz N, .fz st, .fz pace, .fz (.list (rooms.filter t)), .no, .no, .no, .no, .no, .no]) = .ok out) : g_least_rooms [N, st, pace] = .ok out := by
  have hA : lrA [.fz N, .fz st, .fz pace, .no, .no, .no, .no, .no, .no, .no] = .nx [.fz N, .fz st, .fz pace, .no, .no, .no, .no, .no, .no, .no] := by
    simp -implicitDefEqProofs only [ev_foc, ev_fo0, ev_app, ev_enm, ev_rs, ev_lc', ev_g0, ev_gc, ev_y, big, ev_bnd, ev_ret, ev_lfS, ev_lfN, ev_stk, ev_vr, ev_vrT, ev_mT, ev_cF, ev_cO, ev_cB, ev_dd, ev_ds, ev_d0, ev_dc, ev_opr, ev_unr, ev_nl, ev_cns, ev_cbr, ev_ab, ev_ai, ev_tst', ev_an, ev_orr, ev_nt, ev_anV, ev_orV', ev_ntV, ev_ifm, ev_ch, ev_tp, ev_ls, ev_cl, ev_cl0, ev_isr, ev_sqI, ev_sqL, ev_sqT, ev_sb, ev_ss, ev_sn, ev_sa, ev_so, ev_sr, ev_sdr, ev_si, ev_sp, ev_p0, ev_pF, ev_pT, ev_sf, ev_hn, ev_ht, ev_hc, ev_h0, ev_cal, ev_f1, ev_f2, ev_f3, ev_f4, ev_cmp, ev_add, ev_sub, ev_mod, ev_fdv, ev_isn, ev_n1, ev_n2, ev_n3, ev_n4, ev_ixL, ev_ixT, ev_a0, ev_a1, ev_a2, ev_lL, ev_lT, ev_tL, ev_tT, ev_liT, ev_abs, ev_mx, ev_mn, ev_mx3, ev_t1, ev_t2, ev_t3, ev_eqI, ev_neI, List.getElem?_cons_zero, List.getElem?_cons_succ, List.set_cons_zero, List.set_cons_succ, List.length_cons, List.length_nil, List.map_cons, List.map_nil, List.replicate_succ, List.replicate_zero, List.cons_append, List.nil_append, List.append_nil, Option.bind_some, Option.map_some, Nat.reduceAdd, Nat.reduceSub, Nat.reduceLT, Nat.reduceLeDiff, Nat.reduceEqDiff, if_true, if_false, reduceIte, Bool.false_eq_true, wipeR, restR, h1]
  have hB : lrB [.fz N, .fz st, .fz pace, .no, .no, .no, .no, .no, .no, .no] = .nx [.fz N, .fz st, .fz pace, .no, .no, .no, .no, .no, .no, .no] := by
    simp -implicitDefEqProofs only [ev_foc, ev_fo0, ev_app, ev_enm, ev_rs, ev_lc', ev_g0, ev_gc, ev_y, big, ev_bnd, ev_ret, ev_lfS, ev_lfN, ev_stk, ev_vr, ev_vrT, ev_mT, ev_cF, ev_cO, ev_cB, ev_dd, ev_ds, ev_d0, ev_dc, ev_opr, ev_unr, ev_nl, ev_cns, ev_cbr, ev_ab, ev_ai, ev_tst', ev_an, ev_orr, ev_nt, ev_anV, ev_orV', ev_ntV, ev_ifm, ev_ch, ev_tp, ev_ls, ev_cl, ev_cl0, ev_isr, ev_sqI, ev_sqL, ev_sqT, ev_sb, ev_ss, ev_sn, ev_sa, ev_so, ev_sr, ev_sdr, ev_si, ev_sp, ev_p0, ev_pF, ev_pT, ev_sf, ev_hn, ev_ht, ev_hc, ev_h0, ev_cal, ev_f1, ev_f2, ev_f3, ev_f4, ev_cmp, ev_add, ev_sub, ev_mod, ev_fdv, ev_isn, ev_n1, ev_n2, ev_n3, ev_n4, ev_ixL, ev_ixT, ev_a0, ev_a1, ev_a2, ev_lL, ev_lT, ev_tL, ev_tT, ev_liT, ev_abs, ev_mx, ev_mn, ev_mx3, ev_t1, ev_t2, ev_t3, ev_eqI, ev_neI, List.getElem?_cons_zero, List.getElem?_cons_succ, List.set_cons_zero, List.set_cons_succ, List.length_cons, List.length_nil, List.map_cons, List.map_nil, List.replicate_succ, List.replicate_zero, List.cons_append, List.nil_append, List.append_nil, Option.bind_some, Option.map_some, Nat.reduceAdd, Nat.reduceSub, Nat.reduceLT, Nat.reduceLeDiff, Nat.reduceEqDiff, if_true, if_false, reduceIte, Bool.false_eq_true, wipeR, restR, h2, Bool.not_true]
  have hC : lrC [.fz N, .fz st, .fz pace, .no, .no, .no, .no, .no, .no, .no] = .nx [.fz N, .fz st, .fz pace, .fz (.list (rooms.filter t)), .no, .no, .no, .no, .no, .no] := by
    have e := mlc_pure (fi := mSeqI (mCall0 g_all_rooms (mCons (mCB lenF (mCons (mVarT 1) (mNil))) (mNil)))) (h := hName 5) (ft := mTst (mCall0 g_keeps (mCons (mOp ixF (mVarT 0) (mT (ret (.int 1)))) (mCons (mVar 1) (mCons (mVar 5) (mCons (mVar 2) (mNil))))))) (fe := mVar 5) (vs := [5]) (t := t) (g := fun x => x) (ρ := [.fz N, .fz st, .fz pace, .no, .no, .no, .no, .no, .no, .no]) (items := rooms)
      (by simp -implicitDefEqProofs only [ev_foc, ev_fo0, ev_app, ev_enm, ev_rs, ev_lc', ev_g0, ev_gc, ev_y, big, ev_bnd, ev_ret, ev_lfS, ev_lfN, ev_stk, ev_vr, ev_vrT, ev_mT, ev_cF, ev_cO, ev_cB, ev_dd, ev_ds, ev_d0, ev_dc, ev_opr, ev_unr, ev_nl, ev_cns, ev_cbr, ev_ab, ev_ai, ev_tst', ev_an, ev_orr, ev_nt, ev_anV, ev_orV', ev_ntV, ev_ifm, ev_ch, ev_tp, ev_ls, ev_cl, ev_cl0, ev_isr, ev_sqI, ev_sqL, ev_sqT, ev_sb, ev_ss, ev_sn, ev_sa, ev_so, ev_sr, ev_sdr, ev_si, ev_sp, ev_p0, ev_pF, ev_pT, ev_sf, ev_hn, ev_ht, ev_hc, ev_h0, ev_cal, ev_f1, ev_f2, ev_f3, ev_f4, ev_cmp, ev_add, ev_sub, ev_mod, ev_fdv, ev_isn, ev_n1, ev_n2, ev_n3, ev_n4, ev_ixL, ev_ixT, ev_a0, ev_a1, ev_a2, ev_lL, ev_lT, ev_tL, ev_tT, ev_liT, ev_abs, ev_mx, ev_mn, ev_mx3, ev_t1, ev_t2, ev_t3, ev_eqI, ev_neI, List.getElem?_cons_zero, List.getElem?_cons_succ, List.set_cons_zero, List.set_cons_succ, List.length_cons, List.length_nil, List.map_cons, List.map_nil, List.replicate_succ, List.replicate_zero, List.cons_append, List.nil_append, List.append_nil, Option.bind_some, Option.map_some, Nat.reduceAdd, Nat.reduceSub, Nat.reduceLT, Nat.reduceLeDiff, Nat.reduceEqDiff, if_true, if_false, reduceIte, Bool.false_eq_true, wipeR, restR, hn, h3]) hl rfl (fun x hx => ⟨[.fz N, .fz st, .fz pace, .no, .no, .fz x, .no, .no, .no, .no], rfl, by simp -implicitDefEqProofs only [ev_foc, ev_fo0, ev_app, ev_enm, ev_rs, ev_lc', ev_g0, ev_gc, ev_y, big, ev_bnd, ev_ret, ev_lfS, ev_lfN, ev_stk, ev_vr, ev_vrT, ev_mT, ev_cF, ev_cO, ev_cB, ev_dd, ev_ds, ev_d0, ev_dc, ev_opr, ev_unr, ev_nl, ev_cns, ev_cbr, ev_ab, ev_ai, ev_tst', ev_an, ev_orr, ev_nt, ev_anV, ev_orV', ev_ntV, ev_ifm, ev_ch, ev_tp, ev_ls, ev_cl, ev_cl0, ev_isr, ev_sqI, ev_sqL, ev_sqT, ev_sb, ev_ss, ev_sn, ev_sa, ev_so, ev_sr, ev_sdr, ev_si, ev_sp, ev_p0, ev_pF, ev_pT, ev_sf, ev_hn, ev_ht, ev_hc, ev_h0, ev_cal, ev_f1, ev_f2, ev_f3, ev_f4, ev_cmp, ev_add, ev_sub, ev_mod, ev_fdv, ev_isn, ev_n1, ev_n2, ev_n3, ev_n4, ev_ixL, ev_ixT, ev_a0, ev_a1, ev_a2, ev_lL, ev_lT, ev_tL, ev_tT, ev_liT, ev_abs, ev_mx, ev_mn, ev_mx3, ev_t1, ev_t2, ev_t3, ev_eqI, ev_neI, List.getElem?_cons_zero, List.getElem?_cons_succ, List.set_cons_zero, List.set_cons_succ, List.length_cons, List.length_nil, List.map_cons, List.map_nil, List.replicate_succ, List.replicate_zero, List.cons_append, List.nil_append, List.append_nil, Option.bind_some, Option.map_some, Nat.reduceAdd, Nat.reduceSub, Nat.reduceLT, Nat.reduceLeDiff, Nat.reduceEqDiff, if_true, if_false, reduceIte, Bool.false_eq_true, wipeR, restR, hN, hk x hx], fun _ => rfl, rfl⟩)
    rw [List.map_id'] at e
    unfold lrC
    rw [ev_sa, ev_sb, e]
    rfl
  show finO (b_least_rooms [.fz N, .fz st, .fz pace, .no, .no, .no, .no, .no, .no, .no]) = _
  rw [lr_is, ev_ss, hA]
  simp only
  rw [ev_ss, hB]
  simp only
  rw [ev_ss, hC]
  exact hrest
end Rn
end

section
set_option Elab.async false
set_option linter.all false
set_option maxRecDepth 100000
set_option maxHeartbeats 4000000
namespace Rn
open PySem PySem.Spec L2
def six : List Nat := [1, 2, 3, 4, 5, 6]
def e1 (r : Nat) : D := T [I r]
def e2 (q : Nat × Nat) : D := T [I q.1, I q.2]
def pairs (l : List Nat) : List (Nat × Nat) := l.flatMap fun r => l.map fun s => (r, s)
theorem q_all1 : g_all_rooms [I 1] = .ok (.list (six.map e1)) := by kernel_rfl
theorem q_all2 : g_all_rooms [I 2] = .ok (.list ((pairs six).map e2)) := by kernel_rfl
/-- from t on -/
def from_ (t : Nat) : List Nat := six.filter fun r => decide (t ≤ r)
theorem rest1 (N st pc : D) : ∀ t, t < 7 → finO (lrR [.fz N, .fz st, .fz pc, .fz (.list ((from_ (t + 1)).map e1)), .no, .no, .no, .no, .no, .no]) = .ok (T (if t + 1 ≤ 6 then [e1 (t + 1)] else []))
  | 0, _ => by kernel_rfl
  | 1, _ => by kernel_rfl
  | 2, _ => by kernel_rfl
  | 3, _ => by kernel_rfl
  | 4, _ => by kernel_rfl
  | 5, _ => by kernel_rfl
  | 6, _ => by kernel_rfl
  | _ + 7, h => by omega
theorem rest2_0 (N st pc : D) : finO (lrR [.fz N, .fz st, .fz pc, .fz (.list ((pairs (from_ (0 + 1))).map e2)), .no, .no, .no, .no, .no, .no]) = .ok (T (if 0 + 1 ≤ 6 then [e2 (0 + 1, 0 + 1)] else [])) := by kernel_rfl
theorem rest2_1 (N st pc : D) : finO (lrR [.fz N, .fz st, .fz pc, .fz (.list ((pairs (from_ (1 + 1))).map e2)), .no, .no, .no, .no, .no, .no]) = .ok (T (if 1 + 1 ≤ 6 then [e2 (1 + 1, 1 + 1)] else [])) := by kernel_rfl
theorem rest2_2 (N st pc : D) : finO (lrR [.fz N, .fz st, .fz pc, .fz (.list ((pairs (from_ (2 + 1))).map e2)), .no, .no, .no, .no, .no, .no]) = .ok (T (if 2 + 1 ≤ 6 then [e2 (2 + 1, 2 + 1)] else [])) := by kernel_rfl
theorem rest2_3 (N st pc : D) : finO (lrR [.fz N, .fz st, .fz pc, .fz (.list ((pairs (from_ (3 + 1))).map e2)), .no, .no, .no, .no, .no, .no]) = .ok (T (if 3 + 1 ≤ 6 then [e2 (3 + 1, 3 + 1)] else [])) := by kernel_rfl
theorem rest2_4 (N st pc : D) : finO (lrR [.fz N, .fz st, .fz pc, .fz (.list ((pairs (from_ (4 + 1))).map e2)), .no, .no, .no, .no, .no, .no]) = .ok (T (if 4 + 1 ≤ 6 then [e2 (4 + 1, 4 + 1)] else [])) := by kernel_rfl
theorem rest2_5 (N st pc : D) : finO (lrR [.fz N, .fz st, .fz pc, .fz (.list ((pairs (from_ (5 + 1))).map e2)), .no, .no, .no, .no, .no, .no]) = .ok (T (if 5 + 1 ≤ 6 then [e2 (5 + 1, 5 + 1)] else [])) := by kernel_rfl
theorem rest2_6 (N st pc : D) : finO (lrR [.fz N, .fz st, .fz pc, .fz (.list ((pairs (from_ (6 + 1))).map e2)), .no, .no, .no, .no, .no, .no]) = .ok (T (if 6 + 1 ≤ 6 then [e2 (6 + 1, 6 + 1)] else [])) := by kernel_rfl
theorem rest2 (N st pc : D) : ∀ t, t < 7 → finO (lrR [.fz N, .fz st, .fz pc, .fz (.list ((pairs (from_ (t + 1))).map e2)), .no, .no, .no, .no, .no, .no]) = .ok (T (if t + 1 ≤ 6 then [e2 (t + 1, t + 1)] else []))
  | 0, _ => rest2_0 N st pc
  | 1, _ => rest2_1 N st pc
  | 2, _ => rest2_2 N st pc
  | 3, _ => rest2_3 N st pc
  | 4, _ => rest2_4 N st pc
  | 5, _ => rest2_5 N st pc
  | 6, _ => rest2_6 N st pc
  | _ + 7, h => by omega
def thr (d p : Nat) : Nat := if (d + p - 1) / p < 1 then 1 else (d + p - 1) / p
theorem good1 : ∀ d < 10, ∀ p < 12, 1 ≤ p → (six.filter fun r => decide (d ≤ p * r)) = from_ (thr d p) := by decide +kernel
theorem good2 : ∀ d < 10, ∀ p < 12, 1 ≤ p → ((pairs six).filter fun q => decide (d ≤ p * q.1) && decide (d ≤ p * q.2)) = pairs (from_ (thr d p)) := by decide +kernel
theorem from7 : ∀ t, 6 < t → from_ t = [] := by
  intro t h
  unfold from_ six
  simp
  omega
def tst1 (d p : Nat) : D → Bool
  | .tuple [.int r] => decide (d ≤ p * r.toNat)
  | _ => false
def tst2 (d p : Nat) : D → Bool
  | .tuple [.int r, .int s] => decide (d ≤ p * r.toNat) && decide (d ≤ p * s.toNat)
  | _ => false
theorem f1 (d p : Nat) (l : List Nat) : (l.map e1).filter (tst1 d p) = (l.filter fun r => decide (d ≤ p * r)).map e1 := by
  rw [List.filter_map]
  rfl
theorem f2 (d p : Nat) (l : List (Nat × Nat)) : (l.map e2).filter (tst2 d p) = (l.filter fun q => decide (d ≤ p * q.1) && decide (d ≤ p * q.2)).map e2 := by
  rw [List.filter_map]
  rfl
theorem thr_pos (d p : Nat) : 1 ≤ thr d p := by
  unfold thr
  split <;> omega
theorem thr_le : ∀ d < 10, ∀ p < 12, 1 ≤ p → thr d p ≤ 9 := by decide +kernel
theorem q_isp : ∀ p, p < 12 → g_is_pace [pc p] = .ok (.bool true)
  | 0, _ => by kernel_rfl
  | 1, _ => by kernel_rfl
  | 2, _ => by kernel_rfl
  | 3, _ => by kernel_rfl
  | 4, _ => by kernel_rfl
  | 5, _ => by kernel_rfl
  | 6, _ => by kernel_rfl
  | 7, _ => by kernel_rfl
  | 8, _ => by kernel_rfl
  | 9, _ => by kernel_rfl
  | 10, _ => by kernel_rfl
  | 11, _ => by kernel_rfl
  | _ + 12, h => by omega
theorem restA (N st pc : D) (t : Nat) (h : 1 ≤ t) (h2 : t ≤ 9) : finO (lrR [.fz N, .fz st, .fz pc, .fz (.list ((from_ t).map e1)), .no, .no, .no, .no, .no, .no]) = .ok (T (if t ≤ 6 then [e1 t] else [])) := by
  by_cases h3 : t ≤ 6
  · have := rest1 N st pc (t - 1) (by omega)
    rw [show t - 1 + 1 = t by omega] at this
    exact this
  · have := rest1 N st pc 6 (by omega)
    rw [from7 t (by omega), if_neg h3]
    rw [from7 7 (by omega)] at this
    exact this
theorem restB (N st pc : D) (t : Nat) (h : 1 ≤ t) (h2 : t ≤ 9) : finO (lrR [.fz N, .fz st, .fz pc, .fz (.list ((pairs (from_ t)).map e2)), .no, .no, .no, .no, .no, .no]) = .ok (T (if t ≤ 6 then [e2 (t, t)] else [])) := by
  by_cases h3 : t ≤ 6
  · have := rest2 N st pc (t - 1) (by omega)
    rw [show t - 1 + 1 = t by omega] at this
    exact this
  · have := rest2 N st pc 6 (by omega)
    rw [from7 t (by omega), if_neg h3]
    rw [from7 7 (by omega)] at this
    exact this
theorem mem_six {x : D} (h : x ∈ six.map e1) : ∃ r, x = e1 r ∧ 0 < r ∧ r < 1000000 := by
  obtain ⟨r, hr, rfl⟩ := List.mem_map.mp h
  refine ⟨r, rfl, ?_⟩
  simp [six] at hr
  omega
theorem mem_pairs {x : D} (h : x ∈ (pairs six).map e2) : ∃ r s, x = e2 (r, s) ∧ 0 < r ∧ r < 1000000 ∧ 0 < s ∧ s < 1000000 := by
  obtain ⟨⟨r, s⟩, hr, rfl⟩ := List.mem_map.mp h
  refine ⟨r, s, rfl, ?_⟩
  unfold pairs at hr
  simp only [List.mem_flatMap, List.mem_map] at hr
  obtain ⟨r', h1, s', h2, e⟩ := hr
  cases e
  simp [six] at h1 h2
  omega
section
variable (a b d p : Nat) (ha : a ≤ 9) (hb : b ≤ 9) (hd : d ≤ 9) (hp : p < 12)
include ha hb hd hp in
theorem q_lr1 (hp1 : 1 ≤ p) (hap : a ≤ p) (hbp : b ≤ p) : g_least_rooms [net a b d, st1, pc p] = .ok (T (if thr d p ≤ 6 then [e1 (thr d p)] else [])) := by
  refine lr_abs (t := tst1 d p) (q_ns a b d ha hb hd st1 (q_are1 a b d)) (q_isp p hp) rfl q_all1 (rw := rows a b d) rfl (fun x hx => ?_) (by decide) ?_
  · obtain ⟨r, rfl, h1, h2⟩ := mem_six hx
    exact q_keeps1 a b d r p hap hbp h1 h2
  · rw [f1, good1 d (by omega) p hp hp1]
    exact restA _ _ _ _ (thr_pos d p) (thr_le d (by omega) p hp hp1)
include ha hb hd hp in
theorem q_lr2 (hp1 : 1 ≤ p) (hap : a ≤ p) (hbp : b ≤ p) : g_least_rooms [net a b d, st2, pc p] = .ok (T (if thr d p ≤ 6 then [e2 (thr d p, thr d p)] else [])) := by
  refine lr_abs (t := tst2 d p) (q_ns a b d ha hb hd st2 (q_are2 a b d)) (q_isp p hp) rfl q_all2 (rw := rows a b d) rfl (fun x hx => ?_) (by decide) ?_
  · obtain ⟨r, s, rfl, h1, h2, h3, h4⟩ := mem_pairs hx
    exact q_keeps2 a b d r s p hap hbp h1 h2 h3 h4
  · rw [f2, good2 d (by omega) p hp hp1]
    exact restB _ _ _ _ (thr_pos d p) (thr_le d (by omega) p hp hp1)
include ha hb hd hp in
theorem q_lrN (hab : p < a ∨ p < b) : g_least_rooms [net a b d, st1, pc p] = .ok (T []) := by
  refine lr_abs (t := fun _ => false) (q_ns a b d ha hb hd st1 (q_are1 a b d)) (q_isp p hp) rfl q_all1 (rw := rows a b d) rfl (fun x hx => ?_) (by decide) ?_
  · obtain ⟨r, rfl, h1, h2⟩ := mem_six hx
    exact q_keepsN a b d r p hab h1 h2
  · have e : (six.map e1).filter (fun _ => false) = [] := List.filter_eq_nil_iff.mpr fun _ _ => by simp
    rw [e]
    have := rest1 (net a b d) st1 (pc p) 6 (by omega)
    rw [from7 7 (by omega)] at this
    exact this
end
end Rn
end

section
set_option Elab.async false
set_option linter.all false
set_option maxRecDepth 100000
set_option maxHeartbeats 4000000
namespace Rn
open PySem PySem.Spec L2
def gm (fs : List Fr) : Fr := (fs.foldl grt none).getD (0, 1)
theorem gm_is (g : Fr) (fs : List Fr) : (g :: fs).foldl grt none = some (gm (g :: fs)) := by
  obtain ⟨m, e⟩ := grt_some fs g
  have e' : (g :: fs).foldl grt none = some m := e
  unfold gm
  rw [e']
  rfl
def mx (a b : Nat) : Nat := if a < b then b else a
theorem mx_is (a b : Nat) : max2F [I a, I b] = some (I (mx a b : Nat)) := by
  rw [ev_mx]
  unfold mx
  by_cases h : a < b
  · have h' : (b : Int) > (a : Int) := by omega
    rw [if_pos h, if_pos h']
  · have h' : ¬ (b : Int) > (a : Int) := by omega
    rw [if_neg h, if_neg h']
theorem gm2 (a b : Nat) : gm [((a : Int), 1), ((b : Int), 1)] = (((mx a b : Nat) : Int), 1) := by
  unfold gm mx
  show (grt (some ((a : Int), 1)) ((b : Int), 1)).getD (0, 1) = _
  unfold grt
  by_cases h : a < b
  · have h' : (a : Int) * 1 < (b : Int) * 1 := by omega
    simp [h]
  · have h' : ¬ (a : Int) * 1 < (b : Int) * 1 := by omega
    simp [h]
def fr (a b d r : Nat) : Fr := gm [((a : Int), 1), low d r, ((b : Int), 1)]
def topF (a b d r : Nat) : Nat := if mx a b * r < d then d else mx a b
def botF (a b d r : Nat) : Nat := if mx a b * r < d then r else 1
def chk (a b d r : Nat) : Bool := decide ((fr a b d r).1 * (botF a b d r : Int) = (topF a b d r : Int) * (fr a b d r).2) && isSmall (fr a b d r).1 && isSmall (fr a b d r).2
def chkD (a b d r : Nat) : Bool := !decide ((fr a b d r).1 * (fr a b d (r + 1)).2 < (fr a b d (r + 1)).1 * (fr a b d r).2)
theorem chk_all : ((List.range 10).all fun a => (List.range 10).all fun b => (List.range 10).all fun d => [1, 2, 3, 4, 5, 6].all fun r => chk a b d r) = true := by kernel_rfl
theorem chkD_all : ((List.range 10).all fun a => (List.range 10).all fun b => (List.range 10).all fun d => [1, 2, 3, 4, 5].all fun r => chkD a b d r) = true := by kernel_rfl
theorem chk0_all : ((List.range 10).all fun (a : Nat) => (List.range 10).all fun (b : Nat) => decide (gm [((a : Int), 1), low 0 2, ((b : Int), 1)] = (((mx a b : Nat) : Int), 1))) = true := by kernel_rfl
section
variable {a b d r : Nat} (ha : a ≤ 9) (hb : b ≤ 9) (hd : d ≤ 9)
include ha hb hd in
theorem fr_all (h1 : 1 ≤ r) (h2 : r ≤ 6) : (fr a b d r).1 * (botF a b d r : Int) = (topF a b d r : Int) * (fr a b d r).2 ∧ isSmall (fr a b d r).1 = true ∧ isSmall (fr a b d r).2 = true := by
  have e := List.all_eq_true.mp (List.all_eq_true.mp (List.all_eq_true.mp (List.all_eq_true.mp chk_all a (by simp; omega)) b (by simp; omega)) d (by simp; omega)) r (by simp; omega)
  unfold chk at e
  simp only [Bool.and_eq_true, decide_eq_true_eq] at e
  exact ⟨e.1.1, e.1.2, e.2⟩
include ha hb hd in
theorem fr_down (h1 : 1 ≤ r) (h2 : r ≤ 5) : ¬ ((fr a b d r).1 * (fr a b d (r + 1)).2 < (fr a b d (r + 1)).1 * (fr a b d r).2) := by
  have e := List.all_eq_true.mp (List.all_eq_true.mp (List.all_eq_true.mp (List.all_eq_true.mp chkD_all a (by simp; omega)) b (by simp; omega)) d (by simp; omega)) r (by simp; omega)
  unfold chkD at e
  simpa using e
include ha hb in
theorem fr0 : gm [((a : Int), 1), low 0 2, ((b : Int), 1)] = (((mx a b : Nat) : Int), 1) := by
  have e := List.all_eq_true.mp (List.all_eq_true.mp chk0_all a (by simp; omega)) b (by simp; omega)
  simpa using e
end
abbrev lpB : S := (sSeq (sAsg (mCall g_slowest_with (mCons (mVar 5) (mCons (mTup (mCons (mTup (mCons (ret (.int 0)) (mCons (ret (.int 1)) (mNil)))) (mNil))) (mCons (mTup (mCons (mVar 7) (mNil))) (mNil))))) (hName 12))
 (sSeq (sAsg (mIf (mTst (mOp gtF (mVarT 4) (mT (mOp mulF (mT (mCB max2F (mCons (mVarT 2) (mCons (mVarT 3) (mNil))))) (mVarT 7))))) (mTup (mCons (mVar 4) (mCons (mVar 7) (mNil)))) (mTup (mCons (mCB max2F (mCons (mVarT 2) (mCons (mVarT 3) (mNil)))) (mCons (ret (.int 1)) (mNil))))) (hTup 2 (hCons (hName 13) (hCons (hName 14) (hNil)))))
 (sSeq (sIf (mTst (mOp neF (mT (mOp mulF (mT (mOp ixF (mVarT 12) (mT (ret (.int 0))))) (mVarT 14))) (mT (mOp mulF (mVarT 13) (mT (mOp ixF (mVarT 12) (mT (ret (.int 1))))))))) (sRet (ret (.bool false))) (sNext))
 (sSeq (sIf (mAnd (mTst (mOp (isF true) (mVarT 6) (mT (ret .none)))) (mTst (mOp gtF (mT (mOp mulF (mT (mOp ixF (mVarT 12) (mT (ret (.int 0))))) (mT (mOp ixF (mVarT 6) (mT (ret (.int 1))))))) (mT (mOp mulF (mT (mOp ixF (mVarT 6) (mT (ret (.int 0))))) (mT (mOp ixF (mVarT 12) (mT (ret (.int 1)))))))))) (sRet (ret (.bool false))) (sNext))
 (sAsg (mVar 12) (hName 6))))))
/-- one turn of the loop over the rooms -/
theorem lp_step (DC c8 c9 c10 c11 x12 x13 x14 x15 : Cell) (A B N last : D) (d r M p q tp bt : Int) (hM : max2F [A, B] = some (.int M)) (hsw : g_slowest_with [N, st1, T [.int r]] = .ok (T [.int p, .int q]))
    (htb : (M * r < d ∧ tp = d ∧ bt = r) ∨ (¬ M * r < d ∧ tp = M ∧ bt = 1)) (hr : isSmall r = true) (hq : isSmall q = true) (hbt : isSmall bt = true) (e : p * bt = tp * q)
    (hlast : last = .none ∨ ∃ g h : Int, last = T [.int g, .int h] ∧ isSmall h = true ∧ ¬ (g * q < p * h)) :
    lpB [x15, DC, .fz A, .fz B, .fz (.int d), .fz N, .fz last, .fz (.int r), c8, c9, c10, c11, x12, x13, x14] = .nx [x15, DC, .fz A, .fz B, .fz (.int d), .fz N, .fz (T [.int p, .int q]), .fz (.int r), c8, c9, c10, c11, .fz (T [.int p, .int q]), .fz (.int tp), .fz (.int bt)] := by
  have m1 := ev_mul M r (by rw [hr, Bool.or_true])
  have m2 := ev_mul p bt (by rw [hbt, Bool.or_true])
  have m3 := ev_mul tp q (by rw [hq, Bool.or_true])
  rcases htb with ⟨h1, rfl, rfl⟩ | ⟨h1, rfl, rfl⟩
  · rcases hlast with rfl | ⟨g, h, rfl, hh, hn⟩
    · simp -implicitDefEqProofs only [ev_foc, ev_fo0, ev_app, ev_enm, ev_rs, ev_lc', ev_g0, ev_gc, ev_y, big, ev_bnd, ev_ret, ev_lfS, ev_lfN, ev_stk, ev_vr, ev_vrT, ev_mT, ev_cF, ev_cO, ev_cB, ev_dd, ev_ds, ev_d0, ev_dc, ev_opr, ev_unr, ev_nl, ev_cns, ev_cbr, ev_ab, ev_ai, ev_tst', ev_an, ev_orr, ev_nt, ev_anV, ev_orV', ev_ntV, ev_ifm, ev_ch, ev_tp, ev_ls, ev_cl, ev_cl0, ev_isr, ev_sqI, ev_sqL, ev_sqT, ev_sb, ev_ss, ev_sn, ev_sa, ev_so, ev_sr, ev_sdr, ev_si, ev_sp, ev_p0, ev_pF, ev_pT, ev_sf, ev_hn, ev_ht, ev_hc, ev_h0, ev_cal, ev_f1, ev_f2, ev_f3, ev_f4, ev_cmp, ev_add, ev_sub, ev_isn, ev_n1, ev_n2, ev_n3, ev_n4, ev_ixL, ev_ixT, ev_a0, ev_a1, ev_a2, ev_lL, ev_lT, ev_tL, ev_tT, ev_liT, ev_abs, ev_t1, ev_t2, ev_t3, ev_eqI, ev_neI, List.getElem?_cons_zero, List.getElem?_cons_succ, List.set_cons_zero, List.set_cons_succ, List.length_cons, List.length_nil, List.map_cons, List.map_nil, List.replicate_succ, List.replicate_zero, List.cons_append, List.nil_append, List.append_nil, Option.bind_some, Option.map_some, Nat.reduceAdd, Nat.reduceSub, Nat.reduceLT, Nat.reduceLeDiff, Nat.reduceEqDiff, if_true, if_false, reduceIte, Bool.false_eq_true, wipeR, restR, hM, hsw, m1, m2, m3, h1, e, decide_true, Bool.not_true]
    · have m4 := ev_mul p h (by rw [hh, Bool.or_true])
      have m5 := ev_mul g q (by rw [hq, Bool.or_true])
      simp -implicitDefEqProofs only [ev_foc, ev_fo0, ev_app, ev_enm, ev_rs, ev_lc', ev_g0, ev_gc, ev_y, big, ev_bnd, ev_ret, ev_lfS, ev_lfN, ev_stk, ev_vr, ev_vrT, ev_mT, ev_cF, ev_cO, ev_cB, ev_dd, ev_ds, ev_d0, ev_dc, ev_opr, ev_unr, ev_nl, ev_cns, ev_cbr, ev_ab, ev_ai, ev_tst', ev_an, ev_orr, ev_nt, ev_anV, ev_orV', ev_ntV, ev_ifm, ev_ch, ev_tp, ev_ls, ev_cl, ev_cl0, ev_isr, ev_sqI, ev_sqL, ev_sqT, ev_sb, ev_ss, ev_sn, ev_sa, ev_so, ev_sr, ev_sdr, ev_si, ev_sp, ev_p0, ev_pF, ev_pT, ev_sf, ev_hn, ev_ht, ev_hc, ev_h0, ev_cal, ev_f1, ev_f2, ev_f3, ev_f4, ev_cmp, ev_add, ev_sub, ev_isn, ev_n1, ev_n2, ev_n3, ev_n4, ev_ixL, ev_ixT, ev_a0, ev_a1, ev_a2, ev_lL, ev_lT, ev_tL, ev_tT, ev_liT, ev_abs, ev_t1, ev_t2, ev_t3, ev_eqI, ev_neI, List.getElem?_cons_zero, List.getElem?_cons_succ, List.set_cons_zero, List.set_cons_succ, List.length_cons, List.length_nil, List.map_cons, List.map_nil, List.replicate_succ, List.replicate_zero, List.cons_append, List.nil_append, List.append_nil, Option.bind_some, Option.map_some, Nat.reduceAdd, Nat.reduceSub, Nat.reduceLT, Nat.reduceLeDiff, Nat.reduceEqDiff, if_true, if_false, reduceIte, Bool.false_eq_true, wipeR, restR, hM, hsw, m1, m2, m3, m4, m5, h1, e, hn, decide_true, decide_false, Bool.not_true, Bool.not_false]
  · rcases hlast with rfl | ⟨g, h, rfl, hh, hn⟩
    · simp -implicitDefEqProofs only [ev_foc, ev_fo0, ev_app, ev_enm, ev_rs, ev_lc', ev_g0, ev_gc, ev_y, big, ev_bnd, ev_ret, ev_lfS, ev_lfN, ev_stk, ev_vr, ev_vrT, ev_mT, ev_cF, ev_cO, ev_cB, ev_dd, ev_ds, ev_d0, ev_dc, ev_opr, ev_unr, ev_nl, ev_cns, ev_cbr, ev_ab, ev_ai, ev_tst', ev_an, ev_orr, ev_nt, ev_anV, ev_orV', ev_ntV, ev_ifm, ev_ch, ev_tp, ev_ls, ev_cl, ev_cl0, ev_isr, ev_sqI, ev_sqL, ev_sqT, ev_sb, ev_ss, ev_sn, ev_sa, ev_so, ev_sr, ev_sdr, ev_si, ev_sp, ev_p0, ev_pF, ev_pT, ev_sf, ev_hn, ev_ht, ev_hc, ev_h0, ev_cal, ev_f1, ev_f2, ev_f3, ev_f4, ev_cmp, ev_add, ev_sub, ev_isn, ev_n1, ev_n2, ev_n3, ev_n4, ev_ixL, ev_ixT, ev_a0, ev_a1, ev_a2, ev_lL, ev_lT, ev_tL, ev_tT, ev_liT, ev_abs, ev_t1, ev_t2, ev_t3, ev_eqI, ev_neI, List.getElem?_cons_zero, List.getElem?_cons_succ, List.set_cons_zero, List.set_cons_succ, List.length_cons, List.length_nil, List.map_cons, List.map_nil, List.replicate_succ, List.replicate_zero, List.cons_append, List.nil_append, List.append_nil, Option.bind_some, Option.map_some, Nat.reduceAdd, Nat.reduceSub, Nat.reduceLT, Nat.reduceLeDiff, Nat.reduceEqDiff, if_true, if_false, reduceIte, Bool.false_eq_true, wipeR, restR, hM, hsw, m1, m2, m3, h1, e, decide_true, decide_false, Bool.not_true]
    · have m4 := ev_mul p h (by rw [hh, Bool.or_true])
      have m5 := ev_mul g q (by rw [hq, Bool.or_true])
      simp -implicitDefEqProofs only [ev_foc, ev_fo0, ev_app, ev_enm, ev_rs, ev_lc', ev_g0, ev_gc, ev_y, big, ev_bnd, ev_ret, ev_lfS, ev_lfN, ev_stk, ev_vr, ev_vrT, ev_mT, ev_cF, ev_cO, ev_cB, ev_dd, ev_ds, ev_d0, ev_dc, ev_opr, ev_unr, ev_nl, ev_cns, ev_cbr, ev_ab, ev_ai, ev_tst', ev_an, ev_orr, ev_nt, ev_anV, ev_orV', ev_ntV, ev_ifm, ev_ch, ev_tp, ev_ls, ev_cl, ev_cl0, ev_isr, ev_sqI, ev_sqL, ev_sqT, ev_sb, ev_ss, ev_sn, ev_sa, ev_so, ev_sr, ev_sdr, ev_si, ev_sp, ev_p0, ev_pF, ev_pT, ev_sf, ev_hn, ev_ht, ev_hc, ev_h0, ev_cal, ev_f1, ev_f2, ev_f3, ev_f4, ev_cmp, ev_add, ev_sub, ev_isn, ev_n1, ev_n2, ev_n3, ev_n4, ev_ixL, ev_ixT, ev_a0, ev_a1, ev_a2, ev_lL, ev_lT, ev_tL, ev_tT, ev_liT, ev_abs, ev_t1, ev_t2, ev_t3, ev_eqI, ev_neI, List.getElem?_cons_zero, List.getElem?_cons_succ, List.set_cons_zero, List.set_cons_succ, List.length_cons, List.length_nil, List.map_cons, List.map_nil, List.replicate_succ, List.replicate_zero, List.cons_append, List.nil_append, List.append_nil, Option.bind_some, Option.map_some, Nat.reduceAdd, Nat.reduceSub, Nat.reduceLT, Nat.reduceLeDiff, Nat.reduceEqDiff, if_true, if_false, reduceIte, Bool.false_eq_true, wipeR, restR, hM, hsw, m1, m2, m3, m4, m5, h1, e, hn, decide_true, decide_false, Bool.not_true, Bool.not_false]
end Rn
end

section
set_option Elab.async false
set_option linter.all false
set_option maxRecDepth 100000
set_option maxHeartbeats 4000000
namespace Rn
open PySem PySem.Spec L2
abbrev w1 : S := sPar [false, false, false] [2, 3, 4] (mCons (mCallB (noEx c__law_roll) 1 (mCons (ret (.int 10)) (mNil))) (mCons (mCallB (noEx c__law_roll) 1 (mCons (ret (.int 10)) (mNil))) (mCons (mCallB (noEx c__law_roll) 1 (mCons (ret (.int 10)) (mNil))) (mNil))))
abbrev w2 : S := sAsg (mTup (mCons (ret (.int 0)) (mCons (mTup (mCons (mTup (mCons (mTup (mCons (ret (.str "s")) (mCons (ret (.int 0)) (mCons (ret (.int 0)) (mNil))))) (mCons (mTup (mCons (ret (.str "e0")) (mCons (mVar 2) (mCons (ret (.int 1)) (mNil))))) (mNil)))) (mCons (mTup (mCons (mTup (mCons (ret (.str "e0")) (mCons (mVar 4) (mCons (ret (.int 0)) (mNil))))) (mCons (mTup (mCons (ret (.str "e1")) (mCons (mVar 3) (mCons (ret (.int 1)) (mNil))))) (mNil)))) (mNil)))) (mCons (mTup (mCons (ret (.int 1)) (mNil))) (mNil))))) (hName 5)
abbrev w3 : S := sIf (mOr (mTst (mOp neF (mT (mCall g_slowest (mCons (mVar 5) (mNil)))) (mT (mTup (mCons (mCB max2F (mCons (mVarT 2) (mCons (mVarT 3) (mNil)))) (mCons (ret (.int 1)) (mNil))))))) (mOr (mTst (mOp neF (mT (mCall g_pace (mCons (mVar 5) (mCons (ret (.int 1)) (mNil))))) (mT (mTup (mCons (mCB max2F (mCons (mVarT 2) (mCons (mVarT 3) (mNil)))) (mCons (ret (.int 1)) (mNil))))))) (mTst (mOp neF (mT (mCall g_pace (mCons (mVar 5) (mCons (ret (.int 0)) (mNil))))) (mT (mTup (mCons (mVar 2) (mCons (ret (.int 1)) (mNil))))))))) (sRet (ret (.bool false))) (sNext)
abbrev w4 : S := sAsg (ret .none) (hName 6)
abbrev w5 : S := sFor (mRng2 (mCons (ret (.int 1)) (mCons (ret (.int 7)) (mNil)))) (hName 7) (sSeq (sAsg (mCall g_slowest_with (mCons (mVar 5) (mCons (mTup (mCons (mTup (mCons (ret (.int 0)) (mCons (ret (.int 1)) (mNil)))) (mNil))) (mCons (mTup (mCons (mVar 7) (mNil))) (mNil))))) (hName 12))
 (sSeq (sAsg (mIf (mTst (mOp gtF (mVarT 4) (mT (mOp mulF (mT (mCB max2F (mCons (mVarT 2) (mCons (mVarT 3) (mNil))))) (mVarT 7))))) (mTup (mCons (mVar 4) (mCons (mVar 7) (mNil)))) (mTup (mCons (mCB max2F (mCons (mVarT 2) (mCons (mVarT 3) (mNil)))) (mCons (ret (.int 1)) (mNil))))) (hTup 2 (hCons (hName 13) (hCons (hName 14) (hNil)))))
 (sSeq (sIf (mTst (mOp neF (mT (mOp mulF (mT (mOp ixF (mVarT 12) (mT (ret (.int 0))))) (mVarT 14))) (mT (mOp mulF (mVarT 13) (mT (mOp ixF (mVarT 12) (mT (ret (.int 1))))))))) (sRet (ret (.bool false))) (sNext))
 (sSeq (sIf (mAnd (mTst (mOp (isF true) (mVarT 6) (mT (ret .none)))) (mTst (mOp gtF (mT (mOp mulF (mT (mOp ixF (mVarT 12) (mT (ret (.int 0))))) (mT (mOp ixF (mVarT 6) (mT (ret (.int 1))))))) (mT (mOp mulF (mT (mOp ixF (mVarT 6) (mT (ret (.int 0))))) (mT (mOp ixF (mVarT 12) (mT (ret (.int 1)))))))))) (sRet (ret (.bool false))) (sNext))
 (sAsg (mVar 12) (hName 6))))))
abbrev w6 : S := sAsg (mTup (mCons (mOp addF (mT (mCB max3F (mCons (mVarT 2) (mCons (mVarT 3) (mCons (mT (ret (.int 1))) (mNil)))))) (mT (mCallB (noEx c__law_roll) 1 (mCons (ret (.int 3)) (mNil))))) (mCons (ret (.int 1)) (mNil)))) (hName 8)
abbrev w7 : S := sAsg (mCB max2F (mCons (mT (ret (.int 1))) (mCons (mT (mOp fdivF (mT (mOp subF (mT (mOp addF (mVarT 4) (mT (mOp ixF (mVarT 8) (mT (ret (.int 0))))))) (mT (ret (.int 1))))) (mT (mOp ixF (mVarT 8) (mT (ret (.int 0))))))) (mNil)))) (hName 7)
abbrev w8 : S := sAsg (mIf (mTst (mOp leF (mVarT 7) (mT (ret (.int 6))))) (mTup (mCons (mTup (mCons (mVar 7) (mNil))) (mNil))) (mTup (mNil))) (hName 9)
abbrev w9 : S := sIf (mTst (mOp neF (mT (mCall g_least_rooms (mCons (mVar 5) (mCons (mTup (mCons (mTup (mCons (ret (.int 0)) (mCons (ret (.int 1)) (mNil)))) (mNil))) (mCons (mVar 8) (mNil)))))) (mVarT 9))) (sRet (ret (.bool false))) (sNext)
abbrev w10 : S := sAsg (mCall g_least_rooms (mCons (mVar 5) (mCons (mTup (mCons (mTup (mCons (ret (.int 0)) (mCons (ret (.int 1)) (mNil)))) (mCons (mTup (mCons (ret (.int 0)) (mCons (ret (.int 1)) (mNil)))) (mNil)))) (mCons (mVar 8) (mNil))))) (hName 10)
abbrev w11 : S := sIf (mTst (mOp neF (mVarT 10) (mT (mIf (mTst (mOp leF (mVarT 7) (mT (ret (.int 6))))) (mTup (mCons (mTup (mCons (mVar 7) (mCons (mVar 7) (mNil)))) (mNil))) (mTup (mNil)))))) (sRet (ret (.bool false))) (sNext)
abbrev w12 : S := sIf (mAnd (mTst (mOp gtF (mT (mCB max2F (mCons (mVarT 2) (mCons (mVarT 3) (mNil))))) (mT (ret (.int 0))))) (mTst (mOp neF (mT (mCall g_least_rooms (mCons (mVar 5) (mCons (mTup (mCons (mTup (mCons (ret (.int 0)) (mCons (ret (.int 1)) (mNil)))) (mNil))) (mCons (mTup (mCons (mOp subF (mT (mCB max2F (mCons (mVarT 2) (mCons (mVarT 3) (mNil))))) (mT (ret (.int 1)))) (mCons (ret (.int 1)) (mNil)))) (mNil)))))) (mT (mTup (mNil)))))) (sRet (ret (.bool false))) (sNext)
abbrev w13 : S := sAsg (mCall g_slowest_with (mCons (mVar 5) (mCons (mTup (mCons (mTup (mCons (ret (.int 0)) (mCons (ret (.int 0)) (mNil)))) (mNil))) (mCons (mTup (mCons (ret (.int 2)) (mNil))) (mNil))))) (hName 11)
abbrev w14 : S := sIf (mTst (mOp neF (mVarT 11) (mT (mTup (mCons (mCB max2F (mCons (mVarT 2) (mCons (mVarT 3) (mNil)))) (mCons (ret (.int 1)) (mNil))))))) (sRet (ret (.bool false))) (sNext)
theorem law_is : b_law = sSeq w1 (sSeq w2 (sSeq w3 (sSeq w4 (sSeq w5 (sSeq w6 (sSeq w7 (sSeq w8 (sSeq w9 (sSeq w10 (sSeq w11 (sSeq w12 (sSeq w13 (w14))))))))))))) := rfl

theorem ne_self {d : D} (h : dOk d d = true) (hp : d.plain = true) : neF d d = some (.bool false) := by
  unfold neF
  rw [if_pos h, PySem.SeqAt.eqv_refl_plain d hp]
  rfl
theorem ev_clB (g : D → List D → RB) (i : Nat) (fa : M (List D)) (r : Rho) : mCallB g i fa r = (match cellD r[i]? with
  | some _ => bnd fa (fun ds => fun ρ => match cellD ρ[i]? with
    | some d0 => (match g d0 ds with
      | .ok d d1 => (match putCell ρ i d1 with
        | some r => .ok d r
        | none => .no)
      | .ex c d1 => (match putCell ρ i d1 with
        | some r => .ex c r
        | none => .no)
      | .no => .no)
    | none => .no) r
  | none => .no) := rfl
theorem pcB (x0 : Cell) (d d' : D) (l : List Cell) : putCell (x0 :: .bw d :: l) 1 d' = some (x0 :: .bw d' :: l) := rfl
theorem v1 (g : D → List D → RB) (D0 D1 D2 D3 a b d : D) (h1 : g D0 [.int 10] = .ok a D1) (h2 : g D1 [.int 10] = .ok b D2) (h3 : g D2 [.int 10] = .ok d D3) :
    (sPar [false, false, false] [2, 3, 4] (mCons (mCallB g 1 (mCons (ret (.int 10)) (mNil))) (mCons (mCallB g 1 (mCons (ret (.int 10)) (mNil))) (mCons (mCallB g 1 (mCons (ret (.int 10)) (mNil))) (mNil))))) [.no, .bw D0, .no, .no, .no, .no, .no, .no, .no, .no, .no, .no, .no, .no, .no]
      = .nx [.no, .bw D3, .fz a, .fz b, .fz d, .no, .no, .no, .no, .no, .no, .no, .no, .no, .no] := by
  simp -implicitDefEqProofs only [ev_foc, ev_fo0, ev_app, ev_enm, ev_rs, ev_lc', ev_g0, ev_gc, ev_y, big, ev_bnd, ev_ret, ev_lfS, ev_lfN, ev_stk, ev_vr, ev_vrT, ev_mT, ev_cF, ev_cO, ev_cB, ev_dd, ev_ds, ev_d0, ev_dc, ev_opr, ev_unr, ev_nl, ev_cns, ev_cbr, ev_ab, ev_ai, ev_tst', ev_an, ev_orr, ev_nt, ev_anV, ev_orV', ev_ntV, ev_ifm, ev_ch, ev_tp, ev_ls, ev_cl, ev_cl0, ev_isr, ev_sqI, ev_sqL, ev_sqT, ev_sb, ev_ss, ev_sn, ev_sa, ev_so, ev_sr, ev_sdr, ev_si, ev_sp, ev_p0, ev_pF, ev_pT, ev_sf, ev_hn, ev_ht, ev_hc, ev_h0, ev_cal, ev_f1, ev_f2, ev_f3, ev_f4, ev_cmp, ev_add, ev_sub, ev_mod, ev_fdv, ev_isn, ev_n1, ev_n2, ev_n3, ev_n4, ev_ixL, ev_ixT, ev_a0, ev_a1, ev_a2, ev_lL, ev_lT, ev_tL, ev_tT, ev_liT, ev_abs, ev_mx, ev_mn, ev_mx3, ev_t1, ev_t2, ev_t3, ev_eqI, ev_neI, List.getElem?_cons_zero, List.getElem?_cons_succ, List.set_cons_zero, List.set_cons_succ, List.length_cons, List.length_nil, List.map_cons, List.map_nil, List.replicate_succ, List.replicate_zero, List.cons_append, List.nil_append, List.append_nil, Option.bind_some, Option.map_some, Nat.reduceAdd, Nat.reduceSub, Nat.reduceLT, Nat.reduceLeDiff, Nat.reduceEqDiff, if_true, if_false, reduceIte, Bool.false_eq_true, wipeR, restR, ev_clB, pcB, h1, h2, h3]
section
variable (DC : Cell) (A B N : D) (a b d : Nat)
theorem v2 : w2 [.no, DC, .fz (I a), .fz (I b), .fz (I d), .no, .no, .no, .no, .no, .no, .no, .no, .no, .no] = .nx [.no, DC, .fz (I a), .fz (I b), .fz (I d), .fz (net a b d), .no, .no, .no, .no, .no, .no, .no, .no, .no] := rfl
theorem v3 (X : D) (M : Int) (hM : max2F [A, B] = some (.int M)) (h1 : g_slowest [N] = .ok (T [.int M, .int 1])) (h2 : g_pace [N, .int 1] = .ok (T [.int M, .int 1])) (h3 : g_pace [N, .int 0] = .ok (T [A, .int 1])) (hn1 : neF (T [.int M, .int 1]) (T [.int M, .int 1]) = some (.bool false)) (hn2 : neF (T [A, .int 1]) (T [A, .int 1]) = some (.bool false)) :
    w3 [.no, DC, .fz A, .fz B, .fz X, .fz N, .no, .no, .no, .no, .no, .no, .no, .no, .no] = .nx [.no, DC, .fz A, .fz B, .fz X, .fz N, .no, .no, .no, .no, .no, .no, .no, .no, .no] := by
  simp -implicitDefEqProofs only [ev_foc, ev_fo0, ev_app, ev_enm, ev_rs, ev_lc', ev_g0, ev_gc, ev_y, big, ev_bnd, ev_ret, ev_lfS, ev_lfN, ev_stk, ev_vr, ev_vrT, ev_mT, ev_cF, ev_cO, ev_cB, ev_dd, ev_ds, ev_d0, ev_dc, ev_opr, ev_unr, ev_nl, ev_cns, ev_cbr, ev_ab, ev_ai, ev_tst', ev_an, ev_orr, ev_nt, ev_anV, ev_orV', ev_ntV, ev_ifm, ev_ch, ev_tp, ev_ls, ev_cl, ev_cl0, ev_isr, ev_sqI, ev_sqL, ev_sqT, ev_sb, ev_ss, ev_sn, ev_sa, ev_so, ev_sr, ev_sdr, ev_si, ev_sp, ev_p0, ev_pF, ev_pT, ev_sf, ev_hn, ev_ht, ev_hc, ev_h0, ev_cal, ev_f1, ev_f2, ev_f3, ev_f4, ev_cmp, ev_add, ev_sub, ev_isn, ev_n1, ev_n2, ev_n3, ev_n4, ev_ixL, ev_ixT, ev_a0, ev_a1, ev_a2, ev_lL, ev_lT, ev_tL, ev_tT, ev_liT, ev_abs, ev_t1, ev_t2, ev_t3, ev_eqI, ev_neI, List.getElem?_cons_zero, List.getElem?_cons_succ, List.set_cons_zero, List.set_cons_succ, List.length_cons, List.length_nil, List.map_cons, List.map_nil, List.replicate_succ, List.replicate_zero, List.cons_append, List.nil_append, List.append_nil, Option.bind_some, Option.map_some, Nat.reduceAdd, Nat.reduceSub, Nat.reduceLT, Nat.reduceLeDiff, Nat.reduceEqDiff, if_true, if_false, reduceIte, Bool.false_eq_true, wipeR, restR, hM, h1, h2, h3, hn1, hn2]
theorem v4 (X : D) : w4 [.no, DC, .fz A, .fz B, .fz X, .fz N, .no, .no, .no, .no, .no, .no, .no, .no, .no] = .nx [.no, DC, .fz A, .fz B, .fz X, .fz N, .fz .none, .no, .no, .no, .no, .no, .no, .no, .no] := rfl
theorem v6 (g : D → List D → RB) (x0 c6 c7 c9 c10 c11 c12 c13 c14 : Cell) (D3 D4 X : D) (M k : Int) (hM : max3F [A, B, .int 1] = some (.int M)) (h : g D3 [.int 3] = .ok (.int k) D4) :
    (sAsg (mTup (mCons (mOp addF (mT (mCB max3F (mCons (mVarT 2) (mCons (mVarT 3) (mCons (mT (ret (.int 1))) (mNil)))))) (mT (mCallB g 1 (mCons (ret (.int 3)) (mNil))))) (mCons (ret (.int 1)) (mNil)))) (hName 8)) [x0, .bw D3, .fz A, .fz B, .fz X, .fz N, c6, c7, .no, c9, c10, c11, c12, c13, c14]
      = .nx [x0, .bw D4, .fz A, .fz B, .fz X, .fz N, c6, c7, .fz (T [.int (M + k), .int 1]), c9, c10, c11, c12, c13, c14] := by
  simp -implicitDefEqProofs only [ev_foc, ev_fo0, ev_app, ev_enm, ev_rs, ev_lc', ev_g0, ev_gc, ev_y, big, ev_bnd, ev_ret, ev_lfS, ev_lfN, ev_stk, ev_vr, ev_vrT, ev_mT, ev_cF, ev_cO, ev_cB, ev_dd, ev_ds, ev_d0, ev_dc, ev_opr, ev_unr, ev_nl, ev_cns, ev_cbr, ev_ab, ev_ai, ev_tst', ev_an, ev_orr, ev_nt, ev_anV, ev_orV', ev_ntV, ev_ifm, ev_ch, ev_tp, ev_ls, ev_cl, ev_cl0, ev_isr, ev_sqI, ev_sqL, ev_sqT, ev_sb, ev_ss, ev_sn, ev_sa, ev_so, ev_sr, ev_sdr, ev_si, ev_sp, ev_p0, ev_pF, ev_pT, ev_sf, ev_hn, ev_ht, ev_hc, ev_h0, ev_cal, ev_f1, ev_f2, ev_f3, ev_f4, ev_cmp, ev_add, ev_sub, ev_isn, ev_n1, ev_n2, ev_n3, ev_n4, ev_ixL, ev_ixT, ev_a0, ev_a1, ev_a2, ev_lL, ev_lT, ev_tL, ev_tT, ev_liT, ev_abs, ev_t1, ev_t2, ev_t3, ev_eqI, ev_neI, List.getElem?_cons_zero, List.getElem?_cons_succ, List.set_cons_zero, List.set_cons_succ, List.length_cons, List.length_nil, List.map_cons, List.map_nil, List.replicate_succ, List.replicate_zero, List.cons_append, List.nil_append, List.append_nil, Option.bind_some, Option.map_some, Nat.reduceAdd, Nat.reduceSub, Nat.reduceLT, Nat.reduceLeDiff, Nat.reduceEqDiff, if_true, if_false, reduceIte, Bool.false_eq_true, wipeR, restR, ev_clB, pcB, hM, h]
theorem v7 (x0 c6 c7 c9 c10 c11 c12 c13 c14 : Cell) (X p t : Int) (hf : fdivF (.int (X + p - 1)) (.int p) = some (.int t)) (t2 : Int) (hm : max2F [.int 1, .int t] = some (.int t2)) :
    w7 [x0, DC, .fz A, .fz B, .fz (.int X), .fz N, c6, c7, .fz (T [.int p, .int 1]), c9, c10, c11, c12, c13, c14] = .nx [x0, DC, .fz A, .fz B, .fz (.int X), .fz N, c6, .fz (.int t2), .fz (T [.int p, .int 1]), c9, c10, c11, c12, c13, c14] := by
  simp -implicitDefEqProofs only [ev_foc, ev_fo0, ev_app, ev_enm, ev_rs, ev_lc', ev_g0, ev_gc, ev_y, big, ev_bnd, ev_ret, ev_lfS, ev_lfN, ev_stk, ev_vr, ev_vrT, ev_mT, ev_cF, ev_cO, ev_cB, ev_dd, ev_ds, ev_d0, ev_dc, ev_opr, ev_unr, ev_nl, ev_cns, ev_cbr, ev_ab, ev_ai, ev_tst', ev_an, ev_orr, ev_nt, ev_anV, ev_orV', ev_ntV, ev_ifm, ev_ch, ev_tp, ev_ls, ev_cl, ev_cl0, ev_isr, ev_sqI, ev_sqL, ev_sqT, ev_sb, ev_ss, ev_sn, ev_sa, ev_so, ev_sr, ev_sdr, ev_si, ev_sp, ev_p0, ev_pF, ev_pT, ev_sf, ev_hn, ev_ht, ev_hc, ev_h0, ev_cal, ev_f1, ev_f2, ev_f3, ev_f4, ev_cmp, ev_add, ev_sub, ev_isn, ev_n1, ev_n2, ev_n3, ev_n4, ev_ixL, ev_ixT, ev_a0, ev_a1, ev_a2, ev_lL, ev_lT, ev_tL, ev_tT, ev_liT, ev_abs, ev_t1, ev_t2, ev_t3, ev_eqI, ev_neI, List.getElem?_cons_zero, List.getElem?_cons_succ, List.set_cons_zero, List.set_cons_succ, List.length_cons, List.length_nil, List.map_cons, List.map_nil, List.replicate_succ, List.replicate_zero, List.cons_append, List.nil_append, List.append_nil, Option.bind_some, Option.map_some, Nat.reduceAdd, Nat.reduceSub, Nat.reduceLT, Nat.reduceLeDiff, Nat.reduceEqDiff, if_true, if_false, reduceIte, Bool.false_eq_true, wipeR, restR, hf, hm]
theorem v8 (x0 c6 c9 c10 c11 c12 c13 c14 : Cell) (X P : D) (t : Int) :
    w8 [x0, DC, .fz A, .fz B, .fz X, .fz N, c6, .fz (.int t), .fz P, c9, c10, c11, c12, c13, c14] = .nx [x0, DC, .fz A, .fz B, .fz X, .fz N, c6, .fz (.int t), .fz P, .fz (T (if t ≤ 6 then [T [.int t]] else [])), c10, c11, c12, c13, c14] := by
  by_cases h : t ≤ 6 <;> simp -implicitDefEqProofs only [ev_foc, ev_fo0, ev_app, ev_enm, ev_rs, ev_lc', ev_g0, ev_gc, ev_y, big, ev_bnd, ev_ret, ev_lfS, ev_lfN, ev_stk, ev_vr, ev_vrT, ev_mT, ev_cF, ev_cO, ev_cB, ev_dd, ev_ds, ev_d0, ev_dc, ev_opr, ev_unr, ev_nl, ev_cns, ev_cbr, ev_ab, ev_ai, ev_tst', ev_an, ev_orr, ev_nt, ev_anV, ev_orV', ev_ntV, ev_ifm, ev_ch, ev_tp, ev_ls, ev_cl, ev_cl0, ev_isr, ev_sqI, ev_sqL, ev_sqT, ev_sb, ev_ss, ev_sn, ev_sa, ev_so, ev_sr, ev_sdr, ev_si, ev_sp, ev_p0, ev_pF, ev_pT, ev_sf, ev_hn, ev_ht, ev_hc, ev_h0, ev_cal, ev_f1, ev_f2, ev_f3, ev_f4, ev_cmp, ev_add, ev_sub, ev_isn, ev_n1, ev_n2, ev_n3, ev_n4, ev_ixL, ev_ixT, ev_a0, ev_a1, ev_a2, ev_lL, ev_lT, ev_tL, ev_tT, ev_liT, ev_abs, ev_t1, ev_t2, ev_t3, ev_eqI, ev_neI, List.getElem?_cons_zero, List.getElem?_cons_succ, List.set_cons_zero, List.set_cons_succ, List.length_cons, List.length_nil, List.map_cons, List.map_nil, List.replicate_succ, List.replicate_zero, List.cons_append, List.nil_append, List.append_nil, Option.bind_some, Option.map_some, Nat.reduceAdd, Nat.reduceSub, Nat.reduceLT, Nat.reduceLeDiff, Nat.reduceEqDiff, if_true, if_false, reduceIte, Bool.false_eq_true, wipeR, restR, h, decide_true, decide_false]
theorem v9 (x0 c6 c10 c11 c12 c13 c14 : Cell) (X P due : D) (t : Int) (h : g_least_rooms [N, st1, P] = .ok due) (hn : neF due due = some (.bool false)) :
    w9 [x0, DC, .fz A, .fz B, .fz X, .fz N, c6, .fz (.int t), .fz P, .fz due, c10, c11, c12, c13, c14] = .nx [x0, DC, .fz A, .fz B, .fz X, .fz N, c6, .fz (.int t), .fz P, .fz due, c10, c11, c12, c13, c14] := by
  simp -implicitDefEqProofs only [ev_foc, ev_fo0, ev_app, ev_enm, ev_rs, ev_lc', ev_g0, ev_gc, ev_y, big, ev_bnd, ev_ret, ev_lfS, ev_lfN, ev_stk, ev_vr, ev_vrT, ev_mT, ev_cF, ev_cO, ev_cB, ev_dd, ev_ds, ev_d0, ev_dc, ev_opr, ev_unr, ev_nl, ev_cns, ev_cbr, ev_ab, ev_ai, ev_tst', ev_an, ev_orr, ev_nt, ev_anV, ev_orV', ev_ntV, ev_ifm, ev_ch, ev_tp, ev_ls, ev_cl, ev_cl0, ev_isr, ev_sqI, ev_sqL, ev_sqT, ev_sb, ev_ss, ev_sn, ev_sa, ev_so, ev_sr, ev_sdr, ev_si, ev_sp, ev_p0, ev_pF, ev_pT, ev_sf, ev_hn, ev_ht, ev_hc, ev_h0, ev_cal, ev_f1, ev_f2, ev_f3, ev_f4, ev_cmp, ev_add, ev_sub, ev_isn, ev_n1, ev_n2, ev_n3, ev_n4, ev_ixL, ev_ixT, ev_a0, ev_a1, ev_a2, ev_lL, ev_lT, ev_tL, ev_tT, ev_liT, ev_abs, ev_t1, ev_t2, ev_t3, ev_eqI, ev_neI, List.getElem?_cons_zero, List.getElem?_cons_succ, List.set_cons_zero, List.set_cons_succ, List.length_cons, List.length_nil, List.map_cons, List.map_nil, List.replicate_succ, List.replicate_zero, List.cons_append, List.nil_append, List.append_nil, Option.bind_some, Option.map_some, Nat.reduceAdd, Nat.reduceSub, Nat.reduceLT, Nat.reduceLeDiff, Nat.reduceEqDiff, if_true, if_false, reduceIte, Bool.false_eq_true, wipeR, restR, h, hn]
theorem v10 (x0 c6 c10 c11 c12 c13 c14 : Cell) (X P due two : D) (t : Int) (h : g_least_rooms [N, st2, P] = .ok two) :
    w10 [x0, DC, .fz A, .fz B, .fz X, .fz N, c6, .fz (.int t), .fz P, .fz due, c10, c11, c12, c13, c14] = .nx [x0, DC, .fz A, .fz B, .fz X, .fz N, c6, .fz (.int t), .fz P, .fz due, .fz two, c11, c12, c13, c14] := by
  simp -implicitDefEqProofs only [ev_foc, ev_fo0, ev_app, ev_enm, ev_rs, ev_lc', ev_g0, ev_gc, ev_y, big, ev_bnd, ev_ret, ev_lfS, ev_lfN, ev_stk, ev_vr, ev_vrT, ev_mT, ev_cF, ev_cO, ev_cB, ev_dd, ev_ds, ev_d0, ev_dc, ev_opr, ev_unr, ev_nl, ev_cns, ev_cbr, ev_ab, ev_ai, ev_tst', ev_an, ev_orr, ev_nt, ev_anV, ev_orV', ev_ntV, ev_ifm, ev_ch, ev_tp, ev_ls, ev_cl, ev_cl0, ev_isr, ev_sqI, ev_sqL, ev_sqT, ev_sb, ev_ss, ev_sn, ev_sa, ev_so, ev_sr, ev_sdr, ev_si, ev_sp, ev_p0, ev_pF, ev_pT, ev_sf, ev_hn, ev_ht, ev_hc, ev_h0, ev_cal, ev_f1, ev_f2, ev_f3, ev_f4, ev_cmp, ev_add, ev_sub, ev_isn, ev_n1, ev_n2, ev_n3, ev_n4, ev_ixL, ev_ixT, ev_a0, ev_a1, ev_a2, ev_lL, ev_lT, ev_tL, ev_tT, ev_liT, ev_abs, ev_t1, ev_t2, ev_t3, ev_eqI, ev_neI, List.getElem?_cons_zero, List.getElem?_cons_succ, List.set_cons_zero, List.set_cons_succ, List.length_cons, List.length_nil, List.map_cons, List.map_nil, List.replicate_succ, List.replicate_zero, List.cons_append, List.nil_append, List.append_nil, Option.bind_some, Option.map_some, Nat.reduceAdd, Nat.reduceSub, Nat.reduceLT, Nat.reduceLeDiff, Nat.reduceEqDiff, if_true, if_false, reduceIte, Bool.false_eq_true, wipeR, restR, h]
theorem v11 (x0 c6 c11 c12 c13 c14 : Cell) (X P due two : D) (t : Int) (e : two = T (if t ≤ 6 then [T [.int t, .int t]] else [])) (hn : neF two two = some (.bool false)) :
    w11 [x0, DC, .fz A, .fz B, .fz X, .fz N, c6, .fz (.int t), .fz P, .fz due, .fz two, c11, c12, c13, c14] = .nx [x0, DC, .fz A, .fz B, .fz X, .fz N, c6, .fz (.int t), .fz P, .fz due, .fz two, c11, c12, c13, c14] := by
  by_cases h : t ≤ 6
  · rw [if_pos h] at e
    subst e
    simp -implicitDefEqProofs only [ev_foc, ev_fo0, ev_app, ev_enm, ev_rs, ev_lc', ev_g0, ev_gc, ev_y, big, ev_bnd, ev_ret, ev_lfS, ev_lfN, ev_stk, ev_vr, ev_vrT, ev_mT, ev_cF, ev_cO, ev_cB, ev_dd, ev_ds, ev_d0, ev_dc, ev_opr, ev_unr, ev_nl, ev_cns, ev_cbr, ev_ab, ev_ai, ev_tst', ev_an, ev_orr, ev_nt, ev_anV, ev_orV', ev_ntV, ev_ifm, ev_ch, ev_tp, ev_ls, ev_cl, ev_cl0, ev_isr, ev_sqI, ev_sqL, ev_sqT, ev_sb, ev_ss, ev_sn, ev_sa, ev_so, ev_sr, ev_sdr, ev_si, ev_sp, ev_p0, ev_pF, ev_pT, ev_sf, ev_hn, ev_ht, ev_hc, ev_h0, ev_cal, ev_f1, ev_f2, ev_f3, ev_f4, ev_cmp, ev_add, ev_sub, ev_isn, ev_n1, ev_n2, ev_n3, ev_n4, ev_ixL, ev_ixT, ev_a0, ev_a1, ev_a2, ev_lL, ev_lT, ev_tL, ev_tT, ev_liT, ev_abs, ev_t1, ev_t2, ev_t3, ev_eqI, ev_neI, List.getElem?_cons_zero, List.getElem?_cons_succ, List.set_cons_zero, List.set_cons_succ, List.length_cons, List.length_nil, List.map_cons, List.map_nil, List.replicate_succ, List.replicate_zero, List.cons_append, List.nil_append, List.append_nil, Option.bind_some, Option.map_some, Nat.reduceAdd, Nat.reduceSub, Nat.reduceLT, Nat.reduceLeDiff, Nat.reduceEqDiff, if_true, if_false, reduceIte, Bool.false_eq_true, wipeR, restR, h, decide_true, hn]
  · rw [if_neg h] at e
    subst e
    simp -implicitDefEqProofs only [ev_foc, ev_fo0, ev_app, ev_enm, ev_rs, ev_lc', ev_g0, ev_gc, ev_y, big, ev_bnd, ev_ret, ev_lfS, ev_lfN, ev_stk, ev_vr, ev_vrT, ev_mT, ev_cF, ev_cO, ev_cB, ev_dd, ev_ds, ev_d0, ev_dc, ev_opr, ev_unr, ev_nl, ev_cns, ev_cbr, ev_ab, ev_ai, ev_tst', ev_an, ev_orr, ev_nt, ev_anV, ev_orV', ev_ntV, ev_ifm, ev_ch, ev_tp, ev_ls, ev_cl, ev_cl0, ev_isr, ev_sqI, ev_sqL, ev_sqT, ev_sb, ev_ss, ev_sn, ev_sa, ev_so, ev_sr, ev_sdr, ev_si, ev_sp, ev_p0, ev_pF, ev_pT, ev_sf, ev_hn, ev_ht, ev_hc, ev_h0, ev_cal, ev_f1, ev_f2, ev_f3, ev_f4, ev_cmp, ev_add, ev_sub, ev_isn, ev_n1, ev_n2, ev_n3, ev_n4, ev_ixL, ev_ixT, ev_a0, ev_a1, ev_a2, ev_lL, ev_lT, ev_tL, ev_tT, ev_liT, ev_abs, ev_t1, ev_t2, ev_t3, ev_eqI, ev_neI, List.getElem?_cons_zero, List.getElem?_cons_succ, List.set_cons_zero, List.set_cons_succ, List.length_cons, List.length_nil, List.map_cons, List.map_nil, List.replicate_succ, List.replicate_zero, List.cons_append, List.nil_append, List.append_nil, Option.bind_some, Option.map_some, Nat.reduceAdd, Nat.reduceSub, Nat.reduceLT, Nat.reduceLeDiff, Nat.reduceEqDiff, if_true, if_false, reduceIte, Bool.false_eq_true, wipeR, restR, h, decide_false, hn]
theorem v12 (x0 c6 c7 c8 c9 c10 c11 c12 c13 c14 : Cell) (X : D) (M : Int) (hM : max2F [A, B] = some (.int M)) (h : 0 < M → g_least_rooms [N, st1, T [.int (M - 1), .int 1]] = .ok (T [])) (hn : neF (T []) (T []) = some (.bool false)) :
    w12 [x0, DC, .fz A, .fz B, .fz X, .fz N, c6, c7, c8, c9, c10, c11, c12, c13, c14] = .nx [x0, DC, .fz A, .fz B, .fz X, .fz N, c6, c7, c8, c9, c10, c11, c12, c13, c14] := by
  by_cases h0 : 0 < M
  · have h' := h h0
    simp -implicitDefEqProofs only [ev_foc, ev_fo0, ev_app, ev_enm, ev_rs, ev_lc', ev_g0, ev_gc, ev_y, big, ev_bnd, ev_ret, ev_lfS, ev_lfN, ev_stk, ev_vr, ev_vrT, ev_mT, ev_cF, ev_cO, ev_cB, ev_dd, ev_ds, ev_d0, ev_dc, ev_opr, ev_unr, ev_nl, ev_cns, ev_cbr, ev_ab, ev_ai, ev_tst', ev_an, ev_orr, ev_nt, ev_anV, ev_orV', ev_ntV, ev_ifm, ev_ch, ev_tp, ev_ls, ev_cl, ev_cl0, ev_isr, ev_sqI, ev_sqL, ev_sqT, ev_sb, ev_ss, ev_sn, ev_sa, ev_so, ev_sr, ev_sdr, ev_si, ev_sp, ev_p0, ev_pF, ev_pT, ev_sf, ev_hn, ev_ht, ev_hc, ev_h0, ev_cal, ev_f1, ev_f2, ev_f3, ev_f4, ev_cmp, ev_add, ev_sub, ev_isn, ev_n1, ev_n2, ev_n3, ev_n4, ev_ixL, ev_ixT, ev_a0, ev_a1, ev_a2, ev_lL, ev_lT, ev_tL, ev_tT, ev_liT, ev_abs, ev_t1, ev_t2, ev_t3, ev_eqI, ev_neI, List.getElem?_cons_zero, List.getElem?_cons_succ, List.set_cons_zero, List.set_cons_succ, List.length_cons, List.length_nil, List.map_cons, List.map_nil, List.replicate_succ, List.replicate_zero, List.cons_append, List.nil_append, List.append_nil, Option.bind_some, Option.map_some, Nat.reduceAdd, Nat.reduceSub, Nat.reduceLT, Nat.reduceLeDiff, Nat.reduceEqDiff, if_true, if_false, reduceIte, Bool.false_eq_true, wipeR, restR, hM, h0, h', hn, decide_true]
  · simp -implicitDefEqProofs only [ev_foc, ev_fo0, ev_app, ev_enm, ev_rs, ev_lc', ev_g0, ev_gc, ev_y, big, ev_bnd, ev_ret, ev_lfS, ev_lfN, ev_stk, ev_vr, ev_vrT, ev_mT, ev_cF, ev_cO, ev_cB, ev_dd, ev_ds, ev_d0, ev_dc, ev_opr, ev_unr, ev_nl, ev_cns, ev_cbr, ev_ab, ev_ai, ev_tst', ev_an, ev_orr, ev_nt, ev_anV, ev_orV', ev_ntV, ev_ifm, ev_ch, ev_tp, ev_ls, ev_cl, ev_cl0, ev_isr, ev_sqI, ev_sqL, ev_sqT, ev_sb, ev_ss, ev_sn, ev_sa, ev_so, ev_sr, ev_sdr, ev_si, ev_sp, ev_p0, ev_pF, ev_pT, ev_sf, ev_hn, ev_ht, ev_hc, ev_h0, ev_cal, ev_f1, ev_f2, ev_f3, ev_f4, ev_cmp, ev_add, ev_sub, ev_isn, ev_n1, ev_n2, ev_n3, ev_n4, ev_ixL, ev_ixT, ev_a0, ev_a1, ev_a2, ev_lL, ev_lT, ev_tL, ev_tT, ev_liT, ev_abs, ev_t1, ev_t2, ev_t3, ev_eqI, ev_neI, List.getElem?_cons_zero, List.getElem?_cons_succ, List.set_cons_zero, List.set_cons_succ, List.length_cons, List.length_nil, List.map_cons, List.map_nil, List.replicate_succ, List.replicate_zero, List.cons_append, List.nil_append, List.append_nil, Option.bind_some, Option.map_some, Nat.reduceAdd, Nat.reduceSub, Nat.reduceLT, Nat.reduceLeDiff, Nat.reduceEqDiff, if_true, if_false, reduceIte, Bool.false_eq_true, wipeR, restR, hM, h0, decide_false]
theorem v13 (x0 c6 c7 c8 c9 c10 c11 c12 c13 c14 : Cell) (X own : D) (h : g_slowest_with [N, st0, T [I 2]] = .ok own) :
    w13 [x0, DC, .fz A, .fz B, .fz X, .fz N, c6, c7, c8, c9, c10, c11, c12, c13, c14] = .nx [x0, DC, .fz A, .fz B, .fz X, .fz N, c6, c7, c8, c9, c10, .fz own, c12, c13, c14] := by
  simp -implicitDefEqProofs only [ev_foc, ev_fo0, ev_app, ev_enm, ev_rs, ev_lc', ev_g0, ev_gc, ev_y, big, ev_bnd, ev_ret, ev_lfS, ev_lfN, ev_stk, ev_vr, ev_vrT, ev_mT, ev_cF, ev_cO, ev_cB, ev_dd, ev_ds, ev_d0, ev_dc, ev_opr, ev_unr, ev_nl, ev_cns, ev_cbr, ev_ab, ev_ai, ev_tst', ev_an, ev_orr, ev_nt, ev_anV, ev_orV', ev_ntV, ev_ifm, ev_ch, ev_tp, ev_ls, ev_cl, ev_cl0, ev_isr, ev_sqI, ev_sqL, ev_sqT, ev_sb, ev_ss, ev_sn, ev_sa, ev_so, ev_sr, ev_sdr, ev_si, ev_sp, ev_p0, ev_pF, ev_pT, ev_sf, ev_hn, ev_ht, ev_hc, ev_h0, ev_cal, ev_f1, ev_f2, ev_f3, ev_f4, ev_cmp, ev_add, ev_sub, ev_isn, ev_n1, ev_n2, ev_n3, ev_n4, ev_ixL, ev_ixT, ev_a0, ev_a1, ev_a2, ev_lL, ev_lT, ev_tL, ev_tT, ev_liT, ev_abs, ev_t1, ev_t2, ev_t3, ev_eqI, ev_neI, List.getElem?_cons_zero, List.getElem?_cons_succ, List.set_cons_zero, List.set_cons_succ, List.length_cons, List.length_nil, List.map_cons, List.map_nil, List.replicate_succ, List.replicate_zero, List.cons_append, List.nil_append, List.append_nil, Option.bind_some, Option.map_some, Nat.reduceAdd, Nat.reduceSub, Nat.reduceLT, Nat.reduceLeDiff, Nat.reduceEqDiff, if_true, if_false, reduceIte, Bool.false_eq_true, wipeR, restR, h]
theorem v14 (x0 c6 c7 c8 c9 c10 c12 c13 c14 : Cell) (X : D) (M : Int) (hM : max2F [A, B] = some (.int M)) (hn : neF (T [.int M, .int 1]) (T [.int M, .int 1]) = some (.bool false)) :
    w14 [x0, DC, .fz A, .fz B, .fz X, .fz N, c6, c7, c8, c9, c10, .fz (T [.int M, .int 1]), c12, c13, c14] = .nx [x0, DC, .fz A, .fz B, .fz X, .fz N, c6, c7, c8, c9, c10, .fz (T [.int M, .int 1]), c12, c13, c14] := by
  simp -implicitDefEqProofs only [ev_foc, ev_fo0, ev_app, ev_enm, ev_rs, ev_lc', ev_g0, ev_gc, ev_y, big, ev_bnd, ev_ret, ev_lfS, ev_lfN, ev_stk, ev_vr, ev_vrT, ev_mT, ev_cF, ev_cO, ev_cB, ev_dd, ev_ds, ev_d0, ev_dc, ev_opr, ev_unr, ev_nl, ev_cns, ev_cbr, ev_ab, ev_ai, ev_tst', ev_an, ev_orr, ev_nt, ev_anV, ev_orV', ev_ntV, ev_ifm, ev_ch, ev_tp, ev_ls, ev_cl, ev_cl0, ev_isr, ev_sqI, ev_sqL, ev_sqT, ev_sb, ev_ss, ev_sn, ev_sa, ev_so, ev_sr, ev_sdr, ev_si, ev_sp, ev_p0, ev_pF, ev_pT, ev_sf, ev_hn, ev_ht, ev_hc, ev_h0, ev_cal, ev_f1, ev_f2, ev_f3, ev_f4, ev_cmp, ev_add, ev_sub, ev_isn, ev_n1, ev_n2, ev_n3, ev_n4, ev_ixL, ev_ixT, ev_a0, ev_a1, ev_a2, ev_lL, ev_lT, ev_tL, ev_tT, ev_liT, ev_abs, ev_t1, ev_t2, ev_t3, ev_eqI, ev_neI, List.getElem?_cons_zero, List.getElem?_cons_succ, List.set_cons_zero, List.set_cons_succ, List.length_cons, List.length_nil, List.map_cons, List.map_nil, List.replicate_succ, List.replicate_zero, List.cons_append, List.nil_append, List.append_nil, Option.bind_some, Option.map_some, Nat.reduceAdd, Nat.reduceSub, Nat.reduceLT, Nat.reduceLeDiff, Nat.reduceEqDiff, if_true, if_false, reduceIte, Bool.false_eq_true, wipeR, restR, hM, hn]
end
/-! ### the loop over the rooms -/
theorem fr_enc (a b d r : Nat) : encO ([((a : Int), 1), low d r, ((b : Int), 1)].foldl grt none) = T [.int (fr a b d r).1, .int (fr a b d r).2] := by
  rw [gm_is]
  rfl
theorem lp_turn {a b d : Nat} (ha : a ≤ 9) (hb : b ≤ 9) (hd : d ≤ 9) (DC x0 x12 x13 x14 : Cell) (N last : D) (hN : N = net a b d) (r : Nat) (h1 : 1 ≤ r) (h2 : r ≤ 6) (hl : (r = 1 ∧ last = .none) ∨ (2 ≤ r ∧ last = T [.int (fr a b d (r - 1)).1, .int (fr a b d (r - 1)).2])) :
    ∃ y13 y14, lpB [x0, DC, .fz (I a), .fz (I b), .fz (I d), .fz N, .fz last, .fz (I r), .no, .no, .no, .no, x12, x13, x14] = .nx [x0, DC, .fz (I a), .fz (I b), .fz (I d), .fz N, .fz (T [.int (fr a b d r).1, .int (fr a b d r).2]), .fz (I r), .no, .no, .no, .no, .fz (T [.int (fr a b d r).1, .int (fr a b d r).2]), y13, y14] := by
  obtain ⟨e, s1, s2⟩ := fr_all (r := r) ha hb hd h1 h2
  have hsw : g_slowest_with [N, st1, T [.int (r : Int)]] = .ok (T [.int (fr a b d r).1, .int (fr a b d r).2]) := by
    rw [hN, ← fr_enc]
    exact q_sw a b d ha hb hd r h1 h2
  have sm : ∀ n : Nat, n ≤ 9 → isSmall (n : Int) = true := fun n hn => isSmall_le hn (by decide)
  refine ⟨_, _, lp_step DC .no .no .no .no x12 x13 x14 x0 (I a) (I b) N last d r (mx a b : Nat) _ _ (topF a b d r : Nat) (botF a b d r : Nat) (mx_is a b) hsw ?_ (sm r (by omega)) s2 ?_ e ?_⟩
  · unfold topF botF
    by_cases h : mx a b * r < d
    · left
      rw [if_pos h, if_pos h]
      exact ⟨by exact_mod_cast h, rfl, rfl⟩
    · right
      rw [if_neg h, if_neg h]
      exact ⟨by exact_mod_cast h, rfl, rfl⟩
  · unfold botF
    split
    · exact sm r (by omega)
    · rfl
  · rcases hl with ⟨_, hl⟩ | ⟨h3, hl⟩
    · exact .inl hl
    · obtain ⟨_, s3, s4⟩ := fr_all (r := r - 1) ha hb hd (by omega) (by omega)
      refine .inr ⟨_, _, hl, s4, ?_⟩
      have := fr_down (r := r - 1) ha hb hd (by omega) (by omega)
      rw [show r - 1 + 1 = r by omega] at this
      exact this
theorem v5 {a b d : Nat} (ha : a ≤ 9) (hb : b ≤ 9) (hd : d ≤ 9) (DC x0 : Cell) (N : D) (hN : N = net a b d) :
    ∃ L y12 y13 y14, w5 [x0, DC, .fz (I a), .fz (I b), .fz (I d), .fz N, .fz .none, .no, .no, .no, .no, .no, .no, .no, .no] = .nx [x0, DC, .fz (I a), .fz (I b), .fz (I d), .fz N, .fz L, .fz (I 6), .no, .no, .no, .no, y12, y13, y14] := by
  obtain ⟨p1, q1, t1⟩ := lp_turn ha hb hd DC x0 .no .no .no N .none hN 1 (by decide) (by decide) (.inl ⟨rfl, rfl⟩)
  obtain ⟨p2, q2, t2⟩ := lp_turn ha hb hd DC x0 (.fz (T [.int (fr a b d 1).1, .int (fr a b d 1).2])) p1 q1 N _ hN 2 (by decide) (by decide) (.inr ⟨by decide, rfl⟩)
  obtain ⟨p3, q3, t3⟩ := lp_turn ha hb hd DC x0 (.fz (T [.int (fr a b d 2).1, .int (fr a b d 2).2])) p2 q2 N _ hN 3 (by decide) (by decide) (.inr ⟨by decide, rfl⟩)
  obtain ⟨p4, q4, t4⟩ := lp_turn ha hb hd DC x0 (.fz (T [.int (fr a b d 3).1, .int (fr a b d 3).2])) p3 q3 N _ hN 4 (by decide) (by decide) (.inr ⟨by decide, rfl⟩)
  obtain ⟨p5, q5, t5⟩ := lp_turn ha hb hd DC x0 (.fz (T [.int (fr a b d 4).1, .int (fr a b d 4).2])) p4 q4 N _ hN 5 (by decide) (by decide) (.inr ⟨by decide, rfl⟩)
  obtain ⟨p6, q6, t6⟩ := lp_turn ha hb hd DC x0 (.fz (T [.int (fr a b d 5).1, .int (fr a b d 5).2])) p5 q5 N _ hN 6 (by decide) (by decide) (.inr ⟨by decide, rfl⟩)
  refine ⟨T [.int (fr a b d 6).1, .int (fr a b d 6).2], .fz (T [.int (fr a b d 6).1, .int (fr a b d 6).2]), p6, q6, ?_⟩
  show forGo (hName 7) lpB [I 1, I 2, I 3, I 4, I 5, I 6] _ = _
  rw [ev_foc]; simp only [ev_hn, List.set_cons_succ, List.set_cons_zero]
  erw [t1]; simp only
  rw [ev_foc]; simp only [ev_hn, List.set_cons_succ, List.set_cons_zero]
  erw [t2]; simp only
  rw [ev_foc]; simp only [ev_hn, List.set_cons_succ, List.set_cons_zero]
  erw [t3]; simp only
  rw [ev_foc]; simp only [ev_hn, List.set_cons_succ, List.set_cons_zero]
  erw [t4]; simp only
  rw [ev_foc]; simp only [ev_hn, List.set_cons_succ, List.set_cons_zero]
  erw [t5]; simp only
  rw [ev_foc]; simp only [ev_hn, List.set_cons_succ, List.set_cons_zero]
  erw [t6]; simp only
  rfl
end Rn
end

section
set_option Elab.async false
set_option linter.all false
set_option maxRecDepth 100000
set_option maxHeartbeats 4000000
namespace Rn
open PySem PySem.Spec L2
theorem mx_le {a b : Nat} (ha : a ≤ 9) (hb : b ≤ 9) : mx a b ≤ 9 ∧ a ≤ mx a b ∧ b ≤ mx a b := by
  unfold mx
  split <;> omega
def mx1 (a b : Nat) : Nat := if mx a b < 1 then 1 else mx a b
theorem mx3_is (a b : Nat) : max3F [I a, I b, .int 1] = some (I (mx1 a b : Nat)) := by
  rw [ev_mx3]
  unfold mx1 mx
  by_cases h : a < b
  · have h' : (b : Int) > (a : Int) := by omega
    rw [if_pos h', if_pos h]
    by_cases h2 : b < 1
    · rw [if_pos (by omega), if_pos h2]
      rfl
    · rw [if_neg (by omega), if_neg h2]
  · have h' : ¬ (b : Int) > (a : Int) := by omega
    rw [if_neg h', if_neg h]
    by_cases h2 : a < 1
    · rw [if_pos (by omega), if_pos h2]
      rfl
    · rw [if_neg (by omega), if_neg h2]
theorem ne_pair (p q : Int) : neF (T [.int p, .int q]) (T [.int p, .int q]) = some (.bool false) := ne_self rfl rfl
theorem ne_due (t : Nat) : neF (T (if t ≤ 6 then [e1 t] else [])) (T (if t ≤ 6 then [e1 t] else [])) = some (.bool false) := by
  split
  · exact ne_self rfl rfl
  · exact ne_self rfl rfl
theorem ne_two (t : Nat) : neF (T (if t ≤ 6 then [e2 (t, t)] else [])) (T (if t ≤ 6 then [e2 (t, t)] else [])) = some (.bool false) := by
  split
  · exact ne_self rfl rfl
  · exact ne_self rfl rfl
theorem due_cast (t : Nat) (f : Nat → D) (g : Int → D) (h : f t = g t) : (T (if (t : Int) ≤ 6 then [g t] else [])) = T (if t ≤ 6 then [f t] else []) := by
  by_cases h2 : t ≤ 6
  · rw [if_pos h2, if_pos (by omega), h]
  · rw [if_neg h2, if_neg (by omega)]
theorem round_ok : RoundOk lawN.length b_law := by
  intro c
  obtain ⟨a, c1, k1, ha, r1⟩ := roll_ok c 0 10 (by decide) (by decide)
  obtain ⟨b, c2, k2, hb, r2⟩ := roll_ok c1 k1 10 (by decide) (by decide)
  obtain ⟨d, c3, k3, hd, r3⟩ := roll_ok c2 k2 10 (by decide) (by decide)
  obtain ⟨k, c4, k4, hk, r4⟩ := roll_ok c3 k3 3 (by decide) (by decide)
  have ha : a ≤ 9 := by omega
  have hb : b ≤ 9 := by omega
  have hd : d ≤ 9 := by omega
  obtain ⟨m1, m2, m3⟩ := mx_le ha hb
  have hM := mx_is a b
  have hmx1 : mx1 a b ≤ 9 ∧ 1 ≤ mx1 a b ∧ mx a b ≤ mx1 a b := by
    unfold mx1
    split <;> omega
  generalize hp : mx1 a b + k = p at *
  have hp1 : 1 ≤ p := by omega
  have hp2 : p < 12 := by omega
  obtain ⟨L, y12, y13, y14, s5⟩ := v5 ha hb hd (.bw (.list [.int c3, .int k3])) .no (net a b d) rfl
  have q1 : g_slowest [net a b d] = .ok (T [.int ((mx a b : Nat) : Int), .int 1]) := by
    rw [q_slowest a b d ha hb hd, gm_is, gm2]
    rfl
  have q2 : g_pace [net a b d, .int 1] = .ok (T [.int ((mx a b : Nat) : Int), .int 1]) := by
    rw [q_pace1 a b d ha hb hd, gm_is, gm2]
    rfl
  have q3 : g_pace [net a b d, .int 0] = .ok (T [I a, .int 1]) := q_pace0 a b d ha hb hd
  have q4 := q_lr1 a b d p ha hb hd hp2 hp1 (by omega) (by omega)
  have q5 := q_lr2 a b d p ha hb hd hp2 hp1 (by omega) (by omega)
  have q6 : 0 < ((mx a b : Nat) : Int) → g_least_rooms [net a b d, st1, T [.int (((mx a b : Nat) : Int) - 1), .int 1]] = .ok (T []) := fun h => by
    have e : ((mx a b : Nat) : Int) - 1 = ((mx a b - 1 : Nat) : Int) := by omega
    rw [e]
    refine q_lrN a b d (mx a b - 1) ha hb hd (by omega) ?_
    unfold mx at h ⊢
    split at h <;> split <;> omega
  have q7 : g_slowest_with [net a b d, st0, T [I 2]] = .ok (T [.int ((mx a b : Nat) : Int), .int 1]) := by
    rw [q_sw0 a b d ha hb hd, gm_is, fr0 ha hb]
    rfl
  have hf : fdivF (.int ((d : Int) + (p : Int) - 1)) (.int (p : Int)) = some (.int (((d + p - 1) / p : Nat) : Int)) := by
    rw [fd0 (by omega) (lt_big (n := 12) (by omega) (by omega) (by decide))]
    have e : (d : Int) + (p : Int) - 1 = ((d + p - 1 : Nat) : Int) := by omega
    rw [e, ← Int.natCast_ediv]
  have ht : max2F [.int 1, .int (((d + p - 1) / p : Nat) : Int)] = some (.int ((thr d p : Nat) : Int)) := by
    rw [ev_mx]
    unfold thr
    by_cases h : (d + p - 1) / p < 1
    · rw [if_pos h, if_neg (by omega)]
      rfl
    · rw [if_neg h]
      by_cases h2 : (((d + p - 1) / p : Nat) : Int) > 1
      · rw [if_pos h2]
      · rw [if_neg h2]
        have : (d + p - 1) / p = 1 := by omega
        rw [this]
        rfl
  generalize thr d p = t at *
  generalize hN : net a b d = N at *
  have hpk : ((mx1 a b : Nat) : Int) + (k : Int) = (p : Int) := by omega
  have s1 := v1 (noEx c__law_roll) _ _ _ _ _ _ _ r1 r2 r3
  have s2 := v2 (.bw (.list [.int c3, .int k3])) a b d
  rw [hN] at s2
  have s3 := v3 (.bw (.list [.int c3, .int k3])) (I a) (I b) N (I d) _ hM q1 q2 q3 (ne_pair _ _) (ne_pair _ _)
  have s4 := v4 (.bw (.list [.int c3, .int k3])) (I a) (I b) N (I d)
  have s6 := v6 (I a) (I b) N (noEx c__law_roll) .no (.fz L) (.fz (I 6)) .no .no .no y12 y13 y14 _ _ (I d) _ _ (mx3_is a b) r4
  rw [hpk] at s6
  have s7 := v7 (.bw (.list [.int c4, .int k4])) (I a) (I b) N .no (.fz L) (.fz (I 6)) .no .no .no y12 y13 y14 (d : Int) (p : Int) _ hf _ ht
  have s8 := v8 (.bw (.list [.int c4, .int k4])) (I a) (I b) N .no (.fz L) .no .no .no y12 y13 y14 (I d) (T [.int (p : Int), .int 1]) (t : Int)
  rw [due_cast t e1 (fun t => T [.int t]) rfl] at s8
  have s9 := v9 (.bw (.list [.int c4, .int k4])) (I a) (I b) N .no (.fz L) .no .no y12 y13 y14 (I d) (T [.int (p : Int), .int 1]) _ (t : Int) q4 (ne_due t)
  have s10 := v10 (.bw (.list [.int c4, .int k4])) (I a) (I b) N .no (.fz L) .no .no y12 y13 y14 (I d) (T [.int (p : Int), .int 1]) (T (if t ≤ 6 then [e1 t] else [])) _ (t : Int) q5
  have s11 := v11 (.bw (.list [.int c4, .int k4])) (I a) (I b) N .no (.fz L) .no y12 y13 y14 (I d) (T [.int (p : Int), .int 1]) (T (if t ≤ 6 then [e1 t] else [])) _ (t : Int) (due_cast t (fun t => e2 (t, t)) (fun t => T [.int t, .int t]) rfl).symm (ne_two t)
  have s12 := v12 (.bw (.list [.int c4, .int k4])) (I a) (I b) N .no (.fz L) (.fz (.int (t : Int))) (.fz (T [.int (p : Int), .int 1])) (.fz (T (if t ≤ 6 then [e1 t] else []))) (.fz (T (if t ≤ 6 then [e2 (t, t)] else []))) .no y12 y13 y14 (I d) _ hM q6 (ne_self rfl rfl)
  have s13 := v13 (.bw (.list [.int c4, .int k4])) (I a) (I b) N .no (.fz L) (.fz (.int (t : Int))) (.fz (T [.int (p : Int), .int 1])) (.fz (T (if t ≤ 6 then [e1 t] else []))) (.fz (T (if t ≤ 6 then [e2 (t, t)] else []))) .no y12 y13 y14 (I d) _ q7
  have s14 := v14 (.bw (.list [.int c4, .int k4])) (I a) (I b) N .no (.fz L) (.fz (.int (t : Int))) (.fz (T [.int (p : Int), .int 1])) (.fz (T (if t ≤ 6 then [e1 t] else []))) (.fz (T (if t ≤ 6 then [e2 (t, t)] else []))) y12 y13 y14 (I d) _ hM (ne_pair _ _)
  refine ⟨[.no, .bw (.list [.int c4, .int k4]), .fz (I a), .fz (I b), .fz (I d), .fz N, .fz L, .fz (.int (t : Int)), .fz (T [.int (p : Int), .int 1]), .fz (T (if t ≤ 6 then [e1 t] else [])), .fz (T (if t ≤ 6 then [e2 (t, t)] else [])), .fz (T [.int ((mx a b : Nat) : Int), .int 1]), y12, y13, y14], .inl ?_⟩
  show b_law [.no, .bw (.list [.int c, .int 0]), .no, .no, .no, .no, .no, .no, .no, .no, .no, .no, .no, .no, .no] = _
  rw [law_is]
  rw [ev_ss, show w1 _ = _ from s1]; simp only
  rw [ev_ss, s2]; simp only
  rw [ev_ss, s3]; simp only
  rw [ev_ss, s4]; simp only
  rw [ev_ss, s5]; simp only
  rw [ev_ss, show w6 _ = _ from s6]; simp only
  rw [ev_ss, s7]; simp only
  rw [ev_ss, s8]; simp only
  rw [ev_ss, s9]; simp only
  rw [ev_ss, s10]; simp only
  rw [ev_ss, s11]; simp only
  rw [ev_ss, s12]; simp only
  rw [ev_ss, s13]; simp only
  exact s14
end Rn
end

set_option Elab.async false
set_option linter.all false
set_option maxRecDepth 100000
set_option maxHeartbeats 0
namespace Rn
open PySem PySem.Spec PyProof.Rows L2
section
variable {P : Program} {w : World} {K : PySem.W.Frag} {h : Heap} {mg : Str → Option Value} {base : Heap}
theorem h_nm (X : K.In h) (G : h.Ns mainGlobals mg) (c : He.SaysD hfa hfn K) : Nm K mg (He.ga K) where
  ValueError := He.free_ok X G (c.fact 39 (f := .free "ValueError") rfl)
  abs := He.free_ok X G (c.fact 40 (f := .free "abs") rfl)
  all := He.free_ok X G (c.fact 41 (f := .free "all") rfl)
  any := He.free_ok X G (c.fact 42 (f := .free "any") rfl)
  bool := He.free_ok X G (c.fact 43 (f := .free "bool") rfl)
  enumerate := He.free_ok X G (c.fact 44 (f := .free "enumerate") rfl)
  int := He.free_ok X G (c.fact 45 (f := .free "int") rfl)
  isinstance := He.free_ok X G (c.fact 46 (f := .free "isinstance") rfl)
  len := He.free_ok X G (c.fact 47 (f := .free "len") rfl)
  list := He.free_ok X G (c.fact 48 (f := .free "list") rfl)
  max := He.free_ok X G (c.fact 49 (f := .free "max") rfl)
  min := He.free_ok X G (c.fact 50 (f := .free "min") rfl)
  range := He.free_ok X G (c.fact 51 (f := .free "range") rfl)
  sorted := He.free_ok X G (c.fact 52 (f := .free "sorted") rfl)
  str := He.free_ok X G (c.fact 53 (f := .free "str") rfl)
  sum := He.free_ok X G (c.fact 54 (f := .free "sum") rfl)
  tuple := He.free_ok X G (c.fact 55 (f := .free "tuple") rfl)
  MOST_EVENTS := He.int_ok X G (c.fact 56 (f := .int "MOST_EVENTS" 5) rfl)
  MOST_BACK := He.int_ok X G (c.fact 57 (f := .int "MOST_BACK" 8) rfl)
  MOST_ROOMS := He.int_ok X G (c.fact 58 (f := .int "MOST_ROOMS" 6) rfl)
  X_RoundError := let e := He.exc_ok (c.fact 64 (f := .exc "RoundError") rfl); ⟨He.glo_ok X G (c.fact 59 (f := .glo "RoundError") rfl), e.1, e.2.1, e.2.2.1, e.2.2.2⟩
  X_InvalidNet := let e := He.exc_ok (c.fact 65 (f := .exc "InvalidNet") rfl); ⟨He.glo_ok X G (c.fact 60 (f := .glo "InvalidNet") rfl), e.1, e.2.1, e.2.2.1, e.2.2.2⟩
  X_InvalidEvent := let e := He.exc_ok (c.fact 66 (f := .exc "InvalidEvent") rfl); ⟨He.glo_ok X G (c.fact 61 (f := .glo "InvalidEvent") rfl), e.1, e.2.1, e.2.2.1, e.2.2.2⟩
  X_InvalidNumber := let e := He.exc_ok (c.fact 67 (f := .exc "InvalidNumber") rfl); ⟨He.glo_ok X G (c.fact 62 (f := .glo "InvalidNumber") rfl), e.1, e.2.1, e.2.2.1, e.2.2.2⟩
  X_InvalidStores := let e := He.exc_ok (c.fact 68 (f := .exc "InvalidStores") rfl); ⟨He.glo_ok X G (c.fact 63 (f := .glo "InvalidStores") rfl), e.1, e.2.1, e.2.2.1, e.2.2.2⟩
theorem h__law_drawn (X : K.In h) (G : h.Ns mainGlobals mg) (c : He.SaysD hfa hfn K) : HasF K mg "_law_drawn" s__law_drawn ["cell", "k"] := by
  obtain ⟨fd, F⟩ := c.def_ 0 (d := hd__law_drawn) rfl
  exact ⟨He.ga K "_law_drawn", fd, F, He.glo_ok X G (c.fact 0 (f := .glo "_law_drawn") rfl), FunD.bindsN F fun _ _ _ _ _ _ us hl => match us, hl with | [_, _], _ => rfl⟩
theorem h__law_roll (X : K.In h) (G : h.Ns mainGlobals mg) (c : He.SaysD hfa hfn K) : HasF K mg "_law_roll" s__law_roll ["dice", "many"] := by
  obtain ⟨fd, F⟩ := c.def_ 1 (d := hd__law_roll) rfl
  exact ⟨He.ga K "_law_roll", fd, F, He.glo_ok X G (c.fact 1 (f := .glo "_law_roll") rfl), FunD.bindsN F fun _ _ _ _ _ _ us hl => match us, hl with | [_, _], _ => rfl⟩
theorem h_is_whole (X : K.In h) (G : h.Ns mainGlobals mg) (c : He.SaysD hfa hfn K) : HasF K mg "is_whole" s_is_whole ["value", "low", "high"] := by
  obtain ⟨fd, F⟩ := c.def_ 2 (d := hd_is_whole) rfl
  exact ⟨He.ga K "is_whole", fd, F, He.glo_ok X G (c.fact 2 (f := .glo "is_whole") rfl), FunD.bindsN F fun _ _ _ _ _ _ us hl => match us, hl with | [_, _, _], _ => rfl⟩
theorem h_is_source (X : K.In h) (G : h.Ns mainGlobals mg) (c : He.SaysD hfa hfn K) : HasF K mg "is_source" s_is_source ["value", "inputs", "events"] := by
  obtain ⟨fd, F⟩ := c.def_ 3 (d := hd_is_source) rfl
  exact ⟨He.ga K "is_source", fd, F, He.glo_ok X G (c.fact 3 (f := .glo "is_source") rfl), FunD.bindsN F fun _ _ _ _ _ _ us hl => match us, hl with | [_, _, _], _ => rfl⟩
theorem h_is_arc (X : K.In h) (G : h.Ns mainGlobals mg) (c : He.SaysD hfa hfn K) : HasF K mg "is_arc" s_is_arc ["value", "inputs", "events"] := by
  obtain ⟨fd, F⟩ := c.def_ 4 (d := hd_is_arc) rfl
  exact ⟨He.ga K "is_arc", fd, F, He.glo_ok X G (c.fact 4 (f := .glo "is_arc") rfl), FunD.bindsN F fun _ _ _ _ _ _ us hl => match us, hl with | [_, _, _], _ => rfl⟩
theorem h_is_row (X : K.In h) (G : h.Ns mainGlobals mg) (c : He.SaysD hfa hfn K) : HasF K mg "is_row" s_is_row ["value", "inputs", "events"] := by
  obtain ⟨fd, F⟩ := c.def_ 5 (d := hd_is_row) rfl
  exact ⟨He.ga K "is_row", fd, F, He.glo_ok X G (c.fact 5 (f := .glo "is_row") rfl), FunD.bindsN F fun _ _ _ _ _ _ us hl => match us, hl with | [_, _, _], _ => rfl⟩
theorem h_is_shaped (X : K.In h) (G : h.Ns mainGlobals mg) (c : He.SaysD hfa hfn K) : HasF K mg "is_shaped" s_is_shaped ["value"] := by
  obtain ⟨fd, F⟩ := c.def_ 6 (d := hd_is_shaped) rfl
  exact ⟨He.ga K "is_shaped", fd, F, He.glo_ok X G (c.fact 6 (f := .glo "is_shaped") rfl), FunD.bindsN F fun _ _ _ _ _ _ us hl => match us, hl with | [_], _ => rfl⟩
theorem h_all_back (X : K.In h) (G : h.Ns mainGlobals mg) (c : He.SaysD hfa hfn K) : HasF K mg "all_back" s_all_back ["rows"] := by
  obtain ⟨fd, F⟩ := c.def_ 7 (d := hd_all_back) rfl
  exact ⟨He.ga K "all_back", fd, F, He.glo_ok X G (c.fact 7 (f := .glo "all_back") rfl), FunD.bindsN F fun _ _ _ _ _ _ us hl => match us, hl with | [_], _ => rfl⟩
theorem h_event_of (X : K.In h) (G : h.Ns mainGlobals mg) (c : He.SaysD hfa hfn K) : HasF K mg "event_of" s_event_of ["source"] := by
  obtain ⟨fd, F⟩ := c.def_ 8 (d := hd_event_of) rfl
  exact ⟨He.ga K "event_of", fd, F, He.glo_ok X G (c.fact 8 (f := .glo "event_of") rfl), FunD.bindsN F fun _ _ _ _ _ _ us hl => match us, hl with | [_], _ => rfl⟩
theorem h_same_round (X : K.In h) (G : h.Ns mainGlobals mg) (c : He.SaysD hfa hfn K) : HasF K mg "same_round" s_same_round ["rows"] := by
  obtain ⟨fd, F⟩ := c.def_ 9 (d := hd_same_round) rfl
  exact ⟨He.ga K "same_round", fd, F, He.glo_ok X G (c.fact 9 (f := .glo "same_round") rfl), FunD.bindsN F fun _ _ _ _ _ _ us hl => match us, hl with | [_], _ => rfl⟩
theorem h_order_of (X : K.In h) (G : h.Ns mainGlobals mg) (c : He.SaysD hfa hfn K) : HasF K mg "order_of" s_order_of ["rows"] := by
  obtain ⟨fd, F⟩ := c.def_ 10 (d := hd_order_of) rfl
  exact ⟨He.ga K "order_of", fd, F, He.glo_ok X G (c.fact 10 (f := .glo "order_of") rfl), FunD.bindsN F fun _ _ _ _ _ _ us hl => match us, hl with | [_], _ => rfl⟩
theorem h_is_net (X : K.In h) (G : h.Ns mainGlobals mg) (c : He.SaysD hfa hfn K) : HasF K mg "is_net" s_is_net ["value"] := by
  obtain ⟨fd, F⟩ := c.def_ 11 (d := hd_is_net) rfl
  exact ⟨He.ga K "is_net", fd, F, He.glo_ok X G (c.fact 11 (f := .glo "is_net") rfl), FunD.bindsN F fun _ _ _ _ _ _ us hl => match us, hl with | [_], _ => rfl⟩
theorem h_need_net (X : K.In h) (G : h.Ns mainGlobals mg) (c : He.SaysD hfa hfn K) : HasF K mg "need_net" s_need_net ["net"] := by
  obtain ⟨fd, F⟩ := c.def_ 12 (d := hd_need_net) rfl
  exact ⟨He.ga K "need_net", fd, F, He.glo_ok X G (c.fact 12 (f := .glo "need_net") rfl), FunD.bindsN F fun _ _ _ _ _ _ us hl => match us, hl with | [_], _ => rfl⟩
theorem h_is_less (X : K.In h) (G : h.Ns mainGlobals mg) (c : He.SaysD hfa hfn K) : HasF K mg "is_less" s_is_less ["one", "other"] := by
  obtain ⟨fd, F⟩ := c.def_ 13 (d := hd_is_less) rfl
  exact ⟨He.ga K "is_less", fd, F, He.glo_ok X G (c.fact 13 (f := .glo "is_less") rfl), FunD.bindsN F fun _ _ _ _ _ _ us hl => match us, hl with | [_, _], _ => rfl⟩
theorem h_greatest (X : K.In h) (G : h.Ns mainGlobals mg) (c : He.SaysD hfa hfn K) : HasF K mg "greatest" s_greatest ["fractions"] := by
  obtain ⟨fd, F⟩ := c.def_ 14 (d := hd_greatest) rfl
  exact ⟨He.ga K "greatest", fd, F, He.glo_ok X G (c.fact 14 (f := .glo "greatest") rfl), FunD.bindsN F fun _ _ _ _ _ _ us hl => match us, hl with | [_], _ => rfl⟩
theorem h_rings_from (X : K.In h) (G : h.Ns mainGlobals mg) (c : He.SaysD hfa hfn K) : HasF K mg "rings_from" s_rings_from ["rows", "first"] := by
  obtain ⟨fd, F⟩ := c.def_ 15 (d := hd_rings_from) rfl
  exact ⟨He.ga K "rings_from", fd, F, He.glo_ok X G (c.fact 15 (f := .glo "rings_from") rfl), FunD.bindsN F fun _ _ _ _ _ _ us hl => match us, hl with | [_, _], _ => rfl⟩
theorem h_rings_of (X : K.In h) (G : h.Ns mainGlobals mg) (c : He.SaysD hfa hfn K) : HasF K mg "rings_of" s_rings_of ["rows"] := by
  obtain ⟨fd, F⟩ := c.def_ 16 (d := hd_rings_of) rfl
  exact ⟨He.ga K "rings_of", fd, F, He.glo_ok X G (c.fact 16 (f := .glo "rings_of") rfl), FunD.bindsN F fun _ _ _ _ _ _ us hl => match us, hl with | [_], _ => rfl⟩
theorem h_measure (X : K.In h) (G : h.Ns mainGlobals mg) (c : He.SaysD hfa hfn K) : HasF K mg "measure" s_measure ["rows", "ring"] := by
  obtain ⟨fd, F⟩ := c.def_ 17 (d := hd_measure) rfl
  exact ⟨He.ga K "measure", fd, F, He.glo_ok X G (c.fact 17 (f := .glo "measure") rfl), FunD.bindsN F fun _ _ _ _ _ _ us hl => match us, hl with | [_, _], _ => rfl⟩
theorem h_divisor (X : K.In h) (G : h.Ns mainGlobals mg) (c : He.SaysD hfa hfn K) : HasF K mg "divisor" s_divisor ["one", "other"] := by
  obtain ⟨fd, F⟩ := c.def_ 18 (d := hd_divisor) rfl
  exact ⟨He.ga K "divisor", fd, F, He.glo_ok X G (c.fact 18 (f := .glo "divisor") rfl), FunD.bindsN F fun _ _ _ _ _ _ us hl => match us, hl with | [_, _], _ => rfl⟩
theorem h_lowest (X : K.In h) (G : h.Ns mainGlobals mg) (c : He.SaysD hfa hfn K) : HasF K mg "lowest" s_lowest ["top", "bottom"] := by
  obtain ⟨fd, F⟩ := c.def_ 19 (d := hd_lowest) rfl
  exact ⟨He.ga K "lowest", fd, F, He.glo_ok X G (c.fact 19 (f := .glo "lowest") rfl), FunD.bindsN F fun _ _ _ _ _ _ us hl => match us, hl with | [_, _], _ => rfl⟩
theorem h_ratio (X : K.In h) (G : h.Ns mainGlobals mg) (c : He.SaysD hfa hfn K) : HasF K mg "ratio" s_ratio ["rows", "ring"] := by
  obtain ⟨fd, F⟩ := c.def_ 20 (d := hd_ratio) rfl
  exact ⟨He.ga K "ratio", fd, F, He.glo_ok X G (c.fact 20 (f := .glo "ratio") rfl), FunD.bindsN F fun _ _ _ _ _ _ us hl => match us, hl with | [_, _], _ => rfl⟩
theorem h_slowest_of (X : K.In h) (G : h.Ns mainGlobals mg) (c : He.SaysD hfa hfn K) : HasF K mg "slowest_of" s_slowest_of ["rows"] := by
  obtain ⟨fd, F⟩ := c.def_ 21 (d := hd_slowest_of) rfl
  exact ⟨He.ga K "slowest_of", fd, F, He.glo_ok X G (c.fact 21 (f := .glo "slowest_of") rfl), FunD.bindsN F fun _ _ _ _ _ _ us hl => match us, hl with | [_], _ => rfl⟩
theorem h_slowest (X : K.In h) (G : h.Ns mainGlobals mg) (c : He.SaysD hfa hfn K) : HasF K mg "slowest" s_slowest ["net"] := by
  obtain ⟨fd, F⟩ := c.def_ 22 (d := hd_slowest) rfl
  exact ⟨He.ga K "slowest", fd, F, He.glo_ok X G (c.fact 22 (f := .glo "slowest") rfl), FunD.bindsN F fun _ _ _ _ _ _ us hl => match us, hl with | [_], _ => rfl⟩
theorem h_need_event (X : K.In h) (G : h.Ns mainGlobals mg) (c : He.SaysD hfa hfn K) : HasF K mg "need_event" s_need_event ["net", "event"] := by
  obtain ⟨fd, F⟩ := c.def_ 23 (d := hd_need_event) rfl
  exact ⟨He.ga K "need_event", fd, F, He.glo_ok X G (c.fact 23 (f := .glo "need_event") rfl), FunD.bindsN F fun _ _ _ _ _ _ us hl => match us, hl with | [_, _], _ => rfl⟩
theorem h_reach_back (X : K.In h) (G : h.Ns mainGlobals mg) (c : He.SaysD hfa hfn K) : HasF K mg "reach_back" s_reach_back ["rows", "event"] := by
  obtain ⟨fd, F⟩ := c.def_ 24 (d := hd_reach_back) rfl
  exact ⟨He.ga K "reach_back", fd, F, He.glo_ok X G (c.fact 24 (f := .glo "reach_back") rfl), FunD.bindsN F fun _ _ _ _ _ _ us hl => match us, hl with | [_, _], _ => rfl⟩
theorem h_has_start (X : K.In h) (G : h.Ns mainGlobals mg) (c : He.SaysD hfa hfn K) : HasF K mg "has_start" s_has_start ["rows", "event"] := by
  obtain ⟨fd, F⟩ := c.def_ 25 (d := hd_has_start) rfl
  exact ⟨He.ga K "has_start", fd, F, He.glo_ok X G (c.fact 25 (f := .glo "has_start") rfl), FunD.bindsN F fun _ _ _ _ _ _ us hl => match us, hl with | [_, _], _ => rfl⟩
theorem h_pace (X : K.In h) (G : h.Ns mainGlobals mg) (c : He.SaysD hfa hfn K) : HasF K mg "pace" s_pace ["net", "event"] := by
  obtain ⟨fd, F⟩ := c.def_ 26 (d := hd_pace) rfl
  exact ⟨He.ga K "pace", fd, F, He.glo_ok X G (c.fact 26 (f := .glo "pace") rfl), FunD.bindsN F fun _ _ _ _ _ _ us hl => match us, hl with | [_, _], _ => rfl⟩
theorem h_are_stores (X : K.In h) (G : h.Ns mainGlobals mg) (c : He.SaysD hfa hfn K) : HasF K mg "are_stores" s_are_stores ["net", "value"] := by
  obtain ⟨fd, F⟩ := c.def_ 27 (d := hd_are_stores) rfl
  exact ⟨He.ga K "are_stores", fd, F, He.glo_ok X G (c.fact 27 (f := .glo "are_stores") rfl), FunD.bindsN F fun _ _ _ _ _ _ us hl => match us, hl with | [_, _], _ => rfl⟩
theorem h_need_stores (X : K.In h) (G : h.Ns mainGlobals mg) (c : He.SaysD hfa hfn K) : HasF K mg "need_stores" s_need_stores ["net", "stores"] := by
  obtain ⟨fd, F⟩ := c.def_ 28 (d := hd_need_stores) rfl
  exact ⟨He.ga K "need_stores", fd, F, He.glo_ok X G (c.fact 28 (f := .glo "need_stores") rfl), FunD.bindsN F fun _ _ _ _ _ _ us hl => match us, hl with | [_, _], _ => rfl⟩
theorem h_need_rooms (X : K.In h) (G : h.Ns mainGlobals mg) (c : He.SaysD hfa hfn K) : HasF K mg "need_rooms" s_need_rooms ["stores", "rooms"] := by
  obtain ⟨fd, F⟩ := c.def_ 29 (d := hd_need_rooms) rfl
  exact ⟨He.ga K "need_rooms", fd, F, He.glo_ok X G (c.fact 29 (f := .glo "need_rooms") rfl), FunD.bindsN F fun _ _ _ _ _ _ us hl => match us, hl with | [_, _], _ => rfl⟩
theorem h_with_rooms (X : K.In h) (G : h.Ns mainGlobals mg) (c : He.SaysD hfa hfn K) : HasF K mg "with_rooms" s_with_rooms ["rows", "stores", "rooms"] := by
  obtain ⟨fd, F⟩ := c.def_ 30 (d := hd_with_rooms) rfl
  exact ⟨He.ga K "with_rooms", fd, F, He.glo_ok X G (c.fact 30 (f := .glo "with_rooms") rfl), FunD.bindsN F fun _ _ _ _ _ _ us hl => match us, hl with | [_, _, _], _ => rfl⟩
theorem h_slowest_with (X : K.In h) (G : h.Ns mainGlobals mg) (c : He.SaysD hfa hfn K) : HasF K mg "slowest_with" s_slowest_with ["net", "stores", "rooms"] := by
  obtain ⟨fd, F⟩ := c.def_ 31 (d := hd_slowest_with) rfl
  exact ⟨He.ga K "slowest_with", fd, F, He.glo_ok X G (c.fact 31 (f := .glo "slowest_with") rfl), FunD.bindsN F fun _ _ _ _ _ _ us hl => match us, hl with | [_, _, _], _ => rfl⟩
theorem h_is_pace (X : K.In h) (G : h.Ns mainGlobals mg) (c : He.SaysD hfa hfn K) : HasF K mg "is_pace" s_is_pace ["value"] := by
  obtain ⟨fd, F⟩ := c.def_ 32 (d := hd_is_pace) rfl
  exact ⟨He.ga K "is_pace", fd, F, He.glo_ok X G (c.fact 32 (f := .glo "is_pace") rfl), FunD.bindsN F fun _ _ _ _ _ _ us hl => match us, hl with | [_], _ => rfl⟩
theorem h_all_rooms (X : K.In h) (G : h.Ns mainGlobals mg) (c : He.SaysD hfa hfn K) : HasF K mg "all_rooms" s_all_rooms ["many"] := by
  obtain ⟨fd, F⟩ := c.def_ 33 (d := hd_all_rooms) rfl
  exact ⟨He.ga K "all_rooms", fd, F, He.glo_ok X G (c.fact 33 (f := .glo "all_rooms") rfl), FunD.bindsN F fun _ _ _ _ _ _ us hl => match us, hl with | [_], _ => rfl⟩
theorem h_keeps (X : K.In h) (G : h.Ns mainGlobals mg) (c : He.SaysD hfa hfn K) : HasF K mg "keeps" s_keeps ["rows", "stores", "rooms", "pace"] := by
  obtain ⟨fd, F⟩ := c.def_ 34 (d := hd_keeps) rfl
  exact ⟨He.ga K "keeps", fd, F, He.glo_ok X G (c.fact 34 (f := .glo "keeps") rfl), FunD.bindsN F fun _ _ _ _ _ _ us hl => match us, hl with | [_, _, _, _], _ => rfl⟩
theorem h_least_rooms (X : K.In h) (G : h.Ns mainGlobals mg) (c : He.SaysD hfa hfn K) : HasF K mg "least_rooms" s_least_rooms ["net", "stores", "pace"] := by
  obtain ⟨fd, F⟩ := c.def_ 35 (d := hd_least_rooms) rfl
  exact ⟨He.ga K "least_rooms", fd, F, He.glo_ok X G (c.fact 35 (f := .glo "least_rooms") rfl), FunD.bindsN F fun _ _ _ _ _ _ us hl => match us, hl with | [_, _, _], _ => rfl⟩
theorem h__law_cell (X : K.In h) (G : h.Ns mainGlobals mg) (c : He.SaysD hfa hfn K) : HasF K mg "_law_cell" s__law_cell ["script", "k"] := by
  obtain ⟨fd, F⟩ := c.def_ 36 (d := hd__law_cell) rfl
  exact ⟨He.ga K "_law_cell", fd, F, He.glo_ok X G (c.fact 36 (f := .glo "_law_cell") rfl), FunD.bindsN F fun _ _ _ _ _ _ us hl => match us, hl with | [_, _], _ => rfl⟩
theorem h__law_rounds (X : K.In h) (G : h.Ns mainGlobals mg) (c : He.SaysD hfa hfn K) : HasF K mg "_law_rounds" s__law_rounds ["script", "most"] := by
  obtain ⟨fd, F⟩ := c.def_ 37 (d := hd__law_rounds) rfl
  exact ⟨He.ga K "_law_rounds", fd, F, He.glo_ok X G (c.fact 37 (f := .glo "_law_rounds") rfl), FunD.bindsN F fun _ _ _ _ _ _ us hl => match us, hl with | [_, _], _ => rfl⟩
theorem h_law (X : K.In h) (G : h.Ns mainGlobals mg) (c : He.SaysD hfa hfn K) : HasF K mg "law" s_law ["script"] := by
  obtain ⟨fd, F⟩ := c.def_ 38 (d := hd_law) rfl
  exact ⟨He.ga K "law", fd, F, He.glo_ok X G (c.fact 38 (f := .glo "law") rfl), FunD.bindsN F fun _ _ _ _ _ _ us hl => match us, hl with | [_], _ => rfl⟩
theorem h_ends (X : K.In h) (G : h.Ns mainGlobals mg) (c : He.SaysD hfa hfn K) {f : Addr} {fd : FuncData} (F : FnP K "law" s_law f fd) : FnOk P w K mg base (L2.CX P w) 9 f fd ["script"] (spLawS K) := by
  have nm := h_nm X G c
  have D__law_drawn := ok__law_drawn (P := P) (w := w) (base := base) nm (h__law_drawn X G c)
  have D__law_roll := ok__law_roll (P := P) (w := w) (base := base) nm (h__law_roll X G c) D__law_drawn
  have D_is_whole := ok_is_whole (P := P) (w := w) (base := base) nm (h_is_whole X G c)
  have D_is_source := ok_is_source (P := P) (w := w) (base := base) nm (h_is_source X G c)
  have D_is_arc := ok_is_arc (P := P) (w := w) (base := base) nm (h_is_arc X G c) D_is_source D_is_whole
  have D_is_row := ok_is_row (P := P) (w := w) (base := base) nm (h_is_row X G c) D_is_arc
  have D_is_shaped := ok_is_shaped (P := P) (w := w) (base := base) nm (h_is_shaped X G c) D_is_whole D_is_row
  have D_all_back := ok_all_back (P := P) (w := w) (base := base) nm (h_all_back X G c)
  have D_event_of := ok_event_of (P := P) (w := w) (base := base) nm (h_event_of X G c)
  have D_same_round := ok_same_round (P := P) (w := w) (base := base) nm (h_same_round X G c) D_event_of
  have D_order_of := ok_order_of (P := P) (w := w) (base := base) nm (h_order_of X G c) D_same_round
  have D_is_net := ok_is_net (P := P) (w := w) (base := base) nm (h_is_net X G c) D_is_shaped D_all_back D_order_of
  have D_need_net := ok_need_net (P := P) (w := w) (base := base) nm (h_need_net X G c) D_is_net
  have D_is_less := ok_is_less (P := P) (w := w) (base := base) nm (h_is_less X G c)
  have D_greatest := ok_greatest (P := P) (w := w) (base := base) nm (h_greatest X G c) D_is_less
  have D_rings_from := ok_rings_from (P := P) (w := w) (base := base) nm (h_rings_from X G c) D_event_of
  have D_rings_of := ok_rings_of (P := P) (w := w) (base := base) nm (h_rings_of X G c) D_rings_from
  have D_measure := ok_measure (P := P) (w := w) (base := base) nm (h_measure X G c)
  have D_divisor := ok_divisor (P := P) (w := w) (base := base) nm (h_divisor X G c)
  have D_lowest := ok_lowest (P := P) (w := w) (base := base) nm (h_lowest X G c) D_divisor
  have D_ratio := ok_ratio (P := P) (w := w) (base := base) nm (h_ratio X G c) D_measure D_lowest
  have D_slowest_of := ok_slowest_of (P := P) (w := w) (base := base) nm (h_slowest_of X G c) D_greatest D_rings_of D_ratio
  have D_slowest := ok_slowest (P := P) (w := w) (base := base) nm (h_slowest X G c) D_need_net D_slowest_of
  have D_need_event := ok_need_event (P := P) (w := w) (base := base) nm (h_need_event X G c) D_need_net D_is_whole
  have D_reach_back := ok_reach_back (P := P) (w := w) (base := base) nm (h_reach_back X G c) D_event_of
  have D_has_start := ok_has_start (P := P) (w := w) (base := base) nm (h_has_start X G c) D_reach_back
  have D_pace := ok_pace (P := P) (w := w) (base := base) nm (h_pace X G c) D_need_event D_reach_back D_rings_of D_has_start D_ratio D_greatest
  have D_are_stores := ok_are_stores (P := P) (w := w) (base := base) nm (h_are_stores X G c) D_is_whole
  have D_need_stores := ok_need_stores (P := P) (w := w) (base := base) nm (h_need_stores X G c) D_need_net D_are_stores
  have D_need_rooms := ok_need_rooms (P := P) (w := w) (base := base) nm (h_need_rooms X G c) D_is_whole
  have D_with_rooms := ok_with_rooms (P := P) (w := w) (base := base) nm (h_with_rooms X G c)
  have D_slowest_with := ok_slowest_with (P := P) (w := w) (base := base) nm (h_slowest_with X G c) D_need_stores D_need_rooms D_slowest_of D_with_rooms
  have D_is_pace := ok_is_pace (P := P) (w := w) (base := base) nm (h_is_pace X G c) D_is_whole D_lowest
  have D_all_rooms := ok_all_rooms (P := P) (w := w) (base := base) nm (h_all_rooms X G c)
  have D_keeps := ok_keeps (P := P) (w := w) (base := base) nm (h_keeps X G c) D_slowest_of D_with_rooms D_is_less
  have D_least_rooms := ok_least_rooms (P := P) (w := w) (base := base) nm (h_least_rooms X G c) D_need_stores D_is_pace D_all_rooms D_keeps
  have D__law_cell := ok__law_cell (P := P) (w := w) (base := base) nm (h__law_cell X G c)
  have D__law_rounds := ok__law_rounds (P := P) (w := w) (base := base) nm (h__law_rounds X G c) D__law_cell
  exact ok_law nm F D__law_rounds D__law_roll D_slowest D_pace D_slowest_with D_least_rooms round_ok
end
/-- the end of a law whose defs may raise, over facts of the head -/
theorem law_walk {lw : PySem.W.OpenLaw} {most lev : Nat} {qp : Program} {ls : List Str} {XP : (Str → Option Value) → Heap → Prop} {YP : World → Heap → Prop} {dr : DefRec} (CX : World → CXT) (par : Str)
    (h1 : lw.most = some most) (h2 : most ≤ sizeLine) (h3 : dr.params.defaults = []) (h4 : Room lev callerA)
    (facts : ∀ (w : World) (mg : Str → Option Value) (fa : Addr) (h : Heap), YP w h → h.Ns mainGlobals mg → mg dr.name = some (.ref fa) → ∃ (K : PySem.W.Frag) (fd : FuncData) (sp : Sp), K.In h ∧
      (∀ (s : Shared) (u : Value), BindsTo s fd ⟨[u], []⟩ [(par, u)]) ∧ (∀ (H : Hp) (a : Addr) (ns : List Int), ns.length ≤ most → Only H → SqL K H a (ns.map V.int) → sp [.ref a] H (fun v _ => v = .bl true) fun _ _ _ => False) ∧ ∀ base : Heap, K.In base → base.Ns mainGlobals mg → FnOk lw.prog w K mg base (CX w) lev fa fd [par] sp)
    (calm : ∀ (w : World) (H : Hp) (s : Shared) (e : Value) (s' : Shared), CX w [] H s (fun _ _ _ => False) e s' → False) : PySem.W.WalkO qp ls XP YP lw.row.toRowW dr [] (fun f vs => PySem.call f vs) := by
  refine Att.attach_call h1 h3 fun w _ s1 mg _ fa _ _ _ _ a _ ns G Y _ _ _ hm ho hi hl hg => ?_
  obtain ⟨K, fd, sp, kx, hb, hs, hf⟩ := facts w mg fa _ Y G.T.g hm
  refine law_call kx G.T.g G.T.b G.T.builtins G.T.nolimit hg ho hi (Nat.le_trans hl h2) h4 hf hb (fun H q1 q2 => hs H a ns hl q1 q2) ?_
  exact fun H e s' => calm w H s1 e s'
end Rn
open PySem PySem.W PySem.Calls PyProof.Rows
theorem PySem.Challenge.cw_roundnets_k28_whole_rooms_and_pace_holds : PySem.Challenge.rw_roundnets_k28_whole_rooms_and_pace.Holds := by
  w_on; o_law
  refine HandSHeadRun.head_any (r := OpenLaw.row PySem.Challenge.rw_roundnets_k28_whole_rooms_and_pace) (q := view (OpenLaw.row PySem.Challenge.rw_roundnets_k28_whole_rooms_and_pace).prog [51]) (H := Rn.hk) (ob := Rn.ob) (M := 30000) (loose := Rn.loose) (d := HandSHeadRun.topDef (OpenLaw.row PySem.Challenge.rw_roundnets_k28_whole_rooms_and_pace).prog 51) (kwd := []) Rn.ob_eq
    (by kernel_rfl) (fun s => by kernel_rfl) Rn.head_run (by kernel_rfl) (by kernel_rfl) (by kernel_rfl) (by rfl) (by first | assumption | decide +kernel) (by decide +kernel) ⟨rfl, rfl, rfl, rfl, rfl, by decide +kernel⟩ ?hw ?hc
  case hw => w_witness2
  case hc =>
    refine Rn.law_walk (lw := PySem.Challenge.rw_roundnets_k28_whole_rooms_and_pace) (most := 63) (lev := 9) (fun w => L2.CX (PySem.Challenge.rw_roundnets_k28_whole_rooms_and_pace).prog w) "script" rfl (by decide) (by kernel_rfl) ⟨rfl, by decide, by decide⟩ ?F ?G
    case G =>
      rintro w H s e s' ⟨_, _, _, _, _, _, _, _, _, _, _, _, z⟩
      exact z
    case F =>
      intro w mg fa h Y G hmg0
      obtain ⟨K, KX, c⟩ := Y
      have hmg : mg ("law" : PySem.Str) = some (.ref fa) := by
        have e : (HandSHeadRun.topDef (OpenLaw.row PySem.Challenge.rw_roundnets_k28_whole_rooms_and_pace).prog 51).name = ("law" : PySem.Str) := by kernel_rfl
        rw [← e]
        exact hmg0
      obtain ⟨fd, F⟩ := c.def_ 38 (d := Rn.hd_law) rfl
      have e := hmg.symm.trans (He.glo_ok KX G (c.fact 38 (f := .glo "law") rfl))
      cases e
      have b := L2.FunD.bindsA (ps := ["script"]) F fun _ _ _ _ _ _ us hl => match us, hl with | [_], _ => rfl
      exact ⟨K, fd, Rn.spLawS K, KX, fun s v => b s [v] rfl, fun H a ns hl _ hS => ⟨a, ns, rfl, hS, hl, fun _ => rfl⟩, fun base _ _ => Rn.h_ends KX G c F⟩
