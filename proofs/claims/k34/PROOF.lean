import PyProof.Rows.All
import Wide.All
import OpenK.AllK
import Wide.FinOn
import HandS.Base
import HandS.Call
import HandS.Words
import HandS.Ends
import HandS.HeadHook1
import HandS.HeadEnd
import KE.KStateDown
import Lean
import HandS.More
import HandS.WordsExc
import HandS.Defaults
import HandS.Head0
import HandS.Head1
import HandS.Head2
import HandS.HeadHook2
import HandS.HeadHook3
import HandS.HeadHook4
import HandS.EndTab
import HandS.EndOwn
import HandS.HeadWalk
import KE.DataEq
import HandS.ForMost
import HandS.ForExc
import HandS.IsInst
import HandS.Wide
import HandS.Lambda
import HandS.ExcCtx
import HandS.HotCalls
import HandS.ExcIs
import HandS.TupMul
import HandS.TupAny
import HandS.Dict
import HandS.Small
import KE.GoesMore
import HandS.Style
import KE.SortData
import HandS.Flt
import HandS.Iter
import HandS.ExcBuiltin
import HandS.Conv
import HandS.CallLocal
import KE.DataMinMax
import KE.LtData
import HandS.TupLe
import KE.SortCalls
import HandS.TupSets
import PySem.Challenge.RW_roundnets_k34_whole_least_rooms
section
set_option Elab.async false
set_option linter.all false
set_option autoImplicit false
set_option maxRecDepth 100000
namespace Rn
open PySem PySem.Spec L2
def excN : List Str := ["InvalidNet", "InvalidStreams", "InvalidRound", "InvalidEvent", "InvalidInput", "InvalidArc", "InvalidNumber", "InvalidForm", "InvalidStores", "InvalidDues", "InvalidText", "Standstill", "NoTime", "Broken", "NoFit", "TooMany", "NothingToUndo"]
end Rn
end
section
set_option Elab.async false
set_option linter.all false
set_option maxRecDepth 100000
set_option maxHeartbeats 0
namespace Rn
open PySem PySem.Spec PyProof.Rows L2
def top (i : Nat) : Stmt := PySem.Challenge.pw_roundnets_k34_whole_least_rooms.main.body.getD i (.Pass ⟨0, 0, 0, 0⟩)
abbrev s__law_drawn : Stmt := top 43
abbrev s__law_roll : Stmt := top 44
abbrev s__law_renamed : Stmt := top 47
abbrev s__law_net : Stmt := top 46
abbrev s_is_whole : Stmt := top 8
abbrev s_is_source : Stmt := top 10
abbrev s_is_arc : Stmt := top 11
abbrev s_is_row : Stmt := top 12
abbrev s_is_shaped : Stmt := top 13
abbrev s_all_back : Stmt := top 16
abbrev s_event_of : Stmt := top 9
abbrev s_same_round : Stmt := top 14
abbrev s_order_of : Stmt := top 15
abbrev s_is_net : Stmt := top 17
abbrev s_need_net : Stmt := top 18
abbrev s_are_stores : Stmt := top 32
abbrev s_need_stores : Stmt := top 33
abbrev s_divisor : Stmt := top 20
abbrev s_lowest : Stmt := top 21
abbrev s_is_pace : Stmt := top 38
abbrev s_all_rooms : Stmt := top 37
abbrev s_is_less : Stmt := top 26
abbrev s_greatest : Stmt := top 27
abbrev s_rings_from : Stmt := top 22
abbrev s_rings_of : Stmt := top 23
abbrev s_measure : Stmt := top 24
abbrev s_ratio : Stmt := top 25
abbrev s_slowest_of : Stmt := top 28
abbrev s_with_rooms : Stmt := top 35
abbrev s_keeps : Stmt := top 39
abbrev s_least_rooms : Stmt := top 40
abbrev s__law_no_less : Stmt := top 48
abbrev s_need_rooms : Stmt := top 34
abbrev s_slowest_with : Stmt := top 36
abbrev s_slowest : Stmt := top 29
abbrev s__law_cell : Stmt := top 42
abbrev s__law_rounds : Stmt := top 45
abbrev s_law : Stmt := top 49
def hd__law_drawn : He.DefD := ⟨("_law_drawn", none), "_law_drawn", "_law_drawn", defArgs s__law_drawn, defBody s__law_drawn, defScope s__law_drawn, [], []⟩
def hd__law_roll : He.DefD := ⟨("_law_roll", none), "_law_roll", "_law_roll", defArgs s__law_roll, defBody s__law_roll, defScope s__law_roll, [], []⟩
def hd__law_renamed : He.DefD := ⟨("_law_renamed", none), "_law_renamed", "_law_renamed", defArgs s__law_renamed, defBody s__law_renamed, defScope s__law_renamed, [], []⟩
def hd__law_net : He.DefD := ⟨("_law_net", none), "_law_net", "_law_net", defArgs s__law_net, defBody s__law_net, defScope s__law_net, [], []⟩
def hd_is_whole : He.DefD := ⟨("is_whole", none), "is_whole", "is_whole", defArgs s_is_whole, defBody s_is_whole, defScope s_is_whole, [], []⟩
def hd_is_source : He.DefD := ⟨("is_source", none), "is_source", "is_source", defArgs s_is_source, defBody s_is_source, defScope s_is_source, [], []⟩
def hd_is_arc : He.DefD := ⟨("is_arc", none), "is_arc", "is_arc", defArgs s_is_arc, defBody s_is_arc, defScope s_is_arc, [], []⟩
def hd_is_row : He.DefD := ⟨("is_row", none), "is_row", "is_row", defArgs s_is_row, defBody s_is_row, defScope s_is_row, [], []⟩
def hd_is_shaped : He.DefD := ⟨("is_shaped", none), "is_shaped", "is_shaped", defArgs s_is_shaped, defBody s_is_shaped, defScope s_is_shaped, [], []⟩
def hd_all_back : He.DefD := ⟨("all_back", none), "all_back", "all_back", defArgs s_all_back, defBody s_all_back, defScope s_all_back, [], []⟩
def hd_event_of : He.DefD := ⟨("event_of", none), "event_of", "event_of", defArgs s_event_of, defBody s_event_of, defScope s_event_of, [], []⟩
def hd_same_round : He.DefD := ⟨("same_round", none), "same_round", "same_round", defArgs s_same_round, defBody s_same_round, defScope s_same_round, [], []⟩
def hd_order_of : He.DefD := ⟨("order_of", none), "order_of", "order_of", defArgs s_order_of, defBody s_order_of, defScope s_order_of, [], []⟩
def hd_is_net : He.DefD := ⟨("is_net", none), "is_net", "is_net", defArgs s_is_net, defBody s_is_net, defScope s_is_net, [], []⟩
def hd_need_net : He.DefD := ⟨("need_net", none), "need_net", "need_net", defArgs s_need_net, defBody s_need_net, defScope s_need_net, [], []⟩
def hd_are_stores : He.DefD := ⟨("are_stores", none), "are_stores", "are_stores", defArgs s_are_stores, defBody s_are_stores, defScope s_are_stores, [], []⟩
def hd_need_stores : He.DefD := ⟨("need_stores", none), "need_stores", "need_stores", defArgs s_need_stores, defBody s_need_stores, defScope s_need_stores, [], []⟩
def hd_divisor : He.DefD := ⟨("divisor", none), "divisor", "divisor", defArgs s_divisor, defBody s_divisor, defScope s_divisor, [], []⟩
def hd_lowest : He.DefD := ⟨("lowest", none), "lowest", "lowest", defArgs s_lowest, defBody s_lowest, defScope s_lowest, [], []⟩
def hd_is_pace : He.DefD := ⟨("is_pace", none), "is_pace", "is_pace", defArgs s_is_pace, defBody s_is_pace, defScope s_is_pace, [], []⟩
def hd_all_rooms : He.DefD := ⟨("all_rooms", none), "all_rooms", "all_rooms", defArgs s_all_rooms, defBody s_all_rooms, defScope s_all_rooms, [], []⟩
def hd_is_less : He.DefD := ⟨("is_less", none), "is_less", "is_less", defArgs s_is_less, defBody s_is_less, defScope s_is_less, [], []⟩
def hd_greatest : He.DefD := ⟨("greatest", none), "greatest", "greatest", defArgs s_greatest, defBody s_greatest, defScope s_greatest, [], []⟩
def hd_rings_from : He.DefD := ⟨("rings_from", none), "rings_from", "rings_from", defArgs s_rings_from, defBody s_rings_from, defScope s_rings_from, [], []⟩
def hd_rings_of : He.DefD := ⟨("rings_of", none), "rings_of", "rings_of", defArgs s_rings_of, defBody s_rings_of, defScope s_rings_of, [], []⟩
def hd_measure : He.DefD := ⟨("measure", none), "measure", "measure", defArgs s_measure, defBody s_measure, defScope s_measure, [], []⟩
def hd_ratio : He.DefD := ⟨("ratio", none), "ratio", "ratio", defArgs s_ratio, defBody s_ratio, defScope s_ratio, [], []⟩
def hd_slowest_of : He.DefD := ⟨("slowest_of", none), "slowest_of", "slowest_of", defArgs s_slowest_of, defBody s_slowest_of, defScope s_slowest_of, [], []⟩
def hd_with_rooms : He.DefD := ⟨("with_rooms", none), "with_rooms", "with_rooms", defArgs s_with_rooms, defBody s_with_rooms, defScope s_with_rooms, [], []⟩
def hd_keeps : He.DefD := ⟨("keeps", none), "keeps", "keeps", defArgs s_keeps, defBody s_keeps, defScope s_keeps, [], []⟩
def hd_least_rooms : He.DefD := ⟨("least_rooms", none), "least_rooms", "least_rooms", defArgs s_least_rooms, defBody s_least_rooms, defScope s_least_rooms, [], []⟩
def hd__law_no_less : He.DefD := ⟨("_law_no_less", none), "_law_no_less", "_law_no_less", defArgs s__law_no_less, defBody s__law_no_less, defScope s__law_no_less, [], []⟩
def hd_need_rooms : He.DefD := ⟨("need_rooms", none), "need_rooms", "need_rooms", defArgs s_need_rooms, defBody s_need_rooms, defScope s_need_rooms, [], []⟩
def hd_slowest_with : He.DefD := ⟨("slowest_with", none), "slowest_with", "slowest_with", defArgs s_slowest_with, defBody s_slowest_with, defScope s_slowest_with, [], []⟩
def hd_slowest : He.DefD := ⟨("slowest", none), "slowest", "slowest", defArgs s_slowest, defBody s_slowest, defScope s_slowest, [], []⟩
def hd__law_cell : He.DefD := ⟨("_law_cell", none), "_law_cell", "_law_cell", defArgs s__law_cell, defBody s__law_cell, defScope s__law_cell, [], []⟩
def hd__law_rounds : He.DefD := ⟨("_law_rounds", none), "_law_rounds", "_law_rounds", defArgs s__law_rounds, defBody s__law_rounds, defScope s__law_rounds, [], []⟩
def hd_law : He.DefD := ⟨("law", none), "law", "law", defArgs s_law, defBody s_law, defScope s_law, [], []⟩
def hfn0 : List He.DefD := [hd__law_drawn, hd__law_roll, hd__law_renamed, hd__law_net, hd_is_whole, hd_is_source, hd_is_arc, hd_is_row, hd_is_shaped, hd_all_back, hd_event_of, hd_same_round, hd_order_of, hd_is_net, hd_need_net]
def hfn1 : List He.DefD := [hd_are_stores, hd_need_stores, hd_divisor, hd_lowest, hd_is_pace, hd_all_rooms, hd_is_less, hd_greatest, hd_rings_from, hd_rings_of, hd_measure, hd_ratio, hd_slowest_of, hd_with_rooms, hd_keeps]
def hfn2 : List He.DefD := [hd_least_rooms, hd__law_no_less, hd_need_rooms, hd_slowest_with, hd_slowest, hd__law_cell, hd__law_rounds, hd_law]
def hfn : List He.DefD := hfn0 ++ hfn1 ++ hfn2
def hfa0 : List He.Fa := [.glo "_law_drawn", .glo "_law_roll", .glo "_law_renamed", .glo "_law_net", .glo "is_whole", .glo "is_source", .glo "is_arc", .glo "is_row", .glo "is_shaped", .glo "all_back", .glo "event_of", .glo "same_round", .glo "order_of", .glo "is_net", .glo "need_net"]
def hfa1 : List He.Fa := [.glo "are_stores", .glo "need_stores", .glo "divisor", .glo "lowest", .glo "is_pace", .glo "all_rooms", .glo "is_less", .glo "greatest", .glo "rings_from", .glo "rings_of", .glo "measure", .glo "ratio", .glo "slowest_of", .glo "with_rooms", .glo "keeps"]
def hfa2 : List He.Fa := [.glo "least_rooms", .glo "_law_no_less", .glo "need_rooms", .glo "slowest_with", .glo "slowest", .glo "_law_cell", .glo "_law_rounds", .glo "law", .free "ValueError", .free "abs", .free "all", .free "any", .free "bool", .free "enumerate", .free "int"]
def hfa3 : List He.Fa := [.free "isinstance", .free "len", .free "list", .free "max", .free "min", .free "range", .free "set", .free "sorted", .free "str", .free "sum", .free "tuple", .int "MOST_EVENTS" 5, .int "MOST_BACK" 8, .int "MOST_ROOMS" 6, .glo "RoundError"]
def hfa4 : List He.Fa := [.glo "InvalidNet", .glo "InvalidNumber", .glo "InvalidStores", .exc "RoundError", .exc "InvalidNet", .exc "InvalidNumber", .exc "InvalidStores"]
def hfa : List He.Fa := hfa0 ++ hfa1 ++ hfa2 ++ hfa3 ++ hfa4
def loose0 : List PySem.Str := ["RoundError", "InvalidNet", "InvalidNumber", "InvalidStores", "MOST_EVENTS", "MOST_BACK", "is_whole", "event_of", "is_source", "is_arc", "is_row", "is_shaped", "same_round", "order_of", "all_back"]
def loose1 : List PySem.Str := ["is_net", "need_net", "divisor", "lowest", "rings_from", "rings_of", "measure", "ratio", "is_less", "greatest", "slowest_of", "slowest", "MOST_ROOMS", "are_stores", "need_stores"]
def loose2 : List PySem.Str := ["need_rooms", "with_rooms", "slowest_with", "all_rooms", "is_pace", "keeps", "least_rooms", "_law_cell", "_law_drawn", "_law_roll", "_law_rounds", "_law_net", "_law_renamed", "_law_no_less"]
def loose : List PySem.Str := loose0 ++ loose1 ++ loose2
abbrev R0 : PySem.W.OpenRow := PySem.W.OpenLaw.row PySem.Challenge.rw_roundnets_k34_whole_least_rooms
abbrev hk : PySem.W.Hook := He.hookD 4 hfa hfn
def ob (s : PySem.W.SharedT) : He.AlD := He.obsDG 4 hfa hfn (HandSHeadRun.getT s)
theorem ob_eq (s : PySem.W.SharedT) : ob s = hk.obs s.abs := He.obsDG_eq (HandSHeadRun.getT_eq s)
theorem head_run (w : World) : HandSHeadRun.RunEq R0 (PySem.W.view R0.prog [49]) hk ob 30000 loose w := by
  intro os
  kernel_rfl
end Rn
end
section
set_option Elab.async false
set_option linter.all false
set_option maxRecDepth 100000
namespace Rn
open PySem PySem.Spec L2
abbrev D := PyData
def keyD : Key → D
  | .inl i => .int i
  | .inr x => .str x
mutual
/-- the value v is the data d, by objects of F alone -/
def Den (F : Hp) : D → V → Prop
  | .none, v => v = .non
  | .bool b, v => v = .bl b
  | .int i, v => v = .int i
  | .str x, v => v = .str x
  | .list ds, v => ∃ a vs, v = .ref a ∧ F a = some (.lst vs) ∧ DenL F ds vs
  | .tuple ds, v => ∃ a vs, v = .ref a ∧ F a = some (.tup vs) ∧ DenL F ds vs
  | .dict kds, v => (∃ a kvs, v = .ref a ∧ F a = some (.dK kvs) ∧ DenK F kds kvs) ∨ (∃ a kvs, v = .ref a ∧ F a = some (.dT kvs) ∧ DenT0 F kds kvs) ∨ ∃ a C dx fs, v = .ref a ∧ F a = some (.ins C dx fs) ∧ DenI0 F kds C fs
def DenL (F : Hp) : List D → List V → Prop
  | [], vs => vs = []
  | d :: ds, vs => ∃ v r, vs = v :: r ∧ Den F d v ∧ DenL F ds r
def DenK (F : Hp) : List (D × D) → List (Key × V) → Prop
  | [], kvs => kvs = []
  | (k, d) :: ds, kvs => ∃ q v r, kvs = (q, v) :: r ∧ keyD q = k ∧ Den F d v ∧ DenK F ds r
/-- a dict whose keys are tuples: its data begin with a mark, the key None -/
def DenT0 (F : Hp) : List (D × D) → List (List Key × V) → Prop
  | [], _ => False
  | (k, _) :: ds, kvs => k = .none ∧ DenT F ds kvs
def DenT (F : Hp) : List (D × D) → List (List Key × V) → Prop
  | [], kvs => kvs = []
  | (k, d) :: ds, kvs => ∃ q v r, kvs = (q, v) :: r ∧ k = .tuple (q.map keyD) ∧ Den F d v ∧ DenT F ds r
/-- an instance of the class at C: its data begin with a mark, the key True, and the class; then its attributes -/
def DenI0 (F : Hp) : List (D × D) → Addr → List (Str × V) → Prop
  | [], _, _ => False
  | (k, d) :: ds, C, fs => k = .bool true ∧ d = .int (C : Nat) ∧ DenI F ds fs
def DenI (F : Hp) : List (D × D) → List (Str × V) → Prop
  | [], fs => fs = []
  | (k, d) :: ds, fs => ∃ q v r, fs = (q, v) :: r ∧ k = .str q ∧ Den F d v ∧ DenI F ds r
end
mutual
theorem Den.mono {F F' : Hp} (s : Same F F') : ∀ {d : D} {v : V}, Den F d v → Den F' d v
  | .none, _, h => h
  | .bool _, _, h => h
  | .int _, _, h => h
  | .str _, _, h => h
  | .list ds, _, ⟨a, vs, e, h, l⟩ => ⟨a, vs, e, s _ _ h, DenL.mono s l⟩
  | .tuple ds, _, ⟨a, vs, e, h, l⟩ => ⟨a, vs, e, s _ _ h, DenL.mono s l⟩
  | .dict kds, _, .inl ⟨a, vs, e, h, l⟩ => .inl ⟨a, vs, e, s _ _ h, DenK.mono s l⟩
  | .dict kds, _, .inr (.inl ⟨a, vs, e, h, l⟩) => .inr (.inl ⟨a, vs, e, s _ _ h, DenT0.mono s l⟩)
  | .dict kds, _, .inr (.inr ⟨a, C, dx, fs, e, h, l⟩) => .inr (.inr ⟨a, C, dx, fs, e, s _ _ h, DenI0.mono s l⟩)
theorem DenL.mono {F F' : Hp} (s : Same F F') : ∀ {ds : List D} {vs : List V}, DenL F ds vs → DenL F' ds vs
  | [], _, h => h
  | _ :: _, _, ⟨v, r, e, h, l⟩ => ⟨v, r, e, Den.mono s h, DenL.mono s l⟩
theorem DenK.mono {F F' : Hp} (s : Same F F') : ∀ {ds : List (D × D)} {vs : List (Key × V)}, DenK F ds vs → DenK F' ds vs
  | [], _, h => h
  | (_, _) :: _, _, ⟨q, v, r, e, k, h, l⟩ => ⟨q, v, r, e, k, Den.mono s h, DenK.mono s l⟩
theorem DenT0.mono {F F' : Hp} (s : Same F F') : ∀ {ds : List (D × D)} {vs : List (List Key × V)}, DenT0 F ds vs → DenT0 F' ds vs
  | [], _, h => h
  | (_, _) :: _, _, ⟨h, l⟩ => ⟨h, DenT.mono s l⟩
theorem DenT.mono {F F' : Hp} (s : Same F F') : ∀ {ds : List (D × D)} {vs : List (List Key × V)}, DenT F ds vs → DenT F' ds vs
  | [], _, h => h
  | (_, _) :: _, _, ⟨q, v, r, e, k, h, l⟩ => ⟨q, v, r, e, k, Den.mono s h, DenT.mono s l⟩
theorem DenI0.mono {F F' : Hp} (s : Same F F') : ∀ {ds : List (D × D)} {C : Addr} {fs : List (Str × V)}, DenI0 F ds C fs → DenI0 F' ds C fs
  | [], _, _, h => h
  | (_, _) :: _, _, _, ⟨h, g, l⟩ => ⟨h, g, DenI.mono s l⟩
theorem DenI.mono {F F' : Hp} (s : Same F F') : ∀ {ds : List (D × D)} {fs : List (Str × V)}, DenI F ds fs → DenI F' ds fs
  | [], _, h => h
  | (_, _) :: _, _, ⟨q, v, r, e, k, h, l⟩ => ⟨q, v, r, e, k, Den.mono s h, DenI.mono s l⟩
end
theorem DenL.len {F : Hp} : ∀ {ds : List D} {vs : List V}, DenL F ds vs → ds.length = vs.length
  | [], _, h => by cases h; rfl
  | _ :: _, _, ⟨v, r, e, _, l⟩ => by cases e; simp [DenL.len l]
theorem DenL.get {F : Hp} : ∀ {ds : List D} {vs : List V} {i : Nat} {d : D}, DenL F ds vs → ds[i]? = some d → ∃ v, vs[i]? = some v ∧ Den F d v
  | [], _, _, _, _, e => by simp at e
  | _ :: _, _, 0, _, ⟨v, r, q, h, l⟩, e => by cases q; simp at e; subst e; exact ⟨v, rfl, h⟩
  | _ :: _, _, i + 1, d, ⟨v, r, q, h, l⟩, e => by
    cases q
    obtain ⟨u, h1, h2⟩ := DenL.get (i := i) (d := d) l (by simpa using e)
    exact ⟨u, by simpa using h1, h2⟩
theorem DenL.got {F : Hp} : ∀ {ds : List D} {vs : List V} {i : Nat} {v : V}, DenL F ds vs → vs[i]? = some v → ∃ d, ds[i]? = some d ∧ Den F d v
  | [], _, _, _, h, e => by cases h; simp at e
  | d :: _, _, 0, _, ⟨v, r, q, h, l⟩, e => by cases q; simp at e; subst e; exact ⟨d, rfl, h⟩
  | _ :: _, _, i + 1, d, ⟨v, r, q, h, l⟩, e => by
    cases q
    obtain ⟨u, h1, h2⟩ := DenL.got (i := i) (v := d) l (by simpa using e)
    exact ⟨u, by simpa using h1, h2⟩
theorem DenL.of_get {F : Hp} : ∀ {ds : List D} {vs : List V}, ds.length = vs.length → (∀ (i : Nat) d v, ds[i]? = some d → vs[i]? = some v → Den F d v) → DenL F ds vs
  | [], [], _, _ => rfl
  | [], _ :: _, h, _ => by simp at h
  | _ :: _, [], h, _ => by simp at h
  | d :: ds, v :: vs, h, g => ⟨v, vs, rfl, g 0 d v rfl rfl, DenL.of_get (by simpa using h) fun i d v a b => g (i + 1) d v (by simpa using a) (by simpa using b)⟩
theorem DenL.app {F : Hp} : ∀ {ds es : List D} {vs ws : List V}, DenL F ds vs → DenL F es ws → DenL F (ds ++ es) (vs ++ ws)
  | [], _, _, _, h, g => by cases h; exact g
  | _ :: _, _, _, _, ⟨v, r, q, h, l⟩, g => by cases q; exact ⟨v, _, rfl, h, DenL.app l g⟩
theorem DenL.one {F : Hp} {d : D} {v : V} (h : Den F d v) : DenL F [d] [v] := ⟨v, [], rfl, h, rfl⟩
theorem DenL.take {F : Hp} : ∀ {ds : List D} {vs : List V} (n : Nat), DenL F ds vs → DenL F (ds.take n) (vs.take n)
  | [], _, n, h => by cases h; simp [DenL]
  | _ :: _, _, 0, h => by simp [DenL]
  | _ :: _, _, n + 1, ⟨v, r, q, h, l⟩ => by cases q; exact ⟨v, _, rfl, h, DenL.take n l⟩
theorem DenL.drop {F : Hp} : ∀ {ds : List D} {vs : List V} (n : Nat), DenL F ds vs → DenL F (ds.drop n) (vs.drop n)
  | [], _, n, h => by cases h; simp [DenL]
  | _ :: _, _, 0, h => h
  | _ :: _, _, n + 1, ⟨v, r, q, h, l⟩ => by cases q; exact DenL.drop n l
theorem DenL.set {F : Hp} {d : D} {v : V} (g : Den F d v) : ∀ {ds : List D} {vs : List V} (n : Nat), DenL F ds vs → DenL F (ds.set n d) (vs.set n v)
  | [], _, n, h => by cases h; simp [DenL]
  | _ :: _, _, 0, ⟨u, r, q, h, l⟩ => by cases q; exact ⟨v, r, rfl, g, l⟩
  | _ :: _, _, n + 1, ⟨u, r, q, h, l⟩ => by cases q; exact ⟨u, _, rfl, h, DenL.set g n l⟩
theorem DenL.dropLast {F : Hp} {ds : List D} {vs : List V} (h : DenL F ds vs) : DenL F ds.dropLast vs.dropLast := by
  rw [List.dropLast_eq_take, List.dropLast_eq_take, ← h.len]
  exact h.take _
theorem DenL.rep {F : Hp} {ds : List D} {vs : List V} (h : DenL F ds vs) : ∀ k : Nat, DenL F (List.replicate k ds).flatten (List.replicate k vs).flatten
  | 0 => rfl
  | k + 1 => by
    rw [List.replicate_succ, List.replicate_succ, List.flatten_cons, List.flatten_cons]
    exact h.app (DenL.rep h k)
theorem DenL.of_ints {F : Hp} : ∀ {ns : List Int} {vs : List V}, DenL F (ns.map PyData.int) vs → vs = ns.map V.int
  | [], _, h => h
  | n :: ns, _, ⟨v, r, e, h, l⟩ => by subst e; rw [DenL.of_ints l, show v = V.int n from h]; rfl
theorem DenL.of_bools {F : Hp} : ∀ {bs : List Bool} {vs : List V}, DenL F (bs.map PyData.bool) vs → vs = bs.map V.bl
  | [], _, h => h
  | n :: ns, _, ⟨v, r, e, h, l⟩ => by subst e; rw [DenL.of_bools l, show v = V.bl n from h]; rfl
/-- the object o is the list, dict or instance d -/
def Shal (F : Hp) : D → HO → Prop
  | .list ds, .lst vs => DenL F ds vs
  | .dict kds, .dK kvs => DenK F kds kvs
  | .dict kds, .ins C _ fs => DenI0 F kds C fs
  | _, _ => False
theorem Shal.mono {F F' : Hp} (s : Same F F') {d : D} {o : HO} (h : Shal F d o) : Shal F' d o := by
  cases d <;> cases o <;> first | exact h | exact DenL.mono s h | exact DenK.mono s h | exact DenI0.mono s h
theorem Shal.den {F : Hp} {d : D} {o : HO} {a : Addr} (h : Shal F d o) (e : F a = some o) : Den F d (.ref a) := by
  cases d <;> cases o <;> first | exact h.elim | exact ⟨_, _, rfl, e, h⟩ | exact Or.inl ⟨_, _, rfl, e, h⟩ | exact Or.inr (Or.inr ⟨_, _, _, _, rfl, e, h⟩)
theorem Shal.lst {F : Hp} {ds : List D} {o : HO} (h : Shal F (.list ds) o) : ∃ vs, o = .lst vs ∧ DenL F ds vs := by
  cases o <;> first | exact h.elim | exact ⟨_, rfl, h⟩
/-- the data of an instance -/
def isIN : List (D × D) → Bool
  | (.bool _, _) :: _ => true
  | _ => false
theorem DenI0.inn {F : Hp} : ∀ {kds : List (D × D)} {C : Addr} {fs : List (Str × V)}, DenI0 F kds C fs → isIN kds = true
  | [], _, _, h => h.elim
  | (k, _) :: _, _, _, ⟨h, _⟩ => by subst h; rfl
theorem Shal.dic {F : Hp} {ds : List (D × D)} {o : HO} (h : Shal F (.dict ds) o) (n : isIN ds = false) : ∃ vs, o = .dK vs ∧ DenK F ds vs := by
  cases o <;> first | exact h.elim | exact ⟨_, rfl, h⟩ | exact absurd (DenI0.inn h) (by rw [n]; decide)
theorem Shal.cases {F : Hp} {d : D} {o : HO} (h : Shal F d o) : (∃ ds vs, d = .list ds ∧ o = .lst vs ∧ DenL F ds vs) ∨ (∃ ds vs, d = .dict ds ∧ o = .dK vs ∧ DenK F ds vs) ∨ ∃ ds C dx fs, d = .dict ds ∧ o = .ins C dx fs ∧ DenI0 F ds C fs := by
  cases d <;> cases o <;> first | exact h.elim | exact .inl ⟨_, _, rfl, rfl, h⟩ | exact .inr (.inl ⟨_, _, rfl, rfl, h⟩) | exact .inr (.inr ⟨_, _, _, _, rfl, rfl, h⟩)
inductive Cell where
  | no
  | fz (d : D)
  | ow (d : D)
  | va (k : Nat)
  | bw (d : D)
abbrev Rho := List Cell
def Cell.own : Cell → Bool
  | .ow _ => true
  | .bw _ => true
  | _ => false
inductive R (α : Type) where
  | ok (a : α) (r : Rho)
  | ex (c : Str) (r : Rho)
  | no
abbrev M (α : Type) := Rho → R α
structure Bd where
  H0 : Hp
  F0 : Hp
  bs : List Addr
  T : List (Addr × Str)
  vals : List V
/-- a list, a dict or an instance -/
def LD (o : HO) : Prop := (∃ vs, o = .lst vs) ∨ (∃ kvs, o = .dK kvs) ∨ (∃ C dx fs, o = .ins C dx fs) ∨ ∃ kvs, o = .dT kvs
theorem LD.tbl {ps : Array Value} (h : LD (.tbl ps)) : False := by
  rcases h with ⟨_, h⟩ | ⟨_, h⟩ | ⟨_, _, _, h⟩ | ⟨_, h⟩ <;> cases h
theorem LD.code {c : Addr} {q : Str} (h : LD (LamX.CodeO c q)) : False := by
  unfold LamX.CodeO at h
  rcases h with ⟨_, h⟩ | ⟨_, h⟩ | ⟨_, _, _, h⟩ | ⟨_, h⟩ <;> cases h
theorem Shal.ld {F : Hp} {d : D} {o : HO} (h : Shal F d o) : LD o := by
  rcases h.cases with ⟨_, vs, _, e, _⟩ | ⟨_, vs, _, e, _⟩ | ⟨_, C, dx, fs, _, e, _⟩
  · exact .inl ⟨vs, e⟩
  · exact .inr (.inl ⟨vs, e⟩)
  · exact .inr (.inr (.inl ⟨C, dx, fs, e⟩))
/-- the tables stay when no more than a list or a dict changes -/
theorem tabs_but {T : List (Addr × Str)} {H H' : Hp} {a : Addr} (t : LamX.Tabs T H) (hb : ∀ b x, H b = some x → b ≠ a → H' b = some x) (ha : ∀ x, H a = some x → LD x) : LamX.Tabs T H' := by
  intro p hp
  obtain ⟨ps, h1, h2, h3⟩ := t p hp
  refine ⟨ps, hb _ _ h1 (fun z => ?_), h2, fun pos cv hc => ?_⟩
  · rw [z] at h1
    exact (ha _ h1).tbl
  · obtain ⟨c, e, hc'⟩ := h3 pos cv hc
    refine ⟨c, e, hb _ _ hc' fun z => ?_⟩
    rw [z] at hc'
    exact (ha _ hc').code
theorem tabs_at {T : List (Addr × Str)} {H : Hp} (t : LamX.Tabs T H) {a : Addr} (h : ∀ ps, H a ≠ some (.tbl ps)) : ∀ q ∈ T, q.1 ≠ a := fun q hq e => by
  obtain ⟨ps, h1, _⟩ := t q hq
  rw [e] at h1
  exact h ps h1
theorem none_tbl {H : Hp} {a : Addr} (h : H a = none) : ∀ ps, H a ≠ some (.tbl ps) := fun ps e => by rw [h] at e; cases e
theorem ld_tbl {H : Hp} {a : Addr} {o : HO} (h : H a = some o) (l : LD o) : ∀ ps, H a ≠ some (.tbl ps) := fun ps e => by
  rw [h] at e
  cases e
  exact l.tbl
def CellOk (B : Bd) (F H : Hp) (v : Option V) : Cell → Prop
  | .no => True
  | .fz d => ∃ u, v = some u ∧ Den F d u
  | .ow d => ∃ a o, v = some (.ref a) ∧ H a = some o ∧ Shal F d o ∧ F a = none ∧ B.H0 a = none
  | .bw d => ∃ a o, v = some (.ref a) ∧ H a = some o ∧ Shal F d o ∧ F a = none ∧ a ∈ B.bs
  | .va k => ∃ u, B.vals[k]? = some u ∧ v = some u
def Owns (σ : L2.St) (ρ : Rho) (a : Addr) : Prop := ∃ (i : Nat) (c : Cell), σ[i]? = some (some (V.ref a)) ∧ ρ[i]? = some c ∧ c.own = true
structure Mt (B : Bd) (F H : Hp) (σ : L2.St) (ρ : Rho) : Prop where
  sub : Same F H
  old : Same B.F0 F
  new : ∀ a o, F a = some o → B.F0 a = some o ∨ B.H0 a = none
  frm : ∀ a o, B.H0 a = some o → a ∉ B.bs → (∀ q ∈ B.T, q.1 ≠ a) → H a = some o
  dom : ∀ a, H a = none → B.H0 a = none
  len : ρ.length = σ.length
  cell : ∀ (i : Nat) (v : Option V) (c : Cell), σ[i]? = some v → ρ[i]? = some c → CellOk B F H v c
  apart : ∀ (i j : Nat) (a : Addr) (c c' : Cell), σ[i]? = some (some (.ref a)) → σ[j]? = some (some (.ref a)) → ρ[i]? = some c → ρ[j]? = some c' → c.own = true → c'.own = true → i = j
  tabs : LamX.Tabs B.T H
  ntab : ∀ q ∈ B.T, F q.1 = none
/-- what an expression may do to a cell -/
def KStep : Cell → Cell → Prop
  | .no, .no => True
  | .fz d, .fz e => d = e
  | .ow _, .ow _ => True
  | .ow _, .fz _ => True
  | .bw _, .bw _ => True
  | .va u, .va w => u = w
  | _, _ => False
theorem KStep.refl : ∀ c : Cell, KStep c c
  | .no => trivial
  | .fz _ => rfl
  | .ow _ => trivial
  | .bw _ => trivial
  | .va _ => rfl
theorem KStep.trans : ∀ {a b c : Cell}, KStep a b → KStep b c → KStep a c := by
  intro a b c h g
  cases a <;> cases b <;> cases c <;> first | exact h.elim | exact g.elim | exact trivial | exact (show _ = _ from h).trans g
structure Stp (B : Bd) (F H : Hp) (σ : L2.St) (ρ : Rho) (F' H' : Hp) (ρ' : Rho) : Prop where
  mt : Mt B F' H' σ ρ'
  old : Same F F'
  new : ∀ a o, F' a = some o → F a = some o ∨ H a = none ∨ Owns σ ρ a
  frm : ∀ a o, H a = some o → ¬ Owns σ ρ a → (∀ q ∈ B.T, q.1 ≠ a) → H' a = some o
  dom : ∀ a, H' a = none → H a = none
  own : ∀ a, Owns σ ρ' a → Owns σ ρ a
  kind : ∀ (i : Nat) (c : Cell), ρ[i]? = some c → ∃ c', ρ'[i]? = some c' ∧ KStep c c'
structure Ext (F H F' H' : Hp) : Prop where
  same : Same H H'
  old : Same F F'
  sub : Same F' H'
  new : ∀ a o, F' a = some o → F a = some o ∨ H a = none
theorem Ext.refl {F H : Hp} (h : Same F H) : Ext F H F H := ⟨Same.refl _, Same.refl _, h, fun _ _ e => .inl e⟩
theorem Ext.trans {F H F1 H1 F2 H2 : Hp} (x : Ext F H F1 H1) (y : Ext F1 H1 F2 H2) : Ext F H F2 H2 where
  same := x.same.trans y.same
  old := x.old.trans y.old
  sub := y.sub
  new := fun a o e => by
    rcases y.new a o e with h | h
    · exact x.new a o h
    · exact .inr (x.same.free h)
theorem same_upd {H : Hp} {p : Addr} {o : HO} (h : H p = none) : Same H (upd H p o) := fun b x e => by
  rw [upd_ne (ne_of_none e h)]
  exact e
theorem same_upd2 {F H : Hp} (s : Same F H) (p : Addr) (o : HO) : Same (upd F p o) (upd H p o) := fun b x e => by
  by_cases hb : b = p
  · subst hb; rw [upd_same] at e ⊢; exact e
  · rw [upd_ne hb] at e ⊢; exact s _ _ e
/-- a new object, frozen -/
theorem Ext.laid {F H : Hp} (s : Same F H) {p : Addr} (n : H p = none) (o : HO) : Ext F H (upd F p o) (upd H p o) where
  same := same_upd n
  old := same_upd (s.free n)
  sub := same_upd2 s p o
  new := fun a x e => by
    by_cases hb : a = p
    · subst hb; exact .inr n
    · rw [upd_ne hb] at e; exact .inl e
/-- a new object, not frozen -/
theorem Ext.loose {F H : Hp} (s : Same F H) {p : Addr} (n : H p = none) (o : HO) : Ext F H F (upd H p o) where
  same := same_upd n
  old := Same.refl _
  sub := s.trans (same_upd n)
  new := fun a x e => .inl e
section
variable {B : Bd} {F H F' H' F2 H2 : Hp} {σ : L2.St} {ρ ρ' ρ2 : Rho}
theorem Mt.refl (m : Mt B F H σ ρ) : Stp B F H σ ρ F H ρ := ⟨m, Same.refl _, fun _ _ e => .inl e, fun _ _ e _ _ => e, fun _ e => e, fun _ e => e, fun _ c e => ⟨c, e, KStep.refl c⟩⟩
theorem Mt.hasOwn (m : Mt B F H σ ρ) {a : Addr} (h : Owns σ ρ a) : F a = none ∧ ∃ o, H a = some o := by
  obtain ⟨i, c, h1, h2, h3⟩ := h
  have q := m.cell i _ c h1 h2
  cases c with
  | no => cases h3
  | fz d => cases h3
  | ow d => obtain ⟨b, o, e, f, _, g, _⟩ := q; cases e; exact ⟨g, o, f⟩
  | va d => cases h3
  | bw d => obtain ⟨b, o, e, f, _, g, _⟩ := q; cases e; exact ⟨g, o, f⟩
theorem Mt.noOwn (m : Mt B F H σ ρ) {a : Addr} (h : H a = none) : ¬ Owns σ ρ a := fun x => by
  obtain ⟨_, o, e⟩ := m.hasOwn x
  rw [h] at e; cases e
theorem Stp.trans (x : Stp B F H σ ρ F' H' ρ') (y : Stp B F' H' σ ρ' F2 H2 ρ2) : Stp B F H σ ρ F2 H2 ρ2 where
  mt := y.mt
  old := x.old.trans y.old
  new := fun a o e => by
    rcases y.new a o e with h | h | h
    · exact x.new a o h
    · exact .inr (.inl (x.dom _ h))
    · exact .inr (.inr (x.own _ h))
  frm := fun a o e n t => y.frm a o (x.frm a o e n t) (fun q => n (x.own _ q)) t
  dom := fun a e => x.dom _ (y.dom _ e)
  own := fun a e => x.own _ (y.own _ e)
  kind := fun i c e => by
    obtain ⟨c1, e1, k1⟩ := x.kind i c e
    obtain ⟨c2, e2, k2⟩ := y.kind i c1 e1
    exact ⟨c2, e2, k1.trans k2⟩
/-- the heap grows -/
theorem Mt.grow (m : Mt B F H σ ρ) (e : Ext F H F' H') : Mt B F' H' σ ρ where
  sub := e.sub
  old := m.old.trans e.old
  new := fun a o h => by
    rcases e.new a o h with q | q
    · exact m.new a o q
    · exact .inr (m.dom _ q)
  frm := fun a o h n t => e.same _ _ (m.frm a o h n t)
  dom := fun a h => m.dom _ (e.same.free h)
  len := m.len
  cell := fun i v c h1 h2 => by
    have q := m.cell i v c h1 h2
    cases c with
    | no => trivial
    | fz d => obtain ⟨u, a, b⟩ := q; exact ⟨u, a, b.mono e.old⟩
    | ow d =>
      obtain ⟨a, o, h1, h2, h3, h4, h5⟩ := q
      refine ⟨a, o, h1, e.same _ _ h2, h3.mono e.old, ?_, h5⟩
      cases w : F' a with
      | none => rfl
      | some u =>
        rcases e.new a u w with z | z
        · rw [h4] at z; cases z
        · rw [h2] at z; cases z
    | va d => exact q
    | bw d =>
      obtain ⟨a, o, h1, h2, h3, h4, h5⟩ := q
      refine ⟨a, o, h1, e.same _ _ h2, h3.mono e.old, ?_, h5⟩
      cases w : F' a with
      | none => rfl
      | some u =>
        rcases e.new a u w with z | z
        · rw [h4] at z; cases z
        · rw [h2] at z; cases z
  apart := m.apart
  tabs := m.tabs.ext e.same
  ntab := fun q hq => by
    cases w : F' q.1 with
    | none => rfl
    | some o =>
      rcases e.new _ o w with z | z
      · rw [m.ntab q hq] at z; cases z
      · obtain ⟨ps, h1, _⟩ := m.tabs q hq
        rw [h1] at z; cases z
theorem Mt.ext (m : Mt B F H σ ρ) (e : Ext F H F' H') : Stp B F H σ ρ F' H' ρ :=
  ⟨m.grow e, e.old, fun a o h => (e.new a o h).elim .inl fun q => .inr (.inl q), fun _ _ h _ _ => e.same _ _ h, fun _ h => e.same.free h, fun _ h => h, fun _ c h => ⟨c, h, KStep.refl c⟩⟩
theorem Stp.ext (x : Stp B F H σ ρ F' H' ρ') (e : Ext F' H' F2 H2) : Stp B F H σ ρ F2 H2 ρ' := x.trans (x.mt.ext e)
theorem set_get {α : Type} {l : List α} {i j : Nat} {x y : α} (h : (l.set i x)[j]? = some y) : (i = j ∧ x = y) ∨ (i ≠ j ∧ l[j]? = some y) := by
  rw [List.getElem?_set] at h
  by_cases e : i = j
  · rw [if_pos e] at h
    split at h
    · exact .inl ⟨e, Option.some.inj h⟩
    · cases h
  · rw [if_neg e] at h
    exact .inr ⟨e, h⟩
/-- an owned list or dict is frozen -/
theorem Mt.freeze (m : Mt B F H σ ρ) {i : Nat} {d : D} {a : Addr} {o : HO} (hs : σ[i]? = some (some (.ref a))) (hc : ρ[i]? = some (.ow d)) (ho : H a = some o) (sh : Shal F d o) (hn : F a = none) (h0 : B.H0 a = none) :
    Stp B F H σ ρ (upd F a o) H (ρ.set i (.fz d)) := by
  have sF : Same F (upd F a o) := same_upd hn
  have il : i < ρ.length := (List.getElem?_eq_some_iff.mp hc).1
  have own_a : Owns σ ρ a := ⟨i, _, hs, hc, rfl⟩
  refine ⟨⟨fun b u e => ?_, m.old.trans sF, fun b u e => ?_, m.frm, m.dom, by rw [List.length_set]; exact m.len, fun j v c h1 h2 => ?_, fun j k b c c' h1 h2 h3 h4 h5 h6 => ?_, m.tabs, fun q hq => by rw [upd_ne (tabs_at m.tabs (ld_tbl ho sh.ld) q hq)]; exact m.ntab q hq⟩, sF, fun b u e => ?_, fun b u e _ _ => e, fun _ e => e, fun b e => ?_, fun j c e => ?_⟩
  · by_cases hb : b = a
    · subst hb; rw [upd_same] at e; cases e; exact ho
    · rw [upd_ne hb] at e; exact m.sub _ _ e
  · by_cases hb : b = a
    · subst hb; exact .inr h0
    · rw [upd_ne hb] at e; exact m.new _ _ e
  · rcases set_get h2 with ⟨rfl, rfl⟩ | ⟨ne, h2⟩
    · rw [hs] at h1; cases h1
      exact ⟨_, rfl, (sh.mono sF).den upd_same⟩
    · have q := m.cell j v c h1 h2
      cases c with
      | no => trivial
      | fz d' => obtain ⟨u, x, y⟩ := q; exact ⟨u, x, y.mono sF⟩
      | ow d' =>
        obtain ⟨b, u, rfl, x2, x3, x4, x5⟩ := q
        refine ⟨b, u, rfl, x2, x3.mono sF, ?_, x5⟩
        rw [upd_ne (fun z => ne (m.apart i j a _ _ hs (by rw [h1, z]) hc h2 rfl rfl))]
        exact x4
      | va d' => exact q
      | bw d' =>
        obtain ⟨b, u, rfl, x2, x3, x4, x5⟩ := q
        refine ⟨b, u, rfl, x2, x3.mono sF, ?_, x5⟩
        rw [upd_ne (fun z => ne (m.apart i j a _ _ hs (by rw [h1, z]) hc h2 rfl rfl))]
        exact x4
  · rcases set_get h3 with ⟨rfl, rfl⟩ | ⟨ne, h3⟩
    · cases h5
    · rcases set_get h4 with ⟨rfl, rfl⟩ | ⟨ne, h4⟩
      · cases h6
      · exact m.apart j k b c c' h1 h2 h3 h4 h5 h6
  · by_cases hb : b = a
    · subst hb; exact .inr (.inr own_a)
    · rw [upd_ne hb] at e; exact .inl e
  · obtain ⟨j, c, x1, x2, x3⟩ := e
    rcases set_get x2 with ⟨rfl, rfl⟩ | ⟨ne, x2⟩
    · cases x3
    · exact ⟨j, c, x1, x2, x3⟩
  · by_cases hj : i = j
    · subst hj
      rw [hc] at e; cases e
      exact ⟨.fz d, by rw [List.getElem?_set]; simp [il], trivial⟩
    · exact ⟨c, by rw [List.getElem?_set]; simp [hj, e], KStep.refl c⟩
/-- the content of an owned list or dict changes -/
theorem Mt.write (m : Mt B F H σ ρ) {i : Nat} {c d : Cell} {a : Addr} {o : HO} {z : D} (hs : σ[i]? = some (some (.ref a))) (hc : ρ[i]? = some c) (hown : c.own = true) (sh : Shal F z o)
    (hd : (∃ y, c = .ow y ∧ d = .ow z) ∨ ∃ y, c = .bw y ∧ d = .bw z) :
    Stp B F H σ ρ F (upd H a o) (ρ.set i d) := by
  have il : i < ρ.length := (List.getElem?_eq_some_iff.mp hc).1
  have own_a : Owns σ ρ a := ⟨i, _, hs, hc, hown⟩
  obtain ⟨hn, oa, ha⟩ := m.hasOwn own_a
  have dn : d.own = true := by rcases hd with ⟨y, _, rfl⟩ | ⟨y, _, rfl⟩ <;> rfl
  have nb : ∀ b u, B.H0 b = some u → b ∉ B.bs → b ≠ a := fun b u e n q => by
    have w := m.cell i _ c hs hc
    subst q
    rcases hd with ⟨y, rfl, _⟩ | ⟨y, rfl, _⟩
    · obtain ⟨b', o', q1, _, _, _, q5⟩ := w; cases q1; rw [e] at q5; cases q5
    · obtain ⟨b', o', q1, _, _, _, q5⟩ := w; cases q1; exact n q5
  have la : LD oa := by
    have w := m.cell i _ c hs hc
    rcases hd with ⟨y, rfl, _⟩ | ⟨y, rfl, _⟩
    · obtain ⟨b', o', q1, q2, q3, _, _⟩ := w; cases q1; rw [ha] at q2; cases q2; exact q3.ld
    · obtain ⟨b', o', q1, q2, q3, _, _⟩ := w; cases q1; rw [ha] at q2; cases q2; exact q3.ld
  refine ⟨⟨fun b u e => ?_, m.old, m.new, fun b u e n t => ?_, fun b e => ?_, by rw [List.length_set]; exact m.len, fun j v c' h1 h2 => ?_, fun j k b c1 c2 h1 h2 h3 h4 h5 h6 => ?_, tabs_but m.tabs (a := a) (fun b x z w => by rw [upd_ne w]; exact z) (fun x z => by rw [ha] at z; cases z; exact la), m.ntab⟩, Same.refl _, fun _ _ e => .inl e, fun b u e n t => ?_, fun b e => ?_, fun b e => ?_, fun j c' e => ?_⟩
  · rw [upd_ne (ne_of_none e hn)]; exact m.sub _ _ e
  · rw [upd_ne (nb b u e n)]; exact m.frm b u e n t
  · by_cases hb : b = a
    · subst hb; rw [upd_same] at e; cases e
    · rw [upd_ne hb] at e; exact m.dom _ e
  · rcases set_get h2 with ⟨rfl, rfl⟩ | ⟨ne, h2⟩
    · rw [hs] at h1; cases h1
      have w := m.cell i _ c hs hc
      rcases hd with ⟨y, rfl, rfl⟩ | ⟨y, rfl, rfl⟩
      · obtain ⟨b', o', q1, _, _, q4, q5⟩ := w; cases q1; exact ⟨a, o, rfl, upd_same, sh, q4, q5⟩
      · obtain ⟨b', o', q1, _, _, q4, q5⟩ := w; cases q1; exact ⟨a, o, rfl, upd_same, sh, q4, q5⟩
    · have q := m.cell j v c' h1 h2
      cases c' with
      | no => trivial
      | fz d' => exact q
      | ow d' =>
        obtain ⟨b, u, rfl, x2, x3, x4, x5⟩ := q
        refine ⟨b, u, rfl, ?_, x3, x4, x5⟩
        rw [upd_ne (fun z => ne (m.apart i j a _ _ hs (by rw [h1, z]) hc h2 hown rfl))]
        exact x2
      | va d' => exact q
      | bw d' =>
        obtain ⟨b, u, rfl, x2, x3, x4, x5⟩ := q
        refine ⟨b, u, rfl, ?_, x3, x4, x5⟩
        rw [upd_ne (fun z => ne (m.apart i j a _ _ hs (by rw [h1, z]) hc h2 hown rfl))]
        exact x2
  · have g : ∀ (j : Nat) (e : Cell), (ρ.set i d)[j]? = some e → e.own = true → ∃ e', ρ[j]? = some e' ∧ e'.own = true := fun j e x y => by
      rcases set_get x with ⟨rfl, rfl⟩ | ⟨_, x⟩
      · exact ⟨c, hc, hown⟩
      · exact ⟨e, x, y⟩
    obtain ⟨e1, y1, z1⟩ := g j c1 h3 h5
    obtain ⟨e2, y2, z2⟩ := g k c2 h4 h6
    exact m.apart j k b e1 e2 h1 h2 y1 y2 z1 z2
  · rw [upd_ne (fun q => n (by rw [q]; exact own_a))]; exact e
  · by_cases hb : b = a
    · subst hb; rw [upd_same] at e; cases e
    · rw [upd_ne hb] at e; exact e
  · obtain ⟨j, c', x1, x2, x3⟩ := e
    rcases set_get x2 with ⟨rfl, rfl⟩ | ⟨ne, x2⟩
    · exact ⟨i, c, x1, hc, hown⟩
    · exact ⟨j, c', x1, x2, x3⟩
  · by_cases hj : i = j
    · subst hj
      rw [hc] at e; cases e
      refine ⟨d, by rw [List.getElem?_set]; simp [il], ?_⟩
      rcases hd with ⟨y, rfl, rfl⟩ | ⟨y, rfl, rfl⟩ <;> trivial
    · exact ⟨c', by rw [List.getElem?_set]; simp [hj, e], KStep.refl c'⟩
/-- a slot gets a frozen value -/
theorem Mt.put (m : Mt B F H σ ρ) {i : Nat} {v : V} {d : D} (h : Den F d v) : Mt B F H (σ.set i (some v)) (ρ.set i (.fz d)) := by
  refine ⟨m.sub, m.old, m.new, m.frm, m.dom, by rw [List.length_set, List.length_set]; exact m.len, fun j u c h1 h2 => ?_, fun j k b c1 c2 h1 h2 h3 h4 h5 h6 => ?_, m.tabs, m.ntab⟩
  · rcases set_get h2 with ⟨rfl, rfl⟩ | ⟨ne, h2⟩
    · rcases set_get h1 with ⟨_, rfl⟩ | ⟨ne, h1⟩
      · exact ⟨v, rfl, h⟩
      · exact absurd rfl ne
    · rcases set_get h1 with ⟨e, _⟩ | ⟨_, h1⟩
      · exact absurd e ne
      · exact m.cell j u c h1 h2
  · rcases set_get h3 with ⟨_, rfl⟩ | ⟨n3, h3⟩
    · cases h5
    · rcases set_get h4 with ⟨_, rfl⟩ | ⟨n4, h4⟩
      · cases h6
      · rcases set_get h1 with ⟨e, _⟩ | ⟨_, h1⟩
        · exact absurd e n3
        · rcases set_get h2 with ⟨e, _⟩ | ⟨_, h2⟩
          · exact absurd e n4
          · exact m.apart j k b c1 c2 h1 h2 h3 h4 h5 h6
/-- a slot gets a new list or dict of its own -/
theorem Mt.putOwn (m : Mt B F H σ ρ) {i : Nat} {a : Addr} {o : HO} {d : D} (ho : H a = some o) (sh : Shal F d o) (hn : F a = none) (h0 : B.H0 a = none) (na : ¬ Owns σ ρ a) : Mt B F H (σ.set i (some (.ref a))) (ρ.set i (.ow d)) := by
  have g : ∀ (j : Nat) (c : Cell) (b : Addr), (σ.set i (some (.ref a)))[j]? = some (some (.ref b)) → (ρ.set i (.ow d))[j]? = some c → c.own = true → (j = i ∧ b = a) ∨ (σ[j]? = some (some (.ref b)) ∧ ρ[j]? = some c ∧ b ≠ a) := fun j c b h1 h2 h3 => by
    rcases set_get h2 with ⟨rfl, rfl⟩ | ⟨ne, h2⟩
    · rcases set_get h1 with ⟨_, e⟩ | ⟨ne, h1⟩
      · cases e; exact .inl ⟨rfl, rfl⟩
      · exact absurd rfl ne
    · rcases set_get h1 with ⟨e, _⟩ | ⟨_, h1⟩
      · exact absurd e ne
      · exact .inr ⟨h1, h2, fun q => na ⟨j, c, by rw [h1, q], h2, h3⟩⟩
  refine ⟨m.sub, m.old, m.new, m.frm, m.dom, by rw [List.length_set, List.length_set]; exact m.len, fun j u c h1 h2 => ?_, fun j k b c1 c2 h1 h2 h3 h4 h5 h6 => ?_, m.tabs, m.ntab⟩
  · rcases set_get h2 with ⟨rfl, rfl⟩ | ⟨ne, h2⟩
    · rcases set_get h1 with ⟨_, rfl⟩ | ⟨ne, h1⟩
      · exact ⟨a, o, rfl, ho, sh, hn, h0⟩
      · exact absurd rfl ne
    · rcases set_get h1 with ⟨e, _⟩ | ⟨_, h1⟩
      · exact absurd e ne
      · exact m.cell j u c h1 h2
  · rcases g j c1 b h1 h3 h5 with ⟨e1, e2⟩ | ⟨y1, y2, y3⟩
    · rcases g k c2 b h2 h4 h6 with ⟨z1, z2⟩ | ⟨z1, z2, z3⟩
      · rw [e1, z1]
      · exact absurd e2 z3
    · rcases g k c2 b h2 h4 h6 with ⟨z1, z2⟩ | ⟨z1, z2, z3⟩
      · exact absurd z2 y3
      · exact m.apart j k b c1 c2 y1 z1 y2 z2 h5 h6
/-- slots are forgotten -/
theorem Mt.drop (m : Mt B F H σ ρ) {σ' : L2.St} {ρ' : Rho} (hl : ρ'.length = σ'.length) (h : ∀ (i : Nat) c, ρ'[i]? = some c → c = .no ∨ (ρ[i]? = some c ∧ σ'[i]? = σ[i]?)) : Mt B F H σ' ρ' := by
  refine ⟨m.sub, m.old, m.new, m.frm, m.dom, hl, fun j u c h1 h2 => ?_, fun j k b c1 c2 h1 h2 h3 h4 h5 h6 => ?_, m.tabs, m.ntab⟩
  · rcases h j c h2 with rfl | ⟨x, y⟩
    · trivial
    · rw [y] at h1; exact m.cell j u c h1 x
  · rcases h j c1 h3 with rfl | ⟨x, y⟩
    · cases h5
    · rcases h k c2 h4 with rfl | ⟨x', y'⟩
      · cases h6
      · rw [y] at h1; rw [y'] at h2
        exact m.apart j k b c1 c2 h1 h2 x x' h5 h6
end
end Rn
end
section
set_option Elab.async false
set_option linter.all false
set_option maxRecDepth 100000
namespace Rn
open PySem PySem.Spec L2
def bnd {α β : Type} (x : M α) (k : α → M β) : M β := fun ρ => match x ρ with
  | .ok a r => k a r
  | .ex c r => .ex c r
  | .no => .no
def ret {α : Type} (a : α) : M α := fun ρ => .ok a ρ
def lft {α : Type} (o : Option α) : M α := fun ρ => match o with
  | some a => .ok a ρ
  | none => .no
def stuck {α : Type} : M α := fun _ => .no
inductive TV where
  | d (x : D)
  | s (i : Nat)
def cellD : Option Cell → Option D
  | some (.fz d) => some d
  | some (.ow d) => some d
  | some (.bw d) => some d
  | _ => none
def deref (ρ : Rho) : TV → Option D
  | .d x => some x
  | .s i => cellD ρ[i]?
def NowD (F H : Hp) (v : V) (d : D) : Prop := Den F d v ∨ ∃ a o, v = .ref a ∧ H a = some o ∧ Shal F d o
def TvOk (σ : L2.St) (F H : Hp) (ρ : Rho) : TV → V → Prop
  | .d x, v => Den F x v
  | .s i, v => σ[i]? = some (some v) ∧ ∃ d, cellD ρ[i]? = some d
section
variable {B : Bd} {F H F' H' F2 H2 : Hp} {σ : L2.St} {ρ ρ' ρ2 : Rho}
theorem TvOk.step {t : TV} {v : V} (h : TvOk σ F H ρ t v) (x : Stp B F H σ ρ F' H' ρ') : TvOk σ F' H' ρ' t v := by
  cases t with
  | d y => exact Den.mono x.old h
  | s i =>
    obtain ⟨h1, d, h2⟩ := h
    refine ⟨h1, ?_⟩
    cases e : ρ[i]? with
    | none => rw [e] at h2; cases h2
    | some c =>
      obtain ⟨c', e', k⟩ := x.kind i c e
      rw [e] at h2
      rw [e']
      cases c <;> cases c' <;> first | exact k.elim | exact ⟨_, rfl⟩ | cases h2
theorem TvOk.now {t : TV} {v : V} {d : D} (m : Mt B F H σ ρ) (h : TvOk σ F H ρ t v) (e : deref ρ t = some d) : NowD F H v d := by
  cases t with
  | d y => cases e; exact .inl h
  | s i =>
    obtain ⟨h1, _⟩ := h
    have e' : cellD ρ[i]? = some d := e
    cases q : ρ[i]? with
    | none => rw [q] at e'; cases e'
    | some c =>
      have w := m.cell i _ c h1 q
      rw [q] at e'
      cases c with
      | no => cases e'
      | fz y => cases e'; obtain ⟨u, z, g⟩ := w; cases z; exact .inl g
      | ow y => cases e'; obtain ⟨a, o, z, g, sh, _⟩ := w; cases z; exact .inr ⟨a, o, rfl, g, sh⟩
      | va y => cases e'
      | bw y => cases e'; obtain ⟨a, o, z, g, sh, _⟩ := w; cases z; exact .inr ⟨a, o, rfl, g, sh⟩
end
def Post {α β : Type} (B : Bd) (EX : Str → Hp → Prop) (F H : Hp) (σ : L2.St) (ρ : Rho) (VP : L2.St → Hp → Hp → Rho → α → β → Prop) (r : R α) (Q : β → Hp → Prop) : Prop := match r with
  | .ok a ρ' => ∀ (v : β) (F' H' : Hp), Stp B F H σ ρ F' H' ρ' → VP σ F' H' ρ' a v → Q v H'
  | .ex c ρ' => ∀ (F' H' : Hp), Stp B F H σ ρ F' H' ρ' → EX c H'
  | .no => False
theorem Post.from {α β : Type} {B : Bd} {EX : Str → Hp → Prop} {F H F' H' : Hp} {σ : L2.St} {ρ ρ' : Rho} {VP : L2.St → Hp → Hp → Rho → α → β → Prop} {r : R α} {Q : β → Hp → Prop} (h : Post B EX F H σ ρ VP r Q) (x : Stp B F H σ ρ F' H' ρ') :
    Post B EX F' H' σ ρ' VP r Q := by
  cases r with
  | ok a r => exact fun v F2 H2 y p => h v F2 H2 (x.trans y) p
  | ex c r => exact fun F2 H2 y => h F2 H2 (x.trans y)
  | no => exact h
abbrev Rd1 (β : Type) := L2.St → Hp → (β → Hp → Prop) → Prop
def Ev {α β : Type} (B : Bd) (EX : Str → Hp → Prop) (VP : L2.St → Hp → Hp → Rho → α → β → Prop) (t : Rd1 β) (f : M α) : Prop :=
  ∀ (F H : Hp) (σ : L2.St) (ρ : Rho) (Q : β → Hp → Prop), Mt B F H σ ρ → Post B EX F H σ ρ VP (f ρ) Q → t σ H Q
/-- values of an expression: frozen; transient; a truth value; lists of such -/
abbrev VD : L2.St → Hp → Hp → Rho → D → V → Prop := fun _ F _ _ d v => Den F d v
abbrev VT : L2.St → Hp → Hp → Rho → TV → V → Prop := fun σ F H ρ t v => TvOk σ F H ρ t v
abbrev VB : L2.St → Hp → Hp → Rho → Bool → Bool → Prop := fun _ _ _ _ b v => v = b
abbrev VL : L2.St → Hp → Hp → Rho → List D → List V → Prop := fun _ F _ _ d v => DenL F d v
def TvAll (σ : L2.St) (F H : Hp) (ρ : Rho) : List TV → List V → Prop
  | [], vs => vs = []
  | t :: ts, vs => ∃ v r, vs = v :: r ∧ TvOk σ F H ρ t v ∧ TvAll σ F H ρ ts r
abbrev VTs : L2.St → Hp → Hp → Rho → List TV → List V → Prop := fun σ F H ρ t v => TvAll σ F H ρ t v
theorem TvAll.step {B : Bd} {F H F' H' : Hp} {σ : L2.St} {ρ ρ' : Rho} (x : Stp B F H σ ρ F' H' ρ') : ∀ {ts : List TV} {vs : List V}, TvAll σ F H ρ ts vs → TvAll σ F' H' ρ' ts vs
  | [], _, h => h
  | _ :: _, _, ⟨v, r, e, h, l⟩ => ⟨v, r, e, h.step x, TvAll.step x l⟩
/-- one piece, then another that leans on its value -/
theorem Ev.bind {α β γ δ : Type} {B : Bd} {EX : Str → Hp → Prop} {VP : L2.St → Hp → Hp → Rho → α → β → Prop} {VQ : L2.St → Hp → Hp → Rho → γ → δ → Prop} {ta : Rd1 β} {tb : β → Rd1 δ} {fa : M α} {k : α → M γ} (ha : Ev B EX VP ta fa)
    (hb : ∀ (a : α) (x : β) (F H : Hp) (σ : L2.St) (ρ : Rho) (Q : δ → Hp → Prop), Mt B F H σ ρ → VP σ F H ρ a x → Post B EX F H σ ρ VQ (k a ρ) Q → tb x σ H Q) :
    Ev B EX VQ (fun σ H Q => ta σ H fun x H1 => tb x σ H1 Q) (bnd fa k) := by
  intro F H σ ρ Q m h
  refine ha F H σ ρ _ m ?_
  unfold bnd at h
  cases e : fa ρ with
  | ok a r => rw [e] at h; exact fun v F' H' x p => hb a v F' H' σ r Q x.mt p (h.from x)
  | ex c r => rw [e] at h; exact h
  | no => rw [e] at h; exact h
/-- at a state: one more value from values that are there -/
theorem Post.ext {α : Type} {B : Bd} {EX : Str → Hp → Prop} {F H : Hp} {σ : L2.St} {ρ : Rho} {d : D} {Q : VK} (m : Mt B F H σ ρ) (h : Post B EX F H σ ρ VD (.ok d ρ) Q) : ∀ v F' H', Ext F H F' H' → Den F' d v → Q v H' :=
  fun v F' H' e p => h v F' H' (m.ext e) p
def mVar (i : Nat) : M D := fun ρ => match ρ[i]? with
  | some (.fz d) => .ok d ρ
  | some (.ow d) => .ok d (ρ.set i (.fz d))
  | _ => .no
def mVarT (i : Nat) : M TV := fun ρ => match cellD ρ[i]? with
  | some _ => .ok (.s i) ρ
  | none => .no
def mT (f : M D) : M TV := bnd f fun d => ret (.d d)
section
variable {B : Bd} {EX : Str → Hp → Prop}
theorem ev_var {i : Nat} : Ev B EX VD (tVar i) (mVar i) := by
  intro F H σ ρ Q m h
  unfold mVar at h
  cases e : ρ[i]? with
  | none => rw [e] at h; exact h.elim
  | some c =>
    have hi : i < σ.length := by rw [← m.len]; exact (List.getElem?_eq_some_iff.mp e).1
    have hv := List.getElem?_eq_getElem hi
    rw [e] at h
    have w := m.cell i _ c hv e
    cases c with
    | no => exact h.elim
    | va d => exact h.elim
    | bw d => exact h.elim
    | fz d => obtain ⟨u, e1, e2⟩ := w; exact ⟨u, by rw [hv, e1], h u F H m.refl e2⟩
    | ow d =>
      obtain ⟨a, o, e1, e2, e3, e4, e5⟩ := w
      rw [e1] at hv
      exact ⟨.ref a, hv, h (.ref a) (upd F a o) H (m.freeze hv e e2 e3 e4 e5) ((e3.mono (same_upd e4)).den upd_same)⟩
theorem ev_varT {i : Nat} : Ev B EX VT (tVar i) (mVarT i) := by
  intro F H σ ρ Q m h
  unfold mVarT at h
  cases q : cellD ρ[i]? with
  | none => rw [q] at h; exact h.elim
  | some d =>
    rw [q] at h
    cases e : ρ[i]? with
    | none => rw [e] at q; cases q
    | some c =>
      have hi : i < σ.length := by rw [← m.len]; exact (List.getElem?_eq_some_iff.mp e).1
      have hv := List.getElem?_eq_getElem hi
      have w := m.cell i _ c hv e
      have g : ∃ u, σ[i]? = some (some u) := by
        cases c with
        | no => rw [e] at q; cases q
        | fz d => obtain ⟨u, e1, e2⟩ := w; exact ⟨u, by rw [hv, e1]⟩
        | ow d => obtain ⟨a, o, e1, _⟩ := w; exact ⟨.ref a, by rw [hv, e1]⟩
        | va d => rw [e] at q; cases q
        | bw d => obtain ⟨a, o, e1, _⟩ := w; exact ⟨.ref a, by rw [hv, e1]⟩
      obtain ⟨u, hu⟩ := g
      exact ⟨u, hu, h u F H m.refl ⟨hu, d, q⟩⟩
theorem ev_T {t : TE} {f : M D} (h : Ev B EX VD t f) : Ev B EX VT t (mT f) := by
  refine Ev.bind (tb := fun x σ H Q => Q x H) h fun a x F H σ ρ Q m p q => ?_
  exact q x F H m.refl p
theorem ev_const {v : V} {d : D} (hd : ∀ F, Den F d v) : Ev B EX VD (tC v) (ret d) := fun F H σ ρ Q m h => h v F H m.refl (hd F)
def OpOk (r : R2) (f : D → D → Option D) : Prop := ∀ {F H : Hp} {v w : V} {d e z : D} {Q : VK}, Same F H → NowD F H v d → NowD F H w e → f d e = some z → (∀ v' F' H', Ext F H F' H' → Den F' z v' → Q v' H') → r v w H Q
def mOp (f : D → D → Option D) (a b : M TV) : M D := bnd a fun x => bnd b fun y => fun ρ => match deref ρ x, deref ρ y with
  | some d, some e => lft (f d e) ρ
  | _, _ => .no
def mUn (f : D → Option D) (a : M TV) : M D := bnd a fun x => fun ρ => match deref ρ x with
  | some d => lft (f d) ρ
  | _ => .no
theorem ev_op {r : R2} {f : D → D → Option D} {ta tb : TE} {fa fb : M TV} (ho : OpOk r f) (ha : Ev B EX VT ta fa) (hb : Ev B EX VT tb fb) : Ev B EX VD (tOp r ta tb) (mOp f fa fb) := by
  refine Ev.bind (tb := fun x σ H Q => tb σ H fun y H2 => r x y H2 Q) ha fun a x F H σ ρ Q m p q => ?_
  refine hb F H σ ρ _ m ?_
  unfold bnd at q
  cases e : fb ρ with
  | ex c r => rw [e] at q; exact q
  | no => rw [e] at q; exact q
  | ok b ρ1 =>
    rw [e] at q
    intro y F1 H1 s1 py
    have m1 := s1.mt
    have px := p.step s1
    cases e1 : deref ρ1 a with
    | none => simp only [e1] at q; exact q.elim
    | some d =>
      cases e2 : deref ρ1 b with
      | none => simp only [e1, e2] at q; exact q.elim
      | some d2 =>
        simp only [e1, e2] at q
        unfold lft at q
        cases e3 : f d d2 with
        | none => rw [e3] at q; exact q.elim
        | some z =>
          rw [e3] at q
          exact ho m1.sub (px.now m1 e1) (TvOk.now m1 py e2) e3 fun v' F' H' x' dz => q v' F' H' (s1.ext x') dz
def mNil {α : Type} : M (List α) := ret []
def mCons {α : Type} (a : M α) (r : M (List α)) : M (List α) := bnd a fun x => bnd r fun xs => ret (x :: xs)
theorem ev_nil : Ev B EX VL tNil mNil := fun F H σ ρ Q m h => h [] F H m.refl rfl
theorem ev_cons {ta : TE} {tr : TA} {fa : M D} {fr : M (List D)} (ha : Ev B EX VD ta fa) (hr : Ev B EX VL tr fr) : Ev B EX VL (tCons ta tr) (mCons fa fr) := by
  refine Ev.bind (tb := fun x σ H Q => tr σ H fun xs H2 => Q (x :: xs) H2) ha fun a x F H σ ρ Q m p q => ?_
  refine hr F H σ ρ _ m ?_
  unfold bnd at q
  cases e : fr ρ with
  | ex c r => rw [e] at q; exact q
  | no => rw [e] at q; exact q
  | ok b ρ1 =>
    rw [e] at q
    exact fun xs F1 H1 s1 pxs => q (x :: xs) F1 H1 s1 ⟨x, xs, rfl, Den.mono s1.old p, pxs⟩
theorem ev_nilT : Ev B EX VTs tNil mNil := fun F H σ ρ Q m h => h [] F H m.refl rfl
theorem ev_consT {ta : TE} {tr : TA} {fa : M TV} {fr : M (List TV)} (ha : Ev B EX VT ta fa) (hr : Ev B EX VTs tr fr) : Ev B EX VTs (tCons ta tr) (mCons fa fr) := by
  refine Ev.bind (tb := fun x σ H Q => tr σ H fun xs H2 => Q (x :: xs) H2) ha fun a x F H σ ρ Q m p q => ?_
  refine hr F H σ ρ _ m ?_
  unfold bnd at q
  cases e : fr ρ with
  | ex c r => rw [e] at q; exact q
  | no => rw [e] at q; exact q
  | ok b ρ1 =>
    rw [e] at q
    exact fun xs F1 H1 s1 pxs => q (x :: xs) F1 H1 s1 ⟨x, xs, rfl, p.step s1, pxs⟩
def NowAll (F H : Hp) : List V → List D → Prop
  | vs, [] => vs = []
  | vs, d :: ds => ∃ v r, vs = v :: r ∧ NowD F H v d ∧ NowAll F H r ds
def derefs (ρ : Rho) : List TV → Option (List D)
  | [] => some []
  | t :: ts => match deref ρ t, derefs ρ ts with
    | some d, some ds => some (d :: ds)
    | _, _ => none
theorem TvAll.now {F H : Hp} {σ : L2.St} {ρ : Rho} (m : Mt B F H σ ρ) : ∀ {ts : List TV} {vs : List V} {ds : List D}, TvAll σ F H ρ ts vs → derefs ρ ts = some ds → NowAll F H vs ds
  | [], _, _, h, e => by cases e; exact h
  | t :: ts, _, ds, ⟨v, r, e, h, l⟩, q => by
    unfold derefs at q
    cases e1 : deref ρ t with
    | none => simp [e1] at q
    | some d =>
      cases e2 : derefs ρ ts with
      | none => simp [e1, e2] at q
      | some ds' =>
        simp [e1, e2] at q
        subst q
        exact ⟨v, r, e, h.now m e1, TvAll.now m l e2⟩
def CallOk (r : List V → Hp → VK → Prop) (f : List D → Option D) : Prop := ∀ {F H : Hp} {vs : List V} {ds : List D} {z : D} {Q : VK}, Same F H → NowAll F H vs ds → f ds = some z → (∀ v' F' H', Ext F H F' H' → Den F' z v' → Q v' H') → r vs H Q
def mCB (f : List D → Option D) (a : M (List TV)) : M D := bnd a fun xs => fun ρ => match derefs ρ xs with
  | some ds => lft (f ds) ρ
  | none => .no
theorem ev_cb {r : List V → Hp → VK → Prop} {f : List D → Option D} {ta : TA} {fa : M (List TV)} (ho : CallOk r f) (ha : Ev B EX VTs ta fa) : Ev B EX VD (tCB r ta) (mCB f fa) := by
  refine Ev.bind (tb := fun x σ H Q => r x H Q) ha fun a x F H σ ρ Q m p q => ?_
  cases e1 : derefs ρ a with
  | none => simp only [e1] at q; exact q.elim
  | some d =>
    simp only [e1] at q
    unfold lft at q
    cases e3 : f d with
    | none => rw [e3] at q; exact q.elim
    | some z =>
      rw [e3] at q
      exact ho m.sub (TvAll.now m p e1) e3 fun v' F' H' x' dz => q v' F' H' (m.ext x') dz
def mTup (a : M (List D)) : M D := bnd a fun ds => fun ρ => if ds.length ≤ 100 then .ok (.tuple ds) ρ else .no
theorem fewer {n : Nat} (h : n ≤ 100) : n ≤ sizeLine := Nat.le_trans h (by decide)
theorem ev_tup {ta : TA} {fa : M (List D)} (ha : Ev B EX VL ta fa) : Ev B EX VD (tTup ta) (mTup fa) := by
  refine Ev.bind (tb := fun xs σ H Q => xs.length ≤ sizeLine ∧ ∀ p, H p = none → Q (V.ref p) (upd H p (.tup xs))) ha fun a x F H σ ρ Q m p q => ?_
  by_cases hl : a.length ≤ 100
  · simp only [if_pos hl] at q
    refine ⟨by rw [← DenL.len p]; exact fewer hl, fun c hc => ?_⟩
    have e := Ext.laid m.sub hc (.tup x)
    exact q (.ref c) _ _ (m.ext e) ⟨c, x, rfl, upd_same, DenL.mono e.old p⟩
  · simp only [if_neg hl] at q; exact q.elim
def VFr (H : Hp) (F' H' : Hp) (d : D) (v : V) : Prop := ∃ a o, v = .ref a ∧ H' a = some o ∧ Shal F' d o ∧ F' a = none ∧ H a = none
def EvF (B : Bd) (EX : Str → Hp → Prop) (t : TE) (f : M D) : Prop :=
  ∀ (F H : Hp) (σ : L2.St) (ρ : Rho) (Q : VK), Mt B F H σ ρ → Post B EX F H σ ρ (fun _ F' H' _ d v => VFr H F' H' d v) (f ρ) Q → t σ H Q
theorem Mt.freeze0 {F H : Hp} {σ : L2.St} {ρ : Rho} (m : Mt B F H σ ρ) {a : Addr} {o : HO} (ho : H a = some o) (hn : F a = none) (h0 : B.H0 a = none) (na : ¬ Owns σ ρ a) (nt : ∀ q ∈ B.T, q.1 ≠ a) : Mt B (upd F a o) H σ ρ := by
  have sF : Same F (upd F a o) := same_upd hn
  refine ⟨fun b u e => ?_, m.old.trans sF, fun b u e => ?_, m.frm, m.dom, m.len, fun j v c h1 h2 => ?_, m.apart, m.tabs, fun q hq => by rw [upd_ne (nt q hq)]; exact m.ntab q hq⟩
  · by_cases hb : b = a
    · subst hb; rw [upd_same] at e; cases e; exact ho
    · rw [upd_ne hb] at e; exact m.sub _ _ e
  · by_cases hb : b = a
    · subst hb; exact .inr h0
    · rw [upd_ne hb] at e; exact m.new _ _ e
  · have q := m.cell j v c h1 h2
    cases c with
    | no => trivial
    | fz d' => obtain ⟨u, x, y⟩ := q; exact ⟨u, x, y.mono sF⟩
    | ow d' =>
      obtain ⟨b, u, rfl, x2, x3, x4, x5⟩ := q
      refine ⟨b, u, rfl, x2, x3.mono sF, ?_, x5⟩
      rw [upd_ne (fun z => na ⟨j, _, by rw [h1, z], h2, rfl⟩)]
      exact x4
    | va d' => exact q
    | bw d' =>
      obtain ⟨b, u, rfl, x2, x3, x4, x5⟩ := q
      refine ⟨b, u, rfl, x2, x3.mono sF, ?_, x5⟩
      rw [upd_ne (fun z => na ⟨j, _, by rw [h1, z], h2, rfl⟩)]
      exact x4
theorem Stp.freeze0 {F H F' H' : Hp} {σ : L2.St} {ρ ρ' : Rho} (m : Mt B F H σ ρ) (x : Stp B F H σ ρ F' H' ρ') {a : Addr} {o : HO} (ho : H' a = some o) (hn : F' a = none) (h0 : H a = none) : Stp B F H σ ρ (upd F' a o) H' ρ' := by
  have na : ¬ Owns σ ρ' a := fun q => m.noOwn h0 (x.own _ q)
  refine ⟨x.mt.freeze0 ho hn (m.dom _ h0) na (tabs_at m.tabs (none_tbl h0)), x.old.trans (same_upd hn), fun b u e => ?_, x.frm, x.dom, x.own, x.kind⟩
  by_cases hb : b = a
  · subst hb; exact .inr (.inl h0)
  · rw [upd_ne hb] at e; exact x.new _ _ e
/-- a fresh list as a frozen value -/
theorem ev_ofF {t : TE} {f : M D} (h : EvF B EX t f) : Ev B EX VD t f := by
  intro F H σ ρ Q m p
  refine h F H σ ρ Q m ?_
  cases e : f ρ with
  | no => rw [e] at p; exact p
  | ex c r => rw [e] at p; exact p
  | ok d r =>
    rw [e] at p
    rintro v F' H' x ⟨a, o, rfl, h1, h2, h3, h4⟩
    exact p (.ref a) (upd F' a o) H' (Stp.freeze0 m x h1 h3 h4) ((h2.mono (same_upd h3)).den upd_same)
def mLst (a : M (List D)) : M D := bnd a fun ds => fun ρ => if ds.length ≤ 100 then .ok (.list ds) ρ else .no
theorem evf_bind {α β : Type} {VP : L2.St → Hp → Hp → Rho → α → β → Prop} {ta : Rd1 β} {tb : β → TE} {fa : M α} {k : α → M D} (ha : Ev B EX VP ta fa)
    (hb : ∀ (a : α) (x : β) (F H : Hp) (σ : L2.St) (ρ : Rho) (Q : VK), Mt B F H σ ρ → VP σ F H ρ a x → Post B EX F H σ ρ (fun _ F' H' _ d v => VFr H F' H' d v) (k a ρ) Q → tb x σ H Q) :
    EvF B EX (fun σ H Q => ta σ H fun x H1 => tb x σ H1 Q) (bnd fa k) := by
  intro F H σ ρ Q m h
  refine ha F H σ ρ _ m ?_
  unfold bnd at h
  cases e : fa ρ with
  | ok a r =>
    rw [e] at h
    intro v F' H' x p
    refine hb a v F' H' σ r Q x.mt p ?_
    have h' : Post B EX F H σ ρ (fun _ F' H' _ d v => VFr H F' H' d v) (k a r) Q := h
    cases e2 : k a r with
    | no => rw [e2] at h'; exact h'
    | ex c r' => rw [e2] at h'; exact fun F2 H2 y => h' F2 H2 (x.trans y)
    | ok d r' =>
      rw [e2] at h'
      rintro u F2 H2 y ⟨b, o, h1, h2, h3, h4, h5⟩
      exact h' u F2 H2 (x.trans y) ⟨b, o, h1, h2, h3, h4, x.dom _ h5⟩
  | ex c r => rw [e] at h; exact h
  | no => rw [e] at h; exact h
theorem evf_lst {ta : TA} {fa : M (List D)} (ha : Ev B EX VL ta fa) : EvF B EX (tLst ta) (mLst fa) := by
  refine evf_bind (tb := fun xs σ H Q => xs.length ≤ sizeLine ∧ ∀ p, H p = none → Q (V.ref p) (upd H p (.lst xs))) ha fun a x F H σ ρ Q m p q => ?_
  by_cases hl : a.length ≤ 100
  · simp only [if_pos hl] at q
    refine ⟨by rw [← DenL.len p]; exact fewer hl, fun c hc => ?_⟩
    exact q (.ref c) F _ (m.ext (Ext.loose m.sub hc (.lst x))) ⟨c, _, rfl, upd_same, p, m.sub.free hc, hc⟩
  · simp only [if_neg hl] at q; exact q.elim
/-- operations that make a fresh list -/
def OpOkF (r : R2) (f : D → D → Option D) : Prop := ∀ {F H : Hp} {v w : V} {d e z : D} {Q : VK}, Same F H → NowD F H v d → NowD F H w e → f d e = some z → (∀ p o, H p = none → Shal F z o → Q (.ref p) (upd H p o)) → r v w H Q
theorem evf_op {r : R2} {f : D → D → Option D} {ta tb : TE} {fa fb : M TV} (ho : OpOkF r f) (ha : Ev B EX VT ta fa) (hb : Ev B EX VT tb fb) : EvF B EX (tOp r ta tb) (mOp f fa fb) := by
  refine evf_bind (tb := fun x σ H Q => tb σ H fun y H2 => r x y H2 Q) ha fun a x F H σ ρ Q m p q => ?_
  refine hb F H σ ρ _ m ?_
  unfold bnd at q
  cases e : fb ρ with
  | ex c r => rw [e] at q; exact q
  | no => rw [e] at q; exact q
  | ok b ρ1 =>
    rw [e] at q
    intro y F1 H1 s1 py
    have m1 := s1.mt
    have px := p.step s1
    cases e1 : deref ρ1 a with
    | none => simp only [e1] at q; exact q.elim
    | some d =>
      cases e2 : deref ρ1 b with
      | none => simp only [e1, e2] at q; exact q.elim
      | some d2 =>
        simp only [e1, e2] at q
        unfold lft at q
        cases e3 : f d d2 with
        | none => rw [e3] at q; exact q.elim
        | some z =>
          rw [e3] at q
          refine ho m1.sub (px.now m1 e1) (TvOk.now m1 py e2) e3 fun c o hc sh => ?_
          exact q (.ref c) F1 _ (s1.ext (Ext.loose m1.sub hc o)) ⟨c, o, rfl, upd_same, sh, m1.sub.free hc, s1.dom _ hc⟩
def CallOkF (r : List V → Hp → VK → Prop) (f : List D → Option D) : Prop := ∀ {F H : Hp} {vs : List V} {ds : List D} {z : D} {Q : VK}, Same F H → NowAll F H vs ds → f ds = some z → (∀ p o, H p = none → Shal F z o → Q (.ref p) (upd H p o)) → r vs H Q
theorem evf_cb {r : List V → Hp → VK → Prop} {f : List D → Option D} {ta : TA} {fa : M (List TV)} (ho : CallOkF r f) (ha : Ev B EX VTs ta fa) : EvF B EX (tCB r ta) (mCB f fa) := by
  refine evf_bind (tb := fun x σ H Q => r x H Q) ha fun a x F H σ ρ Q m p q => ?_
  cases e1 : derefs ρ a with
  | none => simp only [e1] at q; exact q.elim
  | some d =>
    simp only [e1] at q
    unfold lft at q
    cases e3 : f d with
    | none => rw [e3] at q; exact q.elim
    | some z =>
      rw [e3] at q
      refine ho m.sub (TvAll.now m p e1) e3 fun c o hc sh => ?_
      exact q (.ref c) F _ (m.ext (Ext.loose m.sub hc o)) ⟨c, o, rfl, upd_same, sh, m.sub.free hc, hc⟩
def asBool : D → Option Bool
  | .bool b => some b
  | _ => none
def mTst (f : M D) : M Bool := bnd f fun d => lft (asBool d)
theorem asBool_eq {d : D} {b : Bool} (h : asBool d = some b) : d = .bool b := by
  cases d <;> simp [asBool] at h
  rw [h]
theorem ev_tst {t : TE} {f : M D} (h : Ev B EX VD t f) : Ev B EX VB (tTest t) (mTst f) := by
  refine Ev.bind (tb := fun x σ H Q => ∃ k, x = .bl k ∧ Q k H) h fun a x F H σ ρ Q m p q => ?_
  unfold lft at q
  cases e : asBool a with
  | none => rw [e] at q; exact q.elim
  | some b =>
    rw [e] at q
    have e2 := asBool_eq e
    subst e2
    exact ⟨b, p, q b F H m.refl rfl⟩
def mAnd (a b : M Bool) : M Bool := bnd a fun x => if x = true then b else ret false
def mOr (a b : M Bool) : M Bool := bnd a fun x => if x = true then ret true else b
def mNot (a : M Bool) : M Bool := bnd a fun x => ret (!x)
theorem ev_and {t u : TT} {f g : M Bool} (h : Ev B EX VB t f) (h2 : Ev B EX VB u g) : Ev B EX VB (tAnd t u) (mAnd f g) := by
  refine Ev.bind (tb := fun c σ H Q => if c = true then u σ H Q else Q false H) h fun a x F H σ ρ Q m p q => ?_
  cases p
  cases a with
  | true => exact h2 F H σ ρ Q m q
  | false => exact q false F H m.refl rfl
theorem ev_or {t u : TT} {f g : M Bool} (h : Ev B EX VB t f) (h2 : Ev B EX VB u g) : Ev B EX VB (tOr t u) (mOr f g) := by
  refine Ev.bind (tb := fun c σ H Q => if c = true then Q true H else u σ H Q) h fun a x F H σ ρ Q m p q => ?_
  cases p
  cases a with
  | false => exact h2 F H σ ρ Q m q
  | true => exact q true F H m.refl rfl
theorem ev_not {t : TT} {f : M Bool} (h : Ev B EX VB t f) : Ev B EX VB (tNot t) (mNot f) := by
  refine Ev.bind (tb := fun c σ H Q => Q (!c) H) h fun a x F H σ ρ Q m p q => ?_
  cases p
  exact q (!a) F H m.refl rfl
/-- and, or, not as values -/
def mAndV (a b : M D) : M D := bnd a fun x => match asBool x with
  | some true => b
  | some false => ret (.bool false)
  | none => stuck
def mOrV (a b : M D) : M D := bnd a fun x => match asBool x with
  | some true => ret (.bool true)
  | some false => b
  | none => stuck
def mNotV (a : M D) : M D := bnd a fun x => match asBool x with
  | some b => ret (.bool (!b))
  | none => stuck
theorem ev_andV {t u : TE} {f g : M D} (h : Ev B EX VD t f) (h2 : Ev B EX VD u g) : Ev B EX VD (tAndV t u) (mAndV f g) := by
  refine Ev.bind (tb := fun x σ H Q => ∃ c, x = .bl c ∧ if c = true then u σ H Q else Q (.bl false) H) h fun a x F H σ ρ Q m p q => ?_
  cases e : asBool a with
  | none => simp only [e] at q; exact q.elim
  | some b =>
    simp only [e] at q
    have e2 := asBool_eq e
    subst e2
    cases b with
    | true => exact ⟨true, p, h2 F H σ ρ Q m q⟩
    | false => exact ⟨false, p, q (.bl false) F H m.refl rfl⟩
theorem ev_orV {t u : TE} {f g : M D} (h : Ev B EX VD t f) (h2 : Ev B EX VD u g) : Ev B EX VD (tOrV t u) (mOrV f g) := by
  refine Ev.bind (tb := fun x σ H Q => ∃ c, x = .bl c ∧ if c = true then Q (.bl true) H else u σ H Q) h fun a x F H σ ρ Q m p q => ?_
  cases e : asBool a with
  | none => simp only [e] at q; exact q.elim
  | some b =>
    simp only [e] at q
    have e2 := asBool_eq e
    subst e2
    cases b with
    | false => exact ⟨false, p, h2 F H σ ρ Q m q⟩
    | true => exact ⟨true, p, q (.bl true) F H m.refl rfl⟩
theorem ev_notV {t : TE} {f : M D} (h : Ev B EX VD t f) : Ev B EX VD (tNotV t) (mNotV f) := by
  refine Ev.bind (tb := fun x σ H Q => ∃ c, x = V.bl c ∧ Q (V.bl (!c)) H) h fun a x F H σ ρ Q m p q => ?_
  cases e : asBool a with
  | none => simp only [e] at q; exact q.elim
  | some b =>
    simp only [e] at q
    have e2 := asBool_eq e
    subst e2
    exact ⟨b, p, q (.bl (!b)) F H m.refl rfl⟩
def mIf {α : Type} (c : M Bool) (a b : M α) : M α := bnd c fun x => if x = true then a else b
theorem ev_if {c : TT} {ta tb : TE} {fc : M Bool} {fa fb : M D} (hc : Ev B EX VB c fc) (ha : Ev B EX VD ta fa) (hb : Ev B EX VD tb fb) : Ev B EX VD (tIf c ta tb) (mIf fc fa fb) := by
  refine Ev.bind (tb := fun c σ H Q => if c = true then ta σ H Q else tb σ H Q) hc fun a x F H σ ρ Q m p q => ?_
  cases p
  cases a with
  | true => exact ha F H σ ρ Q m q
  | false => exact hb F H σ ρ Q m q
/-- a op b op c -/
def mChain (f g : D → D → Option D) (a b c : M TV) : M D := bnd a fun x => bnd b fun y => fun ρ => match deref ρ x, deref ρ y with
  | some d, some e => (match (f d e).bind asBool with
    | some true => bnd c (fun z => fun ρ => match deref ρ y, deref ρ z with
      | some e, some k => lft (g e k) ρ
      | _, _ => .no) ρ
    | some false => .ok (.bool false) ρ
    | none => .no)
  | _, _ => .no
theorem ev_chain {r r' : R2} {f g : D → D → Option D} {ta tb tc : TE} {fa fb fc : M TV} (ho : OpOk r f) (ho' : OpOk r' g) (ha : Ev B EX VT ta fa) (hb : Ev B EX VT tb fb) (hc : Ev B EX VT tc fc) : Ev B EX VD (tChain r r' ta tb tc) (mChain f g fa fb fc) := by
  refine Ev.bind (tb := fun x σ H Q => tb σ H fun y H2 => r x y H2 fun z H3 => ∃ k, z = .bl k ∧ (if k = true then tc σ H3 fun w' H4 => r' y w' H4 Q else Q (.bl false) H3)) ha fun a x F H σ ρ Q m p q => ?_
  refine hb F H σ ρ _ m ?_
  unfold bnd at q
  cases e : fb ρ with
  | ex c r => rw [e] at q; exact q
  | no => rw [e] at q; exact q
  | ok b ρ1 =>
    rw [e] at q
    intro y F1 H1 s1 py
    have m1 := s1.mt
    have px := p.step s1
    cases e1 : deref ρ1 a with
    | none => simp only [e1] at q; exact q.elim
    | some d =>
      cases e2 : deref ρ1 b with
      | none => simp only [e1, e2] at q; exact q.elim
      | some d2 =>
        simp only [e1, e2] at q
        cases e3 : f d d2 with
        | none => rw [e3] at q; exact q.elim
        | some z =>
          rw [e3] at q
          cases e4 : asBool z with
          | none => simp only [Option.bind, e4] at q; exact q.elim
          | some k =>
            simp only [Option.bind, e4] at q
            have e5 := asBool_eq e4
            subst e5
            refine ho m1.sub (px.now m1 e1) (TvOk.now m1 py e2) e3 fun v' F2 H2 x2 dz => ⟨k, dz, ?_⟩
            have s2 := m1.ext x2
            cases k with
            | false => exact q (.bl false) F2 H2 (s1.trans s2) rfl
            | true =>
              refine hc F2 H2 σ ρ1 _ s2.mt ?_
              have q2 : Post B EX F2 H2 σ ρ1 VD (bnd fc (fun z => fun ρ => match deref ρ b, deref ρ z with
                | some e, some k => lft (g e k) ρ
                | _, _ => .no) ρ1) Q := Post.from q (s1.trans s2)
              unfold bnd at q2
              cases e6 : fc ρ1 with
              | ex c r => rw [e6] at q2; exact q2
              | no => rw [e6] at q2; exact q2
              | ok c ρ3 =>
                rw [e6] at q2
                intro w F3 H3 s3 pw
                have py3 := (TvOk.step py s2).step s3
                cases e7 : deref ρ3 b with
                | none => simp only [e7] at q2; exact q2.elim
                | some d7 =>
                  cases e8 : deref ρ3 c with
                  | none => simp only [e7, e8] at q2; exact q2.elim
                  | some d8 =>
                    simp only [e7, e8] at q2
                    unfold lft at q2
                    cases e9 : g d7 d8 with
                    | none => rw [e9] at q2; exact q2.elim
                    | some z9 =>
                      rw [e9] at q2
                      exact ho' s3.mt.sub (py3.now s3.mt e7) (TvOk.now s3.mt pw e8) e9 fun v' F' H' x' dz => q2 v' F' H' (s3.ext x') dz
end
end Rn
end
section
set_option Elab.async false
set_option linter.all false
set_option autoImplicit false
set_option maxRecDepth 100000
set_option maxHeartbeats 4000000
namespace Rn
open PySem PySem.Spec PyProof.Rows L2
theorem tuple_mul1 (l : Addr) (items : Array Value) (n : Nat) (dd : Option Addr) (sl : Array (Option Value)) (u : Tok) :
    Meets (Builtin.«tuple.__mul__» ⟨[.ref l, .int 1 u], []⟩) (fun _ R s => s.heap.get? l = some { cls := .type "tuple", dict := dd, data := .seq items n, slots := sl } ∧ R (.ok (.ret (Value.ref l))) s) :=
  .of_wp fun prog w A R s h => by
    obtain ⟨hp, g, d, tk, os⟩ := s
    obtain ⟨hl, h⟩ := h
    have f1 := AutoSeq1.idx_int
    have c0 : (decide ((1 : Int) < -(2 ^ 63)) || decide ((1 : Int) ≥ 2 ^ 63)) = false := by decide
    have c1 : (items.isEmpty || (1 : Int) == 1) = true := by simp
    wp_walk using wpAny_loadPart' hl
    repeat (first
      | (refine wpAny_ite_false (decide_eq_false (by rw [c0]; exact Bool.false_ne_true)) ?_; wp_walk using wpAny_loadPart' hl)
      | (refine wpAny_ite_true (decide_eq_true (by rw [c1])) ?_; wp_walk using wpAny_loadPart' hl))
    exact ⟨_, rfl, h⟩
theorem tuple_mul0 (l : Addr) (items : Array Value) (n : Nat) (dd : Option Addr) (sl : Array (Option Value)) (x : Int) (u : Tok) (c0 : (decide (x < -(2 ^ 63)) || decide (x ≥ 2 ^ 63)) = false) (c1 : (items.isEmpty || x == 1) = false) (c2 : (decide (x ≤ 0) || items.isEmpty) = true) :
    Meets (Builtin.«tuple.__mul__» ⟨[.ref l, .int x u], []⟩) (fun _ R s => s.heap.get? l = some { cls := .type "tuple", dict := dd, data := .seq items n, slots := sl } ∧
      R (.ok (.ret (Value.ref s.heap.objs.size))) { s with heap := s.heap.push { cls := Value.type "tuple", data := Data.seq #[] }, toks := s.toks }) :=
  .of_wp fun prog w A R s h => by
    obtain ⟨hp, g, d, tk, os⟩ := s
    obtain ⟨hl, h⟩ := h
    have f1 := AutoSeq1.idx_int
    wp_walk using wpAny_loadPart' hl
    repeat (first
      | (refine wpAny_ite_false (decide_eq_false (by rw [c0]; exact Bool.false_ne_true)) ?_; wp_walk using wpAny_loadPart' hl)
      | (refine wpAny_ite_false (decide_eq_false (by rw [c1]; exact Bool.false_ne_true)) ?_; wp_walk using wpAny_loadPart' hl)
      | (refine wpAny_ite_true (decide_eq_true (by rw [c2])) ?_; wp_walk using wpAny_loadPart' hl))
    exact ⟨_, rfl, h⟩
def rRepA (K : PySem.W.Frag) : R2 := fun x y H Q => ∃ l k xs, x = .ref l ∧ y = .int k ∧ SqT K H l xs ∧ xs ≠ [] ∧ -1000 ≤ k ∧ k ≤ 1000 ∧ xs.length ≤ 1000 ∧ (2 ≤ k → ∀ p, H p = none → Q (.ref p) (upd H p (.tup (List.replicate k.toNat xs).flatten))) ∧ (k = 1 → Q (.ref l) H) ∧ (k ≤ 0 → ∀ p, H p = none → Q (.ref p) (upd H p (.tup [])))
section
variable {X : Cx}
theorem op_repA : OpR X (binaryOp .Mult) (rRepA X.K) := by
  intro pins s σ H x y v u Q I rx ry h
  obtain ⟨l, k, xs, rfl, rfl, hT, hne, h0, h1, hz, q2, q1, q0⟩ := h
  by_cases hk2 : 2 ≤ k
  · exact op_repT pins s σ H _ _ v u Q I rx ry ⟨l, k, xs, rfl, rfl, hT, hne, hk2, h1, hz, q2 hk2⟩
  cases rx
  obtain ⟨t, rfl⟩ := ry
  obtain ⟨its, r, ⟨⟨cls, dd, data, sl⟩, ho, hc, n, hd⟩, hs⟩ := I.tuple hT
  simp only at hc hd
  subst hc hd
  have hle : its.length = xs.length := r.length.symm
  have hi : its.toArray.isEmpty = false := by
    cases its with
    | nil => exact absurd (List.eq_nil_of_length_eq_zero hle.symm) hne
    | cons a b => rfl
  have c0 : (decide (k < -(2 ^ 63)) || decide (k ≥ 2 ^ 63)) = false := by
    rw [decide_eq_false (by omega), decide_eq_false (by omega)] <;> rfl
  by_cases hk1 : k = 1
  · subst hk1
    exact wpAny_binaryOp_repeat_ref (T := "tuple") (U := "int") (by decide) ⟨_, ho, rfl⟩ (fun s' => typeIs_int s' 1 t) noFill_tuple_mul F.fills_int_mul F.slot_int_rmul repeat_tuple F.slot_int_index.lookup
      (call_meets F.slot_int_rmul (typeIs_int s 1 t) F.entry_int_rmul (F.args_int_rmul_2 _ _) (int_rmul_tuple 1 t l its.toArray n dd sl)
        ⟨ho, rfl, ⟨_, ho, rfl⟩, call_meets F.slot_tuple_mul ⟨_, ho, rfl⟩ F.entry_tuple_mul (F.args_tuple_mul_2 _ _) (tuple_mul1 l its.toArray n dd sl t) ⟨ho, .ref l, H, I, rfl, q1 rfl⟩⟩)
  · have hk0 : k ≤ 0 := by omega
    have c1 : (its.toArray.isEmpty || k == 1) = false := by
      rw [hi, Bool.false_or]
      exact beq_eq_false_iff_ne.mpr hk1
    have c2 : (decide (k ≤ 0) || its.toArray.isEmpty) = true := by
      rw [decide_eq_true hk0]
      rfl
    refine wpAny_binaryOp_repeat_ref (T := "tuple") (U := "int") (by decide) ⟨_, ho, rfl⟩ (fun s' => typeIs_int s' k t) noFill_tuple_mul F.fills_int_mul F.slot_int_rmul repeat_tuple F.slot_int_index.lookup
      (call_meets F.slot_int_rmul (typeIs_int s k t) F.entry_int_rmul (F.args_int_rmul_2 _ _) (int_rmul_tuple k t l its.toArray n dd sl)
        ⟨ho, rfl, ⟨_, ho, rfl⟩, call_meets F.slot_tuple_mul ⟨_, ho, rfl⟩ F.entry_tuple_mul (F.args_tuple_mul_2 _ _) (tuple_mul0 l its.toArray n dd sl k t c0 c1 c2) ⟨ho, ?_⟩⟩)
    exact ⟨.ref s.heap.objs.size, _, I.laid (t' := s.toks) (o := .tup []) (fun b ob q => Heap.get?_push_of_some _ q) (Nat.le_refl _) ⟨Nat.zero_le _, [], .nil, IsTup.new _ _⟩, rfl, q0 hk0 _ (I.hok.fresh (Nat.le_refl _))⟩
end
end Rn
end
section
set_option Elab.async false
set_option linter.all false
set_option maxRecDepth 100000
namespace Rn
open PySem PySem.Spec L2
section
variable {F H : Hp} {v : V}
theorem NowD.none (h : NowD F H v .none) : v = .non := by
  rcases h with h | ⟨a, o, _, _, h⟩
  · exact h
  · cases o <;> exact h.elim
theorem NowD.bool {b : Bool} (h : NowD F H v (.bool b)) : v = .bl b := by
  rcases h with h | ⟨a, o, _, _, h⟩
  · exact h
  · cases o <;> exact h.elim
theorem NowD.int {b : Int} (h : NowD F H v (.int b)) : v = .int b := by
  rcases h with h | ⟨a, o, _, _, h⟩
  · exact h
  · cases o <;> exact h.elim
theorem NowD.str {b : Str} (h : NowD F H v (.str b)) : v = .str b := by
  rcases h with h | ⟨a, o, _, _, h⟩
  · exact h
  · cases o <;> exact h.elim
theorem NowD.lst {ds : List D} (s : Same F H) (h : NowD F H v (.list ds)) : ∃ a vs, v = .ref a ∧ H a = some (.lst vs) ∧ DenL F ds vs := by
  rcases h with ⟨a, vs, e, h, l⟩ | ⟨a, o, e, h, l⟩
  · exact ⟨a, vs, e, s _ _ h, l⟩
  · obtain ⟨vs, rfl, q⟩ := l.lst
    exact ⟨a, vs, e, h, q⟩
theorem NowD.tup {ds : List D} (s : Same F H) (h : NowD F H v (.tuple ds)) : ∃ a vs, v = .ref a ∧ F a = some (.tup vs) ∧ H a = some (.tup vs) ∧ DenL F ds vs := by
  rcases h with ⟨a, vs, e, h, l⟩ | ⟨a, o, e, h, l⟩
  · exact ⟨a, vs, e, h, s _ _ h, l⟩
  · cases o <;> exact l.elim
theorem NowD.dic {ds : List (D × D)} (s : Same F H) (h : NowD F H v (.dict ds)) (n : isIN ds = false) : (∃ a vs, v = .ref a ∧ H a = some (.dK vs) ∧ DenK F ds vs) ∨ ∃ a vs, v = .ref a ∧ H a = some (.dT vs) ∧ DenT0 F ds vs := by
  rcases h with (⟨a, vs, e, h, l⟩ | ⟨a, vs, e, h, l⟩ | ⟨a, C, dx, fs, e, h, l⟩) | ⟨a, o, e, h, l⟩
  · exact .inl ⟨a, vs, e, s _ _ h, l⟩
  · exact .inr ⟨a, vs, e, s _ _ h, l⟩
  · rw [l.inn] at n; cases n
  · obtain ⟨vs, rfl, q⟩ := l.dic n
    exact .inl ⟨a, vs, e, h, q⟩
theorem NowD.ins {ds : List (D × D)} (s : Same F H) (h : NowD F H v (.dict ds)) (n : isIN ds = true) : ∃ a C dx fs, v = .ref a ∧ H a = some (.ins C dx fs) ∧ DenI0 F ds C fs := by
  have nk : ∀ {kvs}, DenK F ds kvs → False := fun {kvs} l => by
    cases ds with
    | nil => cases n
    | cons p r =>
      obtain ⟨k, d⟩ := p
      obtain ⟨q, _, _, _, hq, _⟩ := l
      subst hq
      cases q <;> cases n
  have nt : ∀ {kvs}, DenT0 F ds kvs → False := fun {kvs} l => by
    cases ds with
    | nil => cases n
    | cons p r =>
      obtain ⟨k, d⟩ := p
      obtain ⟨hq, _⟩ := l
      subst hq
      cases n
  rcases h with (⟨a, vs, e, h, l⟩ | ⟨a, vs, e, h, l⟩ | ⟨a, C, dx, fs, e, h, l⟩) | ⟨a, o, e, h, l⟩
  · exact (nk l).elim
  · exact (nt l).elim
  · exact ⟨a, C, dx, fs, e, s _ _ h, l⟩
  · rcases l.cases with ⟨_, _, z, _⟩ | ⟨_, _, z, _, l⟩ | ⟨_, C, dx, fs, z, rfl, l⟩
    · cases z
    · cases z; exact (nk l).elim
    · cases z; exact ⟨a, C, dx, fs, e, h, l⟩
end
mutual
theorem Den.dp {K : PySem.W.Frag} {F H : Hp} (s : Same F H) : ∀ {d : D} {v : V}, d.plain = true → Den F d v → Dp K H v d
  | .none, _, _, h => by cases h; exact .non
  | .bool _, _, _, h => by cases h; exact .bl _
  | .int _, _, _, h => by cases h; exact .int _
  | .str _, _, _, h => by cases h; exact .str _
  | .list ds, _, p, ⟨a, vs, e, h, l⟩ => by subst e; exact .lst (SqL.of (s _ _ h)) (DenL.dp s p l)
  | .tuple ds, _, p, ⟨a, vs, e, h, l⟩ => by subst e; exact .tup (SqT.of (s _ _ h)) (DenL.dp s p l)
  | .dict kds, _, p, _ => by cases p
theorem DenL.dp {K : PySem.W.Frag} {F H : Hp} (s : Same F H) : ∀ {ds : List D} {vs : List V}, PyData.plainAll ds = true → DenL F ds vs → DpAll K H vs ds
  | [], _, _, h => by cases h; exact .nil
  | _ :: _, _, p, ⟨v, r, e, h, l⟩ => by
    subst e
    have p' := Bool.and_eq_true_iff.mp p
    exact .cons (Den.dp s p'.1 h) (DenL.dp s p'.2 l)
end
theorem NowD.dp {K : PySem.W.Frag} {F H : Hp} (s : Same F H) {d : D} {v : V} (p : d.plain = true) (h : NowD F H v d) : Dp K H v d := by
  rcases h with h | ⟨a, o, rfl, e, sh⟩
  · exact h.dp s p
  · rcases sh.cases with ⟨ds, vs, rfl, rfl, l⟩ | ⟨ds, vs, rfl, rfl, l⟩ | ⟨ds, C, dx, fs, rfl, rfl, l⟩
    · exact .lst (SqL.of e) (DenL.dp s p l)
    · cases p
    · cases p
def dOk (d e : D) : Bool := d.plain && e.plain && decide (min d.depth e.depth ≤ 64)
def rEqP (K : PySem.W.Frag) : R2 := fun x y H Q => ∃ d e, Dp K H x d ∧ Dp K H y e ∧ dOk d e = true ∧ Q (.bl (PyData.eqv d e)) H
def rNeP (K : PySem.W.Frag) : R2 := fun x y H Q => ∃ d e, Dp K H x d ∧ Dp K H y e ∧ dOk d e = true ∧ Q (.bl (!PyData.eqv d e)) H
theorem dOk_parts {d e : D} (h : dOk d e = true) : d.plain = true ∧ e.plain = true ∧ min d.depth e.depth ≤ 64 := by
  unfold dOk at h
  rw [Bool.and_eq_true, Bool.and_eq_true] at h
  exact ⟨h.1.1, h.1.2, of_decide_eq_true h.2⟩
section
variable {X : Cx}
theorem op_eqP (hu : X.A.units + 64 < cLine) : OpR X (compareOp .Eq) (rEqP X.K) := by
  intro pins s σ H x y v u Q I rx ry h
  obtain ⟨d, e, h1, h2, ok, q⟩ := h
  obtain ⟨p1, p2, p3⟩ := dOk_parts ok
  obtain ⟨as, r1⟩ := Dp.reads I d x v h1 rx
  obtain ⟨bs, r2⟩ := Dp.reads I e y u h2 ry
  exact PySem.SeqAt.eq_plain r1 r2 p1 p2 (by omega) ⟨.bl _, H, I, rfl, q⟩
theorem op_neP (hu : X.A.units + 64 < cLine) : OpR X (compareOp .NotEq) (rNeP X.K) := by
  intro pins s σ H x y v u Q I rx ry h
  obtain ⟨d, e, h1, h2, ok, q⟩ := h
  obtain ⟨p1, p2, p3⟩ := dOk_parts ok
  obtain ⟨as, r1⟩ := Dp.reads I d x v h1 rx
  obtain ⟨bs, r2⟩ := Dp.reads I e y u h2 ry
  exact PySem.SeqAt.ne_plain r1 r2 p1 p2 (by omega) ⟨.bl _, H, I, rfl, q⟩
def isSeqD (d : D) (ds : List D) : Prop := d = .list ds ∨ d = .tuple ds
def inOk (d : D) (ds : List D) : Bool := d.plain && PyData.plainAll ds && decide (min (PyData.depthAll ds) d.depth ≤ 63)
def rInP (K : PySem.W.Frag) (neg : Bool) : R2 := fun x y H Q => ∃ d e ds, Dp K H x d ∧ Dp K H y e ∧ isSeqD e ds ∧ inOk d ds = true ∧ Q (.bl (if neg then !(ds.any fun z => PyData.eqv z d) else ds.any fun z => PyData.eqv z d)) H
theorem op_inP (hu : X.A.units + 64 < cLine) : OpR X (compareOp .In) (rInP X.K false) := by
  intro pins s σ H x y v u Q I rx ry h
  obtain ⟨d, e, ds, h1, h2, h3, ok, q⟩ := h
  unfold inOk at ok
  rw [Bool.and_eq_true, Bool.and_eq_true] at ok
  obtain ⟨⟨p1, p2⟩, p3⟩ := ok
  have p3 := of_decide_eq_true p3
  obtain ⟨as, r1⟩ := Dp.reads I d x v h1 rx
  obtain ⟨bs, r2⟩ := Dp.reads I e y u h2 ry
  rcases h3 with rfl | rfl
  · exact PySem.SeqAt.in_list_data r2 r1 p2 p1 (by omega) ⟨.bl _, H, I, rfl, q⟩
  · exact PySem.SeqAt.in_tuple_data r2 r1 p2 p1 (by omega) ⟨.bl _, H, I, rfl, q⟩
theorem op_notInP (hu : X.A.units + 64 < cLine) : OpR X (compareOp .NotIn) (rInP X.K true) := by
  intro pins s σ H x y v u Q I rx ry h
  obtain ⟨d, e, ds, h1, h2, h3, ok, q⟩ := h
  unfold inOk at ok
  rw [Bool.and_eq_true, Bool.and_eq_true] at ok
  obtain ⟨⟨p1, p2⟩, p3⟩ := ok
  have p3 := of_decide_eq_true p3
  obtain ⟨as, r1⟩ := Dp.reads I d x v h1 rx
  obtain ⟨bs, r2⟩ := Dp.reads I e y u h2 ry
  rcases h3 with rfl | rfl
  · exact PySem.SeqAt.notIn_list_data r2 r1 p2 p1 (by omega) ⟨.bl _, H, I, rfl, q⟩
  · exact PySem.SeqAt.notIn_tuple_data r2 r1 p2 p1 (by omega) ⟨.bl _, H, I, rfl, q⟩
end
def eqF (d e : D) : Option D := if dOk d e = true then some (.bool (PyData.eqv d e)) else none
def neF (d e : D) : Option D := if dOk d e = true then some (.bool (!PyData.eqv d e)) else none
theorem ok_eq {K : PySem.W.Frag} : OpOk (rEqP K) eqF := by
  intro F H v w d e z Q s h1 h2 h3 q
  unfold eqF at h3
  split at h3
  · next ok =>
    cases h3
    obtain ⟨p1, p2, p3⟩ := dOk_parts ok
    exact ⟨d, e, h1.dp s p1, h2.dp s p2, ok, q _ F H (Ext.refl s) rfl⟩
  · cases h3
theorem ok_ne {K : PySem.W.Frag} : OpOk (rNeP K) neF := by
  intro F H v w d e z Q s h1 h2 h3 q
  unfold neF at h3
  split at h3
  · next ok =>
    cases h3
    obtain ⟨p1, p2, p3⟩ := dOk_parts ok
    exact ⟨d, e, h1.dp s p1, h2.dp s p2, ok, q _ F H (Ext.refl s) rfl⟩
  · cases h3
def seqD : D → Option (List D)
  | .list ds => some ds
  | .tuple ds => some ds
  | _ => none
theorem seqD_is {e : D} {ds : List D} (h : seqD e = some ds) : isSeqD e ds := by
  cases e <;> simp [seqD] at h
  · exact .inl (by rw [h])
  · exact .inr (by rw [h])
def inF (neg : Bool) (d e : D) : Option D := match seqD e with
  | some ds => if inOk d ds = true then some (.bool (if neg then !(ds.any fun z => PyData.eqv z d) else ds.any fun z => PyData.eqv z d)) else none
  | none => none
theorem ok_in {K : PySem.W.Frag} {neg : Bool} : OpOk (rInP K neg) (inF neg) := by
  intro F H v w d e z Q s h1 h2 h3 q
  unfold inF at h3
  cases e1 : seqD e with
  | none => simp only [e1] at h3; cases h3
  | some ds =>
    simp only [e1] at h3
    split at h3
    · next ok =>
      cases h3
      have ok' := ok
      unfold inOk at ok'
      rw [Bool.and_eq_true, Bool.and_eq_true] at ok'
      obtain ⟨⟨p1, p2⟩, p3⟩ := ok'
      have pe : e.plain = true := by
        rcases seqD_is e1 with rfl | rfl <;> exact p2
      exact ⟨d, e, ds, h1.dp s p1, h2.dp s pe, seqD_is e1, ok, q _ F H (Ext.refl s) rfl⟩
    · cases h3
def big : Nat := 1000000
theorem big_le {n : Nat} (h : n ≤ big) : n ≤ sizeLine := Nat.le_trans h (by decide)
def rAddA (K : PySem.W.Frag) : R2 := fun x y H Q => (((rI0 fun i j => .int (i + j)) x y H Q ∨ ∃ i j, x = .str i ∧ y = .str j ∧ i.length + j.length ≤ sizeLine ∧ Q (.str (i ++ j)) H) ∨ rCat x y H Q) ∨ rCatA K x y H Q
theorem op_addA {X : Cx} : OpR X (binaryOp .Add) (rAddA X.K) := ((op_add.or op_add_str).or op_cat).or op_catA
def addF : D → D → Option D
  | .int i, .int j => some (.int (i + j))
  | .str i, .str j => if i.length + j.length ≤ big then some (.str (i ++ j)) else none
  | .list i, .list j => if i.length + j.length ≤ big then some (.list (i ++ j)) else none
  | .tuple i, .tuple j => if i.length + j.length ≤ big then some (.tuple (i ++ j)) else none
  | _, _ => none
theorem nil_of_len {α : Type} {l : List α} (h : l.length = 0) : l = [] := List.length_eq_zero_iff.mp h
theorem ok_add {K : PySem.W.Frag} : OpOk (rAddA K) addF := by
  intro F H v w d e z Q s h1 h2 h3 q
  unfold addF at h3
  split at h3
  · cases h3
    exact .inl (.inl (.inl ⟨_, _, h1.int, h2.int, q _ F H (Ext.refl s) rfl⟩))
  · split at h3
    · next hl => cases h3; exact .inl (.inl (.inr ⟨_, _, h1.str, h2.str, big_le hl, q _ F H (Ext.refl s) rfl⟩))
    · cases h3
  · split at h3
    · next hl =>
      cases h3
      obtain ⟨a, vs, rfl, e1, l1⟩ := h1.lst s
      obtain ⟨b, ws, rfl, e2, l2⟩ := h2.lst s
      refine .inl (.inr ⟨a, b, vs, ws, rfl, rfl, e1, e2, big_le (by rw [← l1.len, ← l2.len]; exact hl), fun p hp => ?_⟩)
      have x := Ext.laid s hp (.lst (vs ++ ws))
      exact q _ _ _ x ⟨p, _, rfl, upd_same, DenL.mono x.old (l1.app l2)⟩
    · cases h3
  · split at h3
    · next hl =>
      cases h3
      obtain ⟨a, vs, rfl, f1, e1, l1⟩ := h1.tup s
      obtain ⟨b, ws, rfl, f2, e2, l2⟩ := h2.tup s
      refine .inr ⟨a, b, vs, ws, rfl, rfl, SqT.of e1, SqT.of e2, big_le (by rw [← l1.len, ← l2.len]; exact hl), fun h => ?_, fun _ h => ?_, fun _ _ p hp => ?_⟩
      · subst h
        have l1' := nil_of_len l1.len
        subst l1'
        exact q _ F H (Ext.refl s) ⟨b, ws, rfl, f2, l2⟩
      · subst h
        have l2' := nil_of_len l2.len
        subst l2'
        exact q _ F H (Ext.refl s) ⟨a, vs, rfl, f1, by rw [List.append_nil]; exact l1⟩
      · have x := Ext.laid s hp (.tup (vs ++ ws))
        exact q _ _ _ x ⟨p, _, rfl, upd_same, DenL.mono x.old (l1.app l2)⟩
    · cases h3
  · cases h3
def subF : D → D → Option D
  | .int i, .int j => some (.int (i - j))
  | _, _ => none
theorem ok_sub : OpOk (rI0 fun i j => .int (i - j)) subF := by
  intro F H v w d e z Q s h1 h2 h3 q
  unfold subF at h3
  split at h3
  · cases h3; exact ⟨_, _, h1.int, h2.int, q _ F H (Ext.refl s) rfl⟩
  · cases h3
def cmpI (p : Int → Int → Bool) : D → D → Option D
  | .int i, .int j => some (.bool (p i j))
  | _, _ => none
theorem ok_cmpI {p : Int → Int → Bool} : OpOk (rI0 fun i j => .bl (p i j)) (cmpI p) := by
  intro F H v w d e z Q s h1 h2 h3 q
  unfold cmpI at h3
  split at h3
  · cases h3; exact ⟨_, _, h1.int, h2.int, q _ F H (Ext.refl s) rfl⟩
  · cases h3
abbrev ltF := cmpI fun i j => decide (i < j)
abbrev leF := cmpI fun i j => decide (i ≤ j)
abbrev gtF := cmpI fun i j => decide (j < i)
abbrev geF := cmpI fun i j => decide (j ≤ i)
def rMulA (K : PySem.W.Frag) : R2 := fun x y H Q => (((rI CMul fun i j => .int (i * j)) x y H Q ∨ (rI CMulW fun i j => .int (i * j)) x y H Q) ∨ rRep x y H Q) ∨ rRepA K x y H Q
theorem op_mulA {X : Cx} : OpR X (binaryOp .Mult) (rMulA X.K) := ((op_mul.or op_mulW).or op_rep).or op_repA
def isSmall (i : Int) : Bool := decide (-(2 ^ 64) < i) && decide (i < 2 ^ 64)
def mulF : D → D → Option D
  | .int i, .int j => if (isSmall i || isSmall j) = true then some (.int (i * j)) else if i.natAbs < 2 ^ 400 ∧ j.natAbs < 2 ^ 400 then some (.int (i * j)) else none
  | .list i, .int j => if i.length ≤ 1000 ∧ 0 ≤ j ∧ j ≤ 1000 then some (.list (List.replicate j.toNat i).flatten) else none
  | .tuple i, .int j => if i ≠ [] ∧ i.length ≤ 1000 ∧ -1000 ≤ j ∧ j ≤ 1000 then some (.tuple (List.replicate j.toNat i).flatten) else none
  | _, _ => none
theorem small_is {i : Int} (h : isSmall i = true) : -(2 ^ 64) < i ∧ i < 2 ^ 64 := by
  unfold isSmall at h
  rw [Bool.and_eq_true] at h
  exact ⟨of_decide_eq_true h.1, of_decide_eq_true h.2⟩
theorem ok_mul {K : PySem.W.Frag} : OpOk (rMulA K) mulF := by
  intro F H v w d e z Q s h1 h2 h3 q
  unfold mulF at h3
  split at h3
  · split at h3
    · next hs =>
      cases h3
      refine .inl (.inl (.inl ⟨_, _, h1.int, h2.int, ?_, q _ F H (Ext.refl s) rfl⟩))
      rcases Bool.or_eq_true_iff.mp hs with h | h
      · exact .inl (small_is h)
      · exact .inr (small_is h)
    · split at h3
      · next hb => cases h3; exact .inl (.inl (.inr ⟨_, _, h1.int, h2.int, wide_mul hb.1 hb.2 (by decide) (by decide) (by decide), q _ F H (Ext.refl s) rfl⟩))
      · cases h3
  · split at h3
    · next hb =>
      cases h3
      obtain ⟨a, vs, rfl, e1, l1⟩ := h1.lst s
      obtain ⟨b1, b2, b3⟩ := hb
      refine .inl (.inr ⟨a, _, vs, rfl, h2.int, e1, by omega, by omega, ?_, fun p hp => ?_⟩)
      · rw [← l1.len]
        exact Nat.le_trans (Nat.mul_le_mul b1 (Int.toNat_le.mpr b3)) (by decide)
      · exact q _ _ _ (Ext.laid s hp _) ⟨p, _, rfl, upd_same, DenL.mono (same_upd (s.free hp)) (l1.rep _)⟩
    · cases h3
  · split at h3
    · next hb =>
      cases h3
      obtain ⟨b0, b1, b2, b3⟩ := hb
      obtain ⟨a, vs, rfl, e1, e2, l1⟩ := h1.tup s
      refine .inr ⟨a, _, vs, rfl, h2.int, SqT.of e2, fun z => b0 ?_, b2, b3, by rw [← l1.len]; exact b1, fun _ p hp => ?_, fun hk => ?_, fun hk p hp => ?_⟩
      · have := l1.len
        rw [z] at this
        exact List.eq_nil_of_length_eq_zero (by simpa using this)
      · exact q _ _ _ (Ext.laid s hp _) ⟨p, _, rfl, upd_same, DenL.mono (same_upd (s.free hp)) (l1.rep _)⟩
      · subst hk
        refine q _ F H (Ext.refl s) ?_
        simp only [Int.toNat_one, List.replicate_one, List.flatten_cons, List.flatten_nil, List.append_nil]
        exact ⟨a, vs, rfl, e1, l1⟩
      · rename_i j
        have e0 : Int.toNat j = 0 := by omega
        refine q _ _ _ (Ext.laid s hp _) ⟨p, _, rfl, upd_same, ?_⟩
        rw [e0]
        exact rfl
    · cases h3
  · cases h3
def repF : D → D → Option D
  | .list i, .int j => if i.length ≤ 1000 ∧ 0 ≤ j ∧ j ≤ 1000 then some (.list (List.replicate j.toNat i).flatten) else none
  | _, _ => none
theorem okF_rep : OpOkF rRep repF := by
  intro F H v w d e z Q s h1 h2 h3 q
  unfold repF at h3
  split at h3
  · split at h3
    · next hb =>
      cases h3
      obtain ⟨a, vs, rfl, e1, l1⟩ := h1.lst s
      obtain ⟨b1, b2, b3⟩ := hb
      refine ⟨a, _, vs, rfl, h2.int, e1, by omega, by omega, ?_, fun p hp => q p _ hp (l1.rep _)⟩
      rw [← l1.len]
      exact Nat.le_trans (Nat.mul_le_mul b1 (Int.toNat_le.mpr b3)) (by decide)
    · cases h3
  · cases h3
def fdivF : D → D → Option D
  | .int i, .int j => if 0 < j ∧ j.natAbs < 2 ^ 400 then some (.int (i / j)) else none
  | _, _ => none
theorem ok_fdiv : OpOk (rI CDivW fun i j => .int (i / j)) fdivF := by
  intro F H v w d e z Q s h1 h2 h3 q
  unfold fdivF at h3
  split at h3
  · split at h3
    · next hb => cases h3; exact ⟨_, _, h1.int, h2.int, wide_div hb.1 hb.2 (by decide) (by decide), q _ F H (Ext.refl s) rfl⟩
    · cases h3
  · cases h3
def modF : D → D → Option D
  | .int i, .int j => if 0 < j then some (.int (i % j)) else none
  | _, _ => none
theorem ok_mod : OpOk (rI (fun _ j => 0 < j) fun i j => .int (i % j)) modF := by
  intro F H v w d e z Q s h1 h2 h3 q
  unfold modF at h3
  split at h3
  · split at h3
    · next hb => cases h3; exact ⟨_, _, h1.int, h2.int, hb, q _ F H (Ext.refl s) rfl⟩
    · cases h3
  · cases h3
def powF : D → D → Option D
  | .int i, .int j => if 0 ≤ j ∧ j ≤ 100 ∧ i.natAbs < 2 ^ 64 then some (.int (i ^ j.toNat)) else none
  | _, _ => none
theorem ok_pow : OpOk (rI CPow fun i j => .int (i ^ j.toNat)) powF := by
  intro F H v w d e z Q s h1 h2 h3 q
  unfold powF at h3
  split at h3
  · split at h3
    · next hb => cases h3; exact ⟨_, _, h1.int, h2.int, ⟨hb.1, by have := hb.2.1; omega, hb.2.2⟩, q _ F H (Ext.refl s) rfl⟩
    · cases h3
  · cases h3
def isNoneD : D → Bool
  | .none => true
  | _ => false
def isF (neg : Bool) : D → D → Option D
  | d, .none => some (.bool (if neg then !isNoneD d else isNoneD d))
  | _, _ => none
theorem now_none {F H : Hp} {v : V} {d : D} (h : NowD F H v d) : decide (v = .non) = isNoneD d := by
  cases d with
  | none => rw [h.none]; rfl
  | bool b => rw [h.bool]; rfl
  | int b => rw [h.int]; rfl
  | str b => rw [h.str]; rfl
  | list ds => rcases h with ⟨a, vs, rfl, _⟩ | ⟨a, o, rfl, _⟩ <;> rfl
  | tuple ds => rcases h with ⟨a, vs, rfl, _⟩ | ⟨a, o, rfl, _⟩ <;> rfl
  | dict ds => rcases h with (⟨a, vs, rfl, _⟩ | ⟨a, vs, rfl, _⟩ | ⟨a, _, _, vs, rfl, _⟩) | ⟨a, o, rfl, _⟩ <;> rfl
theorem ok_is : OpOk (fun x y H Q => y = .non ∧ Q (.bl (decide (x = .non))) H) (isF false) := by
  intro F H v w d e z Q s h1 h2 h3 q
  unfold isF at h3
  split at h3
  · cases h3; exact ⟨h2.none, by rw [now_none h1]; exact q _ F H (Ext.refl s) rfl⟩
  · cases h3
theorem ok_isnot : OpOk (fun x y H Q => y = .non ∧ Q (.bl (!decide (x = .non))) H) (isF true) := by
  intro F H v w d e z Q s h1 h2 h3 q
  unfold isF at h3
  split at h3
  · cases h3; exact ⟨h2.none, by rw [now_none h1]; exact q _ F H (Ext.refl s) rfl⟩
  · cases h3
def ixF : D → D → Option D
  | .list ds, .int i => atI ds i
  | .tuple ds, .int i => atI ds i
  | .str z, .int i => if z.length ≤ big then (atI z.cps.toList i).map fun c => .str ⟨#[c]⟩ else none
  | _, _ => none
theorem atI_den {F : Hp} {ds : List D} {vs : List V} {i : Int} {d : D} (l : DenL F ds vs) (h : atI ds i = some d) : ∃ v, atI vs i = some v ∧ Den F d v := by
  unfold atI at h ⊢
  rw [← l.len]
  cases e : ixN ds.length i with
  | none => rw [e] at h; cases h
  | some j =>
    rw [e] at h
    obtain ⟨v, h1, h2⟩ := l.get (i := j) (d := d) h
    exact ⟨v, h1, h2⟩
theorem ok_ix {K : PySem.W.Frag} : OpOk (rIx K) ixF := by
  intro F H v w d e z Q s h1 h2 h3 q
  unfold ixF at h3
  split at h3
  · obtain ⟨a, vs, rfl, e1, l1⟩ := h1.lst s
    obtain ⟨u, g1, g2⟩ := atI_den l1 h3
    exact .inl ⟨a, vs, _, u, rfl, h2.int, SqL.of e1, g1, q _ F H (Ext.refl s) g2⟩
  · obtain ⟨a, vs, rfl, f1, e1, l1⟩ := h1.tup s
    obtain ⟨u, g1, g2⟩ := atI_den l1 h3
    exact .inr (.inl ⟨a, vs, _, u, rfl, h2.int, SqT.of e1, g1, q _ F H (Ext.refl s) g2⟩)
  · split at h3
    · next hl =>
      cases e4 : atI (Array.toList _) _ with
      | none => rw [e4] at h3; cases h3
      | some c => rw [e4] at h3; cases h3; exact .inr (.inr ⟨_, _, c, h1.str, h2.int, big_le hl, e4, q _ F H (Ext.refl s) rfl⟩)
    · cases h3
  · cases h3
def VO : L2.St → Hp → Hp → Rho → Option Int → Option Int → Prop := fun _ _ _ _ b v => v = b
section
variable {B : Bd} {EX : Str → Hp → Prop}
def asInt : D → Option Int
  | .int i => some i
  | _ => none
def mPart (f : M D) : M (Option Int) := bnd f fun d => lft ((asInt d).map some)
def mNoPart : M (Option Int) := ret none
theorem ev_nopart : Ev B EX VO tNoPart mNoPart := fun F H σ ρ Q m h => h none F H m.refl rfl
theorem ev_part {t : TE} {f : M D} (h : Ev B EX VD t f) : Ev B EX VO (tPart t) (mPart f) := by
  refine Ev.bind (tb := fun x σ H Q => ∃ i, x = V.int i ∧ Q (some i) H) h fun a x F H σ ρ Q m p q => ?_
  cases a <;> first | exact q.elim | skip
  rename_i i
  exact ⟨i, p, q (some i) F H m.refl rfl⟩
def SlOk (r : V → Option Int → Option Int → Hp → VK → Prop) (f : D → Option Int → Option Int → Option D) : Prop := ∀ {F H : Hp} {v : V} {d z : D} {lo hi : Option Int} {Q : VK}, Same F H → NowD F H v d → f d lo hi = some z → (∀ v' F' H', Ext F H F' H' → Den F' z v' → Q v' H') → r v lo hi H Q
def mSl (f : D → Option Int → Option Int → Option D) (a : M TV) (b c : M (Option Int)) : M D := bnd a fun x => bnd b fun y => bnd c fun z => fun ρ => match deref ρ x with
  | some d => lft (f d y z) ρ
  | none => .no
theorem ev_sl {r : V → Option Int → Option Int → Hp → VK → Prop} {f : D → Option Int → Option Int → Option D} {te : TE} {tl th : TO} {fa : M TV} {fb fc : M (Option Int)} (ho : SlOk r f) (ha : Ev B EX VT te fa) (hb : Ev B EX VO tl fb) (hc : Ev B EX VO th fc) :
    Ev B EX VD (tSl r te tl th) (mSl f fa fb fc) := by
  refine Ev.bind (tb := fun x σ H Q => tl σ H fun l H2 => th σ H2 fun u H3 => r x l u H3 Q) ha fun a x F H σ ρ Q m p q => ?_
  refine hb F H σ ρ _ m ?_
  unfold bnd at q
  cases e : fb ρ with
  | ex c r => rw [e] at q; exact q
  | no => rw [e] at q; exact q
  | ok b ρ1 =>
    rw [e] at q
    intro y F1 H1 s1 py
    cases py
    refine hc F1 H1 σ ρ1 _ s1.mt ?_
    have q := Post.from q s1
    cases e2 : fc ρ1 with
    | ex c r => simp only [e2] at q; exact q
    | no => simp only [e2] at q; exact q
    | ok c ρ2 =>
      simp only [e2] at q
      intro w F2 H2 s2 pw
      cases pw
      have px := (p.step s1).step s2
      cases e1 : deref ρ2 a with
      | none => simp only [e1] at q; exact q.elim
      | some d =>
        simp only [e1] at q
        unfold lft at q
        cases e3 : f d b c with
        | none => rw [e3] at q; exact q.elim
        | some z =>
          rw [e3] at q
          exact ho s2.mt.sub (px.now s2.mt e1) e3 fun v' F' H' x' dz => q v' F' H' (s2.ext x') dz
end
def cutD (xs : List D) (lo hi : Option Int) : List D := (xs.drop (HT.sIx xs.length 0 lo)).take (HT.sIx xs.length xs.length hi - HT.sIx xs.length 0 lo)
theorem cut_den {F : Hp} {ds : List D} {vs : List V} (l : DenL F ds vs) (lo hi : Option Int) : DenL F (cutD ds lo hi) (cutV vs lo hi) := by
  unfold cutD cutV
  rw [l.len]
  exact (l.drop _).take _
def rSlAll (K : PySem.W.Frag) : V → Option Int → Option Int → Hp → VK → Prop := fun x lo hi H Q => (rSlL K x lo hi H Q ∨ rSlA K x lo hi H Q) ∨ (∃ z, x = .str z ∧ z.length ≤ sizeLine ∧ Q (.str (cutS z lo hi)) H)
def slF : D → Option Int → Option Int → Option D
  | .list ds, lo, hi => some (.list (cutD ds lo hi))
  | .tuple ds, lo, hi => some (.tuple (cutD ds lo hi))
  | .str z, lo, hi => if z.length ≤ big then some (.str (cutS z lo hi)) else none
  | _, _, _ => none
theorem whole_cut {α : Type} {xs : List α} {i j : Nat} (h1 : i = 0) (h2 : j = xs.length) : (xs.drop i).take (j - i) = xs := by
  subst h1; subst h2; simp
theorem ok_sl {K : PySem.W.Frag} : SlOk (rSlAll K) slF := by
  intro F H v d z lo hi Q s h1 h3 q
  unfold slF at h3
  split at h3
  · cases h3
    obtain ⟨a, vs, rfl, e1, l1⟩ := h1.lst s
    refine .inl (.inl ⟨a, vs, rfl, SqL.of e1, fun p hp => ?_⟩)
    exact q _ _ _ (Ext.laid s hp _) ⟨p, _, rfl, upd_same, DenL.mono (same_upd (s.free hp)) (cut_den l1 _ _)⟩
  · cases h3
    obtain ⟨a, vs, rfl, f1, e1, l1⟩ := h1.tup s
    refine .inl (.inr ⟨a, vs, rfl, SqT.of e1, fun hw => ?_, fun hw p hp => ?_⟩)
    · refine q _ F H (Ext.refl s) ⟨a, vs, rfl, f1, ?_⟩
      have e2 := cut_den l1 lo hi
      have e3 : cutV vs lo hi = vs := whole_cut hw.1 hw.2
      rw [e3] at e2
      exact e2
    · exact q _ _ _ (Ext.laid s hp _) ⟨p, _, rfl, upd_same, DenL.mono (same_upd (s.free hp)) (cut_den l1 _ _)⟩
  · split at h3
    · next hl => cases h3; exact .inr ⟨_, h1.str, big_le hl, q _ F H (Ext.refl s) rfl⟩
    · cases h3
  · cases h3
theorem NowAll.one {F H : Hp} {vs : List V} {d : D} (h : NowAll F H vs [d]) : ∃ v, vs = [v] ∧ NowD F H v d := by
  obtain ⟨v, r, e, h1, h2⟩ := h
  cases h2
  exact ⟨v, e, h1⟩
def lenF : List D → Option D
  | [.list ds] => some (.int ds.length)
  | [.tuple ds] => some (.int ds.length)
  | [.str z] => if z.length ≤ big then some (.int z.length) else none
  | _ => none
theorem ok_len {K : PySem.W.Frag} : CallOk (fun xs H Q => ∃ x n, xs = [x] ∧ LenV K x H n ∧ Q (.int n) H) lenF := by
  intro F H vs ds z Q s h1 h3 q
  unfold lenF at h3
  split at h3
  · cases h3
    obtain ⟨v, rfl, h⟩ := h1.one
    obtain ⟨a, vs, rfl, e1, l1⟩ := h.lst s
    exact ⟨_, _, rfl, .inl ⟨vs, SqL.of e1, l1.len⟩, q _ F H (Ext.refl s) rfl⟩
  · cases h3
    obtain ⟨v, rfl, h⟩ := h1.one
    obtain ⟨a, vs, rfl, f1, e1, l1⟩ := h.tup s
    exact ⟨_, _, rfl, .inr ⟨vs, SqT.of e1, l1.len⟩, q _ F H (Ext.refl s) rfl⟩
  · split at h3
    · next hl =>
      cases h3
      obtain ⟨v, rfl, h⟩ := h1.one
      cases h.str
      exact ⟨_, _, rfl, ⟨big_le hl, rfl⟩, q _ F H (Ext.refl s) rfl⟩
    · cases h3
  · cases h3
def absF : List D → Option D
  | [.int i] => some (.int (if i < 0 then -i else i))
  | _ => none
theorem ok_abs : CallOk (fun xs H Q => ∃ i, xs = [.int i] ∧ Q (.int (if i < 0 then -i else i)) H) absF := by
  intro F H vs ds z Q s h1 h3 q
  unfold absF at h3
  split at h3
  · cases h3
    obtain ⟨v, rfl, h⟩ := h1.one
    cases h.int
    exact ⟨_, rfl, q _ F H (Ext.refl s) rfl⟩
  · cases h3
def max2F : List D → Option D
  | [.int i, .int j] => some (.int (if j > i then j else i))
  | _ => none
def min2F : List D → Option D
  | [.int i, .int j] => some (.int (if j < i then j else i))
  | _ => none
/-- int(x): an int, a bool, a text -/
def rIntA : List V → Hp → VK → Prop := fun xs H Q => ((∃ i, xs = [.int i] ∧ Q (.int i) H) ∨ ∃ k, xs = [.bl k] ∧ Q (.int (if k then 1 else 0)) H) ∨ ∃ a n, xs = [.str a] ∧ PySem.intText? a = some n ∧ a.length ≤ 640 ∧ Q (.int n) H
def intF : List D → Option D
  | [.int i] => some (.int i)
  | [.bool k] => some (.int (if k then 1 else 0))
  | [.str a] => if a.length ≤ 640 then (PySem.intText? a).map PyData.int else none
  | _ => none
theorem ok_int : CallOk rIntA intF := by
  intro F H vs ds z Q s h1 h3 q
  unfold intF at h3
  split at h3
  · cases h3
    obtain ⟨v, rfl, h⟩ := h1.one
    cases h.int
    exact .inl (.inl ⟨_, rfl, q _ F H (Ext.refl s) rfl⟩)
  · cases h3
    obtain ⟨v, rfl, h⟩ := h1.one
    cases h.bool
    exact .inl (.inr ⟨_, rfl, q _ F H (Ext.refl s) rfl⟩)
  · split at h3
    · next hl =>
      cases e : PySem.intText? _ with
      | none => rw [e] at h3; cases h3
      | some n =>
        rw [e] at h3; cases h3
        obtain ⟨v, rfl, h⟩ := h1.one
        cases h.str
        exact .inr ⟨_, n, rfl, e, hl, q _ F H (Ext.refl s) rfl⟩
    · cases h3
  · cases h3
def strF : List D → Option D
  | [.int i] => if i.natAbs.log2 < 1920 then some (.str (toString i)) else none
  | _ => none
theorem ok_str : CallOk (fun xs H Q => ∃ i, xs = [.int i] ∧ i.natAbs.log2 < 1920 ∧ Q (.str (toString i)) H) strF := by
  intro F H vs ds z Q s h1 h3 q
  unfold strF at h3
  split at h3
  · split at h3
    · next hl =>
      cases h3
      obtain ⟨v, rfl, h⟩ := h1.one
      cases h.int
      exact ⟨_, rfl, hl, q _ F H (Ext.refl s) rfl⟩
    · cases h3
  · cases h3
/-- tuple(x), list(x) -/
def tupleF : List D → Option D
  | [.list ds] => some (.tuple ds)
  | [.tuple ds] => some (.tuple ds)
  | _ => none
theorem ok_tuple {K : PySem.W.Frag} : CallOk (fun xs H Q => ∃ p ys, xs = [.ref p] ∧ ((SqL K H p ys ∧ ∀ l, H l = none → Q (.ref l) (upd H l (.tup ys))) ∨ (SqT K H p ys ∧ Q (.ref p) H))) tupleF := by
  intro F H vs ds z Q s h1 h3 q
  unfold tupleF at h3
  split at h3
  · cases h3
    obtain ⟨v, rfl, h⟩ := h1.one
    obtain ⟨a, vs, rfl, e1, l1⟩ := h.lst s
    refine ⟨a, vs, rfl, .inl ⟨SqL.of e1, fun p hp => ?_⟩⟩
    have x := Ext.laid s hp (.tup vs)
    exact q _ _ _ x ⟨p, _, rfl, upd_same, DenL.mono x.old l1⟩
  · cases h3
    obtain ⟨v, rfl, h⟩ := h1.one
    obtain ⟨a, vs, rfl, f1, e1, l1⟩ := h.tup s
    exact ⟨a, vs, rfl, .inr ⟨SqT.of e1, q _ F H (Ext.refl s) ⟨a, vs, rfl, f1, l1⟩⟩⟩
  · cases h3
def listF : List D → Option D
  | [.list ds] => some (.list ds)
  | [.tuple ds] => some (.list ds)
  | _ => none
theorem okF_list {K : PySem.W.Frag} : CallOkF (fun xs H Q => ∃ p ys, xs = [.ref p] ∧ (SqL K H p ys ∨ SqT K H p ys) ∧ ∀ l, H l = none → Q (.ref l) (upd H l (.lst ys))) listF := by
  intro F H vs ds z Q s h1 h3 q
  unfold listF at h3
  split at h3
  · cases h3
    obtain ⟨v, rfl, h⟩ := h1.one
    obtain ⟨a, vs, rfl, e1, l1⟩ := h.lst s
    exact ⟨a, vs, rfl, .inl (SqL.of e1), fun p hp => q p _ hp l1⟩
  · cases h3
    obtain ⟨v, rfl, h⟩ := h1.one
    obtain ⟨a, vs, rfl, f1, e1, l1⟩ := h.tup s
    exact ⟨a, vs, rfl, .inr (SqT.of e1), fun p hp => q p _ hp l1⟩
  · cases h3
def allOf {α : Type} (g : D → Option α) : List D → Option (List α)
  | [] => some []
  | d :: ds => match g d, allOf g ds with
    | some x, some xs => some (x :: xs)
    | _, _ => none
theorem allOf_eq {α : Type} {g : D → Option α} {c : α → D} (hc : ∀ d x, g d = some x → d = c x) : ∀ {ds : List D} {xs : List α}, allOf g ds = some xs → ds = xs.map c
  | [], _, h => by cases h; rfl
  | d :: ds, xs, h => by
    unfold allOf at h
    cases e1 : g d with
    | none => simp [e1] at h
    | some x =>
      cases e2 : allOf g ds with
      | none => simp [e1, e2] at h
      | some ys =>
        simp [e1, e2] at h
        subst h
        rw [hc d x e1, allOf_eq hc e2]
        rfl
theorem asInt_eq {d : D} {b : Int} (h : asInt d = some b) : d = .int b := by
  cases d <;> simp [asInt] at h
  rw [h]
def sumF : List D → Option D
  | [.list ds] => (allOf asInt ds).map fun ns => .int ns.sum
  | _ => none
theorem ok_sum {K : PySem.W.Frag} : CallOk (rSum K) sumF := by
  intro F H vs ds z Q s h1 h3 q
  unfold sumF at h3
  split at h3
  · next xs =>
    cases e : allOf asInt xs with
    | none => rw [e] at h3; cases h3
    | some ns =>
      rw [e] at h3; cases h3
      obtain ⟨v, rfl, h⟩ := h1.one
      obtain ⟨a, vs, rfl, e1, l1⟩ := h.lst s
      have e2 := allOf_eq (c := PyData.int) (fun _ _ => asInt_eq) e
      subst e2
      exact ⟨a, ns, rfl, by rw [← DenL.of_ints l1]; exact SqL.of e1, q _ F H (Ext.refl s) rfl⟩
  · cases h3
def allF : List D → Option D
  | [.list ds] => (allOf asBool ds).map fun ns => .bool (ns.all id)
  | _ => none
theorem ok_all {K : PySem.W.Frag} : CallOk (rAll K) allF := by
  intro F H vs ds z Q s h1 h3 q
  unfold allF at h3
  split at h3
  · next xs =>
    cases e : allOf asBool xs with
    | none => rw [e] at h3; cases h3
    | some ns =>
      rw [e] at h3; cases h3
      obtain ⟨v, rfl, h⟩ := h1.one
      obtain ⟨a, vs, rfl, e1, l1⟩ := h.lst s
      have e2 := allOf_eq (c := PyData.bool) (fun _ _ => asBool_eq) e
      subst e2
      exact ⟨a, ns, rfl, by rw [← DenL.of_bools l1]; exact SqL.of e1, q _ F H (Ext.refl s) rfl⟩
  · cases h3
def anyF : List D → Option D
  | [.list ds] => (allOf asBool ds).map fun ns => .bool (ns.any id)
  | _ => none
theorem ok_any {K : PySem.W.Frag} : CallOk (rAny K) anyF := by
  intro F H vs ds z Q s h1 h3 q
  unfold anyF at h3
  split at h3
  · next xs =>
    cases e : allOf asBool xs with
    | none => rw [e] at h3; cases h3
    | some ns =>
      rw [e] at h3; cases h3
      obtain ⟨v, rfl, h⟩ := h1.one
      obtain ⟨a, vs, rfl, e1, l1⟩ := h.lst s
      have e2 := allOf_eq (c := PyData.bool) (fun _ _ => asBool_eq) e
      subst e2
      exact ⟨a, ns, rfl, by rw [← DenL.of_bools l1]; exact SqL.of e1, q _ F H (Ext.refl s) rfl⟩
  · cases h3
def tyName : D → String
  | .none => "NoneType"
  | .bool _ => "bool"
  | .int _ => "int"
  | .str _ => "str"
  | .list _ => "list"
  | .tuple _ => "tuple"
  | .dict _ => "dict"
/-- not an instance -/
def noIN : D → Bool
  | .dict kds => !isIN kds
  | _ => true
theorem noIN_n : noIN .none = true := rfl
theorem noIN_b (b : Bool) : noIN (.bool b) = true := rfl
theorem noIN_i (i : Int) : noIN (.int i) = true := rfl
theorem noIN_s (x : Str) : noIN (.str x) = true := rfl
theorem noIN_l (ds : List D) : noIN (.list ds) = true := rfl
theorem noIN_t (ds : List D) : noIN (.tuple ds) = true := rfl
theorem now_ty {K : PySem.W.Frag} {F H : Hp} {v : V} {d : D} (s : Same F H) (h : NowD F H v d) (n : noIN d = true) : TyX K H v (.type (tyName d)) := by
  cases d with
  | none => rw [h.none]; exact .base .non
  | bool b => rw [h.bool]; exact .base (.bl _)
  | int b => rw [h.int]; exact .base (.int _)
  | str b => rw [h.str]; exact .base (.str _)
  | list ds => obtain ⟨a, vs, rfl, e, _⟩ := h.lst s; exact .base (.lst e)
  | tuple ds => obtain ⟨a, vs, rfl, _, e, _⟩ := h.tup s; exact .base (.tup e)
  | dict ds => rcases h.dic s (by unfold noIN at n; simpa using n) with ⟨a, vs, rfl, e, _⟩ | ⟨a, vs, rfl, e, _⟩; exact .base (.dK e); exact .base (.dT e)
/-- what isinstance says of the seven kinds -/
structure IsiTab (T : String) (p : String → Bool) : Prop where
  n1 : kitB "NoneType" T = some (p "NoneType")
  n2 : kitB "bool" T = some (p "bool")
  n3 : kitB "int" T = some (p "int")
  n4 : kitB "str" T = some (p "str")
  n5 : kitB "list" T = some (p "list")
  n6 : kitB "tuple" T = some (p "tuple")
  n7 : kitB "dict" T = some (p "dict")
theorem IsiTab.at {T : String} {p : String → Bool} (h : IsiTab T p) (d : D) : kitB (tyName d) T = some (p (tyName d)) := by
  cases d
  · exact h.n1
  · exact h.n2
  · exact h.n3
  · exact h.n4
  · exact h.n5
  · exact h.n6
  · exact h.n7
def mIsi (p : String → Bool) (a : M TV) : M D := bnd a fun x => fun ρ => match deref ρ x with
  | some d => if noIN d = true then .ok (.bool (p (tyName d))) ρ else .no
  | none => .no
section
variable {B : Bd} {EX : Str → Hp → Prop}
theorem ev_isi {K : PySem.W.Frag} {T : String} {p : String → Bool} {te : TE} {f : M TV} (tab : IsiTab T p) (h : Ev B EX VT te f) : Ev B EX VD (tCB (rIsi K) (tCons te (tCons (tC (.ty T)) tNil))) (mIsi p f) := by
  refine Ev.bind (tb := fun x σ H Q => rIsi K [x, .ty T] H Q) h fun a x F H σ ρ Q m p q => ?_
  cases e : deref ρ a with
  | none => simp only [e] at q; exact q.elim
  | some d =>
    simp only [e] at q
    by_cases n : noIN d = true
    · rw [if_pos n] at q
      exact ⟨x, .ty T, _, .type T, _, rfl, .ty T, now_ty m.sub (p.now m e) n, kit_ty (tab.at d), q _ F H m.refl rfl⟩
    · rw [if_neg n] at q; exact q.elim
end
def pInt (n : String) : Bool := n == "int" || n == "bool"
def pIs (T n : String) : Bool := n == T
theorem tab_int : IsiTab "int" pInt := ⟨by decide +kernel, by decide +kernel, by decide +kernel, by decide +kernel, by decide +kernel, by decide +kernel, by decide +kernel⟩
theorem tab_bool : IsiTab "bool" (pIs "bool") := ⟨by decide +kernel, by decide +kernel, by decide +kernel, by decide +kernel, by decide +kernel, by decide +kernel, by decide +kernel⟩
theorem tab_str : IsiTab "str" (pIs "str") := ⟨by decide +kernel, by decide +kernel, by decide +kernel, by decide +kernel, by decide +kernel, by decide +kernel, by decide +kernel⟩
theorem tab_tuple : IsiTab "tuple" (pIs "tuple") := ⟨by decide +kernel, by decide +kernel, by decide +kernel, by decide +kernel, by decide +kernel, by decide +kernel, by decide +kernel⟩
end Rn
end
section
set_option Elab.async false
set_option linter.all false
set_option maxRecDepth 100000
namespace Rn
open PySem PySem.Spec L2
def keyOf : D → Option Key
  | .int i => some (.inl i)
  | .str x => some (.inr x)
  | _ => none
theorem keyOf_eq {d : D} {k : Key} (h : keyOf d = some k) : d = keyD k := by
  cases d <;> simp [keyOf] at h <;> subst h <;> rfl
theorem key_den {F : Hp} {k : Key} {v : V} (h : Den F (keyD k) v) : v = kV k := by cases k <;> exact h
def keyEq : D → D → Bool
  | .int i, .int j => decide (i = j)
  | .str x, .str y => decide (x = y)
  | _, _ => false
theorem keyEq_key (k k' : Key) : keyEq (keyD k) (keyD k') = decide (k = k') := by
  cases k <;> cases k' <;> simp [keyD, keyEq]
def valD (kds : List (D × D)) (k : D) : Option D := (kds.find? fun kd => keyEq kd.1 k).map (·.2)
def putD (kds : List (D × D)) (k d : D) : List (D × D) :=
  if (kds.any fun kd => keyEq kd.1 k) = true then kds.map (fun kd => if keyEq kd.1 k = true then (kd.1, d) else kd) else kds ++ [(k, d)]
theorem DenK.val {F : Hp} {k : Key} : ∀ {kds : List (D × D)} {kvs : List (Key × V)}, DenK F kds kvs → (∀ d, valD kds (keyD k) = some d → ∃ v, valV kvs k = some v ∧ Den F d v) ∧ (valD kds (keyD k) = none → valV kvs k = none)
  | [], _, h => by
    cases h
    refine ⟨fun d e => ?_, fun _ => rfl⟩
    simp [valD] at e
  | (c, d) :: r, _, ⟨q, v, t, e, hq, hd, l⟩ => by
    subst e
    subst hq
    have ih := DenK.val (k := k) l
    unfold valD at ih ⊢
    rw [List.find?_cons, keyEq_key]
    by_cases e : q = k
    · rw [decide_eq_true e]
      refine ⟨fun d' e' => ?_, fun e' => by cases e'⟩
      cases e'
      exact ⟨v, valV_pos e, hd⟩
    · rw [decide_eq_false e, valV_neg e]
      exact ih
theorem DenK.some? {F : Hp} {k : Key} {kds : List (D × D)} {kvs : List (Key × V)} (h : DenK F kds kvs) : (valV kvs k).isSome = (valD kds (keyD k)).isSome := by
  cases e : valD kds (keyD k) with
  | none => rw [(h.val).2 e]; rfl
  | some d => obtain ⟨v, h1, _⟩ := (h.val).1 d e; rw [h1]; rfl
theorem DenK.len {F : Hp} : ∀ {kds : List (D × D)} {kvs : List (Key × V)}, DenK F kds kvs → kds.length = kvs.length
  | [], _, h => by cases h; rfl
  | (_, _) :: _, _, ⟨q, v, t, e, _, _, l⟩ => by subst e; simp [DenK.len l]
theorem DenK.app {F : Hp} {k : Key} {d : D} {v : V} (hd : Den F d v) : ∀ {kds : List (D × D)} {kvs : List (Key × V)}, DenK F kds kvs → DenK F (kds ++ [(keyD k, d)]) (kvs ++ [(k, v)])
  | [], _, h => by cases h; exact ⟨k, v, [], rfl, rfl, hd, rfl⟩
  | (_, _) :: _, _, ⟨q, u, t, e, hq, h, l⟩ => by subst e; exact ⟨q, u, _, rfl, hq, h, DenK.app hd l⟩
theorem DenK.upd {F : Hp} {k : Key} {d : D} {v : V} (hd : Den F d v) : ∀ {kds : List (D × D)} {kvs : List (Key × V)}, DenK F kds kvs → DenK F (kds.map fun kd => if keyEq kd.1 (keyD k) = true then (kd.1, d) else kd) (kvs.map fun kv => if kv.1 = k then (kv.1, v) else kv)
  | [], _, h => by cases h; rfl
  | (c, d') :: _, _, ⟨q, u, t, e, hq, h, l⟩ => by
    subst e
    subst hq
    have ih := DenK.upd (k := k) hd l
    rw [List.map_cons, List.map_cons]
    by_cases e : q = k
    · rw [if_pos (by rw [keyEq_key]; exact decide_eq_true e), if_pos e]
      exact ⟨q, v, _, rfl, rfl, hd, ih⟩
    · rw [if_neg (by rw [keyEq_key, decide_eq_false e]; decide), if_neg e]
      exact ⟨q, u, _, rfl, rfl, h, ih⟩
theorem DenK.put {F : Hp} {k : Key} {d : D} {v : V} {kds : List (D × D)} {kvs : List (Key × V)} (h : DenK F kds kvs) (hd : Den F d v) : DenK F (putD kds (keyD k) d) (putK kvs k v) := by
  have a : (kds.any fun kd => keyEq kd.1 (keyD k)) = kvs.any fun kv => decide (kv.1 = k) := by
    rw [valV_any, h.some?]
    unfold valD
    rw [Option.isSome_map, Bool.eq_iff_iff, List.find?_isSome, List.any_eq_true]
  unfold putD putK
  rw [a]
  split
  · exact h.upd hd
  · exact h.app hd
def rDIn (neg : Bool) : R2 := fun y x H Q => ∃ a o, x = .ref a ∧ DGet H a y o ∧ Q (.bl (if neg then !o.isSome else o.isSome)) H
theorem op_din {X : Cx} (hu : X.A.units + 64 < cLine) : OpR X (compareOp .In) (rDIn false) := by
  intro pins s σ H y x v u Q I ry rx h
  obtain ⟨a, o, rfl, g, q⟩ := h
  obtain rfl : u = Value.ref a := rx
  exact d_in (by omega) I g ry fun s' I' => ⟨.bl o.isSome, H, I', rfl, q⟩
theorem op_dnotin {X : Cx} (hu : X.A.units + 64 < cLine) : OpR X (compareOp .NotIn) (rDIn true) := by
  intro pins s σ H y x v u Q I ry rx h
  obtain ⟨a, o, rfl, g, q⟩ := h
  obtain rfl : u = Value.ref a := rx
  exact d_notIn (by omega) I g ry fun s' I' => ⟨.bl (!o.isSome), H, I', rfl, q⟩
def rInA (K : PySem.W.Frag) (neg : Bool) : R2 := fun x y H Q => rInP K neg x y H Q ∨ rDIn neg x y H Q
theorem op_inA {X : Cx} (hu : X.A.units + 64 < cLine) : OpR X (compareOp .In) (rInA X.K false) := (op_inP hu).or (op_din hu)
theorem op_notInA {X : Cx} (hu : X.A.units + 64 < cLine) : OpR X (compareOp .NotIn) (rInA X.K true) := (op_notInP hu).or (op_dnotin hu)
/-- the data of a dict with tuples as keys, or of an instance -/
def isTK : List (D × D) → Bool
  | (.none, _) :: _ => true
  | (.bool _, _) :: _ => true
  | _ => false
theorem noTK_IN {ds : List (D × D)} (n : ¬ isTK ds = true) : isIN ds = false := by
  cases ds with
  | nil => rfl
  | cons p r =>
    obtain ⟨k, d⟩ := p
    cases k <;> first | rfl | exact absurd rfl n
theorem DenT0.tk {F : Hp} : ∀ {kds : List (D × D)} {kvs : List (List Key × V)}, DenT0 F kds kvs → isTK kds = true
  | [], _, h => h.elim
  | (k, _) :: _, _, ⟨h, _⟩ => by subst h; rfl
theorem NowD.dk {F H : Hp} {v : V} {ds : List (D × D)} (s : Same F H) (h : NowD F H v (.dict ds)) (n : ¬ isTK ds = true) : ∃ a vs, v = .ref a ∧ H a = some (.dK vs) ∧ DenK F ds vs := by
  rcases h.dic s (noTK_IN n) with h | ⟨a, vs, _, _, h⟩
  · exact h
  · exact absurd h.tk n
def inAF (neg : Bool) (d e : D) : Option D := match e with
  | .dict kds => (match keyOf d with
    | some _ => if isTK kds = true then none else some (.bool (if neg then !(valD kds d).isSome else (valD kds d).isSome))
    | none => none)
  | e => inF neg d e
theorem ok_inA {K : PySem.W.Frag} {neg : Bool} : OpOk (rInA K neg) (inAF neg) := by
  intro F H v w d e z Q s h1 h2 h3 q
  unfold inAF at h3
  split at h3
  · next kds =>
    cases e1 : keyOf d with
    | none => simp only [e1] at h3; cases h3
    | some k =>
      simp only [e1] at h3
      by_cases tk : isTK kds = true
      · rw [if_pos tk] at h3; cases h3
      rw [if_neg tk] at h3
      cases h3
      have e2 := keyOf_eq e1
      subst e2
      obtain ⟨a, kvs, rfl, ha, l⟩ := h2.dk s tk
      have hv : v = kV k := by
        rcases h1 with h1 | ⟨b, o, _, _, h1⟩
        · exact key_den h1
        · cases k <;> cases o <;> exact h1.elim
      subst hv
      refine .inr ⟨a, _, rfl, DGet.k ha, ?_⟩
      rw [l.some?]
      exact q _ F H (Ext.refl s) rfl
  · exact .inl (ok_in s h1 h2 h3 q)
end Rn
end
section
set_option Elab.async false
set_option linter.all false
set_option maxRecDepth 100000
set_option maxHeartbeats 1000000
namespace Rn
open PySem PySem.Spec PyProof.Rows L2
open AutoSeq1 (wpAny_loadPart')
theorem meets_enumT {v : Value} {o : Obj} {H : Heap → Prop} (B : Begins v o H) :
    Meets (Builtin.«enumerate.__new__» ⟨[.type "enumerate", v], []⟩) (fun _ R s => H s.heap ∧
      R (.ok (.ret (.ref (s.heap.push o).objs.size))) { s with heap := (s.heap.push o).push { cls := .type "enumerate", data := .fields #[.none, .bool false, .ref s.heap.objs.size, rawInt 0, .none, .none] } }) :=
  .of_wp fun prog w A R s h => by
    obtain ⟨hp, g, d, tk, os⟩ := s; obtain ⟨h1, h⟩ := h
    have hsub := sub_enumerate
    have q1 : ∀ {A' : Around} {E : Value → Shared → Prop} {Q : Value → Shared → Prop}, Q (.ref hp.objs.size) ⟨hp.push o, g, d, tk, os⟩ → wpAny (model prog w) A' (pyIter v) Q E ⟨hp, g, d, tk, os⟩ :=
      fun q => B.iter prog w _ _ ⟨hp, g, d, tk, os⟩ _ h1 q
    wp_walk using q1
    refine wpAny_stack_any fun st => wpAny_pure ?_
    split
    · rename_i c _ _ _ _ _
      cases (c == Value.type "enumerate")
      · wp_walk using q1
        exact ⟨_, rfl, h⟩
      · wp_walk using q1
        exact ⟨_, rfl, h⟩
    · wp_walk using q1
      exact ⟨_, rfl, h⟩
theorem call_enumT {prog : Program} {w : World} {A : Around} {E : Value → Shared → Prop} {s : Shared} {v : Value} {o : Obj} {H : Heap → Prop} {Q : Value → Shared → Prop} (B : Begins v o H) (h1 : H s.heap)
    (h : ∀ h', IsEnum h' (s.heap.objs.size + 1) s.heap.objs.size 0 .none → h'.get? s.heap.objs.size = some o → h'.objs.size = s.heap.objs.size + 2 →
      (∀ b o, s.heap.get? b = some o → h'.get? b = some o) → Q (.ref (s.heap.objs.size + 1)) { s with heap := h' }) :
    wpAny (model prog w) A (call (.type "enumerate") [v]) Q E s := by
  refine callType_new F.called_enumerate (by decide) (F.typeCall_enumerate_1 _) (F.newCall_enumerate_1 _) (fun obj => F.args_object_init_2 obj _) F.entry_enumerate_new
    (meets_enumT B) ⟨h1, ?_⟩
  have hz : (s.heap.push o).objs.size = s.heap.objs.size + 1 := Heap.size_push ..
  show _ ∧ _
  rw [hz]
  have he : IsEnum ((s.heap.push o).push { cls := .type "enumerate", data := .fields #[.none, .bool false, .ref s.heap.objs.size, rawInt 0, .none, .none] }) (s.heap.objs.size + 1) s.heap.objs.size 0 .none := by
    have := Heap.get?_push_size (s.heap.push o) (o := { cls := .type "enumerate", data := .fields #[.none, .bool false, .ref s.heap.objs.size, rawInt 0, .none, .none] }) rfl
    rw [hz] at this; exact this
  refine ⟨⟨_, he, rfl⟩, h _ he (Heap.get?_push_of_some _ (Heap.get?_push_size _ B.free)) (by rw [Heap.size_push, hz]) fun b o x => Heap.get?_push_of_some _ (Heap.get?_push_of_some _ x)⟩
theorem enum_end_tuple {prog : Program} {w : World} {A : Around} {E : Value → Shared → Prop} {s : Shared} {e it t : Addr} {items : Array Value} {i : Nat} {j : Int} {old : Value} {Q : Option Value → Shared → Prop} (hh : A.handled = none)
    (he : IsEnum s.heap e it j old) (hit : s.heap.IsTupleIter it t i) (ht : s.heap.IsTuple t items) (hx : items[i]? = none)
    (hQ : ∀ h', Heap.ExtBut it s.heap h' → Q none { s with heap := h' }) : wpAny (model prog w) A (pyNext (.ref e)) Q E s := by
  have hT : s.TypeIs (.ref e) "enumerate" := ⟨_, he, rfl⟩
  unfold pyNext
  refine wpAny_bind (wpAny_attempt (wpAny_callSpecial?_slot (name := Str.ofString "__next__") hT F.slot_enumerate_next
    (wpAny_call_entry F.slot_enumerate_next hT F.entry_enumerate_next ?_ (F.args_enumerate_next_1 _))))
  show wpAny _ _ (field (.ref e) 2 >>= _) _ _ _
  refine wpAny_bind (wpAny_field he rfl (x := .ref it) rfl ?_)
  refine wpAny_bind (wpAny_nextOf_tuple_end (A := A.in1) hh hit ht hx fun h' x he' hx' => ?_)
  obtain ⟨o, ho, hc⟩ := hx'
  refine wpAny_bind (wpAny_isInstance (T := "StopIteration") (b := true) ⟨o, ho, hc⟩ isSubtype_stop ?_)
  exact wpAny_pure (hQ _ he')
/-- the tuple at a, each item in a new pair -/
def Itet (K : PySem.W.Frag) (a : Addr) : It :=
  ⟨fun i H => ∃ (xs : List V) (x : V), SqT K H a xs ∧ xs[i]? = some x, fun i H v H' => ∃ T x, v = .ref T ∧ H T = none ∧ H' = upd H T (.tup [.int (i : Nat), x]) ∧ ∀ xs, SqT K H a xs → xs[i]? = some x, fun i H => ∃ xs : List V, SqT K H a xs ∧ xs.length ≤ i⟩
theorem turn_enumT {P : Program} {w : World} {K : PySem.W.Frag} {elts : List Expr} {kk : Nat} {tpos : Pos} (a e it : Addr) (hai : a ≠ it) :
    Turn P w K (.Tuple elts kk tpos) (Itet K a) [e, it] e (fun i h => (∃ old, IsEnum h e it ((i : Nat) : Int) old) ∧ h.IsTupleIter it a i ∧ e ≠ it) where
  mem := by simp
  obj := fun i h st b hb => by
    obtain ⟨⟨old, he⟩, ⟨o, ho, hc, hd⟩, _⟩ := st
    have e' : b = e ∨ b = it := by simpa using hb
    rcases e' with z | z
    · rw [z]; exact ⟨_, he, fun v q => nomatch q⟩
    · rw [z]; exact ⟨o, ho, fun v q => by rw [hd] at q; cases q⟩
  keep := fun i h h' st k => let ⟨⟨old, he⟩, hi, hne⟩ := st; ⟨⟨old, k e (by simp) _ he⟩, hi.at fun o q => k it (by simp) o q, hne⟩
  item := by
    intro X hP hw hK hc i pins s σ H E I hf st hg
    subst hP hw hK
    obtain ⟨⟨old, he⟩, hit, hne⟩ := st
    obtain ⟨xs, x, hq, hx⟩ := hg
    obtain ⟨its, rv, p, hz⟩ := I.tuple hq
    obtain ⟨u, hu, ru⟩ := rv.get hx
    have hel : e < s.heap.objs.size := Heap.lt_size he
    have hil : it < s.heap.objs.size := by obtain ⟨_, q, _⟩ := hit; exact Heap.lt_size q
    have hlt : i < its.toArray.size := by
      have := (List.getElem?_eq_some_iff.mp hu).1
      simpa using this
    have hea : e ≠ a := fun q => by
      obtain ⟨o, ho, hcl, _⟩ := p
      rw [← q] at ho
      rw [he] at ho
      cases ho
      injection hcl with q
      exact absurd q (by decide)
    refine wpAny_pyNext_enum_itemD (Draws.tuple (A := X.A.in1) (I.ok.hd hc) it a hai its.toArray) he ⟨hit, p⟩ hlt hne (fun hm => by
      have e' : e = it ∨ e = a := by simpa using hm
      rcases e' with z | z
      · exact hne z
      · exact hea z) fun y h' tk hy ho hit' hT hsz hk => ?_
    have hyu : y = u := by
      have q : its.toArray[i]? = some y := hy
      rw [List.getElem?_toArray, hu] at q
      exact (Option.some.inj q).symm
    subst hyu
    refine ⟨_, rfl, wpAny_letOwnedTupleGo_enum (s := { s with heap := h', toks := tk + 1 }) ho fun h'' he' sb => ?_⟩
    have hT2 : h''.get? s.heap.objs.size = some { cls := .type "tuple", data := .seq #[.int i tk, y] } := (sb.2 _ (Nat.ne_of_gt hel)).trans hT
    have new : ObjOk X.prog X.w (upd H s.heap.objs.size (.tup [.int (i : Nat), x])) h'' s.heap.objs.size (.tup [.int (i : Nat), x]) :=
      ⟨by show 2 ≤ sizeLine; decide, [.int i tk, y], .cons ⟨_, rfl⟩ (.cons ru .nil), ⟨_, hT2, rfl, _, rfl⟩⟩
    have I1 : Inv X pins σ (upd H s.heap.objs.size (.tup [.int (i : Nat), x])) { s with heap := h'', toks := tk + 1 } :=
      I.turnedNew (ch := [e, it]) (fun b ob hb q => (sb.2 b (fun z => hb (by simp [z]))).trans (hk b ob (fun z => hb (by simp [z])) (fun z => hb (by simp [z])) q)) hf (Nat.le_refl _) new
    refine ⟨.ref s.heap.objs.size, _, I1, rfl, ⟨_, x, rfl, I.hok.fresh (Nat.le_refl _), rfl, fun ys hy => by rw [I.tuple_inj hy hq]; exact hx⟩, ⟨⟨y, ?_⟩, hit'.1.at fun o q => (sb.2 it (Ne.symm hne)).trans q, hne⟩, fun b hb => ?_⟩
    · have e1 : ((i + 1 : Nat) : Int) = (i : Int) + 1 := by omega
      rw [e1]; exact he'
    · have hb' : b < s.heap.objs.size := by
        have e' : b = e ∨ b = it := by simpa using hb
        rcases e' with z | z
        · rw [z]; exact hel
        · rw [z]; exact hil
      rw [upd_ne (Nat.ne_of_lt hb')]
      exact (hf b hb).1
  done := by
    intro X hP hw hK hc i pins s σ H E I hf st hg
    subst hP hw hK
    obtain ⟨⟨old, he⟩, hit, hne⟩ := st
    obtain ⟨xs, hq, hx⟩ := hg
    obtain ⟨its, rv, p, hz⟩ := I.tuple hq
    obtain ⟨f0, f1, f2, f3, f4, f5⟩ := hf it (by simp)
    have hl := rv.length
    exact enum_end_tuple (I.ok.hd hc) he hit (show s.heap.IsTuple a its.toArray from p) (by simp; omega) fun h' eb => ⟨rfl, I.turned (t' := s.toks) (fun b o hb q => eb b o hb q) f0 f1 f3 f4 f5⟩
  self := fun A i s Q E st h => let ⟨⟨_, he⟩, _⟩ := st; wpAny_pyIter_enum he h
section
variable {X : Cx} {tg : Expr}
/-- a list or a tuple -/
def iSeq (K : PySem.W.Frag) (tl : TE) : TI := fun σ H R => tl σ H fun x H1 => ∃ a, x = .ref a ∧ (((∃ xs, SqL K H1 a xs) ∧ R (Itl K a) H1) ∨ ((∃ xs, SqT K H1 a xs) ∧ R (Itt K a) H1))
theorem pi_seq {l : Expr} {tl : TE} (hl : PE X l tl) : PI X tg l (iSeq X.K tl) := by
  refine ⟨fun pins s σ H R I h => ?_⟩
  refine thn (hl.run pins s σ H _ I h) fun v s1 ⟨x, H1, I1, r1, q1⟩ => ?_
  obtain ⟨a, e, q⟩ := q1
  subst e
  cases r1
  rcases q with ⟨⟨xs, hq⟩, q⟩ | ⟨⟨xs, hq⟩, q⟩
  · obtain ⟨its, rv, p, hz⟩ := I1.list hq
    refine wpAny_pyIter_list p.isList ?_
    refine ⟨s1.heap.objs.size, [s1.heap.objs.size], _, _, H1, rfl, I1.kept (t' := s1.toks) fun b o e => Heap.get?_push_of_some _ e, turn_list a _, ⟨_, Heap.get?_push_size _ rfl, rfl, rfl⟩, fun b hb => ?_, q⟩
    have e : b = s1.heap.objs.size := by simpa using hb
    subst e
    exact I1.fpOk (Nat.le_refl _) (I1.hok.fresh (Nat.le_refl _))
  · obtain ⟨its, rv, p, hz⟩ := I1.tuple hq
    refine wpAny_pyIter_tuple (show s1.heap.IsTuple a its.toArray from p) ?_
    refine ⟨s1.heap.objs.size, [s1.heap.objs.size], _, _, H1, rfl, I1.kept (t' := s1.toks) fun b o e => Heap.get?_push_of_some _ e, turn_tuple a _, ⟨_, Heap.get?_push_size _ rfl, rfl, rfl⟩, fun b hb => ?_, q⟩
    have e : b = s1.heap.objs.size := by simpa using hb
    subst e
    exact I1.fpOk (Nat.le_refl _) (I1.hok.fresh (Nat.le_refl _))
/-- enumerate of a list or a tuple -/
def iEnumS (K : PySem.W.Frag) (ta : TA) : TI := fun σ H R => ta σ H fun vs H1 => ∃ a xs, vs = [.ref a] ∧ ((SqL K H1 a xs ∧ R (Ite K a) H1) ∨ (SqT K H1 a xs ∧ R (Itet K a) H1))
theorem pi_enumS {e : Expr} {ta : TA} {p pos tpos : Pos} {elts : List Expr} {kk : Nat} (hg : Gl X "enumerate") (hm : X.mg "enumerate" = none) (ha : PA X [e] ta) (hs : starEach [e] X.env = [(false, eval e X.env)] := by rfl) :
    PI X (.Tuple elts kk tpos) (.Call (.Name "enumerate" p) [e] [] pos) (iEnumS X.K ta) := by
  refine ⟨fun pins s σ H R I h => ?_⟩
  refine Call_ (ld_blt I hg hm boot_enumerate (PyProof.Rows.callWith_type1 (thn (ha.run pos pins s σ H _ I h) fun us s1 ⟨vs, H1, I1, r1, q1⟩ => ?_) hs rfl))
  obtain ⟨a, xs, ex, hq⟩ := q1
  subst ex
  cases r1 with
  | cons r rr =>
    cases rr
    cases r
    rcases hq with ⟨hq, q⟩ | ⟨hq, q⟩
    · obtain ⟨its, rv, p', hz⟩ := I1.list hq
      refine call_enumerate_list p'.isList fun h' he hit hsz hk => wpAny_pyIter_enum he ?_
      have I2 : Inv X pins σ H1 { s1 with heap := h' } := I1.kept (t' := s1.toks) hk
      refine ⟨s1.heap.objs.size + 1, [s1.heap.objs.size + 1, s1.heap.objs.size], _, _, H1, rfl, I2, turn_enum a (s1.heap.objs.size + 1) s1.heap.objs.size, ⟨⟨.none, he⟩, hit, Nat.succ_ne_self _⟩, fun b hb => ?_, q⟩
      have e' : b = s1.heap.objs.size + 1 ∨ b = s1.heap.objs.size := by simpa using hb
      have hle : s1.heap.objs.size ≤ b := by
        rcases e' with z | z
        · rw [z]; exact Nat.le_add_right _ _
        · rw [z]; exact Nat.le_refl _
      exact I1.fpOk hle (I1.hok.fresh hle)
    · obtain ⟨its, rv, p', hz⟩ := I1.tuple hq
      have p2 : s1.heap.IsTuple a its.toArray := p'
      refine call_enumT (begins_tuple a its.toArray) p2 fun h' he hit hsz hk => wpAny_pyIter_enum he ?_
      have I2 : Inv X pins σ H1 { s1 with heap := h' } := I1.kept (t' := s1.toks) hk
      have hal : a < s1.heap.objs.size := by obtain ⟨o, ho, _⟩ := p'; exact Heap.lt_size ho
      refine ⟨s1.heap.objs.size + 1, [s1.heap.objs.size + 1, s1.heap.objs.size], _, _, H1, rfl, I2, turn_enumT a (s1.heap.objs.size + 1) s1.heap.objs.size (Nat.ne_of_lt hal), ⟨⟨.none, he⟩, ⟨_, hit, rfl, rfl⟩, Nat.succ_ne_self _⟩, fun b hb => ?_, q⟩
      have e' : b = s1.heap.objs.size + 1 ∨ b = s1.heap.objs.size := by simpa using hb
      have hle : s1.heap.objs.size ≤ b := by
        rcases e' with z | z
        · rw [z]; exact Nat.le_add_right _ _
        · rw [z]; exact Nat.le_refl _
      exact I1.fpOk hle (I1.hok.fresh hle)
end
end Rn
end
section
set_option Elab.async false
set_option linter.all false
set_option maxRecDepth 100000
namespace Rn
open PySem PySem.Spec L2
def ItOk (F : Hp) (J : It) (items : List D) : Prop := ∀ (F1 H1 : Hp), Same F F1 → Same F1 H1 →
  (∀ i, items.length ≤ i → J.stop i H1) ∧ (∀ i, i < items.length → J.go i H1) ∧
  ∀ i x H2, i < items.length → J.yld i H1 x H2 → ∃ d F2, items[i]? = some d ∧ Ext F1 H1 F2 H2 ∧ Den F2 d x
abbrev VI : L2.St → Hp → Hp → Rho → List D → It → Prop := fun _ F _ _ ds J => ItOk F J ds
theorem ItOk.mono {F F' : Hp} {J : It} {items : List D} (h : ItOk F J items) (s : Same F F') : ItOk F' J items := fun F1 H1 a b => h F1 H1 (s.trans a) b
theorem itok_list {K : PySem.W.Frag} {F : Hp} {a : Addr} {vs : List V} {ds : List D} (h : F a = some (.lst vs)) (l : DenL F ds vs) : ItOk F (Itl K a) ds := by
  intro F1 H1 s1 s2
  have e : H1 a = some (.lst vs) := s2 _ _ (s1 _ _ h)
  refine ⟨fun i hi => ⟨vs, SqL.of e, by rw [← l.len]; exact hi⟩, fun i hi => ?_, fun i x H2 hi q => ?_⟩
  · rw [l.len] at hi
    exact ⟨vs, vs[i], SqL.of e, List.getElem?_eq_getElem hi⟩
  · obtain ⟨rfl, q⟩ := q
    obtain ⟨d, e1, e2⟩ := (l.mono s1).got (q vs (SqL.of e))
    exact ⟨d, F1, e1, Ext.refl s2, e2⟩
theorem itok_tup {K : PySem.W.Frag} {F : Hp} {a : Addr} {vs : List V} {ds : List D} (h : F a = some (.tup vs)) (l : DenL F ds vs) : ItOk F (Itt K a) ds := by
  intro F1 H1 s1 s2
  have e : H1 a = some (.tup vs) := s2 _ _ (s1 _ _ h)
  refine ⟨fun i hi => ⟨vs, SqT.of e, by rw [← l.len]; exact hi⟩, fun i hi => ?_, fun i x H2 hi q => ?_⟩
  · rw [l.len] at hi
    exact ⟨vs, vs[i], SqT.of e, List.getElem?_eq_getElem hi⟩
  · obtain ⟨rfl, q⟩ := q
    obtain ⟨d, e1, e2⟩ := (l.mono s1).got (q vs (SqT.of e))
    exact ⟨d, F1, e1, Ext.refl s2, e2⟩
def rangeD (lo : Int) (n : Nat) : List D := (List.range n).map fun (k : Nat) => PyData.int (lo + (k : Int))
theorem itok_range {F : Hp} {lo : Int} {n : Nat} : ItOk F (Itr lo n) (rangeD lo n) := by
  intro F1 H1 s1 s2
  have hl : (rangeD lo n).length = n := by simp [rangeD]
  refine ⟨fun i hi => by rw [hl] at hi; exact hi, fun i hi => by rw [hl] at hi; exact hi, fun i x H2 hi q => ?_⟩
  obtain ⟨rfl, rfl⟩ := q
  rw [hl] at hi
  exact ⟨.int (lo + i), F1, by simp [rangeD, hi], Ext.refl s2, rfl⟩
def enumD : Nat → List D → List D
  | _, [] => []
  | n, d :: ds => .tuple [.int (n : Nat), d] :: enumD (n + 1) ds
theorem enumD_len : ∀ (n : Nat) (ds : List D), (enumD n ds).length = ds.length
  | _, [] => rfl
  | n, _ :: ds => by simp [enumD, enumD_len (n + 1) ds]
theorem enumD_get : ∀ (n : Nat) (ds : List D) (i : Nat), (enumD n ds)[i]? = ds[i]?.map fun d => .tuple [.int ((n + i : Nat) : Int), d]
  | _, [], _ => by simp [enumD]
  | n, d :: ds, 0 => by simp [enumD]
  | n, d :: ds, i + 1 => by
    simp only [enumD, List.getElem?_cons_succ]
    rw [enumD_get (n + 1) ds i]
    rw [show n + 1 + i = n + (i + 1) by omega]
theorem pair_ext {F1 H1 : Hp} (s2 : Same F1 H1) {T : Addr} {i : Nat} {x : V} {d : D} (hT : H1 T = none) (hd : Den F1 d x) :
    Ext F1 H1 (upd F1 T (.tup [.int (i : Nat), x])) (upd H1 T (.tup [.int (i : Nat), x])) ∧ Den (upd F1 T (.tup [.int (i : Nat), x])) (.tuple [.int (i : Nat), d]) (.ref T) := by
  have e := Ext.laid s2 hT (.tup [.int (i : Nat), x])
  exact ⟨e, T, _, rfl, upd_same, .int i, [x], rfl, rfl, x, [], rfl, hd.mono e.old, rfl⟩
theorem itok_enumL {K : PySem.W.Frag} {F : Hp} {a : Addr} {vs : List V} {ds : List D} (h : F a = some (.lst vs)) (l : DenL F ds vs) : ItOk F (Ite K a) (enumD 0 ds) := by
  intro F1 H1 s1 s2
  have e : H1 a = some (.lst vs) := s2 _ _ (s1 _ _ h)
  refine ⟨fun i hi => ⟨vs, SqL.of e, by rw [← l.len, ← enumD_len 0 ds]; exact hi⟩, fun i hi => ?_, fun i x H2 hi q => ?_⟩
  · rw [enumD_len, l.len] at hi
    exact ⟨vs, vs[i], SqL.of e, List.getElem?_eq_getElem hi⟩
  · obtain ⟨T, y, rfl, hT, rfl, q⟩ := q
    obtain ⟨d, e1, e2⟩ := (l.mono s1).got (q vs (SqL.of e))
    obtain ⟨p1, p2⟩ := pair_ext (i := i) s2 hT e2
    exact ⟨_, _, by rw [enumD_get, e1]; simp, p1, p2⟩
theorem itok_enumT {K : PySem.W.Frag} {F : Hp} {a : Addr} {vs : List V} {ds : List D} (h : F a = some (.tup vs)) (l : DenL F ds vs) : ItOk F (Itet K a) (enumD 0 ds) := by
  intro F1 H1 s1 s2
  have e : H1 a = some (.tup vs) := s2 _ _ (s1 _ _ h)
  refine ⟨fun i hi => ⟨vs, SqT.of e, by rw [← l.len, ← enumD_len 0 ds]; exact hi⟩, fun i hi => ?_, fun i x H2 hi q => ?_⟩
  · rw [enumD_len, l.len] at hi
    exact ⟨vs, vs[i], SqT.of e, List.getElem?_eq_getElem hi⟩
  · obtain ⟨T, y, rfl, hT, rfl, q⟩ := q
    obtain ⟨d, e1, e2⟩ := (l.mono s1).got (q vs (SqT.of e))
    obtain ⟨p1, p2⟩ := pair_ext (i := i) s2 hT e2
    exact ⟨_, _, by rw [enumD_get, e1]; simp, p1, p2⟩
section
variable {B : Bd} {EX : Str → Hp → Prop}
def mSeqI (f : M D) : M (List D) := bnd f fun d => lft (seqD d)
theorem evi_seq {K : PySem.W.Frag} {t : TE} {f : M D} (h : Ev B EX VD t f) : Ev B EX VI (iSeq K t) (mSeqI f) := by
  refine Ev.bind (tb := fun x σ H R => ∃ a, x = .ref a ∧ (((∃ xs, SqL K H a xs) ∧ R (Itl K a) H) ∨ ((∃ xs, SqT K H a xs) ∧ R (Itt K a) H))) h fun d x F H σ ρ Q m p q => ?_
  cases d with
  | list ds =>
    obtain ⟨a, vs, rfl, e, l⟩ := p
    exact ⟨a, rfl, .inl ⟨⟨vs, SqL.of (m.sub _ _ e)⟩, q _ F H m.refl (itok_list e l)⟩⟩
  | tuple ds =>
    obtain ⟨a, vs, rfl, e, l⟩ := p
    exact ⟨a, rfl, .inr ⟨⟨vs, SqT.of (m.sub _ _ e)⟩, q _ F H m.refl (itok_tup e l)⟩⟩
  | none => exact q.elim
  | bool _ => exact q.elim
  | int _ => exact q.elim
  | str _ => exact q.elim
  | dict _ => exact q.elim
def mEnum (f : M (List D)) : M (List D) := bnd f fun ds => match ds with
  | [d] => lft ((seqD d).map (enumD 0))
  | _ => stuck
theorem evi_enum {K : PySem.W.Frag} {t : TA} {f : M (List D)} (h : Ev B EX VL t f) : Ev B EX VI (iEnumS K t) (mEnum f) := by
  refine Ev.bind (tb := fun vs σ H R => ∃ a xs, vs = [.ref a] ∧ ((SqL K H a xs ∧ R (Ite K a) H) ∨ (SqT K H a xs ∧ R (Itet K a) H))) h fun ds x F H σ ρ Q m p q => ?_
  match ds, p, q with
  | [], _, q => exact q.elim
  | _ :: _ :: _, _, q => exact q.elim
  | [.list ds], p, q =>
    obtain ⟨v, r, rfl, ⟨a, vs, rfl, e, l⟩, rfl⟩ := p
    exact ⟨a, vs, rfl, .inl ⟨SqL.of (m.sub _ _ e), q _ F H m.refl (itok_enumL e l)⟩⟩
  | [.tuple ds], p, q =>
    obtain ⟨v, r, rfl, ⟨a, vs, rfl, e, l⟩, rfl⟩ := p
    exact ⟨a, vs, rfl, .inr ⟨SqT.of (m.sub _ _ e), q _ F H m.refl (itok_enumT e l)⟩⟩
  | [.none], _, q => exact q.elim
  | [.bool _], _, q => exact q.elim
  | [.int _], _, q => exact q.elim
  | [.str _], _, q => exact q.elim
  | [.dict _], _, q => exact q.elim
def mRng1 (f : M (List D)) : M (List D) := bnd f fun ds => match ds with
  | [.int j] => if j ≤ 1000000 ∧ -1000000 ≤ j then ret (rangeD 0 j.toNat) else stuck
  | _ => stuck
def mRng2 (f : M (List D)) : M (List D) := bnd f fun ds => match ds with
  | [.int i, .int j] => if (j ≤ 1000000 ∧ -1000000 ≤ j) ∧ (i ≤ 1000000 ∧ -1000000 ≤ i) then ret (rangeD i (j - i).toNat) else stuck
  | _ => stuck
theorem evi_rng1 {t : TA} {f : M (List D)} (h : Ev B EX VL t f) : Ev B EX VI (iRng1 t) (mRng1 f) := by
  refine Ev.bind (tb := fun vs σ H R => ∃ j : Int, vs = [.int j] ∧ -(2 ^ 62) ≤ j ∧ j < 2 ^ 62 ∧ R (Itr 0 j.toNat) H) h fun ds x F H σ ρ Q m p q => ?_
  split at q
  · next j =>
    obtain ⟨v, r, rfl, rfl, rfl⟩ := p
    split at q
    · next hb => exact ⟨j, rfl, by omega, by omega, q _ F H m.refl itok_range⟩
    · exact q.elim
  · exact q.elim
theorem evi_rng2 {t : TA} {f : M (List D)} (h : Ev B EX VL t f) : Ev B EX VI (iRng2 t) (mRng2 f) := by
  refine Ev.bind (tb := fun vs σ H R => ∃ i j : Int, vs = [.int i, .int j] ∧ (-(2 ^ 62) ≤ i ∧ i < 2 ^ 62 ∧ -(2 ^ 62) ≤ j ∧ j < 2 ^ 62) ∧ R (Itr i (j - i).toNat) H) h fun ds x F H σ ρ Q m p q => ?_
  split at q
  · next i j =>
    obtain ⟨v, r, rfl, rfl, w, r2, rfl, rfl, rfl⟩ := p
    split at q
    · next hb => exact ⟨i, j, rfl, ⟨by omega, by omega, by omega, by omega⟩, q _ F H m.refl itok_range⟩
    · exact q.elim
  · exact q.elim
end
def UpL {α : Type} (L : List Nat) (l l' : List α) : Prop := l'.length = l.length ∧ ∀ j : Nat, j ∉ L → l'[j]? = l[j]?
theorem UpL.refl {α : Type} {L : List Nat} {l : List α} : UpL L l l := ⟨rfl, fun _ _ => rfl⟩
theorem UpL.trans {α : Type} {L L' : List Nat} {a b c : List α} (x : UpL L a b) (y : UpL L' b c) : UpL (L ++ L') a c :=
  ⟨y.1.trans x.1, fun j h => by
    have h1 : j ∉ L := fun q => h (List.mem_append_left _ q)
    have h2 : j ∉ L' := fun q => h (List.mem_append_right _ q)
    rw [y.2 j h2, x.2 j h1]⟩
theorem UpL.set {α : Type} (l : List α) (i : Nat) (x : α) : UpL [i] l (l.set i x) := ⟨List.length_set .., fun j h => by
  have : i ≠ j := fun q => h (by simp [q])
  rw [List.getElem?_set]; simp [this]⟩
structure EvG (B : Bd) (g : TG) (h : D → Rho → Option Rho) (L : List Nat) : Prop where
  run : ∀ (F H : Hp) (σ : L2.St) (ρ : Rho) (v : V) (d : D) (ρ' : Rho) (Q : L2.St → Hp → Prop), Mt B F H σ ρ → Den F d v → h d ρ = some ρ' → (∀ σ', Mt B F H σ' ρ' → UpL L σ σ' → Q σ' H) → g v σ H Q
  up : ∀ (d : D) (ρ ρ' : Rho), h d ρ = some ρ' → UpL L ρ ρ'
  fz : ∀ (d : D) (ρ ρ' : Rho) (j : Nat) (c : Cell), h d ρ = some ρ' → ρ'[j]? = some c → c.own = true → ρ[j]? = some c ∧ j ∉ L
structure EvGs (B : Bd) (g : TGs) (h : List D → Rho → Option Rho) (L : List Nat) : Prop where
  run : ∀ (F H : Hp) (σ : L2.St) (ρ : Rho) (v : List V) (d : List D) (ρ' : Rho) (Q : L2.St → Hp → Prop), Mt B F H σ ρ → DenL F d v → h d ρ = some ρ' → (∀ σ', Mt B F H σ' ρ' → UpL L σ σ' → Q σ' H) → g v σ H Q
  up : ∀ (d : List D) (ρ ρ' : Rho), h d ρ = some ρ' → UpL L ρ ρ'
  fz : ∀ (d : List D) (ρ ρ' : Rho) (j : Nat) (c : Cell), h d ρ = some ρ' → ρ'[j]? = some c → c.own = true → ρ[j]? = some c ∧ j ∉ L
def hName (i : Nat) : D → Rho → Option Rho := fun d ρ => some (ρ.set i (.fz d))
section
variable {B : Bd}
theorem eg_name {i : Nat} : EvG B (gName i) (hName i) [i] where
  run := fun F H σ ρ v d ρ' Q m p e q => by cases e; exact q _ (m.put p) (UpL.set _ _ _)
  up := fun d ρ ρ' e => by cases e; exact UpL.set _ _ _
  fz := fun d ρ ρ' j c e h1 h2 => by
    cases e
    rcases set_get h1 with ⟨rfl, rfl⟩ | ⟨ne, h1⟩
    · cases h2
    · exact ⟨h1, by simp; exact fun q => ne q.symm⟩
def hNil : List D → Rho → Option Rho := fun d ρ => match d with
  | [] => some ρ
  | _ => none
def hCons (a : D → Rho → Option Rho) (b : List D → Rho → Option Rho) : List D → Rho → Option Rho := fun d ρ => match d with
  | [] => none
  | x :: xs => (a x ρ).bind (b xs)
theorem egs_nil : EvGs B gNil hNil [] where
  run := fun F H σ ρ v d ρ' Q m p e q => by
    cases d with
    | nil => cases e; exact ⟨p, q σ m UpL.refl⟩
    | cons _ _ => cases e
  up := fun d ρ ρ' e => by
    cases d with
    | nil => cases e; exact UpL.refl
    | cons _ _ => cases e
  fz := fun d ρ ρ' j c e h1 h2 => by
    cases d with
    | nil => cases e; exact ⟨h1, by simp⟩
    | cons _ _ => cases e
theorem egs_cons {g : TG} {gs : TGs} {h : D → Rho → Option Rho} {hs : List D → Rho → Option Rho} {L Ls : List Nat} (a : EvG B g h L) (b : EvGs B gs hs Ls) : EvGs B (gCons g gs) (hCons h hs) (L ++ Ls) where
  run := fun F H σ ρ v d ρ' Q m p e q => by
    cases d with
    | nil => cases e
    | cons x xs =>
      obtain ⟨v, r, rfl, p1, p2⟩ := p
      have e' : (h x ρ).bind (hs xs) = some ρ' := e
      cases e1 : h x ρ with
      | none => rw [e1] at e'; cases e'
      | some ρ1 =>
        rw [e1] at e'
        refine ⟨v, r, rfl, a.run F H σ ρ v x ρ1 _ m p1 e1 fun σ1 m1 u1 => ?_⟩
        exact b.run F H σ1 ρ1 r xs ρ' Q m1 p2 e' fun σ2 m2 u2 => q σ2 m2 (u1.trans u2)
  up := fun d ρ ρ' e => by
    cases d with
    | nil => cases e
    | cons x xs =>
      have e' : (h x ρ).bind (hs xs) = some ρ' := e
      cases e1 : h x ρ with
      | none => rw [e1] at e'; cases e'
      | some ρ1 => rw [e1] at e'; exact (a.up x ρ ρ1 e1).trans (b.up xs ρ1 ρ' e')
  fz := fun d ρ ρ' j c e h1 h2 => by
    cases d with
    | nil => cases e
    | cons x xs =>
      have e' : (h x ρ).bind (hs xs) = some ρ' := e
      cases e1 : h x ρ with
      | none => rw [e1] at e'; cases e'
      | some ρ1 =>
        rw [e1] at e'
        obtain ⟨q1, q2⟩ := b.fz xs ρ1 ρ' j c e' h1 h2
        obtain ⟨q3, q4⟩ := a.fz x ρ ρ1 j c e1 q1 h2
        exact ⟨q3, fun z => (List.mem_append.mp z).elim q4 q2⟩
def hTup (n : Nat) (hs : List D → Rho → Option Rho) : D → Rho → Option Rho := fun d ρ => match d with
  | .tuple ds => if ds.length = n then hs ds ρ else none
  | _ => none
theorem eg_tup {K : PySem.W.Frag} {n : Nat} {gs : TGs} {hs : List D → Rho → Option Rho} {L : List Nat} (b : EvGs B gs hs L) : EvG B (gTup K n gs) (hTup n hs) L where
  run := fun F H σ ρ v d ρ' Q m p e q => by
    cases d with
    | tuple ds =>
      obtain ⟨a, vs, rfl, e1, l⟩ := p
      unfold hTup at e
      by_cases hn : ds.length = n
      · simp only [if_pos hn] at e
        exact ⟨a, vs, rfl, SqT.of (m.sub _ _ e1), by rw [← l.len]; exact hn, b.run F H σ ρ vs ds ρ' Q m l e q⟩
      · simp only [if_neg hn] at e; cases e
    | none => cases e
    | bool _ => cases e
    | int _ => cases e
    | str _ => cases e
    | list _ => cases e
    | dict _ => cases e
  up := fun d ρ ρ' e => by
    cases d with
    | tuple ds =>
      unfold hTup at e
      by_cases hn : ds.length = n
      · simp only [if_pos hn] at e; exact b.up ds ρ ρ' e
      · simp only [if_neg hn] at e; cases e
    | none => cases e
    | bool _ => cases e
    | int _ => cases e
    | str _ => cases e
    | list _ => cases e
    | dict _ => cases e
  fz := fun d ρ ρ' j c e h1 h2 => by
    cases d with
    | tuple ds =>
      unfold hTup at e
      by_cases hn : ds.length = n
      · simp only [if_pos hn] at e; exact b.fz ds ρ ρ' j c e h1 h2
      · simp only [if_neg hn] at e; cases e
    | none => cases e
    | bool _ => cases e
    | int _ => cases e
    | str _ => cases e
    | list _ => cases e
    | dict _ => cases e
end
def wipeR (ρ : Rho) : List Nat → Rho
  | [] => ρ
  | v :: vs => (wipeR ρ vs).set v .no
def restR (ρ ρ1 : Rho) : List Nat → Rho
  | [] => ρ1
  | v :: vs => match ρ[v]? with
    | some c => (restR ρ ρ1 vs).set v c
    | none => restR ρ ρ1 vs
theorem wipeR_len (ρ : Rho) : ∀ vs : List Nat, (wipeR ρ vs).length = ρ.length
  | [] => rfl
  | v :: vs => by rw [wipeR, List.length_set, wipeR_len ρ vs]
theorem wipeR_in {ρ : Rho} {j : Nat} {c : Cell} : ∀ {vs : List Nat}, (wipeR ρ vs)[j]? = some c → c = .no ∨ (j ∉ vs ∧ ρ[j]? = some c)
  | [], h => .inr ⟨by simp, h⟩
  | v :: vs, h => by
    rcases set_get (show ((wipeR ρ vs).set v .no)[j]? = some c from h) with ⟨_, rfl⟩ | ⟨ne, h⟩
    · exact .inl rfl
    · rcases wipeR_in h with r | ⟨r1, r2⟩
      · exact .inl r
      · exact .inr ⟨fun q => (List.mem_cons.mp q).elim (fun z => ne z.symm) r1, r2⟩
theorem wipeR_out {ρ : Rho} {j : Nat} : ∀ {vs : List Nat}, j ∉ vs → (wipeR ρ vs)[j]? = ρ[j]?
  | [], _ => rfl
  | v :: vs, h => by
    have h1 : v ≠ j := fun q => h (by simp [q])
    have h2 : j ∉ vs := fun q => h (List.mem_cons_of_mem _ q)
    rw [wipeR, List.getElem?_set]; simp only [if_neg h1]; exact wipeR_out h2
theorem wipeR_no {ρ : Rho} {j : Nat} {c : Cell} : ∀ {vs : List Nat}, j ∈ vs → (wipeR ρ vs)[j]? = some c → c = .no := fun {vs} h e => by
  rcases wipeR_in e with r | ⟨r, _⟩
  · exact r
  · exact absurd h r
theorem restR_len (ρ ρ1 : Rho) : ∀ vs : List Nat, (restR ρ ρ1 vs).length = ρ1.length
  | [] => rfl
  | v :: vs => by
    unfold restR
    split
    · rw [List.length_set, restR_len ρ ρ1 vs]
    · exact restR_len ρ ρ1 vs
theorem restR_out {ρ ρ1 : Rho} {j : Nat} : ∀ {vs : List Nat}, j ∉ vs → (restR ρ ρ1 vs)[j]? = ρ1[j]?
  | [], _ => rfl
  | v :: vs, h => by
    have h1 : v ≠ j := fun q => h (by simp [q])
    have h2 : j ∉ vs := fun q => h (List.mem_cons_of_mem _ q)
    unfold restR
    split
    · rw [List.getElem?_set]; simp only [if_neg h1]; exact restR_out h2
    · exact restR_out h2
theorem restR_in {ρ ρ1 : Rho} {j : Nat} (hl : ρ.length = ρ1.length) : ∀ {vs : List Nat}, j ∈ vs → (restR ρ ρ1 vs)[j]? = ρ[j]?
  | v :: vs, h => by
    unfold restR
    by_cases e : v = j
    · subst e
      cases q : ρ[v]? with
      | some c =>
        simp only
        have : v < (restR ρ ρ1 vs).length := by rw [restR_len, ← hl]; exact (List.getElem?_eq_some_iff.mp q).1
        rw [List.getElem?_set]; simp [this]
      | none =>
        simp only
        have : ρ.length ≤ v := List.getElem?_eq_none_iff.mp q
        exact List.getElem?_eq_none_iff.mpr (by rw [restR_len, ← hl]; exact this)
    · have h2 : j ∈ vs := (List.mem_cons.mp h).elim (fun z => absurd z.symm e) id
      split
      · rw [List.getElem?_set]; simp only [if_neg e]; exact restR_in hl h2
      · exact restR_in hl h2
theorem wipe_get {σ : L2.St} {j : Nat} : ∀ {vs : List Nat}, (wipe σ vs)[j]? = if j ∈ vs then (if j < σ.length then some none else none) else σ[j]?
  | [] => by simp [wipe]
  | v :: vs => by
    rw [wipe, List.getElem?_set, wipe_length]
    by_cases e : v = j
    · subst e; simp
    · rw [if_neg e, wipe_get (vs := vs)]
      have : (j ∈ v :: vs) ↔ j ∈ vs := by
        rw [List.mem_cons]
        exact ⟨fun q => q.elim (fun z => absurd z.symm e) id, .inr⟩
      simp only [this]
theorem wipe_up {σ σ' : L2.St} {L vs : List Nat} (u : UpL L (wipe σ vs) σ') (h : ∀ i ∈ L, i ∈ vs) : wipe σ' vs = wipe σ vs := by
  have hl : σ'.length = σ.length := by rw [u.1, wipe_length]
  refine List.ext_getElem? fun j => ?_
  rw [wipe_get, wipe_get]
  by_cases hj : j ∈ vs
  · simp [hj, hl]
  · rw [if_neg hj, if_neg hj, u.2 j (fun q => hj (h j q)), wipe_get, if_neg hj]
def lcGo (h : D → Rho → Option Rho) (ft : M Bool) (fe : M D) (vs : List Nat) : List D → Rho → R (List D)
  | [], ρ => .ok [] ρ
  | d :: ds, ρ => match h d ρ with
    | none => .no
    | some ρ1 => match ft ρ1 with
      | .ok true ρ2 => (match fe ρ2 with
        | .ok x ρ3 => (match lcGo h ft fe vs ds (wipeR ρ3 vs) with
          | .ok xs ρ4 => .ok (x :: xs) ρ4
          | _ => .no)
        | _ => .no)
      | .ok false ρ2 => lcGo h ft fe vs ds (wipeR ρ2 vs)
      | _ => .no
def mLc (fi : M (List D)) (h : D → Rho → Option Rho) (ft : M Bool) (fe : M D) (vs : List Nat) : M D := bnd fi fun items => fun ρ =>
  if items.length ≤ big then (match lcGo h ft fe vs items (wipeR ρ vs) with
    | .ok xs ρ1 => .ok (.list xs) (restR ρ ρ1 vs)
    | _ => .no) else .no
def mYes : M Bool := ret true
section
variable {B : Bd} {EX : Str → Hp → Prop}
theorem ev_yes : Ev B EX VB tYes mYes := fun F H σ ρ Q m h => h true F H m.refl rfl
theorem Mt.write0 {F H : Hp} {σ : L2.St} {ρ : Rho} (m : Mt B F H σ ρ) {a : Addr} {o : HO} (hn : F a = none) (h0 : B.H0 a = none) (na : ¬ Owns σ ρ a) (la : ∀ x, H a = some x → LD x) : Mt B F (upd H a o) σ ρ := by
  refine ⟨fun b u e => ?_, m.old, m.new, fun b u e n t => ?_, fun b e => ?_, m.len, fun j v c h1 h2 => ?_, m.apart, tabs_but m.tabs (a := a) (fun b x z w => by rw [upd_ne w]; exact z) la, m.ntab⟩
  · rw [upd_ne (ne_of_none e hn)]; exact m.sub _ _ e
  · rw [upd_ne (ne_of_none e h0)]; exact m.frm b u e n t
  · by_cases hb : b = a
    · subst hb; exact h0
    · rw [upd_ne hb] at e; exact m.dom _ e
  · have q := m.cell j v c h1 h2
    cases c with
    | no => trivial
    | fz d' => exact q
    | ow d' =>
      obtain ⟨b, u, rfl, x2, x3, x4, x5⟩ := q
      exact ⟨b, u, rfl, by rw [upd_ne (fun z => na ⟨j, _, by rw [h1, z], h2, rfl⟩)]; exact x2, x3, x4, x5⟩
    | va d' => exact q
    | bw d' =>
      obtain ⟨b, u, rfl, x2, x3, x4, x5⟩ := q
      exact ⟨b, u, rfl, by rw [upd_ne (fun z => na ⟨j, _, by rw [h1, z], h2, rfl⟩)]; exact x2, x3, x4, x5⟩
/-- where a comprehension's block stands: the list made so far is at A -/
structure Blk (B : Bd) (A : Addr) (F H : Hp) (σ : L2.St) (ρ : Rho) (F' H' : Hp) (ρ' : Rho) : Prop where
  mt : Mt B F' H' σ ρ'
  old : Same F F'
  new : ∀ a o, F' a = some o → F a = some o ∨ H a = none ∨ Owns σ ρ a
  frm : ∀ a o, H a = some o → ¬ Owns σ ρ a → (∀ q ∈ B.T, q.1 ≠ a) → H' a = some o
  dom : ∀ a, H' a = none → H a = none
  own : ∀ a, Owns σ ρ' a → Owns σ ρ a
  kind : ∀ (i : Nat) (c : Cell), ρ[i]? = some c → ∃ c', ρ'[i]? = some c' ∧ KStep c c'
  nA : F' A = none
theorem Blk.step {A : Addr} {F H F1 H1 F2 H2 : Hp} {σ σ1 : L2.St} {ρ ρ1 ρ2 ρ3 : Rho} {vs L : List Nat} {o' : HO} (hA : H A = none) (hA0 : B.H0 A = none) (hAo : ¬ Owns σ ρ A) (b : Blk B A F H σ ρ F1 H1 ρ1) (hA1 : ∃ o, H1 A = some o ∧ LD o)
    (hm : Mt B F1 H1 σ1 ρ2) (up : UpL L σ σ1) (fz : ∀ (j : Nat) (c : Cell), ρ2[j]? = some c → c.own = true → ρ1[j]? = some c ∧ j ∉ L) (ru : UpL L ρ1 ρ2) (hL : ∀ i ∈ L, i ∈ vs)
    (wσ : wipe σ vs = σ) (wρ : ∀ j ∈ vs, ∀ c, ρ[j]? = some c → c = .no) (s : Stp B F1 H1 σ1 ρ2 F2 H2 ρ3) :
    F2 A = none ∧ H2 A = H1 A ∧ ¬ Owns σ1 ρ3 A ∧ Blk B A F H σ ρ F2 (upd H2 A o') (wipeR ρ3 vs) ∧ Blk B A F H σ ρ F2 H2 (wipeR ρ3 vs) := by
  have own2 : ∀ a, Owns σ1 ρ2 a → Owns σ ρ1 a := fun a ⟨j, c, h1, h2, h3⟩ => by
    obtain ⟨q1, q2⟩ := fz j c h2 h3
    exact ⟨j, c, by rw [← up.2 j q2]; exact h1, q1, h3⟩
  have nA2 : ¬ Owns σ1 ρ2 A := fun q => hAo (b.own _ (own2 _ q))
  obtain ⟨oA, eA, lA⟩ := hA1
  have tA : ∀ q ∈ B.T, q.1 ≠ A := tabs_at b.mt.tabs (ld_tbl eA lA)
  have e1 : H2 A = H1 A := by rw [eA]; exact s.frm A oA eA nA2 tA
  have e2 : F2 A = none := by
    cases q : F2 A with
    | none => rfl
    | some u =>
      rcases s.new A u q with z | z | z
      · rw [b.nA] at z; cases z
      · rw [eA] at z; cases z
      · exact absurd z nA2
  have nA3 : ¬ Owns σ1 ρ3 A := fun q => nA2 (s.own _ q)
  have lρ3 : ρ3.length = σ.length := by rw [s.mt.len, up.1]
  have wf : ∀ (i : Nat) c, (wipeR ρ3 vs)[i]? = some c → c = .no ∨ (ρ3[i]? = some c ∧ σ[i]? = σ1[i]?) := fun i c e => by
    rcases wipeR_in e with r | ⟨r1, r2⟩
    · exact .inl r
    · exact .inr ⟨r2, (up.2 i (fun q => r1 (hL i q))).symm⟩
  have mW : Mt B F2 H2 σ (wipeR ρ3 vs) := s.mt.drop (by rw [wipeR_len]; exact lρ3) wf
  have ownW : ∀ a, Owns σ (wipeR ρ3 vs) a → Owns σ1 ρ3 a := fun a ⟨j, c, h1, h2, h3⟩ => by
    rcases wf j c h2 with rfl | ⟨q1, q2⟩
    · cases h3
    · exact ⟨j, c, by rw [← q2]; exact h1, q1, h3⟩
  have ownAll : ∀ a, Owns σ (wipeR ρ3 vs) a → Owns σ ρ a := fun a q => b.own _ (own2 _ (s.own _ (ownW _ q)))
  have old : Same F F2 := b.old.trans s.old
  have new : ∀ a o, F2 a = some o → F a = some o ∨ H a = none ∨ Owns σ ρ a := fun a o e => by
    rcases s.new a o e with z | z | z
    · exact b.new a o z
    · exact .inr (.inl (b.dom _ z))
    · exact .inr (.inr (b.own _ (own2 _ z)))
  have frm : ∀ a o, H a = some o → ¬ Owns σ ρ a → (∀ q ∈ B.T, q.1 ≠ a) → H2 a = some o := fun a o e n t => s.frm a o (b.frm a o e n t) (fun q => n (b.own _ (own2 _ q))) t
  have dom : ∀ a, H2 a = none → H a = none := fun a e => b.dom _ (s.dom _ e)
  have kind : ∀ (i : Nat) (c : Cell), ρ[i]? = some c → ∃ c', (wipeR ρ3 vs)[i]? = some c' ∧ KStep c c' := fun i c e => by
    by_cases hi : i ∈ vs
    · have := wρ i hi c e
      subst this
      have il : i < (wipeR ρ3 vs).length := by
        obtain ⟨c', q, _⟩ := b.kind i _ e
        have h1 := (List.getElem?_eq_some_iff.mp q).1
        rw [wipeR_len, lρ3, ← b.mt.len]; exact h1
      refine ⟨_, List.getElem?_eq_getElem il, ?_⟩
      rw [wipeR_no hi (List.getElem?_eq_getElem il)]
      trivial
    · obtain ⟨c1, q1, k1⟩ := b.kind i c e
      have q2 : ρ2[i]? = some c1 := by rw [ru.2 i (fun z => hi (hL i z))]; exact q1
      obtain ⟨c3, q3, k3⟩ := s.kind i c1 q2
      exact ⟨c3, by rw [wipeR_out hi]; exact q3, k1.trans k3⟩
  refine ⟨e2, e1, nA3, ⟨mW.write0 e2 hA0 (fun q => nA3 (ownW _ q)) (fun x z => by rw [e1, eA] at z; cases z; exact lA), old, new, fun a o e n t => ?_, fun a e => ?_, ownAll, kind, e2⟩, ⟨mW, old, new, frm, dom, ownAll, kind, e2⟩⟩
  · rw [upd_ne (ne_of_none e hA)]; exact frm a o e n t
  · by_cases ha : a = A
    · subst ha; exact hA
    · rw [upd_ne ha] at e; exact dom _ e
theorem Blk.ext {A : Addr} {F H F1 H1 F2 H2 : Hp} {σ : L2.St} {ρ ρ1 : Rho} (b : Blk B A F H σ ρ F1 H1 ρ1) (hA1 : ∃ o, H1 A = some o) (e : Ext F1 H1 F2 H2) : Blk B A F H σ ρ F2 H2 ρ1 := by
  refine ⟨b.mt.grow e, b.old.trans e.old, fun a o h => ?_, fun a o h n t => e.same _ _ (b.frm a o h n t), fun a h => b.dom _ (e.same.free h), b.own, b.kind, ?_⟩
  · rcases e.new a o h with z | z
    · exact b.new a o z
    · exact .inr (.inl (b.dom _ z))
  · cases q : F2 A with
    | none => rfl
    | some u =>
      obtain ⟨o, ho⟩ := hA1
      rcases e.new A u q with z | z
      · rw [b.nA] at z; cases z
      · rw [ho] at z; cases z
/-- the block is left -/
theorem Blk.out {A : Addr} {F H F1 H1 : Hp} {σ : L2.St} {ρ ρ1 : Rho} {vs : List Nat} (m : Mt B F H σ ρ) (b : Blk B A F H (wipe σ vs) (wipeR ρ vs) F1 H1 ρ1) : Stp B F H σ ρ F1 H1 (restR ρ ρ1 vs) := by
  have lρ : ρ.length = ρ1.length := by rw [b.mt.len, wipe_length, m.len]
  have σo : ∀ j, j ∉ vs → (wipe σ vs)[j]? = σ[j]? := fun j hj => by rw [wipe_get, if_neg hj]
  have own1 : ∀ a, Owns (wipe σ vs) (wipeR ρ vs) a → Owns σ ρ a ∧ ∀ j c, j ∈ vs → σ[j]? = some (some (V.ref a)) → ρ[j]? = some c → c.own = true → False := fun a ⟨j, c, h1, h2, h3⟩ => by
    rcases wipeR_in h2 with rfl | ⟨r1, r2⟩
    · cases h3
    · rw [σo j r1] at h1
      exact ⟨⟨j, c, h1, r2, h3⟩, fun k c' hk q1 q2 q3 => r1 (by rw [m.apart j k a c c' h1 q1 r2 q2 h3 q3]; exact hk)⟩
  have cellv : ∀ (j : Nat) v c, j ∈ vs → σ[j]? = some v → ρ[j]? = some c → CellOk B F1 H1 v c := fun j v c hj h1 h2 => by
    have q := m.cell j v c h1 h2
    cases c with
    | no => trivial
    | fz d => obtain ⟨u, x, y⟩ := q; exact ⟨u, x, y.mono b.old⟩
    | ow d =>
      obtain ⟨a, o, rfl, x2, x3, x4, x5⟩ := q
      have na : ¬ Owns (wipe σ vs) (wipeR ρ vs) a := fun z => (own1 a z).2 j _ hj h1 h2 rfl
      refine ⟨a, o, rfl, b.frm a o x2 na (tabs_at m.tabs (ld_tbl x2 x3.ld)), x3.mono b.old, ?_, x5⟩
      cases w : F1 a with
      | none => rfl
      | some u =>
        rcases b.new a u w with z | z | z
        · rw [x4] at z; cases z
        · rw [x2] at z; cases z
        · exact absurd z na
    | va d => exact q
    | bw d =>
      obtain ⟨a, o, rfl, x2, x3, x4, x5⟩ := q
      have na : ¬ Owns (wipe σ vs) (wipeR ρ vs) a := fun z => (own1 a z).2 j _ hj h1 h2 rfl
      refine ⟨a, o, rfl, b.frm a o x2 na (tabs_at m.tabs (ld_tbl x2 x3.ld)), x3.mono b.old, ?_, x5⟩
      cases w : F1 a with
      | none => rfl
      | some u =>
        rcases b.new a u w with z | z | z
        · rw [x4] at z; cases z
        · rw [x2] at z; cases z
        · exact absurd z na
  have ownR : ∀ (j : Nat) c a, σ[j]? = some (some (V.ref a)) → (restR ρ ρ1 vs)[j]? = some c → c.own = true → (j ∈ vs ∧ ρ[j]? = some c) ∨ (j ∉ vs ∧ ρ1[j]? = some c ∧ (wipe σ vs)[j]? = some (some (V.ref a))) := fun j c a h1 h2 h3 => by
    by_cases hj : j ∈ vs
    · rw [restR_in lρ hj] at h2; exact .inl ⟨hj, h2⟩
    · rw [restR_out hj] at h2; exact .inr ⟨hj, h2, by rw [σo j hj]; exact h1⟩
  have mt : Mt B F1 H1 σ (restR ρ ρ1 vs) := by
    refine ⟨b.mt.sub, b.mt.old, b.mt.new, b.mt.frm, b.mt.dom, by rw [restR_len, ← lρ]; exact m.len, fun j v c h1 h2 => ?_, fun j k a c c' h1 h2 h3 h4 h5 h6 => ?_, b.mt.tabs, b.mt.ntab⟩
    · by_cases hj : j ∈ vs
      · rw [restR_in lρ hj] at h2; exact cellv j v c hj h1 h2
      · rw [restR_out hj] at h2; exact b.mt.cell j v c (by rw [σo j hj]; exact h1) h2
    · rcases ownR j c a h1 h3 h5 with ⟨y1, y2⟩ | ⟨y1, y2, y3⟩
      · rcases ownR k c' a h2 h4 h6 with ⟨z1, z2⟩ | ⟨z1, z2, z3⟩
        · exact m.apart j k a c c' h1 h2 y2 z2 h5 h6
        · exact ((own1 a (b.own a ⟨k, c', z3, z2, h6⟩)).2 j c y1 h1 y2 h5).elim
      · rcases ownR k c' a h2 h4 h6 with ⟨z1, z2⟩ | ⟨z1, z2, z3⟩
        · exact ((own1 a (b.own a ⟨j, c, y3, y2, h5⟩)).2 k c' z1 h2 z2 h6).elim
        · exact b.mt.apart j k a c c' y3 z3 y2 z2 h5 h6
  refine ⟨mt, b.old, fun a o e => ?_, fun a o e n t => b.frm a o e (fun q => n (own1 a q).1) t, b.dom, fun a q => ?_, fun j c e => ?_⟩
  · rcases b.new a o e with z | z | z
    · exact .inl z
    · exact .inr (.inl z)
    · exact .inr (.inr (own1 a z).1)
  · obtain ⟨j, c, h1, h2, h3⟩ := q
    rcases ownR j c a h1 h2 h3 with ⟨y1, y2⟩ | ⟨y1, y2, y3⟩
    · exact ⟨j, c, h1, y2, h3⟩
    · exact (own1 a (b.own a ⟨j, c, y3, y2, h3⟩)).1
  · by_cases hj : j ∈ vs
    · exact ⟨c, by rw [restR_in lρ hj]; exact e, KStep.refl c⟩
    · obtain ⟨c', q1, q2⟩ := b.kind j c (by rw [wipeR_out hj]; exact e)
      exact ⟨c', by rw [restR_out hj]; exact q1, q2⟩
abbrev EX0 : Str → Hp → Prop := fun _ _ => False
theorem evf_lc {wi : TI} {g : TG} {tt : TT} {te : TE} {fi : M (List D)} {h : D → Rho → Option Rho} {ft : M Bool} {fe : M D} {vs L : List Nat} (hi : Ev B EX VI wi fi) (hg : EvG B g h L) (ht : Ev B EX0 VB tt ft) (he : Ev B EX0 VD te fe)
    (hL : ∀ i ∈ L, i ∈ vs) : EvF B EX (tLc wi g tt te vs) (mLc fi h ft fe vs) := by
  refine evf_bind (tb := fun J σ H1 Q => ∀ D, H1 D = none → ∃ W : Nat → Nat → Hp → Prop, (∃ m, W 0 m (upd H1 D (.lst []))) ∧ ∀ i m H, W i m H →
    (J.stop i H ∧ Q (V.ref D) H) ∨ (J.go i H ∧ ∃ Nx : Hp → Prop, (∀ H', Nx H' → ∃ m', m' < m ∧ W (i + 1) m' H') ∧ ∀ x H', J.yld i H x H' → g x (wipe σ vs) H' fun σ2 H2 => wipe σ2 vs = wipe σ vs ∧ tt σ2 H2 fun b H3 =>
      if b = true then te σ2 H3 fun y H4 => ∃ acc, H4 D = some (.lst acc) ∧ acc.length < sizeLine ∧ Nx (upd H4 D (.lst (acc ++ [y]))) else Nx H3)) hi fun items J F H σ ρ Q m ok q => ?_
  intro A hA
  by_cases hbig : items.length ≤ big
  · simp only [if_pos hbig] at q
    cases e : lcGo h ft fe vs items (wipeR ρ vs) with
    | no => rw [e] at q; exact q.elim
    | ex c r => rw [e] at q; exact q.elim
    | ok total ρe =>
      rw [e] at q
      have mw : Mt B F H (wipe σ vs) (wipeR ρ vs) := m.drop (by rw [wipeR_len, wipe_length]; exact m.len) fun i c h1 => by
        rcases wipeR_in h1 with r | ⟨r1, r2⟩
        · exact .inl r
        · exact .inr ⟨r2, by rw [wipe_get, if_neg r1]⟩
      have hAo : ¬ Owns (wipe σ vs) (wipeR ρ vs) A := mw.noOwn hA
      have hA0 : B.H0 A = none := m.dom _ hA
      have b0 : Blk B A F H (wipe σ vs) (wipeR ρ vs) F (upd H A (.lst [])) (wipeR ρ vs) :=
        ⟨mw.write0 (m.sub.free hA) hA0 hAo (fun x z => by rw [hA] at z; cases z), Same.refl _, fun _ _ z => .inl z, fun a o z _ _ => by rw [upd_ne (ne_of_none z hA)]; exact z, fun a z => by
          by_cases ha : a = A
          · subst ha; exact hA
          · rw [upd_ne ha] at z; exact z, fun _ z => z, fun i c z => ⟨c, z, KStep.refl c⟩, m.sub.free hA⟩
      refine ⟨fun i k Hc => i + k = items.length ∧ ∃ Fc ρc accD accV restD, Blk B A F H (wipe σ vs) (wipeR ρ vs) Fc Hc ρc ∧ Hc A = some (.lst accV) ∧ DenL Fc accD accV ∧ accD.length ≤ i ∧
        lcGo h ft fe vs (items.drop i) ρc = .ok restD ρe ∧ accD ++ restD = total, ⟨items.length, by omega, F, wipeR ρ vs, [], [], total, b0, upd_same, rfl, Nat.le_refl _, by rw [List.drop_zero]; exact e, rfl⟩, ?_⟩
      rintro i k Hc ⟨hik, Fc, ρc, accD, accV, restD, b, hcA, dacc, lacc, lc, tot⟩
      have it := ok Fc Hc b.old b.mt.sub
      by_cases hi : i < items.length
      · refine .inr ⟨it.2.1 i hi, fun Hc => (i + 1) + (k - 1) = items.length ∧ ∃ Fc ρc accD accV restD, Blk B A F H (wipe σ vs) (wipeR ρ vs) Fc Hc ρc ∧ Hc A = some (.lst accV) ∧ DenL Fc accD accV ∧ accD.length ≤ i + 1 ∧
          lcGo h ft fe vs (items.drop (i + 1)) ρc = .ok restD ρe ∧ accD ++ restD = total, fun H' hN => ⟨k - 1, by omega, hN⟩, fun x H2 hy => ?_⟩
        obtain ⟨d, F2, ed, ex, dx⟩ := it.2.2 i x H2 hi hy
        have hdrop : items.drop i = d :: items.drop (i + 1) := by
          rw [List.drop_eq_getElem_cons hi]
          rw [List.getElem?_eq_getElem hi] at ed
          rw [Option.some.inj ed]
        rw [hdrop] at lc
        unfold lcGo at lc
        have hA2 : H2 A = some (.lst accV) := ex.same _ _ hcA
        have b2 := b.ext ⟨_, hcA⟩ ex
        cases e1 : h d ρc with
        | none => rw [e1] at lc; cases lc
        | some ρ1 =>
          rw [e1] at lc
          simp only at lc
          refine hg.run F2 H2 (wipe σ vs) ρc x d ρ1 _ b2.mt dx e1 fun σ1 m3 up => ⟨wipe_up up hL, ?_⟩
          refine ht F2 H2 σ1 ρ1 _ m3 ?_
          have wσ : wipe (wipe σ vs) vs = wipe σ vs := wipe_up UpL.refl (fun i h => h)
          have wρ : ∀ j ∈ vs, ∀ c, (wipeR ρ vs)[j]? = some c → c = .no := fun j hj c z => wipeR_no hj z
          cases e2 : ft ρ1 with
          | no => rw [e2] at lc; cases lc
          | ex c r => rw [e2] at lc; cases lc
          | ok bb ρ2 =>
            rw [e2] at lc
            intro b' F3 H3 s3 eb
            subst eb
            cases b' with
            | true =>
              simp only at lc
              simp only [if_true]
              refine he F3 H3 σ1 ρ2 _ s3.mt ?_
              cases e3 : fe ρ2 with
              | no => rw [e3] at lc; cases lc
              | ex c r => rw [e3] at lc; cases lc
              | ok y ρ3 =>
                rw [e3] at lc
                simp only at lc
                intro v F4 H4 s4 dv
                obtain ⟨p1, p2, p3, p4, _⟩ := Blk.step (o' := .lst (accV ++ [v])) hA hA0 hAo b2 ⟨_, hA2, .inl ⟨_, rfl⟩⟩ m3 up (fun j c z1 z2 => hg.fz d ρc ρ1 j c e1 z1 z2) (hg.up d ρc ρ1 e1) hL wσ wρ (s3.trans s4)
                cases e4 : lcGo h ft fe vs (items.drop (i + 1)) (wipeR ρ3 vs) with
                | no => rw [e4] at lc; cases lc
                | ex c r => rw [e4] at lc; cases lc
                | ok xs ρ4 =>
                  rw [e4] at lc
                  cases lc
                  refine ⟨accV, by rw [p2]; exact hA2, ?_, by omega, F4, wipeR ρ3 vs, accD ++ [y], accV ++ [v], xs, p4, upd_same, (dacc.mono (ex.old.trans (s3.trans s4).old)).app (DenL.one dv), by simp; exact lacc, e4, by rw [List.append_assoc]; exact tot⟩
                  rw [← dacc.len]
                  exact Nat.lt_of_le_of_lt lacc (Nat.lt_of_lt_of_le hi (big_le hbig))
            | false =>
              simp only at lc
              simp only [Bool.false_eq_true, if_false]
              obtain ⟨p1, p2, p3, _, p4⟩ := Blk.step (o' := .lst accV) hA hA0 hAo b2 ⟨_, hA2, .inl ⟨_, rfl⟩⟩ m3 up (fun j c z1 z2 => hg.fz d ρc ρ1 j c e1 z1 z2) (hg.up d ρc ρ1 e1) hL wσ wρ s3
              exact ⟨by omega, F3, wipeR ρ2 vs, accD, accV, restD, p4, by rw [p2]; exact hA2, dacc.mono (ex.old.trans s3.old), by omega, lc, tot⟩
      · have hdrop : items.drop i = [] := List.drop_eq_nil_of_le (by omega)
        rw [hdrop] at lc
        cases lc
        rw [List.append_nil] at tot
        subst tot
        exact .inl ⟨it.1 i (by omega), q (.ref A) Fc Hc (b.out m) ⟨A, _, rfl, hcA, dacc, b.nA, hA⟩⟩
  · simp only [if_neg hbig] at q; exact q.elim
end
end Rn
end
section
set_option Elab.async false
set_option linter.all false
set_option maxRecDepth 100000
namespace Rn
open PySem PySem.Spec L2
inductive Out where
  | nx (r : Rho)
  | rt (d : D) (r : Rho)
  | rf (d : D) (r : Rho)
  | bk (r : Rho)
  | ct (r : Rho)
  | ex (c : Str) (r : Rho)
  | no
abbrev S := Rho → Out
def PostS (B : Bd) (EX : Str → Hp → Prop) (F : Hp) (E : Ends) : Out → Prop
  | .nx ρ' => ∀ σ' F' H', Mt B F' H' σ' ρ' → Same F F' → E.nx σ' H'
  | .rt d ρ' => ∀ v σ' F' H', Mt B F' H' σ' ρ' → Same F F' → Den F' d v → E.rt v H'
  | .rf d ρ' => ∀ v σ' F' H', Mt B F' H' σ' ρ' → Same F F' → VFr B.H0 F' H' d v → E.rt v H'
  | .bk ρ' => ∀ σ' F' H', Mt B F' H' σ' ρ' → Same F F' → E.bk σ' H'
  | .ct ρ' => ∀ σ' F' H', Mt B F' H' σ' ρ' → Same F F' → E.ct σ' H'
  | .ex c ρ' => ∀ σ' F' H', Mt B F' H' σ' ρ' → EX c H'
  | .no => False
def EvS (B : Bd) (EX : Str → Hp → Prop) (t : TS) (f : S) : Prop :=
  ∀ (F H : Hp) (σ : L2.St) (ρ : Rho) (E : Ends), Mt B F H σ ρ → PostS B EX F E (f ρ) → t E σ H
section
variable {B : Bd} {EX : Str → Hp → Prop}
theorem PostS.from {F F' : Hp} {E : Ends} {o : Out} (h : PostS B EX F E o) (s : Same F F') : PostS B EX F' E o := by
  cases o with
  | nx r => exact fun σ' F2 H2 m q => h σ' F2 H2 m (s.trans q)
  | rt d r => exact fun v σ' F2 H2 m q => h v σ' F2 H2 m (s.trans q)
  | rf d r => exact fun v σ' F2 H2 m q => h v σ' F2 H2 m (s.trans q)
  | bk r => exact fun σ' F2 H2 m q => h σ' F2 H2 m (s.trans q)
  | ct r => exact fun σ' F2 H2 m q => h σ' F2 H2 m (s.trans q)
  | ex c r => exact h
  | no => exact h
/-- an expression, then what leans on its value -/
def sBind {α : Type} (f : M α) (k : α → S) : S := fun ρ => match f ρ with
  | .ok a r => k a r
  | .ex c r => .ex c r
  | .no => .no
theorem es_bind {α β : Type} {VP : L2.St → Hp → Hp → Rho → α → β → Prop} {ta : Rd1 β} {tb : β → TS} {f : M α} {k : α → S} (ha : Ev B EX VP ta f)
    (hb : ∀ (a : α) (x : β) (F H : Hp) (σ : L2.St) (ρ : Rho) (E : Ends), Mt B F H σ ρ → VP σ F H ρ a x → PostS B EX F E (k a ρ) → tb x E σ H) :
    EvS B EX (fun E σ H => ta σ H fun x H1 => tb x E σ H1) (sBind f k) := by
  intro F H σ ρ E m h
  refine ha F H σ ρ _ m ?_
  unfold sBind at h
  cases e : f ρ with
  | ok a r => rw [e] at h; exact fun v F' H' x p => hb a v F' H' σ r E x.mt p (h.from x.old)
  | ex c r => rw [e] at h; exact fun F' H' x => h σ F' H' x.mt
  | no => rw [e] at h; exact h
def sNext : S := fun ρ => .nx ρ
def sSeq (f g : S) : S := fun ρ => match f ρ with
  | .nx r => g r
  | o => o
theorem es_next : EvS B EX tNext sNext := fun F H σ ρ E m h => h σ F H m (Same.refl _)
theorem es_seq {t u : TS} {f g : S} (h1 : EvS B EX t f) (h2 : EvS B EX u g) : EvS B EX (tSeq t u) (sSeq f g) := by
  intro F H σ ρ E m h
  refine h1 F H σ ρ _ m ?_
  unfold sSeq at h
  cases e : f ρ with
  | nx r => rw [e] at h; exact fun σ' F' H' m' s => h2 F' H' σ' r E m' (h.from s)
  | rt d r => rw [e] at h; exact h
  | rf d r => rw [e] at h; exact h
  | bk r => rw [e] at h; exact h
  | ct r => rw [e] at h; exact h
  | ex c r => rw [e] at h; exact h
  | no => rw [e] at h; exact h
def sDrop (f : M D) : S := sBind f fun _ => sNext
theorem es_drop {t : TE} {f : M D} (h : Ev B EX VD t f) : EvS B EX (tDrop t) (sDrop f) :=
  es_bind (tb := fun x E σ H => E.nx σ H) h fun a x F H σ ρ E m p q => q σ F H m (Same.refl _)
def sRet (f : M D) : S := sBind f fun d => fun ρ => .rt d ρ
theorem es_ret {t : TE} {f : M D} (h : Ev B EX VD t f) : EvS B EX (tRet t) (sRet f) :=
  es_bind (tb := fun x E σ H => E.rt x H) h fun a x F H σ ρ E m p q => q x σ F H m (Same.refl _) p
def sIf (c : M Bool) (f g : S) : S := sBind c fun b => if b = true then f else g
theorem es_if {c : TT} {t u : TS} {fc : M Bool} {f g : S} (hc : Ev B EX VB c fc) (h1 : EvS B EX t f) (h2 : EvS B EX u g) : EvS B EX (tIfS c t u) (sIf fc f g) :=
  es_bind (tb := fun b E σ H => if b = true then t E σ H else u E σ H) hc fun a x F H σ ρ E m p q => by
    cases p
    cases a with
    | true => exact h1 F H σ ρ E m q
    | false => exact h2 F H σ ρ E m q
def sAsg (f : M D) (h : D → Rho → Option Rho) : S := sBind f fun d => fun ρ => match h d ρ with
  | some r => .nx r
  | none => .no
theorem es_asg {t : TE} {f : M D} {g : TG} {h : D → Rho → Option Rho} {L : List Nat} (he : Ev B EX VD t f) (hg : EvG B g h L) : EvS B EX (tAsg t g) (sAsg f h) :=
  es_bind (tb := fun x E σ H => g x σ H E.nx) he fun a x F H σ ρ E m p q => by
    cases e : h a ρ with
    | none => simp only [e] at q; exact q.elim
    | some r =>
      simp only [e] at q
      exact hg.run F H σ ρ x a r _ m p e fun σ' m' _ => q σ' F H m' (Same.refl _)
def sOwn (f : M D) (i : Nat) : S := sBind f fun d => fun ρ => .nx (ρ.set i (.ow d))
theorem es_own {t : TE} {f : M D} {i : Nat} (he : EvF B EX t f) : EvS B EX (tAsg t (gName i)) (sOwn f i) := by
  intro F H σ ρ E m h
  refine he F H σ ρ _ m ?_
  unfold sOwn sBind at h
  cases e : f ρ with
  | ex c r => rw [e] at h; exact fun F' H' x => h σ F' H' x.mt
  | no => rw [e] at h; exact h
  | ok d r =>
    rw [e] at h
    rintro v F' H' x ⟨a, o, rfl, h1, h2, h3, h4⟩
    exact h _ F' H' (x.mt.putOwn h1 h2 h3 (m.dom _ h4) fun q => m.noOwn h4 (x.own _ q)) x.old
def ownAt : List Bool → List V → List Addr
  | true :: ms, .ref a :: vs => a :: ownAt ms vs
  | _ :: ms, _ :: vs => ownAt ms vs
  | _, _ => []
def VM (Hs : Hp) : List Bool → Hp → Hp → List D → List V → Prop
  | [], _, _, [], vs => vs = []
  | true :: ms, F, H, d :: ds, vs => ∃ a o r, vs = .ref a :: r ∧ H a = some o ∧ Shal F d o ∧ F a = none ∧ Hs a = none ∧ a ∉ ownAt ms r ∧ VM Hs ms F H ds r
  | false :: ms, F, H, d :: ds, vs => ∃ v r, vs = v :: r ∧ Den F d v ∧ VM Hs ms F H ds r
  | _, _, _, _, _ => False
theorem VM.free {Hs : Hp} : ∀ {ms : List Bool} {F H : Hp} {ds : List D} {vs : List V} {a : Addr}, VM Hs ms F H ds vs → a ∈ ownAt ms vs → Hs a = none
  | [], _, _, [], _, a, h, q => by cases h; cases q
  | [], _, _, _ :: _, _, a, h, q => h.elim
  | true :: ms, F, H, [], vs, a, h, q => h.elim
  | false :: ms, F, H, [], vs, a, h, q => h.elim
  | true :: ms, F, H, d :: ds, vs, a, ⟨b, o, r, e, h1, h2, h3, h4, h5, h6⟩, q => by
    subst e
    rcases List.mem_cons.mp (show a ∈ b :: ownAt ms r from q) with rfl | q
    · exact h4
    · exact VM.free h6 q
  | false :: ms, F, H, d :: ds, vs, a, ⟨v, r, e, h1, h2⟩, q => by
    subst e
    have q' : a ∈ ownAt ms r := by
      cases v <;> exact q
    exact VM.free h2 q'
theorem VM.from {Hs Hs' : Hp} (k : ∀ a, Hs a = none → Hs' a = none) : ∀ {ms : List Bool} {F H : Hp} {ds : List D} {vs : List V}, VM Hs ms F H ds vs → VM Hs' ms F H ds vs
  | [], _, _, [], _, h => h
  | [], _, _, _ :: _, _, h => h.elim
  | true :: ms, F, H, [], vs, h => h.elim
  | false :: ms, F, H, [], vs, h => h.elim
  | true :: ms, F, H, d :: ds, vs, ⟨b, o, r, e, h1, h2, h3, h4, h5, h6⟩ => ⟨b, o, r, e, h1, h2, h3, k _ h4, h5, VM.from k h6⟩
  | false :: ms, F, H, d :: ds, vs, ⟨v, r, e, h1, h2⟩ => ⟨v, r, e, h1, VM.from k h2⟩
def EvM (B : Bd) (EX : Str → Hp → Prop) (ms : List Bool) (t : TA) (f : M (List D)) : Prop :=
  ∀ (F H : Hp) (σ : L2.St) (ρ : Rho) (Q : List V → Hp → Prop), Mt B F H σ ρ → Post B EX F H σ ρ (fun _ F' H' _ ds vs => VM H ms F' H' ds vs) (f ρ) Q → t σ H Q
theorem evm_nil : EvM B EX [] tNil mNil := fun F H σ ρ Q m h => h [] F H m.refl rfl
theorem evm_cons {ms : List Bool} {ta : TE} {tr : TA} {fa : M D} {fr : M (List D)} (ha : Ev B EX VD ta fa) (hr : EvM B EX ms tr fr) : EvM B EX (false :: ms) (tCons ta tr) (mCons fa fr) := by
  intro F H σ ρ Q m h
  refine ha F H σ ρ _ m ?_
  unfold mCons bnd at h
  cases e : fa ρ with
  | ex c r => rw [e] at h; exact h
  | no => rw [e] at h; exact h
  | ok d r =>
    rw [e] at h
    simp only at h
    intro v F1 H1 x1 dv
    refine hr F1 H1 σ r _ x1.mt ?_
    cases e2 : fr r with
    | ex c r2 => rw [e2] at h; exact fun F2 H2 x2 => h F2 H2 (x1.trans x2)
    | no => rw [e2] at h; exact h
    | ok ds r2 =>
      rw [e2] at h
      exact fun vs F2 H2 x2 hv => h (v :: vs) F2 H2 (x1.trans x2) ⟨v, vs, rfl, dv.mono x2.old, VM.from (fun a z => x1.dom _ z) hv⟩
theorem evm_own {ms : List Bool} {ta : TE} {tr : TA} {fa : M D} {fr : M (List D)} (ha : EvF B EX ta fa) (hr : EvM B EX ms tr fr) : EvM B EX (true :: ms) (tCons ta tr) (mCons fa fr) := by
  intro F H σ ρ Q m h
  refine ha F H σ ρ _ m ?_
  unfold mCons bnd at h
  cases e : fa ρ with
  | ex c r => rw [e] at h; exact h
  | no => rw [e] at h; exact h
  | ok d r =>
    rw [e] at h
    simp only at h
    rintro v F1 H1 x1 ⟨a, o, rfl, h1, h2, h3, h4⟩
    refine hr F1 H1 σ r _ x1.mt ?_
    have na : ¬ Owns σ r a := fun q => m.noOwn h4 (x1.own _ q)
    cases e2 : fr r with
    | ex c r2 => rw [e2] at h; exact fun F2 H2 x2 => h F2 H2 (x1.trans x2)
    | no => rw [e2] at h; exact h
    | ok ds r2 =>
      rw [e2] at h
      intro vs F2 H2 x2 hv
      refine h (.ref a :: vs) F2 H2 (x1.trans x2) ⟨a, o, vs, rfl, x2.frm a o h1 na (tabs_at x1.mt.tabs (ld_tbl h1 h2.ld)), h2.mono x2.old, ?_, h4, fun q => ?_, VM.from (fun a z => x1.dom _ z) hv⟩
      · cases w : F2 a with
        | none => rfl
        | some u =>
          rcases x2.new a u w with z | z | z
          · rw [h3] at z; cases z
          · rw [h1] at z; cases z
          · exact absurd z na
      · have z := VM.free hv q
        rw [h1] at z; cases z
def parSet : List Bool → List Nat → List D → Rho → Option Rho
  | [], [], [], ρ => some ρ
  | m :: ms, i :: is, d :: ds, ρ => parSet ms is ds (ρ.set i (if m = true then .ow d else .fz d))
  | _, _, _, _ => none
def setAll : List Nat → List V → L2.St → L2.St
  | i :: is, v :: vs, σ => setAll is vs (σ.set i (some v))
  | _, _, σ => σ
theorem par_set {Hs : Hp} {F H : Hp} (hs : ∀ a, Hs a = none → B.H0 a = none) : ∀ {ms : List Bool} {is : List Nat} {ds : List D} {vs : List V} {σ : L2.St} {ρ ρ' : Rho}, Mt B F H σ ρ → VM Hs ms F H ds vs → (∀ a ∈ ownAt ms vs, ¬ Owns σ ρ a) → parSet ms is ds ρ = some ρ' → Mt B F H (setAll is vs σ) ρ' ∧ vs.length = is.length
  | [], [], [], vs, σ, ρ, ρ', m, h, _, e => by cases h; cases e; exact ⟨m, rfl⟩
  | [], _ :: _, [], vs, σ, ρ, ρ', m, h, _, e => by cases e
  | [], _, _ :: _, vs, σ, ρ, ρ', m, h, _, e => h.elim
  | true :: ms, _, [], vs, σ, ρ, ρ', m, h, _, e => h.elim
  | false :: ms, _, [], vs, σ, ρ, ρ', m, h, _, e => h.elim
  | true :: ms, [], _ :: _, vs, σ, ρ, ρ', m, h, _, e => by cases e
  | false :: ms, [], _ :: _, vs, σ, ρ, ρ', m, h, _, e => by cases e
  | true :: ms, i :: is, d :: ds, vs, σ, ρ, ρ', m, ⟨a, o, r, ev, h1, h2, h3, h4, h5, h6⟩, na, e => by
    subst ev
    have na1 : ¬ Owns σ ρ a := na a (List.mem_cons_self ..)
    have m1 := m.putOwn (i := i) h1 h2 h3 (hs _ h4) na1
    have na2 : ∀ b ∈ ownAt ms r, ¬ Owns (σ.set i (some (.ref a))) (ρ.set i (.ow d)) b := fun b hb ⟨j, c, q1, q2, q3⟩ => by
      rcases set_get q1 with ⟨_, z⟩ | ⟨ne, q1⟩
      · cases z; exact h5 hb
      · rcases set_get q2 with ⟨z, _⟩ | ⟨_, q2⟩
        · exact absurd z ne
        · exact na b (List.mem_cons_of_mem _ hb) ⟨j, c, q1, q2, q3⟩
    obtain ⟨p1, p2⟩ := par_set hs (is := is) m1 h6 na2 (show parSet ms is ds (ρ.set i (.ow d)) = some ρ' from e)
    exact ⟨p1, by simp [p2]⟩
  | false :: ms, i :: is, d :: ds, vs, σ, ρ, ρ', m, ⟨v, r, ev, h1, h2⟩, na, e => by
    subst ev
    have m1 := m.put (i := i) h1
    have na2 : ∀ b ∈ ownAt ms r, ¬ Owns (σ.set i (some v)) (ρ.set i (.fz d)) b := fun b hb ⟨j, c, q1, q2, q3⟩ => by
      rcases set_get q2 with ⟨_, z⟩ | ⟨ne, q2⟩
      · subst z; cases q3
      · rcases set_get q1 with ⟨z, _⟩ | ⟨_, q1⟩
        · exact absurd z ne
        · refine na b ?_ ⟨j, c, q1, q2, q3⟩
          cases v <;> exact hb
    obtain ⟨p1, p2⟩ := par_set hs (is := is) m1 h2 na2 (show parSet ms is ds (ρ.set i (.fz d)) = some ρ' from e)
    exact ⟨p1, by simp [p2]⟩
def sPar (ms : List Bool) (is : List Nat) (f : M (List D)) : S := sBind f fun ds => fun ρ => match parSet ms is ds ρ with
  | some r => .nx r
  | none => .no
theorem es_parG {ms : List Bool} {is : List Nat} {ta : TA} {f : M (List D)} {tb : List V → TS} (ha : EvM B EX ms ta f)
    (hb : ∀ (vs : List V) (E : Ends) (σ : L2.St) (F H : Hp), Same F H → vs.length = is.length → (∀ H', Ext F H F H' → E.nx (setAll is vs σ) H') → tb vs E σ H) :
    EvS B EX (fun E σ H => ta σ H fun vs H1 => tb vs E σ H1) (sPar ms is f) := by
  intro F H σ ρ E m h
  refine ha F H σ ρ _ m ?_
  unfold sPar sBind at h
  cases e : f ρ with
  | ex c r => rw [e] at h; exact fun F' H' x => h σ F' H' x.mt
  | no => rw [e] at h; exact h
  | ok ds r =>
    rw [e] at h
    intro vs F' H' x hv
    cases e2 : parSet ms is ds r with
    | none => simp only [e2] at h; exact h.elim
    | some r2 =>
      simp only [e2] at h
      obtain ⟨p1, p2⟩ := par_set (fun a z => m.dom _ z) (is := is) x.mt hv (fun a q z => m.noOwn (VM.free hv q) (x.own _ z)) e2
      refine hb vs E σ F' H' x.mt.sub p2 fun H2 e => h _ F' H2 (p1.grow e) x.old
theorem es_par2 {ms : List Bool} {i j : Nat} {ta : TA} {f : M (List D)} (ha : EvM B EX ms ta f) : EvS B EX (tPar i j ta) (sPar ms [i, j] f) := by
  refine es_parG (tb := fun vs E σ H => ∃ v w, vs = [v, w] ∧ E.nx ((σ.set i (some v)).set j (some w)) H) ha fun vs E σ F H s hl q => ?_
  match vs, hl with
  | [v, w], _ => exact ⟨v, w, rfl, q H (Ext.refl s)⟩
/-- .. by a tuple that is made and taken apart -/
def gNames : List Nat → TGs
  | [] => gNil
  | i :: is => gCons (gName i) (gNames is)
theorem gNames_run {H : Hp} : ∀ {is : List Nat} {vs : List V} {σ : L2.St} {Q : L2.St → Hp → Prop}, vs.length = is.length → Q (setAll is vs σ) H → gNames is vs σ H Q
  | [], [], σ, Q, _, h => ⟨rfl, h⟩
  | i :: is, v :: vs, σ, Q, hl, h => ⟨v, vs, rfl, gNames_run (is := is) (by simpa using hl) h⟩
  | [], _ :: _, _, _, hl, _ => by simp at hl
  | _ :: _, [], _, _, hl, _ => by simp at hl
theorem es_parT {K : PySem.W.Frag} {ms : List Bool} {is : List Nat} {n : Nat} {ta : TA} {f : M (List D)} (ha : EvM B EX ms ta f) (hn : is.length = n) (hn2 : n ≤ 100) : EvS B EX (tAsg (tTup ta) (gTup K n (gNames is))) (sPar ms is f) := by
  refine es_parG (tb := fun vs E σ H => vs.length ≤ sizeLine ∧ ∀ p, H p = none → gTup K n (gNames is) (V.ref p) σ (upd H p (.tup vs)) E.nx) ha fun vs E σ F H s hl q => ?_
  refine ⟨by rw [hl, hn]; exact fewer hn2, fun p hp => ⟨p, vs, rfl, SqT.of upd_same, by rw [hl]; exact hn, gNames_run hl (q _ (Ext.loose s hp _))⟩⟩
def putCell (ρ : Rho) (i : Nat) (d : D) : Option Rho := match ρ[i]? with
  | some (.ow _) => some (ρ.set i (.ow d))
  | some (.bw _) => some (ρ.set i (.bw d))
  | _ => none
theorem Mt.putCell {F H : Hp} {σ : L2.St} {ρ ρ' : Rho} (m : Mt B F H σ ρ) {i : Nat} {d : D} (h : putCell ρ i d = some ρ') : ∃ a o e, σ[i]? = some (some (.ref a)) ∧ cellD ρ[i]? = some e ∧ H a = some o ∧ Shal F e o ∧ ∀ o', Shal F d o' → Stp B F H σ ρ F (upd H a o') ρ' := by
  unfold Rn.putCell at h
  cases e : ρ[i]? with
  | none => rw [e] at h; cases h
  | some c =>
    rw [e] at h
    have hi : i < σ.length := by rw [← m.len]; exact (List.getElem?_eq_some_iff.mp e).1
    have hv := List.getElem?_eq_getElem hi
    have w := m.cell i _ c hv e
    cases c with
    | no => cases h
    | fz y => cases h
    | ow y =>
      cases h
      obtain ⟨a, o, e1, e2, e3, e4, e5⟩ := w
      rw [e1] at hv
      exact ⟨a, o, y, hv, rfl, e2, e3, fun o' sh => m.write hv e rfl sh (.inl ⟨y, rfl, rfl⟩)⟩
    | va y => cases h
    | bw y =>
      cases h
      obtain ⟨a, o, e1, e2, e3, e4, e5⟩ := w
      rw [e1] at hv
      exact ⟨a, o, y, hv, rfl, e2, e3, fun o' sh => m.write hv e rfl sh (.inr ⟨y, rfl, rfl⟩)⟩
/-- xs.append(e) -/
def appendD (ρ : Rho) (i : Nat) (d : D) : Option Rho := match cellD ρ[i]? with
  | some (.list ds) => if ds.length < big then putCell ρ i (.list (ds ++ [d])) else none
  | _ => none
def sAppend (i : Nat) (f : M D) : S := fun ρ => match cellD ρ[i]? with
  | some (.list _) => sBind f (fun d => fun ρ => match appendD ρ i d with
    | some r => .nx r
    | none => .no) ρ
  | _ => .no
theorem es_append {K : PySem.W.Frag} {i : Nat} {te : TE} {f : M D} (h : Ev B EX VD te f) : EvS B EX (tDrop (tBM K "list" rAppend (tVar i) (tCons te tNil))) (sAppend i f) := by
  intro F H σ ρ E m q
  unfold sAppend at q
  cases e0 : cellD ρ[i]? with
  | none => rw [e0] at q; exact q.elim
  | some d0 =>
    rw [e0] at q
    cases d0 with
    | list ds0 =>
      simp only at q
      have hv : ∃ v, σ[i]? = some (some v) ∧ TvOk σ F H ρ (.s i) v := by
        cases e1 : ρ[i]? with
        | none => rw [e1] at e0; cases e0
        | some c =>
          have hi : i < σ.length := by rw [← m.len]; exact (List.getElem?_eq_some_iff.mp e1).1
          have hv := List.getElem?_eq_getElem hi
          have w := m.cell i _ c hv e1
          have g : ∃ u, σ[i]? = some (some u) := by
            cases c with
            | no => rw [e1] at e0; cases e0
            | fz d => obtain ⟨u, e1, e2⟩ := w; exact ⟨u, by rw [hv, e1]⟩
            | ow d => obtain ⟨a, o, e1, _⟩ := w; exact ⟨.ref a, by rw [hv, e1]⟩
            | va d => rw [e1] at e0; cases e0
            | bw d => obtain ⟨a, o, e1, _⟩ := w; exact ⟨.ref a, by rw [hv, e1]⟩
          obtain ⟨u, hu⟩ := g
          exact ⟨u, hu, hu, _, e0⟩
      obtain ⟨v, hv1, hv2⟩ := hv
      obtain ⟨a0, vs0, rfl, ha0, _⟩ := (hv2.now m e0).lst m.sub
      refine ⟨.ref a0, hv1, .inl ⟨rfl, vs0, SqL.of ha0⟩, ?_⟩
      refine h F H σ ρ _ m ?_
      unfold sBind at q
      cases e : f ρ with
      | ex c r => rw [e] at q; exact fun F' H' x => q σ F' H' x.mt
      | no => rw [e] at q; exact q
      | ok d r =>
        rw [e] at q
        simp only at q
        intro y F1 H1 x1 dy
        unfold appendD at q
        cases e2 : cellD r[i]? with
        | none => simp only [e2] at q; exact q.elim
        | some d2 =>
          simp only [e2] at q
          cases d2 with
          | list ds =>
            simp only at q
            by_cases hl : ds.length < big
            · simp only [if_pos hl] at q
              cases e3 : putCell r i (.list (ds ++ [d])) with
              | none => simp only [e3] at q; exact q.elim
              | some r2 =>
                simp only [e3] at q
                obtain ⟨a, o, e', k1, k2, k3, k4, k5⟩ := x1.mt.putCell e3
                rw [hv1] at k1
                cases k1
                rw [e2] at k2
                cases k2
                obtain ⟨vs, rfl, l⟩ := k4.lst
                refine ⟨a0, vs, y, rfl, rfl, k3, ?_, ?_⟩
                · rw [← l.len]; exact Nat.lt_of_lt_of_le hl (big_le (Nat.le_refl _))
                · have st := k5 (.lst (vs ++ [y])) (l.app (DenL.one dy))
                  exact q σ F1 _ st.mt (x1.old.trans st.old)
            · simp only [if_neg hl] at q; exact q.elim
          | none => exact q.elim
          | bool _ => exact q.elim
          | int _ => exact q.elim
          | str _ => exact q.elim
          | tuple _ => exact q.elim
          | dict _ => exact q.elim
    | none => exact q.elim
    | bool _ => exact q.elim
    | int _ => exact q.elim
    | str _ => exact q.elim
    | tuple _ => exact q.elim
    | dict _ => exact q.elim
/-- xs.pop() -/
def mPop (i : Nat) : M D := fun ρ => match cellD ρ[i]? with
  | some (.list ds) => (match ds[ds.length - 1]? with
    | some d => (match putCell ρ i (.list ds.dropLast) with
      | some r => .ok d r
      | none => .no)
    | none => .no)
  | _ => .no
theorem ev_pop {K : PySem.W.Frag} {i : Nat} : Ev B EX VD (tBM0 K "list" rPop (tVar i)) (mPop i) := by
  intro F H σ ρ Q m q
  unfold mPop at q
  cases e2 : cellD ρ[i]? with
  | none => simp only [e2] at q; exact q.elim
  | some d2 =>
    simp only [e2] at q
    cases d2 with
    | list ds =>
      simp only at q
      cases e4 : ds[ds.length - 1]? with
      | none => simp only [e4] at q; exact q.elim
      | some d =>
        simp only [e4] at q
        cases e3 : putCell ρ i (.list ds.dropLast) with
        | none => simp only [e3] at q; exact q.elim
        | some r2 =>
          simp only [e3] at q
          obtain ⟨a, o, e', k1, k2, k3, k4, k5⟩ := m.putCell e3
          rw [e2] at k2
          cases k2
          obtain ⟨vs, rfl, l⟩ := k4.lst
          obtain ⟨v, h1, h2⟩ := l.get e4
          refine ⟨.ref a, k1, .inl ⟨rfl, vs, SqL.of k3⟩, a, vs, v, rfl, rfl, k3, by rw [← l.len]; exact h1, ?_⟩
          exact q v F _ (k5 (.lst vs.dropLast) l.dropLast) h2
    | none => exact q.elim
    | bool _ => exact q.elim
    | int _ => exact q.elim
    | str _ => exact q.elim
    | tuple _ => exact q.elim
    | dict _ => exact q.elim
/-- xs[k] = e -/
def setD (ρ : Rho) (i : Nat) (k : Int) (d : D) : Option Rho := match cellD ρ[i]? with
  | some (.list ds) => (match ixN ds.length k with
    | some j => putCell ρ i (.list (ds.set j d))
    | none => none)
  | _ => none
def sSetItem (i : Nat) (fe fk : M D) : S := sBind fe fun d => fun ρ => match cellD ρ[i]? with
  | some _ => sBind fk (fun kd => fun ρ => match asInt kd with
    | some k => (match setD ρ i k d with
      | some r => .nx r
      | none => .no)
    | none => .no) ρ
  | none => .no
theorem slot_at {F H : Hp} {σ : L2.St} {ρ : Rho} {i : Nat} {d0 : D} (m : Mt B F H σ ρ) (e0 : cellD ρ[i]? = some d0) : ∃ v, σ[i]? = some (some v) ∧ TvOk σ F H ρ (.s i) v := by
  cases e1 : ρ[i]? with
  | none => rw [e1] at e0; cases e0
  | some c =>
    have hi : i < σ.length := by rw [← m.len]; exact (List.getElem?_eq_some_iff.mp e1).1
    have hv := List.getElem?_eq_getElem hi
    have w := m.cell i _ c hv e1
    have g : ∃ u, σ[i]? = some (some u) := by
      cases c with
      | no => rw [e1] at e0; cases e0
      | fz d => obtain ⟨u, e1, e2⟩ := w; exact ⟨u, by rw [hv, e1]⟩
      | ow d => obtain ⟨a, o, e1, _⟩ := w; exact ⟨.ref a, by rw [hv, e1]⟩
      | va d => rw [e1] at e0; cases e0
      | bw d => obtain ⟨a, o, e1, _⟩ := w; exact ⟨.ref a, by rw [hv, e1]⟩
    obtain ⟨u, hu⟩ := g
    exact ⟨u, hu, hu, _, e0⟩
theorem es_setitem {i : Nat} {te tk : TE} {fe fk : M D} (he : Ev B EX VD te fe) (hk : Ev B EX VD tk fk) : EvS B EX (tAsg te (gSub (tVar i) tk rSetL)) (sSetItem i fe fk) := by
  refine es_bind (tb := fun x E σ H => gSub (tVar i) tk rSetL x σ H E.nx) he fun d y F H σ ρ E m dy q => ?_
  cases e0 : cellD ρ[i]? with
  | none => simp only [e0] at q; exact q.elim
  | some d0 =>
    simp only [e0] at q
    obtain ⟨v, hv1, hv2⟩ := slot_at m e0
    refine ⟨v, hv1, ?_⟩
    refine hk F H σ ρ _ m ?_
    unfold sBind at q
    cases e : fk ρ with
    | ex c r => rw [e] at q; exact fun F' H' x => q σ F' H' x.mt
    | no => rw [e] at q; exact q
    | ok kd r =>
      rw [e] at q
      simp only at q
      intro w F1 H1 x1 dw
      cases e5 : asInt kd with
      | none => simp only [e5] at q; exact q.elim
      | some k =>
        simp only [e5] at q
        have e6 := asInt_eq e5
        subst e6
        have ew : w = V.int k := dw
        subst ew
        unfold setD at q
        cases e2 : cellD r[i]? with
        | none => simp only [e2] at q; exact q.elim
        | some d2 =>
          simp only [e2] at q
          cases d2 with
          | list ds =>
            simp only at q
            cases e7 : ixN ds.length k with
            | none => simp only [e7] at q; exact q.elim
            | some j =>
              simp only [e7] at q
              cases e3 : putCell r i (.list (ds.set j d)) with
              | none => simp only [e3] at q; exact q.elim
              | some r2 =>
                simp only [e3] at q
                obtain ⟨a, o, e', k1, k2, k3, k4, k5⟩ := x1.mt.putCell e3
                rw [hv1] at k1
                cases k1
                rw [e2] at k2
                cases k2
                obtain ⟨vs, rfl, l⟩ := k4.lst
                refine ⟨a, vs, k, j, rfl, rfl, k3, by rw [← l.len]; exact e7, ?_⟩
                have st := k5 (.lst (vs.set j y)) (DenL.set (dy.mono x1.old) j l)
                exact q σ F1 _ st.mt (x1.old.trans st.old)
          | none => exact q.elim
          | bool _ => exact q.elim
          | int _ => exact q.elim
          | str _ => exact q.elim
          | tuple _ => exact q.elim
          | dict _ => exact q.elim
def forGo (h : D → Rho → Option Rho) (b : S) : List D → S
  | [], ρ => .nx ρ
  | d :: ds, ρ => match h d ρ with
    | none => .no
    | some ρ1 => match b ρ1 with
      | .nx ρ2 => forGo h b ds ρ2
      | .ct ρ2 => forGo h b ds ρ2
      | .bk ρ2 => .nx ρ2
      | o => o
def sFor (fi : M (List D)) (h : D → Rho → Option Rho) (b : S) : S := sBind fi fun items => forGo h b items
theorem es_for {wi : TI} {g : TG} {tb : TS} {fi : M (List D)} {h : D → Rho → Option Rho} {L : List Nat} {fb : S} (hi : Ev B EX VI wi fi) (hg : EvG B g h L) (hb : EvS B EX tb fb) : EvS B EX (tFor wi g tb) (sFor fi h fb) := by
  refine es_bind (tb := fun J D σ H1 => ∃ W : Nat → Nat → L2.St → Hp → Prop, (∃ m, W 0 m σ H1) ∧ ∀ i m σ H, W i m σ H →
    (J.stop i H ∧ D.nx σ H) ∨ (J.go i H ∧ ∃ N : L2.St → Hp → Prop, (∀ σ' H', N σ' H' → ∃ m', m' < m ∧ W (i + 1) m' σ' H') ∧ ∀ x H', J.yld i H x H' → g x σ H' fun σ2 H2 => tb { D with nx := N, ct := N, bk := D.nx } σ2 H2)) hi fun items J F H σ ρ E m ok q => ?_
  refine ⟨fun i k σc Hc => i + k = items.length ∧ ∃ Fc ρc, Same F Fc ∧ Mt B Fc Hc σc ρc ∧ PostS B EX F E (forGo h fb (items.drop i) ρc), ⟨items.length, by omega, F, ρ, Same.refl _, m, by rw [List.drop_zero]; exact q⟩, ?_⟩
  rintro i k σc Hc ⟨hik, Fc, ρc, sc, mc, q⟩
  have it := ok Fc Hc sc mc.sub
  by_cases hi : i < items.length
  · refine .inr ⟨it.2.1 i hi, fun σc Hc => (i + 1) + (k - 1) = items.length ∧ ∃ Fc ρc, Same F Fc ∧ Mt B Fc Hc σc ρc ∧ PostS B EX F E (forGo h fb (items.drop (i + 1)) ρc), fun σ' H' hN => ⟨k - 1, by omega, hN⟩, fun x H2 hy => ?_⟩
    obtain ⟨d, F2, ed, ex, dx⟩ := it.2.2 i x H2 hi hy
    have hdrop : items.drop i = d :: items.drop (i + 1) := by
      rw [List.drop_eq_getElem_cons hi]
      rw [List.getElem?_eq_getElem hi] at ed
      rw [Option.some.inj ed]
    rw [hdrop] at q
    unfold forGo at q
    cases e1 : h d ρc with
    | none => rw [e1] at q; exact q.elim
    | some ρ1 =>
      rw [e1] at q
      simp only at q
      refine hg.run F2 H2 σc ρc x d ρ1 _ (mc.grow ex) dx e1 fun σ1 m3 up => ?_
      refine hb F2 H2 σ1 ρ1 _ m3 ?_
      have s2 : Same F F2 := sc.trans ex.old
      cases e2 : fb ρ1 with
      | nx r => rw [e2] at q; exact fun σ' F' H' m' s => ⟨by omega, F', r, s2.trans s, m', q⟩
      | ct r => rw [e2] at q; exact fun σ' F' H' m' s => ⟨by omega, F', r, s2.trans s, m', q⟩
      | bk r => rw [e2] at q; exact fun σ' F' H' m' s => q σ' F' H' m' (s2.trans s)
      | rt d r => rw [e2] at q; exact fun v σ' F' H' m' s => q v σ' F' H' m' (s2.trans s)
      | rf d r => rw [e2] at q; exact fun v σ' F' H' m' s => q v σ' F' H' m' (s2.trans s)
      | ex c r => rw [e2] at q; exact q
      | no => rw [e2] at q; exact q
  · have hdrop : items.drop i = [] := List.drop_eq_nil_of_le (by omega)
    rw [hdrop] at q
    exact .inl ⟨it.1 i (by omega), q σc Fc Hc mc sc⟩
def whileGo (c : M Bool) (b : S) : Nat → S
  | 0, _ => .no
  | n + 1, ρ => match c ρ with
    | .ok true ρ1 => (match b ρ1 with
      | .nx ρ2 => whileGo c b n ρ2
      | .ct ρ2 => whileGo c b n ρ2
      | .bk ρ2 => .nx ρ2
      | o => o)
    | .ok false ρ1 => .nx ρ1
    | .ex x r => .ex x r
    | .no => .no
theorem es_while {c : TT} {tb : TS} {fc : M Bool} {fb : S} {n : Nat} (hc : Ev B EX VB c fc) (hb : EvS B EX tb fb) : EvS B EX (tWhile c tb) (whileGo fc fb n) := by
  intro F H σ ρ E m q
  refine ⟨fun k σc Hc => ∃ Fc ρc, Same F Fc ∧ Mt B Fc Hc σc ρc ∧ PostS B EX F E (whileGo fc fb k ρc), ⟨n, F, ρ, Same.refl _, m, q⟩, ?_⟩
  rintro k σc Hc ⟨Fc, ρc, sc, mc, q⟩
  refine hc Fc Hc σc ρc _ mc ?_
  cases k with
  | zero => exact q.elim
  | succ k =>
    unfold whileGo at q
    cases e : fc ρc with
    | no => rw [e] at q; exact q.elim
    | ex x r => rw [e] at q; exact fun F' H' x => q σc F' H' x.mt
    | ok b r =>
      rw [e] at q
      intro b' F1 H1 x1 eb
      subst eb
      cases b' with
      | false => simp only [Bool.false_eq_true, if_false]; exact q σc F1 H1 x1.mt (sc.trans x1.old)
      | true =>
        simp only [if_true]
        simp only at q
        refine ⟨fun σ' H' => ∃ Fc ρc, Same F Fc ∧ Mt B Fc H' σ' ρc ∧ PostS B EX F E (whileGo fc fb k ρc), fun σ' H' hN => ⟨k, Nat.lt_succ_self _, hN⟩, ?_⟩
        refine hb F1 H1 σc r _ x1.mt ?_
        have s2 : Same F F1 := sc.trans x1.old
        cases e2 : fb r with
        | nx r => rw [e2] at q; exact fun σ' F' H' m' s => ⟨F', r, s2.trans s, m', q⟩
        | ct r => rw [e2] at q; exact fun σ' F' H' m' s => ⟨F', r, s2.trans s, m', q⟩
        | bk r => rw [e2] at q; exact fun σ' F' H' m' s => q σ' F' H' m' (s2.trans s)
        | rt d r => rw [e2] at q; exact fun v σ' F' H' m' s => q v σ' F' H' m' (s2.trans s)
        | rf d r => rw [e2] at q; exact fun v σ' F' H' m' s => q v σ' F' H' m' (s2.trans s)
        | ex c r => rw [e2] at q; exact q
        | no => rw [e2] at q; exact q
def sRaise (c : Str) : S := fun ρ => .ex c ρ
theorem es_raise {C : Addr} {c : Str} {E : XK} (hE : ∀ H, EX c H → E (.ref C) none H) : EvS B EX (fun _ σ H => (fun (_ : L2.St) H (Q : XK) => Q (.ref C) none H) σ H fun cls d H' => (fun cls d (_ : L2.St) H => E cls d H) cls d σ H') (sRaise c) := fun F H σ ρ E' m h => hE H (h σ F H m)
end
inductive RR where
  | ok (d : D)
  | fr (d : D)
  | ex (c : Str)
  | no
def finO : Out → RR
  | .nx _ => .ok .none
  | .rt d _ => .ok d
  | .rf d _ => .fr d
  | .ex c _ => .ex c
  | _ => .no
def startR (n : Nat) (ds : List D) : Rho := ds.map Cell.fz ++ List.replicate (n - ds.length) Cell.no
def callD (np n : Nat) (body : S) (ds : List D) : RR := if ds.length = np then finO (body (startR n ds)) else .no
def spV (C : Str → Addr) (g : List D → RR) : Sp := fun vs H Q E => ∃ (F : Hp) (ds : List D), Same F H ∧ DenL F ds vs ∧ (match g ds with
  | .ok d => ∀ v F' H', Ext F H F' H' → Den F' d v → Q v H'
  | .fr d => ∀ v F' H', Ext F H F' H' → VFr H F' H' d v → Q v H'
  | .ex c => ∀ H', Same H H' → E (.ref (C c)) none H'
  | .no => False)
def mCall (g : List D → RR) (fa : M (List D)) : M D := bnd fa fun ds => fun ρ => match g ds with
  | .ok d => .ok d ρ
  | .fr d => .ok d ρ
  | .ex c => .ex c ρ
  | .no => .no
def mCall0 (g : List D → RR) (fa : M (List D)) : M D := bnd fa fun ds => fun ρ => match g ds with
  | .ok d => .ok d ρ
  | .fr d => .ok d ρ
  | _ => .no
theorem Ext.frz {F H F' H' : Hp} {d : D} {v : V} (x : Ext F H F' H') (f : VFr H F' H' d v) : ∃ F2, Ext F H F2 H' ∧ Den F2 d v := by
  obtain ⟨a, o, rfl, h1, h2, h3, h4⟩ := f
  refine ⟨upd F' a o, ⟨x.same, x.old.trans (same_upd h3), fun b u e => ?_, fun b u e => ?_⟩, (h2.mono (same_upd h3)).den upd_same⟩
  · by_cases hb : b = a
    · subst hb; rw [upd_same] at e; cases e; exact h1
    · rw [upd_ne hb] at e; exact x.sub _ _ e
  · by_cases hb : b = a
    · subst hb; exact .inr h4
    · rw [upd_ne hb] at e; exact x.new _ _ e
section
variable {B : Bd} {EX : Str → Hp → Prop}
theorem ev_call {C : Str → Addr} {g : List D → RR} {E : XK} {ta : TA} {fa : M (List D)} (hE : ∀ c H, EX c H → E (.ref (C c)) none H) (ha : Ev B EX VL ta fa) : Ev B EX VD (tCall (spV C g) [] E ta) (mCall g fa) := by
  refine Ev.bind (tb := fun vs σ H Q => spV C g (vs ++ []) H Q E) ha fun ds vs F H σ ρ Q m p q => ?_
  rw [List.append_nil]
  refine ⟨F, ds, m.sub, p, ?_⟩
  cases e : g ds with
  | no => simp only [e] at q; exact q
  | ok d => simp only [e] at q; exact fun v F' H' x dv => q v F' H' (m.ext x) dv
  | fr d =>
    simp only [e] at q
    intro v F' H' x dv
    obtain ⟨F2, x2, d2⟩ := x.frz dv
    exact q v F2 H' (m.ext x2) d2
  | ex c => simp only [e] at q; exact fun H' s => hE c H' (q F H' (m.ext ⟨s, Same.refl _, m.sub.trans s, fun _ _ z => .inl z⟩))
theorem ev_call0 {C : Str → Addr} {g : List D → RR} {ta : TA} {fa : M (List D)} (ha : Ev B EX VL ta fa) : Ev B EX VD (tCall (spV C g) [] E0 ta) (mCall0 g fa) := by
  refine Ev.bind (tb := fun vs σ H Q => spV C g (vs ++ []) H Q E0) ha fun ds vs F H σ ρ Q m p q => ?_
  rw [List.append_nil]
  refine ⟨F, ds, m.sub, p, ?_⟩
  cases e : g ds with
  | no => simp only [e] at q; exact q
  | ok d => simp only [e] at q; exact fun v F' H' x dv => q v F' H' (m.ext x) dv
  | fr d =>
    simp only [e] at q
    intro v F' H' x dv
    obtain ⟨F2, x2, d2⟩ := x.frz dv
    exact q v F2 H' (m.ext x2) d2
  | ex c => simp only [e] at q; exact q.elim
end
def mCallF0 (g : List D → RR) (fa : M (List D)) : M D := bnd fa fun ds => fun ρ => match g ds with
  | .fr d => .ok d ρ
  | _ => .no
theorem start_mt {F H : Hp} {ds : List D} {vs : List V} {N : List Str} (s : Same F H) (l : DenL F ds vs) : Mt ⟨H, F, [], [], []⟩ F H (L2.start N vs) (startR N.length ds) := by
  have hl := l.len
  refine ⟨s, Same.refl _, fun _ _ e => .inl e, fun _ _ e _ _ => e, fun _ e => e, ?_, fun j v c h1 h2 => ?_, fun j k a c c' h1 h2 h3 h4 h5 h6 => ?_, fun _ z => (nomatch z), fun _ z => (nomatch z)⟩
  · simp [startR, L2.start, hl]
  · unfold startR at h2
    unfold L2.start at h1
    rw [List.getElem?_append] at h1 h2
    rw [List.length_map] at h1 h2
    by_cases hj : j < ds.length
    · rw [if_pos hj] at h2
      rw [if_pos (by rw [← hl]; exact hj)] at h1
      rw [List.getElem?_map] at h1 h2
      cases e1 : ds[j]? with
      | none => rw [e1] at h2; cases h2
      | some d =>
        rw [e1] at h2
        obtain ⟨u, e2, e3⟩ := l.get e1
        rw [e2] at h1
        cases h1; cases h2
        exact ⟨u, rfl, e3⟩
    · rw [if_neg hj] at h2
      have : c = .no := by
        have := List.mem_of_getElem? h2
        exact (List.mem_replicate.mp this).2
      subst this
      trivial
  · have : ∀ (j : Nat) (c : Cell), (startR N.length ds)[j]? = some c → c.own = true → False := fun j c e o => by
      have q := List.mem_of_getElem? e
      unfold startR at q
      rcases List.mem_append.mp q with q | q
      · obtain ⟨d, _, rfl⟩ := List.mem_map.mp q
        cases o
      · rw [(List.mem_replicate.mp q).2] at o; cases o
    exact (this j c h3 h5).elim
theorem spV_len {C : Str → Addr} {np n : Nat} {body : S} {vs : List V} {H : Hp} {Q : VK} {E : XK} (h : spV C (callD np n body) vs H Q E) : vs.length = np := by
  obtain ⟨F, ds, s, l, q⟩ := h
  unfold callD at q
  by_cases e : ds.length = np
  · rw [← l.len]; exact e
  · simp only [if_neg e] at q
/-- a def's body keeps the promise -/
theorem body_ok {C : Str → Addr} {np : Nat} {body : S} {N : List Str} {vs : List V} {H : Hp} {Q : VK} {E : XK} {t : TS} (h : spV C (callD np N.length body) vs H Q E)
    (ev : ∀ F, EvS ⟨H, F, [], [], []⟩ (fun c H' => E (.ref (C c)) none H') t body) : t { nx := fun _ H' => Q .non H', rt := Q } (L2.start N vs) H := by
  obtain ⟨F, ds, s, l, q⟩ := h
  unfold callD at q
  by_cases e : ds.length = np
  · simp only [if_pos e] at q
    refine ev F F H (L2.start N vs) (startR N.length ds) _ (start_mt s l) ?_
    have ext : ∀ {F' H' : Hp} {σ' : L2.St} {ρ' : Rho}, Mt ⟨H, F, [], [], []⟩ F' H' σ' ρ' → Ext F H F' H' := fun m => ⟨fun a o z => m.frm a o z (by simp) (fun _ z => (nomatch z)), m.old, m.sub, m.new⟩
    cases e2 : body (startR N.length ds) with
    | nx r => rw [e2] at q; exact fun σ' F' H' m _ => q .non F' H' (ext m) rfl
    | rt d r => rw [e2] at q; exact fun v σ' F' H' m _ dv => q v F' H' (ext m) dv
    | rf d r => rw [e2] at q; exact fun v σ' F' H' m _ dv => q v F' H' (ext m) dv
    | bk r => rw [e2] at q; exact q.elim
    | ct r => rw [e2] at q; exact q.elim
    | ex c r => rw [e2] at q; exact fun σ' F' H' m => q H' (ext m).same
    | no => rw [e2] at q; exact q.elim
  · simp only [if_neg e] at q
end Rn
end
section
set_option Elab.async false
set_option linter.all false
set_option autoImplicit false
set_option maxRecDepth 100000
namespace Rn
open PySem PySem.Spec L2
structure JE (X : Cx) (B : Bd) (EX : Str → Hp → Prop) (e : Expr) (t : TE) (f : M D) : Prop where
  p : PE X e t
  v : Ev B EX VD t f
structure JR (X : Cx) (B : Bd) (EX : Str → Hp → Prop) (e : Expr) (t : TE) (f : M TV) : Prop where
  p : PE X e t
  v : Ev B EX VT t f
structure JF (X : Cx) (B : Bd) (EX : Str → Hp → Prop) (e : Expr) (t : TE) (f : M D) : Prop where
  p : PE X e t
  v : EvF B EX t f
structure JB (X : Cx) (B : Bd) (EX : Str → Hp → Prop) (e : Expr) (t : TT) (f : M Bool) : Prop where
  p : PT X e t
  v : Ev B EX VB t f
structure JW (X : Cx) (B : Bd) (EX : Str → Hp → Prop) (e : Expr) (t : TT) (f : M Bool) : Prop where
  p : PW X e t
  v : Ev B EX VB t f
structure JBs (X : Cx) (B : Bd) (EX : Str → Hp → Prop) (e : List Expr) (t : TT) (f : M Bool) : Prop where
  p : PTs X e t
  v : Ev B EX VB t f
structure JA (X : Cx) (B : Bd) (EX : Str → Hp → Prop) (es : List Expr) (t : TA) (f : M (List D)) : Prop where
  p : PA X es t
  v : Ev B EX VL t f
structure JAR (X : Cx) (B : Bd) (EX : Str → Hp → Prop) (es : List Expr) (t : TA) (f : M (List TV)) : Prop where
  p : PA X es t
  v : Ev B EX VTs t f
structure JAM (X : Cx) (B : Bd) (EX : Str → Hp → Prop) (ms : List Bool) (es : List Expr) (t : TA) (f : M (List D)) : Prop where
  p : PA X es t
  v : EvM B EX ms t f
structure JO (X : Cx) (B : Bd) (EX : Str → Hp → Prop) (e : Option Expr) (t : TO) (f : M (Option Int)) : Prop where
  p : PO X e t
  v : Ev B EX VO t f
structure JI (X : Cx) (B : Bd) (EX : Str → Hp → Prop) (tg it : Expr) (t : TI) (f : M (List D)) : Prop where
  p : PI X tg it t
  v : Ev B EX VI t f
structure JG (X : Cx) (B : Bd) (tg : Expr) (g : TG) (h : D → Rho → Option Rho) (L : List Nat) : Prop where
  p : PG X tg g
  v : EvG B g h L
structure JGs (X : Cx) (B : Bd) (tg : List Expr) (g : TGs) (h : List D → Rho → Option Rho) (L : List Nat) : Prop where
  p : PGs X tg g
  v : EvGs B g h L
structure JS (X : Cx) (B : Bd) (EX : Str → Hp → Prop) (s : Stmt) (t : TS) (f : S) : Prop where
  p : PS X s t
  v : EvS B EX t f
structure JSs (X : Cx) (B : Bd) (EX : Str → Hp → Prop) (s : List Stmt) (t : TS) (f : S) : Prop where
  p : PSs X s t
  v : EvS B EX t f
section
variable {X : Cx} {B : Bd} {EX : Str → Hp → Prop} {a b c e : Expr} {es : List Expr} {ta tb tc te : TE} {fa fb fc fe : M D} {ra rb rc : M TV} {pos : Pos}
theorem je_var (i : Nat) {x : Str} (hN : X.N[i]? = some x := by rfl) (hv : Vis X.env.scope x := by first | exact Or.inl rfl | exact Or.inr (Or.inl rfl) | exact Or.inr (Or.inr rfl)) (hd : (x == ("__debug__" : Str)) = false := by decide)
    (hcd : (x == ("__classdict__" : Str)) = false := by decide) : JE X B EX (.Name x pos) (tVar i) (mVar i) := ⟨pv i hN hv hd hcd, ev_var⟩
theorem jr_var (i : Nat) {x : Str} (hN : X.N[i]? = some x := by rfl) (hv : Vis X.env.scope x := by first | exact Or.inl rfl | exact Or.inr (Or.inl rfl) | exact Or.inr (Or.inr rfl)) (hd : (x == ("__debug__" : Str)) = false := by decide)
    (hcd : (x == ("__classdict__" : Str)) = false := by decide) : JR X B EX (.Name x pos) (tVar i) (mVarT i) := ⟨pv i hN hv hd hcd, ev_varT⟩
theorem jr_of (h : JE X B EX e te fe) : JR X B EX e te (mT fe) := ⟨h.p, ev_T h.v⟩
theorem je_of (h : JF X B EX e te fe) : JE X B EX e te fe := ⟨h.p, ev_ofF h.v⟩
theorem je_int {i j} : JE X B EX (.Constant (.int i) j pos) (tC (.int i)) (ret (.int i)) := ⟨pe_int, ev_const fun _ => rfl⟩
theorem je_bl {i j} : JE X B EX (.Constant (.bool i) j pos) (tC (.bl i)) (ret (.bool i)) := ⟨pe_bl, ev_const fun _ => rfl⟩
theorem je_non {j} : JE X B EX (.Constant .none j pos) (tC .non) (ret .none) := ⟨pe_non, ev_const fun _ => rfl⟩
theorem je_str {x j} : JE X B EX (.Constant (.str x) j pos) (tC (.str x)) (ret (.str x)) := ⟨pe_str, ev_const fun _ => rfl⟩
theorem je_gint {x : Str} {i : Int} {t : Tok} (hm : X.mg x = some (.int i t)) (hg : Gl X x := by rfl) (hd : (x == ("__debug__" : Str)) = false := by decide) : JE X B EX (.Name x pos) (tC (.int i)) (ret (.int i)) := ⟨pe_glob hg hm ⟨t, rfl⟩ hd, ev_const fun _ => rfl⟩
theorem je_op {op : Operator} {r : R2} {f : D → D → Option D} (ho : OpR X (binaryOp op) r) (hk : OpOk r f) (ha : JR X B EX a ta ra) (hb : JR X B EX b tb rb) : JE X B EX (.BinOp a op b pos) (tOp r ta tb) (mOp f ra rb) := ⟨pe_op ho ha.p hb.p, ev_op hk ha.v hb.v⟩
theorem jf_op {op : Operator} {r : R2} {f : D → D → Option D} (ho : OpR X (binaryOp op) r) (hk : OpOkF r f) (ha : JR X B EX a ta ra) (hb : JR X B EX b tb rb) : JF X B EX (.BinOp a op b pos) (tOp r ta tb) (mOp f ra rb) := ⟨pe_op ho ha.p hb.p, evf_op hk ha.v hb.v⟩
theorem je_add {K : PySem.W.Frag} (ha : JR X B EX a ta ra) (hb : JR X B EX b tb rb) (hK : X.K = K := by rfl) : JE X B EX (.BinOp a .Add b pos) (tOp (rAddA K) ta tb) (mOp addF ra rb) := by
  subst hK
  exact je_op op_addA ok_add ha hb
theorem je_sub (ha : JR X B EX a ta ra) (hb : JR X B EX b tb rb) : JE X B EX (.BinOp a .Sub b pos) (tOp (rI0 fun i j => .int (i - j)) ta tb) (mOp subF ra rb) := je_op op_sub ok_sub ha hb
theorem je_mul {K : PySem.W.Frag} (ha : JR X B EX a ta ra) (hb : JR X B EX b tb rb) (hK : X.K = K := by rfl) : JE X B EX (.BinOp a .Mult b pos) (tOp (rMulA K) ta tb) (mOp mulF ra rb) := by
  subst hK
  exact je_op op_mulA ok_mul ha hb
theorem je_fdiv (ha : JR X B EX a ta ra) (hb : JR X B EX b tb rb) : JE X B EX (.BinOp a .FloorDiv b pos) (tOp (rI CDivW fun i j => .int (i / j)) ta tb) (mOp fdivF ra rb) := je_op op_fdivW ok_fdiv ha hb
theorem je_mod (ha : JR X B EX a ta ra) (hb : JR X B EX b tb rb) : JE X B EX (.BinOp a .Mod b pos) (tOp (rI (fun _ j => 0 < j) fun i j => .int (i % j)) ta tb) (mOp modF ra rb) := je_op op_mod ok_mod ha hb
theorem je_pow (ha : JR X B EX a ta ra) (hb : JR X B EX b tb rb) : JE X B EX (.BinOp a .Pow b pos) (tOp (rI CPow fun i j => .int (i ^ j.toNat)) ta tb) (mOp powF ra rb) := je_op op_pow ok_pow ha hb
theorem jf_rep (ha : JR X B EX a ta ra) (hb : JR X B EX b tb rb) : JF X B EX (.BinOp a .Mult b pos) (tOp rRep ta tb) (mOp repF ra rb) := jf_op op_rep okF_rep ha hb
theorem je_cmp {op : CmpOp} {r : R2} {f : D → D → Option D} (ho : OpR X (compareOp op) r) (hk : OpOk r f) (ha : JR X B EX a ta ra) (hb : JR X B EX b tb rb) (hm : behindInMarks op b = false) : JE X B EX (.Compare a [op] [b] pos) (tOp r ta tb) (mOp f ra rb) := ⟨pe_cmpR ho ha.p hb.p hm, ev_op hk ha.v hb.v⟩
theorem je_lt (ha : JR X B EX a ta ra) (hb : JR X B EX b tb rb) : JE X B EX (.Compare a [.Lt] [b] pos) (tOp (rI0 fun i j => .bl (decide (i < j))) ta tb) (mOp ltF ra rb) := je_cmp op_lt ok_cmpI ha hb (nomark _)
theorem je_le (ha : JR X B EX a ta ra) (hb : JR X B EX b tb rb) : JE X B EX (.Compare a [.LtE] [b] pos) (tOp (rI0 fun i j => .bl (decide (i ≤ j))) ta tb) (mOp leF ra rb) := je_cmp op_le ok_cmpI ha hb (nomark _)
theorem je_ge (ha : JR X B EX a ta ra) (hb : JR X B EX b tb rb) : JE X B EX (.Compare a [.GtE] [b] pos) (tOp (rI0 fun i j => .bl (decide (j ≤ i))) ta tb) (mOp geF ra rb) := je_cmp op_ge ok_cmpI ha hb (nomark _)
theorem je_eq {K : PySem.W.Frag} (hu : X.A.units + 64 < cLine) (ha : JR X B EX a ta ra) (hb : JR X B EX b tb rb) (hK : X.K = K := by rfl) : JE X B EX (.Compare a [.Eq] [b] pos) (tOp (rEqP K) ta tb) (mOp eqF ra rb) := by
  subst hK
  exact je_cmp (op_eqP hu) ok_eq ha hb (nomark _)
theorem je_ne {K : PySem.W.Frag} (hu : X.A.units + 64 < cLine) (ha : JR X B EX a ta ra) (hb : JR X B EX b tb rb) (hK : X.K = K := by rfl) : JE X B EX (.Compare a [.NotEq] [b] pos) (tOp (rNeP K) ta tb) (mOp neF ra rb) := by
  subst hK
  exact je_cmp (op_neP hu) ok_ne ha hb (nomark _)
theorem je_is (ha : JR X B EX a ta ra) (hb : JR X B EX b tb rb) : JE X B EX (.Compare a [.Is] [b] pos) (tOp (fun x y H Q => y = .non ∧ Q (.bl (decide (x = .non))) H) ta tb) (mOp (isF false) ra rb) := je_cmp op_isN ok_is ha hb (nomark _)
theorem je_isnot (ha : JR X B EX a ta ra) (hb : JR X B EX b tb rb) : JE X B EX (.Compare a [.IsNot] [b] pos) (tOp (fun x y H Q => y = .non ∧ Q (.bl (!decide (x = .non))) H) ta tb) (mOp (isF true) ra rb) := je_cmp op_notN ok_isnot ha hb (nomark _)
theorem je_in {K : PySem.W.Frag} (hu : X.A.units + 64 < cLine) (ha : JR X B EX a ta ra) (hb : JR X B EX b tb rb) (hm : behindInMarks .In b = false := by with_unfolding_all rfl) (hK : X.K = K := by rfl) : JE X B EX (.Compare a [.In] [b] pos) (tOp (rInA K false) ta tb) (mOp (inAF false) ra rb) := by
  subst hK
  exact je_cmp (op_inA hu) ok_inA ha hb hm
theorem je_chain {op op' : CmpOp} {r r' : R2} {f g : D → D → Option D} (ho : OpR X (compareOp op) r) (ho' : OpR X (compareOp op') r') (hk : OpOk r f) (hk' : OpOk r' g) (ha : JR X B EX a ta ra) (hb : JR X B EX b tb rb) (hc : JR X B EX c tc rc)
    (hm : lastMarks [op, op'] [b, c] = false := by with_unfolding_all rfl) : JE X B EX (.Compare a [op, op'] [b, c] pos) (tChain r r' ta tb tc) (mChain f g ra rb rc) := ⟨pe_chain ho ho' ha.p hb.p hc.p hm, ev_chain hk hk' ha.v hb.v hc.v⟩
variable {tA tB' tC' : TT} {gA gB gC : M Bool} {rest : List Expr}
theorem jb_val (h : JE X B EX e te fe) (he : ∀ whole, isTrue e X.env whole = (do let v ← whole; standAt e.pos; holding [v] (truthy v)) := by intro _; rfl) : JB X B EX e (tTest te) (mTst fe) := ⟨pt_val h.p he, ev_tst h.v⟩
theorem jb_cmp {op : CmpOp} {r : R2} {f : D → D → Option D} (ho : OpR X (compareOp op) r) (hk : OpOk r f) (ha : JR X B EX a ta ra) (hb : JR X B EX b tb rb) (hm : behindInMarks op b = false) : JB X B EX (.Compare a [op] [b] pos) (tTest (tOp r ta tb)) (mTst (mOp f ra rb)) := ⟨pt_cmpR ho ha.p hb.p hm, ev_tst (ev_op hk ha.v hb.v)⟩
theorem jb_lt (ha : JR X B EX a ta ra) (hb : JR X B EX b tb rb) : JB X B EX (.Compare a [.Lt] [b] pos) (tTest (tOp (rI0 fun i j => .bl (decide (i < j))) ta tb)) (mTst (mOp ltF ra rb)) := jb_cmp op_lt ok_cmpI ha hb (nomark _)
theorem jb_le (ha : JR X B EX a ta ra) (hb : JR X B EX b tb rb) : JB X B EX (.Compare a [.LtE] [b] pos) (tTest (tOp (rI0 fun i j => .bl (decide (i ≤ j))) ta tb)) (mTst (mOp leF ra rb)) := jb_cmp op_le ok_cmpI ha hb (nomark _)
theorem jb_gt (ha : JR X B EX a ta ra) (hb : JR X B EX b tb rb) : JB X B EX (.Compare a [.Gt] [b] pos) (tTest (tOp (rI0 fun i j => .bl (decide (j < i))) ta tb)) (mTst (mOp gtF ra rb)) := jb_cmp op_gt ok_cmpI ha hb (nomark _)
theorem jb_ge (ha : JR X B EX a ta ra) (hb : JR X B EX b tb rb) : JB X B EX (.Compare a [.GtE] [b] pos) (tTest (tOp (rI0 fun i j => .bl (decide (j ≤ i))) ta tb)) (mTst (mOp geF ra rb)) := jb_cmp op_ge ok_cmpI ha hb (nomark _)
theorem jb_eq {K : PySem.W.Frag} (hu : X.A.units + 64 < cLine) (ha : JR X B EX a ta ra) (hb : JR X B EX b tb rb) (hK : X.K = K := by rfl) : JB X B EX (.Compare a [.Eq] [b] pos) (tTest (tOp (rEqP K) ta tb)) (mTst (mOp eqF ra rb)) := by
  subst hK
  exact jb_cmp (op_eqP hu) ok_eq ha hb (nomark _)
theorem jb_ne {K : PySem.W.Frag} (hu : X.A.units + 64 < cLine) (ha : JR X B EX a ta ra) (hb : JR X B EX b tb rb) (hK : X.K = K := by rfl) : JB X B EX (.Compare a [.NotEq] [b] pos) (tTest (tOp (rNeP K) ta tb)) (mTst (mOp neF ra rb)) := by
  subst hK
  exact jb_cmp (op_neP hu) ok_ne ha hb (nomark _)
theorem jb_is (ha : JR X B EX a ta ra) (hb : JR X B EX b tb rb) : JB X B EX (.Compare a [.Is] [b] pos) (tTest (tOp (fun x y H Q => y = .non ∧ Q (.bl (decide (x = .non))) H) ta tb)) (mTst (mOp (isF false) ra rb)) := jb_cmp op_isN ok_is ha hb (nomark _)
theorem jb_isnot (ha : JR X B EX a ta ra) (hb : JR X B EX b tb rb) : JB X B EX (.Compare a [.IsNot] [b] pos) (tTest (tOp (fun x y H Q => y = .non ∧ Q (.bl (!decide (x = .non))) H) ta tb)) (mTst (mOp (isF true) ra rb)) := jb_cmp op_notN ok_isnot ha hb (nomark _)
theorem jb_notin {K : PySem.W.Frag} (hu : X.A.units + 64 < cLine) (ha : JR X B EX a ta ra) (hb : JR X B EX b tb rb) (hm : behindInMarks .NotIn b = false := by with_unfolding_all rfl) (hK : X.K = K := by rfl) : JB X B EX (.Compare a [.NotIn] [b] pos) (tTest (tOp (rInA K true) ta tb)) (mTst (mOp (inAF true) ra rb)) := by
  subst hK
  exact jb_cmp (op_notInA hu) ok_inA ha hb hm
theorem jb_chain {op op' : CmpOp} {r r' : R2} {f g : D → D → Option D} (ho : OpR X (compareOp op) r) (ho' : OpR X (compareOp op') r') (hk : OpOk r f) (hk' : OpOk r' g) (ha : JR X B EX a ta ra) (hb : JR X B EX b tb rb) (hc : JR X B EX c tc rc) (hm : lastMarks [op, op'] [b, c] = false := by with_unfolding_all rfl) : JB X B EX (.Compare a [op, op'] [b, c] pos) (tTest (tChain r r' ta tb tc)) (mTst (mChain f g ra rb rc)) := ⟨pt_chain ho ho' ha.p hb.p hc.p hm, ev_tst (ev_chain hk hk' ha.v hb.v hc.v)⟩
theorem jb_not (h : JB X B EX e tA gA) : JB X B EX (.UnaryOp .Not e pos) (tNot tA) (mNot gA) := ⟨pt_not h.p, ev_not h.v⟩
theorem jb_w (h : JW X B EX e tA gA) : JB X B EX e tA gA := ⟨h.p.pt, h.v⟩
theorem jw_and1 (h : JB X B EX a tA gA) : JW X B EX (.BoolOp .And [a] pos) tA gA := ⟨pw_and1 h.p, h.v⟩
theorem jw_or1 (h : JB X B EX a tA gA) : JW X B EX (.BoolOp .Or [a] pos) tA gA := ⟨pw_or1 h.p, h.v⟩
theorem jw_and (ha : JB X B EX a tA gA) (hb : JW X B EX (.BoolOp .And (b :: rest) pos) tB' gB) : JW X B EX (.BoolOp .And (a :: b :: rest) pos) (tAnd tA tB') (mAnd gA gB) := ⟨pw_and ha.p hb.p, ev_and ha.v hb.v⟩
theorem jw_or (ha : JB X B EX a tA gA) (hb : JW X B EX (.BoolOp .Or (b :: rest) pos) tB' gB) : JW X B EX (.BoolOp .Or (a :: b :: rest) pos) (tOr tA tB') (mOr gA gB) := ⟨pw_or ha.p hb.p, ev_or ha.v hb.v⟩
theorem je_one {op} (h : JE X B EX a ta fa) : JE X B EX (.BoolOp op [a] pos) ta fa := ⟨pe_one h.p, h.v⟩
theorem je_and (ha : JE X B EX a ta fa) (hb : JE X B EX (.BoolOp .And (b :: rest) pos) tb fb) : JE X B EX (.BoolOp .And (a :: b :: rest) pos) (tAndV ta tb) (mAndV fa fb) := ⟨pe_and ha.p hb.p, ev_andV ha.v hb.v⟩
theorem je_or (ha : JE X B EX a ta fa) (hb : JE X B EX (.BoolOp .Or (b :: rest) pos) tb fb) : JE X B EX (.BoolOp .Or (a :: b :: rest) pos) (tOrV ta tb) (mOrV fa fb) := ⟨pe_or ha.p hb.p, ev_orV ha.v hb.v⟩
theorem je_not (ha : JE X B EX a ta fa) : JE X B EX (.UnaryOp .Not a pos) (tNotV ta) (mNotV fa) := ⟨pe_not ha.p, ev_notV ha.v⟩
theorem je_if (hc : JB X B EX c tA gA) (ha : JE X B EX a ta fa) (hb : JE X B EX b tb fb) : JE X B EX (.IfExp c a b pos) (tIf tA ta tb) (mIf gA fa fb) := ⟨pe_ifExp hc.p ha.p hb.p, ev_if hc.v ha.v hb.v⟩
theorem jbs_nil : JBs X B EX [] tYes mYes := ⟨pts_nil, ev_yes⟩
theorem jbs_one (h : JB X B EX a tA gA) : JBs X B EX [a] tA gA := ⟨pts_one h.p, h.v⟩
variable {tl : TA} {fl : M (List D)} {rl : M (List TV)}
theorem ja_nil : JA X B EX [] tNil mNil := ⟨pa_nil, ev_nil⟩
theorem ja_cons (ha : JE X B EX e te fe) (hr : JA X B EX es tl fl) (hs : starEach (e :: es) X.env = (false, eval e X.env) :: starEach es X.env := by rfl) : JA X B EX (e :: es) (tCons te tl) (mCons fe fl) := ⟨pa_cons ha.p hr.p hs, ev_cons ha.v hr.v⟩
theorem jar_nil : JAR X B EX [] tNil mNil := ⟨pa_nil, ev_nilT⟩
theorem jar_cons (ha : JR X B EX e te ra) (hr : JAR X B EX es tl rl) (hs : starEach (e :: es) X.env = (false, eval e X.env) :: starEach es X.env := by rfl) : JAR X B EX (e :: es) (tCons te tl) (mCons ra rl) := ⟨pa_cons ha.p hr.p hs, ev_consT ha.v hr.v⟩
theorem jam_nil : JAM X B EX [] [] tNil mNil := ⟨pa_nil, evm_nil⟩
theorem jam_cons {ms : List Bool} (ha : JE X B EX e te fe) (hr : JAM X B EX ms es tl fl) (hs : starEach (e :: es) X.env = (false, eval e X.env) :: starEach es X.env := by rfl) : JAM X B EX (false :: ms) (e :: es) (tCons te tl) (mCons fe fl) := ⟨pa_cons ha.p hr.p hs, evm_cons ha.v hr.v⟩
theorem jam_own {ms : List Bool} (ha : JF X B EX e te fe) (hr : JAM X B EX ms es tl fl) (hs : starEach (e :: es) X.env = (false, eval e X.env) :: starEach es X.env := by rfl) : JAM X B EX (true :: ms) (e :: es) (tCons te tl) (mCons fe fl) := ⟨pa_cons ha.p hr.p hs, evm_own ha.v hr.v⟩
theorem je_tup {x1} (h : JA X B EX es tl fl) : JE X B EX (.Tuple es x1 pos) (tTup tl) (mTup fl) := ⟨pe_tup h.p, ev_tup h.v⟩
theorem jf_lst (h : JA X B EX es tl fl) : JF X B EX (.List es pos) (tLst tl) (mLst fl) := ⟨pe_lst h.p, evf_lst h.v⟩
theorem je_ix {K : PySem.W.Frag} (ha : JR X B EX a ta ra) (hb : JR X B EX b tb rb) (hs : PlainIx b := by exact fun _ _ => rfl) (hK : X.K = K := by rfl) : JE X B EX (.Subscript a b pos) (tOp (rIx K) ta tb) (mOp ixF ra rb) := by
  subst hK
  exact ⟨pe_ix ix_seq ha.p hb.p hs, ev_op ok_ix ha.v hb.v⟩
theorem jo_none : JO X B EX none tNoPart mNoPart := ⟨po_none, ev_nopart⟩
theorem jo_some (h : JE X B EX e te fe) : JO X B EX (some e) (tPart te) (mPart fe) := ⟨po_some h.p, ev_part h.v⟩
theorem sl_all : SlR X (rSlAll X.K) := (sl_list.or sl_tupA).or sl_str
theorem je_sl {K : PySem.W.Frag} {lo hi : Option Expr} {t1 t2 : TO} {f1 f2 : M (Option Int)} {p2 : Pos} (ha : JR X B EX a ta ra) (hl : JO X B EX lo t1 f1) (hh : JO X B EX hi t2 f2) (hK : X.K = K := by rfl) : JE X B EX (.Subscript a (.Slice lo hi none p2) pos) (tSl (rSlAll K) ta t1 t2) (mSl slF ra f1 f2) := by
  subst hK
  exact ⟨pe_slice sl_all ha.p hl.p hh.p, ev_sl ok_sl ha.v hl.v hh.v⟩
variable {x : Str} {p : Pos}
theorem je_cb {id : String} {r : List V → Hp → VK → Prop} {f : List D → Option D} (hc : CallR X (.builtin id) r) (hk : CallOk r f) (hv : bootBuiltins x = some (.builtin id)) (hm : X.mg x = none) (ha : JAR X B EX (e :: es) tl rl) (hg : Gl X x := by rfl) (hn : x ≠ "__name__" := by decide) (hdb : (x == ("__debug__" : Str)) = false := by decide)
    (he : starEach (e :: es) X.env = (false, eval e X.env) :: starEach es X.env := by rfl) (hpl : (backTo pos (starEach es X.env)).any (·.1) = false := by rfl) : JE X B EX (.Call (.Name x p) (e :: es) [] pos) (tCB r tl) (mCB f rl) := ⟨pe_callB hc hg hm hv ha.p hn hdb he hpl, ev_cb hk ha.v⟩
theorem je_ct {T : String} {r : List V → Hp → VK → Prop} {f : List D → Option D} (hc : CallR X (.type T) r) (hk : CallOk r f) (hv : bootBuiltins x = some (.type T)) (hm : X.mg x = none) (ha : JAR X B EX (e :: es) tl rl) (hg : Gl X x := by rfl) (hn : x ≠ "__name__" := by decide) (hdb : (x == ("__debug__" : Str)) = false := by decide)
    (he : starEach (e :: es) X.env = (false, eval e X.env) :: starEach es X.env := by rfl) (hpl : (backTo pos (starEach es X.env)).any (·.1) = false := by rfl) : JE X B EX (.Call (.Name x p) (e :: es) [] pos) (tCB r tl) (mCB f rl) := ⟨pe_callTy hc hg hm hv ha.p hn hdb he hpl, ev_cb hk ha.v⟩
theorem jf_ct {T : String} {r : List V → Hp → VK → Prop} {f : List D → Option D} (hc : CallR X (.type T) r) (hk : CallOkF r f) (hv : bootBuiltins x = some (.type T)) (hm : X.mg x = none) (ha : JAR X B EX (e :: es) tl rl) (hg : Gl X x := by rfl) (hn : x ≠ "__name__" := by decide) (hdb : (x == ("__debug__" : Str)) = false := by decide)
    (he : starEach (e :: es) X.env = (false, eval e X.env) :: starEach es X.env := by rfl) (hpl : (backTo pos (starEach es X.env)).any (·.1) = false := by rfl) : JF X B EX (.Call (.Name x p) (e :: es) [] pos) (tCB r tl) (mCB f rl) := ⟨pe_callTy hc hg hm hv ha.p hn hdb he hpl, evf_cb hk ha.v⟩
def rLenK (K : PySem.W.Frag) : List V → Hp → VK → Prop := fun xs H Q => ∃ x n, xs = [x] ∧ LenV K x H n ∧ Q (.int n) H
def rTupK (K : PySem.W.Frag) : List V → Hp → VK → Prop := fun xs H Q => ∃ p ys, xs = [.ref p] ∧ ((SqL K H p ys ∧ ∀ l, H l = none → Q (.ref l) (upd H l (.tup ys))) ∨ (SqT K H p ys ∧ Q (.ref p) H))
def rListK (K : PySem.W.Frag) : List V → Hp → VK → Prop := fun xs H Q => ∃ p ys, xs = [.ref p] ∧ (SqL K H p ys ∨ SqT K H p ys) ∧ ∀ l, H l = none → Q (.ref l) (upd H l (.lst ys))
theorem cK_len {K : PySem.W.Frag} (hK : X.K = K) : CallR X (.builtin "len") (rLenK K) := by subst hK; exact call_len
theorem cK_tuple {K : PySem.W.Frag} (hK : X.K = K) : CallR X (.type "tuple") (rTupK K) := by subst hK; exact call_tuple_of
theorem cK_list {K : PySem.W.Frag} (hK : X.K = K) : CallR X (.type "list") (rListK K) := by subst hK; exact call_list_of
theorem cK_all {K : PySem.W.Frag} (hK : X.K = K) (hc : X.calm = true) : CallR X (.builtin "all") (rAll K) := by subst hK; exact cr_all hc
theorem cK_any {K : PySem.W.Frag} (hK : X.K = K) (hc : X.calm = true) : CallR X (.builtin "any") (rAny K) := by subst hK; exact cr_any hc
theorem cK_sum {K : PySem.W.Frag} (hK : X.K = K) (hc : X.calm = true) : CallR X (.builtin "sum") (rSum K) := by subst hK; exact cr_sum hc
theorem okK_len {K : PySem.W.Frag} : CallOk (rLenK K) lenF := ok_len
theorem okK_tuple {K : PySem.W.Frag} : CallOk (rTupK K) tupleF := ok_tuple
theorem okK_list {K : PySem.W.Frag} : CallOkF (rListK K) listF := okF_list
theorem call_intA : CallR X (.type "int") rIntA := call_int1.or call_int_str
/-- isinstance(e, T) -/
theorem je_isi {K : PySem.W.Frag} {T : Str} {n : String} {q : String → Bool} {p2 : Pos} (tab : IsiTab n q) (hb : bootBuiltins T = some (.type n)) (hmT : X.mg T = none) (hm : X.mg "isinstance" = none) (h : JR X B EX e te ra) (hgT : Gl X T := by rfl) (hg : Gl X "isinstance" := by rfl) (hnT : T ≠ "__name__" := by decide) (hdT : (T == ("__debug__" : Str)) = false := by decide)
    (h1 : starEach [e, .Name T p2] X.env = (false, eval e X.env) :: starEach [.Name T p2] X.env := by rfl) (h2 : starEach [.Name T p2] X.env = (false, eval (.Name T p2) X.env) :: starEach [] X.env := by rfl) (hpl : (backTo pos (starEach [.Name T p2] X.env)).any (·.1) = false := by rfl) (hK : X.K = K := by rfl) :
    JE X B EX (.Call (.Name "isinstance" p) [e, .Name T p2] [] pos) (tCB (rIsi K) (tCons te (tCons (tC (.ty n)) tNil))) (mIsi q ra) := by
  subst hK
  exact ⟨pe_callB call_isi hg hm PyProof.Rows.boot_isinstance (pa_cons h.p (pa_cons (pe_bltn (v := .ty n) hgT hmT hb rfl hnT hdT) pa_nil h2) h1) (by decide) (by decide) h1 hpl, ev_isi tab h.v⟩
end
/-- a def of the text that keeps the promise g, by at most level k -/
def DefV (P : Program) (w : World) (K : PySem.W.Frag) (mg : Str → Option Value) (base : Heap) (CX : CXT) (C : Str → Addr) (x : Str) (ps : List Str) (k : Nat) (g : List D → RR) : Prop :=
  ∃ f fd, FnOk P w K mg base CX k f fd ps (spV C g) ∧ mg x = some (.ref f) ∧ PySem.W.keepIn K (.ref f) = true ∧ Binds K fd ps []
section
variable {X : Cx} {B : Bd} {EX : Str → Hp → Prop} {a b c e : Expr} {es : List Expr} {ta tb tc te : TE} {fa fb fc fe : M D} {ra rb rc : M TV} {pos : Pos} {tl : TA} {fl : M (List D)} {x : Str} {p : Pos}
theorem je_call0 {C : Str → Addr} {ps : List Str} {k j : Nat} {g : List D → RR} (d : DefV X.prog X.w X.K X.mg X.base CX0 C x ps k g) (hr : Room j X.A) (ha : JA X B EX (e :: es) tl fl) (hkj : k ≤ j := by decide) (hg : Gl X x := by rfl) (hdb : (x == ("__debug__" : Str)) = false := by decide)
    (he : starEach (e :: es) X.env = (false, eval e X.env) :: starEach es X.env := by rfl) (hpl : (backTo pos (starEach es X.env)).any (·.1) = false := by rfl) : JE X B EX (.Call (.Name x p) (e :: es) [] pos) (tCall (spV C g) [] E0 tl) (mCall0 g fl) := by
  obtain ⟨f, fd, F, hm, hk, hb⟩ := d
  exact ⟨pe_call F (hr.mono hkj) hg hm hk hb .nil pass0 ha.p hdb he hpl, ev_call0 ha.v⟩
theorem je_callX {C : Str → Addr} {ps : List Str} {k j : Nat} {g : List D → RR} {E : XK} (d : DefV X.prog X.w X.K X.mg X.base (L2N.CX X.prog X.w) C x ps k g) (hr : Room j X.A) (hx : Passes (L2N.CX X.prog X.w) X E) (hE : ∀ c H, EX c H → E (.ref (C c)) none H) (ha : JA X B EX (e :: es) tl fl) (hkj : k ≤ j := by decide) (hg : Gl X x := by rfl) (hdb : (x == ("__debug__" : Str)) = false := by decide)
    (he : starEach (e :: es) X.env = (false, eval e X.env) :: starEach es X.env := by rfl) (hpl : (backTo pos (starEach es X.env)).any (·.1) = false := by rfl) : JE X B EX (.Call (.Name x p) (e :: es) [] pos) (tCall (spV C g) [] E tl) (mCall g fl) := by
  obtain ⟨f, fd, F, hm, hk, hb⟩ := d
  exact ⟨pe_call F (hr.mono hkj) hg hm hk hb .nil hx ha.p hdb he hpl, ev_call hE ha.v⟩
variable {tg : Expr} {wi : TI} {fi : M (List D)}
theorem ji_seq {K : PySem.W.Frag} (h : JE X B EX e te fe) (hK : X.K = K := by rfl) : JI X B EX tg e (iSeq K te) (mSeqI fe) := by
  subst hK
  exact ⟨pi_seq h.p, evi_seq h.v⟩
theorem ji_rng1 (hm : X.mg "range" = none) (ha : JA X B EX [a] tl fl) (hg : Gl X "range" := by rfl) (hs : starEach [a] X.env = [(false, eval a X.env)] := by rfl) : JI X B EX tg (.Call (.Name "range" p) [a] [] pos) (iRng1 tl) (mRng1 fl) := ⟨pi_range1 hg hm ha.p hs, evi_rng1 ha.v⟩
theorem ji_rng2 (hm : X.mg "range" = none) (ha : JA X B EX [a, b] tl fl) (hg : Gl X "range" := by rfl) (hs : starEach [a, b] X.env = [(false, eval a X.env), (false, eval b X.env)] := by rfl) (hs2 : starEach [b] X.env = [(false, eval b X.env)] := by rfl) : JI X B EX tg (.Call (.Name "range" p) [a, b] [] pos) (iRng2 tl) (mRng2 fl) := ⟨pi_range2 hg hm ha.p hs hs2, evi_rng2 ha.v⟩
theorem ji_enum {K : PySem.W.Frag} {elts : List Expr} {kk : Nat} {tpos : Pos} (hm : X.mg "enumerate" = none) (ha : JA X B EX [a] tl fl) (hg : Gl X "enumerate" := by rfl) (hs : starEach [a] X.env = [(false, eval a X.env)] := by rfl) (hK : X.K = K := by rfl) : JI X B EX (.Tuple elts kk tpos) (.Call (.Name "enumerate" p) [a] [] pos) (iEnumS K tl) (mEnum fl) := by
  subst hK
  exact ⟨pi_enumS hg hm ha.p hs, evi_enum ha.v⟩
theorem jg_name (i : Nat) {y : Str} (hN : X.N.Nodup) (hi : X.N[i]? = some y := by rfl) (hx : Loc X.env.scope y := by first | exact Or.inl rfl | exact Or.inr rfl) (hf : X.fn y = true ∨ X.env.scope.names.lookup y = some .local := by first | exact .inl rfl | exact .inr rfl) : JG X B (.Name y pos) (gName i) (hName i) [i] := ⟨pg_name hN hi hx hf, eg_name⟩
theorem jgs_nil : JGs X B [] gNil hNil [] := ⟨pgs_nil, egs_nil⟩
theorem jgs_cons {gs : TGs} {g : TG} {h : D → Rho → Option Rho} {hs : List D → Rho → Option Rho} {L Ls : List Nat} (h1 : JG X B e g h L) (h2 : JGs X B es gs hs Ls) (hs' : (assignEach (e :: es) X.env).map (·.2) = assign e X.env :: (assignEach es X.env).map (·.2) := by rfl) : JGs X B (e :: es) (gCons g gs) (hCons h hs) (L ++ Ls) := ⟨pgs_cons h1.p h2.p hs', egs_cons h1.v h2.v⟩
theorem jg_tup {K : PySem.W.Frag} {k n : Nat} {gs : TGs} {hs : List D → Rho → Option Rho} {L : List Nat} (h : JGs X B es gs hs L) (hc : X.calm = true := by rfl) (hn : (assignEach es X.env).length = n := by rfl) (hst : (assignEach es X.env).findIdx? (·.1) = none := by rfl) (hK : X.K = K := by rfl) : JG X B (.Tuple es k pos) (gTup K n gs) (hTup n hs) L := by
  subst hK
  exact ⟨pg_tup hc h.p hn hst, eg_tup h.v⟩
theorem jf_lc {elt iter : Expr} {ifs : List Expr} {scope : Scope} {own : List (Str × Nat)} {g : TG} {h : D → Rho → Option Rho} {L : List Nat} {tt : TT} {ft : M Bool} (hN : X.N.Nodup) (ok : BlkOk X.N X.env.scope scope own) (hi : JI X B EX tg iter wi fi)
    (hg : ∀ (s : Shared) (H : Hp) (C : Addr) (cl : List (Str × Addr)) (fp : List Addr), JG (X.blk s H scope (compEnvC scope cl C X.env) fp) B tg g h L) (ht : ∀ (s : Shared) (H : Hp) (C : Addr) (cl : List (Str × Addr)) (fp : List Addr), JBs (X.blk s H scope (compEnvC scope cl C X.env) fp) B EX0 ifs tt ft)
    (he : ∀ (s : Shared) (H : Hp) (C : Addr) (cl : List (Str × Addr)) (fp : List Addr), JE (X.blk s H scope (compEnvC scope cl C X.env) fp) B EX0 elt te fe) (hL : ∀ i ∈ L, i ∈ own.map (·.2) := by decide) (hc : X.calm = true := by rfl) (hs : ∀ x, foldedSetIterable iter X.env x = pure x := by intro _; rfl) :
    JF X B EX (.ListComp elt [⟨tg, iter, ifs, 0⟩] scope pos) (tLc wi g tt te (own.map (·.2))) (mLc fi h ft fe (own.map (·.2))) :=
  ⟨pe_lc hc hN hi.p ok (fun s H C cl fp => (hg s H C cl fp).p) (fun s H C cl fp => (ht s H C cl fp).p) (fun s H C cl fp => (he s H C cl fp).p) hs, evf_lc hi.v (hg X.s_0 X.H_0 0 [] []).v (ht X.s_0 X.H_0 0 [] []).v (he X.s_0 X.H_0 0 [] []).v hL⟩
variable {st : Stmt} {sts : List Stmt} {t u : TS} {f f' : S} {tA : TT} {gA : M Bool}
theorem jss_nil : JSs X B EX [] tNext sNext := ⟨pss_nil, es_next⟩
theorem jss_one (h : JS X B EX st t f) : JSs X B EX [st] t f := ⟨pss_one h.p, h.v⟩
theorem jss_cons (h : JS X B EX st t f) (h2 : JSs X B EX sts u f') : JSs X B EX (st :: sts) (tSeq t u) (sSeq f f') := ⟨pss_cons h.p h2.p, es_seq h.v h2.v⟩
theorem js_expr (h : JE X B EX e te fe) (hs : swapsWith e none pos.line X.env = pure false := by rfl) : JS X B EX (.Expr e pos) (tDrop te) (sDrop fe) := ⟨ps_expr h.p hs, es_drop h.v⟩
theorem js_ret (h : JE X B EX e te fe) : JS X B EX (.Return (some e) pos) (tRet te) (sRet fe) := ⟨ps_ret h.p, es_ret h.v⟩
theorem js_if {a b : List Stmt} (hc : JB X B EX c tA gA) (ha : JSs X B EX a t f) (hb : JSs X B EX b u f') : JS X B EX (.If c a b pos) (tIfS tA t u) (sIf gA f f') := ⟨ps_if hc.p ha.p hb.p, es_if hc.v ha.v hb.v⟩
theorem js_set (i : Nat) {y : Str} {pos' : Pos} (hN : X.N.Nodup) (h : JE X B EX e te fe) (hi : X.N[i]? = some y := by rfl) (hx : Loc X.env.scope y := by first | exact Or.inl rfl | exact Or.inr rfl) (hs : swapsWith e (some (.Name y pos')) pos.line X.env = pure false := by rfl)
    (hf : X.fn y = true ∨ X.env.scope.names.lookup y = some .local := by first | exact .inl rfl | exact .inr rfl) : JS X B EX (.Assign [.Name y pos'] e pos) (tAsg te (gName i)) (sAsg fe (hName i)) := ⟨ps_set hN hi hx h.p hs hf, es_asg h.v eg_name⟩
theorem js_own (i : Nat) {y : Str} {pos' : Pos} (hN : X.N.Nodup) (h : JF X B EX e te fe) (hi : X.N[i]? = some y := by rfl) (hx : Loc X.env.scope y := by first | exact Or.inl rfl | exact Or.inr rfl) (hs : swapsWith e (some (.Name y pos')) pos.line X.env = pure false := by rfl)
    (hf : X.fn y = true ∨ X.env.scope.names.lookup y = some .local := by first | exact .inl rfl | exact .inr rfl) : JS X B EX (.Assign [.Name y pos'] e pos) (tAsg te (gName i)) (sOwn fe i) := ⟨ps_set hN hi hx h.p hs hf, es_own h.v⟩
theorem setLc_p (i : Nat) {y : Str} {py : Pos} {elt iter : Expr} {ifs : List Expr} {scope : Scope} {own : List (Str × Nat)} {g : TG} {h : D → Rho → Option Rho} {L : List Nat} {tt : TT} {ft : M Bool} (hN : X.N.Nodup) (ok : BlkOk X.N X.env.scope scope own) (hi : JI X B EX tg iter wi fi)
    (hg : ∀ (s : Shared) (H : Hp) (C : Addr) (cl : List (Str × Addr)) (fp : List Addr), JG (X.blk s H scope (compEnvC scope cl C X.env) fp) B tg g h L) (ht : ∀ (s : Shared) (H : Hp) (C : Addr) (cl : List (Str × Addr)) (fp : List Addr), JBs (X.blk s H scope (compEnvC scope cl C X.env) fp) B EX0 ifs tt ft)
    (he : ∀ (s : Shared) (H : Hp) (C : Addr) (cl : List (Str × Addr)) (fp : List Addr), JE (X.blk s H scope (compEnvC scope cl C X.env) fp) B EX0 elt te fe) (hc : X.calm = true) (hy : X.N[i]? = some y) (hyl : X.env.scope.names.lookup y = some .local)
    (hsw : swapsWith (.ListComp elt [⟨tg, iter, ifs, 0⟩] scope pos) (some (.Name y py)) p.line X.env = pure true) (hs : ∀ x, foldedSetIterable iter X.env x = pure x) :
    PS X (.Assign [.Name y py] (.ListComp elt [⟨tg, iter, ifs, 0⟩] scope pos) p) (tAsg (tLc wi g tt te (own.map (·.2))) (gName i)) :=
  ps_setLc hc hN hy hyl hsw hi.p ok (fun s H C cl fp => (hg s H C cl fp).p) (fun s H C cl fp => (ht s H C cl fp).p) (fun s H C cl fp => (he s H C cl fp).p) hs
/-- y = [..], y a local: frozen; owned -/
theorem js_setLc (i : Nat) {y : Str} {py : Pos} {elt iter : Expr} {ifs : List Expr} {scope : Scope} {own : List (Str × Nat)} {g : TG} {h : D → Rho → Option Rho} {L : List Nat} {tt : TT} {ft : M Bool} (hN : X.N.Nodup) (ok : BlkOk X.N X.env.scope scope own) (hi : JI X B EX tg iter wi fi)
    (hg : ∀ (s : Shared) (H : Hp) (C : Addr) (cl : List (Str × Addr)) (fp : List Addr), JG (X.blk s H scope (compEnvC scope cl C X.env) fp) B tg g h L) (ht : ∀ (s : Shared) (H : Hp) (C : Addr) (cl : List (Str × Addr)) (fp : List Addr), JBs (X.blk s H scope (compEnvC scope cl C X.env) fp) B EX0 ifs tt ft)
    (he : ∀ (s : Shared) (H : Hp) (C : Addr) (cl : List (Str × Addr)) (fp : List Addr), JE (X.blk s H scope (compEnvC scope cl C X.env) fp) B EX0 elt te fe) (hsw : swapsWith (.ListComp elt [⟨tg, iter, ifs, 0⟩] scope pos) (some (.Name y py)) p.line X.env = pure true) (hL : ∀ i ∈ L, i ∈ own.map (·.2) := by decide) (hc : X.calm = true := by rfl) (hy : X.N[i]? = some y := by rfl) (hyl : X.env.scope.names.lookup y = some .local := by rfl)
    (hs : ∀ x, foldedSetIterable iter X.env x = pure x := by intro _; rfl) :
    JS X B EX (.Assign [.Name y py] (.ListComp elt [⟨tg, iter, ifs, 0⟩] scope pos) p) (tAsg (tLc wi g tt te (own.map (·.2))) (gName i)) (sAsg (mLc fi h ft fe (own.map (·.2))) (hName i)) :=
  ⟨setLc_p i hN ok hi hg ht he hc hy hyl hsw hs, es_asg (ev_ofF (evf_lc hi.v (hg X.s_0 X.H_0 0 [] []).v (ht X.s_0 X.H_0 0 [] []).v (he X.s_0 X.H_0 0 [] []).v hL)) eg_name⟩
/-- target = e, any target -/
theorem js_asg {g : TG} {h : D → Rho → Option Rho} {L : List Nat} (he : JE X B EX e te fe) (hg : JG X B tg g h L) (hs : swapsWithSole [tg] e pos.line X.env = pure false := by rfl) (hw : swappedStores [tg] e X.env = pure none := by rfl)
    (h1 : (assignEach [tg] X.env).map (·.2) = [assign tg X.env] := by rfl) : JS X B EX (.Assign [tg] e pos) (tAsg te g) (sAsg fe h) := ⟨ps_asg he.p hg.p hs hw h1, es_asg he.v hg.v⟩
theorem js_par2 (i j : Nat) {ms : List Bool} {x y : Str} {px py pt pt2 : Pos} {kt k2} (hN : X.N.Nodup) (ha : JAM X B EX ms [a, b] tl fl) (hc : X.calm = true := by rfl) (hi : X.N[i]? = some x := by rfl) (hj : X.N[j]? = some y := by rfl) (hij : i ≠ j := by decide) (hx : X.env.scope.names.lookup x = some .local := by rfl) (hy : X.env.scope.names.lookup y = some .local := by rfl)
    (hw : swappedStores [.Tuple [.Name x px, .Name y py] kt pt] (.Tuple [a, b] k2 pt2) X.env = pure (some [x, y]) := by rfl) (hs : swapsWithSole [.Tuple [.Name x px, .Name y py] kt pt] (.Tuple [a, b] k2 pt2) pos.line X.env = pure false := by rfl) :
    JS X B EX (.Assign [.Tuple [.Name x px, .Name y py] kt pt] (.Tuple [a, b] k2 pt2) pos) (tPar i j tl) (sPar ms [i, j] fl) := ⟨ps_par hc hN hi hj hij hx hy ha.p hw hs, es_par2 ha.v⟩
/-- several names at once, some of them cells -/
theorem js_parT {K : PySem.W.Frag} {ms : List Bool} {is : List Nat} {n k2 : Nat} {pt2 : Pos} {tgs : List Expr} {kt : Nat} {pt : Pos} (ha : JAM X B EX ms es tl fl) (hg : PG X (.Tuple tgs kt pt) (gTup K n (gNames is))) (hn : is.length = n := by rfl) (hn2 : n ≤ 100 := by decide) (hs : swapsWithSole [.Tuple tgs kt pt] (.Tuple es k2 pt2) pos.line X.env = pure false := by rfl) (hw : swappedStores [.Tuple tgs kt pt] (.Tuple es k2 pt2) X.env = pure none := by rfl)
    (h1 : (assignEach [.Tuple tgs kt pt] X.env).map (·.2) = [assign (.Tuple tgs kt pt) X.env] := by rfl) (hK : X.K = K := by rfl) : JS X B EX (.Assign [.Tuple tgs kt pt] (.Tuple es k2 pt2) pos) (tAsg (tTup tl) (gTup K n (gNames is))) (sPar ms is fl) := by
  subst hK
  exact ⟨ps_asg (pe_tup ha.p) hg hs hw h1, es_parT ha.v hn hn2⟩
theorem js_append {K : PySem.W.Frag} (i : Nat) {y : Str} {p1 p2 p3 : Pos} (h : JE X B EX e te fe) (hN : X.N[i]? = some y := by rfl) (hv : Vis X.env.scope y := by first | exact Or.inl rfl | exact Or.inr (Or.inl rfl) | exact Or.inr (Or.inr rfl)) (hd : (y == ("__debug__" : Str)) = false := by decide) (hcd : (y == ("__classdict__" : Str)) = false := by decide)
    (hst : starEach [e] X.env = (false, eval e X.env) :: starEach [] X.env := by rfl) (hline : (p2.endLine == p3.line) = true := by rfl)
    (hfew : ((backTo p3 (starEach [e] X.env)).all (fun x => !x.1) && (backToKw p3 (keywordEach [] X.env)).all (fun x => x.1.isSome) && decide (([e] : List Expr).length + ([] : List Keyword).length + (if ([] : List Keyword).isEmpty then 0 else 1) < 30)) = true := by rfl)
    (hbase : attributeBase (.Name y p1) "append" X.env (eval (.Name y p1) X.env) = eval (.Name y p1) X.env := by rfl) (hpl : (backTo p3 (starEach [] X.env)).any (·.1) = false := by rfl) (hs : swapsWith (.Call (.Attribute (.Name y p1) "append" p2) [e] [] p3) none pos.line X.env = pure false := by rfl) (hK : X.K = K := by rfl) :
    JS X B EX (.Expr (.Call (.Attribute (.Name y p1) "append" p2) [e] [] p3) pos) (tDrop (tBM K "list" rAppend (tVar i) (tCons te tNil))) (sAppend i fe) := by
  subst hK
  exact ⟨ps_expr (pe_bm PySem.F.plainAttrs_list PySem.F.slot_list_append PySem.F.type_list_append mt_append (pv i hN hv hd hcd) (pa_cons h.p pa_nil hst) hbase hfew hline hst hpl) hs, es_append h.v⟩
theorem je_pop {K : PySem.W.Frag} (i : Nat) {y : Str} {p1 p2 : Pos} (hN : X.N[i]? = some y := by rfl) (hv : Vis X.env.scope y := by first | exact Or.inl rfl | exact Or.inr (Or.inl rfl) | exact Or.inr (Or.inr rfl)) (hd : (y == ("__debug__" : Str)) = false := by decide) (hcd : (y == ("__classdict__" : Str)) = false := by decide)
    (hbase : attributeBase (.Name y p1) "pop" X.env (eval (.Name y p1) X.env) = eval (.Name y p1) X.env := by rfl) (hline : (p2.endLine == pos.line) = true := by rfl) (hK : X.K = K := by rfl) : JE X B EX (.Call (.Attribute (.Name y p1) "pop" p2) [] [] pos) (tBM0 K "list" rPop (tVar i)) (mPop i) := by
  subst hK
  exact ⟨pe_bm0 PySem.F.plainAttrs_list PySem.F.slot_list_pop PySem.F.type_list_pop mt_pop (pv i hN hv hd hcd) hbase hline, ev_pop⟩
theorem js_setitem (i : Nat) {y : Str} {k : Expr} {tk : TE} {fk : M D} {p1 p2 : Pos} (he : JE X B EX e te fe) (hk : JE X B EX k tk fk) (hN : X.N[i]? = some y := by rfl) (hv : Vis X.env.scope y := by first | exact Or.inl rfl | exact Or.inr (Or.inl rfl) | exact Or.inr (Or.inr rfl)) (hd : (y == ("__debug__" : Str)) = false := by decide) (hcd : (y == ("__classdict__" : Str)) = false := by decide)
    (hsub : ∀ v, assign (.Subscript (.Name y p1) k p2) X.env v = (do
      let ov ← holding [v] (eval (.Name y p1) X.env)
      let iv ← holding [v, ov] (eval k X.env)
      standAt p2
      holding [v, ov, iv] (setItem ov iv v)
      release [v, ov, iv] []) := by intro _; rfl)
    (hs : swapsWithSole [.Subscript (.Name y p1) k p2] e pos.line X.env = pure false := by rfl) (hw : swappedStores [.Subscript (.Name y p1) k p2] e X.env = pure none := by rfl)
    (h1 : (assignEach [.Subscript (.Name y p1) k p2] X.env).map (·.2) = [assign (.Subscript (.Name y p1) k p2) X.env] := by rfl) :
    JS X B EX (.Assign [.Subscript (.Name y p1) k p2] e pos) (tAsg te (gSub (tVar i) tk rSetL)) (sSetItem i fe fk) :=
  ⟨ps_asg he.p (pg_sub (pv i hN hv hd hcd) hk.p set_list hsub) hs hw h1, es_setitem he.v hk.v⟩
theorem js_for {iter : Expr} {body : List Stmt} {g : TG} {h : D → Rho → Option Rho} {L : List Nat} (hp : PassesOwn (model X.prog X.w) X.A X.env X.xe) (hi : JI X B EX tg iter wi fi) (hg : JG X B tg g h L) (hb : JSs X B EX body t f) (hc : X.calm = true := by rfl) (hs : ∀ x, foldedSetIterable iter X.env x = pure x := by intro _; rfl) :
    JS X B EX (.For tg iter body [] pos) (tFor wi g t) (sFor fi h f) := ⟨ps_for hp hc hi.p hg.p hb.p hs, es_for hi.v hg.v hb.v⟩
theorem js_while {body : List Stmt} (n : Nat) (hp : PassesOwn (model X.prog X.w) X.A X.env X.xe) (hc : JB X B EX c tA gA) (hb : JSs X B EX body t f) : JS X B EX (.While c body [] pos) (tWhile tA t) (whileGo gA f n) := ⟨ps_while hp hc.p hb.p, es_while hc.v hb.v⟩
end
end Rn
end
section
set_option Elab.async false
set_option linter.all false
set_option autoImplicit false
set_option maxRecDepth 100000
namespace Rn
open PySem PySem.Spec L2
abbrev FnP (K : PySem.W.Frag) (x : Str) (st : Stmt) (f : Addr) (fd : FuncData) : Prop := FunD K x x (defArgs st) (defBody st) (defScope st) [] [] f fd
/-- a def of the text, with its name and parameters -/
def HasF (K : PySem.W.Frag) (mg : Str → Option Value) (x : Str) (st : Stmt) (ps : List Str) : Prop := ∃ f fd, FnP K x st f fd ∧ mg x = some (.ref f) ∧ Binds K fd ps []
structure ExcF (K : PySem.W.Frag) (mg : Str → Option Value) (C : Str → Addr) (x : Str) : Prop where
  g : mg x = some (.ref (C x))
  q : PySem.W.excIn K (C x) He.veBase "ValueError.__new__" = true
  k : PySem.W.keepIn K (.ref (C x)) = true
  s : PySem.W.subIn K (.ref (C x)) (.type "BaseException") = some true
  t : PySem.W.typeIn K (.ref (C x)) = some (.type "type")
section
variable {P : Program} {w : World} {K : PySem.W.Frag} {mg : Str → Option Value} {base : Heap} {C : Str → Addr}
theorem def_v0 {x : Str} {st : Stmt} {N ps : List Str} {k : Nat} {body : S} (h : HasF K mg x st ps) (Sc : FnScope N ps (defScope st))
    (hb : ∀ (f : Addr) (cdv : Value) (A : Around) (outer : List Env) (s : Shared) (H : Hp) (E : XK), Room k (A.deeper (PyProof.Rows.envOfC x (defScope st) s.heap.objs.size f cdv)) →
      ∃ t, ∀ (B : Bd) (EX : Str → Hp → Prop), JSs (cxOf CX0 P w K mg base N x (defScope st) f cdv A outer s H E).nox B EX (defBody st) t body) :
    DefV P w K mg base CX0 C x ps (k + 1) (callD ps.length N.length body) := by
  obtain ⟨f, fd, F, hm, hbd⟩ := h
  refine ⟨f, fd, F.ok Sc (fun vs H Q E h => spV_len h) (fun cdv A outer s H vs Q E hr h => ?_), hm, F.kp, hbd⟩
  obtain ⟨t, ht⟩ := hb f cdv A outer s H E hr
  exact ⟨t, PSs.nox (ht ⟨H, H, [], [], []⟩ EX0).p, body_ok h fun F => (ht _ _).v⟩
theorem def_vX {x : Str} {st : Stmt} {N ps : List Str} {k : Nat} {body : S} (h : HasF K mg x st ps) (Sc : FnScope N ps (defScope st))
    (hb : ∀ (f : Addr) (cdv : Value) (A : Around) (outer : List Env) (s : Shared) (H : Hp) (E : XK), Room k (A.deeper (PyProof.Rows.envOfC x (defScope st) s.heap.objs.size f cdv)) →
      ∃ t, ∀ (B : Bd), JSs (cxOf (L2N.CX P w) P w K mg base N x (defScope st) f cdv A outer s H E) B (fun c H' => E (.ref (C c)) none H') (defBody st) t body) :
    DefV P w K mg base (L2N.CX P w) C x ps (k + 1) (callD ps.length N.length body) := by
  obtain ⟨f, fd, F, hm, hbd⟩ := h
  refine ⟨f, fd, F.ok Sc (fun vs H Q E h => spV_len h) (fun cdv A outer s H vs Q E hr h => ?_), hm, F.kp, hbd⟩
  obtain ⟨t, ht⟩ := hb f cdv A outer s H E hr
  exact ⟨t, (ht ⟨H, H, [], [], []⟩).p, body_ok h fun F => (ht _).v⟩
/-- a call in the body of a def that may raise -/
theorem je_call {qual : Str} {N : List Str} {scope : Scope} {f : Addr} {cdv : Value} {A : Around} {outer : List Env} {s : Shared} {H : Hp} {E : XK} {B : Bd} {x : Str} {p pos : Pos} {e : Expr} {es : List Expr} {tl : TA} {fl : M (List D)} {ps : List Str} {k j : Nat} {g : List D → RR}
    (d : DefV P w K mg base (L2N.CX P w) C x ps k g) (hr : Room j (cxOf (L2N.CX P w) P w K mg base N qual scope f cdv A outer s H E).A) (ha : JA (cxOf (L2N.CX P w) P w K mg base N qual scope f cdv A outer s H E) B (fun c H' => E (.ref (C c)) none H') (e :: es) tl fl) (hkj : k ≤ j := by decide)
    (hg : Gl (cxOf (L2N.CX P w) P w K mg base N qual scope f cdv A outer s H E) x := by rfl) (hdb : (x == ("__debug__" : Str)) = false := by decide)
    (he : starEach (e :: es) (cxOf (L2N.CX P w) P w K mg base N qual scope f cdv A outer s H E).env = (false, eval e (cxOf (L2N.CX P w) P w K mg base N qual scope f cdv A outer s H E).env) :: starEach es (cxOf (L2N.CX P w) P w K mg base N qual scope f cdv A outer s H E).env := by rfl)
    (hpl : (backTo pos (starEach es (cxOf (L2N.CX P w) P w K mg base N qual scope f cdv A outer s H E).env)).any (·.1) = false := by rfl) :
    JE (cxOf (L2N.CX P w) P w K mg base N qual scope f cdv A outer s H E) B (fun c H' => E (.ref (C c)) none H') (.Call (.Name x p) (e :: es) [] pos) (tCall (spV C g) [] E tl) (mCall g fl) :=
  je_callX (X := cxOf (L2N.CX P w) P w K mg base N qual scope f cdv A outer s H E) d hr (L2N.passes_call (W := fun cls d _ H => E cls d H) (L2N.takes_of rfl rfl rfl rfl) (fun _ _ _ _ q => q)) (fun _ _ q => q) ha hkj hg hdb he hpl
theorem js_raise {qual : Str} {N : List Str} {scope : Scope} {f : Addr} {cdv : Value} {A : Around} {outer : List Env} {s : Shared} {H : Hp} {E : XK} {B : Bd} {x m : Str} {j : Nat} {p p2 p3 pos : Pos} (c : ExcF K mg C x) (hg : Gl (cxOf (L2N.CX P w) P w K mg base N qual scope f cdv A outer s H E) x := by rfl) (hdb : (x == ("__debug__" : Str)) = false := by decide) :
    JS (cxOf (L2N.CX P w) P w K mg base N qual scope f cdv A outer s H E) B (fun c H' => E (.ref (C c)) none H') (.Raise (some (.Call (.Name x p) [.Constant (.str m) j p2] [] p3)) none pos)
      (fun _ σ H => (fun (_ : L2.St) H (Q : XK) => Q (.ref (C x)) none H) σ H fun cls d H' => (fun cls d (_ : L2.St) H => E cls d H) cls d σ H') (sRaise x) :=
  ⟨L2N.ps_raise rfl (L2N.takes_of rfl rfl rfl rfl) (L2N.pmk_own PySem.F.excBase_ValueError c.q c.g c.k (raises_own c.s c.t) hg hdb), es_raise fun _ q => q⟩
theorem pass_own {qual : Str} {N : List Str} {scope : Scope} {f : Addr} {cdv : Value} {A : Around} {outer : List Env} {s : Shared} {H : Hp} {E : XK} : PassesOwn (model P w) (cxOf (L2N.CX P w) P w K mg base N qual scope f cdv A outer s H E).A (cxOf (L2N.CX P w) P w K mg base N qual scope f cdv A outer s H E).env (cxOf (L2N.CX P w) P w K mg base N qual scope f cdv A outer s H E).xe := passes_of rfl
theorem je_gi {X : Cx} {B : Bd} {EX : Str → Hp → Prop} {pos : Pos} {x : Str} {i : Int} (hm : ∃ t, X.mg x = some (.int i t)) (hg : Gl X x := by rfl) (hd : (x == ("__debug__" : Str)) = false := by decide) : JE X B EX (.Name x pos) (tC (.int i)) (ret (.int i)) := by
  obtain ⟨t, h⟩ := hm
  exact je_gint h hg hd
end
end Rn
end
section
set_option Elab.async false
set_option linter.all false
set_option autoImplicit false
set_option maxRecDepth 100000
namespace Rn
open PySem PySem.Spec L2
def ins (x : D) : List D → List D
  | [] => [x]
  | y :: ys => if PySem.W.dataLt y x = true then y :: ins x ys else x :: y :: ys
def isort : List D → List D
  | [] => []
  | x :: xs => ins x (isort xs)
abbrev dle (x y : D) : Prop := PySem.W.dataLt y x = false
theorem dle_total (x y : D) : dle x y ∨ dle y x := by
  by_cases h : PySem.W.dataLt y x = true
  · right
    cases e : PySem.W.dataLt x y with
    | false => exact e
    | true =>
      have t := PyProof.Rows.lex_trans _ _ _ h e
      rw [PyProof.Rows.lex_irrefl] at t
      cases t
  · left; simpa using h
theorem dle_trans {x y z : D} (h1 : dle x y) (h2 : dle y z) : dle x z := by
  cases e : PySem.W.dataLt z x with
  | false => exact e
  | true =>
    rcases PyProof.Rows.lex_negTrans _ (PySem.W.keyToks y) _ e with h | h
    · exact absurd h (by rw [show PyProof.Rows.lexLt PyProof.Rows.itemOrd (PySem.W.keyToks z) (PySem.W.keyToks y) = false from h2]; decide)
    · exact absurd h (by rw [show PyProof.Rows.lexLt PyProof.Rows.itemOrd (PySem.W.keyToks y) (PySem.W.keyToks x) = false from h1]; decide)
theorem ins_perm (x : D) : ∀ ys : List D, (ins x ys).Perm (x :: ys)
  | [] => .refl _
  | y :: ys => by
    unfold ins
    split
    · exact ((ins_perm x ys).cons y).trans (.swap x y ys)
    · exact .refl _
theorem isort_perm : ∀ xs : List D, (isort xs).Perm xs
  | [] => .refl _
  | x :: xs => (ins_perm x _).trans ((isort_perm xs).cons x)
theorem ins_pw (x : D) : ∀ ys : List D, ys.Pairwise dle → (ins x ys).Pairwise dle
  | [], _ => List.pairwise_singleton _ _
  | y :: ys, h => by
    obtain ⟨h1, h2⟩ := List.pairwise_cons.mp h
    unfold ins
    split
    · next e =>
      refine List.pairwise_cons.mpr ⟨fun z hz => ?_, ins_pw x ys h2⟩
      rcases List.mem_cons.mp ((ins_perm x ys).mem_iff.mp hz) with rfl | hz
      · rcases dle_total y z with q | q
        · exact q
        · rw [show PySem.W.dataLt y z = false from q] at e; cases e
      · exact h1 z hz
    · next e =>
      have e' : dle x y := by simpa using e
      refine List.pairwise_cons.mpr ⟨fun z hz => ?_, h⟩
      rcases List.mem_cons.mp hz with rfl | hz
      · exact e'
      · exact dle_trans e' (h1 z hz)
theorem isort_pw : ∀ xs : List D, (isort xs).Pairwise dle
  | [] => .nil
  | x :: xs => ins_pw x _ (isort_pw xs)
mutual
theorem toks_inj : ∀ (x y : D) (l m : List (Int ⊕ List Nat)), PySem.W.alike x y = true → PySem.W.keyToks x ++ l = PySem.W.keyToks y ++ m → x = y ∧ l = m
  | .none, y, l, m, h, e => by
    cases y <;> simp [PySem.W.alike] at h
    exact ⟨rfl, by simpa [PySem.W.keyToks] using e⟩
  | .bool a, y, l, m, h, e => by
    cases y <;> simp [PySem.W.alike] at h
    next b =>
      simp only [PySem.W.keyToks, List.cons_append, List.nil_append, List.cons.injEq, Sum.inl.injEq] at e
      cases a <;> cases b <;> simp_all
  | .int a, y, l, m, h, e => by
    cases y <;> simp [PySem.W.alike] at h
    simp only [PySem.W.keyToks, List.cons_append, List.nil_append, List.cons.injEq, Sum.inl.injEq] at e
    exact ⟨by rw [e.1], e.2⟩
  | .str a, y, l, m, h, e => by
    cases y <;> simp [PySem.W.alike] at h
    simp only [PySem.W.keyToks, List.cons_append, List.nil_append, List.cons.injEq, Sum.inr.injEq] at e
    exact ⟨by rw [PySem.W.str_of_cps e.1], e.2⟩
  | .list xs, y, l, m, h, e => by
    cases y <;> simp [PySem.W.alike] at h
    simp only [PySem.W.keyToks] at e
    obtain ⟨a, b⟩ := toksAll_inj xs _ l m h e
    exact ⟨by rw [a], b⟩
  | .tuple xs, y, l, m, h, e => by
    cases y <;> simp [PySem.W.alike] at h
    simp only [PySem.W.keyToks] at e
    obtain ⟨a, b⟩ := toksAll_inj xs _ l m h e
    exact ⟨by rw [a], b⟩
  | .dict _, y, l, m, h, e => by
    cases y <;> simp [PySem.W.alike] at h
theorem toksAll_inj : ∀ (xs ys : List D) (l m : List (Int ⊕ List Nat)), PySem.W.alikeAll xs ys = true → PySem.W.keyToksAll xs ++ l = PySem.W.keyToksAll ys ++ m → xs = ys ∧ l = m
  | [], [], l, m, _, e => ⟨rfl, by simpa [PySem.W.keyToksAll] using e⟩
  | [], y :: ys, l, m, _, e => by simp [PySem.W.keyToksAll] at e
  | x :: xs, [], l, m, _, e => by simp [PySem.W.keyToksAll] at e
  | x :: xs, y :: ys, l, m, h, e => by
    obtain ⟨h1, h2⟩ := PySem.W.alike_all_cons h
    simp only [PySem.W.keyToksAll, List.cons_append, List.append_assoc, List.cons.injEq, true_and] at e
    obtain ⟨a, b⟩ := toks_inj x y _ _ h1 e
    obtain ⟨c, d⟩ := toksAll_inj xs ys _ _ h2 b
    exact ⟨by rw [a, c], d⟩
end
theorem dle_anti {x y : D} (h : PySem.W.alike x y = true) (h1 : dle x y) (h2 : dle y x) : x = y :=
  (toks_inj x y [] [] h (by rw [PyProof.Rows.lex_total _ _ h2 h1])).1
theorem isort_uniq {l ds : List D} (al : PySem.W.AllAlike ds) (p : l.Perm ds) (s : l.Pairwise dle) : l = isort ds :=
  List.Perm.eq_of_pairwise (le := dle) (fun a b ha hb h1 h2 => dle_anti (al a (p.mem_iff.mp ha) b ((isort_perm ds).mem_iff.mp hb)) h1 h2) s (isort_pw ds) (p.trans (isort_perm ds).symm)
theorem merge_isort {β : Type} (enc : β → D) (bs : List β) (al : PySem.W.AllAlike (bs.map enc)) : (bs.mergeSort (PySem.W.dataLe false enc)).map enc = isort (bs.map enc) := by
  refine isort_uniq al ((List.mergeSort_perm _ _).map enc) ?_
  refine List.pairwise_map.mpr ((List.pairwise_mergeSort (le := PySem.W.dataLe false enc) (fun a b c h1 h2 => ?_) (fun a b => ?_) bs).imp fun {a b} h => ?_)
  · have h1' : dle (enc a) (enc b) := by simpa [PySem.W.dataLe_eq] using h1
    have h2' : dle (enc b) (enc c) := by simpa [PySem.W.dataLe_eq] using h2
    have := dle_trans h1' h2'
    simpa [PySem.W.dataLe_eq] using this
  · have := dle_total (enc a) (enc b)
    simpa [PySem.W.dataLe_eq] using this
  · simpa [PySem.W.dataLe_eq] using h
/-- data that sorted can sort -/
def isTup1 : D → Bool
  | .tuple (_ :: _) => true
  | _ => false
def isOth : D → Bool
  | .none => false
  | .tuple _ => false
  | _ => true
def sortOk (ds : List D) : Bool := (ds.all fun x => ds.all fun y => PySem.W.alike x y) && (ds.all isTup1 || ds.all isOth) && PyData.plainAll ds && decide (ds.length ≤ big) && ds.all fun d => decide (d.depth ≤ 60)
theorem sortOk_parts {ds : List D} (h : sortOk ds = true) : PySem.W.AllAlike ds ∧ PySem.W.Sortable ds ∧ PyData.plainAll ds = true ∧ ds.length ≤ big ∧ ∀ d ∈ ds, d.depth ≤ 60 := by
  unfold sortOk at h
  simp only [Bool.and_eq_true, Bool.or_eq_true, decide_eq_true_eq] at h
  obtain ⟨⟨⟨⟨h1, h2⟩, h3⟩, h4⟩, h5⟩ := h
  refine ⟨fun d hd e he => List.all_eq_true.mp (List.all_eq_true.mp h1 d hd) e he, ?_, h3, h4, fun d hd => by simpa using List.all_eq_true.mp h5 d hd⟩
  rcases h2 with h2 | h2
  · refine .inl fun d hd => ?_
    have q := List.all_eq_true.mp h2 d hd
    unfold isTup1 at q
    split at q
    · exact ⟨_, _, rfl⟩
    · cases q
  · refine .inr fun d hd => ?_
    have q := List.all_eq_true.mp h2 d hd
    unfold isOth at q
    split at q <;> first | cases q | exact ⟨by rintro rfl; contradiction, by rintro xs rfl; contradiction⟩ | skip
    next a b => exact ⟨fun e => a e, fun xs e => b xs e⟩
def sortF : List D → Option D
  | [.list ds] => if sortOk ds = true then some (.list (isort ds)) else none
  | _ => none
def rSortD (K : PySem.W.Frag) : List V → Hp → VK → Prop := fun vs H Q => ∃ (a : Addr) (xs : List V) (ds : List D), vs = [V.ref a] ∧ SqL K H a xs ∧ DpAll K H xs ds ∧ sortOk ds = true ∧
  ∀ p ys (bs : List (V × D)), bs.Perm (xs.zip ds) → bs.map (·.2) = isort ds → ys = bs.map (·.1) → H p = none → Q (.ref p) (upd H p (.lst ys))
theorem vals_zip : ∀ {xs : List V} {its : List Value} (ds : List D), Vals xs its → ds.length = xs.length → PySem.W.EachIs (fun (u : Value) (b : V × D) => RelV b.1 u) its (xs.zip ds)
  | [], its, ds, r, h => by
    cases r
    cases ds with
    | nil => exact .nil
    | cons => simp at h
  | x :: xs, its, ds, r, h => by
    cases r with
    | cons r1 r2 =>
      cases ds with
      | nil => simp at h
      | cons d ds => exact .cons r1 (vals_zip ds r2 (by simpa using h))
theorem each_vals : ∀ {its : List Value} {bs : List (V × D)}, PySem.W.EachIs (fun (u : Value) (b : V × D) => RelV b.1 u) its bs → Vals (bs.map (·.1)) its
  | _, _, .nil => .nil
  | _, _, .cons h t => .cons h (each_vals t)
theorem dpAll_len {K : PySem.W.Frag} {H : Hp} : ∀ {vs : List V} {ds : List D}, DpAll K H vs ds → ds.length = vs.length
  | _, _, .nil => rfl
  | _, _, .cons _ t => by simp [dpAll_len t]
theorem reads_zip {X : Cx} {pins : List (Addr × Obj)} {s : Shared} {σ : L2.St} {H : Hp} (I : Inv X pins σ H s) : ∀ {xs : List V} {its : List Value} {ds : List D}, Vals xs its → DpAll X.K H xs ds → PySem.W.EachIs (fun (u : Value) (b : V × D) => ∃ as, Reads s.heap u b.2 as) its (xs.zip ds)
  | [], its, ds, r, h => by
    cases r
    cases h
    exact .nil
  | x :: xs, its, ds, r, h => by
    cases r with
    | cons r1 r2 =>
      cases h with
      | cons h1 h2 => exact .cons (Dp.reads I _ _ _ h1 r1) (reads_zip I r2 h2)
theorem call_sortD {X : Cx} (hu : X.A.units + 64 < cLine) : CallR X (.builtin "sorted") (rSortD X.K) := by
  intro pins s σ H vs us Q I r h
  obtain ⟨a, xs, ds, rfl, hs, hd, ok, q⟩ := h
  obtain ⟨al, so, pl, le, dp⟩ := sortOk_parts ok
  obtain ⟨its, rv, hl, hz⟩ := I.list hs
  obtain ⟨u, rfl, ru⟩ := vals1 r
  obtain rfl : u = Value.ref a := ru
  have hlen := dpAll_len hd
  have e2 : (xs.zip ds).map (·.2) = ds := List.map_snd_zip (by omega)
  refine PySem.W.sorted_data (enc := fun b : V × D => b.2) (R := fun u b => RelV b.1 u) (bs := xs.zip ds) hl.isList (vals_zip ds rv hlen) (reads_zip I rv hd) (by rw [e2]; exact al) (by rw [e2]; exact so) (by rw [List.length_zip]; omega) (fun b hb => ?_) fun out ho eo => ?_
  · have := dp b.2 (List.of_mem_zip (a := b.1) (b := b.2) hb).2
    omega
  · obtain ⟨n, hn⟩ := PyProof.Rows.sortedAll_at s.heap its out.toArray
    have v := each_vals eo
    have pm : ((xs.zip ds).mergeSort (PySem.W.dataLe false fun b : V × D => b.2)).Perm (xs.zip ds) := List.mergeSort_perm _ _
    have me := merge_isort (fun b : V × D => b.2) (xs.zip ds) (by rw [e2]; exact al)
    rw [e2] at me
    refine ⟨.ref (s.heap.objs.size + 1), upd H (s.heap.objs.size + 1) (.lst _), I.laid (t' := s.toks) (fun b o e => PyProof.Rows.sortedAll_old e) (Nat.le_succ _) ⟨?_, out, n, v, hn⟩, rfl, q _ _ _ pm me rfl (I.hok.fresh (Nat.le_succ _))⟩
    rw [List.length_map, pm.length_eq, List.length_zip]
    omega
theorem den_zip {F : Hp} : ∀ {ds : List D} {vs : List V}, DenL F ds vs → ∀ b ∈ vs.zip ds, Den F b.2 b.1
  | [], _, h, b, hb => by cases h; simp at hb
  | d :: ds, _, ⟨v, r, e, h, l⟩, b, hb => by
    subst e
    rw [List.zip_cons_cons] at hb
    rcases List.mem_cons.mp hb with rfl | hb
    · exact h
    · exact den_zip l b hb
theorem den_of_pairs {F : Hp} : ∀ {bs : List (V × D)}, (∀ b ∈ bs, Den F b.2 b.1) → DenL F (bs.map (·.2)) (bs.map (·.1))
  | [], _ => rfl
  | b :: bs, h => ⟨b.1, _, rfl, h b (List.mem_cons_self ..), den_of_pairs fun c hc => h c (List.mem_cons_of_mem _ hc)⟩
theorem okF_sort {K : PySem.W.Frag} : CallOkF (rSortD K) sortF := by
  intro F H vs ds z Q s hn hf q
  unfold sortF at hf
  split at hf
  · next es =>
    split at hf
    · next ok =>
      cases hf
      obtain ⟨v0, r0, rfl, h1, h2⟩ := hn
      cases h2
      obtain ⟨a, ws, rfl, e, l⟩ := h1.lst s
      obtain ⟨al, so, pl, le, dp⟩ := sortOk_parts ok
      refine ⟨a, ws, es, rfl, SqL.of e, DenL.dp s pl l, ok, fun p ys bs pm me ey hp => ?_⟩
      subst ey
      refine q p _ hp ?_
      show DenL F (isort es) (bs.map (·.1))
      rw [← me]
      exact den_of_pairs fun b hb => den_zip l b (pm.mem_iff.mp hb)
    · cases hf
  · cases hf
section
variable {X : Cx} {B : Bd} {EX : Str → Hp → Prop} {e : Expr} {es : List Expr} {pos : Pos} {tl : TA} {rl : M (List TV)} {x : Str} {p : Pos}
theorem jf_cb {id : String} {r : List V → Hp → VK → Prop} {f : List D → Option D} (hc : CallR X (.builtin id) r) (hk : CallOkF r f) (hv : bootBuiltins x = some (.builtin id)) (hm : X.mg x = none) (ha : JAR X B EX (e :: es) tl rl) (hg : Gl X x := by rfl) (hn : x ≠ "__name__" := by decide) (hdb : (x == ("__debug__" : Str)) = false := by decide)
    (he : starEach (e :: es) X.env = (false, eval e X.env) :: starEach es X.env := by rfl) (hpl : (backTo pos (starEach es X.env)).any (·.1) = false := by rfl) : JF X B EX (.Call (.Name x p) (e :: es) [] pos) (tCB r tl) (mCB f rl) := ⟨pe_callB hc hg hm hv ha.p hn hdb he hpl, evf_cb hk ha.v⟩
theorem cK_sort {K : PySem.W.Frag} (hK : X.K = K) (hu : X.A.units + 64 < cLine) : CallR X (.builtin "sorted") (rSortD K) := by subst hK; exact call_sortD hu
end
def max3F : List D → Option D
  | [.int i, .int j, .int k] => some (.int (if (if j > i then j else i) < k then k else (if j > i then j else i)))
  | _ => none
end Rn
end
section
set_option Elab.async false
set_option linter.all false
set_option autoImplicit false
set_option maxRecDepth 100000
namespace Rn
open PySem PySem.Spec L2
inductive RB where
  | ok (d d1 : D)
  | ex (c : Str) (d1 : D)
  | no
structure XB (F H : Hp) (a : Addr) (F' H' : Hp) : Prop where
  same : ∀ b x, b ≠ a → H b = some x → H' b = some x
  old : Same F F'
  sub : Same F' H'
  new : ∀ b x, F' b = some x → F b = some x ∨ H b = none
def spB (C : Str → Addr) (g : D → List D → RB) : Sp := fun vs H Q E => ∃ (F : Hp) (a : Addr) (o : HO) (d0 : D) (ds : List D) (ws : List V), vs = .ref a :: ws ∧ Same F H ∧ F a = none ∧ H a = some o ∧ Shal F d0 o ∧ DenL F ds ws ∧ (match g d0 ds with
  | .ok d d1 => ∀ v F' H' o', XB F H a F' H' → H' a = some o' → Shal F' d1 o' → F' a = none → Den F' d v → Q v H'
  | .ex c d1 => ∀ F' H' o', XB F H a F' H' → H' a = some o' → Shal F' d1 o' → F' a = none → E (.ref (C c)) none H'
  | .no => False)
def bwOf (ρ : Rho) : Option D := match ρ[(0 : Nat)]? with
  | some (.bw d) => some d
  | _ => none
def finB : Out → RB
  | .nx ρ => (match bwOf ρ with
    | some d1 => .ok .none d1
    | none => .no)
  | .rt d ρ => (match bwOf ρ with
    | some d1 => .ok d d1
    | none => .no)
  | .ex c ρ => (match bwOf ρ with
    | some d1 => .ex c d1
    | none => .no)
  | _ => .no
def callB (np n : Nat) (body : S) (d0 : D) (ds : List D) : RB := if ds.length + 1 = np then finB (body (Cell.bw d0 :: startR (n - 1) ds)) else .no
theorem spB_len {C : Str → Addr} {np n : Nat} {body : S} {vs : List V} {H : Hp} {Q : VK} {E : XK} (h : spB C (callB np n body) vs H Q E) : vs.length = np := by
  obtain ⟨F, a, o, d0, ds, ws, rfl, s, fa, ha, sh, l, q⟩ := h
  unfold callB at q
  by_cases e : ds.length + 1 = np
  · rw [List.length_cons, ← l.len]; exact e
  · simp only [if_neg e] at q
theorem start_consR {n : Nat} {ds : List D} : ∀ (j : Nat) (c : Cell), (startR n ds)[j]? = some c → c.own = true → False := fun j c e o => by
  have q := List.mem_of_getElem? e
  unfold startR at q
  rcases List.mem_append.mp q with q | q
  · obtain ⟨d, _, rfl⟩ := List.mem_map.mp q
    cases o
  · rw [(List.mem_replicate.mp q).2] at o; cases o
theorem start_mtB {F H : Hp} {a : Addr} {o : HO} {d0 : D} {ds : List D} {ws : List V} {y : Str} {N : List Str} (s : Same F H) (fa : F a = none) (ha : H a = some o) (sh : Shal F d0 o) (l : DenL F ds ws) :
    Mt ⟨H, F, [a], [], []⟩ F H (L2.start (y :: N) (.ref a :: ws)) (Cell.bw d0 :: startR N.length ds) := by
  have m0 := start_mt (N := N) s l
  have es : L2.start (y :: N) (.ref a :: ws) = some (.ref a) :: L2.start N ws := by
    simp [L2.start]
  rw [es]
  refine ⟨s, Same.refl _, fun _ _ e => .inl e, fun _ _ e _ _ => e, fun _ e => e, by simp [m0.len], fun j v c h1 h2 => ?_, fun j k b c c' h1 h2 h3 h4 h5 h6 => ?_, fun _ z => (nomatch z), fun _ z => (nomatch z)⟩
  · cases j with
    | zero => simp at h1 h2; subst h1; subst h2; exact ⟨a, o, rfl, ha, sh, fa, by simp⟩
    | succ j =>
      rw [List.getElem?_cons_succ] at h1 h2
      have g := m0.cell j v c h1 h2
      cases c with
      | no => trivial
      | fz d => exact g
      | ow d => exact (start_consR j _ h2 rfl).elim
      | va d => exact g
      | bw d => exact (start_consR j _ h2 rfl).elim
  · cases j with
    | succ j => rw [List.getElem?_cons_succ] at h3; exact (start_consR j _ h3 h5).elim
    | zero => cases k with
      | zero => rfl
      | succ k => rw [List.getElem?_cons_succ] at h4; exact (start_consR k _ h4 h6).elim
theorem mt_xb {F H F' H' : Hp} {a : Addr} {σ' : L2.St} {ρ' : Rho} {d1 : D} (m : Mt ⟨H, F, [a], [], []⟩ F' H' σ' ρ') (e : bwOf ρ' = some d1) : XB F H a F' H' ∧ F' a = none ∧ ∃ o', H' a = some o' ∧ Shal F' d1 o' := by
  unfold bwOf at e
  split at e
  · next d hd =>
    cases e
    have hl : 0 < σ'.length := by rw [← m.len]; exact (List.getElem?_eq_some_iff.mp hd).1
    obtain ⟨b, o, k1, k2, k3, k4, k5⟩ := m.cell 0 _ _ (List.getElem?_eq_getElem hl) hd
    have eb : b = a := by simpa using k5
    subst eb
    exact ⟨⟨fun b x hb z => m.frm b x z (by simpa using hb) (fun _ z => (nomatch z)), m.old, m.sub, m.new⟩, k4, o, k2, k3⟩
  · cases e
theorem body_okB {C : Str → Addr} {np : Nat} {body : S} {y : Str} {N : List Str} {vs : List V} {H : Hp} {Q : VK} {E : XK} {t : TS} (h : spB C (callB np (y :: N).length body) vs H Q E)
    (ev : ∀ F a, EvS ⟨H, F, [a], [], []⟩ (fun c H' => E (.ref (C c)) none H') t body) : t { nx := fun _ H' => Q .non H', rt := Q } (L2.start (y :: N) vs) H := by
  obtain ⟨F, a, o, d0, ds, ws, rfl, s, fa, ha, sh, l, q⟩ := h
  unfold callB at q
  by_cases e : ds.length + 1 = np
  · simp only [if_pos e] at q
    refine ev F a F H _ (Cell.bw d0 :: startR N.length ds) _ (start_mtB s fa ha sh l) ?_
    rw [List.length_cons, Nat.add_sub_cancel] at q
    cases e2 : body (Cell.bw d0 :: startR N.length ds) with
    | nx r =>
      rw [e2] at q
      intro σ' F' H' m _
      simp only [finB] at q
      cases e3 : bwOf r with
      | none => rw [e3] at q; exact q.elim
      | some d1 =>
        rw [e3] at q
        obtain ⟨k1, k2, o', k3, k4⟩ := mt_xb m e3
        exact q .non F' H' o' k1 k3 k4 k2 rfl
    | rt d r =>
      rw [e2] at q
      intro v σ' F' H' m _ dv
      simp only [finB] at q
      cases e3 : bwOf r with
      | none => rw [e3] at q; exact q.elim
      | some d1 =>
        rw [e3] at q
        obtain ⟨k1, k2, o', k3, k4⟩ := mt_xb m e3
        exact q v F' H' o' k1 k3 k4 k2 dv
    | ex c r =>
      rw [e2] at q
      intro σ' F' H' m
      simp only [finB] at q
      cases e3 : bwOf r with
      | none => rw [e3] at q; exact q.elim
      | some d1 =>
        rw [e3] at q
        obtain ⟨k1, k2, o', k3, k4⟩ := mt_xb m e3
        exact q F' H' o' k1 k3 k4 k2
    | rf d r => rw [e2] at q; exact q.elim
    | bk r => rw [e2] at q; exact q.elim
    | ct r => rw [e2] at q; exact q.elim
    | no => rw [e2] at q; exact q.elim
  · simp only [if_neg e] at q
def mCallB (g : D → List D → RB) (i : Nat) (fa : M (List D)) : M D := fun ρ => match cellD ρ[i]? with
  | some _ => bnd fa (fun ds => fun ρ => match cellD ρ[i]? with
    | some d0 => (match g d0 ds with
      | .ok d d1 => (match putCell ρ i d1 with
        | some r => .ok d r
        | none => .no)
      | .ex c d1 => (match putCell ρ i d1 with
        | some r => .ex c r
        | none => .no)
      | .no => .no)
    | none => .no) ρ
  | none => .no
/-- a promise that tells of no raising -/
def noEx (g : D → List D → RB) (d : D) (ds : List D) : RB := match g d ds with
  | .ok d d1 => .ok d d1
  | _ => .no
theorem noEx_ne {g : D → List D → RB} {d : D} {ds : List D} {c : Str} {d1 : D} : noEx g d ds ≠ .ex c d1 := by
  unfold noEx
  split <;> simp
theorem spB_noEx {C : Str → Addr} {g : D → List D → RB} {vs : List V} {H : Hp} {Q : VK} {E : XK} (h : spB C (noEx g) vs H Q E) : spB C g vs H Q E := by
  obtain ⟨F, a, o, d0, ds, ws, e, s, fa, ha, sh, l, q⟩ := h
  refine ⟨F, a, o, d0, ds, ws, e, s, fa, ha, sh, l, ?_⟩
  unfold noEx at q
  cases e2 : g d0 ds with
  | ok d d1 => simp only [e2] at q; exact q
  | ex c d1 => simp only [e2] at q
  | no => simp only [e2] at q
theorem XB.stp {B : Bd} {F H F' H' : Hp} {σ : L2.St} {ρ ρ' : Rho} {i : Nat} {a : Addr} {d1 : D} {o' : HO} (m : Mt B F H σ ρ) (x : XB F H a F' H') (ha : σ[i]? = some (some (.ref a))) (hp : putCell ρ i d1 = some ρ') (h1 : H' a = some o') (h2 : Shal F' d1 o') (h3 : F' a = none) : Stp B F H σ ρ F' H' ρ' := by
  obtain ⟨b, o, e, k1, k2, k3, k4, k5⟩ := m.putCell hp
  rw [ha] at k1
  cases k1
  have ex : Ext F H F' (upd H' a o) := by
    refine ⟨fun b u z => ?_, x.old, fun b u z => ?_, x.new⟩
    · by_cases hb : b = a
      · subst hb; rw [upd_same, ← k3]; exact z
      · rw [upd_ne hb]; exact x.same b u hb z
    · have hb : b ≠ a := fun w => by subst w; rw [h3] at z; cases z
      rw [upd_ne hb]; exact x.sub _ _ z
  have st1 := m.ext ex
  obtain ⟨b2, o2, e2, j1, j2, j3, j4, j5⟩ := st1.mt.putCell hp
  rw [ha] at j1
  cases j1
  have st2 := j5 o' h2
  have eh : upd (upd H' a o) a o' = H' := by
    funext b
    by_cases hb : b = a
    · subst hb; rw [upd_same]; exact h1.symm
    · rw [upd_ne hb, upd_ne hb]
  rw [eh] at st2
  exact st1.trans st2
theorem ev_callB {B : Bd} {EX : Str → Hp → Prop} {C : Str → Addr} {g : D → List D → RB} {i : Nat} {E : XK} {ta : TA} {fa : M (List D)} (hE : ∀ d ds c d1, g d ds = .ex c d1 → ∀ H, EX c H → E (.ref (C c)) none H) (ha : Ev B EX VL ta fa) : Ev B EX VD (tCall (spB C g) [] E (tCons (tVar i) ta)) (mCallB g i fa) := by
  intro F H σ ρ Q m q
  unfold mCallB at q
  cases e0 : cellD ρ[i]? with
  | none => rw [e0] at q; exact q.elim
  | some d =>
    rw [e0] at q
    simp only at q
    obtain ⟨v, hv, _⟩ := slot_at m e0
    refine ⟨v, hv, ?_⟩
    refine ha F H σ ρ _ m ?_
    unfold bnd at q
    cases e : fa ρ with
    | no => rw [e] at q; exact q
    | ex c r => rw [e] at q; exact q
    | ok ds r =>
      rw [e] at q
      intro ws F1 H1 x1 l
      simp only at q
      cases e1 : cellD r[i]? with
      | none => rw [e1] at q; exact q.elim
      | some d0 =>
        rw [e1] at q
        simp only at q
        rw [List.append_nil]
        cases e2 : g d0 ds with
        | no => rw [e2] at q; exact q.elim
        | ok d2 d1 =>
          rw [e2] at q
          simp only at q
          cases e3 : putCell r i d1 with
          | none => rw [e3] at q; exact q.elim
          | some r2 =>
            rw [e3] at q
            simp only at q
            obtain ⟨a, o, e', k1, k2, k3, k4, k5⟩ := x1.mt.putCell e3
            rw [hv] at k1
            cases k1
            rw [e1] at k2
            cases k2
            refine ⟨F1, a, o, d0, ds, ws, rfl, x1.mt.sub, ?_, k3, k4, l, ?_⟩
            · have ow : Owns σ r a := by
                unfold Rn.putCell at e3
                cases e4 : r[i]? with
                | none => rw [e4] at e3; cases e3
                | some c => cases c with
                  | no => rw [e4] at e3; cases e3
                  | fz d => rw [e4] at e3; cases e3
                  | ow d => exact ⟨i, _, hv, e4, rfl⟩
                  | va d => rw [e4] at e3; cases e3
                  | bw d => exact ⟨i, _, hv, e4, rfl⟩
              exact (x1.mt.hasOwn ow).1
            · rw [e2]
              exact fun u F' H' o' x h1 h2 h3 du => q u F' H' (x1.trans (x.stp x1.mt hv e3 h1 h2 h3)) du
        | ex c d1 =>
          rw [e2] at q
          simp only at q
          cases e3 : putCell r i d1 with
          | none => rw [e3] at q; exact q.elim
          | some r2 =>
            rw [e3] at q
            simp only at q
            obtain ⟨a, o, e', k1, k2, k3, k4, k5⟩ := x1.mt.putCell e3
            rw [hv] at k1
            cases k1
            rw [e1] at k2
            cases k2
            refine ⟨F1, a, o, d0, ds, ws, rfl, x1.mt.sub, ?_, k3, k4, l, ?_⟩
            · have ow : Owns σ r a := by
                unfold Rn.putCell at e3
                cases e4 : r[i]? with
                | none => rw [e4] at e3; cases e3
                | some c => cases c with
                  | no => rw [e4] at e3; cases e3
                  | fz d => rw [e4] at e3; cases e3
                  | ow d => exact ⟨i, _, hv, e4, rfl⟩
                  | va d => rw [e4] at e3; cases e3
                  | bw d => exact ⟨i, _, hv, e4, rfl⟩
              exact (x1.mt.hasOwn ow).1
            · rw [e2]
              exact fun F' H' o' x h1 h2 h3 => hE _ _ _ _ e2 H' (q F' H' (x1.trans (x.stp x1.mt hv e3 h1 h2 h3)))
end Rn
end
section
set_option Elab.async false
set_option linter.all false
set_option autoImplicit false
set_option maxRecDepth 100000
namespace Rn
open PySem PySem.Spec L2
/-- a def of the text that is lent its first list -/
def DefB (P : Program) (w : World) (K : PySem.W.Frag) (mg : Str → Option Value) (base : Heap) (CX : CXT) (C : Str → Addr) (x : Str) (ps : List Str) (k : Nat) (g : D → List D → RB) : Prop :=
  ∃ f fd, FnOk P w K mg base CX k f fd ps (spB C g) ∧ mg x = some (.ref f) ∧ PySem.W.keepIn K (.ref f) = true ∧ Binds K fd ps []
section
variable {X : Cx} {B : Bd} {EX : Str → Hp → Prop} {es : List Expr} {pos : Pos} {tl : TA} {fl : M (List D)} {x y : Str} {p p1 : Pos}
theorem je_callB0 (i : Nat) {C : Str → Addr} {ps : List Str} {k j : Nat} {g : D → List D → RB} (d : DefB X.prog X.w X.K X.mg X.base CX0 C x ps k (noEx g)) (hr : Room j X.A) (ha : JA X B EX es tl fl) (hkj : k ≤ j := by decide) (hg : Gl X x := by rfl) (hdb : (x == ("__debug__" : Str)) = false := by decide)
    (hN : X.N[i]? = some y := by rfl) (hv : Vis X.env.scope y := by first | exact Or.inl rfl | exact Or.inr (Or.inl rfl) | exact Or.inr (Or.inr rfl)) (hd : (y == ("__debug__" : Str)) = false := by decide) (hcd : (y == ("__classdict__" : Str)) = false := by decide)
    (he : starEach (.Name y p1 :: es) X.env = (false, eval (.Name y p1) X.env) :: starEach es X.env := by rfl) (hpl : (backTo pos (starEach es X.env)).any (·.1) = false := by rfl) : JE X B EX (.Call (.Name x p) (.Name y p1 :: es) [] pos) (tCall (spB C (noEx g)) [] E0 (tCons (tVar i) tl)) (mCallB (noEx g) i fl) := by
  obtain ⟨f, fd, F, hm, hk, hb⟩ := d
  exact ⟨pe_call F (hr.mono hkj) hg hm hk hb .nil pass0 (pa_cons (pv i hN hv hd hcd) ha.p he) hdb he hpl, ev_callB (fun _ _ _ _ e => (noEx_ne e).elim) ha.v⟩
end
section
variable {P : Program} {w : World} {K : PySem.W.Frag} {mg : Str → Option Value} {base : Heap} {C : Str → Addr}
theorem def_b0 {x y : Str} {st : Stmt} {N ps : List Str} {k : Nat} {body : S} (h : HasF K mg x st ps) (Sc : FnScope (y :: N) ps (defScope st))
    (hb : ∀ (f : Addr) (cdv : Value) (A : Around) (outer : List Env) (s : Shared) (H : Hp) (E : XK), Room k (A.deeper (PyProof.Rows.envOfC x (defScope st) s.heap.objs.size f cdv)) →
      ∃ t, ∀ (B : Bd) (EX : Str → Hp → Prop), JSs (cxOf CX0 P w K mg base (y :: N) x (defScope st) f cdv A outer s H E).nox B EX (defBody st) t body) :
    DefB P w K mg base CX0 C x ps (k + 1) (noEx (callB ps.length (y :: N).length body)) := by
  obtain ⟨f, fd, F, hm, hbd⟩ := h
  refine ⟨f, fd, F.ok Sc (fun vs H Q E h => spB_len (spB_noEx h)) (fun cdv A outer s H vs Q E hr h => ?_), hm, F.kp, hbd⟩
  obtain ⟨t, ht⟩ := hb f cdv A outer s H E hr
  exact ⟨t, PSs.nox (ht ⟨H, H, [], [], []⟩ EX0).p, body_okB (spB_noEx h) fun F a => (ht _ _).v⟩
end
end Rn
end
section
set_option Elab.async false
set_option linter.all false
set_option autoImplicit false
set_option maxRecDepth 100000
namespace Rn
open PySem PySem.Spec L2
theorem sql_same {K : PySem.W.Frag} {H H' : Hp} {a : Addr} {xs : List V} (s : Same H H') (h : SqL K H a xs) : SqL K H' a xs := by
  rcases h with (h | ⟨o, h⟩) | h
  · exact .inl (.inl (s _ _ h))
  · exact .inl (.inr ⟨o, s _ _ h⟩)
  · exact .inr h
theorem dpAll_ints {K : PySem.W.Frag} {H : Hp} : ∀ ns : List Int, DpAll K H (ns.map V.int) (ns.map PyData.int)
  | [] => .nil
  | n :: ns => .cons (.int n) (dpAll_ints ns)
theorem plain_ints : ∀ ns : List Int, PyData.plainAll (ns.map PyData.int) = true
  | [] => rfl
  | n :: ns => by
    show (PyData.plain (.int n) && PyData.plainAll (ns.map PyData.int)) = true
    rw [plain_ints ns]
    rfl
abbrev rMaxI : List V → Hp → VK → Prop := fun xs H Q => ∃ i j, xs = [.int i, .int j] ∧ Q (.int (if j > i then j else i)) H
abbrev rMinI : List V → Hp → VK → Prop := fun xs H Q => ∃ i j, xs = [.int i, .int j] ∧ Q (.int (if j < i then j else i)) H
abbrev rModI : R2 := rI (fun _ j => 0 < j) fun i j => .int (i % j)
abbrev rFdivI : R2 := rI CDivW fun i j => .int (i / j)
abbrev tLenS (K : PySem.W.Frag) : TE := tCB (rLenK K) (tCons (tVar 0) tNil)
/-- _law_cell -/
def tCellS (K : PySem.W.Frag) : TS := tSeq (tIfS (tTest (tOp (rEqP K) (tVar 0) (tLst tNil))) (tRet (tOp (rMulA K) (tVar 1) (tC (.int 7919)))) tNext)
  (tRet (tOp (rAddA K) (tOp (rIx K) (tVar 0) (tOp rModI (tVar 1) (tLenS K))) (tOp (rMulA K) (tOp rFdivI (tVar 1) (tLenS K)) (tC (.int 104729)))))
def spCellS (K : PySem.W.Frag) : Sp := fun vs H Q _ => ∃ (a : Addr) (ns : List Int) (k : Int), vs = [.ref a, .int k] ∧ SqL K H a (ns.map V.int) ∧ ns.length ≤ 63 ∧ 0 ≤ k ∧ ∀ c H', Same H H' → Q (.int c) H'
theorem cell_run {K : PySem.W.Frag} {vs : List V} {H : Hp} {Q : VK} {E : XK} (h : spCellS K vs H Q E) : tCellS K { nx := fun _ H' => Q .non H', rt := Q } (L2.start ["script", "k"] vs) H := by
  obtain ⟨a, ns, k, rfl, hs, hn, hk, q⟩ := h
  refine ⟨.ref a, rfl, by decide, fun p hp => ?_⟩
  have s1 : Same H (upd H p (.lst [])) := same_upd hp
  have hs1 := sql_same s1 hs
  refine ⟨.list (ns.map PyData.int), .list [], .lst hs1 (dpAll_ints ns), .lst (SqL.of upd_same) .nil, ?_, _, rfl, ?_⟩
  · unfold dOk
    rw [show PyData.plain (.list (ns.map PyData.int)) = PyData.plainAll (ns.map PyData.int) from rfl, plain_ints]
    have : (PyData.depth (.list [])) ≤ 64 := by decide
    simp only [Bool.true_and, show PyData.plain (.list []) = true from rfl, decide_eq_true_eq]
    omega
  · have ixs : ns ≠ [] → tRet (tOp (rAddA K) (tOp (rIx K) (tVar 0) (tOp rModI (tVar 1) (tLenS K))) (tOp (rMulA K) (tOp rFdivI (tVar 1) (tLenS K)) (tC (.int 104729)))) { nx := fun _ H' => Q .non H', rt := Q } (L2.start ["script", "k"] [.ref a, .int k]) (upd H p (.lst [])) := by
      intro hne
      have hpos : 0 < ns.length := List.length_pos_iff.mpr hne
      have hl : ((ns.map V.int).length : Int) = (ns.length : Int) := by rw [List.length_map]
      have h63 : (ns.length : Int).natAbs.log2 < 9000 := by
        have e : (ns.length : Int).natAbs = ns.length := by omega
        rw [e]
        exact Nat.lt_of_le_of_lt (Nat.log2_le_self _) (by omega)
      have hm1 := Int.emod_nonneg k (show (ns.length : Int) ≠ 0 by omega)
      have hm2 := Int.emod_lt_of_pos k (show (0 : Int) < ns.length by omega)
      have hj : (k % (ns.length : Int)).toNat < ns.length := by omega
      refine ⟨.ref a, rfl, .int k, rfl, .ref a, rfl, .ref a, (ns.map V.int).length, rfl, .inl ⟨_, hs1, rfl⟩, k, ((ns.map V.int).length : Int), rfl, rfl, by rw [hl]; omega, ?_⟩
      refine .inl ⟨a, ns.map V.int, k % ((ns.map V.int).length : Int), .int (ns[(k % (ns.length : Int)).toNat]), rfl, rfl, hs1, ?_, ?_⟩
      · rw [hl]
        unfold atI ixN
        rw [if_pos hm1]
        rw [List.length_map, if_pos hm2]
        show (ns.map V.int)[(k % (ns.length : Int)).toNat]? = _
        simp [hj]
      · refine ⟨.int k, rfl, .ref a, rfl, .ref a, (ns.map V.int).length, rfl, .inl ⟨_, hs1, rfl⟩, k, ((ns.map V.int).length : Int), rfl, rfl, ⟨by rw [hl]; omega, by rw [hl]; exact h63⟩, ?_⟩
        refine .inl (.inl (.inl ⟨_, 104729, rfl, rfl, .inr ⟨by decide, by decide⟩, ?_⟩))
        exact .inl (.inl (.inl ⟨_, _, rfl, rfl, q _ _ s1⟩))
    cases ns with
    | nil =>
      show if PyData.eqv (.list (([] : List Int).map PyData.int)) (.list []) = true then _ else _
      rw [if_pos (by decide)]
      refine ⟨.int k, rfl, .inl (.inl (.inl ⟨k, 7919, rfl, rfl, .inr ⟨by decide, by decide⟩, q _ _ s1⟩))⟩
    | cons n ns =>
      show if PyData.eqv (.list ((n :: ns).map PyData.int)) (.list []) = true then _ else _
      rw [if_neg (by
        show ¬ PyData.eqvAll (PyData.int n :: ns.map PyData.int) [] = true
        unfold PyData.eqvAll
        decide)]
      exact ixs (by simp)
/-- _law_rounds -/
def tRoundsS (K : PySem.W.Frag) : TS := tRet (tLc (iRng1 (tCons (tCB rMaxI (tCons (tC (.int 1)) (tCons (tCB rMinI (tCons (tVar 1) (tCons (tLenS K) tNil))) tNil))) tNil)) (gName 2) tYes
  (tLst (tCons (tCall (spCellS K) [] E0 (tCons (tVar 0) (tCons (tVar 2) tNil))) (tCons (tC (.int 0)) tNil))) [2])
def IsRounds (H : Hp) (p : Addr) (as : List Addr) (cs : List Int) : Prop := as.length = cs.length ∧ (p :: as).Nodup ∧ H p = some (.lst (as.map V.ref)) ∧ ∀ (i : Nat) a c, as[i]? = some a → cs[i]? = some c → H a = some (.lst [.int c, .int 0])
def spRoundsS (K : PySem.W.Frag) : Sp := fun vs H Q _ => ∃ (a : Addr) (ns : List Int) (m : Int), vs = [.ref a, .int m] ∧ SqL K H a (ns.map V.int) ∧ ns.length ≤ 63 ∧ m ≤ 63 ∧ ∀ p as cs H', Same H H' → IsRounds H' p as cs → Q (.ref p) H'
theorem rounds_run {K : PySem.W.Frag} {vs : List V} {H : Hp} {Q : VK} {E : XK} (h : spRoundsS K vs H Q E) : tRoundsS K { nx := fun _ H' => Q .non H', rt := Q } (L2.start ["script", "most", "k"] vs) H := by
  obtain ⟨a, ns, m, rfl, hs, hn, hm, q⟩ := h
  refine ⟨.int m, rfl, .ref a, rfl, .ref a, (ns.map V.int).length, rfl, .inl ⟨_, hs, rfl⟩, m, ((ns.map V.int).length : Int), rfl, 1, _, rfl, ?_⟩
  generalize hj : (if (if ((ns.map V.int).length : Int) < m then ((ns.map V.int).length : Int) else m) > 1 then (if ((ns.map V.int).length : Int) < m then ((ns.map V.int).length : Int) else m) else 1) = j
  have hl : ((ns.map V.int).length : Int) = (ns.length : Int) := by rw [List.length_map]
  rw [hl] at hj
  have j1 : 0 ≤ j ∧ j ≤ 63 := by
    subst hj
    split <;> split <;> omega
  refine ⟨j, rfl, by omega, by omega, fun Dd hD => ?_⟩
  generalize hnn : j.toNat = n
  refine ⟨fun i k Hc => i + k = n ∧ Same H Hc ∧ ∃ as cs, as.length = i ∧ IsRounds Hc Dd as cs, ⟨n, by omega, same_upd hD, [], [], rfl, rfl, by simp, upd_same, fun i a c e => by simp at e⟩, ?_⟩
  rintro i k Hc ⟨hik, hsame, as, cs, hli, hla, nd, hp, hel⟩
  by_cases hi : i < n
  · refine .inr ⟨hi, fun Hc => (i + 1) + (k - 1) = n ∧ Same H Hc ∧ ∃ as cs, as.length = i + 1 ∧ IsRounds Hc Dd as cs, fun H' hN => ⟨k - 1, by omega, hN⟩, ?_⟩
    rintro x H' ⟨rfl, rfl⟩
    refine ⟨rfl, ?_⟩
    unfold tYes
    simp only [if_true]
    refine ⟨.ref a, rfl, .int ((0 : Int) + (i : Nat)), rfl, a, ns, _, rfl, sql_same hsame hs, hn, by omega, fun c H2 s2 => ?_⟩
    refine ⟨fewer (by simp), fun p2 hp2 => ?_⟩
    have ne : Dd ≠ p2 := fun z => by rw [z] at hp; rw [s2 _ _ hp] at hp2; cases hp2
    refine ⟨as.map V.ref, by rw [upd_ne ne]; exact s2 _ _ hp, ?_, ?_⟩
    · rw [List.length_map, hli]
      have : n ≤ 63 := by omega
      exact Nat.lt_of_lt_of_le hi (Nat.le_trans this (by decide))
    · have na : p2 ∉ as := fun z => by
        obtain ⟨t, ht, e⟩ := List.mem_iff_getElem.mp z
        have h2 := hel t p2 cs[t] (by rw [List.getElem?_eq_getElem ht, e]) (List.getElem?_eq_getElem (by omega))
        rw [s2 _ _ h2] at hp2; cases hp2
      have ndD := (List.nodup_cons.mp nd)
      refine ⟨by omega, fun b o z => ?_, as ++ [p2], cs ++ [c], by simp [hli], by simp [hla], ?_, by rw [upd_same]; simp, fun t b d e1 e2 => ?_⟩
      · have b1 : b ≠ Dd := fun w => by subst w; rw [hD] at z; cases z
        have b2 : b ≠ p2 := fun w => by subst w; rw [s2 _ _ (hsame _ _ z)] at hp2; cases hp2
        rw [upd_ne b1, upd_ne b2]
        exact s2 _ _ (hsame _ _ z)
      · rw [List.nodup_cons, List.nodup_append]
        refine ⟨?_, ndD.2, by simp, ?_⟩
        · simp only [List.mem_append, List.mem_singleton, not_or]
          exact ⟨ndD.1, ne⟩
        · intro u hu w hw
          simp at hw
          subst hw
          exact fun z => na (z ▸ hu)
      · rw [List.getElem?_append] at e1 e2
        by_cases ht : t < as.length
        · rw [if_pos ht] at e1
          rw [if_pos (by omega)] at e2
          have hb : b ∈ as := List.mem_of_getElem? e1
          have b1 : b ≠ Dd := fun w => ndD.1 (w ▸ hb)
          have b2 : b ≠ p2 := fun w => na (w ▸ hb)
          rw [upd_ne b1, upd_ne b2]
          exact s2 _ _ (hel t b d e1 e2)
        · rw [if_neg ht] at e1
          rw [if_neg (by omega)] at e2
          have t0 : t - as.length = 0 := by
            have := (List.getElem?_eq_some_iff.mp e1).1
            simp at this
            omega
          rw [t0] at e1
          rw [show t - cs.length = 0 by omega] at e2
          simp at e1 e2
          subst e1; subst e2
          rw [upd_ne (fun w => ne w.symm), upd_same]
  · exact .inl ⟨by show n ≤ i; omega, q Dd as cs Hc hsame ⟨hla, nd, hp, hel⟩⟩
/-- a block leaves as many slots as it finds -/
def tLn (n : Nat) (t : TS) : TS := fun D σ H => t ⟨fun σ' H' => σ'.length = n → D.nx σ' H', D.rt, fun σ' H' => σ'.length = n → D.bk σ' H', fun σ' H' => σ'.length = n → D.ct σ' H'⟩ σ H
theorem pss_ln {X : Cx} {st : List Stmt} {t : TS} (h : PSs X st t) : PSs X st (tLn X.N.length t) := by
  refine ⟨fun pins s σ H D I hw => ?_⟩
  refine thn (h.run pins s σ H _ I hw) fun f s1 q => ?_
  cases f with
  | next => obtain ⟨σ', H', I2, q⟩ := q; exact ⟨σ', H', I2, q I2.len⟩
  | brk => obtain ⟨σ', H', I2, q⟩ := q; exact ⟨σ', H', I2, q I2.len⟩
  | cont => obtain ⟨σ', H', I2, q⟩ := q; exact ⟨σ', H', I2, q I2.len⟩
  | ret v => exact q
/-- a def of the text by its promise -/
def DefS (P : Program) (w : World) (K : PySem.W.Frag) (mg : Str → Option Value) (base : Heap) (CX : CXT) (x : Str) (ps : List Str) (k : Nat) (sp : Sp) : Prop :=
  ∃ f fd, FnOk P w K mg base CX k f fd ps sp ∧ mg x = some (.ref f) ∧ PySem.W.keepIn K (.ref f) = true ∧ Binds K fd ps []
/-- the body of the loop that begins a block -/
def forBody : List Stmt → List Stmt
  | .For _ _ b _ _ :: _ => b
  | _ => []
/-- law: a loop over the rounds -/
def tLawS (K : PySem.W.Frag) (n : Nat) (m : Int) (tb : TS) : TS := tSeq (tFor (iSeq K (tCall (spRoundsS K) [] E0 (tCons (tVar 0) (tCons (tC (.int m)) tNil)))) (gName 1) (tLn n tb)) (tRet (tC (.bl true)))
def spLawS (K : PySem.W.Frag) (T : List (Addr × Str)) : Sp := fun vs H Q _ => ∃ (a : Addr) (ns : List Int), vs = [.ref a] ∧ SqL K H a (ns.map V.int) ∧ ns.length ≤ 63 ∧ LamX.Tabs T H ∧ ∀ H', Q (.bl true) H'
/-- what a round starts with -/
def rho0 (n : Nat) (c : Int) : Rho := Cell.no :: Cell.bw (.list [.int c, .int 0]) :: List.replicate (n - 2) Cell.no
def RoundOk (n : Nat) (fb : S) : Prop := ∀ c : Int, ∃ r, fb (rho0 n c) = .nx r ∨ fb (rho0 n c) = .ct r
theorem rho0_get {n : Nat} {c : Int} {j : Nat} {x : Cell} (h : (rho0 n c)[j]? = some x) : (j = 1 ∧ x = .bw (.list [.int c, .int 0])) ∨ x = .no := by
  unfold rho0 at h
  match j with
  | 0 => simp at h; exact .inr h.symm
  | 1 => simp at h; exact .inl ⟨rfl, h.symm⟩
  | j + 2 =>
    simp only [List.getElem?_cons_succ] at h
    exact .inr (List.mem_replicate.mp (List.mem_of_getElem? h)).2
theorem law_run {K : PySem.W.Frag} {T : List (Addr × Str)} {N : List Str} {m : Int} {tb : TS} {fb : S} {vs : List V} {H : Hp} {Q : VK} {E : XK} (hN : 2 ≤ N.length) (hm : m ≤ 63) {EX : Str → Hp → Prop} (ev : ∀ B : Bd, B.T = T → EvS B EX tb fb) (ok : RoundOk N.length fb) (h : spLawS K T vs H Q E) :
    tLawS K N.length m tb { nx := fun _ H' => Q .non H', rt := Q } (L2.start N vs) H := by
  obtain ⟨a, ns, rfl, hs, hn, hT, q⟩ := h
  refine ⟨.ref a, by simp [L2.start], a, ns, m, rfl, hs, hn, hm, fun p as cs H1 sH1 R1 => ?_⟩
  refine ⟨p, rfl, .inl ⟨⟨_, SqL.of R1.2.2.1⟩, ?_⟩⟩
  refine ⟨fun i k σc Hc => LamX.Tabs T Hc ∧ i + k = as.length ∧ σc.length = N.length ∧ Hc p = some (.lst (as.map V.ref)) ∧ ∀ (j : Nat) b d, i ≤ j → as[j]? = some b → cs[j]? = some d → Hc b = some (.lst [.int d, .int 0]), ⟨as.length, hT.ext sH1, by omega, by simp [L2.start]; omega, R1.2.2.1, fun j b d _ => R1.2.2.2 j b d⟩, ?_⟩
  rintro i k σc Hc ⟨hT, hik, hsl, hp, hel⟩
  have hsq : SqL K Hc p (as.map V.ref) := SqL.of hp
  by_cases hi : i < as.length
  · have hic : i < cs.length := by rw [← R1.1]; exact hi
    refine .inr ⟨⟨as.map V.ref, .ref as[i], hsq, by simp [hi]⟩, fun σ' H' => LamX.Tabs T H' ∧ (i + 1) + (k - 1) = as.length ∧ σ'.length = N.length ∧ H' p = some (.lst (as.map V.ref)) ∧ ∀ (j : Nat) b d, i + 1 ≤ j → as[j]? = some b → cs[j]? = some d → H' b = some (.lst [.int d, .int 0]), fun σ' H' hN => ⟨k - 1, by omega, hN⟩, ?_⟩
    rintro x H' ⟨rfl, hx⟩
    have ex := hx _ hsq
    simp [hi] at ex
    subst ex
    have hai := hel i as[i] cs[i] (Nat.le_refl _) (List.getElem?_eq_getElem hi) (List.getElem?_eq_getElem hic)
    have nd := R1.2.1
    have np : p ∉ as := (List.nodup_cons.mp nd).1
    have nda := (List.nodup_cons.mp nd).2
    have hpa : p ≠ as[i] := fun z => np (z ▸ List.getElem_mem hi)
    have ml : (rho0 N.length cs[i]).length = (σc.set 1 (some (.ref as[i]))).length := by
      rw [List.length_set, hsl]
      simp [rho0]
      omega
    have m0 : Mt ⟨H', fun _ => none, [as[i]], T, []⟩ (fun _ => none) H' (σc.set 1 (some (.ref as[i]))) (rho0 N.length cs[i]) := by
      refine ⟨fun _ _ z => (nomatch z), fun _ _ z => (nomatch z), fun _ _ z => (nomatch z), fun _ _ z _ _ => z, fun _ z => z, ml, fun j v c h1 h2 => ?_, fun j l b c c' h1 h2 h3 h4 h5 h6 => ?_, hT, fun _ _ => rfl⟩
      · rcases rho0_get h2 with ⟨rfl, rfl⟩ | rfl
        · have l1 : 1 < σc.length := by omega
          rw [List.getElem?_set_self l1] at h1
          cases h1
          exact ⟨as[i], _, rfl, hai, ⟨.int cs[i], [.int 0], rfl, rfl, .int 0, [], rfl, rfl, rfl⟩, rfl, by simp⟩
        · trivial
      · rcases rho0_get h3 with ⟨rfl, rfl⟩ | rfl
        · rcases rho0_get h4 with ⟨rfl, rfl⟩ | rfl
          · rfl
          · cases h6
        · cases h5
    refine ev ⟨H', fun _ => none, [as[i]], T, []⟩ rfl (fun _ => none) H' _ (rho0 N.length cs[i]) _ m0 ?_
    have fin : ∀ (r : Rho) (σ' : L2.St) (F' H2 : Hp), Mt ⟨H', fun _ => none, [as[i]], T, []⟩ F' H2 σ' r → σ'.length = N.length → LamX.Tabs T H2 ∧ (i + 1) + (k - 1) = as.length ∧ σ'.length = N.length ∧ H2 p = some (.lst (as.map V.ref)) ∧ ∀ (j : Nat) b d, i + 1 ≤ j → as[j]? = some b → cs[j]? = some d → H2 b = some (.lst [.int d, .int 0]) := by
      intro r σ' F' H2 mt hr
      refine ⟨mt.tabs, by omega, hr, mt.frm p _ hp (by simpa using hpa) (tabs_at hT (ld_tbl hp (.inl ⟨_, rfl⟩))), fun j b d hj e1 e2 => mt.frm b _ (hel j b d (by omega) e1 e2) ?_ (tabs_at hT (ld_tbl (hel j b d (by omega) e1 e2) (.inl ⟨_, rfl⟩)))⟩
      intro z
      have hb : b = as[i] := by simpa using z
      obtain ⟨hjl, e1'⟩ := List.getElem?_eq_some_iff.mp e1
      have : i = j := (List.getElem_inj nda).mp (hb.symm.trans e1'.symm)
      omega
    obtain ⟨r, hr | hr⟩ := ok cs[i]
    · rw [hr]
      exact fun σ' F' H2 mt _ hl => fin r σ' F' H2 mt hl
    · rw [hr]
      exact fun σ' F' H2 mt _ hl => fin r σ' F' H2 mt hl
  · refine .inl ⟨⟨as.map V.ref, hsq, by simp; omega⟩, q Hc⟩
end Rn
end
section
set_option Elab.async false
set_option linter.all false
set_option autoImplicit false
set_option maxRecDepth 100000
set_option maxHeartbeats 2000000
namespace Rn
open PySem PySem.Spec PyProof.Rows L2 L2H HotX
section
variable {prog : Program} {w : World} {A : Around} {E : Value → Shared → Prop} {s : Shared}
/-- the handled one stands in the heap -/
def HotO (x1 : Addr) (h : Heap) : Prop := ∃ (o : Obj) (vs : Array Value), h.get? x1 = some o ∧ o.data = .fields vs ∧ vs[2]? = some .none
theorem HotO.at {x1 : Addr} {h h' : Heap} (a : HotO x1 h) (e : ∀ o, h.get? x1 = some o → h'.get? x1 = some o) : HotO x1 h' := by
  obtain ⟨o, vs, e1, e2, e3⟩ := a
  exact ⟨o, vs, e _ e1, e2, e3⟩
end
end Rn
end
section
set_option Elab.async false
set_option linter.all false
set_option autoImplicit false
set_option maxRecDepth 100000
set_option maxHeartbeats 2000000
namespace Rn
open PySem PySem.Spec PyProof.Rows L2 L2H HotX
def termD (c : Str) : D := .tuple [.str "error", .str c]
end Rn
end
section
set_option Elab.async false
set_option linter.all false
set_option autoImplicit false
set_option maxRecDepth 100000
set_option maxHeartbeats 2000000
namespace Rn
open PySem PySem.Spec PyProof.Rows L2 L2H HotX
/-- the maker's table grows -/
theorem Mt.tab {B : Bd} {F H H1 : Hp} {σ : L2.St} {ρ : Rho} {P : Addr} {q : Str} (m : Mt B F H σ ρ) (hP : (P, q) ∈ B.T) (keep : ∀ b o, H b = some o → b ≠ P → H1 b = some o) (dom : ∀ b, H1 b = none → H b = none) (T1 : LamX.Tabs B.T H1) : Stp B F H σ ρ F H1 ρ := by
  obtain ⟨ps, h1, _⟩ := m.tabs _ hP
  have h1 : H P = some (.tbl ps) := h1
  have ldP : ∀ a o, H a = some o → LD o → a ≠ P := fun a o e l z => by
    rw [z, h1] at e
    cases e
    exact l.tbl
  have mt : Mt B F H1 σ ρ := by
    refine ⟨fun a o e => keep a o (m.sub a o e) (fun z => ?_), m.old, m.new, fun a o e n t => keep a o (m.frm a o e n t) (fun z => t _ hP z.symm), fun a e => m.dom a (dom a e), m.len, fun j v c g1 g2 => ?_, m.apart, T1, m.ntab⟩
    · have := m.ntab _ hP
      rw [z] at e
      rw [this] at e
      cases e
    · have w := m.cell j v c g1 g2
      cases c with
      | no => trivial
      | fz d => exact w
      | va k => exact w
      | ow d => obtain ⟨a, o, x1, x2, x3, x4, x5⟩ := w; exact ⟨a, o, x1, keep a o x2 (ldP a o x2 x3.ld), x3, x4, x5⟩
      | bw d => obtain ⟨a, o, x1, x2, x3, x4, x5⟩ := w; exact ⟨a, o, x1, keep a o x2 (ldP a o x2 x3.ld), x3, x4, x5⟩
  exact ⟨mt, Same.refl _, fun _ _ e => .inl e, fun a o e n t => keep a o e (fun z => t _ hP z.symm), dom, fun _ e => e, fun _ c e => ⟨c, e, KStep.refl c⟩⟩
/-- the value, or the name of the error -/
def mTold (f : M D) : M D := fun ρ => match f ρ with
  | .ok d r => .ok d r
  | .ex c r => if excN.contains c = true then .ok (termD c) r else .no
  | .no => .no
end Rn
end
section
set_option Elab.async false
set_option linter.all false
set_option autoImplicit false
set_option maxRecDepth 100000
set_option maxHeartbeats 2000000
namespace Rn
open PySem PySem.Spec PyProof.Rows L2
theorem _root_.L2H.RoomH.units {k : Nat} {A : Around} (r : L2H.RoomH k A) : A.units + 64 < cLine := by have := r.un; omega
end Rn
end
section
set_option Elab.async false
set_option linter.all false
set_option autoImplicit false
set_option maxRecDepth 100000
namespace Rn
open PySem PySem.Spec L2
def keysOf : List D → Option (List Key)
  | [] => some []
  | d :: ds => match keyOf d, keysOf ds with
    | some k, some ks => some (k :: ks)
    | _, _ => none
def keyEqL : List D → List D → Bool
  | [], [] => true
  | a :: as, b :: bs => keyEq a b && keyEqL as bs
  | _, _ => false
theorem keyEqL_key : ∀ (q k : List Key), keyEqL (q.map keyD) (k.map keyD) = decide (q = k)
  | [], [] => by simp [keyEqL]
  | [], _ :: _ => by simp [keyEqL]
  | _ :: _, [] => by simp [keyEqL]
  | a :: q, b :: k => by
    simp only [List.map_cons, keyEqL, keyEq_key, keyEqL_key q k, List.cons.injEq, Bool.decide_and]
def keyEqT : D → List D → Bool
  | .tuple q, k => keyEqL q k
  | _, _ => false
def valT (kds : List (D × D)) (k : List D) : Option D := (kds.find? fun kd => keyEqT kd.1 k).map (·.2)
theorem DenT.val {F : Hp} {k : List Key} : ∀ {kds : List (D × D)} {kvs : List (List Key × V)}, DenT F kds kvs → (∀ d, valT kds (k.map keyD) = some d → ∃ v, valV kvs k = some v ∧ Den F d v) ∧ (valT kds (k.map keyD) = none → valV kvs k = none)
  | [], _, h => by
    cases h
    refine ⟨fun d e => ?_, fun _ => rfl⟩
    simp [valT] at e
  | (c, d) :: r, _, ⟨q, v, t, e, hq, hd, l⟩ => by
    subst e
    subst hq
    have ih := DenT.val (k := k) l
    unfold valT at ih ⊢
    rw [List.find?_cons, show keyEqT (.tuple (q.map keyD)) (k.map keyD) = decide (q = k) from keyEqL_key q k]
    by_cases e : q = k
    · rw [decide_eq_true e]
      refine ⟨fun d' e' => ?_, fun e' => by cases e'⟩
      cases e'
      exact ⟨v, valV_pos e, hd⟩
    · rw [decide_eq_false e, valV_neg e]
      exact ih
def getF (kds : List (D × D)) (k z : D) : Option D :=
  if isTK kds = true then (match k with
    | .tuple ks => (match keysOf ks with
      | some _ => if isIN kds = true then none else some ((valT kds.tail ks).getD z)
      | none => none)
    | _ => none)
  else (match keyOf k with
    | some _ => some ((valD kds k).getD z)
    | none => none)
def mGet (fd : M TV) (fk fz : M D) : M D := bnd fd fun x => fun ρ => match deref ρ x with
  | some (.dict kds0) => if isIN kds0 = true then .no else bnd fk (fun k => bnd fz fun z => fun ρ => match deref ρ x with
    | some (.dict kds) => lft (getF kds k z) ρ
    | _ => .no) ρ
  | _ => .no
theorem DenT0.un {F : Hp} : ∀ {kds : List (D × D)} {kvs : List (List Key × V)}, DenT0 F kds kvs → DenT F kds.tail kvs
  | [], _, h => h.elim
  | (_, _) :: _, _, ⟨_, l⟩ => l
theorem DenK.tk {F : Hp} : ∀ {kds : List (D × D)} {kvs : List (Key × V)}, DenK F kds kvs → isTK kds = true → False
  | [], _, _, h => by cases h
  | (k, d) :: _, _, ⟨q, _, _, _, hq, _⟩, h => by
    subst hq
    cases q <;> cases h
def mDT0 : M D := ret (.dict [(.none, .none)])
end Rn
end
section
set_option Elab.async false
set_option linter.all false
set_option autoImplicit false
set_option maxRecDepth 100000
namespace Rn
open PySem PySem.Spec L2
/-- what stands in the slots, all of it frozen -/
def Fz (H : Hp) (σ : L2.St) (ρ : Rho) : Prop := ρ.length = σ.length ∧ ∀ (i : Nat) (c : Cell), ρ[i]? = some c → c = .no ∨ ∃ d u, c = .fz d ∧ σ[i]? = some (some u) ∧ Den H d u
theorem Fz.mt {H : Hp} {σ : L2.St} {ρ : Rho} (h : Fz H σ ρ) : Mt ⟨H, H, [], [], []⟩ H H σ ρ := by
  refine ⟨Same.refl _, Same.refl _, fun _ _ e => .inl e, fun _ _ e _ _ => e, fun _ e => e, h.1, fun j v c h1 h2 => ?_, fun j k a c c' h1 h2 h3 h4 h5 h6 => ?_, fun _ z => (nomatch z), fun _ z => (nomatch z)⟩
  · rcases h.2 j c h2 with rfl | ⟨d, u, rfl, e, dn⟩
    · trivial
    · rw [h1] at e; cases e; exact ⟨u, rfl, dn⟩
  · rcases h.2 j c h3 with rfl | ⟨d, u, rfl, e, dn⟩ <;> cases h5
end Rn
end
section
set_option Elab.async false
set_option linter.all false
set_option autoImplicit false
set_option maxRecDepth 100000
namespace Rn
open PySem PySem.Spec L2
def tmD : Option Int → D
  | none => .none
  | some i => .int i
def tmV : Option Int → V
  | none => .non
  | some i => .int i
theorem tm_den (F : Hp) (t : Option Int) : Den F (tmD t) (tmV t) := by cases t <;> rfl
theorem tms_den (F : Hp) : ∀ r : List (Option Int), DenL F (r.map tmD) (r.map tmV)
  | [] => rfl
  | t :: r => ⟨tmV t, _, rfl, tm_den F t, tms_den F r⟩
abbrev Tab := List (List (Option Int))
def rowL (r : List (Option Int)) : D := .list (r.map tmD)
def tabD (tab : Tab) : D := .list (tab.map rowL)
structure TabAt (H : Hp) (tb : Addr) (rs : List Addr) (tab : Tab) : Prop where
  t : H tb = some (.lst (rs.map V.ref))
  nd : (tb :: rs).Nodup
  len : rs.length = tab.length
  row : ∀ (i : Nat) r row, rs[i]? = some r → tab[i]? = some row → H r = some (.lst (row.map tmV))
def TabTo (H : Hp) (rs : List Addr) (H' : Hp) : Prop := ∀ a o, H a = some o → a ∉ rs → H' a = some o
theorem TabTo.refl {H : Hp} {rs : List Addr} : TabTo H rs H := fun _ _ e _ => e
theorem TabTo.trans {H H1 H2 : Hp} {rs : List Addr} (x : TabTo H rs H1) (y : TabTo H1 rs H2) : TabTo H rs H2 := fun a o e n => y a o (x a o e n) n
theorem TabTo.of {H H' : Hp} {rs : List Addr} (s : Same H H') : TabTo H rs H' := fun a o e _ => s a o e
theorem TabTo.upd {H : Hp} {rs : List Addr} {r : Addr} {o : HO} (h : r ∈ rs) : TabTo H rs (upd H r o) := fun a u e n => by
  rw [upd_ne (show a ≠ r from fun z => n (z ▸ h))]; exact e
theorem TabTo.sub {F H H' : Hp} {rs : List Addr} (x : TabTo H rs H') (s : Same F H) (n : ∀ a ∈ rs, F a = none) : Same F H' := fun a o e => x a o (s a o e) fun q => by
  rw [n a q] at e; cases e
theorem TabAt.same {H H' : Hp} {tb : Addr} {rs : List Addr} {tab : Tab} (h : TabAt H tb rs tab) (s : Same H H') : TabAt H' tb rs tab := ⟨s _ _ h.t, h.nd, h.len, fun i r row e1 e2 => s _ _ (h.row i r row e1 e2)⟩
theorem TabAt.upd {H : Hp} {tb : Addr} {rs : List Addr} {tab : Tab} (h : TabAt H tb rs tab) {i : Nat} {r : Addr} (e : rs[i]? = some r) (row : List (Option Int)) : TabAt (upd H r (.lst (row.map tmV))) tb rs (tab.set i row) := by
  have nd := List.nodup_cons.mp h.nd
  have mr : r ∈ rs := List.mem_of_getElem? e
  refine ⟨by rw [upd_ne (show tb ≠ r from fun z => nd.1 (z ▸ mr))]; exact h.t, h.nd, by rw [List.length_set]; exact h.len, fun j q row' e1 e2 => ?_⟩
  rw [List.getElem?_set] at e2
  by_cases hj : i = j
  · subst hj
    rw [e] at e1; cases e1
    rw [if_pos rfl] at e2
    split at e2
    · cases e2; exact upd_same
    · cases e2
  · rw [if_neg hj] at e2
    have : q ≠ r := fun z => by
      subst z
      obtain ⟨h1, e1'⟩ := List.getElem?_eq_some_iff.mp e
      obtain ⟨h2, e2'⟩ := List.getElem?_eq_some_iff.mp e1
      exact hj ((List.getElem_inj nd.2).mp (e1'.trans e2'.symm))
    rw [upd_ne this]
    exact h.row j q row' e1 e2
theorem TabAt.den {H : Hp} {tb : Addr} {rs : List Addr} {tab : Tab} (h : TabAt H tb rs tab) : Den H (tabD tab) (.ref tb) := by
  refine ⟨tb, _, rfl, h.t, DenL.of_get (by simp [h.len]) fun i d v e1 e2 => ?_⟩
  rw [List.getElem?_map] at e1 e2
  cases e3 : tab[i]? with
  | none => rw [e3] at e1; cases e1
  | some row =>
    rw [e3] at e1; cases e1
    cases e4 : rs[i]? with
    | none => rw [e4] at e2; cases e2
    | some r =>
      rw [e4] at e2; cases e2
      exact ⟨r, _, rfl, h.row i r row e4 e3, tms_den H row⟩
theorem UpL.at {α : Type} {L : List Nat} {l l' : List α} (h : UpL L l l') {j : Nat} {x : α} (hj : j ∉ L) (e : l[j]? = some x) : l'[j]? = some x := by rw [h.2 j hj]; exact e
end Rn
end
section
set_option Elab.async false
set_option linter.all false
set_option autoImplicit false
set_option maxRecDepth 100000
namespace Rn
open PySem PySem.Spec L2
/-- slots that hold frozen data -/
def FzF (F : Hp) (σ : L2.St) (ρ : Rho) : Prop := ρ.length = σ.length ∧ ∀ (i : Nat) (c : Cell), ρ[i]? = some c → c = .no ∨ ∃ d u, c = .fz d ∧ σ[i]? = some (some u) ∧ Den F d u
theorem FzF.mt {F H : Hp} {σ : L2.St} {ρ : Rho} (s : Same F H) (h : FzF F σ ρ) : Mt ⟨H, F, [], [], []⟩ F H σ ρ := by
  refine ⟨s, Same.refl _, fun _ _ e => .inl e, fun _ _ e _ _ => e, fun _ e => e, h.1, fun j v c h1 h2 => ?_, fun j k a c c' h1 h2 h3 h4 h5 h6 => ?_, fun _ z => (nomatch z), fun _ z => (nomatch z)⟩
  · rcases h.2 j c h2 with rfl | ⟨d, u, rfl, e, dn⟩
    · trivial
    · rw [h1] at e; cases e; exact ⟨u, rfl, dn⟩
  · rcases h.2 j c h3 with rfl | ⟨d, u, rfl, e, dn⟩ <;> cases h5
/-- F grows off what is not in H -/
theorem Ext.keep {F H F' H' : Hp} (x : Ext F H F' H') {a : Addr} {o : HO} (h : H a = some o) (n : F a = none) : F' a = none := by
  cases e : F' a with
  | none => rfl
  | some u =>
    rcases x.new a u e with z | z
    · rw [n] at z; cases z
    · rw [h] at z; cases z
theorem TabAt.has {H : Hp} {tb : Addr} {rs : List Addr} {tab : Tab} (h : TabAt H tb rs tab) {a : Addr} (m : a ∈ tb :: rs) : ∃ xs, H a = some (.lst xs) := by
  rcases List.mem_cons.mp m with rfl | m
  · exact ⟨_, h.t⟩
  · obtain ⟨i, hi, e⟩ := List.mem_iff_getElem.mp m
    exact ⟨_, h.row i a (tab[i]'(by rw [← h.len]; exact hi)) (by rw [List.getElem?_eq_getElem hi, e]) (List.getElem?_eq_getElem _)⟩
/-- a table is frozen -/
theorem TabAt.freeze {F H : Hp} {tb : Addr} {rs : List Addr} {tab : Tab} (h : TabAt H tb rs tab) (s : Same F H) (n : ∀ a ∈ tb :: rs, F a = none) :
    ∃ F', Same F F' ∧ Same F' H ∧ (∀ a o, F' a = some o → F a = some o ∨ a ∈ tb :: rs) ∧ Den F' (tabD tab) (.ref tb) := by
  refine ⟨fun a => if a ∈ tb :: rs then H a else F a, fun a o e => ?_, fun a o e => ?_, fun a o e => ?_, ?_⟩
  · show (if a ∈ tb :: rs then H a else F a) = some o
    by_cases m : a ∈ tb :: rs
    · rw [n a m] at e; cases e
    · rw [if_neg m]; exact e
  · by_cases m : a ∈ tb :: rs
    · simp only [if_pos m] at e; exact e
    · simp only [if_neg m] at e; exact s a o e
  · by_cases m : a ∈ tb :: rs
    · exact .inr m
    · simp only [if_neg m] at e; exact .inl e
  · have t2 : TabAt (fun a => if a ∈ tb :: rs then H a else F a) tb rs tab := by
      refine ⟨?_, h.nd, h.len, fun i r row e1 e2 => ?_⟩
      · simp only [List.mem_cons, true_or, if_true]; exact h.t
      · have m : r ∈ tb :: rs := List.mem_cons_of_mem _ (List.mem_of_getElem? e1)
        simp only [if_pos m]; exact h.row i r row e1 e2
    exact t2.den
theorem TabTo.new {H H1 H2 : Hp} {rs : List Addr} (s : Same H H1) (n : ∀ a ∈ rs, H a = none) (t : TabTo H1 rs H2) : Same H H2 := fun a o e => t a o (s a o e) fun m => by rw [n a m] at e; cases e
end Rn
end
section
set_option Elab.async false
set_option linter.all false
set_option autoImplicit false
set_option maxRecDepth 100000
namespace Rn
open PySem PySem.Spec L2
abbrev stF (vr vo vg ve : V) (tb : Addr) (c b : Int) : List (Str × V) := [("rows", vr), ("order", vo), ("times_in", vg), ("extra", ve), ("table", .ref tb), ("step", .int c), ("begin", .int b)]
/-- what stairs hold that never changes -/
structure StD where
  rows : D
  order : D
  given : D
  extra : D
  c : Int
structure StV extends StD where
  vr : V
  vo : V
  vg : V
  ve : V
structure StAt (F H : Hp) (C x : Addr) (T : StV) (tb : Addr) (rs : List Addr) (tab : Tab) (b : Int) : Prop where
  ins : ∃ dx, H x = some (.ins C dx (stF T.vr T.vo T.vg T.ve tb T.c b))
  sub : Same F H
  dr : Den F T.rows T.vr
  do_ : Den F T.order T.vo
  dg : Den F T.given T.vg
  de : Den F T.extra T.ve
  tab : TabAt H tb rs tab
  nF : ∀ a ∈ x :: tb :: rs, F a = none
theorem StAt.nx {F H : Hp} {C x : Addr} {T : StV} {tb : Addr} {rs : List Addr} {tab : Tab} {b : Int} (h : StAt F H C x T tb rs tab b) : x ∉ tb :: rs := fun m => by
  obtain ⟨xs, hx⟩ := h.tab.has m
  obtain ⟨dx, e⟩ := h.ins
  rw [hx] at e; cases e
theorem StAt.to {F H H' : Hp} {C x : Addr} {T : StV} {tb : Addr} {rs : List Addr} {tab tab' : Tab} {b : Int} (h : StAt F H C x T tb rs tab b) (t : TabTo H rs H') (ta : TabAt H' tb rs tab') : StAt F H' C x T tb rs tab' b := by
  obtain ⟨dx, e⟩ := h.ins
  exact ⟨⟨dx, t _ _ e fun m => h.nx (List.mem_cons_of_mem _ m)⟩, t.sub h.sub fun a m => h.nF a (by simp [m]), h.dr, h.do_, h.dg, h.de, ta, h.nF⟩
theorem StAt.same {F H H' : Hp} {C x : Addr} {T : StV} {tb : Addr} {rs : List Addr} {tab : Tab} {b : Int} (h : StAt F H C x T tb rs tab b) (s : Same H H') : StAt F H' C x T tb rs tab b :=
  h.to (TabTo.of s) (h.tab.same s)
end Rn
end
section
set_option Elab.async false
set_option linter.all false
set_option autoImplicit false
set_option maxRecDepth 100000
namespace Rn
open PySem PySem.Spec L2
/-- while an instance at x is filled: F, H at its birth; Fc, Hc now -/
structure InSt (F H : Hp) (C x dx : Addr) (Fc Hc : Hp) (fs : List (Str × V)) : Prop where
  ins : Hc x = some (.ins C dx fs)
  old : Same F Fc
  sub : Same Fc Hc
  new : ∀ a o, Fc a = some o → F a = some o ∨ H a = none
  frm : ∀ a o, H a = some o → a ≠ x → Hc a = some o
  nx : Fc x = none
  hx : ∃ o, H x = some o
section
variable {F H : Hp} {C x dx : Addr} {Fc Hc F' H' : Hp} {fs fs' : List (Str × V)}
theorem InSt.free (i : InSt F H C x dx Fc Hc fs) {a : Addr} (e : Hc a = none) : H a = none := by
  cases w : H a with
  | none => rfl
  | some o =>
    by_cases h : a = x
    · subst h; rw [i.ins] at e; cases e
    · rw [i.frm a o w h] at e; cases e
theorem InSt.ext (i : InSt F H C x dx Fc Hc fs) (e : Ext Fc Hc F' H') : InSt F H C x dx F' H' fs :=
  ⟨e.same _ _ i.ins, i.old.trans e.old, e.sub, fun a o h => (e.new a o h).elim (i.new a o) fun z => .inr (i.free z), fun a o h n => e.same _ _ (i.frm a o h n), e.keep i.ins i.nx, i.hx⟩
theorem InSt.set (i : InSt F H C x dx Fc Hc fs) (fs' : List (Str × V)) : InSt F H C x dx Fc (upd Hc x (.ins C dx fs')) fs' :=
  ⟨upd_same, i.old, fun a o e => by rw [upd_ne (show a ≠ x from fun z => by rw [z, i.nx] at e; cases e)]; exact i.sub _ _ e, i.new, fun a o e n => by rw [upd_ne n]; exact i.frm a o e n, i.nx, i.hx⟩
theorem InSt.same (i : InSt F H C x dx Fc Hc fs) (s : Same Hc H') : InSt F H C x dx Fc H' fs :=
  ⟨s _ _ i.ins, i.old, i.sub.trans s, i.new, fun a o h n => s _ _ (i.frm a o h n), i.nx, i.hx⟩
end
end Rn
end
section
set_option Elab.async false
set_option linter.all false
set_option autoImplicit false
set_option maxRecDepth 100000
namespace Rn
open PySem PySem.Spec L2
section
variable {F H F' H' : Hp} {C x : Addr} {T : StV} {tb : Addr} {rs : List Addr} {tab : Tab} {b : Int}
theorem StAt.has (h : StAt F H C x T tb rs tab b) {a : Addr} (m : a ∈ x :: tb :: rs) : ∃ o, H a = some o := by
  rcases List.mem_cons.mp m with rfl | m
  · obtain ⟨dx, e⟩ := h.ins; exact ⟨_, e⟩
  · obtain ⟨xs, e⟩ := h.tab.has m; exact ⟨_, e⟩
theorem StAt.ext (h : StAt F H C x T tb rs tab b) (e : Ext F H F' H') : StAt F' H' C x T tb rs tab b := by
  obtain ⟨dx, ei⟩ := h.ins
  refine ⟨⟨dx, e.same _ _ ei⟩, e.sub, h.dr.mono e.old, h.do_.mono e.old, h.dg.mono e.old, h.de.mono e.old, h.tab.same e.same, fun a m => ?_⟩
  obtain ⟨o, ho⟩ := h.has m
  exact e.keep ho (h.nF a m)
end
end Rn
end
section
set_option Elab.async false
set_option linter.all false
set_option autoImplicit false
set_option maxRecDepth 100000
namespace Rn
open PySem PySem.Spec L2
theorem FzF.set {F : Hp} {σ : L2.St} {ρ : Rho} (h : FzF F σ ρ) (i : Nat) {d : D} {u : V} (dn : Den F d u) : FzF F (σ.set i (some u)) (ρ.set i (.fz d)) := by
  refine ⟨by simp [h.1], fun j c e => ?_⟩
  rcases set_get e with ⟨rfl, rfl⟩ | ⟨ne, e⟩
  · have hl : i < ρ.length := by have := (List.getElem?_eq_some_iff.mp e).1; simpa using this
    exact .inr ⟨d, u, rfl, List.getElem?_set_self (by rw [← h.1]; exact hl), dn⟩
  · rcases h.2 j c e with rfl | ⟨d', u', rfl, e1, e2⟩
    · exact .inl rfl
    · exact .inr ⟨d', u', rfl, by rw [List.getElem?_set_ne ne]; exact e1, e2⟩
theorem FzF.mono {F F' : Hp} {σ : L2.St} {ρ : Rho} (h : FzF F σ ρ) (s : Same F F') : FzF F' σ ρ := ⟨h.1, fun i c e => (h.2 i c e).imp id fun ⟨d, u, a, b, c⟩ => ⟨d, u, a, b, c.mono s⟩⟩
theorem FzF.at {F : Hp} {σ : L2.St} {ρ : Rho} (h : FzF F σ ρ) {i : Nat} {d : D} (e : ρ[i]? = some (.fz d)) : ∃ u, σ[i]? = some (some u) ∧ Den F d u := by
  rcases h.2 i _ e with z | ⟨d', u, z, e1, e2⟩
  · cases z
  · cases z; exact ⟨u, e1, e2⟩
abbrev Tbl := List ((Int × Int) × Option Int)
def tblK (k : Int × Int) : List Key := [.inl k.1, .inl k.2]
def tblV (t : Tbl) : List (List Key × V) := t.map fun p => (tblK p.1, tmV p.2)
def look (t : Tbl) (k : Int × Int) : Option (Option Int) := (t.find? fun p => decide (p.1 = k)).map (·.2)
/-- F, H at the call; Fc, Hc now; the table at ta -/
structure EvSt (F H : Hp) (ta : Addr) (Fc Hc : Hp) (tbl : Tbl) : Prop where
  old : Same F Fc
  sub : Same Fc Hc
  frm : ∀ a o, H a = some o → a ≠ ta → Hc a = some o
  nta : Fc ta = none
  tb : Hc ta = some (.dT (tblV tbl))
theorem EvSt.ext {F H : Hp} {ta : Addr} {Fc Hc F' H' : Hp} {tbl : Tbl} (i : EvSt F H ta Fc Hc tbl) (x : Ext Fc Hc F' H') : EvSt F H ta F' H' tbl :=
  ⟨i.old.trans x.old, x.sub, fun a o e n => x.same _ _ (i.frm a o e n), x.keep i.tb i.nta, x.same _ _ i.tb⟩
theorem EvSt.to {F H : Hp} {ta : Addr} {Fc Hc H' : Hp} {tbl tbl' : Tbl} (i : EvSt F H ta Fc Hc tbl) (fr : ∀ a o, Hc a = some o → a ≠ ta → H' a = some o) (t : H' ta = some (.dT (tblV tbl'))) : EvSt F H ta Fc H' tbl' :=
  ⟨i.old, fun a o e => fr a o (i.sub _ _ e) (fun z => by rw [z, i.nta] at e; cases e), fun a o e n => fr a o (i.frm a o e n) n, i.nta, t⟩
end Rn
end
section
set_option Elab.async false
set_option linter.all false
set_option autoImplicit false
set_option maxRecDepth 100000
namespace Rn
open PySem PySem.Spec L2
/-- F, H at the call; the table at ta, what is found at tb -/
structure LrSt (F H : Hp) (ta tb : Addr) (rs : List Addr) (Hc : Hp) (tbl : Tbl) (tab : Tab) : Prop where
  old : Same H Hc
  sub : Same F Hc
  tbl : Hc ta = some (.dT (tblV tbl))
  tab : TabAt Hc tb rs tab
theorem LrSt.same {F H : Hp} {ta tb : Addr} {rs : List Addr} {Hc H' : Hp} {tbl : Tbl} {tab : Tab} (i : LrSt F H ta tb rs Hc tbl tab) (s : Same Hc H') : LrSt F H ta tb rs H' tbl tab := ⟨i.old.trans s, i.sub.trans s, s _ _ i.tbl, i.tab.same s⟩
end Rn
end
section
set_option Elab.async false
set_option linter.all false
set_option maxRecDepth 100000
set_option maxHeartbeats 4000000
namespace Rn
open PySem PySem.Spec L2
def b_is_whole : S := sRet (mAndV (mIsi pInt (mVarT 0)) (mAndV (mNotV (mIsi (pIs "bool") (mVarT 0))) (mChain leF leF (mVarT 1) (mVarT 0) (mVarT 2))))
def g_is_whole : List D → RR := callD 3 3 b_is_whole
def b_event_of : S := sRet (mIf (mTst (mOp eqF (mT (mOp ixF (mVarT 0) (mT (ret (.int 0))))) (mT (ret (.str "e"))))) (mCB intF (mCons (mT (mSl slF (mVarT 0) (mPart (ret (.int 1))) (mNoPart))) (mNil))) (ret .none))
def g_event_of : List D → RR := callD 1 1 b_event_of
abbrev e0_is_source : M D := mOp addF (mT (ret (.str "u"))) (mT (mCB strF (mCons (mVarT 3) (mNil))))
abbrev e1_is_source : M D := mOp addF (mT (ret (.str "e"))) (mT (mCB strF (mCons (mVarT 3) (mNil))))
def b_is_source : S := sSeq (sIf (mNot (mTst (mIsi (pIs "str") (mVarT 0)))) (sRet (ret (.bool false))) (sNext))
 (sRet (mOrV (mOp eqF (mVarT 0) (mT (ret (.str "s")))) (mOp (inAF false) (mVarT 0) (mT (mOp addF (mT (mLc (mRng1 (mCons (mVar 1) (mNil))) (hName 3) (mYes) (e0_is_source) [3])) (mT (mLc (mRng1 (mCons (mVar 2) (mNil))) (hName 3) (mYes) (e1_is_source) [3])))))))
def g_is_source : List D → RR := callD 3 4 b_is_source
def b_is_arc : S := sSeq (sIf (mOr (mNot (mTst (mIsi (pIs "tuple") (mVarT 0)))) (mOr (mTst (mOp neF (mT (mCB lenF (mCons (mVarT 0) (mNil)))) (mT (ret (.int 3))))) (mNot (mTst (mCall0 g_is_source (mCons (mOp ixF (mVarT 0) (mT (ret (.int 0)))) (mCons (mVar 1) (mCons (mVar 2) (mNil))))))))) (sRet (ret (.bool false))) (sNext))
 (sRet (mAndV (mCall0 g_is_whole (mCons (mOp ixF (mVarT 0) (mT (ret (.int 1)))) (mCons (ret (.int 0)) (mCons (ret (.int 9)) (mNil))))) (mCall0 g_is_whole (mCons (mOp ixF (mVarT 0) (mT (ret (.int 2)))) (mCons (ret (.int 0)) (mCons (ret (.int 3)) (mNil)))))))
def g_is_arc : List D → RR := callD 3 3 b_is_arc
abbrev e0_is_row : M D := mCall0 g_is_arc (mCons (mVar 3) (mCons (mVar 1) (mCons (mVar 2) (mNil))))
def b_is_row : S := sRet (mAndV (mIsi (pIs "tuple") (mVarT 0)) (mAndV (mOp leF (mT (mCB lenF (mCons (mVarT 0) (mNil)))) (mT (ret (.int 4)))) (mCB allF (mCons (mT (mLc (mSeqI (mVar 0)) (hName 3) (mYes) (e0_is_row) [3])) (mNil)))))
def g_is_row : List D → RR := callD 3 4 b_is_row
abbrev e0_is_shaped : M D := mCall0 g_is_row (mCons (mVar 5) (mCons (mVar 1) (mCons (mCB lenF (mCons (mVarT 2) (mNil))) (mNil))))
abbrev e1_is_shaped : M D := mCall0 g_is_whole (mCons (mVar 4) (mCons (ret (.int 0)) (mCons (mOp subF (mT (mCB lenF (mCons (mVarT 2) (mNil)))) (mT (ret (.int 1)))) (mNil))))
def b_is_shaped : S := sSeq (sIf (mOr (mNot (mTst (mIsi (pIs "tuple") (mVarT 0)))) (mOr (mTst (mOp neF (mT (mCB lenF (mCons (mVarT 0) (mNil)))) (mT (ret (.int 3))))) (mNot (mTst (mCall0 g_is_whole (mCons (mOp ixF (mVarT 0) (mT (ret (.int 0)))) (mCons (ret (.int 0)) (mCons (ret (.int 2)) (mNil))))))))) (sRet (ret (.bool false))) (sNext))
 (sSeq (sAsg (mVar 0) (hTup 3 (hCons (hName 1) (hCons (hName 2) (hCons (hName 3) (hNil))))))
 (sSeq (sIf (mOr (mNot (mTst (mIsi (pIs "tuple") (mVarT 2)))) (mNot (mTst (mChain leF leF (mT (ret (.int 1))) (mT (mCB lenF (mCons (mVarT 2) (mNil)))) (mT (ret (.int 5))))))) (sRet (ret (.bool false))) (sNext))
 (sSeq (sIf (mNot (mTst (mCB allF (mCons (mT (mLc (mSeqI (mVar 2)) (hName 5) (mYes) (e0_is_shaped) [5])) (mNil))))) (sRet (ret (.bool false))) (sNext))
 (sSeq (sIf (mOr (mNot (mTst (mIsi (pIs "tuple") (mVarT 3)))) (mNot (mTst (mChain leF leF (mT (ret (.int 1))) (mT (mCB lenF (mCons (mVarT 3) (mNil)))) (mT (ret (.int 3))))))) (sRet (ret (.bool false))) (sNext))
 (sRet (mCB allF (mCons (mT (mLc (mSeqI (mVar 3)) (hName 4) (mYes) (e1_is_shaped) [4])) (mNil))))))))
def g_is_shaped : List D → RR := callD 1 6 b_is_shaped
abbrev t0_same_round : M Bool := mTst (mOp eqF (mVarT 6) (mT (ret (.int 0))))
abbrev e1_same_round : M D := mCall0 g_event_of (mCons (mVar 4) (mNil))
abbrev t2_same_round : M Bool := mTst (mOp (isF true) (mVarT 7) (mT (ret .none)))
abbrev e3_same_round : M D := mVar 7
def l4_same_round : S := sSeq (sAsg (mLc (mSeqI (mVar 2)) (hTup 3 (hCons (hName 4) (hCons (hName 5) (hCons (hName 6) (hNil))))) (t0_same_round) (e1_same_round) [4, 5, 6]) (hName 3))
 (sAppend 1 (mLc (mSeqI (mVar 3)) (hName 7) (t2_same_round) (e3_same_round) [7]))
def b_same_round : S := sSeq (sOwn (mLst (mNil)) 1)
 (sSeq (sFor (mSeqI (mVar 0)) (hName 2) (l4_same_round))
 (sRet (mVar 1)))
def g_same_round : List D → RR := callD 1 8 b_same_round
abbrev e0_order_of : M D := mOp (inAF false) (mVarT 5) (mVarT 2)
abbrev t1_order_of : M Bool := mAnd (mTst (mOp (inAF true) (mVarT 4) (mVarT 2))) (mTst (mCB allF (mCons (mT (mLc (mSeqI (mOp ixF (mVarT 1) (mVarT 4))) (hName 5) (mYes) (e0_order_of) [5])) (mNil))))
abbrev e2_order_of : M D := mVar 4
abbrev c3_order_of : M Bool := mTst (mOp ltF (mT (mCB lenF (mCons (mVarT 2) (mNil)))) (mT (mCB lenF (mCons (mVarT 0) (mNil)))))
def l4_order_of : S := sSeq (sAsg (mLc (mRng1 (mCons (mCB lenF (mCons (mVarT 0) (mNil))) (mNil))) (hName 4) (t1_order_of) (e2_order_of) [4]) (hName 3))
 (sSeq (sIf (mTst (mOp eqF (mVarT 3) (mT (mLst (mNil))))) (sRet (ret .none)) (sNext))
 (sAppend 2 (mOp ixF (mVarT 3) (mT (ret (.int 0))))))
def b_order_of : S := sSeq (sPar [false, true] [1, 2] (mCons (mCall0 g_same_round (mCons (mVar 0) (mNil))) (mCons (mLst (mNil)) (mNil))))
 (sSeq (whileGo (c3_order_of) (l4_order_of) 1000000)
 (sRet (mVar 2)))
def g_order_of : List D → RR := callD 1 6 b_order_of
abbrev e0_all_back : M D := mVar 4
abbrev e1_all_back : M D := mCB sumF (mCons (mT (mLc (mSeqI (mVar 1)) (hTup 3 (hCons (hName 2) (hCons (hName 3) (hCons (hName 4) (hNil))))) (mYes) (e0_all_back) [2, 3, 4])) (mNil))
def b_all_back : S := sRet (mCB sumF (mCons (mT (mLc (mSeqI (mVar 0)) (hName 1) (mYes) (e1_all_back) [1])) (mNil)))
def g_all_back : List D → RR := callD 1 5 b_all_back
def b_is_net : S := sRet (mAndV (mCall0 g_is_shaped (mCons (mVar 0) (mNil))) (mAndV (mOp leF (mT (mCall0 g_all_back (mCons (mOp ixF (mVarT 0) (mT (ret (.int 1)))) (mNil)))) (mT (ret (.int 8)))) (mOp (isF true) (mT (mCall0 g_order_of (mCons (mOp ixF (mVarT 0) (mT (ret (.int 1)))) (mNil)))) (mT (ret .none)))))
def g_is_net : List D → RR := callD 1 1 b_is_net
def b_need_net : S := sIf (mNot (mTst (mCall0 g_is_net (mCons (mVar 0) (mNil))))) (sRaise "InvalidNet") (sNext)
def g_need_net : List D → RR := callD 1 1 b_need_net
def b__law_drawn : S := sSeq (sAsg (mOp modF (mT (mOp addF (mT (mOp mulF (mVarT 0) (mT (ret (.int 6364136223846793005))))) (mT (mOp mulF (mT (mOp addF (mVarT 1) (mT (ret (.int 1))))) (mT (ret (.int 1442695040888963407))))))) (mT (ret (.int 340282366920938463463374607431768211507)))) (hName 2))
 (sSeq (sAsg (mOp modF (mT (mOp mulF (mVarT 2) (mVarT 2))) (mT (ret (.int 340282366920938463463374607431768211297)))) (hName 2))
 (sSeq (sAsg (mOp mulF (mT (mOp mulF (mT (mOp addF (mT (mOp modF (mVarT 2) (mT (ret (.int 18446744073709551557))))) (mT (ret (.int 1))))) (mT (mOp addF (mT (mOp fdivF (mVarT 2) (mT (ret (.int 18446744073709551557))))) (mT (ret (.int 1))))))) (mVarT 2)) (hName 2))
 (sRet (mOp modF (mVarT 2) (mT (ret (.int 340282366920938463463374607431768211507)))))))
def g__law_drawn : List D → RR := callD 2 3 b__law_drawn
def b__law_roll : S := sSeq (sIf (mTst (mOp geF (mT (mOp ixF (mVarT 0) (mT (ret (.int 0))))) (mT (mOp powF (mT (ret (.int 10))) (mT (ret (.int 18))))))) (sSeq (sAsg (mOp modF (mT (mOp ixF (mVarT 0) (mT (ret (.int 0))))) (mVarT 1)) (hName 2))
 (sSeq (sSetItem 0 (mOp fdivF (mT (mOp ixF (mVarT 0) (mT (ret (.int 0))))) (mVarT 1)) (ret (.int 0)))
 (sRet (mVar 2)))) (sNext))
 (sSeq (sSetItem 0 (mOp addF (mT (mOp ixF (mVarT 0) (mT (ret (.int 1))))) (mT (ret (.int 1)))) (ret (.int 1)))
 (sRet (mOp modF (mT (mOp fdivF (mT (mCall0 g__law_drawn (mCons (mOp ixF (mVarT 0) (mT (ret (.int 0)))) (mCons (mOp ixF (mVarT 0) (mT (ret (.int 1)))) (mNil))))) (mT (ret (.int 8))))) (mVarT 1))))
def c__law_roll : D → List D → RB := callB 2 3 b__law_roll
def l0__law_renamed : S := sSeq (sIf (mTst (mOp eqF (mT (mOp ixF (mVarT 8) (mT (ret (.int 0))))) (mT (ret (.str "e"))))) (sAsg (mOp addF (mT (ret (.str "e"))) (mT (mCB strF (mCons (mT (mOp modF (mT (mOp addF (mT (mCB intF (mCons (mT (mSl slF (mVarT 8) (mPart (ret (.int 1))) (mNoPart))) (mNil)))) (mVarT 3))) (mVarT 2))) (mNil))))) (hName 8)) (sNext))
 (sAppend 7 (mTup (mCons (mVar 8) (mCons (mVar 9) (mCons (mVar 10) (mNil))))))
def l1__law_renamed : S := sSeq (sOwn (mLst (mNil)) 7)
 (sSeq (sFor (mSeqI (mVar 6)) (hTup 3 (hCons (hName 8) (hCons (hName 9) (hCons (hName 10) (hNil))))) (l0__law_renamed))
 (sSetItem 4 (mCB tupleF (mCons (mVarT 7) (mNil))) (mOp modF (mT (mOp addF (mVarT 5) (mVarT 3))) (mVarT 2))))
abbrev e2__law_renamed : M D := mOp modF (mT (mOp addF (mVarT 11) (mVarT 3))) (mVarT 2)
def b__law_renamed : S := sSeq (sAsg (mCB lenF (mCons (mT (mOp ixF (mVarT 1) (mT (ret (.int 1))))) (mNil))) (hName 2))
 (sSeq (sIf (mTst (mOp eqF (mT (mCallB (noEx c__law_roll) 0 (mCons (ret (.int 2)) (mNil)))) (mT (ret (.int 0))))) (sRet (mVar 1)) (sNext))
 (sSeq (sAsg (mCallB (noEx c__law_roll) 0 (mCons (mVar 2) (mNil))) (hName 3))
 (sSeq (sOwn (mOp repF (mT (mLst (mCons (mTup (mNil)) (mNil)))) (mVarT 2)) 4)
 (sSeq (sFor (mEnum (mCons (mOp ixF (mVarT 1) (mT (ret (.int 1)))) (mNil))) (hTup 2 (hCons (hName 5) (hCons (hName 6) (hNil)))) (l1__law_renamed))
 (sRet (mTup (mCons (mOp ixF (mVarT 1) (mT (ret (.int 0)))) (mCons (mCB tupleF (mCons (mVarT 4) (mNil))) (mCons (mCB tupleF (mCons (mT (mLc (mSeqI (mOp ixF (mVarT 1) (mT (ret (.int 2))))) (hName 11) (mYes) (e2__law_renamed) [11])) (mNil))) (mNil))))))))))
def c__law_renamed : D → List D → RB := callB 2 12 b__law_renamed
def l0__law_net : S := sSeq (sAsg (mOp ixF (mT (mLst (mCons (ret (.int 0)) (mCons (ret (.int 1)) (mCons (ret (.int 1)) (mCons (ret (.int 2)) (mCons (ret (.int 0)) (mCons (ret (.int 3)) (mNil))))))))) (mT (mCallB (noEx c__law_roll) 0 (mCons (ret (.int 6)) (mNil))))) (hName 11))
 (sSeq (sAsg (mCallB (noEx c__law_roll) 0 (mCons (ret (.int 4)) (mNil))) (hName 12))
 (sSeq (sAsg (mOp addF (mT (ret (.str "e"))) (mT (mCB strF (mCons (mT (mCallB (noEx c__law_roll) 0 (mCons (mVar 3) (mNil)))) (mNil))))) (hName 13))
 (sSeq (sIf (mTst (mOp eqF (mVarT 12) (mT (ret (.int 0))))) (sAsg (ret (.str "s")) (hName 13)) (sNext))
 (sSeq (sIf (mAnd (mTst (mOp eqF (mVarT 12) (mT (ret (.int 1))))) (mTst (mOp gtF (mVarT 4) (mT (ret (.int 0)))))) (sAsg (mOp addF (mT (ret (.str "u"))) (mT (mCB strF (mCons (mT (mCallB (noEx c__law_roll) 0 (mCons (mVar 4) (mNil)))) (mNil))))) (hName 13)) (sNext))
 (sSeq (sIf (mAnd (mTst (mOp eqF (mT (mOp ixF (mVarT 13) (mT (ret (.int 0))))) (mT (ret (.str "e"))))) (mAnd (mTst (mOp geF (mT (mCB intF (mCons (mT (mSl slF (mVarT 13) (mPart (ret (.int 1))) (mNoPart))) (mNil)))) (mVarT 7))) (mTst (mOp eqF (mVarT 11) (mT (ret (.int 0))))))) (sAsg (ret (.int 1)) (hName 11)) (sNext))
 (sIf (mTst (mOp leF (mVarT 11) (mVarT 6))) (sSeq (sAsg (mOp subF (mVarT 6) (mVarT 11)) (hName 6))
 (sAppend 9 (mTup (mCons (mVar 13) (mCons (mCallB (noEx c__law_roll) 0 (mCons (ret (.int 10)) (mNil))) (mCons (mVar 11) (mNil))))))) (sNext)))))))
def l1__law_net : S := sSeq (sOwn (mLst (mNil)) 9)
 (sSeq (sFor (mRng1 (mCons (mCallB (noEx c__law_roll) 0 (mCons (ret (.int 4)) (mNil))) (mNil))) (hName 10) (l0__law_net))
 (sAppend 5 (mCB tupleF (mCons (mVarT 9) (mNil)))))
abbrev e2__law_net : M D := mCallB (noEx c__law_roll) 0 (mCons (mVar 3) (mNil))
def b__law_net : S := sSeq (sPar [false, false] [3, 4] (mCons (mOp addF (mT (ret (.int 1))) (mT (mCallB (noEx c__law_roll) 0 (mCons (mVar 1) (mNil))))) (mCons (mCallB (noEx c__law_roll) 0 (mCons (mOp addF (mVarT 2) (mT (ret (.int 1)))) (mNil))) (mNil))))
 (sSeq (sPar [true, false] [5, 6] (mCons (mLst (mNil)) (mCons (ret (.int 8)) (mNil))))
 (sSeq (sFor (mRng1 (mCons (mVar 3) (mNil))) (hName 7) (l1__law_net))
 (sSeq (sIf (mAnd (mTst (mOp gtF (mT (mCallB (noEx c__law_roll) 0 (mCons (ret (.int 3)) (mNil)))) (mT (ret (.int 0))))) (mTst (mOp ltF (mT (mCB lenF (mCons (mT (mOp ixF (mVarT 5) (mT (ret (.int 0))))) (mNil)))) (mT (ret (.int 4)))))) (sSetItem 5 (mOp addF (mT (mOp ixF (mVarT 5) (mT (ret (.int 0))))) (mT (mTup (mCons (mTup (mCons (ret (.str "s")) (mCons (mCallB (noEx c__law_roll) 0 (mCons (ret (.int 10)) (mNil))) (mCons (ret (.int 0)) (mNil))))) (mNil))))) (ret (.int 0))) (sNext))
 (sSeq (sAsg (mCB tupleF (mCons (mT (mLc (mRng1 (mCons (mOp addF (mT (ret (.int 1))) (mT (mCallB (noEx c__law_roll) 0 (mCons (ret (.int 2)) (mNil))))) (mNil))) (hName 10) (mYes) (e2__law_net) [10])) (mNil))) (hName 8))
 (sRet (mCallB (noEx c__law_renamed) 0 (mCons (mTup (mCons (mVar 4) (mCons (mCB tupleF (mCons (mVarT 5) (mNil))) (mCons (mVar 8) (mNil))))) (mNil))))))))
def c__law_net : D → List D → RB := callB 3 14 b__law_net
abbrev c0_divisor : M Bool := mTst (mOp neF (mVarT 1) (mT (ret (.int 0))))
def l1_divisor : S := sPar [false, false] [0, 1] (mCons (mVar 1) (mCons (mOp modF (mVarT 0) (mVarT 1)) (mNil)))
def b_divisor : S := sSeq (whileGo (c0_divisor) (l1_divisor) 1000000)
 (sRet (mVar 0))
def g_divisor : List D → RR := callD 2 2 b_divisor
abbrev e0_rings_from : M D := mVar 10
def l1_rings_from : S := sSeq (sAsg (mCall0 g_event_of (mCons (mOp ixF (mVarT 8) (mT (ret (.int 0)))) (mNil))) (hName 9))
 (sIf (mTst (mOp eqF (mVarT 9) (mVarT 1))) (sAppend 2 (mOp addF (mVarT 5) (mT (mLst (mCons (mTup (mCons (mVar 4) (mCons (mVar 7) (mNil)))) (mNil)))))) (sIf (mAnd (mTst (mOp (isF true) (mVarT 9) (mT (ret .none)))) (mAnd (mTst (mOp gtF (mVarT 9) (mVarT 1))) (mAnd (mTst (mOp (inAF true) (mVarT 9) (mVarT 6))) (mTst (mOp neF (mVarT 9) (mVarT 4)))))) (sAppend 3 (mTup (mCons (mVar 9) (mCons (mOp addF (mVarT 5) (mT (mLst (mCons (mTup (mCons (mVar 4) (mCons (mVar 7) (mNil)))) (mNil))))) (mNil))))) (sNext)))
abbrev c2_rings_from : M Bool := mTst (mOp neF (mVarT 3) (mT (mLst (mNil))))
def l3_rings_from : S := sSeq (sAsg (mPop 3) (hTup 2 (hCons (hName 4) (hCons (hName 5) (hNil)))))
 (sSeq (sAsg (mLc (mSeqI (mVar 5)) (hTup 2 (hCons (hName 10) (hCons (hName 7) (hNil)))) (mYes) (e0_rings_from) [10, 7]) (hName 6))
 (sFor (mEnum (mCons (mOp ixF (mVarT 0) (mVarT 4)) (mNil))) (hTup 2 (hCons (hName 7) (hCons (hName 8) (hNil)))) (l1_rings_from)))
def b_rings_from : S := sSeq (sPar [true, true] [2, 3] (mCons (mLst (mNil)) (mCons (mLst (mCons (mTup (mCons (mVar 1) (mCons (mLst (mNil)) (mNil)))) (mNil))) (mNil))))
 (sSeq (whileGo (c2_rings_from) (l3_rings_from) 1000000)
 (sRet (mVar 2)))
def g_rings_from : List D → RR := callD 2 11 b_rings_from
abbrev e0_rings_of : M D := mCB tupleF (mCons (mVarT 3) (mNil))
def l1_rings_of : S := sAsg (mOp addF (mVarT 1) (mT (mLc (mSeqI (mCall0 g_rings_from (mCons (mVar 0) (mCons (mVar 2) (mNil))))) (hName 3) (mYes) (e0_rings_of) [3]))) (hName 1)
def b_rings_of : S := sSeq (sAsg (mLst (mNil)) (hName 1))
 (sSeq (sFor (mRng1 (mCons (mCB lenF (mCons (mVarT 0) (mNil))) (mNil))) (hName 2) (l1_rings_of))
 (sRet (mCB sortF (mCons (mVarT 1) (mNil)))))
def g_rings_of : List D → RR := callD 1 4 b_rings_of
abbrev e0_measure : M D := mOp ixF (mT (mOp ixF (mVarT 0) (mVarT 3))) (mVarT 4)
abbrev e1_measure : M D := mOp ixF (mVarT 5) (mT (ret (.int 2)))
abbrev e2_measure : M D := mOp ixF (mVarT 5) (mT (ret (.int 1)))
def b_measure : S := sSeq (sAsg (mLc (mSeqI (mVar 1)) (hTup 2 (hCons (hName 3) (hCons (hName 4) (hNil)))) (mYes) (e0_measure) [3, 4]) (hName 2))
 (sRet (mTup (mCons (mCB sumF (mCons (mT (mLc (mSeqI (mVar 2)) (hName 5) (mYes) (e2_measure) [5])) (mNil))) (mCons (mCB sumF (mCons (mT (mLc (mSeqI (mVar 2)) (hName 5) (mYes) (e1_measure) [5])) (mNil))) (mNil)))))
def g_measure : List D → RR := callD 2 6 b_measure
def b_lowest : S := sSeq (sAsg (mCall0 g_divisor (mCons (mCB absF (mCons (mVarT 0) (mNil))) (mCons (mVar 1) (mNil)))) (hName 2))
 (sRet (mTup (mCons (mOp fdivF (mVarT 0) (mVarT 2)) (mCons (mOp fdivF (mVarT 1) (mVarT 2)) (mNil)))))
def g_lowest : List D → RR := callD 2 3 b_lowest
def b_ratio : S := sSeq (sAsg (mCall0 g_measure (mCons (mVar 0) (mCons (mVar 1) (mNil)))) (hTup 2 (hCons (hName 2) (hCons (hName 3) (hNil)))))
 (sRet (mCall0 g_lowest (mCons (mVar 2) (mCons (mVar 3) (mNil)))))
def g_ratio : List D → RR := callD 2 4 b_ratio
def b_is_less : S := sRet (mOp ltF (mT (mOp mulF (mT (mOp ixF (mVarT 0) (mT (ret (.int 0))))) (mT (mOp ixF (mVarT 1) (mT (ret (.int 1))))))) (mT (mOp mulF (mT (mOp ixF (mVarT 1) (mT (ret (.int 0))))) (mT (mOp ixF (mVarT 0) (mT (ret (.int 1))))))))
def g_is_less : List D → RR := callD 2 2 b_is_less
def l0_greatest : S := sAsg (mIf (mOr (mTst (mOp (isF false) (mVarT 1) (mT (ret .none)))) (mTst (mCall0 g_is_less (mCons (mVar 1) (mCons (mVar 2) (mNil)))))) (mVar 2) (mVar 1)) (hName 1)
def b_greatest : S := sSeq (sAsg (ret .none) (hName 1))
 (sSeq (sFor (mSeqI (mVar 0)) (hName 2) (l0_greatest))
 (sRet (mVar 1)))
def g_greatest : List D → RR := callD 1 3 b_greatest
abbrev e0_slowest_of : M D := mCall0 g_ratio (mCons (mVar 0) (mCons (mVar 1) (mNil)))
def b_slowest_of : S := sRet (mCall0 g_greatest (mCons (mLc (mSeqI (mCall0 g_rings_of (mCons (mVar 0) (mNil)))) (hName 1) (mYes) (e0_slowest_of) [1]) (mNil)))
def g_slowest_of : List D → RR := callD 1 2 b_slowest_of
def b_slowest : S := sSeq (sDrop (mCall g_need_net (mCons (mVar 0) (mNil))))
 (sRet (mCall0 g_slowest_of (mCons (mOp ixF (mVarT 0) (mT (ret (.int 1)))) (mNil))))
def g_slowest : List D → RR := callD 1 1 b_slowest
abbrev e0_are_stores : M D := mCall0 g_is_whole (mCons (mVar 3) (mCons (ret (.int 0)) (mCons (mOp subF (mT (mCB lenF (mCons (mT (mOp ixF (mVarT 0) (mT (ret (.int 1))))) (mNil)))) (mT (ret (.int 1)))) (mNil))))
def l1_are_stores : S := sSeq (sIf (mOr (mNot (mTst (mIsi (pIs "tuple") (mVarT 2)))) (mTst (mOp neF (mT (mCB lenF (mCons (mVarT 2) (mNil)))) (mT (ret (.int 2)))))) (sRet (ret (.bool false))) (sNext))
 (sIf (mNot (mTst (mCB allF (mCons (mT (mLc (mSeqI (mVar 2)) (hName 3) (mYes) (e0_are_stores) [3])) (mNil))))) (sRet (ret (.bool false))) (sNext))
def b_are_stores : S := sSeq (sIf (mOr (mNot (mTst (mIsi (pIs "tuple") (mVarT 1)))) (mNot (mTst (mChain leF leF (mT (ret (.int 1))) (mT (mCB lenF (mCons (mVarT 1) (mNil)))) (mT (ret (.int 2))))))) (sRet (ret (.bool false))) (sNext))
 (sSeq (sFor (mSeqI (mVar 1)) (hName 2) (l1_are_stores))
 (sRet (ret (.bool true))))
def g_are_stores : List D → RR := callD 2 4 b_are_stores
def b_need_stores : S := sSeq (sDrop (mCall g_need_net (mCons (mVar 0) (mNil))))
 (sIf (mNot (mTst (mCall0 g_are_stores (mCons (mVar 0) (mCons (mVar 1) (mNil)))))) (sRaise "InvalidStores") (sNext))
def g_need_stores : List D → RR := callD 2 2 b_need_stores
abbrev e0_need_rooms : M D := mCall0 g_is_whole (mCons (mVar 2) (mCons (ret (.int 1)) (mCons (ret (.int 6)) (mNil))))
def b_need_rooms : S := sSeq (sIf (mOr (mNot (mTst (mIsi (pIs "tuple") (mVarT 1)))) (mTst (mOp neF (mT (mCB lenF (mCons (mVarT 1) (mNil)))) (mT (mCB lenF (mCons (mVarT 0) (mNil))))))) (sRaise "InvalidNumber") (sNext))
 (sIf (mNot (mTst (mCB allF (mCons (mT (mLc (mSeqI (mVar 1)) (hName 2) (mYes) (e0_need_rooms) [2])) (mNil))))) (sRaise "InvalidNumber") (sNext))
def g_need_rooms : List D → RR := callD 2 3 b_need_rooms
def l0_with_rooms : S := sSetItem 3 (mOp addF (mT (mOp ixF (mVarT 3) (mVarT 5))) (mT (mTup (mCons (mTup (mCons (mOp addF (mT (ret (.str "e"))) (mT (mCB strF (mCons (mVarT 6) (mNil))))) (mCons (ret (.int 0)) (mCons (mOp ixF (mVarT 2) (mVarT 4)) (mNil))))) (mNil))))) (mVar 5)
def b_with_rooms : S := sSeq (sOwn (mCB listF (mCons (mVarT 0) (mNil))) 3)
 (sSeq (sFor (mEnum (mCons (mVar 1) (mNil))) (hTup 2 (hCons (hName 4) (hCons (hTup 2 (hCons (hName 5) (hCons (hName 6) (hNil)))) (hNil)))) (l0_with_rooms))
 (sRet (mCB tupleF (mCons (mVarT 3) (mNil)))))
def g_with_rooms : List D → RR := callD 3 7 b_with_rooms
def b_slowest_with : S := sSeq (sDrop (mCall g_need_stores (mCons (mVar 0) (mCons (mVar 1) (mNil)))))
 (sSeq (sDrop (mCall g_need_rooms (mCons (mVar 1) (mCons (mVar 2) (mNil)))))
 (sRet (mCall0 g_slowest_of (mCons (mCall0 g_with_rooms (mCons (mOp ixF (mVarT 0) (mT (ret (.int 1)))) (mCons (mVar 1) (mCons (mVar 2) (mNil))))) (mNil)))))
def g_slowest_with : List D → RR := callD 3 3 b_slowest_with
abbrev e0_all_rooms : M D := mOp addF (mVarT 4) (mT (mTup (mCons (mVar 5) (mNil))))
def l1_all_rooms : S := sAsg (mOp addF (mVarT 3) (mT (mLc (mRng2 (mCons (ret (.int 1)) (mCons (mOp addF (mT (ret (.int 6))) (mT (ret (.int 1)))) (mNil)))) (hName 5) (mYes) (e0_all_rooms) [5]))) (hName 3)
def l2_all_rooms : S := sSeq (sAsg (mLst (mNil)) (hName 3))
 (sSeq (sFor (mSeqI (mVar 1)) (hName 4) (l1_all_rooms))
 (sAsg (mVar 3) (hName 1)))
def b_all_rooms : S := sSeq (sAsg (mLst (mCons (mTup (mNil)) (mNil))) (hName 1))
 (sSeq (sFor (mRng1 (mCons (mVar 0) (mNil))) (hName 2) (l2_all_rooms))
 (sRet (mVar 1)))
def g_all_rooms : List D → RR := callD 1 6 b_all_rooms
def b_is_pace : S := sSeq (sIf (mOr (mNot (mTst (mIsi (pIs "tuple") (mVarT 0)))) (mTst (mOp neF (mT (mCB lenF (mCons (mVarT 0) (mNil)))) (mT (ret (.int 2)))))) (sRet (ret (.bool false))) (sNext))
 (sRet (mAndV (mCall0 g_is_whole (mCons (mOp ixF (mVarT 0) (mT (ret (.int 0)))) (mCons (ret (.int 0)) (mCons (ret (.int 1000)) (mNil))))) (mAndV (mCall0 g_is_whole (mCons (mOp ixF (mVarT 0) (mT (ret (.int 1)))) (mCons (ret (.int 1)) (mCons (ret (.int 1000)) (mNil))))) (mOp eqF (mT (mCall0 g_lowest (mCons (mOp ixF (mVarT 0) (mT (ret (.int 0)))) (mCons (mOp ixF (mVarT 0) (mT (ret (.int 1)))) (mNil))))) (mVarT 0)))))
def g_is_pace : List D → RR := callD 1 1 b_is_pace
def b_keeps : S := sSeq (sAsg (mCall0 g_slowest_of (mCons (mCall0 g_with_rooms (mCons (mVar 0) (mCons (mVar 1) (mCons (mVar 2) (mNil))))) (mNil))) (hName 4))
 (sRet (mOrV (mOp (isF false) (mVarT 4) (mT (ret .none))) (mNotV (mCall0 g_is_less (mCons (mVar 3) (mCons (mVar 4) (mNil)))))))
def g_keeps : List D → RR := callD 4 5 b_keeps
abbrev t0_least_rooms : M Bool := mTst (mCall0 g_keeps (mCons (mOp ixF (mVarT 0) (mT (ret (.int 1)))) (mCons (mVar 1) (mCons (mVar 5) (mCons (mVar 2) (mNil))))))
abbrev e1_least_rooms : M D := mVar 5
abbrev e2_least_rooms : M D := mOp leF (mVarT 9) (mT (mOp ixF (mVarT 5) (mVarT 8)))
abbrev t3_least_rooms : M Bool := mAnd (mTst (mOp neF (mVarT 7) (mVarT 5))) (mTst (mCB allF (mCons (mT (mLc (mEnum (mCons (mVar 7) (mNil))) (hTup 2 (hCons (hName 8) (hCons (hName 9) (hNil)))) (mYes) (e2_least_rooms) [8, 9])) (mNil))))
abbrev e4_least_rooms : M D := mVar 7
def l5_least_rooms : S := sSeq (sAsg (mLc (mSeqI (mVar 3)) (hName 7) (t3_least_rooms) (e4_least_rooms) [7]) (hName 6))
 (sIf (mTst (mOp eqF (mVarT 6) (mT (mLst (mNil))))) (sAppend 4 (mVar 5)) (sNext))
def b_least_rooms : S := sSeq (sDrop (mCall g_need_stores (mCons (mVar 0) (mCons (mVar 1) (mNil)))))
 (sSeq (sIf (mNot (mTst (mCall0 g_is_pace (mCons (mVar 2) (mNil))))) (sRaise "InvalidNumber") (sNext))
 (sSeq (sAsg (mLc (mSeqI (mCall0 g_all_rooms (mCons (mCB lenF (mCons (mVarT 1) (mNil))) (mNil)))) (hName 5) (t0_least_rooms) (e1_least_rooms) [5]) (hName 3))
 (sSeq (sOwn (mLst (mNil)) 4)
 (sSeq (sFor (mSeqI (mVar 3)) (hName 5) (l5_least_rooms))
 (sRet (mCB tupleF (mCons (mVarT 4) (mNil))))))))
def g_least_rooms : List D → RR := callD 3 10 b_least_rooms
abbrev e0__law_no_less : M D := mOp geF (mVarT 3) (mT (mOp ixF (mVarT 1) (mVarT 2)))
def b__law_no_less : S := sRet (mCB allF (mCons (mT (mLc (mEnum (mCons (mVar 0) (mNil))) (hTup 2 (hCons (hName 2) (hCons (hName 3) (hNil)))) (mYes) (e0__law_no_less) [2, 3])) (mNil)))
def g__law_no_less : List D → RR := callD 2 4 b__law_no_less
end Rn
end
section
set_option Elab.async false
set_option linter.all false
set_option autoImplicit false
set_option maxRecDepth 100000
namespace Rn
open PySem PySem.Spec L2 PyProof.Rows
section
variable {P : Program} {w : World} {A : Around} {E : Value → Shared → Prop} {s : Shared}
set_option maxHeartbeats 3200000 in
/-- set(t), t a tuple of tuples of ints -/
theorem set_of_tup {l : Addr} {items : Array Value} (ks : List (Addr × List Int)) {Q : Value → Shared → Prop} (hh : A.handled = none) (hl : s.heap.IsTuple l items) (hit : items.toList = ks.map fun p => Value.ref p.1)
    (hk : ∀ p ∈ ks, IsT P w s.heap p.2 p.1) (hfew : ks.length < 64) (hu : A.units + 3 < cLine)
    (h : ∀ (h' : Heap) (tk : Nat) L es ep t, SetTR P w h' s.heap.objs.size L es ep t → Got ks ks.length L → (∀ b o, s.heap.get? b = some o → h'.get? b = some o) → Q (.ref s.heap.objs.size) { s with heap := h', toks := tk }) :
    wpAny (model P w) A (call (.type "set") [.ref l]) Q E s := by
  have hisz : items.size = ks.length := by
    have q := congrArg List.length hit
    rwa [Array.length_toList, List.length_map] at q
  obtain ⟨c, tl, hmro⟩ := F.called_set.mro
  have hmade := F.called_set.made
  have hsub := F.called_set.sub
  have h1 := F.called_set.notType
  have h2 := F.called_set.canCreate
  have hct := F.typeCall_set_1 (.ref l)
  refine wpAny_call (codeAny_of_tree ?_)
  show wpAny _ _ (callAny (.type "set") _) _ _ _
  refine wpAny_pure ⟨Code.quiet_builtin _ (by decide +kernel), codeAny_builtin F.entry_type_call ?_⟩
  rw [Around.under_plain (weight_type_call_type "set" [.ref l] []) rfl]
  repeat (any_goals (first | assumption | wp_step))
  refine codeAny_mono (code_set_led1 (.ref l) (E := E) (Q₁ := fun obj s₁ => obj = .ref s.heap.objs.size ∧ s₁ = { s with heap := s.heap.push { cls := .type "set", dict := none, data := .set #[] 0 (.fresh 0 0 (!w.params.followText "set-order")) } }) ⟨rfl, rfl⟩) fun r s₁ hr => ?_
  cases r with
  | error e => exact hr
  | ok fl =>
    cases fl with
    | ret obj =>
      obtain ⟨rfl, rfl⟩ := hr
      have hS : (s.heap.push { cls := .type "set", dict := none, data := .set #[] 0 (.fresh 0 0 (!w.params.followText "set-order")) }).get? s.heap.objs.size = some { cls := .type "set", dict := none, data := .set #[] 0 (.fresh 0 0 (!w.params.followText "set-order")) } := Heap.get?_push_size _ rfl
      have hT : Shared.TypeIs { s with heap := s.heap.push { cls := .type "set", dict := none, data := .set #[] 0 (.fresh 0 0 (!w.params.followText "set-order")) } } (.ref s.heap.objs.size) "set" := ⟨_, hS, rfl⟩
      have hli := F.called_set.init.lookup
      have hbi := F.called_set.init.bind (.ref s.heap.objs.size)
      repeat (any_goals (first | assumption | wp_step))
      refine codeAny_mono (codeAny_call_builtin (R := wants (fun r s₂ => r = Value.none ∧ ∃ h' tk L es ep t, s₂ = { s with heap := h', toks := tk } ∧ SetTR P w h' s.heap.objs.size L es ep t ∧ Got ks ks.length L ∧ (∀ b o, s.heap.get? b = some o → h'.get? b = some o)) E) F.called_set.init.plain F.entry_set_init (check_set_init_1 hT ?_)) fun r₂ s₂ hr₂ => ?_
      · have hl1 : (s.heap.push { cls := .type "set", dict := none, data := .set #[] 0 (.fresh 0 0 (!w.params.followText "set-order")) }).IsTuple l items := hl.push _
        obtain ⟨ol, hol, hcl, nl, hdl⟩ := hl
        obtain ⟨ocls, odict, odata, oslots⟩ := ol
        simp only at hcl hdl
        subst hcl; subst hdl
        have hol' : (s.heap.push { cls := .type "set", dict := none, data := .set #[] 0 (.fresh 0 0 (!w.params.followText "set-order")) }).get? l = some { cls := .type "tuple", dict := odict, data := .seq items nl, slots := oslots } := Heap.get?_push_of_some _ hol
        have hsls := F.sub_tuple_set
        have hslf := F.sub_tuple_frozenset
        have hne : (Value.type "tuple" == Value.type "dict") = false := by decide
        unfold Builtin.«set.__init__» noKeywords Builtin.Frozenset.updateFrom
        generalize hPI : pyIter = PI
        wp_walk
        subst hPI
        refine wpAny_pyIter_tuple hl1 ?_
        refine wpAny_bind (wpAny_runValue ?_)
        have hlS : l < s.heap.objs.size := Heap.lt_size hol
        have hh3 : A.in1.in1.in1.handled = none := by simp [hh]
        have hz1 : (s.heap.push { cls := .type "set", dict := none, data := .set #[] 0 (.fresh 0 0 (!w.params.followText "set-order")) }).objs.size = s.heap.objs.size + 1 := Heap.size_push ..
        have hneI : l ≠ (s.heap.push { cls := .type "set", dict := none, data := .set #[] 0 (.fresh 0 0 (!w.params.followText "set-order")) }).objs.size := by
          rw [Heap.size_push]; exact Nat.ne_of_lt (Nat.lt_succ_of_lt hlS)
        have hSf : s.heap.objs.size ∉ [(s.heap.push { cls := .type "set", dict := none, data := .set #[] 0 (.fresh 0 0 (!w.params.followText "set-order")) }).objs.size, l] := by
          rw [Heap.size_push]; simp only [List.mem_cons, List.mem_singleton, List.not_mem_nil, or_false, not_or]
          exact ⟨Nat.ne_of_lt (Nat.lt_succ_self _), Nat.ne_of_gt hlS⟩
        have hval : ∀ (i : Nat) (v : Value), items[i]? = some v → ∃ p, ks[i]? = some p ∧ v = .ref p.1 := fun i v hv => by
          have q : items.toList[i]? = some v := by rw [Array.getElem?_toList]; exact hv
          rw [hit, List.getElem?_map] at q
          cases hq : ks[i]? with
          | none => rw [hq] at q; cases q
          | some p => rw [hq] at q; exact ⟨p, rfl, (Option.some.inj q).symm⟩
        have none_of : ∀ b, s.heap.objs.size ≤ b → s.heap.get? b = none := fun b hb => by
          cases q : s.heap.get? b with
          | none => rfl
          | some o => exact absurd (Nat.lt_of_lt_of_le (Heap.lt_size q) hb) (Nat.lt_irrefl _)
        refine set_update_tups ((Walks.tuple hh3 _ l hneI items).toS) s.heap.objs.size hSf ks hisz hfew hval s.heap hk (none_of _ (Nat.le_refl _)) (fun b hb => none_of b (by
            rw [List.mem_singleton.mp hb, Heap.size_push]
            exact Nat.le_succ _)) hu (items.size - 0) 0 _ (by omega) (Nat.zero_le _)
          ⟨⟨_, Heap.get?_push_size _ rfl, rfl, rfl⟩, (hl1.push _)⟩ (fun b o e => Heap.get?_push_of_some _ (Heap.get?_push_of_some _ e)) ?hS0 ?hR
        case hS0 =>
          exact ⟨[], #[], 0, _, setTR_fresh (Heap.get?_push_of_some _ hS), Got.zero ks⟩
        case hR =>
          intro s' L es ep t hm hS' g' hkp
          obtain ⟨h', g2, d', tk', os'⟩ := s'
          have eg : g2 = s.gens := hm.gens
          have ed : d' = s.drawn := hm.drawn
          have eo : os' = s.os := hm.os
          subst eg; subst ed; subst eo
          show wpAny _ _ _ _ _ _
          refine wpAny_pure ?_
          show wpAny _ _ (PySem.ret Value.none) _ _ _
          rw [hisz] at g'
          exact wpAny_pure ⟨rfl, h', tk', L, es, ep, t, rfl, hS', g', hkp⟩
      · cases r₂ with
        | error e => exact hr₂
        | ok fl₂ =>
          cases fl₂ with
          | ret r =>
            obtain ⟨rfl, h', tk, L, es, ep, t, rfl, hS', g', hk'⟩ := hr₂
            repeat (any_goals (first | assumption | wp_step))
            exact h _ _ _ _ _ _ hS' g' hk'
          | _ => exact hr₂.elim
    | _ => exact hr.elim
end
def rSetT (K : PySem.W.Frag) (P : Program) (w : World) : List V → Hp → VK → Prop := fun xs H Q => ∃ (l : Addr) (ks : List (Addr × List Int)), xs = [V.ref l] ∧ SqT K H l (ks.map fun p => V.ref p.1) ∧ (∀ p ∈ ks, SqT K H p.1 (p.2.map V.int)) ∧ ks.length < 64 ∧
  ∀ a L, H a = none → (∀ p ∈ L, p ∈ ks) → (∀ p ∈ ks, p.2 ∈ L.map (·.2)) → Q (.ref a) (upd H a (SetTO P w a L))
theorem cr_setT {X : Cx} (hc : X.calm = true) (hu : X.A.units + 64 < cLine) : CallR X (.type "set") (rSetT X.K X.prog X.w) := by
  intro pins s σ H xs us Q I r h
  obtain ⟨l, ks, rfl, hl, hk, hf, q⟩ := h
  rw [Vals.ref1 r]
  obtain ⟨its, rv, ht, hz⟩ := I.tuple hl
  have hn : H s.heap.objs.size = none := I.hok.fresh (Nat.le_refl _)
  refine set_of_tup (P := X.prog) (w := X.w) ks (I.ok.hd hc) ht (by simpa using refs_of_vals rv) (fun p hp => I.isT (hk p hp)) hf (by omega) fun h' tk L es ep t R g k => ?_
  refine ⟨.ref s.heap.objs.size, upd H s.heap.objs.size (SetTO X.prog X.w s.heap.objs.size L), I.laid (t' := tk) k (Nat.le_refl _) (setTO_new R.t0), rfl, q _ L hn (fun p hp => List.mem_of_mem_take (g.sub p hp)) fun p hp => g.all p (by rw [List.take_length]; exact hp)⟩
/-- pairs of numbers -/
def pairsOf : List D → Option (List (Int × Int))
  | [] => some []
  | .tuple [.int i, .int j] :: r => (pairsOf r).map ((i, j) :: ·)
  | _ => none
def ordered (ps : List (Int × Int)) : Bool := decide (ps.length < 64) && decide (∀ p ∈ ps, 0 ≤ p.1 ∧ p.1 < 64 ∧ 0 ≤ p.2 ∧ p.2 < 64) && decide (ps.Pairwise fun p q => p.1 * 64 + p.2 < q.1 * 64 + q.2)
def sortSetF : List D → Option D
  | [.tuple ds] => (match pairsOf ds with
    | some ps => if ordered ps = true then some (.list ds) else none
    | none => none)
  | _ => none
theorem pairs_eq {ds : List D} : ∀ {ps : List (Int × Int)}, pairsOf ds = some ps → ds = ps.map fun p => PyData.tuple [.int p.1, .int p.2] := by
  induction ds with
  | nil => intro ps h; cases h; rfl
  | cons d ds ih =>
    intro ps h
    unfold pairsOf at h
    split at h
    · next e => cases e
    · next i j r e =>
      injection e with e1 e2
      subst e1; subst e2
      cases hr : pairsOf ds with
      | none => rw [hr] at h; cases h
      | some qs =>
        rw [hr] at h
        cases h
        rw [List.map_cons, ← ih hr]
    · cases h
theorem pairs_den {F : Hp} : ∀ {ps : List (Int × Int)} {ws : List V}, DenL F (ps.map fun p => PyData.tuple [.int p.1, .int p.2]) ws → ∃ ks : List (Addr × List Int), ws = ks.map (fun p => V.ref p.1) ∧ ks.map (·.2) = ps.map (fun p => [p.1, p.2]) ∧ ∀ p ∈ ks, F p.1 = some (.tup (p.2.map V.int))
  | [], ws, l => by
    have l : ws = [] := l
    subst l
    exact ⟨[], rfl, rfl, fun p hp => by cases hp⟩
  | (i, j) :: ps, ws, l => by
    obtain ⟨v, r2, rfl, hv, l⟩ := l
    obtain ⟨ks, rfl, e2, e3⟩ := pairs_den l
    obtain ⟨a, vs, rfl, ha, x, y, rfl, e4, z, u, rfl, e5, e6⟩ := hv
    have e4 : x = .int i := e4
    have e5 : z = .int j := e5
    have e6 : u = [] := e6
    subst e4; subst e5; subst e6
    refine ⟨(a, [i, j]) :: ks, rfl, by rw [List.map_cons, List.map_cons, e2], fun p hp => ?_⟩
    rcases List.mem_cons.mp hp with rfl | hp
    · exact ha
    · exact e3 p hp
theorem strict_ext {α : Type} (c : α → Int) : ∀ {l m : List α}, l.Pairwise (fun x y => c x < c y) → m.Pairwise (fun x y => c x < c y) → (∀ x, x ∈ l ↔ x ∈ m) → l = m
  | [], [], _, _, _ => rfl
  | [], y :: m, _, _, h => absurd ((h y).mpr List.mem_cons_self) (by simp)
  | x :: l, [], _, _, h => absurd ((h x).mp List.mem_cons_self) (by simp)
  | x :: l, y :: m, hl, hm, h => by
    obtain ⟨l1, l2⟩ := List.pairwise_cons.mp hl
    obtain ⟨m1, m2⟩ := List.pairwise_cons.mp hm
    have e : x = y := by
      rcases List.mem_cons.mp ((h x).mp List.mem_cons_self) with e | hx
      · exact e
      · rcases List.mem_cons.mp ((h y).mpr List.mem_cons_self) with e | hy
        · exact e.symm
        · have a := m1 x hx
          have b := l1 y hy
          omega
    subst e
    refine congrArg (x :: ·) (strict_ext c l2 m2 fun z => ⟨fun hz => ?_, fun hz => ?_⟩)
    · rcases List.mem_cons.mp ((h z).mp (List.mem_cons_of_mem _ hz)) with rfl | hz2
      · have := l1 z hz; omega
      · exact hz2
    · rcases List.mem_cons.mp ((h z).mpr (List.mem_cons_of_mem _ hz)) with rfl | hz2
      · have := m1 z hz; omega
      · exact hz2
/-- sorted(set(t)) as one reading -/
def rSS (K : PySem.W.Frag) (P : Program) (w : World) : List V → Hp → VK → Prop := fun vs H Q => rSetT K P w vs H fun a H1 => rSortedT K P w [a] H1 Q
def CallOkS (r : List V → Hp → VK → Prop) (f : List D → Option D) : Prop := ∀ {F H : Hp} {vs : List V} {ds : List D} {z : D} {Q : VK}, Same F H → NowAll F H vs ds → f ds = some z → (∀ a O p o, H a = none → p ≠ a → H p = none → Shal F z o → Q (.ref p) (upd (upd H a O) p o)) → r vs H Q
theorem okS_ss {K : PySem.W.Frag} {P : Program} {w : World} : CallOkS (rSS K P w) sortSetF := by
  intro F H vs ds z Q s hn hf q
  unfold sortSetF at hf
  split at hf
  · next es =>
    split at hf
    · next ps hps =>
      split at hf
      · next ok =>
        cases hf
        obtain ⟨v0, r0, rfl, h1, h2⟩ := hn
        cases h2
        obtain ⟨t, ws, rfl, _, e, l⟩ := h1.tup s
        have eds := pairs_eq hps
        have l0 := l
        rw [eds] at l
        obtain ⟨ks, rfl, e2, e3⟩ := pairs_den l
        unfold ordered at ok
        simp only [Bool.and_eq_true, decide_eq_true_eq] at ok
        obtain ⟨⟨o1, o2⟩, o3⟩ := ok
        have hlen : ks.length < 64 := by
          have := congrArg List.length e2
          rw [List.length_map, List.length_map] at this
          omega
        have key : ∀ p ∈ ks, ∃ x ∈ ps, p.2 = [x.1, x.2] := fun p hp => by
          have : p.2 ∈ ps.map fun p => [p.1, p.2] := by rw [← e2]; exact List.mem_map.mpr ⟨p, hp, rfl⟩
          obtain ⟨x, hx, e⟩ := List.mem_map.mp this
          exact ⟨x, hx, e.symm⟩
        have strict : ks.Pairwise fun p q => TS.code 64 p.2 < TS.code 64 q.2 := by
          have a : (ps.map fun p => [p.1, p.2]).Pairwise fun p q => TS.code 64 p < TS.code 64 q := by
            refine List.pairwise_map.mpr (o3.imp fun {p q} h => ?_)
            rw [code_pair, code_pair]
            exact h
          rw [← e2] at a
          exact (List.pairwise_map (f := fun p : Addr × List Int => p.2) (R := fun p q : List Int => TS.code 64 p < TS.code 64 q)).mp a
        have inj : ∀ p ∈ ks, ∀ r ∈ ks, TS.code 64 p.2 = TS.code 64 r.2 → p = r := by
          intro p hp r hr hc
          obtain ⟨i, hi, rfl⟩ := List.getElem_of_mem hp
          obtain ⟨j, hj, rfl⟩ := List.getElem_of_mem hr
          rcases Nat.lt_trichotomy i j with h | h | h
          · have := (List.pairwise_iff_getElem.mp strict) i j hi hj h; omega
          · subst h; rfl
          · have := (List.pairwise_iff_getElem.mp strict) j i hj hi h; omega
        refine ⟨t, ks, rfl, SqT.of e, fun p hp => SqT.of (s _ _ (e3 p hp)), hlen, fun a L ha hL1 hL2 => ?_⟩
        have H1 : Same H (upd H a (SetTO P w a L)) := same_upd ha
        refine ⟨a, L, 2, 64, rfl, upd_same, fun p hp => SqT.of (H1 _ _ (s _ _ (e3 p (hL1 p hp)))), by decide, fun p hp => ?_, fun L' b pm nd hl' pw hb => ?_⟩
        · obtain ⟨x, hx, e⟩ := key p (hL1 p hp)
          have := o2 x hx
          rw [e]
          refine ⟨rfl, fun y hy => ?_⟩
          simp only [List.mem_cons, List.not_mem_nil, or_false] at hy
          rcases hy with rfl | rfl
          · exact ⟨this.1, this.2.1⟩
          · exact ⟨this.2.2.1, this.2.2.2⟩
        · have e5 : L' = ks := by
            refine strict_ext (fun p => TS.code 64 p.2) ?_ strict fun x => ⟨fun hx => hL1 x (pm.mem_iff.mp hx), fun hx => ?_⟩
            · refine (List.Pairwise.and (List.pairwise_map.mp nd) pw).imp_of_mem fun {p r} hp hr h => ?_
              have hp := hL1 p (pm.mem_iff.mp hp)
              have hr := hL1 r (pm.mem_iff.mp hr)
              rcases Int.lt_or_eq_of_le h.2 with h3 | h3
              · exact h3
              · exact absurd (congrArg Prod.snd (inj p hp r hr h3)) h.1
            · obtain ⟨y, hy, e⟩ := List.mem_map.mp (hL2 x hx)
              have : y = x := inj y (hL1 y hy) x hx (by rw [e])
              rw [← this]
              exact pm.mem_iff.mpr hy
          subst e5
          have hba : b ≠ a := fun z => by
            rw [z, upd_same] at hb
            cases hb
          rw [upd_ne hba] at hb
          exact q a _ b _ ha hba hb l0
      · cases hf
    · cases hf
  · cases hf
theorem evf_ss {B : Bd} {EX : Str → Hp → Prop} {r : List V → Hp → VK → Prop} {f : List D → Option D} {ta : TA} {fa : M (List TV)} (ho : CallOkS r f) (ha : Ev B EX VTs ta fa) : EvF B EX (tCB r ta) (mCB f fa) := by
  refine evf_bind (tb := fun x σ H Q => r x H Q) ha fun a x F H σ ρ Q m p q => ?_
  cases e1 : derefs ρ a with
  | none => simp only [e1] at q; exact q.elim
  | some d =>
    simp only [e1] at q
    unfold lft at q
    cases e3 : f d with
    | none => rw [e3] at q; exact q.elim
    | some z =>
      rw [e3] at q
      refine ho m.sub (TvAll.now m p e1) e3 fun a O c o hna hne hc sh => ?_
      have x0 := m.ext (Ext.loose m.sub hna O)
      have hc2 : upd H a O c = none := by rw [upd_ne hne]; exact hc
      exact q (.ref c) F _ (x0.ext (Ext.loose x0.mt.sub hc2 o)) ⟨c, o, rfl, upd_same, sh, m.sub.free hc, hc⟩
section
variable {X : Cx} {B : Bd} {EX : Str → Hp → Prop} {e : Expr} {pos pos2 : Pos} {tl : TA} {rl : M (List TV)} {p p2 : Pos}
theorem jf_ss {K : PySem.W.Frag} (hK : X.K = K) (hc : X.calm = true) (hu : X.A.units + 64 < cLine) (hm : X.mg "sorted" = none) (hm2 : X.mg "set" = none) (ha : JAR X B EX [e] tl rl) (hg : Gl X "sorted" := by rfl) (hg2 : Gl X "set" := by rfl)
    (he : starEach [e] X.env = (false, eval e X.env) :: starEach [] X.env := by rfl) (hpl : (backTo pos2 (starEach [] X.env)).any (·.1) = false := by rfl) (hpl2 : (backTo pos (starEach [] X.env)).any (·.1) = false := by rfl) :
    JF X B EX (.Call (.Name "sorted" p) [.Call (.Name "set" p2) [e] [] pos2] [] pos) (tCB (rSS K X.prog X.w) tl) (mCB sortSetF rl) := by
  subst hK
  refine ⟨?_, evf_ss okS_ss ha.v⟩
  have i := pe_callTy (pos := pos2) (p := p2) (cr_setT hc hu) hg2 hm2 PyProof.Rows.boot_set ha.p (by decide) (by decide) he hpl
  have j : PE X (.Call (.Name "sorted" p) [.Call (.Name "set" p2) [e] [] pos2] [] pos) (tCB (rSortedT X.K X.prog X.w) (tCons (tCB (rSetT X.K X.prog X.w) tl) tNil)) := pe_callB (cr_sortedT hc) hg hm PyProof.Rows.boot_sorted (pa_cons i pa_nil rfl) (by decide) (by decide) rfl hpl2
  exact j
end
end Rn
end
section
set_option Elab.async false
set_option linter.all false
set_option maxRecDepth 100000
set_option maxHeartbeats 4000000
namespace Rn
open PySem PySem.Spec L2
abbrev lawN : List Str := ["script", "dice", "net", "many", "stores", "asked_pace", "told", "one", "at", "single", "rooms", "most", "keeps_it", "other"]
abbrev e0_law : M D := mAndV (mOp neF (mVarT 13) (mVarT 7)) (mCall0 g__law_no_less (mCons (mVar 7) (mCons (mVar 13) (mNil))))
def l1_law : S := sIf (mTst (mCB anyF (mCons (mT (mLc (mSeqI (mVar 6)) (hName 13) (mYes) (e0_law) [13])) (mNil)))) (sRet (ret (.bool false))) (sNext)
abbrev e2_law : M D := mCall0 g__law_no_less (mCons (mVar 10) (mCons (mVar 7) (mNil)))
def s3_law : S := sAsg (mTup (mCons (mOp addF (mT (ret (.int 1))) (mT (mOp fdivF (mVarT 8) (mT (ret (.int 6)))))) (mCons (mOp addF (mT (ret (.int 1))) (mT (mOp modF (mVarT 8) (mT (ret (.int 6)))))) (mNil)))) (hName 10)
def s4_law : S := sAsg (mCall g_slowest_with (mCons (mVar 2) (mCons (mVar 4) (mCons (mVar 10) (mNil))))) (hName 11)
def s5_law : S := sAsg (mOrV (mOp (isF false) (mVarT 11) (mT (ret .none))) (mOp leF (mT (mOp mulF (mT (mOp ixF (mVarT 11) (mT (ret (.int 0))))) (mT (mOp ixF (mVarT 5) (mT (ret (.int 1))))))) (mT (mOp mulF (mT (mOp ixF (mVarT 5) (mT (ret (.int 0))))) (mT (mOp ixF (mVarT 11) (mT (ret (.int 1))))))))) (hName 12)
def s6_law : S := sIf (mTst (mOp neF (mVarT 12) (mT (mCB anyF (mCons (mT (mLc (mSeqI (mVar 6)) (hName 7) (mYes) (e2_law) [7])) (mNil)))))) (sRet (ret (.bool false))) (sNext)
def l7_law : S := sSeq (s3_law)
 (sSeq (s4_law)
 (sSeq (s5_law)
 (s6_law)))
def s8_law : S := sAsg (mCallB (noEx c__law_net) 1 (mCons (ret (.int 4)) (mCons (ret (.int 0)) (mNil)))) (hName 2)
def s9_law : S := sAsg (mCB lenF (mCons (mT (mOp ixF (mVarT 2) (mT (ret (.int 1))))) (mNil))) (hName 3)
def s10_law : S := sAsg (mTup (mCons (mTup (mCons (mCallB (noEx c__law_roll) 1 (mCons (mVar 3) (mNil))) (mCons (mCallB (noEx c__law_roll) 1 (mCons (mVar 3) (mNil))) (mNil)))) (mCons (mTup (mCons (mCallB (noEx c__law_roll) 1 (mCons (mVar 3) (mNil))) (mCons (mCallB (noEx c__law_roll) 1 (mCons (mVar 3) (mNil))) (mNil)))) (mNil)))) (hName 4)
def s11_law : S := sAsg (mTup (mCons (mOp addF (mT (ret (.int 1))) (mT (mCallB (noEx c__law_roll) 1 (mCons (ret (.int 9)) (mNil))))) (mCons (ret (.int 1)) (mNil)))) (hName 5)
def s12_law : S := sAsg (mCall g_least_rooms (mCons (mVar 2) (mCons (mVar 4) (mCons (mVar 5) (mNil))))) (hName 6)
def s13_law : S := sIf (mTst (mOp neF (mT (mCB listF (mCons (mVarT 6) (mNil)))) (mT (mCB sortSetF (mCons (mVarT 6) (mNil)))))) (sRet (ret (.bool false))) (sNext)
def s14_law : S := sFor (mSeqI (mVar 6)) (hName 7) (l1_law)
def s15_law : S := sFor (mRng1 (mCons (ret (.int 36)) (mNil))) (hName 8) (l7_law)
def s16_law : S := sIf (mAnd (mTst (mOp (isF true) (mT (mCall g_slowest (mCons (mVar 2) (mNil)))) (mT (ret .none)))) (mAnd (mTst (mOp gtF (mT (mOp ixF (mT (mCall g_slowest (mCons (mVar 2) (mNil)))) (mT (ret (.int 0))))) (mT (mOp mulF (mT (mOp ixF (mVarT 5) (mT (ret (.int 0))))) (mT (mOp ixF (mT (mCall g_slowest (mCons (mVar 2) (mNil)))) (mT (ret (.int 1))))))))) (mTst (mOp neF (mVarT 6) (mT (mTup (mNil))))))) (sRet (ret (.bool false))) (sNext)
def s17_law : S := sAsg (mCall g_least_rooms (mCons (mVar 2) (mCons (mSl slF (mVarT 4) (mNoPart) (mPart (ret (.int 1)))) (mCons (mVar 5) (mNil))))) (hName 9)
def s18_law : S := sIf (mOr (mTst (mOp gtF (mT (mCB lenF (mCons (mVarT 9) (mNil)))) (mT (ret (.int 1))))) (mAnd (mTst (mOp neF (mVarT 6) (mT (mTup (mNil))))) (mTst (mOp eqF (mVarT 9) (mT (mTup (mNil))))))) (sRet (ret (.bool false))) (sNext)
def b_law : S := sSeq (s8_law)
 (sSeq (s9_law)
 (sSeq (s10_law)
 (sSeq (s11_law)
 (sSeq (s12_law)
 (sSeq (s13_law)
 (sSeq (s14_law)
 (sSeq (s15_law)
 (sSeq (s16_law)
 (sSeq (s17_law)
 (s18_law))))))))))
end Rn
end
section
set_option Elab.async false
set_option linter.all false
set_option maxRecDepth 100000
set_option maxHeartbeats 4000000
namespace Rn
open PySem PySem.Spec L2
/-- what the text leaves free, its numbers, its errors -/
structure Nm (K : PySem.W.Frag) (mg : Str → Option Value) (C : Str → Addr) : Prop where
  ValueError : mg "ValueError" = none
  abs : mg "abs" = none
  all : mg "all" = none
  any : mg "any" = none
  bool : mg "bool" = none
  enumerate : mg "enumerate" = none
  int : mg "int" = none
  isinstance : mg "isinstance" = none
  len : mg "len" = none
  list : mg "list" = none
  max : mg "max" = none
  min : mg "min" = none
  range : mg "range" = none
  set : mg "set" = none
  sorted : mg "sorted" = none
  str : mg "str" = none
  sum : mg "sum" = none
  tuple : mg "tuple" = none
  MOST_EVENTS : ∃ t, mg "MOST_EVENTS" = some (.int 5 t)
  MOST_BACK : ∃ t, mg "MOST_BACK" = some (.int 8 t)
  MOST_ROOMS : ∃ t, mg "MOST_ROOMS" = some (.int 6 t)
  X_RoundError : ExcF K mg C "RoundError"
  X_InvalidNet : ExcF K mg C "InvalidNet"
  X_InvalidNumber : ExcF K mg C "InvalidNumber"
  X_InvalidStores : ExcF K mg C "InvalidStores"
theorem sc__law_drawn : FnScope ["cell", "k", "more"] ["cell", "k"] (defScope s__law_drawn) := ⟨rfl, rfl, rfl, by decide +kernel, rfl, by decide +kernel, by decide +kernel⟩
theorem ok__law_drawn {P : Program} {w : World} {K : PySem.W.Frag} {mg : Str → Option Value} {base : Heap} {C : Str → Addr} (nm : Nm K mg C) (h : HasF K mg "_law_drawn" s__law_drawn ["cell", "k"]) : DefV P w K mg base CX0 C "_law_drawn" ["cell", "k"] 1 g__law_drawn := by
  have nd := sc__law_drawn.nd
  refine' def_v0 (k := 0) (N := ["cell", "k", "more"]) h sc__law_drawn ?hb
  intro f cdv A outer s H E hr
  refine' ⟨_, ?hc⟩
  case hc =>
    intro B EX
    refine' jss_cons ?zb0 ?zb1
    case zb0 =>
     refine' js_set 2 nd ?zc0
     case zc0 =>
      refine' je_mod ?zd0 ?zd1
      case zd0 =>
       refine' jr_of ?ze0
       case ze0 =>
        refine' je_add (K := K) ?zf0 ?zf1
        case zf0 =>
         refine' jr_of ?zg0
         case zg0 =>
          refine' je_mul (K := K) ?zh0 ?zh1
          case zh0 =>
           exact jr_var 0
          case zh1 =>
           refine' jr_of ?zi0
           case zi0 =>
            exact je_int
        case zf1 =>
         refine' jr_of ?zj0
         case zj0 =>
          refine' je_mul (K := K) ?zk0 ?zk1
          case zk0 =>
           refine' jr_of ?zl0
           case zl0 =>
            refine' je_add (K := K) ?zm0 ?zm1
            case zm0 =>
             exact jr_var 1
            case zm1 =>
             refine' jr_of ?zn0
             case zn0 =>
              exact je_int
          case zk1 =>
           refine' jr_of ?zo0
           case zo0 =>
            exact je_int
      case zd1 =>
       refine' jr_of ?zp0
       case zp0 =>
        exact je_int
    case zb1 =>
     refine' jss_cons ?zq0 ?zq1
     case zq0 =>
      refine' js_set 2 nd ?zr0
      case zr0 =>
       refine' je_mod ?zs0 ?zs1
       case zs0 =>
        refine' jr_of ?zt0
        case zt0 =>
         refine' je_mul (K := K) ?zu0 ?zu1
         case zu0 =>
          exact jr_var 2
         case zu1 =>
          exact jr_var 2
       case zs1 =>
        refine' jr_of ?zv0
        case zv0 =>
         exact je_int
     case zq1 =>
      refine' jss_cons ?zw0 ?zw1
      case zw0 =>
       refine' js_set 2 nd ?zx0
       case zx0 =>
        refine' je_mul (K := K) ?zy0 ?zy1
        case zy0 =>
         refine' jr_of ?zz0
         case zz0 =>
          refine' je_mul (K := K) ?zba0 ?zba1
          case zba0 =>
           refine' jr_of ?zbb0
           case zbb0 =>
            refine' je_add (K := K) ?zbc0 ?zbc1
            case zbc0 =>
             refine' jr_of ?zbd0
             case zbd0 =>
              refine' je_mod ?zbe0 ?zbe1
              case zbe0 =>
               exact jr_var 2
              case zbe1 =>
               refine' jr_of ?zbf0
               case zbf0 =>
                exact je_int
            case zbc1 =>
             refine' jr_of ?zbg0
             case zbg0 =>
              exact je_int
          case zba1 =>
           refine' jr_of ?zbh0
           case zbh0 =>
            refine' je_add (K := K) ?zbi0 ?zbi1
            case zbi0 =>
             refine' jr_of ?zbj0
             case zbj0 =>
              refine' je_fdiv ?zbk0 ?zbk1
              case zbk0 =>
               exact jr_var 2
              case zbk1 =>
               refine' jr_of ?zbl0
               case zbl0 =>
                exact je_int
            case zbi1 =>
             refine' jr_of ?zbm0
             case zbm0 =>
              exact je_int
        case zy1 =>
         exact jr_var 2
      case zw1 =>
       refine' jss_one ?zbn0
       case zbn0 =>
        refine' js_ret ?zbo0
        case zbo0 =>
         refine' je_mod ?zbp0 ?zbp1
         case zbp0 =>
          exact jr_var 2
         case zbp1 =>
          refine' jr_of ?zbq0
          case zbq0 =>
           exact je_int
theorem sc__law_roll : FnScope ["dice", "many", "told"] ["dice", "many"] (defScope s__law_roll) := ⟨rfl, rfl, rfl, by decide +kernel, rfl, by decide +kernel, by decide +kernel⟩
theorem ok__law_roll {P : Program} {w : World} {K : PySem.W.Frag} {mg : Str → Option Value} {base : Heap} {C : Str → Addr} (nm : Nm K mg C) (h : HasF K mg "_law_roll" s__law_roll ["dice", "many"]) (D__law_drawn : DefV P w K mg base CX0 C "_law_drawn" ["cell", "k"] 1 g__law_drawn) : DefB P w K mg base CX0 C "_law_roll" ["dice", "many"] 2 (noEx c__law_roll) := by
  have nd := sc__law_roll.nd
  refine' def_b0 (k := 1) (y := "dice") (N := ["many", "told"]) h sc__law_roll ?hb
  intro f cdv A outer s H E hr
  refine' ⟨_, ?hc⟩
  case hc =>
    intro B EX
    refine' jss_cons ?zbr0 ?zbr1
    case zbr0 =>
     refine' js_if ?zbs0 ?zbs1 ?zbs2
     case zbs0 =>
      refine' jb_ge ?zbt0 ?zbt1
      case zbt0 =>
       refine' jr_of ?zbu0
       case zbu0 =>
        refine' je_ix (K := K) ?zbv0 ?zbv1
        case zbv0 =>
         exact jr_var 0
        case zbv1 =>
         refine' jr_of ?zbw0
         case zbw0 =>
          exact je_int
      case zbt1 =>
       refine' jr_of ?zbx0
       case zbx0 =>
        refine' je_pow ?zby0 ?zby1
        case zby0 =>
         refine' jr_of ?zbz0
         case zbz0 =>
          exact je_int
        case zby1 =>
         refine' jr_of ?zca0
         case zca0 =>
          exact je_int
     case zbs1 =>
      refine' jss_cons ?zcb0 ?zcb1
      case zcb0 =>
       refine' js_set 2 nd ?zcc0
       case zcc0 =>
        refine' je_mod ?zcd0 ?zcd1
        case zcd0 =>
         refine' jr_of ?zce0
         case zce0 =>
          refine' je_ix (K := K) ?zcf0 ?zcf1
          case zcf0 =>
           exact jr_var 0
          case zcf1 =>
           refine' jr_of ?zcg0
           case zcg0 =>
            exact je_int
        case zcd1 =>
         exact jr_var 1
      case zcb1 =>
       refine' jss_cons ?zch0 ?zch1
       case zch0 =>
        refine' js_setitem 0 ?zci0 ?zci1
        case zci0 =>
         refine' je_fdiv ?zcj0 ?zcj1
         case zcj0 =>
          refine' jr_of ?zck0
          case zck0 =>
           refine' je_ix (K := K) ?zcl0 ?zcl1
           case zcl0 =>
            exact jr_var 0
           case zcl1 =>
            refine' jr_of ?zcm0
            case zcm0 =>
             exact je_int
         case zcj1 =>
          exact jr_var 1
        case zci1 =>
         exact je_int
       case zch1 =>
        refine' jss_one ?zcn0
        case zcn0 =>
         refine' js_ret ?zco0
         case zco0 =>
          exact je_var 2
     case zbs2 =>
      exact jss_nil
    case zbr1 =>
     refine' jss_cons ?zcp0 ?zcp1
     case zcp0 =>
      refine' js_setitem 0 ?zcq0 ?zcq1
      case zcq0 =>
       refine' je_add (K := K) ?zcr0 ?zcr1
       case zcr0 =>
        refine' jr_of ?zcs0
        case zcs0 =>
         refine' je_ix (K := K) ?zct0 ?zct1
         case zct0 =>
          exact jr_var 0
         case zct1 =>
          refine' jr_of ?zcu0
          case zcu0 =>
           exact je_int
       case zcr1 =>
        refine' jr_of ?zcv0
        case zcv0 =>
         exact je_int
      case zcq1 =>
       exact je_int
     case zcp1 =>
      refine' jss_one ?zcw0
      case zcw0 =>
       refine' js_ret ?zcx0
       case zcx0 =>
        refine' je_mod ?zcy0 ?zcy1
        case zcy0 =>
         refine' jr_of ?zcz0
         case zcz0 =>
          refine' je_fdiv ?zda0 ?zda1
          case zda0 =>
           refine' jr_of ?zdb0
           case zdb0 =>
            refine' je_call0 D__law_drawn hr ?zdc0
            case zdc0 =>
             refine' ja_cons ?zdd0 ?zdd1
             case zdd0 =>
              refine' je_ix (K := K) ?zde0 ?zde1
              case zde0 =>
               exact jr_var 0
              case zde1 =>
               refine' jr_of ?zdf0
               case zdf0 =>
                exact je_int
             case zdd1 =>
              refine' ja_cons ?zdg0 ?zdg1
              case zdg0 =>
               refine' je_ix (K := K) ?zdh0 ?zdh1
               case zdh0 =>
                exact jr_var 0
               case zdh1 =>
                refine' jr_of ?zdi0
                case zdi0 =>
                 exact je_int
              case zdg1 =>
               exact ja_nil
          case zda1 =>
           refine' jr_of ?zdj0
           case zdj0 =>
            exact je_int
        case zcy1 =>
         exact jr_var 1
theorem sc__law_renamed : FnScope ["dice", "net", "many", "turn", "rows", "event", "row", "some", "source", "delay", "back", "one"] ["dice", "net"] (defScope s__law_renamed) := ⟨rfl, rfl, rfl, by decide +kernel, rfl, by decide +kernel, by decide +kernel⟩
theorem ok__law_renamed {P : Program} {w : World} {K : PySem.W.Frag} {mg : Str → Option Value} {base : Heap} {C : Str → Addr} (nm : Nm K mg C) (h : HasF K mg "_law_renamed" s__law_renamed ["dice", "net"]) (D__law_roll : DefB P w K mg base CX0 C "_law_roll" ["dice", "many"] 2 (noEx c__law_roll)) : DefB P w K mg base CX0 C "_law_renamed" ["dice", "net"] 3 (noEx c__law_renamed) := by
  have nd := sc__law_renamed.nd
  refine' def_b0 (k := 2) (y := "dice") (N := ["net", "many", "turn", "rows", "event", "row", "some", "source", "delay", "back", "one"]) h sc__law_renamed ?hb
  intro f cdv A outer s H E hr
  refine' ⟨_, ?hc⟩
  case hc =>
    intro B EX
    refine' jss_cons ?zdk0 ?zdk1
    case zdk0 =>
     refine' js_set 2 nd ?zdl0
     case zdl0 =>
      refine' je_cb (cK_len (K := K) rfl) okK_len PySem.boot_len nm.len ?zdm0
      case zdm0 =>
       refine' jar_cons ?zdn0 ?zdn1
       case zdn0 =>
        refine' jr_of ?zdo0
        case zdo0 =>
         refine' je_ix (K := K) ?zdp0 ?zdp1
         case zdp0 =>
          exact jr_var 1
         case zdp1 =>
          refine' jr_of ?zdq0
          case zdq0 =>
           exact je_int
       case zdn1 =>
        exact jar_nil
    case zdk1 =>
     refine' jss_cons ?zdr0 ?zdr1
     case zdr0 =>
      refine' js_if ?zds0 ?zds1 ?zds2
      case zds0 =>
       refine' jb_eq (K := K) hr.units ?zdt0 ?zdt1
       case zdt0 =>
        refine' jr_of ?zdu0
        case zdu0 =>
         refine' je_callB0 0 D__law_roll hr ?zdv0
         case zdv0 =>
          refine' ja_cons ?zdw0 ?zdw1
          case zdw0 =>
           exact je_int
          case zdw1 =>
           exact ja_nil
       case zdt1 =>
        refine' jr_of ?zdx0
        case zdx0 =>
         exact je_int
      case zds1 =>
       refine' jss_one ?zdy0
       case zdy0 =>
        refine' js_ret ?zdz0
        case zdz0 =>
         exact je_var 1
      case zds2 =>
       exact jss_nil
     case zdr1 =>
      refine' jss_cons ?zea0 ?zea1
      case zea0 =>
       refine' js_set 3 nd ?zeb0
       case zeb0 =>
        refine' je_callB0 0 D__law_roll hr ?zec0
        case zec0 =>
         refine' ja_cons ?zed0 ?zed1
         case zed0 =>
          exact je_var 2
         case zed1 =>
          exact ja_nil
      case zea1 =>
       refine' jss_cons ?zee0 ?zee1
       case zee0 =>
        refine' js_own 4 nd ?zef0
        case zef0 =>
         refine' jf_rep ?zeg0 ?zeg1
         case zeg0 =>
          refine' jr_of ?zeh0
          case zeh0 =>
           refine' je_of ?zei0
           case zei0 =>
            refine' jf_lst ?zej0
            case zej0 =>
             refine' ja_cons ?zek0 ?zek1
             case zek0 =>
              refine' je_tup ?zel0
              case zel0 =>
               exact ja_nil
             case zek1 =>
              exact ja_nil
         case zeg1 =>
          exact jr_var 2
       case zee1 =>
        refine' jss_cons ?zem0 ?zem1
        case zem0 =>
         refine' js_for PassesOwn.never ?zen0 ?zen1 ?zen2
         case zen0 =>
          refine' ji_enum (K := K) nm.enumerate ?zeo0
          case zeo0 =>
           refine' ja_cons ?zep0 ?zep1
           case zep0 =>
            refine' je_ix (K := K) ?zeq0 ?zeq1
            case zeq0 =>
             exact jr_var 1
            case zeq1 =>
             refine' jr_of ?zer0
             case zer0 =>
              exact je_int
           case zep1 =>
            exact ja_nil
         case zen1 =>
          refine' jg_tup (K := K) ?zes0
          case zes0 =>
           refine' jgs_cons ?zet0 ?zet1
           case zet0 =>
            exact jg_name 5 nd
           case zet1 =>
            refine' jgs_cons ?zeu0 ?zeu1
            case zeu0 =>
             exact jg_name 6 nd
            case zeu1 =>
             exact jgs_nil
         case zen2 =>
          refine' jss_cons ?zev0 ?zev1
          case zev0 =>
           refine' js_own 7 nd ?zew0
           case zew0 =>
            refine' jf_lst ?zex0
            case zex0 =>
             exact ja_nil
          case zev1 =>
           refine' jss_cons ?zey0 ?zey1
           case zey0 =>
            refine' js_for PassesOwn.never ?zez0 ?zez1 ?zez2
            case zez0 =>
             refine' ji_seq (K := K) ?zfa0
             case zfa0 =>
              exact je_var 6
            case zez1 =>
             refine' jg_tup (K := K) ?zfb0
             case zfb0 =>
              refine' jgs_cons ?zfc0 ?zfc1
              case zfc0 =>
               exact jg_name 8 nd
              case zfc1 =>
               refine' jgs_cons ?zfd0 ?zfd1
               case zfd0 =>
                exact jg_name 9 nd
               case zfd1 =>
                refine' jgs_cons ?zfe0 ?zfe1
                case zfe0 =>
                 exact jg_name 10 nd
                case zfe1 =>
                 exact jgs_nil
            case zez2 =>
             refine' jss_cons ?zff0 ?zff1
             case zff0 =>
              refine' js_if ?zfg0 ?zfg1 ?zfg2
              case zfg0 =>
               refine' jb_eq (K := K) hr.units ?zfh0 ?zfh1
               case zfh0 =>
                refine' jr_of ?zfi0
                case zfi0 =>
                 refine' je_ix (K := K) ?zfj0 ?zfj1
                 case zfj0 =>
                  exact jr_var 8
                 case zfj1 =>
                  refine' jr_of ?zfk0
                  case zfk0 =>
                   exact je_int
               case zfh1 =>
                refine' jr_of ?zfl0
                case zfl0 =>
                 exact je_str
              case zfg1 =>
               refine' jss_one ?zfm0
               case zfm0 =>
                refine' js_set 8 nd ?zfn0
                case zfn0 =>
                 refine' je_add (K := K) ?zfo0 ?zfo1
                 case zfo0 =>
                  refine' jr_of ?zfp0
                  case zfp0 =>
                   exact je_str
                 case zfo1 =>
                  refine' jr_of ?zfq0
                  case zfq0 =>
                   refine' je_ct call_str_int ok_str PyProof.Rows.boot_str nm.str ?zfr0
                   case zfr0 =>
                    refine' jar_cons ?zfs0 ?zfs1
                    case zfs0 =>
                     refine' jr_of ?zft0
                     case zft0 =>
                      refine' je_mod ?zfu0 ?zfu1
                      case zfu0 =>
                       refine' jr_of ?zfv0
                       case zfv0 =>
                        refine' je_add (K := K) ?zfw0 ?zfw1
                        case zfw0 =>
                         refine' jr_of ?zfx0
                         case zfx0 =>
                          refine' je_ct call_intA ok_int PyProof.Rows.boot_int nm.int ?zfy0
                          case zfy0 =>
                           refine' jar_cons ?zfz0 ?zfz1
                           case zfz0 =>
                            refine' jr_of ?zga0
                            case zga0 =>
                             refine' je_sl (K := K) ?zgb0 ?zgb1 ?zgb2
                             case zgb0 =>
                              exact jr_var 8
                             case zgb1 =>
                              refine' jo_some ?zgc0
                              case zgc0 =>
                               exact je_int
                             case zgb2 =>
                              exact jo_none
                           case zfz1 =>
                            exact jar_nil
                        case zfw1 =>
                         exact jr_var 3
                      case zfu1 =>
                       exact jr_var 2
                    case zfs1 =>
                     exact jar_nil
              case zfg2 =>
               exact jss_nil
             case zff1 =>
              refine' jss_one ?zgd0
              case zgd0 =>
               refine' js_append (K := K) 7 ?zge0
               case zge0 =>
                refine' je_tup ?zgf0
                case zgf0 =>
                 refine' ja_cons ?zgg0 ?zgg1
                 case zgg0 =>
                  exact je_var 8
                 case zgg1 =>
                  refine' ja_cons ?zgh0 ?zgh1
                  case zgh0 =>
                   exact je_var 9
                  case zgh1 =>
                   refine' ja_cons ?zgi0 ?zgi1
                   case zgi0 =>
                    exact je_var 10
                   case zgi1 =>
                    exact ja_nil
           case zey1 =>
            refine' jss_one ?zgj0
            case zgj0 =>
             refine' js_setitem 4 ?zgk0 ?zgk1
             case zgk0 =>
              refine' je_ct (cK_tuple (K := K) rfl) okK_tuple PyProof.Rows.boot_tuple nm.tuple ?zgl0
              case zgl0 =>
               refine' jar_cons ?zgm0 ?zgm1
               case zgm0 =>
                exact jr_var 7
               case zgm1 =>
                exact jar_nil
             case zgk1 =>
              refine' je_mod ?zgn0 ?zgn1
              case zgn0 =>
               refine' jr_of ?zgo0
               case zgo0 =>
                refine' je_add (K := K) ?zgp0 ?zgp1
                case zgp0 =>
                 exact jr_var 5
                case zgp1 =>
                 exact jr_var 3
              case zgn1 =>
               exact jr_var 2
        case zem1 =>
         refine' jss_one ?zgq0
         case zgq0 =>
          refine' js_ret ?zgr0
          case zgr0 =>
           refine' je_tup ?zgs0
           case zgs0 =>
            refine' ja_cons ?zgt0 ?zgt1
            case zgt0 =>
             refine' je_ix (K := K) ?zgu0 ?zgu1
             case zgu0 =>
              exact jr_var 1
             case zgu1 =>
              refine' jr_of ?zgv0
              case zgv0 =>
               exact je_int
            case zgt1 =>
             refine' ja_cons ?zgw0 ?zgw1
             case zgw0 =>
              refine' je_ct (cK_tuple (K := K) rfl) okK_tuple PyProof.Rows.boot_tuple nm.tuple ?zgx0
              case zgx0 =>
               refine' jar_cons ?zgy0 ?zgy1
               case zgy0 =>
                exact jr_var 4
               case zgy1 =>
                exact jar_nil
             case zgw1 =>
              refine' ja_cons ?zgz0 ?zgz1
              case zgz0 =>
               refine' je_ct (cK_tuple (K := K) rfl) okK_tuple PyProof.Rows.boot_tuple nm.tuple ?zha0
               case zha0 =>
                refine' jar_cons ?zhb0 ?zhb1
                case zhb0 =>
                 refine' jr_of ?zhc0
                 case zhc0 =>
                  refine' je_of ?zhd0
                  case zhd0 =>
                   refine' jf_lc (own := [("one", 11)]) (L := [11]) nd (blkOk_by (by kernel_rfl)) ?zhe0 ?zhe1 ?zhe2 ?zhe3
                   case zhe0 =>
                    refine' ji_seq (K := K) ?zhf0
                    case zhf0 =>
                     refine' je_ix (K := K) ?zhg0 ?zhg1
                     case zhg0 =>
                      exact jr_var 1
                     case zhg1 =>
                      refine' jr_of ?zhh0
                      case zhh0 =>
                       exact je_int
                   case zhe1 =>
                    intro _ _ _ _ _
                    exact jg_name 11 nd
                   case zhe2 =>
                    intro _ _ _ _ _
                    exact jbs_nil
                   case zhe3 =>
                    intro _ _ _ _ _
                    refine' je_mod ?zhi0 ?zhi1
                    case zhi0 =>
                     refine' jr_of ?zhj0
                     case zhj0 =>
                      refine' je_add (K := K) ?zhk0 ?zhk1
                      case zhk0 =>
                       exact jr_var 11
                      case zhk1 =>
                       exact jr_var 3
                    case zhi1 =>
                     exact jr_var 2
                case zhb1 =>
                 exact jar_nil
              case zgz1 =>
               exact ja_nil
theorem sc__law_net : FnScope ["dice", "most", "inputs", "many", "given", "rows", "left", "event", "outputs", "row", "turn", "back", "pick", "source"] ["dice", "most", "inputs"] (defScope s__law_net) := ⟨rfl, rfl, rfl, by decide +kernel, rfl, by decide +kernel, by decide +kernel⟩
theorem ok__law_net {P : Program} {w : World} {K : PySem.W.Frag} {mg : Str → Option Value} {base : Heap} {C : Str → Addr} (nm : Nm K mg C) (h : HasF K mg "_law_net" s__law_net ["dice", "most", "inputs"]) (D__law_roll : DefB P w K mg base CX0 C "_law_roll" ["dice", "many"] 2 (noEx c__law_roll)) (D__law_renamed : DefB P w K mg base CX0 C "_law_renamed" ["dice", "net"] 3 (noEx c__law_renamed)) : DefB P w K mg base CX0 C "_law_net" ["dice", "most", "inputs"] 4 (noEx c__law_net) := by
  have nd := sc__law_net.nd
  refine' def_b0 (k := 3) (y := "dice") (N := ["most", "inputs", "many", "given", "rows", "left", "event", "outputs", "row", "turn", "back", "pick", "source"]) h sc__law_net ?hb
  intro f cdv A outer s H E hr
  refine' ⟨_, ?hc⟩
  case hc =>
    intro B EX
    refine' jss_cons ?zhl0 ?zhl1
    case zhl0 =>
     refine' js_parT (K := K) (is := [3, 4]) ?zhm0 ?zhm1
     case zhm0 =>
      refine' jam_cons ?zhn0 ?zhn1
      case zhn0 =>
       refine' je_add (K := K) ?zho0 ?zho1
       case zho0 =>
        refine' jr_of ?zhp0
        case zhp0 =>
         exact je_int
       case zho1 =>
        refine' jr_of ?zhq0
        case zhq0 =>
         refine' je_callB0 0 D__law_roll hr ?zhr0
         case zhr0 =>
          refine' ja_cons ?zhs0 ?zhs1
          case zhs0 =>
           exact je_var 1
          case zhs1 =>
           exact ja_nil
      case zhn1 =>
       refine' jam_cons ?zht0 ?zht1
       case zht0 =>
        refine' je_callB0 0 D__law_roll hr ?zhu0
        case zhu0 =>
         refine' ja_cons ?zhv0 ?zhv1
         case zhv0 =>
          refine' je_add (K := K) ?zhw0 ?zhw1
          case zhw0 =>
           exact jr_var 2
          case zhw1 =>
           refine' jr_of ?zhx0
           case zhx0 =>
            exact je_int
         case zhv1 =>
          exact ja_nil
       case zht1 =>
        exact jam_nil
     case zhm1 =>
      exact (pg_tup rfl (pgs_cons (pg_name (i := 3) nd rfl (by first | exact Or.inl rfl | exact Or.inr rfl)) (pgs_cons (pg_name (i := 4) nd rfl (by first | exact Or.inl rfl | exact Or.inr rfl)) (pgs_nil))))
    case zhl1 =>
     refine' jss_cons ?zhy0 ?zhy1
     case zhy0 =>
      refine' js_par2 5 6 nd ?zhz0
      case zhz0 =>
       refine' jam_own ?zia0 ?zia1
       case zia0 =>
        refine' jf_lst ?zib0
        case zib0 =>
         exact ja_nil
       case zia1 =>
        refine' jam_cons ?zic0 ?zic1
        case zic0 =>
         exact je_int
        case zic1 =>
         exact jam_nil
     case zhy1 =>
      refine' jss_cons ?zid0 ?zid1
      case zid0 =>
       refine' js_for PassesOwn.never ?zie0 ?zie1 ?zie2
       case zie0 =>
        refine' ji_rng1 nm.range ?zif0
        case zif0 =>
         refine' ja_cons ?zig0 ?zig1
         case zig0 =>
          exact je_var 3
         case zig1 =>
          exact ja_nil
       case zie1 =>
        exact jg_name 7 nd
       case zie2 =>
        refine' jss_cons ?zih0 ?zih1
        case zih0 =>
         refine' js_own 9 nd ?zii0
         case zii0 =>
          refine' jf_lst ?zij0
          case zij0 =>
           exact ja_nil
        case zih1 =>
         refine' jss_cons ?zik0 ?zik1
         case zik0 =>
          refine' js_for PassesOwn.never ?zil0 ?zil1 ?zil2
          case zil0 =>
           refine' ji_rng1 nm.range ?zim0
           case zim0 =>
            refine' ja_cons ?zin0 ?zin1
            case zin0 =>
             refine' je_callB0 0 D__law_roll hr ?zio0
             case zio0 =>
              refine' ja_cons ?zip0 ?zip1
              case zip0 =>
               exact je_int
              case zip1 =>
               exact ja_nil
            case zin1 =>
             exact ja_nil
          case zil1 =>
           exact jg_name 10 nd
          case zil2 =>
           refine' jss_cons ?ziq0 ?ziq1
           case ziq0 =>
            refine' js_set 11 nd ?zir0
            case zir0 =>
             refine' je_ix (K := K) ?zis0 ?zis1
             case zis0 =>
              refine' jr_of ?zit0
              case zit0 =>
               refine' je_of ?ziu0
               case ziu0 =>
                refine' jf_lst ?ziv0
                case ziv0 =>
                 refine' ja_cons ?ziw0 ?ziw1
                 case ziw0 =>
                  exact je_int
                 case ziw1 =>
                  refine' ja_cons ?zix0 ?zix1
                  case zix0 =>
                   exact je_int
                  case zix1 =>
                   refine' ja_cons ?ziy0 ?ziy1
                   case ziy0 =>
                    exact je_int
                   case ziy1 =>
                    refine' ja_cons ?ziz0 ?ziz1
                    case ziz0 =>
                     exact je_int
                    case ziz1 =>
                     refine' ja_cons ?zja0 ?zja1
                     case zja0 =>
                      exact je_int
                     case zja1 =>
                      refine' ja_cons ?zjb0 ?zjb1
                      case zjb0 =>
                       exact je_int
                      case zjb1 =>
                       exact ja_nil
             case zis1 =>
              refine' jr_of ?zjc0
              case zjc0 =>
               refine' je_callB0 0 D__law_roll hr ?zjd0
               case zjd0 =>
                refine' ja_cons ?zje0 ?zje1
                case zje0 =>
                 exact je_int
                case zje1 =>
                 exact ja_nil
           case ziq1 =>
            refine' jss_cons ?zjf0 ?zjf1
            case zjf0 =>
             refine' js_set 12 nd ?zjg0
             case zjg0 =>
              refine' je_callB0 0 D__law_roll hr ?zjh0
              case zjh0 =>
               refine' ja_cons ?zji0 ?zji1
               case zji0 =>
                exact je_int
               case zji1 =>
                exact ja_nil
            case zjf1 =>
             refine' jss_cons ?zjj0 ?zjj1
             case zjj0 =>
              refine' js_set 13 nd ?zjk0
              case zjk0 =>
               refine' je_add (K := K) ?zjl0 ?zjl1
               case zjl0 =>
                refine' jr_of ?zjm0
                case zjm0 =>
                 exact je_str
               case zjl1 =>
                refine' jr_of ?zjn0
                case zjn0 =>
                 refine' je_ct call_str_int ok_str PyProof.Rows.boot_str nm.str ?zjo0
                 case zjo0 =>
                  refine' jar_cons ?zjp0 ?zjp1
                  case zjp0 =>
                   refine' jr_of ?zjq0
                   case zjq0 =>
                    refine' je_callB0 0 D__law_roll hr ?zjr0
                    case zjr0 =>
                     refine' ja_cons ?zjs0 ?zjs1
                     case zjs0 =>
                      exact je_var 3
                     case zjs1 =>
                      exact ja_nil
                  case zjp1 =>
                   exact jar_nil
             case zjj1 =>
              refine' jss_cons ?zjt0 ?zjt1
              case zjt0 =>
               refine' js_if ?zju0 ?zju1 ?zju2
               case zju0 =>
                refine' jb_eq (K := K) hr.units ?zjv0 ?zjv1
                case zjv0 =>
                 exact jr_var 12
                case zjv1 =>
                 refine' jr_of ?zjw0
                 case zjw0 =>
                  exact je_int
               case zju1 =>
                refine' jss_one ?zjx0
                case zjx0 =>
                 refine' js_set 13 nd ?zjy0
                 case zjy0 =>
                  exact je_str
               case zju2 =>
                exact jss_nil
              case zjt1 =>
               refine' jss_cons ?zjz0 ?zjz1
               case zjz0 =>
                refine' js_if ?zka0 ?zka1 ?zka2
                case zka0 =>
                 refine' jb_w ?zkb0
                 case zkb0 =>
                  refine' jw_and ?zkc0 ?zkc1
                  case zkc0 =>
                   refine' jb_eq (K := K) hr.units ?zkd0 ?zkd1
                   case zkd0 =>
                    exact jr_var 12
                   case zkd1 =>
                    refine' jr_of ?zke0
                    case zke0 =>
                     exact je_int
                  case zkc1 =>
                   refine' jw_and1 ?zkf0
                   case zkf0 =>
                    refine' jb_gt ?zkg0 ?zkg1
                    case zkg0 =>
                     exact jr_var 4
                    case zkg1 =>
                     refine' jr_of ?zkh0
                     case zkh0 =>
                      exact je_int
                case zka1 =>
                 refine' jss_one ?zki0
                 case zki0 =>
                  refine' js_set 13 nd ?zkj0
                  case zkj0 =>
                   refine' je_add (K := K) ?zkk0 ?zkk1
                   case zkk0 =>
                    refine' jr_of ?zkl0
                    case zkl0 =>
                     exact je_str
                   case zkk1 =>
                    refine' jr_of ?zkm0
                    case zkm0 =>
                     refine' je_ct call_str_int ok_str PyProof.Rows.boot_str nm.str ?zkn0
                     case zkn0 =>
                      refine' jar_cons ?zko0 ?zko1
                      case zko0 =>
                       refine' jr_of ?zkp0
                       case zkp0 =>
                        refine' je_callB0 0 D__law_roll hr ?zkq0
                        case zkq0 =>
                         refine' ja_cons ?zkr0 ?zkr1
                         case zkr0 =>
                          exact je_var 4
                         case zkr1 =>
                          exact ja_nil
                      case zko1 =>
                       exact jar_nil
                case zka2 =>
                 exact jss_nil
               case zjz1 =>
                refine' jss_cons ?zks0 ?zks1
                case zks0 =>
                 refine' js_if ?zkt0 ?zkt1 ?zkt2
                 case zkt0 =>
                  refine' jb_w ?zku0
                  case zku0 =>
                   refine' jw_and ?zkv0 ?zkv1
                   case zkv0 =>
                    refine' jb_eq (K := K) hr.units ?zkw0 ?zkw1
                    case zkw0 =>
                     refine' jr_of ?zkx0
                     case zkx0 =>
                      refine' je_ix (K := K) ?zky0 ?zky1
                      case zky0 =>
                       exact jr_var 13
                      case zky1 =>
                       refine' jr_of ?zkz0
                       case zkz0 =>
                        exact je_int
                    case zkw1 =>
                     refine' jr_of ?zla0
                     case zla0 =>
                      exact je_str
                   case zkv1 =>
                    refine' jw_and ?zlb0 ?zlb1
                    case zlb0 =>
                     refine' jb_ge ?zlc0 ?zlc1
                     case zlc0 =>
                      refine' jr_of ?zld0
                      case zld0 =>
                       refine' je_ct call_intA ok_int PyProof.Rows.boot_int nm.int ?zle0
                       case zle0 =>
                        refine' jar_cons ?zlf0 ?zlf1
                        case zlf0 =>
                         refine' jr_of ?zlg0
                         case zlg0 =>
                          refine' je_sl (K := K) ?zlh0 ?zlh1 ?zlh2
                          case zlh0 =>
                           exact jr_var 13
                          case zlh1 =>
                           refine' jo_some ?zli0
                           case zli0 =>
                            exact je_int
                          case zlh2 =>
                           exact jo_none
                        case zlf1 =>
                         exact jar_nil
                     case zlc1 =>
                      exact jr_var 7
                    case zlb1 =>
                     refine' jw_and1 ?zlj0
                     case zlj0 =>
                      refine' jb_eq (K := K) hr.units ?zlk0 ?zlk1
                      case zlk0 =>
                       exact jr_var 11
                      case zlk1 =>
                       refine' jr_of ?zll0
                       case zll0 =>
                        exact je_int
                 case zkt1 =>
                  refine' jss_one ?zlm0
                  case zlm0 =>
                   refine' js_set 11 nd ?zln0
                   case zln0 =>
                    exact je_int
                 case zkt2 =>
                  exact jss_nil
                case zks1 =>
                 refine' jss_one ?zlo0
                 case zlo0 =>
                  refine' js_if ?zlp0 ?zlp1 ?zlp2
                  case zlp0 =>
                   refine' jb_le ?zlq0 ?zlq1
                   case zlq0 =>
                    exact jr_var 11
                   case zlq1 =>
                    exact jr_var 6
                  case zlp1 =>
                   refine' jss_cons ?zlr0 ?zlr1
                   case zlr0 =>
                    refine' js_set 6 nd ?zls0
                    case zls0 =>
                     refine' je_sub ?zlt0 ?zlt1
                     case zlt0 =>
                      exact jr_var 6
                     case zlt1 =>
                      exact jr_var 11
                   case zlr1 =>
                    refine' jss_one ?zlu0
                    case zlu0 =>
                     refine' js_append (K := K) 9 ?zlv0
                     case zlv0 =>
                      refine' je_tup ?zlw0
                      case zlw0 =>
                       refine' ja_cons ?zlx0 ?zlx1
                       case zlx0 =>
                        exact je_var 13
                       case zlx1 =>
                        refine' ja_cons ?zly0 ?zly1
                        case zly0 =>
                         refine' je_callB0 0 D__law_roll hr ?zlz0
                         case zlz0 =>
                          refine' ja_cons ?zma0 ?zma1
                          case zma0 =>
                           exact je_int
                          case zma1 =>
                           exact ja_nil
                        case zly1 =>
                         refine' ja_cons ?zmb0 ?zmb1
                         case zmb0 =>
                          exact je_var 11
                         case zmb1 =>
                          exact ja_nil
                  case zlp2 =>
                   exact jss_nil
         case zik1 =>
          refine' jss_one ?zmc0
          case zmc0 =>
           refine' js_append (K := K) 5 ?zmd0
           case zmd0 =>
            refine' je_ct (cK_tuple (K := K) rfl) okK_tuple PyProof.Rows.boot_tuple nm.tuple ?zme0
            case zme0 =>
             refine' jar_cons ?zmf0 ?zmf1
             case zmf0 =>
              exact jr_var 9
             case zmf1 =>
              exact jar_nil
      case zid1 =>
       refine' jss_cons ?zmg0 ?zmg1
       case zmg0 =>
        refine' js_if ?zmh0 ?zmh1 ?zmh2
        case zmh0 =>
         refine' jb_w ?zmi0
         case zmi0 =>
          refine' jw_and ?zmj0 ?zmj1
          case zmj0 =>
           refine' jb_gt ?zmk0 ?zmk1
           case zmk0 =>
            refine' jr_of ?zml0
            case zml0 =>
             refine' je_callB0 0 D__law_roll hr ?zmm0
             case zmm0 =>
              refine' ja_cons ?zmn0 ?zmn1
              case zmn0 =>
               exact je_int
              case zmn1 =>
               exact ja_nil
           case zmk1 =>
            refine' jr_of ?zmo0
            case zmo0 =>
             exact je_int
          case zmj1 =>
           refine' jw_and1 ?zmp0
           case zmp0 =>
            refine' jb_lt ?zmq0 ?zmq1
            case zmq0 =>
             refine' jr_of ?zmr0
             case zmr0 =>
              refine' je_cb (cK_len (K := K) rfl) okK_len PySem.boot_len nm.len ?zms0
              case zms0 =>
               refine' jar_cons ?zmt0 ?zmt1
               case zmt0 =>
                refine' jr_of ?zmu0
                case zmu0 =>
                 refine' je_ix (K := K) ?zmv0 ?zmv1
                 case zmv0 =>
                  exact jr_var 5
                 case zmv1 =>
                  refine' jr_of ?zmw0
                  case zmw0 =>
                   exact je_int
               case zmt1 =>
                exact jar_nil
            case zmq1 =>
             refine' jr_of ?zmx0
             case zmx0 =>
              exact je_int
        case zmh1 =>
         refine' jss_one ?zmy0
         case zmy0 =>
          refine' js_setitem 5 ?zmz0 ?zmz1
          case zmz0 =>
           refine' je_add (K := K) ?zna0 ?zna1
           case zna0 =>
            refine' jr_of ?znb0
            case znb0 =>
             refine' je_ix (K := K) ?znc0 ?znc1
             case znc0 =>
              exact jr_var 5
             case znc1 =>
              refine' jr_of ?znd0
              case znd0 =>
               exact je_int
           case zna1 =>
            refine' jr_of ?zne0
            case zne0 =>
             refine' je_tup ?znf0
             case znf0 =>
              refine' ja_cons ?zng0 ?zng1
              case zng0 =>
               refine' je_tup ?znh0
               case znh0 =>
                refine' ja_cons ?zni0 ?zni1
                case zni0 =>
                 exact je_str
                case zni1 =>
                 refine' ja_cons ?znj0 ?znj1
                 case znj0 =>
                  refine' je_callB0 0 D__law_roll hr ?znk0
                  case znk0 =>
                   refine' ja_cons ?znl0 ?znl1
                   case znl0 =>
                    exact je_int
                   case znl1 =>
                    exact ja_nil
                 case znj1 =>
                  refine' ja_cons ?znm0 ?znm1
                  case znm0 =>
                   exact je_int
                  case znm1 =>
                   exact ja_nil
              case zng1 =>
               exact ja_nil
          case zmz1 =>
           exact je_int
        case zmh2 =>
         exact jss_nil
       case zmg1 =>
        refine' jss_cons ?znn0 ?znn1
        case znn0 =>
         refine' js_set 8 nd ?zno0
         case zno0 =>
          refine' je_ct (cK_tuple (K := K) rfl) okK_tuple PyProof.Rows.boot_tuple nm.tuple ?znp0
          case znp0 =>
           refine' jar_cons ?znq0 ?znq1
           case znq0 =>
            refine' jr_of ?znr0
            case znr0 =>
             refine' je_of ?zns0
             case zns0 =>
              refine' jf_lc (own := [("turn", 10)]) (L := [10]) nd (blkOk_by (by kernel_rfl)) ?znt0 ?znt1 ?znt2 ?znt3
              case znt0 =>
               refine' ji_rng1 nm.range ?znu0
               case znu0 =>
                refine' ja_cons ?znv0 ?znv1
                case znv0 =>
                 refine' je_add (K := K) ?znw0 ?znw1
                 case znw0 =>
                  refine' jr_of ?znx0
                  case znx0 =>
                   exact je_int
                 case znw1 =>
                  refine' jr_of ?zny0
                  case zny0 =>
                   refine' je_callB0 0 D__law_roll hr ?znz0
                   case znz0 =>
                    refine' ja_cons ?zoa0 ?zoa1
                    case zoa0 =>
                     exact je_int
                    case zoa1 =>
                     exact ja_nil
                case znv1 =>
                 exact ja_nil
              case znt1 =>
               intro _ _ _ _ _
               exact jg_name 10 nd
              case znt2 =>
               intro _ _ _ _ _
               exact jbs_nil
              case znt3 =>
               intro _ _ _ _ _
               refine' je_callB0 0 D__law_roll hr ?zob0
               case zob0 =>
                refine' ja_cons ?zoc0 ?zoc1
                case zoc0 =>
                 exact je_var 3
                case zoc1 =>
                 exact ja_nil
           case znq1 =>
            exact jar_nil
        case znn1 =>
         refine' jss_one ?zod0
         case zod0 =>
          refine' js_ret ?zoe0
          case zoe0 =>
           refine' je_callB0 0 D__law_renamed hr ?zof0
           case zof0 =>
            refine' ja_cons ?zog0 ?zog1
            case zog0 =>
             refine' je_tup ?zoh0
             case zoh0 =>
              refine' ja_cons ?zoi0 ?zoi1
              case zoi0 =>
               exact je_var 4
              case zoi1 =>
               refine' ja_cons ?zoj0 ?zoj1
               case zoj0 =>
                refine' je_ct (cK_tuple (K := K) rfl) okK_tuple PyProof.Rows.boot_tuple nm.tuple ?zok0
                case zok0 =>
                 refine' jar_cons ?zol0 ?zol1
                 case zol0 =>
                  exact jr_var 5
                 case zol1 =>
                  exact jar_nil
               case zoj1 =>
                refine' ja_cons ?zom0 ?zom1
                case zom0 =>
                 exact je_var 8
                case zom1 =>
                 exact ja_nil
            case zog1 =>
             exact ja_nil
theorem sc_is_whole : FnScope ["value", "low", "high"] ["value", "low", "high"] (defScope s_is_whole) := ⟨rfl, rfl, rfl, by decide +kernel, rfl, by decide +kernel, by decide +kernel⟩
theorem ok_is_whole {P : Program} {w : World} {K : PySem.W.Frag} {mg : Str → Option Value} {base : Heap} {C : Str → Addr} (nm : Nm K mg C) (h : HasF K mg "is_whole" s_is_whole ["value", "low", "high"]) : DefV P w K mg base CX0 C "is_whole" ["value", "low", "high"] 1 g_is_whole := by
  have nd := sc_is_whole.nd
  refine' def_v0 (k := 0) (N := ["value", "low", "high"]) h sc_is_whole ?hb
  intro f cdv A outer s H E hr
  refine' ⟨_, ?hc⟩
  case hc =>
    intro B EX
    refine' jss_one ?zon0
    case zon0 =>
     refine' js_ret ?zoo0
     case zoo0 =>
      refine' je_and ?zop0 ?zop1
      case zop0 =>
       refine' je_isi (K := K) tab_int PyProof.Rows.boot_int nm.int nm.isinstance ?zoq0
       case zoq0 =>
        exact jr_var 0
      case zop1 =>
       refine' je_and ?zor0 ?zor1
       case zor0 =>
        refine' je_not ?zos0
        case zos0 =>
         refine' je_isi (K := K) tab_bool PyProof.Rows.boot_bool nm.bool nm.isinstance ?zot0
         case zot0 =>
          exact jr_var 0
       case zor1 =>
        refine' je_one ?zou0
        case zou0 =>
         refine' je_chain op_le op_le ok_cmpI ok_cmpI ?zov0 ?zov1 ?zov2
         case zov0 =>
          exact jr_var 1
         case zov1 =>
          exact jr_var 0
         case zov2 =>
          exact jr_var 2
theorem sc_is_source : FnScope ["value", "inputs", "events", "at"] ["value", "inputs", "events"] (defScope s_is_source) := ⟨rfl, rfl, rfl, by decide +kernel, rfl, by decide +kernel, by decide +kernel⟩
theorem ok_is_source {P : Program} {w : World} {K : PySem.W.Frag} {mg : Str → Option Value} {base : Heap} {C : Str → Addr} (nm : Nm K mg C) (h : HasF K mg "is_source" s_is_source ["value", "inputs", "events"]) : DefV P w K mg base CX0 C "is_source" ["value", "inputs", "events"] 1 g_is_source := by
  have nd := sc_is_source.nd
  refine' def_v0 (k := 0) (N := ["value", "inputs", "events", "at"]) h sc_is_source ?hb
  intro f cdv A outer s H E hr
  refine' ⟨_, ?hc⟩
  case hc =>
    intro B EX
    refine' jss_cons ?zow0 ?zow1
    case zow0 =>
     refine' js_if ?zox0 ?zox1 ?zox2
     case zox0 =>
      refine' jb_not ?zoy0
      case zoy0 =>
       refine' jb_val ?zoz0
       case zoz0 =>
        refine' je_isi (K := K) tab_str PyProof.Rows.boot_str nm.str nm.isinstance ?zpa0
        case zpa0 =>
         exact jr_var 0
     case zox1 =>
      refine' jss_one ?zpb0
      case zpb0 =>
       refine' js_ret ?zpc0
       case zpc0 =>
        exact je_bl
     case zox2 =>
      exact jss_nil
    case zow1 =>
     refine' jss_one ?zpd0
     case zpd0 =>
      refine' js_ret ?zpe0
      case zpe0 =>
       refine' je_or ?zpf0 ?zpf1
       case zpf0 =>
        refine' je_eq (K := K) hr.units ?zpg0 ?zpg1
        case zpg0 =>
         exact jr_var 0
        case zpg1 =>
         refine' jr_of ?zph0
         case zph0 =>
          exact je_str
       case zpf1 =>
        refine' je_one ?zpi0
        case zpi0 =>
         refine' je_in (K := K) hr.units ?zpj0 ?zpj1
         case zpj0 =>
          exact jr_var 0
         case zpj1 =>
          refine' jr_of ?zpk0
          case zpk0 =>
           refine' je_add (K := K) ?zpl0 ?zpl1
           case zpl0 =>
            refine' jr_of ?zpm0
            case zpm0 =>
             refine' je_of ?zpn0
             case zpn0 =>
              refine' jf_lc (own := [("at", 3)]) (L := [3]) nd (blkOk_by (by kernel_rfl)) ?zpo0 ?zpo1 ?zpo2 ?zpo3
              case zpo0 =>
               refine' ji_rng1 nm.range ?zpp0
               case zpp0 =>
                refine' ja_cons ?zpq0 ?zpq1
                case zpq0 =>
                 exact je_var 1
                case zpq1 =>
                 exact ja_nil
              case zpo1 =>
               intro _ _ _ _ _
               exact jg_name 3 nd
              case zpo2 =>
               intro _ _ _ _ _
               exact jbs_nil
              case zpo3 =>
               intro _ _ _ _ _
               refine' je_add (K := K) ?zpr0 ?zpr1
               case zpr0 =>
                refine' jr_of ?zps0
                case zps0 =>
                 exact je_str
               case zpr1 =>
                refine' jr_of ?zpt0
                case zpt0 =>
                 refine' je_ct call_str_int ok_str PyProof.Rows.boot_str nm.str ?zpu0
                 case zpu0 =>
                  refine' jar_cons ?zpv0 ?zpv1
                  case zpv0 =>
                   exact jr_var 3
                  case zpv1 =>
                   exact jar_nil
           case zpl1 =>
            refine' jr_of ?zpw0
            case zpw0 =>
             refine' je_of ?zpx0
             case zpx0 =>
              refine' jf_lc (own := [("at", 3)]) (L := [3]) nd (blkOk_by (by kernel_rfl)) ?zpy0 ?zpy1 ?zpy2 ?zpy3
              case zpy0 =>
               refine' ji_rng1 nm.range ?zpz0
               case zpz0 =>
                refine' ja_cons ?zqa0 ?zqa1
                case zqa0 =>
                 exact je_var 2
                case zqa1 =>
                 exact ja_nil
              case zpy1 =>
               intro _ _ _ _ _
               exact jg_name 3 nd
              case zpy2 =>
               intro _ _ _ _ _
               exact jbs_nil
              case zpy3 =>
               intro _ _ _ _ _
               refine' je_add (K := K) ?zqb0 ?zqb1
               case zqb0 =>
                refine' jr_of ?zqc0
                case zqc0 =>
                 exact je_str
               case zqb1 =>
                refine' jr_of ?zqd0
                case zqd0 =>
                 refine' je_ct call_str_int ok_str PyProof.Rows.boot_str nm.str ?zqe0
                 case zqe0 =>
                  refine' jar_cons ?zqf0 ?zqf1
                  case zqf0 =>
                   exact jr_var 3
                  case zqf1 =>
                   exact jar_nil
theorem sc_is_arc : FnScope ["value", "inputs", "events"] ["value", "inputs", "events"] (defScope s_is_arc) := ⟨rfl, rfl, rfl, by decide +kernel, rfl, by decide +kernel, by decide +kernel⟩
theorem ok_is_arc {P : Program} {w : World} {K : PySem.W.Frag} {mg : Str → Option Value} {base : Heap} {C : Str → Addr} (nm : Nm K mg C) (h : HasF K mg "is_arc" s_is_arc ["value", "inputs", "events"]) (D_is_source : DefV P w K mg base CX0 C "is_source" ["value", "inputs", "events"] 1 g_is_source) (D_is_whole : DefV P w K mg base CX0 C "is_whole" ["value", "low", "high"] 1 g_is_whole) : DefV P w K mg base CX0 C "is_arc" ["value", "inputs", "events"] 2 g_is_arc := by
  have nd := sc_is_arc.nd
  refine' def_v0 (k := 1) (N := ["value", "inputs", "events"]) h sc_is_arc ?hb
  intro f cdv A outer s H E hr
  refine' ⟨_, ?hc⟩
  case hc =>
    intro B EX
    refine' jss_cons ?zqg0 ?zqg1
    case zqg0 =>
     refine' js_if ?zqh0 ?zqh1 ?zqh2
     case zqh0 =>
      refine' jb_w ?zqi0
      case zqi0 =>
       refine' jw_or ?zqj0 ?zqj1
       case zqj0 =>
        refine' jb_not ?zqk0
        case zqk0 =>
         refine' jb_val ?zql0
         case zql0 =>
          refine' je_isi (K := K) tab_tuple PyProof.Rows.boot_tuple nm.tuple nm.isinstance ?zqm0
          case zqm0 =>
           exact jr_var 0
       case zqj1 =>
        refine' jw_or ?zqn0 ?zqn1
        case zqn0 =>
         refine' jb_ne (K := K) hr.units ?zqo0 ?zqo1
         case zqo0 =>
          refine' jr_of ?zqp0
          case zqp0 =>
           refine' je_cb (cK_len (K := K) rfl) okK_len PySem.boot_len nm.len ?zqq0
           case zqq0 =>
            refine' jar_cons ?zqr0 ?zqr1
            case zqr0 =>
             exact jr_var 0
            case zqr1 =>
             exact jar_nil
         case zqo1 =>
          refine' jr_of ?zqs0
          case zqs0 =>
           exact je_int
        case zqn1 =>
         refine' jw_or1 ?zqt0
         case zqt0 =>
          refine' jb_not ?zqu0
          case zqu0 =>
           refine' jb_val ?zqv0
           case zqv0 =>
            refine' je_call0 D_is_source hr ?zqw0
            case zqw0 =>
             refine' ja_cons ?zqx0 ?zqx1
             case zqx0 =>
              refine' je_ix (K := K) ?zqy0 ?zqy1
              case zqy0 =>
               exact jr_var 0
              case zqy1 =>
               refine' jr_of ?zqz0
               case zqz0 =>
                exact je_int
             case zqx1 =>
              refine' ja_cons ?zra0 ?zra1
              case zra0 =>
               exact je_var 1
              case zra1 =>
               refine' ja_cons ?zrb0 ?zrb1
               case zrb0 =>
                exact je_var 2
               case zrb1 =>
                exact ja_nil
     case zqh1 =>
      refine' jss_one ?zrc0
      case zrc0 =>
       refine' js_ret ?zrd0
       case zrd0 =>
        exact je_bl
     case zqh2 =>
      exact jss_nil
    case zqg1 =>
     refine' jss_one ?zre0
     case zre0 =>
      refine' js_ret ?zrf0
      case zrf0 =>
       refine' je_and ?zrg0 ?zrg1
       case zrg0 =>
        refine' je_call0 D_is_whole hr ?zrh0
        case zrh0 =>
         refine' ja_cons ?zri0 ?zri1
         case zri0 =>
          refine' je_ix (K := K) ?zrj0 ?zrj1
          case zrj0 =>
           exact jr_var 0
          case zrj1 =>
           refine' jr_of ?zrk0
           case zrk0 =>
            exact je_int
         case zri1 =>
          refine' ja_cons ?zrl0 ?zrl1
          case zrl0 =>
           exact je_int
          case zrl1 =>
           refine' ja_cons ?zrm0 ?zrm1
           case zrm0 =>
            exact je_int
           case zrm1 =>
            exact ja_nil
       case zrg1 =>
        refine' je_one ?zrn0
        case zrn0 =>
         refine' je_call0 D_is_whole hr ?zro0
         case zro0 =>
          refine' ja_cons ?zrp0 ?zrp1
          case zrp0 =>
           refine' je_ix (K := K) ?zrq0 ?zrq1
           case zrq0 =>
            exact jr_var 0
           case zrq1 =>
            refine' jr_of ?zrr0
            case zrr0 =>
             exact je_int
          case zrp1 =>
           refine' ja_cons ?zrs0 ?zrs1
           case zrs0 =>
            exact je_int
           case zrs1 =>
            refine' ja_cons ?zrt0 ?zrt1
            case zrt0 =>
             exact je_int
            case zrt1 =>
             exact ja_nil
theorem sc_is_row : FnScope ["value", "inputs", "events", "one"] ["value", "inputs", "events"] (defScope s_is_row) := ⟨rfl, rfl, rfl, by decide +kernel, rfl, by decide +kernel, by decide +kernel⟩
theorem ok_is_row {P : Program} {w : World} {K : PySem.W.Frag} {mg : Str → Option Value} {base : Heap} {C : Str → Addr} (nm : Nm K mg C) (h : HasF K mg "is_row" s_is_row ["value", "inputs", "events"]) (D_is_arc : DefV P w K mg base CX0 C "is_arc" ["value", "inputs", "events"] 2 g_is_arc) : DefV P w K mg base CX0 C "is_row" ["value", "inputs", "events"] 3 g_is_row := by
  have nd := sc_is_row.nd
  refine' def_v0 (k := 2) (N := ["value", "inputs", "events", "one"]) h sc_is_row ?hb
  intro f cdv A outer s H E hr
  refine' ⟨_, ?hc⟩
  case hc =>
    intro B EX
    refine' jss_one ?zru0
    case zru0 =>
     refine' js_ret ?zrv0
     case zrv0 =>
      refine' je_and ?zrw0 ?zrw1
      case zrw0 =>
       refine' je_isi (K := K) tab_tuple PyProof.Rows.boot_tuple nm.tuple nm.isinstance ?zrx0
       case zrx0 =>
        exact jr_var 0
      case zrw1 =>
       refine' je_and ?zry0 ?zry1
       case zry0 =>
        refine' je_le ?zrz0 ?zrz1
        case zrz0 =>
         refine' jr_of ?zsa0
         case zsa0 =>
          refine' je_cb (cK_len (K := K) rfl) okK_len PySem.boot_len nm.len ?zsb0
          case zsb0 =>
           refine' jar_cons ?zsc0 ?zsc1
           case zsc0 =>
            exact jr_var 0
           case zsc1 =>
            exact jar_nil
        case zrz1 =>
         refine' jr_of ?zsd0
         case zsd0 =>
          exact je_int
       case zry1 =>
        refine' je_one ?zse0
        case zse0 =>
         refine' je_cb (cK_all (K := K) rfl rfl) ok_all PyProof.Rows.boot_all nm.all ?zsf0
         case zsf0 =>
          refine' jar_cons ?zsg0 ?zsg1
          case zsg0 =>
           refine' jr_of ?zsh0
           case zsh0 =>
            refine' je_of ?zsi0
            case zsi0 =>
             refine' jf_lc (own := [("one", 3)]) (L := [3]) nd (blkOk_by (by kernel_rfl)) ?zsj0 ?zsj1 ?zsj2 ?zsj3
             case zsj0 =>
              refine' ji_seq (K := K) ?zsk0
              case zsk0 =>
               exact je_var 0
             case zsj1 =>
              intro _ _ _ _ _
              exact jg_name 3 nd
             case zsj2 =>
              intro _ _ _ _ _
              exact jbs_nil
             case zsj3 =>
              intro _ _ _ _ _
              refine' je_call0 D_is_arc hr ?zsl0
              case zsl0 =>
               refine' ja_cons ?zsm0 ?zsm1
               case zsm0 =>
                exact je_var 3
               case zsm1 =>
                refine' ja_cons ?zsn0 ?zsn1
                case zsn0 =>
                 exact je_var 1
                case zsn1 =>
                 refine' ja_cons ?zso0 ?zso1
                 case zso0 =>
                  exact je_var 2
                 case zso1 =>
                  exact ja_nil
          case zsg1 =>
           exact jar_nil
theorem sc_is_shaped : FnScope ["value", "inputs", "rows", "outputs", "one", "row"] ["value"] (defScope s_is_shaped) := ⟨rfl, rfl, rfl, by decide +kernel, rfl, by decide +kernel, by decide +kernel⟩
theorem ok_is_shaped {P : Program} {w : World} {K : PySem.W.Frag} {mg : Str → Option Value} {base : Heap} {C : Str → Addr} (nm : Nm K mg C) (h : HasF K mg "is_shaped" s_is_shaped ["value"]) (D_is_whole : DefV P w K mg base CX0 C "is_whole" ["value", "low", "high"] 1 g_is_whole) (D_is_row : DefV P w K mg base CX0 C "is_row" ["value", "inputs", "events"] 3 g_is_row) : DefV P w K mg base CX0 C "is_shaped" ["value"] 4 g_is_shaped := by
  have nd := sc_is_shaped.nd
  refine' def_v0 (k := 3) (N := ["value", "inputs", "rows", "outputs", "one", "row"]) h sc_is_shaped ?hb
  intro f cdv A outer s H E hr
  refine' ⟨_, ?hc⟩
  case hc =>
    intro B EX
    refine' jss_cons ?zsp0 ?zsp1
    case zsp0 =>
     refine' js_if ?zsq0 ?zsq1 ?zsq2
     case zsq0 =>
      refine' jb_w ?zsr0
      case zsr0 =>
       refine' jw_or ?zss0 ?zss1
       case zss0 =>
        refine' jb_not ?zst0
        case zst0 =>
         refine' jb_val ?zsu0
         case zsu0 =>
          refine' je_isi (K := K) tab_tuple PyProof.Rows.boot_tuple nm.tuple nm.isinstance ?zsv0
          case zsv0 =>
           exact jr_var 0
       case zss1 =>
        refine' jw_or ?zsw0 ?zsw1
        case zsw0 =>
         refine' jb_ne (K := K) hr.units ?zsx0 ?zsx1
         case zsx0 =>
          refine' jr_of ?zsy0
          case zsy0 =>
           refine' je_cb (cK_len (K := K) rfl) okK_len PySem.boot_len nm.len ?zsz0
           case zsz0 =>
            refine' jar_cons ?zta0 ?zta1
            case zta0 =>
             exact jr_var 0
            case zta1 =>
             exact jar_nil
         case zsx1 =>
          refine' jr_of ?ztb0
          case ztb0 =>
           exact je_int
        case zsw1 =>
         refine' jw_or1 ?ztc0
         case ztc0 =>
          refine' jb_not ?ztd0
          case ztd0 =>
           refine' jb_val ?zte0
           case zte0 =>
            refine' je_call0 D_is_whole hr ?ztf0
            case ztf0 =>
             refine' ja_cons ?ztg0 ?ztg1
             case ztg0 =>
              refine' je_ix (K := K) ?zth0 ?zth1
              case zth0 =>
               exact jr_var 0
              case zth1 =>
               refine' jr_of ?zti0
               case zti0 =>
                exact je_int
             case ztg1 =>
              refine' ja_cons ?ztj0 ?ztj1
              case ztj0 =>
               exact je_int
              case ztj1 =>
               refine' ja_cons ?ztk0 ?ztk1
               case ztk0 =>
                exact je_int
               case ztk1 =>
                exact ja_nil
     case zsq1 =>
      refine' jss_one ?ztl0
      case ztl0 =>
       refine' js_ret ?ztm0
       case ztm0 =>
        exact je_bl
     case zsq2 =>
      exact jss_nil
    case zsp1 =>
     refine' jss_cons ?ztn0 ?ztn1
     case ztn0 =>
      refine' js_asg ?zto0 ?zto1
      case zto0 =>
       exact je_var 0
      case zto1 =>
       refine' jg_tup (K := K) ?ztp0
       case ztp0 =>
        refine' jgs_cons ?ztq0 ?ztq1
        case ztq0 =>
         exact jg_name 1 nd
        case ztq1 =>
         refine' jgs_cons ?ztr0 ?ztr1
         case ztr0 =>
          exact jg_name 2 nd
         case ztr1 =>
          refine' jgs_cons ?zts0 ?zts1
          case zts0 =>
           exact jg_name 3 nd
          case zts1 =>
           exact jgs_nil
     case ztn1 =>
      refine' jss_cons ?ztt0 ?ztt1
      case ztt0 =>
       refine' js_if ?ztu0 ?ztu1 ?ztu2
       case ztu0 =>
        refine' jb_w ?ztv0
        case ztv0 =>
         refine' jw_or ?ztw0 ?ztw1
         case ztw0 =>
          refine' jb_not ?ztx0
          case ztx0 =>
           refine' jb_val ?zty0
           case zty0 =>
            refine' je_isi (K := K) tab_tuple PyProof.Rows.boot_tuple nm.tuple nm.isinstance ?ztz0
            case ztz0 =>
             exact jr_var 2
         case ztw1 =>
          refine' jw_or1 ?zua0
          case zua0 =>
           refine' jb_not ?zub0
           case zub0 =>
            refine' jb_chain op_le op_le ok_cmpI ok_cmpI ?zuc0 ?zuc1 ?zuc2
            case zuc0 =>
             refine' jr_of ?zud0
             case zud0 =>
              exact je_int
            case zuc1 =>
             refine' jr_of ?zue0
             case zue0 =>
              refine' je_cb (cK_len (K := K) rfl) okK_len PySem.boot_len nm.len ?zuf0
              case zuf0 =>
               refine' jar_cons ?zug0 ?zug1
               case zug0 =>
                exact jr_var 2
               case zug1 =>
                exact jar_nil
            case zuc2 =>
             refine' jr_of ?zuh0
             case zuh0 =>
              exact je_gi nm.MOST_EVENTS
       case ztu1 =>
        refine' jss_one ?zui0
        case zui0 =>
         refine' js_ret ?zuj0
         case zuj0 =>
          exact je_bl
       case ztu2 =>
        exact jss_nil
      case ztt1 =>
       refine' jss_cons ?zuk0 ?zuk1
       case zuk0 =>
        refine' js_if ?zul0 ?zul1 ?zul2
        case zul0 =>
         refine' jb_not ?zum0
         case zum0 =>
          refine' jb_val ?zun0
          case zun0 =>
           refine' je_cb (cK_all (K := K) rfl rfl) ok_all PyProof.Rows.boot_all nm.all ?zuo0
           case zuo0 =>
            refine' jar_cons ?zup0 ?zup1
            case zup0 =>
             refine' jr_of ?zuq0
             case zuq0 =>
              refine' je_of ?zur0
              case zur0 =>
               refine' jf_lc (own := [("row", 5)]) (L := [5]) nd (blkOk_by (by kernel_rfl)) ?zus0 ?zus1 ?zus2 ?zus3
               case zus0 =>
                refine' ji_seq (K := K) ?zut0
                case zut0 =>
                 exact je_var 2
               case zus1 =>
                intro _ _ _ _ _
                exact jg_name 5 nd
               case zus2 =>
                intro _ _ _ _ _
                exact jbs_nil
               case zus3 =>
                intro _ _ _ _ _
                refine' je_call0 D_is_row hr ?zuu0
                case zuu0 =>
                 refine' ja_cons ?zuv0 ?zuv1
                 case zuv0 =>
                  exact je_var 5
                 case zuv1 =>
                  refine' ja_cons ?zuw0 ?zuw1
                  case zuw0 =>
                   exact je_var 1
                  case zuw1 =>
                   refine' ja_cons ?zux0 ?zux1
                   case zux0 =>
                    refine' je_cb (cK_len (K := K) rfl) okK_len PySem.boot_len nm.len ?zuy0
                    case zuy0 =>
                     refine' jar_cons ?zuz0 ?zuz1
                     case zuz0 =>
                      exact jr_var 2
                     case zuz1 =>
                      exact jar_nil
                   case zux1 =>
                    exact ja_nil
            case zup1 =>
             exact jar_nil
        case zul1 =>
         refine' jss_one ?zva0
         case zva0 =>
          refine' js_ret ?zvb0
          case zvb0 =>
           exact je_bl
        case zul2 =>
         exact jss_nil
       case zuk1 =>
        refine' jss_cons ?zvc0 ?zvc1
        case zvc0 =>
         refine' js_if ?zvd0 ?zvd1 ?zvd2
         case zvd0 =>
          refine' jb_w ?zve0
          case zve0 =>
           refine' jw_or ?zvf0 ?zvf1
           case zvf0 =>
            refine' jb_not ?zvg0
            case zvg0 =>
             refine' jb_val ?zvh0
             case zvh0 =>
              refine' je_isi (K := K) tab_tuple PyProof.Rows.boot_tuple nm.tuple nm.isinstance ?zvi0
              case zvi0 =>
               exact jr_var 3
           case zvf1 =>
            refine' jw_or1 ?zvj0
            case zvj0 =>
             refine' jb_not ?zvk0
             case zvk0 =>
              refine' jb_chain op_le op_le ok_cmpI ok_cmpI ?zvl0 ?zvl1 ?zvl2
              case zvl0 =>
               refine' jr_of ?zvm0
               case zvm0 =>
                exact je_int
              case zvl1 =>
               refine' jr_of ?zvn0
               case zvn0 =>
                refine' je_cb (cK_len (K := K) rfl) okK_len PySem.boot_len nm.len ?zvo0
                case zvo0 =>
                 refine' jar_cons ?zvp0 ?zvp1
                 case zvp0 =>
                  exact jr_var 3
                 case zvp1 =>
                  exact jar_nil
              case zvl2 =>
               refine' jr_of ?zvq0
               case zvq0 =>
                exact je_int
         case zvd1 =>
          refine' jss_one ?zvr0
          case zvr0 =>
           refine' js_ret ?zvs0
           case zvs0 =>
            exact je_bl
         case zvd2 =>
          exact jss_nil
        case zvc1 =>
         refine' jss_one ?zvt0
         case zvt0 =>
          refine' js_ret ?zvu0
          case zvu0 =>
           refine' je_cb (cK_all (K := K) rfl rfl) ok_all PyProof.Rows.boot_all nm.all ?zvv0
           case zvv0 =>
            refine' jar_cons ?zvw0 ?zvw1
            case zvw0 =>
             refine' jr_of ?zvx0
             case zvx0 =>
              refine' je_of ?zvy0
              case zvy0 =>
               refine' jf_lc (own := [("one", 4)]) (L := [4]) nd (blkOk_by (by kernel_rfl)) ?zvz0 ?zvz1 ?zvz2 ?zvz3
               case zvz0 =>
                refine' ji_seq (K := K) ?zwa0
                case zwa0 =>
                 exact je_var 3
               case zvz1 =>
                intro _ _ _ _ _
                exact jg_name 4 nd
               case zvz2 =>
                intro _ _ _ _ _
                exact jbs_nil
               case zvz3 =>
                intro _ _ _ _ _
                refine' je_call0 D_is_whole hr ?zwb0
                case zwb0 =>
                 refine' ja_cons ?zwc0 ?zwc1
                 case zwc0 =>
                  exact je_var 4
                 case zwc1 =>
                  refine' ja_cons ?zwd0 ?zwd1
                  case zwd0 =>
                   exact je_int
                  case zwd1 =>
                   refine' ja_cons ?zwe0 ?zwe1
                   case zwe0 =>
                    refine' je_sub ?zwf0 ?zwf1
                    case zwf0 =>
                     refine' jr_of ?zwg0
                     case zwg0 =>
                      refine' je_cb (cK_len (K := K) rfl) okK_len PySem.boot_len nm.len ?zwh0
                      case zwh0 =>
                       refine' jar_cons ?zwi0 ?zwi1
                       case zwi0 =>
                        exact jr_var 2
                       case zwi1 =>
                        exact jar_nil
                    case zwf1 =>
                     refine' jr_of ?zwj0
                     case zwj0 =>
                      exact je_int
                   case zwe1 =>
                    exact ja_nil
            case zvw1 =>
             exact jar_nil
theorem sc_all_back : FnScope ["rows", "row", "source", "delay", "back"] ["rows"] (defScope s_all_back) := ⟨rfl, rfl, rfl, by decide +kernel, rfl, by decide +kernel, by decide +kernel⟩
theorem ok_all_back {P : Program} {w : World} {K : PySem.W.Frag} {mg : Str → Option Value} {base : Heap} {C : Str → Addr} (nm : Nm K mg C) (h : HasF K mg "all_back" s_all_back ["rows"]) : DefV P w K mg base CX0 C "all_back" ["rows"] 1 g_all_back := by
  have nd := sc_all_back.nd
  refine' def_v0 (k := 0) (N := ["rows", "row", "source", "delay", "back"]) h sc_all_back ?hb
  intro f cdv A outer s H E hr
  refine' ⟨_, ?hc⟩
  case hc =>
    intro B EX
    refine' jss_one ?zwk0
    case zwk0 =>
     refine' js_ret ?zwl0
     case zwl0 =>
      refine' je_cb (cK_sum (K := K) rfl rfl) ok_sum PyProof.Rows.boot_sum nm.sum ?zwm0
      case zwm0 =>
       refine' jar_cons ?zwn0 ?zwn1
       case zwn0 =>
        refine' jr_of ?zwo0
        case zwo0 =>
         refine' je_of ?zwp0
         case zwp0 =>
          refine' jf_lc (own := [("row", 1)]) (L := [1]) nd (blkOk_by (by kernel_rfl)) ?zwq0 ?zwq1 ?zwq2 ?zwq3
          case zwq0 =>
           refine' ji_seq (K := K) ?zwr0
           case zwr0 =>
            exact je_var 0
          case zwq1 =>
           intro _ _ _ _ _
           exact jg_name 1 nd
          case zwq2 =>
           intro _ _ _ _ _
           exact jbs_nil
          case zwq3 =>
           intro _ _ _ _ _
           refine' je_cb (cK_sum (K := K) rfl rfl) ok_sum PyProof.Rows.boot_sum nm.sum ?zws0
           case zws0 =>
            refine' jar_cons ?zwt0 ?zwt1
            case zwt0 =>
             refine' jr_of ?zwu0
             case zwu0 =>
              refine' je_of ?zwv0
              case zwv0 =>
               refine' jf_lc (own := [("source", 2), ("delay", 3), ("back", 4)]) (L := ([2] ++ ([3] ++ ([4] ++ [])))) nd (blkOk_by (by kernel_rfl)) ?zww0 ?zww1 ?zww2 ?zww3
               case zww0 =>
                refine' ji_seq (K := K) ?zwx0
                case zwx0 =>
                 exact je_var 1
               case zww1 =>
                intro _ _ _ _ _
                refine' jg_tup (K := K) ?zwy0
                case zwy0 =>
                 refine' jgs_cons ?zwz0 ?zwz1
                 case zwz0 =>
                  exact jg_name 2 nd
                 case zwz1 =>
                  refine' jgs_cons ?zxa0 ?zxa1
                  case zxa0 =>
                   exact jg_name 3 nd
                  case zxa1 =>
                   refine' jgs_cons ?zxb0 ?zxb1
                   case zxb0 =>
                    exact jg_name 4 nd
                   case zxb1 =>
                    exact jgs_nil
               case zww2 =>
                intro _ _ _ _ _
                exact jbs_nil
               case zww3 =>
                intro _ _ _ _ _
                exact je_var 4
            case zwt1 =>
             exact jar_nil
       case zwn1 =>
        exact jar_nil
theorem sc_event_of : FnScope ["source"] ["source"] (defScope s_event_of) := ⟨rfl, rfl, rfl, by decide +kernel, rfl, by decide +kernel, by decide +kernel⟩
theorem ok_event_of {P : Program} {w : World} {K : PySem.W.Frag} {mg : Str → Option Value} {base : Heap} {C : Str → Addr} (nm : Nm K mg C) (h : HasF K mg "event_of" s_event_of ["source"]) : DefV P w K mg base CX0 C "event_of" ["source"] 1 g_event_of := by
  have nd := sc_event_of.nd
  refine' def_v0 (k := 0) (N := ["source"]) h sc_event_of ?hb
  intro f cdv A outer s H E hr
  refine' ⟨_, ?hc⟩
  case hc =>
    intro B EX
    refine' jss_one ?zxc0
    case zxc0 =>
     refine' js_ret ?zxd0
     case zxd0 =>
      refine' je_if ?zxe0 ?zxe1 ?zxe2
      case zxe0 =>
       refine' jb_eq (K := K) hr.units ?zxf0 ?zxf1
       case zxf0 =>
        refine' jr_of ?zxg0
        case zxg0 =>
         refine' je_ix (K := K) ?zxh0 ?zxh1
         case zxh0 =>
          exact jr_var 0
         case zxh1 =>
          refine' jr_of ?zxi0
          case zxi0 =>
           exact je_int
       case zxf1 =>
        refine' jr_of ?zxj0
        case zxj0 =>
         exact je_str
      case zxe1 =>
       refine' je_ct call_intA ok_int PyProof.Rows.boot_int nm.int ?zxk0
       case zxk0 =>
        refine' jar_cons ?zxl0 ?zxl1
        case zxl0 =>
         refine' jr_of ?zxm0
         case zxm0 =>
          refine' je_sl (K := K) ?zxn0 ?zxn1 ?zxn2
          case zxn0 =>
           exact jr_var 0
          case zxn1 =>
           refine' jo_some ?zxo0
           case zxo0 =>
            exact je_int
          case zxn2 =>
           exact jo_none
        case zxl1 =>
         exact jar_nil
      case zxe2 =>
       exact je_non
theorem sc_same_round : FnScope ["rows", "found", "row", "some", "source", "delay", "back", "one"] ["rows"] (defScope s_same_round) := ⟨rfl, rfl, rfl, by decide +kernel, rfl, by decide +kernel, by decide +kernel⟩
theorem ok_same_round {P : Program} {w : World} {K : PySem.W.Frag} {mg : Str → Option Value} {base : Heap} {C : Str → Addr} (nm : Nm K mg C) (h : HasF K mg "same_round" s_same_round ["rows"]) (D_event_of : DefV P w K mg base CX0 C "event_of" ["source"] 1 g_event_of) : DefV P w K mg base CX0 C "same_round" ["rows"] 2 g_same_round := by
  have nd := sc_same_round.nd
  refine' def_v0 (k := 1) (N := ["rows", "found", "row", "some", "source", "delay", "back", "one"]) h sc_same_round ?hb
  intro f cdv A outer s H E hr
  refine' ⟨_, ?hc⟩
  case hc =>
    intro B EX
    refine' jss_cons ?zxp0 ?zxp1
    case zxp0 =>
     refine' js_own 1 nd ?zxq0
     case zxq0 =>
      refine' jf_lst ?zxr0
      case zxr0 =>
       exact ja_nil
    case zxp1 =>
     refine' jss_cons ?zxs0 ?zxs1
     case zxs0 =>
      refine' js_for PassesOwn.never ?zxt0 ?zxt1 ?zxt2
      case zxt0 =>
       refine' ji_seq (K := K) ?zxu0
       case zxu0 =>
        exact je_var 0
      case zxt1 =>
       exact jg_name 2 nd
      case zxt2 =>
       refine' jss_cons ?zxv0 ?zxv1
       case zxv0 =>
        refine' js_setLc 3 (own := [("source", 4), ("delay", 5), ("back", 6)]) (L := ([4] ++ ([5] ++ ([6] ++ [])))) nd (blkOk_by (by kernel_rfl)) ?zxw0 ?zxw1 ?zxw2 ?zxw3 (sw_true rfl rfl rfl (by kernel_rfl))
        case zxw0 =>
         refine' ji_seq (K := K) ?zxx0
         case zxx0 =>
          exact je_var 2
        case zxw1 =>
         intro _ _ _ _ _
         refine' jg_tup (K := K) ?zxy0
         case zxy0 =>
          refine' jgs_cons ?zxz0 ?zxz1
          case zxz0 =>
           exact jg_name 4 nd
          case zxz1 =>
           refine' jgs_cons ?zya0 ?zya1
           case zya0 =>
            exact jg_name 5 nd
           case zya1 =>
            refine' jgs_cons ?zyb0 ?zyb1
            case zyb0 =>
             exact jg_name 6 nd
            case zyb1 =>
             exact jgs_nil
        case zxw2 =>
         intro _ _ _ _ _
         refine' jbs_one ?zyc0
         case zyc0 =>
          refine' jb_eq (K := K) hr.units ?zyd0 ?zyd1
          case zyd0 =>
           exact jr_var 6
          case zyd1 =>
           refine' jr_of ?zye0
           case zye0 =>
            exact je_int
        case zxw3 =>
         intro _ _ _ _ _
         refine' je_call0 D_event_of hr ?zyf0
         case zyf0 =>
          refine' ja_cons ?zyg0 ?zyg1
          case zyg0 =>
           exact je_var 4
          case zyg1 =>
           exact ja_nil
       case zxv1 =>
        refine' jss_one ?zyh0
        case zyh0 =>
         refine' js_append (K := K) 1 ?zyi0
         case zyi0 =>
          refine' je_of ?zyj0
          case zyj0 =>
           refine' jf_lc (own := [("one", 7)]) (L := [7]) nd (blkOk_by (by kernel_rfl)) ?zyk0 ?zyk1 ?zyk2 ?zyk3
           case zyk0 =>
            refine' ji_seq (K := K) ?zyl0
            case zyl0 =>
             exact je_var 3
           case zyk1 =>
            intro _ _ _ _ _
            exact jg_name 7 nd
           case zyk2 =>
            intro _ _ _ _ _
            refine' jbs_one ?zym0
            case zym0 =>
             refine' jb_isnot ?zyn0 ?zyn1
             case zyn0 =>
              exact jr_var 7
             case zyn1 =>
              refine' jr_of ?zyo0
              case zyo0 =>
               exact je_non
           case zyk3 =>
            intro _ _ _ _ _
            exact je_var 7
     case zxs1 =>
      refine' jss_one ?zyp0
      case zyp0 =>
       refine' js_ret ?zyq0
       case zyq0 =>
        exact je_var 1
theorem sc_order_of : FnScope ["rows", "waits", "found", "free", "at", "one"] ["rows"] (defScope s_order_of) := ⟨rfl, rfl, rfl, by decide +kernel, rfl, by decide +kernel, by decide +kernel⟩
theorem ok_order_of {P : Program} {w : World} {K : PySem.W.Frag} {mg : Str → Option Value} {base : Heap} {C : Str → Addr} (nm : Nm K mg C) (h : HasF K mg "order_of" s_order_of ["rows"]) (D_same_round : DefV P w K mg base CX0 C "same_round" ["rows"] 2 g_same_round) : DefV P w K mg base CX0 C "order_of" ["rows"] 3 g_order_of := by
  have nd := sc_order_of.nd
  refine' def_v0 (k := 2) (N := ["rows", "waits", "found", "free", "at", "one"]) h sc_order_of ?hb
  intro f cdv A outer s H E hr
  refine' ⟨_, ?hc⟩
  case hc =>
    intro B EX
    refine' jss_cons ?zyr0 ?zyr1
    case zyr0 =>
     refine' js_parT (K := K) (is := [1, 2]) ?zys0 ?zys1
     case zys0 =>
      refine' jam_cons ?zyt0 ?zyt1
      case zyt0 =>
       refine' je_call0 D_same_round hr ?zyu0
       case zyu0 =>
        refine' ja_cons ?zyv0 ?zyv1
        case zyv0 =>
         exact je_var 0
        case zyv1 =>
         exact ja_nil
      case zyt1 =>
       refine' jam_own ?zyw0 ?zyw1
       case zyw0 =>
        refine' jf_lst ?zyx0
        case zyx0 =>
         exact ja_nil
       case zyw1 =>
        exact jam_nil
     case zys1 =>
      exact (pg_tup rfl (pgs_cons (pg_name (i := 1) nd rfl (by first | exact Or.inl rfl | exact Or.inr rfl)) (pgs_cons (pg_name (i := 2) nd rfl (by first | exact Or.inl rfl | exact Or.inr rfl)) (pgs_nil))))
    case zyr1 =>
     refine' jss_cons ?zyy0 ?zyy1
     case zyy0 =>
      refine' js_while 1000000 PassesOwn.never ?zyz0 ?zyz1
      case zyz0 =>
       refine' jb_lt ?zza0 ?zza1
       case zza0 =>
        refine' jr_of ?zzb0
        case zzb0 =>
         refine' je_cb (cK_len (K := K) rfl) okK_len PySem.boot_len nm.len ?zzc0
         case zzc0 =>
          refine' jar_cons ?zzd0 ?zzd1
          case zzd0 =>
           exact jr_var 2
          case zzd1 =>
           exact jar_nil
       case zza1 =>
        refine' jr_of ?zze0
        case zze0 =>
         refine' je_cb (cK_len (K := K) rfl) okK_len PySem.boot_len nm.len ?zzf0
         case zzf0 =>
          refine' jar_cons ?zzg0 ?zzg1
          case zzg0 =>
           exact jr_var 0
          case zzg1 =>
           exact jar_nil
      case zyz1 =>
       refine' jss_cons ?zzh0 ?zzh1
       case zzh0 =>
        refine' js_setLc 3 (own := [("at", 4)]) (L := [4]) nd (blkOk_by (by kernel_rfl)) ?zzi0 ?zzi1 ?zzi2 ?zzi3 (sw_true rfl rfl rfl (by kernel_rfl))
        case zzi0 =>
         refine' ji_rng1 nm.range ?zzj0
         case zzj0 =>
          refine' ja_cons ?zzk0 ?zzk1
          case zzk0 =>
           refine' je_cb (cK_len (K := K) rfl) okK_len PySem.boot_len nm.len ?zzl0
           case zzl0 =>
            refine' jar_cons ?zzm0 ?zzm1
            case zzm0 =>
             exact jr_var 0
            case zzm1 =>
             exact jar_nil
          case zzk1 =>
           exact ja_nil
        case zzi1 =>
         intro _ _ _ _ _
         exact jg_name 4 nd
        case zzi2 =>
         intro _ _ _ _ _
         refine' jbs_one ?zzn0
         case zzn0 =>
          refine' jb_w ?zzo0
          case zzo0 =>
           refine' jw_and ?zzp0 ?zzp1
           case zzp0 =>
            refine' jb_notin (K := K) hr.units ?zzq0 ?zzq1
            case zzq0 =>
             exact jr_var 4
            case zzq1 =>
             exact jr_var 2
           case zzp1 =>
            refine' jw_and1 ?zzr0
            case zzr0 =>
             refine' jb_val ?zzs0
             case zzs0 =>
              refine' je_cb (cK_all (K := K) rfl rfl) ok_all PyProof.Rows.boot_all nm.all ?zzt0
              case zzt0 =>
               refine' jar_cons ?zzu0 ?zzu1
               case zzu0 =>
                refine' jr_of ?zzv0
                case zzv0 =>
                 refine' je_of ?zzw0
                 case zzw0 =>
                  refine' jf_lc (own := [("one", 5)]) (L := [5]) nd (blkOk_by (by kernel_rfl)) ?zzx0 ?zzx1 ?zzx2 ?zzx3
                  case zzx0 =>
                   refine' ji_seq (K := K) ?zzy0
                   case zzy0 =>
                    refine' je_ix (K := K) ?zzz0 ?zzz1
                    case zzz0 =>
                     exact jr_var 1
                    case zzz1 =>
                     exact jr_var 4
                  case zzx1 =>
                   intro _ _ _ _ _
                   exact jg_name 5 nd
                  case zzx2 =>
                   intro _ _ _ _ _
                   exact jbs_nil
                  case zzx3 =>
                   intro _ _ _ _ _
                   refine' je_in (K := K) hr.units ?zbaa0 ?zbaa1
                   case zbaa0 =>
                    exact jr_var 5
                   case zbaa1 =>
                    exact jr_var 2
               case zzu1 =>
                exact jar_nil
        case zzi3 =>
         intro _ _ _ _ _
         exact je_var 4
       case zzh1 =>
        refine' jss_cons ?zbab0 ?zbab1
        case zbab0 =>
         refine' js_if ?zbac0 ?zbac1 ?zbac2
         case zbac0 =>
          refine' jb_eq (K := K) hr.units ?zbad0 ?zbad1
          case zbad0 =>
           exact jr_var 3
          case zbad1 =>
           refine' jr_of ?zbae0
           case zbae0 =>
            refine' je_of ?zbaf0
            case zbaf0 =>
             refine' jf_lst ?zbag0
             case zbag0 =>
              exact ja_nil
         case zbac1 =>
          refine' jss_one ?zbah0
          case zbah0 =>
           refine' js_ret ?zbai0
           case zbai0 =>
            exact je_non
         case zbac2 =>
          exact jss_nil
        case zbab1 =>
         refine' jss_one ?zbaj0
         case zbaj0 =>
          refine' js_append (K := K) 2 ?zbak0
          case zbak0 =>
           refine' je_ix (K := K) ?zbal0 ?zbal1
           case zbal0 =>
            exact jr_var 3
           case zbal1 =>
            refine' jr_of ?zbam0
            case zbam0 =>
             exact je_int
     case zyy1 =>
      refine' jss_one ?zban0
      case zban0 =>
       refine' js_ret ?zbao0
       case zbao0 =>
        exact je_var 2
theorem sc_is_net : FnScope ["value"] ["value"] (defScope s_is_net) := ⟨rfl, rfl, rfl, by decide +kernel, rfl, by decide +kernel, by decide +kernel⟩
theorem ok_is_net {P : Program} {w : World} {K : PySem.W.Frag} {mg : Str → Option Value} {base : Heap} {C : Str → Addr} (nm : Nm K mg C) (h : HasF K mg "is_net" s_is_net ["value"]) (D_is_shaped : DefV P w K mg base CX0 C "is_shaped" ["value"] 4 g_is_shaped) (D_all_back : DefV P w K mg base CX0 C "all_back" ["rows"] 1 g_all_back) (D_order_of : DefV P w K mg base CX0 C "order_of" ["rows"] 3 g_order_of) : DefV P w K mg base CX0 C "is_net" ["value"] 5 g_is_net := by
  have nd := sc_is_net.nd
  refine' def_v0 (k := 4) (N := ["value"]) h sc_is_net ?hb
  intro f cdv A outer s H E hr
  refine' ⟨_, ?hc⟩
  case hc =>
    intro B EX
    refine' jss_one ?zbap0
    case zbap0 =>
     refine' js_ret ?zbaq0
     case zbaq0 =>
      refine' je_and ?zbar0 ?zbar1
      case zbar0 =>
       refine' je_call0 D_is_shaped hr ?zbas0
       case zbas0 =>
        refine' ja_cons ?zbat0 ?zbat1
        case zbat0 =>
         exact je_var 0
        case zbat1 =>
         exact ja_nil
      case zbar1 =>
       refine' je_and ?zbau0 ?zbau1
       case zbau0 =>
        refine' je_le ?zbav0 ?zbav1
        case zbav0 =>
         refine' jr_of ?zbaw0
         case zbaw0 =>
          refine' je_call0 D_all_back hr ?zbax0
          case zbax0 =>
           refine' ja_cons ?zbay0 ?zbay1
           case zbay0 =>
            refine' je_ix (K := K) ?zbaz0 ?zbaz1
            case zbaz0 =>
             exact jr_var 0
            case zbaz1 =>
             refine' jr_of ?zbba0
             case zbba0 =>
              exact je_int
           case zbay1 =>
            exact ja_nil
        case zbav1 =>
         refine' jr_of ?zbbb0
         case zbbb0 =>
          exact je_gi nm.MOST_BACK
       case zbau1 =>
        refine' je_one ?zbbc0
        case zbbc0 =>
         refine' je_isnot ?zbbd0 ?zbbd1
         case zbbd0 =>
          refine' jr_of ?zbbe0
          case zbbe0 =>
           refine' je_call0 D_order_of hr ?zbbf0
           case zbbf0 =>
            refine' ja_cons ?zbbg0 ?zbbg1
            case zbbg0 =>
             refine' je_ix (K := K) ?zbbh0 ?zbbh1
             case zbbh0 =>
              exact jr_var 0
             case zbbh1 =>
              refine' jr_of ?zbbi0
              case zbbi0 =>
               exact je_int
            case zbbg1 =>
             exact ja_nil
         case zbbd1 =>
          refine' jr_of ?zbbj0
          case zbbj0 =>
           exact je_non
theorem sc_need_net : FnScope ["net"] ["net"] (defScope s_need_net) := ⟨rfl, rfl, rfl, by decide +kernel, rfl, by decide +kernel, by decide +kernel⟩
theorem ok_need_net {P : Program} {w : World} {K : PySem.W.Frag} {mg : Str → Option Value} {base : Heap} {C : Str → Addr} (nm : Nm K mg C) (h : HasF K mg "need_net" s_need_net ["net"]) (D_is_net : DefV P w K mg base CX0 C "is_net" ["value"] 5 g_is_net) : DefV P w K mg base (L2N.CX P w) C "need_net" ["net"] 6 g_need_net := by
  have nd := sc_need_net.nd
  refine' def_vX (k := 5) (N := ["net"]) h sc_need_net ?hb
  intro f cdv A outer s H E hr
  refine' ⟨_, ?hc⟩
  case hc =>
    intro B
    refine' jss_one ?zbbk0
    case zbbk0 =>
     refine' js_if ?zbbl0 ?zbbl1 ?zbbl2
     case zbbl0 =>
      refine' jb_not ?zbbm0
      case zbbm0 =>
       refine' jb_val ?zbbn0
       case zbbn0 =>
        refine' je_call0 D_is_net hr ?zbbo0
        case zbbo0 =>
         refine' ja_cons ?zbbp0 ?zbbp1
         case zbbp0 =>
          exact je_var 0
         case zbbp1 =>
          exact ja_nil
     case zbbl1 =>
      refine' jss_one ?zbbq0
      case zbbq0 =>
       exact js_raise nm.X_InvalidNet
     case zbbl2 =>
      exact jss_nil
theorem sc_are_stores : FnScope ["net", "value", "store", "one"] ["net", "value"] (defScope s_are_stores) := ⟨rfl, rfl, rfl, by decide +kernel, rfl, by decide +kernel, by decide +kernel⟩
theorem ok_are_stores {P : Program} {w : World} {K : PySem.W.Frag} {mg : Str → Option Value} {base : Heap} {C : Str → Addr} (nm : Nm K mg C) (h : HasF K mg "are_stores" s_are_stores ["net", "value"]) (D_is_whole : DefV P w K mg base CX0 C "is_whole" ["value", "low", "high"] 1 g_is_whole) : DefV P w K mg base CX0 C "are_stores" ["net", "value"] 2 g_are_stores := by
  have nd := sc_are_stores.nd
  refine' def_v0 (k := 1) (N := ["net", "value", "store", "one"]) h sc_are_stores ?hb
  intro f cdv A outer s H E hr
  refine' ⟨_, ?hc⟩
  case hc =>
    intro B EX
    refine' jss_cons ?zbbr0 ?zbbr1
    case zbbr0 =>
     refine' js_if ?zbbs0 ?zbbs1 ?zbbs2
     case zbbs0 =>
      refine' jb_w ?zbbt0
      case zbbt0 =>
       refine' jw_or ?zbbu0 ?zbbu1
       case zbbu0 =>
        refine' jb_not ?zbbv0
        case zbbv0 =>
         refine' jb_val ?zbbw0
         case zbbw0 =>
          refine' je_isi (K := K) tab_tuple PyProof.Rows.boot_tuple nm.tuple nm.isinstance ?zbbx0
          case zbbx0 =>
           exact jr_var 1
       case zbbu1 =>
        refine' jw_or1 ?zbby0
        case zbby0 =>
         refine' jb_not ?zbbz0
         case zbbz0 =>
          refine' jb_chain op_le op_le ok_cmpI ok_cmpI ?zbca0 ?zbca1 ?zbca2
          case zbca0 =>
           refine' jr_of ?zbcb0
           case zbcb0 =>
            exact je_int
          case zbca1 =>
           refine' jr_of ?zbcc0
           case zbcc0 =>
            refine' je_cb (cK_len (K := K) rfl) okK_len PySem.boot_len nm.len ?zbcd0
            case zbcd0 =>
             refine' jar_cons ?zbce0 ?zbce1
             case zbce0 =>
              exact jr_var 1
             case zbce1 =>
              exact jar_nil
          case zbca2 =>
           refine' jr_of ?zbcf0
           case zbcf0 =>
            exact je_int
     case zbbs1 =>
      refine' jss_one ?zbcg0
      case zbcg0 =>
       refine' js_ret ?zbch0
       case zbch0 =>
        exact je_bl
     case zbbs2 =>
      exact jss_nil
    case zbbr1 =>
     refine' jss_cons ?zbci0 ?zbci1
     case zbci0 =>
      refine' js_for PassesOwn.never ?zbcj0 ?zbcj1 ?zbcj2
      case zbcj0 =>
       refine' ji_seq (K := K) ?zbck0
       case zbck0 =>
        exact je_var 1
      case zbcj1 =>
       exact jg_name 2 nd
      case zbcj2 =>
       refine' jss_cons ?zbcl0 ?zbcl1
       case zbcl0 =>
        refine' js_if ?zbcm0 ?zbcm1 ?zbcm2
        case zbcm0 =>
         refine' jb_w ?zbcn0
         case zbcn0 =>
          refine' jw_or ?zbco0 ?zbco1
          case zbco0 =>
           refine' jb_not ?zbcp0
           case zbcp0 =>
            refine' jb_val ?zbcq0
            case zbcq0 =>
             refine' je_isi (K := K) tab_tuple PyProof.Rows.boot_tuple nm.tuple nm.isinstance ?zbcr0
             case zbcr0 =>
              exact jr_var 2
          case zbco1 =>
           refine' jw_or1 ?zbcs0
           case zbcs0 =>
            refine' jb_ne (K := K) hr.units ?zbct0 ?zbct1
            case zbct0 =>
             refine' jr_of ?zbcu0
             case zbcu0 =>
              refine' je_cb (cK_len (K := K) rfl) okK_len PySem.boot_len nm.len ?zbcv0
              case zbcv0 =>
               refine' jar_cons ?zbcw0 ?zbcw1
               case zbcw0 =>
                exact jr_var 2
               case zbcw1 =>
                exact jar_nil
            case zbct1 =>
             refine' jr_of ?zbcx0
             case zbcx0 =>
              exact je_int
        case zbcm1 =>
         refine' jss_one ?zbcy0
         case zbcy0 =>
          refine' js_ret ?zbcz0
          case zbcz0 =>
           exact je_bl
        case zbcm2 =>
         exact jss_nil
       case zbcl1 =>
        refine' jss_one ?zbda0
        case zbda0 =>
         refine' js_if ?zbdb0 ?zbdb1 ?zbdb2
         case zbdb0 =>
          refine' jb_not ?zbdc0
          case zbdc0 =>
           refine' jb_val ?zbdd0
           case zbdd0 =>
            refine' je_cb (cK_all (K := K) rfl rfl) ok_all PyProof.Rows.boot_all nm.all ?zbde0
            case zbde0 =>
             refine' jar_cons ?zbdf0 ?zbdf1
             case zbdf0 =>
              refine' jr_of ?zbdg0
              case zbdg0 =>
               refine' je_of ?zbdh0
               case zbdh0 =>
                refine' jf_lc (own := [("one", 3)]) (L := [3]) nd (blkOk_by (by kernel_rfl)) ?zbdi0 ?zbdi1 ?zbdi2 ?zbdi3
                case zbdi0 =>
                 refine' ji_seq (K := K) ?zbdj0
                 case zbdj0 =>
                  exact je_var 2
                case zbdi1 =>
                 intro _ _ _ _ _
                 exact jg_name 3 nd
                case zbdi2 =>
                 intro _ _ _ _ _
                 exact jbs_nil
                case zbdi3 =>
                 intro _ _ _ _ _
                 refine' je_call0 D_is_whole hr ?zbdk0
                 case zbdk0 =>
                  refine' ja_cons ?zbdl0 ?zbdl1
                  case zbdl0 =>
                   exact je_var 3
                  case zbdl1 =>
                   refine' ja_cons ?zbdm0 ?zbdm1
                   case zbdm0 =>
                    exact je_int
                   case zbdm1 =>
                    refine' ja_cons ?zbdn0 ?zbdn1
                    case zbdn0 =>
                     refine' je_sub ?zbdo0 ?zbdo1
                     case zbdo0 =>
                      refine' jr_of ?zbdp0
                      case zbdp0 =>
                       refine' je_cb (cK_len (K := K) rfl) okK_len PySem.boot_len nm.len ?zbdq0
                       case zbdq0 =>
                        refine' jar_cons ?zbdr0 ?zbdr1
                        case zbdr0 =>
                         refine' jr_of ?zbds0
                         case zbds0 =>
                          refine' je_ix (K := K) ?zbdt0 ?zbdt1
                          case zbdt0 =>
                           exact jr_var 0
                          case zbdt1 =>
                           refine' jr_of ?zbdu0
                           case zbdu0 =>
                            exact je_int
                        case zbdr1 =>
                         exact jar_nil
                     case zbdo1 =>
                      refine' jr_of ?zbdv0
                      case zbdv0 =>
                       exact je_int
                    case zbdn1 =>
                     exact ja_nil
             case zbdf1 =>
              exact jar_nil
         case zbdb1 =>
          refine' jss_one ?zbdw0
          case zbdw0 =>
           refine' js_ret ?zbdx0
           case zbdx0 =>
            exact je_bl
         case zbdb2 =>
          exact jss_nil
     case zbci1 =>
      refine' jss_one ?zbdy0
      case zbdy0 =>
       refine' js_ret ?zbdz0
       case zbdz0 =>
        exact je_bl
theorem sc_need_stores : FnScope ["net", "stores"] ["net", "stores"] (defScope s_need_stores) := ⟨rfl, rfl, rfl, by decide +kernel, rfl, by decide +kernel, by decide +kernel⟩
theorem ok_need_stores {P : Program} {w : World} {K : PySem.W.Frag} {mg : Str → Option Value} {base : Heap} {C : Str → Addr} (nm : Nm K mg C) (h : HasF K mg "need_stores" s_need_stores ["net", "stores"]) (D_need_net : DefV P w K mg base (L2N.CX P w) C "need_net" ["net"] 6 g_need_net) (D_are_stores : DefV P w K mg base CX0 C "are_stores" ["net", "value"] 2 g_are_stores) : DefV P w K mg base (L2N.CX P w) C "need_stores" ["net", "stores"] 7 g_need_stores := by
  have nd := sc_need_stores.nd
  refine' def_vX (k := 6) (N := ["net", "stores"]) h sc_need_stores ?hb
  intro f cdv A outer s H E hr
  refine' ⟨_, ?hc⟩
  case hc =>
    intro B
    refine' jss_cons ?zbea0 ?zbea1
    case zbea0 =>
     refine' js_expr ?zbeb0
     case zbeb0 =>
      refine' je_call D_need_net hr ?zbec0
      case zbec0 =>
       refine' ja_cons ?zbed0 ?zbed1
       case zbed0 =>
        exact je_var 0
       case zbed1 =>
        exact ja_nil
    case zbea1 =>
     refine' jss_one ?zbee0
     case zbee0 =>
      refine' js_if ?zbef0 ?zbef1 ?zbef2
      case zbef0 =>
       refine' jb_not ?zbeg0
       case zbeg0 =>
        refine' jb_val ?zbeh0
        case zbeh0 =>
         refine' je_call0 D_are_stores hr ?zbei0
         case zbei0 =>
          refine' ja_cons ?zbej0 ?zbej1
          case zbej0 =>
           exact je_var 0
          case zbej1 =>
           refine' ja_cons ?zbek0 ?zbek1
           case zbek0 =>
            exact je_var 1
           case zbek1 =>
            exact ja_nil
      case zbef1 =>
       refine' jss_one ?zbel0
       case zbel0 =>
        exact js_raise nm.X_InvalidStores
      case zbef2 =>
       exact jss_nil
theorem sc_divisor : FnScope ["one", "other"] ["one", "other"] (defScope s_divisor) := ⟨rfl, rfl, rfl, by decide +kernel, rfl, by decide +kernel, by decide +kernel⟩
theorem ok_divisor {P : Program} {w : World} {K : PySem.W.Frag} {mg : Str → Option Value} {base : Heap} {C : Str → Addr} (nm : Nm K mg C) (h : HasF K mg "divisor" s_divisor ["one", "other"]) : DefV P w K mg base CX0 C "divisor" ["one", "other"] 1 g_divisor := by
  have nd := sc_divisor.nd
  refine' def_v0 (k := 0) (N := ["one", "other"]) h sc_divisor ?hb
  intro f cdv A outer s H E hr
  refine' ⟨_, ?hc⟩
  case hc =>
    intro B EX
    refine' jss_cons ?zbem0 ?zbem1
    case zbem0 =>
     refine' js_while 1000000 PassesOwn.never ?zben0 ?zben1
     case zben0 =>
      refine' jb_ne (K := K) hr.units ?zbeo0 ?zbeo1
      case zbeo0 =>
       exact jr_var 1
      case zbeo1 =>
       refine' jr_of ?zbep0
       case zbep0 =>
        exact je_int
     case zben1 =>
      refine' jss_one ?zbeq0
      case zbeq0 =>
       refine' js_par2 0 1 nd ?zber0
       case zber0 =>
        refine' jam_cons ?zbes0 ?zbes1
        case zbes0 =>
         exact je_var 1
        case zbes1 =>
         refine' jam_cons ?zbet0 ?zbet1
         case zbet0 =>
          refine' je_mod ?zbeu0 ?zbeu1
          case zbeu0 =>
           exact jr_var 0
          case zbeu1 =>
           exact jr_var 1
         case zbet1 =>
          exact jam_nil
    case zbem1 =>
     refine' jss_one ?zbev0
     case zbev0 =>
      refine' js_ret ?zbew0
      case zbew0 =>
       exact je_var 0
theorem sc_lowest : FnScope ["top", "bottom", "common"] ["top", "bottom"] (defScope s_lowest) := ⟨rfl, rfl, rfl, by decide +kernel, rfl, by decide +kernel, by decide +kernel⟩
theorem ok_lowest {P : Program} {w : World} {K : PySem.W.Frag} {mg : Str → Option Value} {base : Heap} {C : Str → Addr} (nm : Nm K mg C) (h : HasF K mg "lowest" s_lowest ["top", "bottom"]) (D_divisor : DefV P w K mg base CX0 C "divisor" ["one", "other"] 1 g_divisor) : DefV P w K mg base CX0 C "lowest" ["top", "bottom"] 2 g_lowest := by
  have nd := sc_lowest.nd
  refine' def_v0 (k := 1) (N := ["top", "bottom", "common"]) h sc_lowest ?hb
  intro f cdv A outer s H E hr
  refine' ⟨_, ?hc⟩
  case hc =>
    intro B EX
    refine' jss_cons ?zbex0 ?zbex1
    case zbex0 =>
     refine' js_set 2 nd ?zbey0
     case zbey0 =>
      refine' je_call0 D_divisor hr ?zbez0
      case zbez0 =>
       refine' ja_cons ?zbfa0 ?zbfa1
       case zbfa0 =>
        refine' je_cb call_abs ok_abs PyProof.Rows.boot_abs nm.abs ?zbfb0
        case zbfb0 =>
         refine' jar_cons ?zbfc0 ?zbfc1
         case zbfc0 =>
          exact jr_var 0
         case zbfc1 =>
          exact jar_nil
       case zbfa1 =>
        refine' ja_cons ?zbfd0 ?zbfd1
        case zbfd0 =>
         exact je_var 1
        case zbfd1 =>
         exact ja_nil
    case zbex1 =>
     refine' jss_one ?zbfe0
     case zbfe0 =>
      refine' js_ret ?zbff0
      case zbff0 =>
       refine' je_tup ?zbfg0
       case zbfg0 =>
        refine' ja_cons ?zbfh0 ?zbfh1
        case zbfh0 =>
         refine' je_fdiv ?zbfi0 ?zbfi1
         case zbfi0 =>
          exact jr_var 0
         case zbfi1 =>
          exact jr_var 2
        case zbfh1 =>
         refine' ja_cons ?zbfj0 ?zbfj1
         case zbfj0 =>
          refine' je_fdiv ?zbfk0 ?zbfk1
          case zbfk0 =>
           exact jr_var 1
          case zbfk1 =>
           exact jr_var 2
         case zbfj1 =>
          exact ja_nil
theorem sc_is_pace : FnScope ["value"] ["value"] (defScope s_is_pace) := ⟨rfl, rfl, rfl, by decide +kernel, rfl, by decide +kernel, by decide +kernel⟩
theorem ok_is_pace {P : Program} {w : World} {K : PySem.W.Frag} {mg : Str → Option Value} {base : Heap} {C : Str → Addr} (nm : Nm K mg C) (h : HasF K mg "is_pace" s_is_pace ["value"]) (D_is_whole : DefV P w K mg base CX0 C "is_whole" ["value", "low", "high"] 1 g_is_whole) (D_lowest : DefV P w K mg base CX0 C "lowest" ["top", "bottom"] 2 g_lowest) : DefV P w K mg base CX0 C "is_pace" ["value"] 3 g_is_pace := by
  have nd := sc_is_pace.nd
  refine' def_v0 (k := 2) (N := ["value"]) h sc_is_pace ?hb
  intro f cdv A outer s H E hr
  refine' ⟨_, ?hc⟩
  case hc =>
    intro B EX
    refine' jss_cons ?zbfl0 ?zbfl1
    case zbfl0 =>
     refine' js_if ?zbfm0 ?zbfm1 ?zbfm2
     case zbfm0 =>
      refine' jb_w ?zbfn0
      case zbfn0 =>
       refine' jw_or ?zbfo0 ?zbfo1
       case zbfo0 =>
        refine' jb_not ?zbfp0
        case zbfp0 =>
         refine' jb_val ?zbfq0
         case zbfq0 =>
          refine' je_isi (K := K) tab_tuple PyProof.Rows.boot_tuple nm.tuple nm.isinstance ?zbfr0
          case zbfr0 =>
           exact jr_var 0
       case zbfo1 =>
        refine' jw_or1 ?zbfs0
        case zbfs0 =>
         refine' jb_ne (K := K) hr.units ?zbft0 ?zbft1
         case zbft0 =>
          refine' jr_of ?zbfu0
          case zbfu0 =>
           refine' je_cb (cK_len (K := K) rfl) okK_len PySem.boot_len nm.len ?zbfv0
           case zbfv0 =>
            refine' jar_cons ?zbfw0 ?zbfw1
            case zbfw0 =>
             exact jr_var 0
            case zbfw1 =>
             exact jar_nil
         case zbft1 =>
          refine' jr_of ?zbfx0
          case zbfx0 =>
           exact je_int
     case zbfm1 =>
      refine' jss_one ?zbfy0
      case zbfy0 =>
       refine' js_ret ?zbfz0
       case zbfz0 =>
        exact je_bl
     case zbfm2 =>
      exact jss_nil
    case zbfl1 =>
     refine' jss_one ?zbga0
     case zbga0 =>
      refine' js_ret ?zbgb0
      case zbgb0 =>
       refine' je_and ?zbgc0 ?zbgc1
       case zbgc0 =>
        refine' je_call0 D_is_whole hr ?zbgd0
        case zbgd0 =>
         refine' ja_cons ?zbge0 ?zbge1
         case zbge0 =>
          refine' je_ix (K := K) ?zbgf0 ?zbgf1
          case zbgf0 =>
           exact jr_var 0
          case zbgf1 =>
           refine' jr_of ?zbgg0
           case zbgg0 =>
            exact je_int
         case zbge1 =>
          refine' ja_cons ?zbgh0 ?zbgh1
          case zbgh0 =>
           exact je_int
          case zbgh1 =>
           refine' ja_cons ?zbgi0 ?zbgi1
           case zbgi0 =>
            exact je_int
           case zbgi1 =>
            exact ja_nil
       case zbgc1 =>
        refine' je_and ?zbgj0 ?zbgj1
        case zbgj0 =>
         refine' je_call0 D_is_whole hr ?zbgk0
         case zbgk0 =>
          refine' ja_cons ?zbgl0 ?zbgl1
          case zbgl0 =>
           refine' je_ix (K := K) ?zbgm0 ?zbgm1
           case zbgm0 =>
            exact jr_var 0
           case zbgm1 =>
            refine' jr_of ?zbgn0
            case zbgn0 =>
             exact je_int
          case zbgl1 =>
           refine' ja_cons ?zbgo0 ?zbgo1
           case zbgo0 =>
            exact je_int
           case zbgo1 =>
            refine' ja_cons ?zbgp0 ?zbgp1
            case zbgp0 =>
             exact je_int
            case zbgp1 =>
             exact ja_nil
        case zbgj1 =>
         refine' je_one ?zbgq0
         case zbgq0 =>
          refine' je_eq (K := K) hr.units ?zbgr0 ?zbgr1
          case zbgr0 =>
           refine' jr_of ?zbgs0
           case zbgs0 =>
            refine' je_call0 D_lowest hr ?zbgt0
            case zbgt0 =>
             refine' ja_cons ?zbgu0 ?zbgu1
             case zbgu0 =>
              refine' je_ix (K := K) ?zbgv0 ?zbgv1
              case zbgv0 =>
               exact jr_var 0
              case zbgv1 =>
               refine' jr_of ?zbgw0
               case zbgw0 =>
                exact je_int
             case zbgu1 =>
              refine' ja_cons ?zbgx0 ?zbgx1
              case zbgx0 =>
               refine' je_ix (K := K) ?zbgy0 ?zbgy1
               case zbgy0 =>
                exact jr_var 0
               case zbgy1 =>
                refine' jr_of ?zbgz0
                case zbgz0 =>
                 exact je_int
              case zbgx1 =>
               exact ja_nil
          case zbgr1 =>
           exact jr_var 0
theorem sc_all_rooms : FnScope ["many", "found", "turn", "longer", "row", "one"] ["many"] (defScope s_all_rooms) := ⟨rfl, rfl, rfl, by decide +kernel, rfl, by decide +kernel, by decide +kernel⟩
theorem ok_all_rooms {P : Program} {w : World} {K : PySem.W.Frag} {mg : Str → Option Value} {base : Heap} {C : Str → Addr} (nm : Nm K mg C) (h : HasF K mg "all_rooms" s_all_rooms ["many"]) : DefV P w K mg base CX0 C "all_rooms" ["many"] 1 g_all_rooms := by
  have nd := sc_all_rooms.nd
  refine' def_v0 (k := 0) (N := ["many", "found", "turn", "longer", "row", "one"]) h sc_all_rooms ?hb
  intro f cdv A outer s H E hr
  refine' ⟨_, ?hc⟩
  case hc =>
    intro B EX
    refine' jss_cons ?zbha0 ?zbha1
    case zbha0 =>
     refine' js_set 1 nd ?zbhb0
     case zbhb0 =>
      refine' je_of ?zbhc0
      case zbhc0 =>
       refine' jf_lst ?zbhd0
       case zbhd0 =>
        refine' ja_cons ?zbhe0 ?zbhe1
        case zbhe0 =>
         refine' je_tup ?zbhf0
         case zbhf0 =>
          exact ja_nil
        case zbhe1 =>
         exact ja_nil
    case zbha1 =>
     refine' jss_cons ?zbhg0 ?zbhg1
     case zbhg0 =>
      refine' js_for PassesOwn.never ?zbhh0 ?zbhh1 ?zbhh2
      case zbhh0 =>
       refine' ji_rng1 nm.range ?zbhi0
       case zbhi0 =>
        refine' ja_cons ?zbhj0 ?zbhj1
        case zbhj0 =>
         exact je_var 0
        case zbhj1 =>
         exact ja_nil
      case zbhh1 =>
       exact jg_name 2 nd
      case zbhh2 =>
       refine' jss_cons ?zbhk0 ?zbhk1
       case zbhk0 =>
        refine' js_set 3 nd ?zbhl0
        case zbhl0 =>
         refine' je_of ?zbhm0
         case zbhm0 =>
          refine' jf_lst ?zbhn0
          case zbhn0 =>
           exact ja_nil
       case zbhk1 =>
        refine' jss_cons ?zbho0 ?zbho1
        case zbho0 =>
         refine' js_for PassesOwn.never ?zbhp0 ?zbhp1 ?zbhp2
         case zbhp0 =>
          refine' ji_seq (K := K) ?zbhq0
          case zbhq0 =>
           exact je_var 1
         case zbhp1 =>
          exact jg_name 4 nd
         case zbhp2 =>
          refine' jss_one ?zbhr0
          case zbhr0 =>
           refine' js_set 3 nd ?zbhs0
           case zbhs0 =>
            refine' je_add (K := K) ?zbht0 ?zbht1
            case zbht0 =>
             exact jr_var 3
            case zbht1 =>
             refine' jr_of ?zbhu0
             case zbhu0 =>
              refine' je_of ?zbhv0
              case zbhv0 =>
               refine' jf_lc (own := [("one", 5)]) (L := [5]) nd (blkOk_by (by kernel_rfl)) ?zbhw0 ?zbhw1 ?zbhw2 ?zbhw3
               case zbhw0 =>
                refine' ji_rng2 nm.range ?zbhx0
                case zbhx0 =>
                 refine' ja_cons ?zbhy0 ?zbhy1
                 case zbhy0 =>
                  exact je_int
                 case zbhy1 =>
                  refine' ja_cons ?zbhz0 ?zbhz1
                  case zbhz0 =>
                   refine' je_add (K := K) ?zbia0 ?zbia1
                   case zbia0 =>
                    refine' jr_of ?zbib0
                    case zbib0 =>
                     exact je_gi nm.MOST_ROOMS
                   case zbia1 =>
                    refine' jr_of ?zbic0
                    case zbic0 =>
                     exact je_int
                  case zbhz1 =>
                   exact ja_nil
               case zbhw1 =>
                intro _ _ _ _ _
                exact jg_name 5 nd
               case zbhw2 =>
                intro _ _ _ _ _
                exact jbs_nil
               case zbhw3 =>
                intro _ _ _ _ _
                refine' je_add (K := K) ?zbid0 ?zbid1
                case zbid0 =>
                 exact jr_var 4
                case zbid1 =>
                 refine' jr_of ?zbie0
                 case zbie0 =>
                  refine' je_tup ?zbif0
                  case zbif0 =>
                   refine' ja_cons ?zbig0 ?zbig1
                   case zbig0 =>
                    exact je_var 5
                   case zbig1 =>
                    exact ja_nil
        case zbho1 =>
         refine' jss_one ?zbih0
         case zbih0 =>
          refine' js_set 1 nd ?zbii0
          case zbii0 =>
           exact je_var 3
     case zbhg1 =>
      refine' jss_one ?zbij0
      case zbij0 =>
       refine' js_ret ?zbik0
       case zbik0 =>
        exact je_var 1
theorem sc_is_less : FnScope ["one", "other"] ["one", "other"] (defScope s_is_less) := ⟨rfl, rfl, rfl, by decide +kernel, rfl, by decide +kernel, by decide +kernel⟩
theorem ok_is_less {P : Program} {w : World} {K : PySem.W.Frag} {mg : Str → Option Value} {base : Heap} {C : Str → Addr} (nm : Nm K mg C) (h : HasF K mg "is_less" s_is_less ["one", "other"]) : DefV P w K mg base CX0 C "is_less" ["one", "other"] 1 g_is_less := by
  have nd := sc_is_less.nd
  refine' def_v0 (k := 0) (N := ["one", "other"]) h sc_is_less ?hb
  intro f cdv A outer s H E hr
  refine' ⟨_, ?hc⟩
  case hc =>
    intro B EX
    refine' jss_one ?zbil0
    case zbil0 =>
     refine' js_ret ?zbim0
     case zbim0 =>
      refine' je_lt ?zbin0 ?zbin1
      case zbin0 =>
       refine' jr_of ?zbio0
       case zbio0 =>
        refine' je_mul (K := K) ?zbip0 ?zbip1
        case zbip0 =>
         refine' jr_of ?zbiq0
         case zbiq0 =>
          refine' je_ix (K := K) ?zbir0 ?zbir1
          case zbir0 =>
           exact jr_var 0
          case zbir1 =>
           refine' jr_of ?zbis0
           case zbis0 =>
            exact je_int
        case zbip1 =>
         refine' jr_of ?zbit0
         case zbit0 =>
          refine' je_ix (K := K) ?zbiu0 ?zbiu1
          case zbiu0 =>
           exact jr_var 1
          case zbiu1 =>
           refine' jr_of ?zbiv0
           case zbiv0 =>
            exact je_int
      case zbin1 =>
       refine' jr_of ?zbiw0
       case zbiw0 =>
        refine' je_mul (K := K) ?zbix0 ?zbix1
        case zbix0 =>
         refine' jr_of ?zbiy0
         case zbiy0 =>
          refine' je_ix (K := K) ?zbiz0 ?zbiz1
          case zbiz0 =>
           exact jr_var 1
          case zbiz1 =>
           refine' jr_of ?zbja0
           case zbja0 =>
            exact je_int
        case zbix1 =>
         refine' jr_of ?zbjb0
         case zbjb0 =>
          refine' je_ix (K := K) ?zbjc0 ?zbjc1
          case zbjc0 =>
           exact jr_var 0
          case zbjc1 =>
           refine' jr_of ?zbjd0
           case zbjd0 =>
            exact je_int
theorem sc_greatest : FnScope ["fractions", "found", "one"] ["fractions"] (defScope s_greatest) := ⟨rfl, rfl, rfl, by decide +kernel, rfl, by decide +kernel, by decide +kernel⟩
theorem ok_greatest {P : Program} {w : World} {K : PySem.W.Frag} {mg : Str → Option Value} {base : Heap} {C : Str → Addr} (nm : Nm K mg C) (h : HasF K mg "greatest" s_greatest ["fractions"]) (D_is_less : DefV P w K mg base CX0 C "is_less" ["one", "other"] 1 g_is_less) : DefV P w K mg base CX0 C "greatest" ["fractions"] 2 g_greatest := by
  have nd := sc_greatest.nd
  refine' def_v0 (k := 1) (N := ["fractions", "found", "one"]) h sc_greatest ?hb
  intro f cdv A outer s H E hr
  refine' ⟨_, ?hc⟩
  case hc =>
    intro B EX
    refine' jss_cons ?zbje0 ?zbje1
    case zbje0 =>
     refine' js_set 1 nd ?zbjf0
     case zbjf0 =>
      exact je_non
    case zbje1 =>
     refine' jss_cons ?zbjg0 ?zbjg1
     case zbjg0 =>
      refine' js_for PassesOwn.never ?zbjh0 ?zbjh1 ?zbjh2
      case zbjh0 =>
       refine' ji_seq (K := K) ?zbji0
       case zbji0 =>
        exact je_var 0
      case zbjh1 =>
       exact jg_name 2 nd
      case zbjh2 =>
       refine' jss_one ?zbjj0
       case zbjj0 =>
        refine' js_set 1 nd ?zbjk0
        case zbjk0 =>
         refine' je_if ?zbjl0 ?zbjl1 ?zbjl2
         case zbjl0 =>
          refine' jb_w ?zbjm0
          case zbjm0 =>
           refine' jw_or ?zbjn0 ?zbjn1
           case zbjn0 =>
            refine' jb_is ?zbjo0 ?zbjo1
            case zbjo0 =>
             exact jr_var 1
            case zbjo1 =>
             refine' jr_of ?zbjp0
             case zbjp0 =>
              exact je_non
           case zbjn1 =>
            refine' jw_or1 ?zbjq0
            case zbjq0 =>
             refine' jb_val ?zbjr0
             case zbjr0 =>
              refine' je_call0 D_is_less hr ?zbjs0
              case zbjs0 =>
               refine' ja_cons ?zbjt0 ?zbjt1
               case zbjt0 =>
                exact je_var 1
               case zbjt1 =>
                refine' ja_cons ?zbju0 ?zbju1
                case zbju0 =>
                 exact je_var 2
                case zbju1 =>
                 exact ja_nil
         case zbjl1 =>
          exact je_var 2
         case zbjl2 =>
          exact je_var 1
     case zbjg1 =>
      refine' jss_one ?zbjv0
      case zbjv0 =>
       refine' js_ret ?zbjw0
       case zbjw0 =>
        exact je_var 1
theorem sc_rings_from : FnScope ["rows", "first", "found", "waiting", "event", "way", "passed", "place", "arc", "source", "one"] ["rows", "first"] (defScope s_rings_from) := ⟨rfl, rfl, rfl, by decide +kernel, rfl, by decide +kernel, by decide +kernel⟩
theorem ok_rings_from {P : Program} {w : World} {K : PySem.W.Frag} {mg : Str → Option Value} {base : Heap} {C : Str → Addr} (nm : Nm K mg C) (h : HasF K mg "rings_from" s_rings_from ["rows", "first"]) (D_event_of : DefV P w K mg base CX0 C "event_of" ["source"] 1 g_event_of) : DefV P w K mg base CX0 C "rings_from" ["rows", "first"] 2 g_rings_from := by
  have nd := sc_rings_from.nd
  refine' def_v0 (k := 1) (N := ["rows", "first", "found", "waiting", "event", "way", "passed", "place", "arc", "source", "one"]) h sc_rings_from ?hb
  intro f cdv A outer s H E hr
  refine' ⟨_, ?hc⟩
  case hc =>
    intro B EX
    refine' jss_cons ?zbjx0 ?zbjx1
    case zbjx0 =>
     refine' js_par2 2 3 nd ?zbjy0
     case zbjy0 =>
      refine' jam_own ?zbjz0 ?zbjz1
      case zbjz0 =>
       refine' jf_lst ?zbka0
       case zbka0 =>
        exact ja_nil
      case zbjz1 =>
       refine' jam_own ?zbkb0 ?zbkb1
       case zbkb0 =>
        refine' jf_lst ?zbkc0
        case zbkc0 =>
         refine' ja_cons ?zbkd0 ?zbkd1
         case zbkd0 =>
          refine' je_tup ?zbke0
          case zbke0 =>
           refine' ja_cons ?zbkf0 ?zbkf1
           case zbkf0 =>
            exact je_var 1
           case zbkf1 =>
            refine' ja_cons ?zbkg0 ?zbkg1
            case zbkg0 =>
             refine' je_of ?zbkh0
             case zbkh0 =>
              refine' jf_lst ?zbki0
              case zbki0 =>
               exact ja_nil
            case zbkg1 =>
             exact ja_nil
         case zbkd1 =>
          exact ja_nil
       case zbkb1 =>
        exact jam_nil
    case zbjx1 =>
     refine' jss_cons ?zbkj0 ?zbkj1
     case zbkj0 =>
      refine' js_while 1000000 PassesOwn.never ?zbkk0 ?zbkk1
      case zbkk0 =>
       refine' jb_ne (K := K) hr.units ?zbkl0 ?zbkl1
       case zbkl0 =>
        exact jr_var 3
       case zbkl1 =>
        refine' jr_of ?zbkm0
        case zbkm0 =>
         refine' je_of ?zbkn0
         case zbkn0 =>
          refine' jf_lst ?zbko0
          case zbko0 =>
           exact ja_nil
      case zbkk1 =>
       refine' jss_cons ?zbkp0 ?zbkp1
       case zbkp0 =>
        refine' js_asg ?zbkq0 ?zbkq1
        case zbkq0 =>
         exact je_pop (K := K) 3
        case zbkq1 =>
         refine' jg_tup (K := K) ?zbkr0
         case zbkr0 =>
          refine' jgs_cons ?zbks0 ?zbks1
          case zbks0 =>
           exact jg_name 4 nd
          case zbks1 =>
           refine' jgs_cons ?zbkt0 ?zbkt1
           case zbkt0 =>
            exact jg_name 5 nd
           case zbkt1 =>
            exact jgs_nil
       case zbkp1 =>
        refine' jss_cons ?zbku0 ?zbku1
        case zbku0 =>
         refine' js_setLc 6 (own := [("one", 10), ("place", 7)]) (L := ([10] ++ ([7] ++ []))) nd (blkOk_by (by kernel_rfl)) ?zbkv0 ?zbkv1 ?zbkv2 ?zbkv3 (sw_true rfl rfl rfl (by kernel_rfl))
         case zbkv0 =>
          refine' ji_seq (K := K) ?zbkw0
          case zbkw0 =>
           exact je_var 5
         case zbkv1 =>
          intro _ _ _ _ _
          refine' jg_tup (K := K) ?zbkx0
          case zbkx0 =>
           refine' jgs_cons ?zbky0 ?zbky1
           case zbky0 =>
            exact jg_name 10 nd
           case zbky1 =>
            refine' jgs_cons ?zbkz0 ?zbkz1
            case zbkz0 =>
             exact jg_name 7 nd
            case zbkz1 =>
             exact jgs_nil
         case zbkv2 =>
          intro _ _ _ _ _
          exact jbs_nil
         case zbkv3 =>
          intro _ _ _ _ _
          exact je_var 10
        case zbku1 =>
         refine' jss_one ?zbla0
         case zbla0 =>
          refine' js_for PassesOwn.never ?zblb0 ?zblb1 ?zblb2
          case zblb0 =>
           refine' ji_enum (K := K) nm.enumerate ?zblc0
           case zblc0 =>
            refine' ja_cons ?zbld0 ?zbld1
            case zbld0 =>
             refine' je_ix (K := K) ?zble0 ?zble1
             case zble0 =>
              exact jr_var 0
             case zble1 =>
              exact jr_var 4
            case zbld1 =>
             exact ja_nil
          case zblb1 =>
           refine' jg_tup (K := K) ?zblf0
           case zblf0 =>
            refine' jgs_cons ?zblg0 ?zblg1
            case zblg0 =>
             exact jg_name 7 nd
            case zblg1 =>
             refine' jgs_cons ?zblh0 ?zblh1
             case zblh0 =>
              exact jg_name 8 nd
             case zblh1 =>
              exact jgs_nil
          case zblb2 =>
           refine' jss_cons ?zbli0 ?zbli1
           case zbli0 =>
            refine' js_set 9 nd ?zblj0
            case zblj0 =>
             refine' je_call0 D_event_of hr ?zblk0
             case zblk0 =>
              refine' ja_cons ?zbll0 ?zbll1
              case zbll0 =>
               refine' je_ix (K := K) ?zblm0 ?zblm1
               case zblm0 =>
                exact jr_var 8
               case zblm1 =>
                refine' jr_of ?zbln0
                case zbln0 =>
                 exact je_int
              case zbll1 =>
               exact ja_nil
           case zbli1 =>
            refine' jss_one ?zblo0
            case zblo0 =>
             refine' js_if ?zblp0 ?zblp1 ?zblp2
             case zblp0 =>
              refine' jb_eq (K := K) hr.units ?zblq0 ?zblq1
              case zblq0 =>
               exact jr_var 9
              case zblq1 =>
               exact jr_var 1
             case zblp1 =>
              refine' jss_one ?zblr0
              case zblr0 =>
               refine' js_append (K := K) 2 ?zbls0
               case zbls0 =>
                refine' je_add (K := K) ?zblt0 ?zblt1
                case zblt0 =>
                 exact jr_var 5
                case zblt1 =>
                 refine' jr_of ?zblu0
                 case zblu0 =>
                  refine' je_of ?zblv0
                  case zblv0 =>
                   refine' jf_lst ?zblw0
                   case zblw0 =>
                    refine' ja_cons ?zblx0 ?zblx1
                    case zblx0 =>
                     refine' je_tup ?zbly0
                     case zbly0 =>
                      refine' ja_cons ?zblz0 ?zblz1
                      case zblz0 =>
                       exact je_var 4
                      case zblz1 =>
                       refine' ja_cons ?zbma0 ?zbma1
                       case zbma0 =>
                        exact je_var 7
                       case zbma1 =>
                        exact ja_nil
                    case zblx1 =>
                     exact ja_nil
             case zblp2 =>
              refine' jss_one ?zbmb0
              case zbmb0 =>
               refine' js_if ?zbmc0 ?zbmc1 ?zbmc2
               case zbmc0 =>
                refine' jb_w ?zbmd0
                case zbmd0 =>
                 refine' jw_and ?zbme0 ?zbme1
                 case zbme0 =>
                  refine' jb_isnot ?zbmf0 ?zbmf1
                  case zbmf0 =>
                   exact jr_var 9
                  case zbmf1 =>
                   refine' jr_of ?zbmg0
                   case zbmg0 =>
                    exact je_non
                 case zbme1 =>
                  refine' jw_and ?zbmh0 ?zbmh1
                  case zbmh0 =>
                   refine' jb_gt ?zbmi0 ?zbmi1
                   case zbmi0 =>
                    exact jr_var 9
                   case zbmi1 =>
                    exact jr_var 1
                  case zbmh1 =>
                   refine' jw_and ?zbmj0 ?zbmj1
                   case zbmj0 =>
                    refine' jb_notin (K := K) hr.units ?zbmk0 ?zbmk1
                    case zbmk0 =>
                     exact jr_var 9
                    case zbmk1 =>
                     exact jr_var 6
                   case zbmj1 =>
                    refine' jw_and1 ?zbml0
                    case zbml0 =>
                     refine' jb_ne (K := K) hr.units ?zbmm0 ?zbmm1
                     case zbmm0 =>
                      exact jr_var 9
                     case zbmm1 =>
                      exact jr_var 4
               case zbmc1 =>
                refine' jss_one ?zbmn0
                case zbmn0 =>
                 refine' js_append (K := K) 3 ?zbmo0
                 case zbmo0 =>
                  refine' je_tup ?zbmp0
                  case zbmp0 =>
                   refine' ja_cons ?zbmq0 ?zbmq1
                   case zbmq0 =>
                    exact je_var 9
                   case zbmq1 =>
                    refine' ja_cons ?zbmr0 ?zbmr1
                    case zbmr0 =>
                     refine' je_add (K := K) ?zbms0 ?zbms1
                     case zbms0 =>
                      exact jr_var 5
                     case zbms1 =>
                      refine' jr_of ?zbmt0
                      case zbmt0 =>
                       refine' je_of ?zbmu0
                       case zbmu0 =>
                        refine' jf_lst ?zbmv0
                        case zbmv0 =>
                         refine' ja_cons ?zbmw0 ?zbmw1
                         case zbmw0 =>
                          refine' je_tup ?zbmx0
                          case zbmx0 =>
                           refine' ja_cons ?zbmy0 ?zbmy1
                           case zbmy0 =>
                            exact je_var 4
                           case zbmy1 =>
                            refine' ja_cons ?zbmz0 ?zbmz1
                            case zbmz0 =>
                             exact je_var 7
                            case zbmz1 =>
                             exact ja_nil
                         case zbmw1 =>
                          exact ja_nil
                    case zbmr1 =>
                     exact ja_nil
               case zbmc2 =>
                exact jss_nil
     case zbkj1 =>
      refine' jss_one ?zbna0
      case zbna0 =>
       refine' js_ret ?zbnb0
       case zbnb0 =>
        exact je_var 2
theorem sc_rings_of : FnScope ["rows", "found", "first", "ring"] ["rows"] (defScope s_rings_of) := ⟨rfl, rfl, rfl, by decide +kernel, rfl, by decide +kernel, by decide +kernel⟩
theorem ok_rings_of {P : Program} {w : World} {K : PySem.W.Frag} {mg : Str → Option Value} {base : Heap} {C : Str → Addr} (nm : Nm K mg C) (h : HasF K mg "rings_of" s_rings_of ["rows"]) (D_rings_from : DefV P w K mg base CX0 C "rings_from" ["rows", "first"] 2 g_rings_from) : DefV P w K mg base CX0 C "rings_of" ["rows"] 3 g_rings_of := by
  have nd := sc_rings_of.nd
  refine' def_v0 (k := 2) (N := ["rows", "found", "first", "ring"]) h sc_rings_of ?hb
  intro f cdv A outer s H E hr
  refine' ⟨_, ?hc⟩
  case hc =>
    intro B EX
    refine' jss_cons ?zbnc0 ?zbnc1
    case zbnc0 =>
     refine' js_set 1 nd ?zbnd0
     case zbnd0 =>
      refine' je_of ?zbne0
      case zbne0 =>
       refine' jf_lst ?zbnf0
       case zbnf0 =>
        exact ja_nil
    case zbnc1 =>
     refine' jss_cons ?zbng0 ?zbng1
     case zbng0 =>
      refine' js_for PassesOwn.never ?zbnh0 ?zbnh1 ?zbnh2
      case zbnh0 =>
       refine' ji_rng1 nm.range ?zbni0
       case zbni0 =>
        refine' ja_cons ?zbnj0 ?zbnj1
        case zbnj0 =>
         refine' je_cb (cK_len (K := K) rfl) okK_len PySem.boot_len nm.len ?zbnk0
         case zbnk0 =>
          refine' jar_cons ?zbnl0 ?zbnl1
          case zbnl0 =>
           exact jr_var 0
          case zbnl1 =>
           exact jar_nil
        case zbnj1 =>
         exact ja_nil
      case zbnh1 =>
       exact jg_name 2 nd
      case zbnh2 =>
       refine' jss_one ?zbnm0
       case zbnm0 =>
        refine' js_set 1 nd ?zbnn0
        case zbnn0 =>
         refine' je_add (K := K) ?zbno0 ?zbno1
         case zbno0 =>
          exact jr_var 1
         case zbno1 =>
          refine' jr_of ?zbnp0
          case zbnp0 =>
           refine' je_of ?zbnq0
           case zbnq0 =>
            refine' jf_lc (own := [("ring", 3)]) (L := [3]) nd (blkOk_by (by kernel_rfl)) ?zbnr0 ?zbnr1 ?zbnr2 ?zbnr3
            case zbnr0 =>
             refine' ji_seq (K := K) ?zbns0
             case zbns0 =>
              refine' je_call0 D_rings_from hr ?zbnt0
              case zbnt0 =>
               refine' ja_cons ?zbnu0 ?zbnu1
               case zbnu0 =>
                exact je_var 0
               case zbnu1 =>
                refine' ja_cons ?zbnv0 ?zbnv1
                case zbnv0 =>
                 exact je_var 2
                case zbnv1 =>
                 exact ja_nil
            case zbnr1 =>
             intro _ _ _ _ _
             exact jg_name 3 nd
            case zbnr2 =>
             intro _ _ _ _ _
             exact jbs_nil
            case zbnr3 =>
             intro _ _ _ _ _
             refine' je_ct (cK_tuple (K := K) rfl) okK_tuple PyProof.Rows.boot_tuple nm.tuple ?zbnw0
             case zbnw0 =>
              refine' jar_cons ?zbnx0 ?zbnx1
              case zbnx0 =>
               exact jr_var 3
              case zbnx1 =>
               exact jar_nil
     case zbng1 =>
      refine' jss_one ?zbny0
      case zbny0 =>
       refine' js_ret ?zbnz0
       case zbnz0 =>
        refine' je_of ?zboa0
        case zboa0 =>
         refine' jf_cb (cK_sort (K := K) rfl hr.units) okF_sort PyProof.Rows.boot_sorted nm.sorted ?zbob0
         case zbob0 =>
          refine' jar_cons ?zboc0 ?zboc1
          case zboc0 =>
           exact jr_var 1
          case zboc1 =>
           exact jar_nil
theorem sc_measure : FnScope ["rows", "ring", "arcs", "event", "place", "arc"] ["rows", "ring"] (defScope s_measure) := ⟨rfl, rfl, rfl, by decide +kernel, rfl, by decide +kernel, by decide +kernel⟩
theorem ok_measure {P : Program} {w : World} {K : PySem.W.Frag} {mg : Str → Option Value} {base : Heap} {C : Str → Addr} (nm : Nm K mg C) (h : HasF K mg "measure" s_measure ["rows", "ring"]) : DefV P w K mg base CX0 C "measure" ["rows", "ring"] 1 g_measure := by
  have nd := sc_measure.nd
  refine' def_v0 (k := 0) (N := ["rows", "ring", "arcs", "event", "place", "arc"]) h sc_measure ?hb
  intro f cdv A outer s H E hr
  refine' ⟨_, ?hc⟩
  case hc =>
    intro B EX
    refine' jss_cons ?zbod0 ?zbod1
    case zbod0 =>
     refine' js_setLc 2 (own := [("event", 3), ("place", 4)]) (L := ([3] ++ ([4] ++ []))) nd (blkOk_by (by kernel_rfl)) ?zboe0 ?zboe1 ?zboe2 ?zboe3 (sw_true rfl rfl rfl (by kernel_rfl))
     case zboe0 =>
      refine' ji_seq (K := K) ?zbof0
      case zbof0 =>
       exact je_var 1
     case zboe1 =>
      intro _ _ _ _ _
      refine' jg_tup (K := K) ?zbog0
      case zbog0 =>
       refine' jgs_cons ?zboh0 ?zboh1
       case zboh0 =>
        exact jg_name 3 nd
       case zboh1 =>
        refine' jgs_cons ?zboi0 ?zboi1
        case zboi0 =>
         exact jg_name 4 nd
        case zboi1 =>
         exact jgs_nil
     case zboe2 =>
      intro _ _ _ _ _
      exact jbs_nil
     case zboe3 =>
      intro _ _ _ _ _
      refine' je_ix (K := K) ?zboj0 ?zboj1
      case zboj0 =>
       refine' jr_of ?zbok0
       case zbok0 =>
        refine' je_ix (K := K) ?zbol0 ?zbol1
        case zbol0 =>
         exact jr_var 0
        case zbol1 =>
         exact jr_var 3
      case zboj1 =>
       exact jr_var 4
    case zbod1 =>
     refine' jss_one ?zbom0
     case zbom0 =>
      refine' js_ret ?zbon0
      case zbon0 =>
       refine' je_tup ?zboo0
       case zboo0 =>
        refine' ja_cons ?zbop0 ?zbop1
        case zbop0 =>
         refine' je_cb (cK_sum (K := K) rfl rfl) ok_sum PyProof.Rows.boot_sum nm.sum ?zboq0
         case zboq0 =>
          refine' jar_cons ?zbor0 ?zbor1
          case zbor0 =>
           refine' jr_of ?zbos0
           case zbos0 =>
            refine' je_of ?zbot0
            case zbot0 =>
             refine' jf_lc (own := [("arc", 5)]) (L := [5]) nd (blkOk_by (by kernel_rfl)) ?zbou0 ?zbou1 ?zbou2 ?zbou3
             case zbou0 =>
              refine' ji_seq (K := K) ?zbov0
              case zbov0 =>
               exact je_var 2
             case zbou1 =>
              intro _ _ _ _ _
              exact jg_name 5 nd
             case zbou2 =>
              intro _ _ _ _ _
              exact jbs_nil
             case zbou3 =>
              intro _ _ _ _ _
              refine' je_ix (K := K) ?zbow0 ?zbow1
              case zbow0 =>
               exact jr_var 5
              case zbow1 =>
               refine' jr_of ?zbox0
               case zbox0 =>
                exact je_int
          case zbor1 =>
           exact jar_nil
        case zbop1 =>
         refine' ja_cons ?zboy0 ?zboy1
         case zboy0 =>
          refine' je_cb (cK_sum (K := K) rfl rfl) ok_sum PyProof.Rows.boot_sum nm.sum ?zboz0
          case zboz0 =>
           refine' jar_cons ?zbpa0 ?zbpa1
           case zbpa0 =>
            refine' jr_of ?zbpb0
            case zbpb0 =>
             refine' je_of ?zbpc0
             case zbpc0 =>
              refine' jf_lc (own := [("arc", 5)]) (L := [5]) nd (blkOk_by (by kernel_rfl)) ?zbpd0 ?zbpd1 ?zbpd2 ?zbpd3
              case zbpd0 =>
               refine' ji_seq (K := K) ?zbpe0
               case zbpe0 =>
                exact je_var 2
              case zbpd1 =>
               intro _ _ _ _ _
               exact jg_name 5 nd
              case zbpd2 =>
               intro _ _ _ _ _
               exact jbs_nil
              case zbpd3 =>
               intro _ _ _ _ _
               refine' je_ix (K := K) ?zbpf0 ?zbpf1
               case zbpf0 =>
                exact jr_var 5
               case zbpf1 =>
                refine' jr_of ?zbpg0
                case zbpg0 =>
                 exact je_int
           case zbpa1 =>
            exact jar_nil
         case zboy1 =>
          exact ja_nil
theorem sc_ratio : FnScope ["rows", "ring", "delay", "back"] ["rows", "ring"] (defScope s_ratio) := ⟨rfl, rfl, rfl, by decide +kernel, rfl, by decide +kernel, by decide +kernel⟩
theorem ok_ratio {P : Program} {w : World} {K : PySem.W.Frag} {mg : Str → Option Value} {base : Heap} {C : Str → Addr} (nm : Nm K mg C) (h : HasF K mg "ratio" s_ratio ["rows", "ring"]) (D_measure : DefV P w K mg base CX0 C "measure" ["rows", "ring"] 1 g_measure) (D_lowest : DefV P w K mg base CX0 C "lowest" ["top", "bottom"] 2 g_lowest) : DefV P w K mg base CX0 C "ratio" ["rows", "ring"] 3 g_ratio := by
  have nd := sc_ratio.nd
  refine' def_v0 (k := 2) (N := ["rows", "ring", "delay", "back"]) h sc_ratio ?hb
  intro f cdv A outer s H E hr
  refine' ⟨_, ?hc⟩
  case hc =>
    intro B EX
    refine' jss_cons ?zbph0 ?zbph1
    case zbph0 =>
     refine' js_asg ?zbpi0 ?zbpi1
     case zbpi0 =>
      refine' je_call0 D_measure hr ?zbpj0
      case zbpj0 =>
       refine' ja_cons ?zbpk0 ?zbpk1
       case zbpk0 =>
        exact je_var 0
       case zbpk1 =>
        refine' ja_cons ?zbpl0 ?zbpl1
        case zbpl0 =>
         exact je_var 1
        case zbpl1 =>
         exact ja_nil
     case zbpi1 =>
      refine' jg_tup (K := K) ?zbpm0
      case zbpm0 =>
       refine' jgs_cons ?zbpn0 ?zbpn1
       case zbpn0 =>
        exact jg_name 2 nd
       case zbpn1 =>
        refine' jgs_cons ?zbpo0 ?zbpo1
        case zbpo0 =>
         exact jg_name 3 nd
        case zbpo1 =>
         exact jgs_nil
    case zbph1 =>
     refine' jss_one ?zbpp0
     case zbpp0 =>
      refine' js_ret ?zbpq0
      case zbpq0 =>
       refine' je_call0 D_lowest hr ?zbpr0
       case zbpr0 =>
        refine' ja_cons ?zbps0 ?zbps1
        case zbps0 =>
         exact je_var 2
        case zbps1 =>
         refine' ja_cons ?zbpt0 ?zbpt1
         case zbpt0 =>
          exact je_var 3
         case zbpt1 =>
          exact ja_nil
theorem sc_slowest_of : FnScope ["rows", "ring"] ["rows"] (defScope s_slowest_of) := ⟨rfl, rfl, rfl, by decide +kernel, rfl, by decide +kernel, by decide +kernel⟩
theorem ok_slowest_of {P : Program} {w : World} {K : PySem.W.Frag} {mg : Str → Option Value} {base : Heap} {C : Str → Addr} (nm : Nm K mg C) (h : HasF K mg "slowest_of" s_slowest_of ["rows"]) (D_greatest : DefV P w K mg base CX0 C "greatest" ["fractions"] 2 g_greatest) (D_rings_of : DefV P w K mg base CX0 C "rings_of" ["rows"] 3 g_rings_of) (D_ratio : DefV P w K mg base CX0 C "ratio" ["rows", "ring"] 3 g_ratio) : DefV P w K mg base CX0 C "slowest_of" ["rows"] 4 g_slowest_of := by
  have nd := sc_slowest_of.nd
  refine' def_v0 (k := 3) (N := ["rows", "ring"]) h sc_slowest_of ?hb
  intro f cdv A outer s H E hr
  refine' ⟨_, ?hc⟩
  case hc =>
    intro B EX
    refine' jss_one ?zbpu0
    case zbpu0 =>
     refine' js_ret ?zbpv0
     case zbpv0 =>
      refine' je_call0 D_greatest hr ?zbpw0
      case zbpw0 =>
       refine' ja_cons ?zbpx0 ?zbpx1
       case zbpx0 =>
        refine' je_of ?zbpy0
        case zbpy0 =>
         refine' jf_lc (own := [("ring", 1)]) (L := [1]) nd (blkOk_by (by kernel_rfl)) ?zbpz0 ?zbpz1 ?zbpz2 ?zbpz3
         case zbpz0 =>
          refine' ji_seq (K := K) ?zbqa0
          case zbqa0 =>
           refine' je_call0 D_rings_of hr ?zbqb0
           case zbqb0 =>
            refine' ja_cons ?zbqc0 ?zbqc1
            case zbqc0 =>
             exact je_var 0
            case zbqc1 =>
             exact ja_nil
         case zbpz1 =>
          intro _ _ _ _ _
          exact jg_name 1 nd
         case zbpz2 =>
          intro _ _ _ _ _
          exact jbs_nil
         case zbpz3 =>
          intro _ _ _ _ _
          refine' je_call0 D_ratio hr ?zbqd0
          case zbqd0 =>
           refine' ja_cons ?zbqe0 ?zbqe1
           case zbqe0 =>
            exact je_var 0
           case zbqe1 =>
            refine' ja_cons ?zbqf0 ?zbqf1
            case zbqf0 =>
             exact je_var 1
            case zbqf1 =>
             exact ja_nil
       case zbpx1 =>
        exact ja_nil
theorem sc_with_rooms : FnScope ["rows", "stores", "rooms", "found", "at", "giver", "taker"] ["rows", "stores", "rooms"] (defScope s_with_rooms) := ⟨rfl, rfl, rfl, by decide +kernel, rfl, by decide +kernel, by decide +kernel⟩
theorem ok_with_rooms {P : Program} {w : World} {K : PySem.W.Frag} {mg : Str → Option Value} {base : Heap} {C : Str → Addr} (nm : Nm K mg C) (h : HasF K mg "with_rooms" s_with_rooms ["rows", "stores", "rooms"]) : DefV P w K mg base CX0 C "with_rooms" ["rows", "stores", "rooms"] 1 g_with_rooms := by
  have nd := sc_with_rooms.nd
  refine' def_v0 (k := 0) (N := ["rows", "stores", "rooms", "found", "at", "giver", "taker"]) h sc_with_rooms ?hb
  intro f cdv A outer s H E hr
  refine' ⟨_, ?hc⟩
  case hc =>
    intro B EX
    refine' jss_cons ?zbqg0 ?zbqg1
    case zbqg0 =>
     refine' js_own 3 nd ?zbqh0
     case zbqh0 =>
      refine' jf_ct (cK_list (K := K) rfl) okK_list PyProof.Rows.boot_list nm.list ?zbqi0
      case zbqi0 =>
       refine' jar_cons ?zbqj0 ?zbqj1
       case zbqj0 =>
        exact jr_var 0
       case zbqj1 =>
        exact jar_nil
    case zbqg1 =>
     refine' jss_cons ?zbqk0 ?zbqk1
     case zbqk0 =>
      refine' js_for PassesOwn.never ?zbql0 ?zbql1 ?zbql2
      case zbql0 =>
       refine' ji_enum (K := K) nm.enumerate ?zbqm0
       case zbqm0 =>
        refine' ja_cons ?zbqn0 ?zbqn1
        case zbqn0 =>
         exact je_var 1
        case zbqn1 =>
         exact ja_nil
      case zbql1 =>
       refine' jg_tup (K := K) ?zbqo0
       case zbqo0 =>
        refine' jgs_cons ?zbqp0 ?zbqp1
        case zbqp0 =>
         exact jg_name 4 nd
        case zbqp1 =>
         refine' jgs_cons ?zbqq0 ?zbqq1
         case zbqq0 =>
          refine' jg_tup (K := K) ?zbqr0
          case zbqr0 =>
           refine' jgs_cons ?zbqs0 ?zbqs1
           case zbqs0 =>
            exact jg_name 5 nd
           case zbqs1 =>
            refine' jgs_cons ?zbqt0 ?zbqt1
            case zbqt0 =>
             exact jg_name 6 nd
            case zbqt1 =>
             exact jgs_nil
         case zbqq1 =>
          exact jgs_nil
      case zbql2 =>
       refine' jss_one ?zbqu0
       case zbqu0 =>
        refine' js_setitem 3 ?zbqv0 ?zbqv1
        case zbqv0 =>
         refine' je_add (K := K) ?zbqw0 ?zbqw1
         case zbqw0 =>
          refine' jr_of ?zbqx0
          case zbqx0 =>
           refine' je_ix (K := K) ?zbqy0 ?zbqy1
           case zbqy0 =>
            exact jr_var 3
           case zbqy1 =>
            exact jr_var 5
         case zbqw1 =>
          refine' jr_of ?zbqz0
          case zbqz0 =>
           refine' je_tup ?zbra0
           case zbra0 =>
            refine' ja_cons ?zbrb0 ?zbrb1
            case zbrb0 =>
             refine' je_tup ?zbrc0
             case zbrc0 =>
              refine' ja_cons ?zbrd0 ?zbrd1
              case zbrd0 =>
               refine' je_add (K := K) ?zbre0 ?zbre1
               case zbre0 =>
                refine' jr_of ?zbrf0
                case zbrf0 =>
                 exact je_str
               case zbre1 =>
                refine' jr_of ?zbrg0
                case zbrg0 =>
                 refine' je_ct call_str_int ok_str PyProof.Rows.boot_str nm.str ?zbrh0
                 case zbrh0 =>
                  refine' jar_cons ?zbri0 ?zbri1
                  case zbri0 =>
                   exact jr_var 6
                  case zbri1 =>
                   exact jar_nil
              case zbrd1 =>
               refine' ja_cons ?zbrj0 ?zbrj1
               case zbrj0 =>
                exact je_int
               case zbrj1 =>
                refine' ja_cons ?zbrk0 ?zbrk1
                case zbrk0 =>
                 refine' je_ix (K := K) ?zbrl0 ?zbrl1
                 case zbrl0 =>
                  exact jr_var 2
                 case zbrl1 =>
                  exact jr_var 4
                case zbrk1 =>
                 exact ja_nil
            case zbrb1 =>
             exact ja_nil
        case zbqv1 =>
         exact je_var 5
     case zbqk1 =>
      refine' jss_one ?zbrm0
      case zbrm0 =>
       refine' js_ret ?zbrn0
       case zbrn0 =>
        refine' je_ct (cK_tuple (K := K) rfl) okK_tuple PyProof.Rows.boot_tuple nm.tuple ?zbro0
        case zbro0 =>
         refine' jar_cons ?zbrp0 ?zbrp1
         case zbrp0 =>
          exact jr_var 3
         case zbrp1 =>
          exact jar_nil
theorem sc_keeps : FnScope ["rows", "stores", "rooms", "pace", "most"] ["rows", "stores", "rooms", "pace"] (defScope s_keeps) := ⟨rfl, rfl, rfl, by decide +kernel, rfl, by decide +kernel, by decide +kernel⟩
theorem ok_keeps {P : Program} {w : World} {K : PySem.W.Frag} {mg : Str → Option Value} {base : Heap} {C : Str → Addr} (nm : Nm K mg C) (h : HasF K mg "keeps" s_keeps ["rows", "stores", "rooms", "pace"]) (D_slowest_of : DefV P w K mg base CX0 C "slowest_of" ["rows"] 4 g_slowest_of) (D_with_rooms : DefV P w K mg base CX0 C "with_rooms" ["rows", "stores", "rooms"] 1 g_with_rooms) (D_is_less : DefV P w K mg base CX0 C "is_less" ["one", "other"] 1 g_is_less) : DefV P w K mg base CX0 C "keeps" ["rows", "stores", "rooms", "pace"] 5 g_keeps := by
  have nd := sc_keeps.nd
  refine' def_v0 (k := 4) (N := ["rows", "stores", "rooms", "pace", "most"]) h sc_keeps ?hb
  intro f cdv A outer s H E hr
  refine' ⟨_, ?hc⟩
  case hc =>
    intro B EX
    refine' jss_cons ?zbrq0 ?zbrq1
    case zbrq0 =>
     refine' js_set 4 nd ?zbrr0
     case zbrr0 =>
      refine' je_call0 D_slowest_of hr ?zbrs0
      case zbrs0 =>
       refine' ja_cons ?zbrt0 ?zbrt1
       case zbrt0 =>
        refine' je_call0 D_with_rooms hr ?zbru0
        case zbru0 =>
         refine' ja_cons ?zbrv0 ?zbrv1
         case zbrv0 =>
          exact je_var 0
         case zbrv1 =>
          refine' ja_cons ?zbrw0 ?zbrw1
          case zbrw0 =>
           exact je_var 1
          case zbrw1 =>
           refine' ja_cons ?zbrx0 ?zbrx1
           case zbrx0 =>
            exact je_var 2
           case zbrx1 =>
            exact ja_nil
       case zbrt1 =>
        exact ja_nil
    case zbrq1 =>
     refine' jss_one ?zbry0
     case zbry0 =>
      refine' js_ret ?zbrz0
      case zbrz0 =>
       refine' je_or ?zbsa0 ?zbsa1
       case zbsa0 =>
        refine' je_is ?zbsb0 ?zbsb1
        case zbsb0 =>
         exact jr_var 4
        case zbsb1 =>
         refine' jr_of ?zbsc0
         case zbsc0 =>
          exact je_non
       case zbsa1 =>
        refine' je_one ?zbsd0
        case zbsd0 =>
         refine' je_not ?zbse0
         case zbse0 =>
          refine' je_call0 D_is_less hr ?zbsf0
          case zbsf0 =>
           refine' ja_cons ?zbsg0 ?zbsg1
           case zbsg0 =>
            exact je_var 3
           case zbsg1 =>
            refine' ja_cons ?zbsh0 ?zbsh1
            case zbsh0 =>
             exact je_var 4
            case zbsh1 =>
             exact ja_nil
theorem sc_least_rooms : FnScope ["net", "stores", "pace", "good", "found", "rooms", "lesser", "one", "at", "a"] ["net", "stores", "pace"] (defScope s_least_rooms) := ⟨rfl, rfl, rfl, by decide +kernel, rfl, by decide +kernel, by decide +kernel⟩
theorem ok_least_rooms {P : Program} {w : World} {K : PySem.W.Frag} {mg : Str → Option Value} {base : Heap} {C : Str → Addr} (nm : Nm K mg C) (h : HasF K mg "least_rooms" s_least_rooms ["net", "stores", "pace"]) (D_need_stores : DefV P w K mg base (L2N.CX P w) C "need_stores" ["net", "stores"] 7 g_need_stores) (D_is_pace : DefV P w K mg base CX0 C "is_pace" ["value"] 3 g_is_pace) (D_all_rooms : DefV P w K mg base CX0 C "all_rooms" ["many"] 1 g_all_rooms) (D_keeps : DefV P w K mg base CX0 C "keeps" ["rows", "stores", "rooms", "pace"] 5 g_keeps) : DefV P w K mg base (L2N.CX P w) C "least_rooms" ["net", "stores", "pace"] 8 g_least_rooms := by
  have nd := sc_least_rooms.nd
  refine' def_vX (k := 7) (N := ["net", "stores", "pace", "good", "found", "rooms", "lesser", "one", "at", "a"]) h sc_least_rooms ?hb
  intro f cdv A outer s H E hr
  refine' ⟨_, ?hc⟩
  case hc =>
    intro B
    refine' jss_cons ?zbsi0 ?zbsi1
    case zbsi0 =>
     refine' js_expr ?zbsj0
     case zbsj0 =>
      refine' je_call D_need_stores hr ?zbsk0
      case zbsk0 =>
       refine' ja_cons ?zbsl0 ?zbsl1
       case zbsl0 =>
        exact je_var 0
       case zbsl1 =>
        refine' ja_cons ?zbsm0 ?zbsm1
        case zbsm0 =>
         exact je_var 1
        case zbsm1 =>
         exact ja_nil
    case zbsi1 =>
     refine' jss_cons ?zbsn0 ?zbsn1
     case zbsn0 =>
      refine' js_if ?zbso0 ?zbso1 ?zbso2
      case zbso0 =>
       refine' jb_not ?zbsp0
       case zbsp0 =>
        refine' jb_val ?zbsq0
        case zbsq0 =>
         refine' je_call0 D_is_pace hr ?zbsr0
         case zbsr0 =>
          refine' ja_cons ?zbss0 ?zbss1
          case zbss0 =>
           exact je_var 2
          case zbss1 =>
           exact ja_nil
      case zbso1 =>
       refine' jss_one ?zbst0
       case zbst0 =>
        exact js_raise nm.X_InvalidNumber
      case zbso2 =>
       exact jss_nil
     case zbsn1 =>
      refine' jss_cons ?zbsu0 ?zbsu1
      case zbsu0 =>
       refine' js_setLc 3 (own := [("rooms", 5)]) (L := [5]) nd (blkOk_by (by kernel_rfl)) ?zbsv0 ?zbsv1 ?zbsv2 ?zbsv3 (sw_true rfl rfl rfl (by kernel_rfl))
       case zbsv0 =>
        refine' ji_seq (K := K) ?zbsw0
        case zbsw0 =>
         refine' je_call0 D_all_rooms hr ?zbsx0
         case zbsx0 =>
          refine' ja_cons ?zbsy0 ?zbsy1
          case zbsy0 =>
           refine' je_cb (cK_len (K := K) rfl) okK_len PySem.boot_len nm.len ?zbsz0
           case zbsz0 =>
            refine' jar_cons ?zbta0 ?zbta1
            case zbta0 =>
             exact jr_var 1
            case zbta1 =>
             exact jar_nil
          case zbsy1 =>
           exact ja_nil
       case zbsv1 =>
        intro _ _ _ _ _
        exact jg_name 5 nd
       case zbsv2 =>
        intro _ _ _ _ _
        refine' jbs_one ?zbtb0
        case zbtb0 =>
         refine' jb_val ?zbtc0
         case zbtc0 =>
          refine' je_call0 D_keeps hr ?zbtd0
          case zbtd0 =>
           refine' ja_cons ?zbte0 ?zbte1
           case zbte0 =>
            refine' je_ix (K := K) ?zbtf0 ?zbtf1
            case zbtf0 =>
             exact jr_var 0
            case zbtf1 =>
             refine' jr_of ?zbtg0
             case zbtg0 =>
              exact je_int
           case zbte1 =>
            refine' ja_cons ?zbth0 ?zbth1
            case zbth0 =>
             exact je_var 1
            case zbth1 =>
             refine' ja_cons ?zbti0 ?zbti1
             case zbti0 =>
              exact je_var 5
             case zbti1 =>
              refine' ja_cons ?zbtj0 ?zbtj1
              case zbtj0 =>
               exact je_var 2
              case zbtj1 =>
               exact ja_nil
       case zbsv3 =>
        intro _ _ _ _ _
        exact je_var 5
      case zbsu1 =>
       refine' jss_cons ?zbtk0 ?zbtk1
       case zbtk0 =>
        refine' js_own 4 nd ?zbtl0
        case zbtl0 =>
         refine' jf_lst ?zbtm0
         case zbtm0 =>
          exact ja_nil
       case zbtk1 =>
        refine' jss_cons ?zbtn0 ?zbtn1
        case zbtn0 =>
         refine' js_for pass_own ?zbto0 ?zbto1 ?zbto2
         case zbto0 =>
          refine' ji_seq (K := K) ?zbtp0
          case zbtp0 =>
           exact je_var 3
         case zbto1 =>
          exact jg_name 5 nd
         case zbto2 =>
          refine' jss_cons ?zbtq0 ?zbtq1
          case zbtq0 =>
           refine' js_setLc 6 (own := [("one", 7)]) (L := [7]) nd (blkOk_by (by kernel_rfl)) ?zbtr0 ?zbtr1 ?zbtr2 ?zbtr3 (sw_true rfl rfl rfl (by kernel_rfl))
           case zbtr0 =>
            refine' ji_seq (K := K) ?zbts0
            case zbts0 =>
             exact je_var 3
           case zbtr1 =>
            intro _ _ _ _ _
            exact jg_name 7 nd
           case zbtr2 =>
            intro _ _ _ _ _
            refine' jbs_one ?zbtt0
            case zbtt0 =>
             refine' jb_w ?zbtu0
             case zbtu0 =>
              refine' jw_and ?zbtv0 ?zbtv1
              case zbtv0 =>
               refine' jb_ne (K := K) hr.units ?zbtw0 ?zbtw1
               case zbtw0 =>
                exact jr_var 7
               case zbtw1 =>
                exact jr_var 5
              case zbtv1 =>
               refine' jw_and1 ?zbtx0
               case zbtx0 =>
                refine' jb_val ?zbty0
                case zbty0 =>
                 refine' je_cb (cK_all (K := K) rfl rfl) ok_all PyProof.Rows.boot_all nm.all ?zbtz0
                 case zbtz0 =>
                  refine' jar_cons ?zbua0 ?zbua1
                  case zbua0 =>
                   refine' jr_of ?zbub0
                   case zbub0 =>
                    refine' je_of ?zbuc0
                    case zbuc0 =>
                     refine' jf_lc (own := [("at", 8), ("a", 9)]) (L := ([8] ++ ([9] ++ []))) nd (blkOk_by (by kernel_rfl)) ?zbud0 ?zbud1 ?zbud2 ?zbud3
                     case zbud0 =>
                      refine' ji_enum (K := K) nm.enumerate ?zbue0
                      case zbue0 =>
                       refine' ja_cons ?zbuf0 ?zbuf1
                       case zbuf0 =>
                        exact je_var 7
                       case zbuf1 =>
                        exact ja_nil
                     case zbud1 =>
                      intro _ _ _ _ _
                      refine' jg_tup (K := K) ?zbug0
                      case zbug0 =>
                       refine' jgs_cons ?zbuh0 ?zbuh1
                       case zbuh0 =>
                        exact jg_name 8 nd
                       case zbuh1 =>
                        refine' jgs_cons ?zbui0 ?zbui1
                        case zbui0 =>
                         exact jg_name 9 nd
                        case zbui1 =>
                         exact jgs_nil
                     case zbud2 =>
                      intro _ _ _ _ _
                      exact jbs_nil
                     case zbud3 =>
                      intro _ _ _ _ _
                      refine' je_le ?zbuj0 ?zbuj1
                      case zbuj0 =>
                       exact jr_var 9
                      case zbuj1 =>
                       refine' jr_of ?zbuk0
                       case zbuk0 =>
                        refine' je_ix (K := K) ?zbul0 ?zbul1
                        case zbul0 =>
                         exact jr_var 5
                        case zbul1 =>
                         exact jr_var 8
                  case zbua1 =>
                   exact jar_nil
           case zbtr3 =>
            intro _ _ _ _ _
            exact je_var 7
          case zbtq1 =>
           refine' jss_one ?zbum0
           case zbum0 =>
            refine' js_if ?zbun0 ?zbun1 ?zbun2
            case zbun0 =>
             refine' jb_eq (K := K) hr.units ?zbuo0 ?zbuo1
             case zbuo0 =>
              exact jr_var 6
             case zbuo1 =>
              refine' jr_of ?zbup0
              case zbup0 =>
               refine' je_of ?zbuq0
               case zbuq0 =>
                refine' jf_lst ?zbur0
                case zbur0 =>
                 exact ja_nil
            case zbun1 =>
             refine' jss_one ?zbus0
             case zbus0 =>
              refine' js_append (K := K) 4 ?zbut0
              case zbut0 =>
               exact je_var 5
            case zbun2 =>
             exact jss_nil
        case zbtn1 =>
         refine' jss_one ?zbuu0
         case zbuu0 =>
          refine' js_ret ?zbuv0
          case zbuv0 =>
           refine' je_ct (cK_tuple (K := K) rfl) okK_tuple PyProof.Rows.boot_tuple nm.tuple ?zbuw0
           case zbuw0 =>
            refine' jar_cons ?zbux0 ?zbux1
            case zbux0 =>
             exact jr_var 4
            case zbux1 =>
             exact jar_nil
theorem sc__law_no_less : FnScope ["one", "other", "at", "room"] ["one", "other"] (defScope s__law_no_less) := ⟨rfl, rfl, rfl, by decide +kernel, rfl, by decide +kernel, by decide +kernel⟩
theorem ok__law_no_less {P : Program} {w : World} {K : PySem.W.Frag} {mg : Str → Option Value} {base : Heap} {C : Str → Addr} (nm : Nm K mg C) (h : HasF K mg "_law_no_less" s__law_no_less ["one", "other"]) : DefV P w K mg base CX0 C "_law_no_less" ["one", "other"] 1 g__law_no_less := by
  have nd := sc__law_no_less.nd
  refine' def_v0 (k := 0) (N := ["one", "other", "at", "room"]) h sc__law_no_less ?hb
  intro f cdv A outer s H E hr
  refine' ⟨_, ?hc⟩
  case hc =>
    intro B EX
    refine' jss_one ?zbuy0
    case zbuy0 =>
     refine' js_ret ?zbuz0
     case zbuz0 =>
      refine' je_cb (cK_all (K := K) rfl rfl) ok_all PyProof.Rows.boot_all nm.all ?zbva0
      case zbva0 =>
       refine' jar_cons ?zbvb0 ?zbvb1
       case zbvb0 =>
        refine' jr_of ?zbvc0
        case zbvc0 =>
         refine' je_of ?zbvd0
         case zbvd0 =>
          refine' jf_lc (own := [("at", 2), ("room", 3)]) (L := ([2] ++ ([3] ++ []))) nd (blkOk_by (by kernel_rfl)) ?zbve0 ?zbve1 ?zbve2 ?zbve3
          case zbve0 =>
           refine' ji_enum (K := K) nm.enumerate ?zbvf0
           case zbvf0 =>
            refine' ja_cons ?zbvg0 ?zbvg1
            case zbvg0 =>
             exact je_var 0
            case zbvg1 =>
             exact ja_nil
          case zbve1 =>
           intro _ _ _ _ _
           refine' jg_tup (K := K) ?zbvh0
           case zbvh0 =>
            refine' jgs_cons ?zbvi0 ?zbvi1
            case zbvi0 =>
             exact jg_name 2 nd
            case zbvi1 =>
             refine' jgs_cons ?zbvj0 ?zbvj1
             case zbvj0 =>
              exact jg_name 3 nd
             case zbvj1 =>
              exact jgs_nil
          case zbve2 =>
           intro _ _ _ _ _
           exact jbs_nil
          case zbve3 =>
           intro _ _ _ _ _
           refine' je_ge ?zbvk0 ?zbvk1
           case zbvk0 =>
            exact jr_var 3
           case zbvk1 =>
            refine' jr_of ?zbvl0
            case zbvl0 =>
             refine' je_ix (K := K) ?zbvm0 ?zbvm1
             case zbvm0 =>
              exact jr_var 1
             case zbvm1 =>
              exact jr_var 2
       case zbvb1 =>
        exact jar_nil
theorem sc_need_rooms : FnScope ["stores", "rooms", "one"] ["stores", "rooms"] (defScope s_need_rooms) := ⟨rfl, rfl, rfl, by decide +kernel, rfl, by decide +kernel, by decide +kernel⟩
theorem ok_need_rooms {P : Program} {w : World} {K : PySem.W.Frag} {mg : Str → Option Value} {base : Heap} {C : Str → Addr} (nm : Nm K mg C) (h : HasF K mg "need_rooms" s_need_rooms ["stores", "rooms"]) (D_is_whole : DefV P w K mg base CX0 C "is_whole" ["value", "low", "high"] 1 g_is_whole) : DefV P w K mg base (L2N.CX P w) C "need_rooms" ["stores", "rooms"] 2 g_need_rooms := by
  have nd := sc_need_rooms.nd
  refine' def_vX (k := 1) (N := ["stores", "rooms", "one"]) h sc_need_rooms ?hb
  intro f cdv A outer s H E hr
  refine' ⟨_, ?hc⟩
  case hc =>
    intro B
    refine' jss_cons ?zbvn0 ?zbvn1
    case zbvn0 =>
     refine' js_if ?zbvo0 ?zbvo1 ?zbvo2
     case zbvo0 =>
      refine' jb_w ?zbvp0
      case zbvp0 =>
       refine' jw_or ?zbvq0 ?zbvq1
       case zbvq0 =>
        refine' jb_not ?zbvr0
        case zbvr0 =>
         refine' jb_val ?zbvs0
         case zbvs0 =>
          refine' je_isi (K := K) tab_tuple PyProof.Rows.boot_tuple nm.tuple nm.isinstance ?zbvt0
          case zbvt0 =>
           exact jr_var 1
       case zbvq1 =>
        refine' jw_or1 ?zbvu0
        case zbvu0 =>
         refine' jb_ne (K := K) hr.units ?zbvv0 ?zbvv1
         case zbvv0 =>
          refine' jr_of ?zbvw0
          case zbvw0 =>
           refine' je_cb (cK_len (K := K) rfl) okK_len PySem.boot_len nm.len ?zbvx0
           case zbvx0 =>
            refine' jar_cons ?zbvy0 ?zbvy1
            case zbvy0 =>
             exact jr_var 1
            case zbvy1 =>
             exact jar_nil
         case zbvv1 =>
          refine' jr_of ?zbvz0
          case zbvz0 =>
           refine' je_cb (cK_len (K := K) rfl) okK_len PySem.boot_len nm.len ?zbwa0
           case zbwa0 =>
            refine' jar_cons ?zbwb0 ?zbwb1
            case zbwb0 =>
             exact jr_var 0
            case zbwb1 =>
             exact jar_nil
     case zbvo1 =>
      refine' jss_one ?zbwc0
      case zbwc0 =>
       exact js_raise nm.X_InvalidNumber
     case zbvo2 =>
      exact jss_nil
    case zbvn1 =>
     refine' jss_one ?zbwd0
     case zbwd0 =>
      refine' js_if ?zbwe0 ?zbwe1 ?zbwe2
      case zbwe0 =>
       refine' jb_not ?zbwf0
       case zbwf0 =>
        refine' jb_val ?zbwg0
        case zbwg0 =>
         refine' je_cb (cK_all (K := K) rfl rfl) ok_all PyProof.Rows.boot_all nm.all ?zbwh0
         case zbwh0 =>
          refine' jar_cons ?zbwi0 ?zbwi1
          case zbwi0 =>
           refine' jr_of ?zbwj0
           case zbwj0 =>
            refine' je_of ?zbwk0
            case zbwk0 =>
             refine' jf_lc (own := [("one", 2)]) (L := [2]) nd (blkOk_by (by kernel_rfl)) ?zbwl0 ?zbwl1 ?zbwl2 ?zbwl3
             case zbwl0 =>
              refine' ji_seq (K := K) ?zbwm0
              case zbwm0 =>
               exact je_var 1
             case zbwl1 =>
              intro _ _ _ _ _
              exact jg_name 2 nd
             case zbwl2 =>
              intro _ _ _ _ _
              exact jbs_nil
             case zbwl3 =>
              intro _ _ _ _ _
              refine' je_call0 D_is_whole hr ?zbwn0
              case zbwn0 =>
               refine' ja_cons ?zbwo0 ?zbwo1
               case zbwo0 =>
                exact je_var 2
               case zbwo1 =>
                refine' ja_cons ?zbwp0 ?zbwp1
                case zbwp0 =>
                 exact je_int
                case zbwp1 =>
                 refine' ja_cons ?zbwq0 ?zbwq1
                 case zbwq0 =>
                  exact je_gi nm.MOST_ROOMS
                 case zbwq1 =>
                  exact ja_nil
          case zbwi1 =>
           exact jar_nil
      case zbwe1 =>
       refine' jss_one ?zbwr0
       case zbwr0 =>
        exact js_raise nm.X_InvalidNumber
      case zbwe2 =>
       exact jss_nil
theorem sc_slowest_with : FnScope ["net", "stores", "rooms"] ["net", "stores", "rooms"] (defScope s_slowest_with) := ⟨rfl, rfl, rfl, by decide +kernel, rfl, by decide +kernel, by decide +kernel⟩
theorem ok_slowest_with {P : Program} {w : World} {K : PySem.W.Frag} {mg : Str → Option Value} {base : Heap} {C : Str → Addr} (nm : Nm K mg C) (h : HasF K mg "slowest_with" s_slowest_with ["net", "stores", "rooms"]) (D_need_stores : DefV P w K mg base (L2N.CX P w) C "need_stores" ["net", "stores"] 7 g_need_stores) (D_need_rooms : DefV P w K mg base (L2N.CX P w) C "need_rooms" ["stores", "rooms"] 2 g_need_rooms) (D_slowest_of : DefV P w K mg base CX0 C "slowest_of" ["rows"] 4 g_slowest_of) (D_with_rooms : DefV P w K mg base CX0 C "with_rooms" ["rows", "stores", "rooms"] 1 g_with_rooms) : DefV P w K mg base (L2N.CX P w) C "slowest_with" ["net", "stores", "rooms"] 8 g_slowest_with := by
  have nd := sc_slowest_with.nd
  refine' def_vX (k := 7) (N := ["net", "stores", "rooms"]) h sc_slowest_with ?hb
  intro f cdv A outer s H E hr
  refine' ⟨_, ?hc⟩
  case hc =>
    intro B
    refine' jss_cons ?zbws0 ?zbws1
    case zbws0 =>
     refine' js_expr ?zbwt0
     case zbwt0 =>
      refine' je_call D_need_stores hr ?zbwu0
      case zbwu0 =>
       refine' ja_cons ?zbwv0 ?zbwv1
       case zbwv0 =>
        exact je_var 0
       case zbwv1 =>
        refine' ja_cons ?zbww0 ?zbww1
        case zbww0 =>
         exact je_var 1
        case zbww1 =>
         exact ja_nil
    case zbws1 =>
     refine' jss_cons ?zbwx0 ?zbwx1
     case zbwx0 =>
      refine' js_expr ?zbwy0
      case zbwy0 =>
       refine' je_call D_need_rooms hr ?zbwz0
       case zbwz0 =>
        refine' ja_cons ?zbxa0 ?zbxa1
        case zbxa0 =>
         exact je_var 1
        case zbxa1 =>
         refine' ja_cons ?zbxb0 ?zbxb1
         case zbxb0 =>
          exact je_var 2
         case zbxb1 =>
          exact ja_nil
     case zbwx1 =>
      refine' jss_one ?zbxc0
      case zbxc0 =>
       refine' js_ret ?zbxd0
       case zbxd0 =>
        refine' je_call0 D_slowest_of hr ?zbxe0
        case zbxe0 =>
         refine' ja_cons ?zbxf0 ?zbxf1
         case zbxf0 =>
          refine' je_call0 D_with_rooms hr ?zbxg0
          case zbxg0 =>
           refine' ja_cons ?zbxh0 ?zbxh1
           case zbxh0 =>
            refine' je_ix (K := K) ?zbxi0 ?zbxi1
            case zbxi0 =>
             exact jr_var 0
            case zbxi1 =>
             refine' jr_of ?zbxj0
             case zbxj0 =>
              exact je_int
           case zbxh1 =>
            refine' ja_cons ?zbxk0 ?zbxk1
            case zbxk0 =>
             exact je_var 1
            case zbxk1 =>
             refine' ja_cons ?zbxl0 ?zbxl1
             case zbxl0 =>
              exact je_var 2
             case zbxl1 =>
              exact ja_nil
         case zbxf1 =>
          exact ja_nil
theorem sc_slowest : FnScope ["net"] ["net"] (defScope s_slowest) := ⟨rfl, rfl, rfl, by decide +kernel, rfl, by decide +kernel, by decide +kernel⟩
theorem ok_slowest {P : Program} {w : World} {K : PySem.W.Frag} {mg : Str → Option Value} {base : Heap} {C : Str → Addr} (nm : Nm K mg C) (h : HasF K mg "slowest" s_slowest ["net"]) (D_need_net : DefV P w K mg base (L2N.CX P w) C "need_net" ["net"] 6 g_need_net) (D_slowest_of : DefV P w K mg base CX0 C "slowest_of" ["rows"] 4 g_slowest_of) : DefV P w K mg base (L2N.CX P w) C "slowest" ["net"] 7 g_slowest := by
  have nd := sc_slowest.nd
  refine' def_vX (k := 6) (N := ["net"]) h sc_slowest ?hb
  intro f cdv A outer s H E hr
  refine' ⟨_, ?hc⟩
  case hc =>
    intro B
    refine' jss_cons ?zbxm0 ?zbxm1
    case zbxm0 =>
     refine' js_expr ?zbxn0
     case zbxn0 =>
      refine' je_call D_need_net hr ?zbxo0
      case zbxo0 =>
       refine' ja_cons ?zbxp0 ?zbxp1
       case zbxp0 =>
        exact je_var 0
       case zbxp1 =>
        exact ja_nil
    case zbxm1 =>
     refine' jss_one ?zbxq0
     case zbxq0 =>
      refine' js_ret ?zbxr0
      case zbxr0 =>
       refine' je_call0 D_slowest_of hr ?zbxs0
       case zbxs0 =>
        refine' ja_cons ?zbxt0 ?zbxt1
        case zbxt0 =>
         refine' je_ix (K := K) ?zbxu0 ?zbxu1
         case zbxu0 =>
          exact jr_var 0
         case zbxu1 =>
          refine' jr_of ?zbxv0
          case zbxv0 =>
           exact je_int
        case zbxt1 =>
         exact ja_nil
theorem sc__law_cell : FnScope ["script", "k"] ["script", "k"] (defScope s__law_cell) := ⟨rfl, rfl, rfl, by decide +kernel, rfl, by decide +kernel, by decide +kernel⟩
theorem sc__law_rounds : FnScope ["script", "most", "k"] ["script", "most"] (defScope s__law_rounds) := ⟨rfl, rfl, rfl, by decide +kernel, rfl, by decide +kernel, by decide +kernel⟩
theorem ok__law_cell {P : Program} {w : World} {K : PySem.W.Frag} {mg : Str → Option Value} {base : Heap} {C : Str → Addr} (nm : Nm K mg C) (h : HasF K mg "_law_cell" s__law_cell ["script", "k"]) : DefS P w K mg base CX0 "_law_cell" ["script", "k"] 1 (spCellS K) := by
  have nd := sc__law_cell.nd
  obtain ⟨f, fd, F, hm, hb⟩ := h
  refine ⟨f, fd, F.ok (k := 0) sc__law_cell (fun vs H Q E h => ?_) (fun cdv A outer s H vs Q E hr h => ⟨tCellS K, PSs.nox ?_, cell_run h⟩), hm, F.kp, hb⟩
  · obtain ⟨a, ns, k, rfl, _⟩ := h
    rfl
  · have j : ∀ B EX, ∃ ff, JSs (cxOf CX0 P w K mg base ["script", "k"] "_law_cell" (defScope s__law_cell) f cdv A outer s H E).nox B EX (defBody s__law_cell) (tCellS K) ff := fun B EX => ⟨_, jss_cons (js_if (jb_eq (K := K) hr.units (jr_var 0) (jr_of (je_of (jf_lst ja_nil)))) (jss_one (js_ret (je_mul (K := K) (jr_var 1) (jr_of je_int)))) jss_nil)
        (jss_one (js_ret (je_add (K := K) (jr_of (je_ix (K := K) (jr_var 0) (jr_of (je_mod (jr_var 1) (jr_of (je_cb (cK_len (K := K) rfl) okK_len PySem.boot_len nm.len (jar_cons (jr_var 0) jar_nil))))))) (jr_of (je_mul (K := K) (jr_of (je_fdiv (jr_var 1) (jr_of (je_cb (cK_len (K := K) rfl) okK_len PySem.boot_len nm.len (jar_cons (jr_var 0) jar_nil))))) (jr_of je_int))))))⟩
    obtain ⟨_, q⟩ := j ⟨H, H, [], [], []⟩ EX0
    exact q.p
theorem ok__law_rounds {P : Program} {w : World} {K : PySem.W.Frag} {mg : Str → Option Value} {base : Heap} {C : Str → Addr} (nm : Nm K mg C) (h : HasF K mg "_law_rounds" s__law_rounds ["script", "most"]) (D : DefS P w K mg base CX0 "_law_cell" ["script", "k"] 1 (spCellS K)) : DefS P w K mg base CX0 "_law_rounds" ["script", "most"] 2 (spRoundsS K) := by
  have nd := sc__law_rounds.nd
  obtain ⟨f, fd, F, hm, hb⟩ := h
  obtain ⟨f2, fd2, F2, hm2, hk2, hb2⟩ := D
  refine ⟨f, fd, F.ok (k := 1) sc__law_rounds (fun vs H Q E h => ?_) (fun cdv A outer s H vs Q E hr h => ⟨tRoundsS K, PSs.nox ?_, rounds_run h⟩), hm, F.kp, hb⟩
  · obtain ⟨a, ns, k, rfl, _⟩ := h
    rfl
  · refine pss_one (ps_ret (pe_lc (own := [("k", 2)]) rfl nd (pi_range1 rfl nm.range (pa_cons (pe_callB (call_max2 rfl) rfl nm.max PyProof.Rows.boot_max (pa_cons pe_int (pa_cons (pe_callB (call_min2 rfl) rfl nm.min PyProof.Rows.boot_min (pa_cons (pv 1) (pa_cons (pe_callB (cK_len (K := K) rfl) rfl nm.len PySem.boot_len (pa_cons (pv 0) pa_nil)) pa_nil))) pa_nil))) pa_nil)) (blkOk_by (by kernel_rfl)) (fun _ _ _ _ _ => ?_) (fun _ _ _ _ _ => ?_) (fun _ _ _ _ _ => ?_)))
    · exact pg_name (i := 2) nd rfl (by first | exact Or.inl rfl | exact Or.inr rfl)
    · exact pts_nil
    · exact pe_lst (pa_cons (pe_call F2 hr rfl hm2 hk2 hb2 .nil pass0 (pa_cons (pv 0) (pa_cons (pv 2) pa_nil))) (pa_cons pe_int pa_nil))
theorem sc_law : FnScope lawN ["script"] (defScope s_law) := ⟨rfl, rfl, rfl, by decide +kernel, rfl, by decide +kernel, by decide +kernel⟩
theorem ok_law {P : Program} {w : World} {K : PySem.W.Frag} {mg : Str → Option Value} {base : Heap} {C : Str → Addr} (nm : Nm K mg C) {f : Addr} {fd : FuncData} (F : FnP K "law" s_law f fd) (DR : DefS P w K mg base CX0 "_law_rounds" ["script", "most"] 2 (spRoundsS K)) (D__law_net : DefB P w K mg base CX0 C "_law_net" ["dice", "most", "inputs"] 4 (noEx c__law_net)) (D__law_roll : DefB P w K mg base CX0 C "_law_roll" ["dice", "many"] 2 (noEx c__law_roll)) (D_least_rooms : DefV P w K mg base (L2N.CX P w) C "least_rooms" ["net", "stores", "pace"] 8 g_least_rooms) (D__law_no_less : DefV P w K mg base CX0 C "_law_no_less" ["one", "other"] 1 g__law_no_less) (D_slowest_with : DefV P w K mg base (L2N.CX P w) C "slowest_with" ["net", "stores", "rooms"] 8 g_slowest_with) (D_slowest : DefV P w K mg base (L2N.CX P w) C "slowest" ["net"] 7 g_slowest) (rk : RoundOk lawN.length b_law) : FnOk P w K mg base (L2N.CX P w) 9 f fd ["script"] (spLawS K []) := by
  have nd := sc_law.nd
  obtain ⟨f2, fd2, F2, hm2, hk2, hb2⟩ := DR
  refine F.ok (k := 8) sc_law (fun vs H Q E h => ?_) (fun cdv A outer s H vs Q E hr h => ?_)
  · obtain ⟨a, ns, rfl, _⟩ := h
    rfl
  · have j : ∃ t, ∀ B : Bd, B.T = [] → JSs (cxOf (L2N.CX P w) P w K mg base lawN "law" (defScope s_law) f cdv A outer s H E) B (fun c H' => E (.ref (C c)) none H') (forBody (defBody s_law)) t b_law := by
      refine' ⟨_, ?hc⟩
      case hc =>
        intro B hBT
        refine' jss_cons ?zbxw0 ?zbxw1
        case zbxw0 =>
         refine' js_set 2 nd ?zbxx0
         case zbxx0 =>
          refine' je_callB0 1 D__law_net hr ?zbxy0
          case zbxy0 =>
           refine' ja_cons ?zbxz0 ?zbxz1
           case zbxz0 =>
            exact je_int
           case zbxz1 =>
            refine' ja_cons ?zbya0 ?zbya1
            case zbya0 =>
             exact je_int
            case zbya1 =>
             exact ja_nil
        case zbxw1 =>
         refine' jss_cons ?zbyb0 ?zbyb1
         case zbyb0 =>
          refine' js_set 3 nd ?zbyc0
          case zbyc0 =>
           refine' je_cb (cK_len (K := K) rfl) okK_len PySem.boot_len nm.len ?zbyd0
           case zbyd0 =>
            refine' jar_cons ?zbye0 ?zbye1
            case zbye0 =>
             refine' jr_of ?zbyf0
             case zbyf0 =>
              refine' je_ix (K := K) ?zbyg0 ?zbyg1
              case zbyg0 =>
               exact jr_var 2
              case zbyg1 =>
               refine' jr_of ?zbyh0
               case zbyh0 =>
                exact je_int
            case zbye1 =>
             exact jar_nil
         case zbyb1 =>
          refine' jss_cons ?zbyi0 ?zbyi1
          case zbyi0 =>
           refine' js_set 4 nd ?zbyj0
           case zbyj0 =>
            refine' je_tup ?zbyk0
            case zbyk0 =>
             refine' ja_cons ?zbyl0 ?zbyl1
             case zbyl0 =>
              refine' je_tup ?zbym0
              case zbym0 =>
               refine' ja_cons ?zbyn0 ?zbyn1
               case zbyn0 =>
                refine' je_callB0 1 D__law_roll hr ?zbyo0
                case zbyo0 =>
                 refine' ja_cons ?zbyp0 ?zbyp1
                 case zbyp0 =>
                  exact je_var 3
                 case zbyp1 =>
                  exact ja_nil
               case zbyn1 =>
                refine' ja_cons ?zbyq0 ?zbyq1
                case zbyq0 =>
                 refine' je_callB0 1 D__law_roll hr ?zbyr0
                 case zbyr0 =>
                  refine' ja_cons ?zbys0 ?zbys1
                  case zbys0 =>
                   exact je_var 3
                  case zbys1 =>
                   exact ja_nil
                case zbyq1 =>
                 exact ja_nil
             case zbyl1 =>
              refine' ja_cons ?zbyt0 ?zbyt1
              case zbyt0 =>
               refine' je_tup ?zbyu0
               case zbyu0 =>
                refine' ja_cons ?zbyv0 ?zbyv1
                case zbyv0 =>
                 refine' je_callB0 1 D__law_roll hr ?zbyw0
                 case zbyw0 =>
                  refine' ja_cons ?zbyx0 ?zbyx1
                  case zbyx0 =>
                   exact je_var 3
                  case zbyx1 =>
                   exact ja_nil
                case zbyv1 =>
                 refine' ja_cons ?zbyy0 ?zbyy1
                 case zbyy0 =>
                  refine' je_callB0 1 D__law_roll hr ?zbyz0
                  case zbyz0 =>
                   refine' ja_cons ?zbza0 ?zbza1
                   case zbza0 =>
                    exact je_var 3
                   case zbza1 =>
                    exact ja_nil
                 case zbyy1 =>
                  exact ja_nil
              case zbyt1 =>
               exact ja_nil
          case zbyi1 =>
           refine' jss_cons ?zbzb0 ?zbzb1
           case zbzb0 =>
            refine' js_set 5 nd ?zbzc0
            case zbzc0 =>
             refine' je_tup ?zbzd0
             case zbzd0 =>
              refine' ja_cons ?zbze0 ?zbze1
              case zbze0 =>
               refine' je_add (K := K) ?zbzf0 ?zbzf1
               case zbzf0 =>
                refine' jr_of ?zbzg0
                case zbzg0 =>
                 exact je_int
               case zbzf1 =>
                refine' jr_of ?zbzh0
                case zbzh0 =>
                 refine' je_callB0 1 D__law_roll hr ?zbzi0
                 case zbzi0 =>
                  refine' ja_cons ?zbzj0 ?zbzj1
                  case zbzj0 =>
                   exact je_int
                  case zbzj1 =>
                   exact ja_nil
              case zbze1 =>
               refine' ja_cons ?zbzk0 ?zbzk1
               case zbzk0 =>
                exact je_int
               case zbzk1 =>
                exact ja_nil
           case zbzb1 =>
            refine' jss_cons ?zbzl0 ?zbzl1
            case zbzl0 =>
             refine' js_set 6 nd ?zbzm0
             case zbzm0 =>
              refine' je_call D_least_rooms hr ?zbzn0
              case zbzn0 =>
               refine' ja_cons ?zbzo0 ?zbzo1
               case zbzo0 =>
                exact je_var 2
               case zbzo1 =>
                refine' ja_cons ?zbzp0 ?zbzp1
                case zbzp0 =>
                 exact je_var 4
                case zbzp1 =>
                 refine' ja_cons ?zbzq0 ?zbzq1
                 case zbzq0 =>
                  exact je_var 5
                 case zbzq1 =>
                  exact ja_nil
            case zbzl1 =>
             refine' jss_cons ?zbzr0 ?zbzr1
             case zbzr0 =>
              refine' js_if ?zbzs0 ?zbzs1 ?zbzs2
              case zbzs0 =>
               refine' jb_ne (K := K) hr.units ?zbzt0 ?zbzt1
               case zbzt0 =>
                refine' jr_of ?zbzu0
                case zbzu0 =>
                 refine' je_of ?zbzv0
                 case zbzv0 =>
                  refine' jf_ct (cK_list (K := K) rfl) okK_list PyProof.Rows.boot_list nm.list ?zbzw0
                  case zbzw0 =>
                   refine' jar_cons ?zbzx0 ?zbzx1
                   case zbzx0 =>
                    exact jr_var 6
                   case zbzx1 =>
                    exact jar_nil
               case zbzt1 =>
                refine' jr_of ?zbzy0
                case zbzy0 =>
                 refine' je_of ?zbzz0
                 case zbzz0 =>
                  refine' jf_ss (K := K) rfl rfl (by exact hr.units) nm.sorted nm.set ?zcaa0
                  case zcaa0 =>
                   refine' jar_cons ?zcab0 ?zcab1
                   case zcab0 =>
                    exact jr_var 6
                   case zcab1 =>
                    exact jar_nil
              case zbzs1 =>
               refine' jss_one ?zcac0
               case zcac0 =>
                refine' js_ret ?zcad0
                case zcad0 =>
                 exact je_bl
              case zbzs2 =>
               exact jss_nil
             case zbzr1 =>
              refine' jss_cons ?zcae0 ?zcae1
              case zcae0 =>
               refine' js_for pass_own ?zcaf0 ?zcaf1 ?zcaf2
               case zcaf0 =>
                refine' ji_seq (K := K) ?zcag0
                case zcag0 =>
                 exact je_var 6
               case zcaf1 =>
                exact jg_name 7 nd
               case zcaf2 =>
                refine' jss_one ?zcah0
                case zcah0 =>
                 refine' js_if ?zcai0 ?zcai1 ?zcai2
                 case zcai0 =>
                  refine' jb_val ?zcaj0
                  case zcaj0 =>
                   refine' je_cb (cK_any (K := K) rfl rfl) ok_any PyProof.Rows.boot_any nm.any ?zcak0
                   case zcak0 =>
                    refine' jar_cons ?zcal0 ?zcal1
                    case zcal0 =>
                     refine' jr_of ?zcam0
                     case zcam0 =>
                      refine' je_of ?zcan0
                      case zcan0 =>
                       refine' jf_lc (own := [("other", 13)]) (L := [13]) nd (blkOk_by (by kernel_rfl)) ?zcao0 ?zcao1 ?zcao2 ?zcao3
                       case zcao0 =>
                        refine' ji_seq (K := K) ?zcap0
                        case zcap0 =>
                         exact je_var 6
                       case zcao1 =>
                        intro _ _ _ _ _
                        exact jg_name 13 nd
                       case zcao2 =>
                        intro _ _ _ _ _
                        exact jbs_nil
                       case zcao3 =>
                        intro _ _ _ _ _
                        refine' je_and ?zcaq0 ?zcaq1
                        case zcaq0 =>
                         refine' je_ne (K := K) hr.units ?zcar0 ?zcar1
                         case zcar0 =>
                          exact jr_var 13
                         case zcar1 =>
                          exact jr_var 7
                        case zcaq1 =>
                         refine' je_one ?zcas0
                         case zcas0 =>
                          refine' je_call0 D__law_no_less hr ?zcat0
                          case zcat0 =>
                           refine' ja_cons ?zcau0 ?zcau1
                           case zcau0 =>
                            exact je_var 7
                           case zcau1 =>
                            refine' ja_cons ?zcav0 ?zcav1
                            case zcav0 =>
                             exact je_var 13
                            case zcav1 =>
                             exact ja_nil
                    case zcal1 =>
                     exact jar_nil
                 case zcai1 =>
                  refine' jss_one ?zcaw0
                  case zcaw0 =>
                   refine' js_ret ?zcax0
                   case zcax0 =>
                    exact je_bl
                 case zcai2 =>
                  exact jss_nil
              case zcae1 =>
               refine' jss_cons ?zcay0 ?zcay1
               case zcay0 =>
                refine' js_for pass_own ?zcaz0 ?zcaz1 ?zcaz2
                case zcaz0 =>
                 refine' ji_rng1 nm.range ?zcba0
                 case zcba0 =>
                  refine' ja_cons ?zcbb0 ?zcbb1
                  case zcbb0 =>
                   exact je_int
                  case zcbb1 =>
                   exact ja_nil
                case zcaz1 =>
                 exact jg_name 8 nd
                case zcaz2 =>
                 refine' jss_cons ?zcbc0 ?zcbc1
                 case zcbc0 =>
                  refine' js_set 10 nd ?zcbd0
                  case zcbd0 =>
                   refine' je_tup ?zcbe0
                   case zcbe0 =>
                    refine' ja_cons ?zcbf0 ?zcbf1
                    case zcbf0 =>
                     refine' je_add (K := K) ?zcbg0 ?zcbg1
                     case zcbg0 =>
                      refine' jr_of ?zcbh0
                      case zcbh0 =>
                       exact je_int
                     case zcbg1 =>
                      refine' jr_of ?zcbi0
                      case zcbi0 =>
                       refine' je_fdiv ?zcbj0 ?zcbj1
                       case zcbj0 =>
                        exact jr_var 8
                       case zcbj1 =>
                        refine' jr_of ?zcbk0
                        case zcbk0 =>
                         exact je_int
                    case zcbf1 =>
                     refine' ja_cons ?zcbl0 ?zcbl1
                     case zcbl0 =>
                      refine' je_add (K := K) ?zcbm0 ?zcbm1
                      case zcbm0 =>
                       refine' jr_of ?zcbn0
                       case zcbn0 =>
                        exact je_int
                      case zcbm1 =>
                       refine' jr_of ?zcbo0
                       case zcbo0 =>
                        refine' je_mod ?zcbp0 ?zcbp1
                        case zcbp0 =>
                         exact jr_var 8
                        case zcbp1 =>
                         refine' jr_of ?zcbq0
                         case zcbq0 =>
                          exact je_int
                     case zcbl1 =>
                      exact ja_nil
                 case zcbc1 =>
                  refine' jss_cons ?zcbr0 ?zcbr1
                  case zcbr0 =>
                   refine' js_set 11 nd ?zcbs0
                   case zcbs0 =>
                    refine' je_call D_slowest_with hr ?zcbt0
                    case zcbt0 =>
                     refine' ja_cons ?zcbu0 ?zcbu1
                     case zcbu0 =>
                      exact je_var 2
                     case zcbu1 =>
                      refine' ja_cons ?zcbv0 ?zcbv1
                      case zcbv0 =>
                       exact je_var 4
                      case zcbv1 =>
                       refine' ja_cons ?zcbw0 ?zcbw1
                       case zcbw0 =>
                        exact je_var 10
                       case zcbw1 =>
                        exact ja_nil
                  case zcbr1 =>
                   refine' jss_cons ?zcbx0 ?zcbx1
                   case zcbx0 =>
                    refine' js_set 12 nd ?zcby0
                    case zcby0 =>
                     refine' je_or ?zcbz0 ?zcbz1
                     case zcbz0 =>
                      refine' je_is ?zcca0 ?zcca1
                      case zcca0 =>
                       exact jr_var 11
                      case zcca1 =>
                       refine' jr_of ?zccb0
                       case zccb0 =>
                        exact je_non
                     case zcbz1 =>
                      refine' je_one ?zccc0
                      case zccc0 =>
                       refine' je_le ?zccd0 ?zccd1
                       case zccd0 =>
                        refine' jr_of ?zcce0
                        case zcce0 =>
                         refine' je_mul (K := K) ?zccf0 ?zccf1
                         case zccf0 =>
                          refine' jr_of ?zccg0
                          case zccg0 =>
                           refine' je_ix (K := K) ?zcch0 ?zcch1
                           case zcch0 =>
                            exact jr_var 11
                           case zcch1 =>
                            refine' jr_of ?zcci0
                            case zcci0 =>
                             exact je_int
                         case zccf1 =>
                          refine' jr_of ?zccj0
                          case zccj0 =>
                           refine' je_ix (K := K) ?zcck0 ?zcck1
                           case zcck0 =>
                            exact jr_var 5
                           case zcck1 =>
                            refine' jr_of ?zccl0
                            case zccl0 =>
                             exact je_int
                       case zccd1 =>
                        refine' jr_of ?zccm0
                        case zccm0 =>
                         refine' je_mul (K := K) ?zccn0 ?zccn1
                         case zccn0 =>
                          refine' jr_of ?zcco0
                          case zcco0 =>
                           refine' je_ix (K := K) ?zccp0 ?zccp1
                           case zccp0 =>
                            exact jr_var 5
                           case zccp1 =>
                            refine' jr_of ?zccq0
                            case zccq0 =>
                             exact je_int
                         case zccn1 =>
                          refine' jr_of ?zccr0
                          case zccr0 =>
                           refine' je_ix (K := K) ?zccs0 ?zccs1
                           case zccs0 =>
                            exact jr_var 11
                           case zccs1 =>
                            refine' jr_of ?zcct0
                            case zcct0 =>
                             exact je_int
                   case zcbx1 =>
                    refine' jss_one ?zccu0
                    case zccu0 =>
                     refine' js_if ?zccv0 ?zccv1 ?zccv2
                     case zccv0 =>
                      refine' jb_ne (K := K) hr.units ?zccw0 ?zccw1
                      case zccw0 =>
                       exact jr_var 12
                      case zccw1 =>
                       refine' jr_of ?zccx0
                       case zccx0 =>
                        refine' je_cb (cK_any (K := K) rfl rfl) ok_any PyProof.Rows.boot_any nm.any ?zccy0
                        case zccy0 =>
                         refine' jar_cons ?zccz0 ?zccz1
                         case zccz0 =>
                          refine' jr_of ?zcda0
                          case zcda0 =>
                           refine' je_of ?zcdb0
                           case zcdb0 =>
                            refine' jf_lc (own := [("one", 7)]) (L := [7]) nd (blkOk_by (by kernel_rfl)) ?zcdc0 ?zcdc1 ?zcdc2 ?zcdc3
                            case zcdc0 =>
                             refine' ji_seq (K := K) ?zcdd0
                             case zcdd0 =>
                              exact je_var 6
                            case zcdc1 =>
                             intro _ _ _ _ _
                             exact jg_name 7 nd
                            case zcdc2 =>
                             intro _ _ _ _ _
                             exact jbs_nil
                            case zcdc3 =>
                             intro _ _ _ _ _
                             refine' je_call0 D__law_no_less hr ?zcde0
                             case zcde0 =>
                              refine' ja_cons ?zcdf0 ?zcdf1
                              case zcdf0 =>
                               exact je_var 10
                              case zcdf1 =>
                               refine' ja_cons ?zcdg0 ?zcdg1
                               case zcdg0 =>
                                exact je_var 7
                               case zcdg1 =>
                                exact ja_nil
                         case zccz1 =>
                          exact jar_nil
                     case zccv1 =>
                      refine' jss_one ?zcdh0
                      case zcdh0 =>
                       refine' js_ret ?zcdi0
                       case zcdi0 =>
                        exact je_bl
                     case zccv2 =>
                      exact jss_nil
               case zcay1 =>
                refine' jss_cons ?zcdj0 ?zcdj1
                case zcdj0 =>
                 refine' js_if ?zcdk0 ?zcdk1 ?zcdk2
                 case zcdk0 =>
                  refine' jb_w ?zcdl0
                  case zcdl0 =>
                   refine' jw_and ?zcdm0 ?zcdm1
                   case zcdm0 =>
                    refine' jb_isnot ?zcdn0 ?zcdn1
                    case zcdn0 =>
                     refine' jr_of ?zcdo0
                     case zcdo0 =>
                      refine' je_call D_slowest hr ?zcdp0
                      case zcdp0 =>
                       refine' ja_cons ?zcdq0 ?zcdq1
                       case zcdq0 =>
                        exact je_var 2
                       case zcdq1 =>
                        exact ja_nil
                    case zcdn1 =>
                     refine' jr_of ?zcdr0
                     case zcdr0 =>
                      exact je_non
                   case zcdm1 =>
                    refine' jw_and ?zcds0 ?zcds1
                    case zcds0 =>
                     refine' jb_gt ?zcdt0 ?zcdt1
                     case zcdt0 =>
                      refine' jr_of ?zcdu0
                      case zcdu0 =>
                       refine' je_ix (K := K) ?zcdv0 ?zcdv1
                       case zcdv0 =>
                        refine' jr_of ?zcdw0
                        case zcdw0 =>
                         refine' je_call D_slowest hr ?zcdx0
                         case zcdx0 =>
                          refine' ja_cons ?zcdy0 ?zcdy1
                          case zcdy0 =>
                           exact je_var 2
                          case zcdy1 =>
                           exact ja_nil
                       case zcdv1 =>
                        refine' jr_of ?zcdz0
                        case zcdz0 =>
                         exact je_int
                     case zcdt1 =>
                      refine' jr_of ?zcea0
                      case zcea0 =>
                       refine' je_mul (K := K) ?zceb0 ?zceb1
                       case zceb0 =>
                        refine' jr_of ?zcec0
                        case zcec0 =>
                         refine' je_ix (K := K) ?zced0 ?zced1
                         case zced0 =>
                          exact jr_var 5
                         case zced1 =>
                          refine' jr_of ?zcee0
                          case zcee0 =>
                           exact je_int
                       case zceb1 =>
                        refine' jr_of ?zcef0
                        case zcef0 =>
                         refine' je_ix (K := K) ?zceg0 ?zceg1
                         case zceg0 =>
                          refine' jr_of ?zceh0
                          case zceh0 =>
                           refine' je_call D_slowest hr ?zcei0
                           case zcei0 =>
                            refine' ja_cons ?zcej0 ?zcej1
                            case zcej0 =>
                             exact je_var 2
                            case zcej1 =>
                             exact ja_nil
                         case zceg1 =>
                          refine' jr_of ?zcek0
                          case zcek0 =>
                           exact je_int
                    case zcds1 =>
                     refine' jw_and1 ?zcel0
                     case zcel0 =>
                      refine' jb_ne (K := K) hr.units ?zcem0 ?zcem1
                      case zcem0 =>
                       exact jr_var 6
                      case zcem1 =>
                       refine' jr_of ?zcen0
                       case zcen0 =>
                        refine' je_tup ?zceo0
                        case zceo0 =>
                         exact ja_nil
                 case zcdk1 =>
                  refine' jss_one ?zcep0
                  case zcep0 =>
                   refine' js_ret ?zceq0
                   case zceq0 =>
                    exact je_bl
                 case zcdk2 =>
                  exact jss_nil
                case zcdj1 =>
                 refine' jss_cons ?zcer0 ?zcer1
                 case zcer0 =>
                  refine' js_set 9 nd ?zces0
                  case zces0 =>
                   refine' je_call D_least_rooms hr ?zcet0
                   case zcet0 =>
                    refine' ja_cons ?zceu0 ?zceu1
                    case zceu0 =>
                     exact je_var 2
                    case zceu1 =>
                     refine' ja_cons ?zcev0 ?zcev1
                     case zcev0 =>
                      refine' je_sl (K := K) ?zcew0 ?zcew1 ?zcew2
                      case zcew0 =>
                       exact jr_var 4
                      case zcew1 =>
                       exact jo_none
                      case zcew2 =>
                       refine' jo_some ?zcex0
                       case zcex0 =>
                        exact je_int
                     case zcev1 =>
                      refine' ja_cons ?zcey0 ?zcey1
                      case zcey0 =>
                       exact je_var 5
                      case zcey1 =>
                       exact ja_nil
                 case zcer1 =>
                  refine' jss_one ?zcez0
                  case zcez0 =>
                   refine' js_if ?zcfa0 ?zcfa1 ?zcfa2
                   case zcfa0 =>
                    refine' jb_w ?zcfb0
                    case zcfb0 =>
                     refine' jw_or ?zcfc0 ?zcfc1
                     case zcfc0 =>
                      refine' jb_gt ?zcfd0 ?zcfd1
                      case zcfd0 =>
                       refine' jr_of ?zcfe0
                       case zcfe0 =>
                        refine' je_cb (cK_len (K := K) rfl) okK_len PySem.boot_len nm.len ?zcff0
                        case zcff0 =>
                         refine' jar_cons ?zcfg0 ?zcfg1
                         case zcfg0 =>
                          exact jr_var 9
                         case zcfg1 =>
                          exact jar_nil
                      case zcfd1 =>
                       refine' jr_of ?zcfh0
                       case zcfh0 =>
                        exact je_int
                     case zcfc1 =>
                      refine' jw_or1 ?zcfi0
                      case zcfi0 =>
                       refine' jb_w ?zcfj0
                       case zcfj0 =>
                        refine' jw_and ?zcfk0 ?zcfk1
                        case zcfk0 =>
                         refine' jb_ne (K := K) hr.units ?zcfl0 ?zcfl1
                         case zcfl0 =>
                          exact jr_var 6
                         case zcfl1 =>
                          refine' jr_of ?zcfm0
                          case zcfm0 =>
                           refine' je_tup ?zcfn0
                           case zcfn0 =>
                            exact ja_nil
                        case zcfk1 =>
                         refine' jw_and1 ?zcfo0
                         case zcfo0 =>
                          refine' jb_eq (K := K) hr.units ?zcfp0 ?zcfp1
                          case zcfp0 =>
                           exact jr_var 9
                          case zcfp1 =>
                           refine' jr_of ?zcfq0
                           case zcfq0 =>
                            refine' je_tup ?zcfr0
                            case zcfr0 =>
                             exact ja_nil
                   case zcfa1 =>
                    refine' jss_one ?zcfs0
                    case zcfs0 =>
                     refine' js_ret ?zcft0
                     case zcft0 =>
                      exact je_bl
                   case zcfa2 =>
                    exact jss_nil

    obtain ⟨t, j⟩ := j
    refine ⟨tLawS K lawN.length 2 t, ?_, law_run (by decide) (by decide) (fun B hB => (j B hB).v) rk h⟩
    refine pss_cons (ps_for pass_own rfl (pi_seq (pe_call F2 (hr.mono (by decide)) rfl hm2 hk2 hb2 .nil pass0 (pa_cons (pv 0) (pa_cons pe_int pa_nil)))) (pg_name (i := 1) nd rfl (by first | exact Or.inl rfl | exact Or.inr rfl)) ?_) (pss_one (ps_ret pe_bl))
    exact pss_ln (j ⟨H, H, [], [], []⟩ rfl).p
end Rn
end
section
set_option Elab.async false
set_option linter.all false
set_option maxRecDepth 100000
namespace Rn
open PySem PySem.Spec L2
section
variable {α β : Type}
theorem ev_bnd (x : M α) (k : α → M β) (r : Rho) : bnd x k r = (match x r with | .ok a r => k a r | .ex c r => .ex c r | .no => .no) := rfl
theorem ev_ret (a : α) (r : Rho) : ret a r = .ok a r := rfl
theorem ev_lfS (a : α) (r : Rho) : lft (some a) r = .ok a r := rfl
theorem ev_lfN (r : Rho) : lft (none : Option α) r = .no := rfl
theorem ev_stk (r : Rho) : (stuck : M α) r = .no := rfl
theorem ev_vr (i : Nat) (r : Rho) : mVar i r = (match r[i]? with | some (.fz d) => .ok d r | some (.ow d) => .ok d (r.set i (.fz d)) | _ => .no) := rfl
theorem ev_vrT (i : Nat) (r : Rho) : mVarT i r = (match cellD r[i]? with | some _ => .ok (.s i) r | none => .no) := rfl
theorem ev_mT (f : M D) (r : Rho) : mT f r = bnd f (fun d => ret (.d d)) r := rfl
theorem ev_cF (d : D) : cellD (some (.fz d)) = some d := rfl
theorem ev_cO (d : D) : cellD (some (.ow d)) = some d := rfl
theorem ev_cB (d : D) : cellD (some (.bw d)) = some d := rfl
theorem ev_dd (r : Rho) (d : D) : deref r (.d d) = some d := rfl
theorem ev_ds (r : Rho) (i : Nat) : deref r (.s i) = cellD r[i]? := rfl
theorem ev_d0 (r : Rho) : derefs r [] = some [] := rfl
theorem ev_dc (r : Rho) (t : TV) (ts : List TV) : derefs r (t :: ts) = (match deref r t, derefs r ts with | some d, some ds => some (d :: ds) | _, _ => none) := rfl
theorem ev_opr (f : D → D → Option D) (a b : M TV) (r : Rho) : mOp f a b r = bnd a (fun x => bnd b fun y => fun ρ => match deref ρ x, deref ρ y with | some d, some e => lft (f d e) ρ | _, _ => .no) r := rfl
theorem ev_unr (f : D → Option D) (a : M TV) (r : Rho) : mUn f a r = bnd a (fun x => fun ρ => match deref ρ x with | some d => lft (f d) ρ | _ => .no) r := rfl
theorem ev_nl (r : Rho) : (mNil : M (List α)) r = .ok [] r := rfl
theorem ev_cns (a : M α) (b : M (List α)) (r : Rho) : mCons a b r = bnd a (fun x => bnd b fun xs => ret (x :: xs)) r := rfl
theorem ev_cbr (f : List D → Option D) (a : M (List TV)) (r : Rho) : mCB f a r = bnd a (fun xs => fun ρ => match derefs ρ xs with | some ds => lft (f ds) ρ | none => .no) r := rfl
theorem ev_ab (b : Bool) : asBool (.bool b) = some b := rfl
theorem ev_ai (b : Int) : asInt (.int b) = some b := rfl
theorem ev_tst' (f : M D) (r : Rho) : mTst f r = bnd f (fun d => lft (asBool d)) r := rfl
theorem ev_an (a b : M Bool) (r : Rho) : mAnd a b r = (match a r with | .ok true r => b r | .ok false r => .ok false r | .ex c r => .ex c r | .no => .no) := by
  unfold mAnd bnd
  cases a r with
  | ok x r => cases x <;> rfl
  | ex c r => rfl
  | no => rfl
theorem ev_orr (a b : M Bool) (r : Rho) : mOr a b r = (match a r with | .ok true r => .ok true r | .ok false r => b r | .ex c r => .ex c r | .no => .no) := by
  unfold mOr bnd
  cases a r with
  | ok x r => cases x <;> rfl
  | ex c r => rfl
  | no => rfl
theorem ev_nt (a : M Bool) (r : Rho) : mNot a r = bnd a (fun x => ret (!x)) r := rfl
theorem ev_anV (a b : M D) (r : Rho) : mAndV a b r = bnd a (fun x => match asBool x with | some true => b | some false => ret (.bool false) | none => stuck) r := rfl
theorem ev_orV' (a b : M D) (r : Rho) : mOrV a b r = bnd a (fun x => match asBool x with | some true => ret (.bool true) | some false => b | none => stuck) r := rfl
theorem ev_ntV (a : M D) (r : Rho) : mNotV a r = bnd a (fun x => match asBool x with | some b => ret (.bool (!b)) | none => stuck) r := rfl
theorem ev_ifm (c : M Bool) (a b : M α) (r : Rho) : mIf c a b r = (match c r with | .ok true r => a r | .ok false r => b r | .ex c r => .ex c r | .no => .no) := by
  unfold mIf bnd
  cases c r with
  | ok x r => cases x <;> rfl
  | ex c r => rfl
  | no => rfl
theorem ev_ch (f g : D → D → Option D) (a b c : M TV) (r : Rho) : mChain f g a b c r = bnd a (fun x => bnd b fun y => fun ρ => match deref ρ x, deref ρ y with
  | some d, some e => (match (f d e).bind asBool with
    | some true => bnd c (fun z => fun ρ => match deref ρ y, deref ρ z with
      | some e, some k => lft (g e k) ρ
      | _, _ => .no) ρ
    | some false => .ok (.bool false) ρ
    | none => .no)
  | _, _ => .no) r := rfl
theorem ev_tp (a : M (List D)) (r : Rho) : mTup a r = bnd a (fun ds => fun ρ => if ds.length ≤ 100 then .ok (.tuple ds) ρ else .no) r := rfl
theorem ev_ls (a : M (List D)) (r : Rho) : mLst a r = bnd a (fun ds => fun ρ => if ds.length ≤ 100 then .ok (.list ds) ρ else .no) r := rfl
theorem ev_cl (g : List D → RR) (a : M (List D)) (r : Rho) : mCall g a r = bnd a (fun ds => fun ρ => match g ds with | .ok d => .ok d ρ | .fr d => .ok d ρ | .ex c => .ex c ρ | .no => .no) r := rfl
theorem ev_cl0 (g : List D → RR) (a : M (List D)) (r : Rho) : mCall0 g a r = bnd a (fun ds => fun ρ => match g ds with | .ok d => .ok d ρ | .fr d => .ok d ρ | _ => .no) r := rfl
theorem ev_isr (p : String → Bool) (a : M TV) (r : Rho) : mIsi p a r = bnd a (fun x => fun ρ => match deref ρ x with | some d => if noIN d = true then .ok (.bool (p (tyName d))) ρ else .no | none => .no) r := rfl
theorem ev_sqI (f : M D) (r : Rho) : mSeqI f r = bnd f (fun d => lft (seqD d)) r := rfl
theorem ev_lc' (fi : M (List D)) (h : D → Rho → Option Rho) (ft : M Bool) (fe : M D) (vs : List Nat) (r : Rho) : mLc fi h ft fe vs r = bnd fi (fun items => fun ρ => if items.length ≤ big then (match lcGo h ft fe vs items (wipeR ρ vs) with | .ok xs ρ1 => .ok (.list xs) (restR ρ ρ1 vs) | _ => .no) else .no) r := rfl
theorem ev_g0 (h : D → Rho → Option Rho) (ft : M Bool) (fe : M D) (vs : List Nat) (r : Rho) : lcGo h ft fe vs [] r = .ok [] r := rfl
theorem ev_gc (h : D → Rho → Option Rho) (ft : M Bool) (fe : M D) (vs : List Nat) (d : D) (ds : List D) (r : Rho) : lcGo h ft fe vs (d :: ds) r = (match h d r with
    | none => .no
    | some ρ1 => match ft ρ1 with
      | .ok true ρ2 => (match fe ρ2 with
        | .ok x ρ3 => (match lcGo h ft fe vs ds (wipeR ρ3 vs) with
          | .ok xs ρ4 => .ok (x :: xs) ρ4
          | _ => .no)
        | _ => .no)
      | .ok false ρ2 => lcGo h ft fe vs ds (wipeR ρ2 vs)
      | _ => .no) := rfl
theorem ev_y (r : Rho) : mYes r = .ok true r := rfl
theorem ev_fo0 (h : D → Rho → Option Rho) (b : S) (r : Rho) : forGo h b [] r = .nx r := rfl
theorem ev_foc (h : D → Rho → Option Rho) (b : S) (d : D) (ds : List D) (r : Rho) : forGo h b (d :: ds) r = (match h d r with
    | none => .no
    | some ρ1 => match b ρ1 with
      | .nx ρ2 => forGo h b ds ρ2
      | .ct ρ2 => forGo h b ds ρ2
      | .bk ρ2 => .nx ρ2
      | o => o) := rfl
theorem ev_app (i : Nat) (f : M D) (r : Rho) : sAppend i f r = (match cellD r[i]? with
    | some (.list _) => sBind f (fun d => fun ρ => match appendD ρ i d with
      | some r => .nx r
      | none => .no) r
    | _ => .no) := rfl
theorem ev_enm (f : M (List D)) (r : Rho) : mEnum f r = bnd f (fun ds => match ds with | [d] => lft ((seqD d).map (enumD 0)) | _ => stuck) r := rfl
theorem ev_rn1 (f : M (List D)) (r : Rho) : mRng1 f r = bnd f (fun ds => match ds with | [.int j] => if j ≤ 1000000 ∧ -1000000 ≤ j then ret (rangeD 0 j.toNat) else stuck | _ => stuck) r := rfl
theorem ev_rn2 (f : M (List D)) (r : Rho) : mRng2 f r = bnd f (fun ds => match ds with | [.int i, .int j] => if (j ≤ 1000000 ∧ -1000000 ≤ j) ∧ (i ≤ 1000000 ∧ -1000000 ≤ i) then ret (rangeD i (j - i).toNat) else stuck | _ => stuck) r := rfl
theorem ev_rs (c : Str) (r : Rho) : sRaise c r = .ex c r := rfl
theorem ev_sqL (ds : List D) : seqD (.list ds) = some ds := rfl
theorem ev_sqT (ds : List D) : seqD (.tuple ds) = some ds := rfl
theorem ev_sb (f : M α) (k : α → S) (r : Rho) : sBind f k r = (match f r with | .ok a r => k a r | .ex c r => .ex c r | .no => .no) := rfl
theorem ev_ss (f g : S) (r : Rho) : sSeq f g r = (match f r with | .nx r => g r | o => o) := rfl
theorem ev_sn (r : Rho) : sNext r = .nx r := rfl
theorem ev_sa (f : M D) (h : D → Rho → Option Rho) (r : Rho) : sAsg f h r = sBind f (fun d => fun ρ => match h d ρ with | some r => .nx r | none => .no) r := rfl
theorem ev_so (f : M D) (i : Nat) (r : Rho) : sOwn f i r = sBind f (fun d => fun ρ => .nx (ρ.set i (.ow d))) r := rfl
theorem ev_sr (f : M D) (r : Rho) : sRet f r = sBind f (fun d => fun ρ => .rt d ρ) r := rfl
theorem ev_sdr (f : M D) (r : Rho) : sDrop f r = sBind f (fun _ => sNext) r := rfl
theorem ev_si (c : M Bool) (f g : S) (r : Rho) : sIf c f g r = (match c r with | .ok true r => f r | .ok false r => g r | .ex c r => .ex c r | .no => .no) := by
  unfold sIf sBind
  cases c r with
  | ok x r => cases x <;> rfl
  | ex c r => rfl
  | no => rfl
theorem ev_sp (ms : List Bool) (is : List Nat) (f : M (List D)) (r : Rho) : sPar ms is f r = sBind f (fun ds => fun ρ => match parSet ms is ds ρ with | some r => .nx r | none => .no) r := rfl
theorem ev_p0 (r : Rho) : parSet [] [] [] r = some r := rfl
theorem ev_pF (ms : List Bool) (i : Nat) (is : List Nat) (d : D) (ds : List D) (r : Rho) : parSet (false :: ms) (i :: is) (d :: ds) r = parSet ms is ds (r.set i (.fz d)) := rfl
theorem ev_pT (ms : List Bool) (i : Nat) (is : List Nat) (d : D) (ds : List D) (r : Rho) : parSet (true :: ms) (i :: is) (d :: ds) r = parSet ms is ds (r.set i (.ow d)) := rfl
theorem ev_sf (fi : M (List D)) (h : D → Rho → Option Rho) (b : S) (r : Rho) : sFor fi h b r = sBind fi (fun items => forGo h b items) r := rfl
theorem ev_hn (i : Nat) (d : D) (r : Rho) : hName i d r = some (r.set i (.fz d)) := rfl
theorem ev_ht (n : Nat) (hs : List D → Rho → Option Rho) (ds : List D) (r : Rho) : hTup n hs (.tuple ds) r = (if ds.length = n then hs ds r else none) := rfl
theorem ev_hc (a : D → Rho → Option Rho) (b : List D → Rho → Option Rho) (d : D) (ds : List D) (r : Rho) : hCons a b (d :: ds) r = (a d r).bind (b ds) := rfl
theorem ev_h0 (r : Rho) : hNil [] r = some r := rfl
theorem ev_cal (np n : Nat) (b : S) (ds : List D) : callD np n b ds = (if ds.length = np then finO (b (ds.map Cell.fz ++ List.replicate (n - ds.length) Cell.no)) else .no) := rfl
theorem ev_f1 (r : Rho) : finO (.nx r) = .ok .none := rfl
theorem ev_f2 (d : D) (r : Rho) : finO (.rt d r) = .ok d := rfl
theorem ev_f3 (c : Str) (r : Rho) : finO (.ex c r) = .ex c := rfl
theorem ev_f4 (d : D) (r : Rho) : finO (.rf d r) = .fr d := rfl
theorem ev_cmp (p : Int → Int → Bool) (i j : Int) : cmpI p (.int i) (.int j) = some (.bool (p i j)) := rfl
theorem ev_add (i j : Int) : addF (.int i) (.int j) = some (.int (i + j)) := rfl
theorem ev_sub (i j : Int) : subF (.int i) (.int j) = some (.int (i - j)) := rfl
theorem ev_mod (i j : Int) : modF (.int i) (.int j) = (if 0 < j then some (.int (i % j)) else none) := rfl
theorem ev_fdv (i j : Int) : fdivF (.int i) (.int j) = (if 0 < j ∧ j.natAbs < 2 ^ 400 then some (.int (i / j)) else none) := rfl
theorem ev_mul (i j : Int) (h : (isSmall i || isSmall j) = true) : mulF (.int i) (.int j) = some (.int (i * j)) := by
  show (if (isSmall i || isSmall j) = true then some (PyData.int (i * j)) else _) = _
  rw [if_pos h]
theorem ev_isn (b : Bool) (d : D) : isF b d .none = some (.bool (if b then !isNoneD d else isNoneD d)) := by cases d <;> rfl
theorem ev_n1 : isNoneD .none = true := rfl
theorem ev_n2 (ds : List D) : isNoneD (.tuple ds) = false := rfl
theorem ev_n3 (ds : List D) : isNoneD (.list ds) = false := rfl
theorem ev_n4 (i : Int) : isNoneD (.int i) = false := rfl
theorem ev_ixL (ds : List D) (i : Int) : ixF (.list ds) (.int i) = atI ds i := rfl
theorem ev_ixT (ds : List D) (i : Int) : ixF (.tuple ds) (.int i) = atI ds i := rfl
theorem ev_an' (xs : List α) (n : Nat) (x : α) (h : xs[n]? = some x) : atI xs (n : Int) = some x := by
  have hl := (List.getElem?_eq_some_iff.mp h).1
  have h1 : (0 : Int) ≤ (n : Int) := by omega
  have h2 : ((n : Int) < (xs.length : Int)) := by omega
  unfold atI ixN
  rw [if_pos h1, if_pos h2]
  show xs[(n : Int).toNat]? = some x
  rw [Int.toNat_natCast]
  exact h
theorem ev_a0 (x : α) (xs : List α) : atI (x :: xs) 0 = some x := ev_an' _ 0 _ rfl
theorem ev_a1 (x y : α) (xs : List α) : atI (x :: y :: xs) 1 = some y := ev_an' _ 1 _ rfl
theorem ev_a2 (x y z : α) (xs : List α) : atI (x :: y :: z :: xs) 2 = some z := ev_an' _ 2 _ rfl
theorem ev_lL (ds : List D) : lenF [.list ds] = some (.int ds.length) := rfl
theorem ev_lT (ds : List D) : lenF [.tuple ds] = some (.int ds.length) := rfl
theorem ev_tL (ds : List D) : tupleF [.list ds] = some (.tuple ds) := rfl
theorem ev_tT (ds : List D) : tupleF [.tuple ds] = some (.tuple ds) := rfl
theorem ev_liT (ds : List D) : listF [.tuple ds] = some (.list ds) := rfl
theorem ev_abs (i : Int) : absF [.int i] = some (.int (if i < 0 then -i else i)) := rfl
theorem ev_mx (i j : Int) : max2F [.int i, .int j] = some (.int (if j > i then j else i)) := rfl
theorem ev_mn (i j : Int) : min2F [.int i, .int j] = some (.int (if j < i then j else i)) := rfl
theorem ev_mx3 (i j k : Int) : max3F [.int i, .int j, .int k] = some (.int (if (if j > i then j else i) < k then k else (if j > i then j else i))) := rfl
theorem ev_t1 (i : Int) : tyName (.int i) = "int" := rfl
theorem ev_t2 (ds : List D) : tyName (.tuple ds) = "tuple" := rfl
theorem ev_t3 (i : Str) : tyName (.str i) = "str" := rfl
theorem ev_eqI (a b : Int) : eqF (.int a) (.int b) = some (.bool (decide (a = b))) := by
  have e : dOk (.int a) (.int b) = true := rfl
  unfold eqF
  rw [if_pos e]
  have : PyData.eqv (.int a) (.int b) = decide (a = b) := by
    unfold PyData.eqv
    by_cases h : a = b <;> simp [h]
  rw [this]
theorem ev_neI (a b : Int) : neF (.int a) (.int b) = some (.bool (!decide (a = b))) := by
  have e : dOk (.int a) (.int b) = true := rfl
  unfold neF
  rw [if_pos e]
  have : PyData.eqv (.int a) (.int b) = decide (a = b) := by
    unfold PyData.eqv
    by_cases h : a = b <;> simp [h]
  rw [this]
end
end Rn
end
section
set_option Elab.async false
set_option linter.all false
set_option autoImplicit false
set_option maxRecDepth 100000
namespace Rn
open PySem PySem.Spec L2
structure Good {α : Type} [DecidableEq α] (k : Nat) (e : α → D) : Prop where
  plain : ∀ a, (e a).plain = true
  depth : ∀ a, (e a).depth ≤ k
  eqv : ∀ a b, PyData.eqv (e a) (e b) = decide (a = b)
def oD : Option Int → D
  | none => .none
  | some i => .int i
section
variable {α β γ : Type} [DecidableEq α] [DecidableEq β] [DecidableEq γ]
theorem good_int : Good 0 PyData.int := ⟨fun _ => rfl, fun _ => Nat.le_refl _, fun a b => by
  show (a == b) = _
  by_cases h : a = b <;> simp [h]⟩
theorem good_nat : Good 0 (fun n : Nat => PyData.int (n : Int)) := ⟨fun _ => rfl, fun _ => Nat.le_refl _, fun a b => by
  show ((a : Int) == (b : Int)) = _
  by_cases h : a = b
  · simp [h]
  · have : ¬ ((a : Int) = (b : Int)) := by omega
    simp [h, this]⟩
theorem good_str : Good 0 PyData.str := ⟨fun _ => rfl, fun _ => Nat.le_refl _, fun a b => by
  show (a == b) = _
  by_cases h : a = b <;> simp [h]⟩
theorem good_bool : Good 0 PyData.bool := ⟨fun _ => rfl, fun _ => Nat.le_refl _, fun a b => by
  show (a == b) = _
  by_cases h : a = b <;> simp [h]⟩
theorem good_o : Good 0 oD := ⟨fun a => by cases a <;> rfl, fun a => by cases a <;> exact Nat.le_refl _, fun a b => by
  cases a <;> cases b
  · rfl
  · rfl
  · rfl
  · rename_i a b
    show (a == b) = _
    by_cases h : a = b <;> simp [h]⟩
theorem Good.mono {k l : Nat} {e : α → D} (h : Good k e) (hl : k ≤ l) : Good l e := ⟨h.plain, fun a => Nat.le_trans (h.depth a) hl, h.eqv⟩
theorem Good.plainAll {k : Nat} {e : α → D} (h : Good k e) : ∀ xs : List α, PyData.plainAll (xs.map e) = true
  | [] => by simp [PyData.plainAll]
  | x :: xs => by simp [PyData.plainAll, h.plain x, h.plainAll xs]
theorem Good.depthAll {k : Nat} {e : α → D} (h : Good k e) : ∀ xs : List α, PyData.depthAll (xs.map e) ≤ k
  | [] => by simp [PyData.depthAll]
  | x :: xs => by
    simp only [List.map_cons, PyData.depthAll]
    exact Nat.max_le.mpr ⟨h.depth x, h.depthAll xs⟩
theorem Good.eqvAll {k : Nat} {e : α → D} (h : Good k e) : ∀ xs ys : List α, PyData.eqvAll (xs.map e) (ys.map e) = decide (xs = ys)
  | [], [] => by simp [PyData.eqvAll]
  | [], _ :: _ => by simp [PyData.eqvAll]
  | _ :: _, [] => by simp [PyData.eqvAll]
  | x :: xs, y :: ys => by
    simp only [List.map_cons, PyData.eqvAll, h.eqv, h.eqvAll xs ys]
    by_cases h1 : x = y <;> by_cases h2 : xs = ys <;> simp [h1, h2]
theorem Good.list {k : Nat} {e : α → D} (h : Good k e) : Good (k + 1) (fun xs : List α => PyData.list (xs.map e)) :=
  ⟨fun xs => by simp only [PyData.plain]; exact h.plainAll xs, fun xs => by simp only [PyData.depth]; exact Nat.succ_le_succ (h.depthAll xs), fun xs ys => by simp only [PyData.eqv]; exact h.eqvAll xs ys⟩
theorem Good.tup {k : Nat} {e : α → D} (h : Good k e) : Good (k + 1) (fun xs : List α => PyData.tuple (xs.map e)) :=
  ⟨fun xs => by simp only [PyData.plain]; exact h.plainAll xs, fun xs => by simp only [PyData.depth]; exact Nat.succ_le_succ (h.depthAll xs), fun xs ys => by simp only [PyData.eqv]; exact h.eqvAll xs ys⟩
theorem Good.pair {k : Nat} {e : α → D} {f : β → D} (h : Good k e) (g : Good k f) : Good (k + 1) (fun p : α × β => PyData.tuple [e p.1, f p.2]) :=
  ⟨fun p => by simp [PyData.plain, PyData.plainAll, h.plain, g.plain], fun p => by
    simp only [PyData.depth, PyData.depthAll]
    have := h.depth p.1
    have := g.depth p.2
    omega, fun p q => by
    obtain ⟨a, b⟩ := p
    obtain ⟨c, d⟩ := q
    simp only [PyData.eqv, PyData.eqvAll, h.eqv, g.eqv, Prod.mk.injEq, Bool.and_true]
    by_cases h1 : a = c <;> by_cases h2 : b = d <;> simp [h1, h2]⟩
theorem Good.ok {k : Nat} {e : α → D} (h : Good k e) (hk : k ≤ 64) (a b : α) : dOk (e a) (e b) = true := by
  unfold dOk
  have := h.depth a
  simp only [h.plain, Bool.and_self, Bool.true_and, decide_eq_true_eq]
  omega
theorem Good.eqF {k : Nat} {e : α → D} (h : Good k e) (a b : α) (hk : k ≤ 64 := by decide) : eqF (e a) (e b) = some (.bool (decide (a = b))) := by
  unfold Rn.eqF
  rw [if_pos (h.ok hk a b), h.eqv]
theorem Good.neF {k : Nat} {e : α → D} (h : Good k e) (a b : α) (hk : k ≤ 64 := by decide) : neF (e a) (e b) = some (.bool (!decide (a = b))) := by
  unfold Rn.neF
  rw [if_pos (h.ok hk a b), h.eqv]
end
theorem eqF_o (a b : Option Int) : eqF (oD a) (oD b) = some (.bool (decide (a = b))) := good_o.eqF a b
theorem neF_o (a b : Option Int) : neF (oD a) (oD b) = some (.bool (!decide (a = b))) := good_o.neF a b
theorem eqF_b (a b : Bool) : eqF (.bool a) (.bool b) = some (.bool (decide (a = b))) := good_bool.eqF a b
theorem neF_b (a b : Bool) : neF (.bool a) (.bool b) = some (.bool (!decide (a = b))) := good_bool.neF a b
theorem eqF_s (a b : Str) : eqF (.str a) (.str b) = some (.bool (decide (a = b))) := good_str.eqF a b
theorem neF_s (a b : Str) : neF (.str a) (.str b) = some (.bool (!decide (a = b))) := good_str.neF a b
inductive SqD : D → List D → Prop
  | l {ds} : SqD (.list ds) ds
  | t {ds} : SqD (.tuple ds) ds
theorem SqD.len {R : D} {ds : List D} (h : SqD R ds) : lenF [R] = some (.int ds.length) := by cases h <;> rfl
theorem SqD.seq {R : D} {ds : List D} (h : SqD R ds) : seqD R = some ds := by cases h <;> rfl
theorem SqD.tup {R : D} {ds : List D} (h : SqD R ds) : tupleF [R] = some (.tuple ds) := by cases h <;> rfl
theorem SqD.lst {R : D} {ds : List D} (h : SqD R ds) : listF [R] = some (.list ds) := by cases h <;> rfl
theorem SqD.none {R : D} {ds : List D} (h : SqD R ds) : isNoneD R = false := by cases h <;> rfl
theorem atN {α : Type} {xs : List α} {i : Int} {n : Nat} (e : i = n) {x : α} (h : xs[n]? = some x) : atI xs i = some x := by subst e; exact ev_an' xs n x h
theorem atMap {α : Type} (e : α → D) (xs : List α) {i : Int} {n : Nat} (ei : i = n) (h : n < xs.length) : atI (xs.map e) i = some (e xs[n]) := atN ei (by simp [h])
theorem rangeD_map (lo : Int) (n : Nat) : rangeD lo n = (List.range n).map fun k : Nat => PyData.int (lo + (k : Int)) := rfl
theorem mlc_map {α : Type} {fi : M (List D)} {h : D → Rho → Option Rho} {ft : M Bool} {fe : M D} {vs : List Nat} {ρ : Rho} (xs : List α) (e : α → D) (t : α → Bool) (g : α → D) (hi : fi ρ = .ok (xs.map e) ρ) (hl : xs.length ≤ big) (hr : restR ρ (wipeR ρ vs) vs = ρ)
    (H : ∀ x ∈ xs, ∃ r1, h (e x) (wipeR ρ vs) = some r1 ∧ ft r1 = .ok (t x) r1 ∧ (t x = true → fe r1 = .ok (g x) r1) ∧ wipeR r1 vs = wipeR ρ vs) : mLc fi h ft fe vs ρ = .ok (.list ((xs.filter t).map g)) ρ := by
  have go : ∀ ys : List α, (∀ y ∈ ys, y ∈ xs) → lcGo h ft fe vs (ys.map e) (wipeR ρ vs) = .ok ((ys.filter t).map g) (wipeR ρ vs) := by
    intro ys
    induction ys with
    | nil => intro _; rfl
    | cons y ys ih =>
      intro hy
      obtain ⟨r1, e1, e2, e3, e4⟩ := H y (hy y (List.mem_cons_self ..))
      have ih := ih fun z hz => hy z (List.mem_cons_of_mem _ hz)
      rw [List.map_cons]
      unfold lcGo
      rw [e1]
      simp only [e2]
      cases et : t y with
      | true => simp only [e3 et, e4, ih, List.filter_cons_of_pos et, List.map_cons]
      | false =>
        simp only [e4, ih]
        rw [List.filter_cons_of_neg (by rw [et]; decide)]
  unfold mLc bnd
  rw [hi]
  simp only [List.length_map, if_pos hl, go xs (fun _ h => h), hr]
theorem mlc_map0 {α : Type} {fi : M (List D)} {h : D → Rho → Option Rho} {fe : M D} {vs : List Nat} {ρ : Rho} (xs : List α) (e : α → D) (g : α → D) (hi : fi ρ = .ok (xs.map e) ρ) (hl : xs.length ≤ big) (hr : restR ρ (wipeR ρ vs) vs = ρ)
    (H : ∀ x ∈ xs, ∃ r1, h (e x) (wipeR ρ vs) = some r1 ∧ fe r1 = .ok (g x) r1 ∧ wipeR r1 vs = wipeR ρ vs) : mLc fi h mYes fe vs ρ = .ok (.list (xs.map g)) ρ := by
  rw [mlc_map xs e (fun _ => true) g hi hl hr (fun x hx => by obtain ⟨r1, a, b, c⟩ := H x hx; exact ⟨r1, a, rfl, fun _ => b, c⟩)]
  rw [List.filter_eq_self.mpr (fun _ _ => rfl)]
theorem lcgo_cons {h : D → Rho → Option Rho} {fe : M D} {vs : List Nat} {ρ ρ1 ρ2 ρ3 : Rho} {d x : D} {ds xs : List D} (h1 : h d ρ = some ρ1) (h2 : fe ρ1 = .ok x ρ2) (h3 : lcGo h mYes fe vs ds (wipeR ρ2 vs) = .ok xs ρ3) : lcGo h mYes fe vs (d :: ds) ρ = .ok (x :: xs) ρ3 := by
  unfold lcGo
  rw [h1]
  simp only [ev_y, h2, h3]
/-- a loop that goes on, by an invariant over what has been passed -/
theorem for_inv {α : Type} {h : D → Rho → Option Rho} {b : S} (e : α → D) (I : List α → Rho → Prop) (xs : List α) {ρ0 : Rho} (h0 : I [] ρ0)
    (step : ∀ pre x post, xs = pre ++ x :: post → ∀ ρ, I pre ρ → ∃ r1 r2, h (e x) ρ = some r1 ∧ (b r1 = .nx r2 ∨ b r1 = .ct r2) ∧ I (pre ++ [x]) r2) : ∃ r, forGo h b (xs.map e) ρ0 = .nx r ∧ I xs r := by
  have go : ∀ (post pre : List α) (ρ : Rho), xs = pre ++ post → I pre ρ → ∃ r, forGo h b (post.map e) ρ = .nx r ∧ I xs r := by
    intro post
    induction post with
    | nil =>
      intro pre ρ ex hI
      rw [List.append_nil] at ex
      subst ex
      exact ⟨ρ, rfl, hI⟩
    | cons x post ih =>
      intro pre ρ ex hI
      obtain ⟨r1, r2, e1, e2, e3⟩ := step pre x post ex ρ hI
      obtain ⟨r, f1, f2⟩ := ih (pre ++ [x]) r2 (by rw [ex]; simp) e3
      refine ⟨r, ?_, f2⟩
      rw [List.map_cons]
      unfold forGo
      rw [e1]
      rcases e2 with e2 | e2 <;> simp only [e2, f1]
  exact go xs [] ρ0 rfl h0
theorem while_stop {c : M Bool} {b : S} {n : Nat} {ρ ρ1 : Rho} (h : c ρ = .ok false ρ1) : whileGo c b (n + 1) ρ = .nx ρ1 := by
  unfold whileGo
  rw [h]
theorem while_next {c : M Bool} {b : S} {n : Nat} {ρ ρ1 ρ2 : Rho} (h : c ρ = .ok true ρ1) (hb : b ρ1 = .nx ρ2 ∨ b ρ1 = .ct ρ2) : whileGo c b (n + 1) ρ = whileGo c b n ρ2 := by
  conv => lhs; unfold whileGo
  rw [h]
  rcases hb with hb | hb <;> simp only [hb]
theorem asg_ok {f : M D} {h : D → Rho → Option Rho} {ρ r r2 : Rho} {d : D} (e : f ρ = .ok d r) (e2 : h d r = some r2) : sAsg f h ρ = .nx r2 := by rw [ev_sa, ev_sb, e]; simp only [e2]
theorem own_ok {f : M D} {i : Nat} {ρ r : Rho} {d : D} (e : f ρ = .ok d r) : sOwn f i ρ = .nx (r.set i (.ow d)) := by rw [ev_so, ev_sb, e]
theorem ret_ok {f : M D} {ρ r : Rho} {d : D} (e : f ρ = .ok d r) : sRet f ρ = .rt d r := by rw [ev_sr, ev_sb, e]
theorem op_ok {f : D → D → Option D} {a b : M TV} {ρ r1 r2 : Rho} {x y : TV} {d e z : D} (ha : a ρ = .ok x r1) (hb : b r1 = .ok y r2) (dx : deref r2 x = some d) (dy : deref r2 y = some e) (hf : f d e = some z) : mOp f a b ρ = .ok z r2 := by
  rw [ev_opr, ev_bnd, ha]
  simp only
  rw [ev_bnd, hb]
  simp only [dx, dy, hf, ev_lfS]
theorem mT_ok {f : M D} {ρ r : Rho} {d : D} (e : f ρ = .ok d r) : mT f ρ = .ok (.d d) r := by rw [ev_mT, ev_bnd, e]; rfl
theorem call_ok {g : List D → RR} {fa : M (List D)} {ρ r : Rho} {ds : List D} {d : D} (e : fa ρ = .ok ds r) (hg : g ds = .ok d) : mCall0 g fa ρ = .ok d r := by rw [ev_cl0, ev_bnd, e]; simp only [hg]
theorem callX_ok {g : List D → RR} {fa : M (List D)} {ρ r : Rho} {ds : List D} {d : D} (e : fa ρ = .ok ds r) (hg : g ds = .ok d) : mCall g fa ρ = .ok d r := by rw [ev_cl, ev_bnd, e]; simp only [hg]
theorem callX_ex {g : List D → RR} {fa : M (List D)} {ρ r : Rho} {ds : List D} {c : Str} (e : fa ρ = .ok ds r) (hg : g ds = .ex c) : mCall g fa ρ = .ex c r := by rw [ev_cl, ev_bnd, e]; simp only [hg]
theorem tst_ok {f : M D} {ρ r : Rho} {b : Bool} (e : f ρ = .ok (.bool b) r) : mTst f ρ = .ok b r := by rw [ev_tst', ev_bnd, e]; rfl
theorem cons_ok {α : Type} {a : M α} {b : M (List α)} {ρ r r2 : Rho} {x : α} {xs : List α} (e : a ρ = .ok x r) (e2 : b r = .ok xs r2) : mCons a b ρ = .ok (x :: xs) r2 := by
  rw [ev_cns, ev_bnd, e]
  simp only
  rw [ev_bnd, e2]
  rfl
theorem not_ok {a : M Bool} {ρ r : Rho} {b : Bool} (e : a ρ = .ok b r) : mNot a ρ = .ok (!b) r := by rw [ev_nt, ev_bnd, e]; rfl
theorem cb_ok {f : List D → Option D} {a : M (List TV)} {ρ r : Rho} {ts : List TV} {ds : List D} {d : D} (e : a ρ = .ok ts r) (e2 : derefs r ts = some ds) (e3 : f ds = some d) : mCB f a ρ = .ok d r := by
  rw [ev_cbr, ev_bnd, e]
  simp only [e2, e3, ev_lfS]
theorem if_ok {α : Type} {c : M Bool} {a b : M α} {ρ r r2 : Rho} {t : Bool} {x : α} (e : c ρ = .ok t r) (h1 : t = true → a r = .ok x r2) (h2 : t = false → b r = .ok x r2) : mIf c a b ρ = .ok x r2 := by
  rw [ev_ifm, e]
  cases t with
  | true => exact h1 rfl
  | false => exact h2 rfl
theorem told_ok {f : M D} {ρ r : Rho} {d : D} (e : f ρ = .ok d r) : mTold f ρ = .ok d r := by unfold mTold; rw [e]
theorem told_ex {f : M D} {ρ r : Rho} {c : Str} (e : f ρ = .ex c r) (hc : excN.contains c = true) : mTold f ρ = .ok (termD c) r := by unfold mTold; rw [e]; simp only [if_pos hc]
theorem fin_rt {o : Out} {d : D} {r : Rho} (h : o = .rt d r) : finO o = .ok d := by rw [h]; rfl
theorem fin_nx {o : Out} {r : Rho} (h : o = .nx r) : finO o = .ok .none := by rw [h]; rfl
theorem seq_to {f g : S} {ρ r : Rho} {o : Out} (h : f ρ = .nx r) (h2 : g r = o) : sSeq f g ρ = o := by rw [ev_ss, h]; exact h2
theorem seq_rt {f g : S} {ρ r : Rho} {d : D} (h : f ρ = .rt d r) : sSeq f g ρ = .rt d r := by rw [ev_ss, h]
theorem ifs_f {c : M Bool} {f g : S} {ρ r : Rho} {o : Out} (h : c ρ = .ok false r) (h2 : g r = o) : sIf c f g ρ = o := by rw [ev_si, h]; exact h2
theorem ifs_t {c : M Bool} {f g : S} {ρ r : Rho} {o : Out} (h : c ρ = .ok true r) (h2 : f r = o) : sIf c f g ρ = o := by rw [ev_si, h]; exact h2
theorem drop_ok {f : M D} {ρ r : Rho} {d : D} (e : f ρ = .ok d r) : sDrop f ρ = .nx r := by rw [ev_sdr, ev_sb, e]; rfl
theorem or_f {a b : M Bool} {ρ r : Rho} {t : R Bool} (h : a ρ = .ok false r) (h2 : b r = t) : mOr a b ρ = t := by rw [ev_orr, h]; exact h2
theorem or_t {a b : M Bool} {ρ r : Rho} (h : a ρ = .ok true r) : mOr a b ρ = .ok true r := by rw [ev_orr, h]
theorem and_t {a b : M Bool} {ρ r : Rho} {t : R Bool} (h : a ρ = .ok true r) (h2 : b r = t) : mAnd a b ρ = t := by rw [ev_an, h]; exact h2
theorem and_f {a b : M Bool} {ρ r : Rho} (h : a ρ = .ok false r) : mAnd a b ρ = .ok false r := by rw [ev_an, h]
theorem andV_ok {a b : M D} {ρ r : Rho} {x y : Bool} (ha : a ρ = .ok (.bool x) r) (hb : x = true → b r = .ok (.bool y) r) : mAndV a b ρ = .ok (.bool (x && y)) r := by
  rw [ev_anV, ev_bnd, ha]
  cases x with
  | true => exact hb rfl
  | false => rfl
theorem orV_ok {a b : M D} {ρ r : Rho} {x y : Bool} (ha : a ρ = .ok (.bool x) r) (hb : x = false → b r = .ok (.bool y) r) : mOrV a b ρ = .ok (.bool (x || y)) r := by
  rw [ev_orV', ev_bnd, ha]
  cases x with
  | false => exact hb rfl
  | true => rfl
theorem notV_ok {a : M D} {ρ r : Rho} {x : Bool} (ha : a ρ = .ok (.bool x) r) : mNotV a ρ = .ok (.bool (!x)) r := by
  rw [ev_ntV, ev_bnd, ha]
  rfl
theorem or_ok {a b : M Bool} {ρ r : Rho} {x y : Bool} (ha : a ρ = .ok x r) (hb : x = false → b r = .ok y r) : mOr a b ρ = .ok (x || y) r := by
  rw [ev_orr, ha]
  cases x with
  | false => exact hb rfl
  | true => rfl
theorem and_ok {a b : M Bool} {ρ r : Rho} {x y : Bool} (ha : a ρ = .ok x r) (hb : x = true → b r = .ok y r) : mAnd a b ρ = .ok (x && y) r := by
  rw [ev_an, ha]
  cases x with
  | true => exact hb rfl
  | false => rfl
theorem call_eq {np n : Nat} {b : S} {ds : List D} (h : ds.length = np) : callD np n b ds = finO (b (ds.map Cell.fz ++ List.replicate (n - ds.length) Cell.no)) := by rw [ev_cal, if_pos h]
theorem call1 {m : Nat} {b : S} {x : D} : callD 1 (m + 1) b [x] = finO (b (.fz x :: List.replicate m .no)) := call_eq rfl
theorem call2 {m : Nat} {b : S} {x y : D} : callD 2 (m + 2) b [x, y] = finO (b (.fz x :: .fz y :: List.replicate m .no)) := call_eq rfl
theorem call3 {m : Nat} {b : S} {x y z : D} : callD 3 (m + 3) b [x, y, z] = finO (b (.fz x :: .fz y :: .fz z :: List.replicate m .no)) := call_eq rfl
theorem call4 {m : Nat} {b : S} {x y z u : D} : callD 4 (m + 4) b [x, y, z, u] = finO (b (.fz x :: .fz y :: .fz z :: .fz u :: List.replicate m .no)) := call_eq rfl
def Wp (f : S) (Q : Rho → Prop) (ρ : Rho) : Prop := ∃ r, f ρ = .nx r ∧ Q r
theorem wp_seq {f g : S} {Q : Rho → Prop} {ρ : Rho} (h : Wp f (fun r => Wp g Q r) ρ) : Wp (sSeq f g) Q ρ := by
  obtain ⟨r, e, r2, e2, q⟩ := h
  exact ⟨r2, by rw [ev_ss, e]; exact e2, q⟩
theorem wp_set {f : M D} {h : D → Rho → Option Rho} {Q : Rho → Prop} {ρ r r2 : Rho} {d : D} (e : f ρ = .ok d r) (e2 : h d r = some r2) (q : Q r2) : Wp (sAsg f h) Q ρ := ⟨r2, by rw [ev_sa, ev_sb, e]; simp only [e2], q⟩
theorem wp_own {f : M D} {i : Nat} {Q : Rho → Prop} {ρ r : Rho} {d : D} (e : f ρ = .ok d r) (q : Q (r.set i (.ow d))) : Wp (sOwn f i) Q ρ := ⟨_, by rw [ev_so, ev_sb, e], q⟩
theorem wp_par {ms : List Bool} {is : List Nat} {f : M (List D)} {Q : Rho → Prop} {ρ r r2 : Rho} {ds : List D} (e : f ρ = .ok ds r) (e2 : parSet ms is ds r = some r2) (q : Q r2) : Wp (sPar ms is f) Q ρ := ⟨r2, by rw [ev_sp, ev_sb, e]; simp only [e2], q⟩
theorem wp_if {c : M Bool} {f g : S} {Q : Rho → Prop} {ρ r : Rho} {b : Bool} (e : c ρ = .ok b r) (h1 : b = true → Wp f Q r) (h2 : b = false → Wp g Q r) : Wp (sIf c f g) Q ρ := by
  cases b with
  | true => obtain ⟨r2, e2, q⟩ := h1 rfl; exact ⟨r2, by rw [ev_si, e]; exact e2, q⟩
  | false => obtain ⟨r2, e2, q⟩ := h2 rfl; exact ⟨r2, by rw [ev_si, e]; exact e2, q⟩
/-- a test that must not hold -/
theorem wp_not {c : M Bool} {f : S} {Q : Rho → Prop} {ρ r : Rho} (e : c ρ = .ok false r) (q : Q r) : Wp (sIf c f sNext) Q ρ := ⟨r, by rw [ev_si, e]; rfl, q⟩
theorem wp_next {Q : Rho → Prop} {ρ : Rho} (q : Q ρ) : Wp sNext Q ρ := ⟨ρ, rfl, q⟩
theorem wp_drop {f : M D} {Q : Rho → Prop} {ρ r : Rho} {d : D} (e : f ρ = .ok d r) (q : Q r) : Wp (sDrop f) Q ρ := ⟨r, by rw [ev_sdr, ev_sb, e]; rfl, q⟩
theorem wp_for {α : Type} {fi : M (List D)} {h : D → Rho → Option Rho} {b : S} {Q : Rho → Prop} {ρ ρ0 : Rho} (e : α → D) (xs : List α) (I : List α → Rho → Prop) (hi : fi ρ = .ok (xs.map e) ρ0) (h0 : I [] ρ0)
    (step : ∀ pre x post, xs = pre ++ x :: post → ∀ r, I pre r → ∃ r1, h (e x) r = some r1 ∧ Wp b (fun r2 => I (pre ++ [x]) r2) r1) (q : ∀ r, I xs r → Q r) : Wp (sFor fi h b) Q ρ := by
  obtain ⟨r, e1, e2⟩ := for_inv (h := h) (b := b) e I xs h0 fun pre x post ex r hI => by
    obtain ⟨r1, a1, r2, a2, a3⟩ := step pre x post ex r hI
    exact ⟨r1, r2, a1, .inl a2, a3⟩
  exact ⟨r, by rw [ev_sf, ev_sb, hi]; exact e1, q r e2⟩
/-- a loop that only looks: each turn leaves all but some slots -/
theorem wp_each {α : Type} {fi : M (List D)} {h : D → Rho → Option Rho} {b : S} {Q : Rho → Prop} {ρ ρ0 : Rho} (e : α → D) (xs : List α) (I : Rho → Prop) (hi : fi ρ = .ok (xs.map e) ρ0) (h0 : I ρ0)
    (step : ∀ x ∈ xs, ∀ r, I r → ∃ r1, h (e x) r = some r1 ∧ Wp b I r1) (q : ∀ r, I r → Q r) : Wp (sFor fi h b) Q ρ :=
  wp_for e xs (fun _ => I) hi h0 (fun pre x post ex r hI => step x (by rw [ex]; simp) r hI) q
theorem wp_while {α : Type} {c : M Bool} {b : S} {n : Nat} {Q : Rho → Prop} {ρ : Rho} (I : Nat → Rho → Prop) (m : Nat) (hm : m < n) (h0 : I m ρ)
    (step : ∀ k r, I k r → (∃ r1, c r = .ok false r1 ∧ Q r1) ∨ (∃ r1, c r = .ok true r1 ∧ Wp b (fun r2 => ∃ k', k' < k ∧ I k' r2) r1)) : Wp (whileGo c b n) Q ρ := by
  have go : ∀ (n k : Nat) (r : Rho), k < n → I k r → Wp (whileGo c b n) Q r := by
    intro n
    induction n with
    | zero => intro k r h; omega
    | succ n ih =>
      intro k r hk hI
      rcases step k r hI with ⟨r1, e, q⟩ | ⟨r1, e, r2, e2, k', hk', hI'⟩
      · exact ⟨r1, while_stop e, q⟩
      · obtain ⟨r3, e3, q⟩ := ih k' r2 (by omega) hI'
        exact ⟨r3, (while_next e (.inl e2)).trans e3, q⟩
  exact go n m ρ hm h0
theorem setD_ok {ρ r2 : Rho} {i : Nat} {ds : List D} {k : Int} {n : Nat} {d : D} (h0 : cellD ρ[i]? = some (.list ds)) (e : k = n) (hn : n < ds.length) (hp : putCell ρ i (.list (ds.set n d)) = some r2) : setD ρ i k d = some r2 := by
  subst e
  unfold setD
  rw [h0]
  have h1 : ixN ds.length (n : Int) = some n := by
    unfold ixN
    rw [if_pos (by omega), if_pos (by omega)]
    simp
  simp only [h1, hp]
theorem wp_setitem {fe fk : M D} {i : Nat} {Q : Rho → Prop} {ρ r r2 r3 : Rho} {d x : D} {k : Int} (he : fe ρ = .ok d r) (h0 : cellD r[i]? = some x) (hk : fk r = .ok (.int k) r2) (hs : setD r2 i k d = some r3) (q : Q r3) : Wp (sSetItem i fe fk) Q ρ := by
  refine ⟨r3, ?_, q⟩
  unfold sSetItem
  rw [ev_sb, he]
  simp only [h0]
  rw [ev_sb, hk]
  simp only [asInt, hs]
theorem wp_append {f : M D} {i : Nat} {Q : Rho → Prop} {ρ r r2 : Rho} {d : D} {ds es : List D} (h0 : cellD ρ[i]? = some (.list ds)) (he : f ρ = .ok d r) (h1 : cellD r[i]? = some (.list es)) (hl : es.length < big) (hp : putCell r i (.list (es ++ [d])) = some r2) (q : Q r2) : Wp (sAppend i f) Q ρ := by
  refine ⟨r2, ?_, q⟩
  unfold sAppend
  rw [h0]
  simp only
  rw [ev_sb, he]
  have : appendD r i d = some r2 := by
    unfold appendD
    rw [h1]
    simp only [if_pos hl, hp]
  simp only [this]
theorem rep_one {d : D} {j : Int} {n : Nat} (e : j = n) (hn : n ≤ 1000) : repF (.list [d]) (.int j) = some (.list (List.replicate n d)) := by
  subst e
  show (if ([d] : List D).length ≤ 1000 ∧ 0 ≤ (n : Int) ∧ (n : Int) ≤ 1000 then some (PyData.list (List.replicate (n : Int).toNat [d]).flatten) else none) = _
  rw [if_pos ⟨by simp, by omega, by omega⟩, Int.toNat_natCast]
  congr 2
  induction n with
  | zero => rfl
  | succ n ih => rw [List.replicate_succ, List.replicate_succ, List.flatten_cons, ih (by omega)]; rfl
theorem roundOk_of {n : Nat} {f : S} (h : ∀ c : Int, Wp f (fun _ => True) (rho0 n c)) : RoundOk n f := fun c => by
  obtain ⟨r, e, _⟩ := h c
  exact ⟨r, .inl e⟩
end Rn
end
section
set_option Elab.async false
set_option linter.all false
set_option maxRecDepth 100000
set_option maxHeartbeats 4000000
namespace Rn
open PySem PySem.Spec L2
theorem for_ok {fi : M (List D)} {h : D → Rho → Option Rho} {b : S} {ρ ρ0 : Rho} {items : List D} {o : Out} (hi : fi ρ = .ok items ρ0) (e : forGo h b items ρ0 = o) : sFor fi h b ρ = o := by
  rw [ev_sf, ev_sb, hi]
  exact e
theorem range_pos {n : Nat} {pre post : List Nat} {x : Nat} (e : List.range n = pre ++ x :: post) : x = pre.length ∧ pre.length < n := by
  have h : (List.range n)[pre.length]? = some x := by rw [e]; simp
  have hl : pre.length < n := by
    have := congrArg List.length e
    simp at this
    omega
  rw [List.getElem?_range hl] at h
  exact ⟨(Option.some.inj h).symm, hl⟩
/-- a statement that ends by a value -/
def Rt (f : S) (Q : D → Rho → Prop) (ρ : Rho) : Prop := ∃ d r, f ρ = .rt d r ∧ Q d r
theorem rt_seq {f g : S} {Q : D → Rho → Prop} {ρ : Rho} (h : Wp f (fun r => Rt g Q r) ρ) : Rt (sSeq f g) Q ρ := by
  obtain ⟨r, e, d, r2, e2, q⟩ := h
  exact ⟨d, r2, seq_to e e2, q⟩
theorem rt_ret {f : M D} {Q : D → Rho → Prop} {ρ r : Rho} {d : D} (e : f ρ = .ok d r) (q : Q d r) : Rt (sRet f) Q ρ := ⟨d, r, ret_ok e, q⟩
theorem par_ok {ms : List Bool} {is : List Nat} {f : M (List D)} {ρ r r2 : Rho} {ds : List D} (e : f ρ = .ok ds r) (e2 : parSet ms is ds r = some r2) : sPar ms is f ρ = .nx r2 := by rw [ev_sp, ev_sb, e]; simp only [e2]
theorem tup_ok {a : M (List D)} {ρ r : Rho} {ds : List D} (e : a ρ = .ok ds r) (h : ds.length ≤ 100) : mTup a ρ = .ok (.tuple ds) r := by
  rw [ev_tp, ev_bnd, e]
  exact if_pos h
theorem lst_ok {a : M (List D)} {ρ r : Rho} {ds : List D} (e : a ρ = .ok ds r) (h : ds.length ≤ 100) : mLst a ρ = .ok (.list ds) r := by
  rw [ev_ls, ev_bnd, e]
  exact if_pos h
theorem seqL_ok {f : M D} {ρ r : Rho} {ds : List D} (e : f ρ = .ok (.list ds) r) : mSeqI f ρ = .ok ds r := by
  rw [ev_sqI, ev_bnd, e]
  rfl
theorem seqT_ok {f : M D} {ρ r : Rho} {ds : List D} (e : f ρ = .ok (.tuple ds) r) : mSeqI f ρ = .ok ds r := by
  rw [ev_sqI, ev_bnd, e]
  rfl
theorem add_ll (a b : List D) (h : a.length + b.length ≤ 1000) : addF (.list a) (.list b) = some (.list (a ++ b)) := by
  show (if a.length + b.length ≤ big then _ else _) = _
  rw [if_pos (by simp [big]; omega)]
theorem add_tt (a b : List D) (h : a.length + b.length ≤ 1000) : addF (.tuple a) (.tuple b) = some (.tuple (a ++ b)) := by
  show (if a.length + b.length ≤ big then _ else _) = _
  rw [if_pos (by simp [big]; omega)]
theorem isn_o (a : Option Int) : isF false (oD a) .none = some (.bool a.isNone) := by cases a <;> rfl
theorem ist_o (a : Option Int) : isF true (oD a) .none = some (.bool (!a.isNone)) := by cases a <;> rfl
theorem ne_self {k : Nat} {α : Type} [DecidableEq α] {e : α → D} (g : Good k e) (a : α) (hk : k ≤ 64 := by decide) : neF (e a) (e a) = some (.bool false) := by
  rw [g.neF a a hk, decide_eq_true rfl]
  rfl
theorem term_eq (c : Str) : neF (termD c) (termD c) = some (.bool false) := ne_self (e := fun p : Str × Str => PyData.tuple [.str p.1, .str p.2]) (good_str.pair good_str) ("error", c)
end Rn
end
section
set_option Elab.async false
set_option linter.all false
set_option maxRecDepth 100000
set_option maxHeartbeats 4000000
namespace Rn
open PySem PySem.Spec L2
theorem md0 {i j : Int} (h : 0 < j) : modF (.int i) (.int j) = some (.int (i % j)) := by rw [ev_mod, if_pos h]
theorem fd0 {i j : Int} (h : 0 < j) (h2 : j.natAbs < 2 ^ 400) : fdivF (.int i) (.int j) = some (.int (i / j)) := by rw [ev_fdv, if_pos ⟨h, h2⟩]
theorem ev_sst (i : Nat) (fe fk : M D) (r : Rho) : sSetItem i fe fk r = sBind fe (fun d => fun ρ => match cellD ρ[i]? with
  | some _ => sBind fk (fun kd => fun ρ => match asInt kd with
    | some k => (match setD ρ i k d with
      | some r => .nx r
      | none => .no)
    | none => .no) ρ
  | none => .no) r := rfl
theorem mul_big {i j : Int} (h1 : i.natAbs < 2 ^ 400) (h2 : j.natAbs < 2 ^ 400) : mulF (.int i) (.int j) = some (.int (i * j)) := by
  show (if (isSmall i || isSmall j) = true then some (PyData.int (i * j)) else if i.natAbs < 2 ^ 400 ∧ j.natAbs < 2 ^ 400 then some (PyData.int (i * j)) else none) = _
  split
  · rfl
  · rw [if_pos ⟨h1, h2⟩]
theorem lt_big {i : Int} {n : Nat} (h0 : 0 ≤ i) (h : i < n) (hn : n ≤ 2 ^ 400) : i.natAbs < 2 ^ 400 := by
  have : i.natAbs < n := by omega
  exact Nat.lt_of_lt_of_le this hn
theorem drawn_ok (c k : Int) : ∃ x, g__law_drawn [.int c, .int k] = .ok (.int x) := by
  have e1 := ev_mul c 6364136223846793005 (by rw [show isSmall 6364136223846793005 = true from rfl, Bool.or_true])
  have e2 := ev_mul (k + 1) 1442695040888963407 (by rw [show isSmall 1442695040888963407 = true from rfl, Bool.or_true])
  have m1 : modF (.int (c * 6364136223846793005 + (k + 1) * 1442695040888963407)) (.int 340282366920938463463374607431768211507) = some (.int ((c * 6364136223846793005 + (k + 1) * 1442695040888963407) % 340282366920938463463374607431768211507)) := md0 (by decide)
  have b1 := Int.emod_nonneg (c * 6364136223846793005 + (k + 1) * 1442695040888963407) (show (340282366920938463463374607431768211507 : Int) ≠ 0 by decide)
  have b2 := Int.emod_lt_of_pos (c * 6364136223846793005 + (k + 1) * 1442695040888963407) (show (0 : Int) < 340282366920938463463374607431768211507 by decide)
  generalize (c * 6364136223846793005 + (k + 1) * 1442695040888963407) % 340282366920938463463374607431768211507 = x1 at m1 b1 b2
  have e3 := mul_big (lt_big (n := 340282366920938463463374607431768211507) b1 b2 (by decide)) (lt_big (n := 340282366920938463463374607431768211507) b1 b2 (by decide))
  have m2 : modF (.int (x1 * x1)) (.int 340282366920938463463374607431768211297) = some (.int ((x1 * x1) % 340282366920938463463374607431768211297)) := md0 (by decide)
  have b3 := Int.emod_nonneg (x1 * x1) (show (340282366920938463463374607431768211297 : Int) ≠ 0 by decide)
  have b4 := Int.emod_lt_of_pos (x1 * x1) (show (0 : Int) < 340282366920938463463374607431768211297 by decide)
  generalize (x1 * x1) % 340282366920938463463374607431768211297 = x2 at m2 b3 b4
  have m3 : modF (.int x2) (.int 18446744073709551557) = some (.int (x2 % 18446744073709551557)) := md0 (by decide)
  have d3 : fdivF (.int x2) (.int 18446744073709551557) = some (.int (x2 / 18446744073709551557)) := fd0 (by decide) (by decide)
  have b5 := Int.emod_nonneg x2 (show (18446744073709551557 : Int) ≠ 0 by decide)
  have b6 := Int.emod_lt_of_pos x2 (show (0 : Int) < 18446744073709551557 by decide)
  have b7 : 0 ≤ x2 / 18446744073709551557 := Int.ediv_nonneg b3 (by decide)
  have b8 : x2 / 18446744073709551557 < 18446744073709551716 := Int.ediv_lt_of_lt_mul (by decide) (by omega)
  generalize x2 % 18446744073709551557 = y1 at m3 b5 b6
  generalize x2 / 18446744073709551557 = y2 at d3 b7 b8
  have e4 := mul_big (i := y1 + 1) (j := y2 + 1) (lt_big (n := 340282366920938463463374607431768211297) (by omega) (by omega) (by decide)) (lt_big (n := 340282366920938463463374607431768211297) (by omega) (by omega) (by decide))
  have b9 : (y1 + 1) * (y2 + 1) ≤ 18446744073709551717 * 18446744073709551717 := Int.mul_le_mul (by omega) (by omega) (by omega) (by decide)
  have b10 : 0 ≤ (y1 + 1) * (y2 + 1) := Int.mul_nonneg (by omega) (by omega)
  generalize (y1 + 1) * (y2 + 1) = z at e4 b9 b10
  have e5 := mul_big (i := z) (j := x2) (lt_big (n := 18446744073709551717 * 18446744073709551717 + 1) b10 (by omega) (by decide)) (lt_big (n := 340282366920938463463374607431768211297) b3 b4 (by decide))
  have m4 : modF (.int (z * x2)) (.int 340282366920938463463374607431768211507) = some (.int ((z * x2) % 340282366920938463463374607431768211507)) := md0 (by decide)
  refine ⟨(z * x2) % 340282366920938463463374607431768211507, ?_⟩
  simp -implicitDefEqProofs only [g__law_drawn, b__law_drawn, ev_foc, ev_fo0, ev_app, ev_enm, ev_rs, ev_lc', ev_g0, ev_gc, ev_y, big, ev_bnd, ev_ret, ev_lfS, ev_lfN, ev_stk, ev_vr, ev_vrT, ev_mT, ev_cF, ev_cO, ev_cB, ev_dd, ev_ds, ev_d0, ev_dc, ev_opr, ev_unr, ev_nl, ev_cns, ev_cbr, ev_ab, ev_ai, ev_tst', ev_an, ev_orr, ev_nt, ev_anV, ev_orV', ev_ntV, ev_ifm, ev_ch, ev_tp, ev_ls, ev_cl, ev_cl0, ev_isr, ev_sqI, ev_sqL, ev_sqT, ev_sb, ev_ss, ev_sn, ev_sa, ev_so, ev_sr, ev_sdr, ev_si, ev_sp, ev_p0, ev_pF, ev_pT, ev_sf, ev_hn, ev_ht, ev_hc, ev_h0, ev_cal, ev_f1, ev_f2, ev_f3, ev_f4, ev_cmp, ev_add, ev_sub, ev_isn, ev_n1, ev_n2, ev_n3, ev_n4, ev_ixL, ev_ixT, ev_a0, ev_a1, ev_a2, ev_lL, ev_lT, ev_tL, ev_tT, ev_liT, ev_abs, ev_mx, ev_mn, ev_mx3, ev_t1, ev_t2, ev_t3, noIN_n, noIN_b, noIN_i, noIN_s, noIN_l, noIN_t, ev_eqI, ev_neI, List.getElem?_cons_zero, List.getElem?_cons_succ, List.set_cons_zero, List.set_cons_succ, List.length_cons, List.length_nil, List.map_cons, List.map_nil, List.replicate_succ, List.replicate_zero, List.cons_append, List.nil_append, List.append_nil, Option.bind_some, Option.map_some, Nat.reduceAdd, Nat.reduceSub, Nat.reduceLT, Nat.reduceLeDiff, Nat.reduceEqDiff, if_true, if_false, reduceIte, Bool.false_eq_true, wipeR, restR, e1, e2, m1, e3, m2, m3, d3, e4, e5, m4]
theorem pow18 : powF (.int 10) (.int 18) = some (.int 1000000000000000000) := by kernel_rfl
theorem set0 (c k x : D) : setD [.bw (.list [c, k]), y1, y2] 0 0 x = some [.bw (.list [x, k]), y1, y2] := by
  simp [setD, cellD, ixN, putCell]
theorem set1 (c k x : D) : setD [.bw (.list [c, k]), y1, y2] 0 1 x = some [.bw (.list [c, x]), y1, y2] := by
  simp [setD, cellD, ixN, putCell]
theorem roll_ok (c k : Int) (m : Nat) (hm : 0 < m) (hm2 : m ≤ 1000000) : ∃ (r : Nat) (c' k' : Int), r < m ∧ noEx c__law_roll (.list [.int c, .int k]) [.int (m : Int)] = .ok (.int (r : Int)) (.list [.int c', .int k']) := by
  have hm3 : (0 : Int) < (m : Int) := by omega
  have hm4 : (m : Int).natAbs < 2 ^ 400 := by
    have : (m : Int).natAbs = m := by omega
    rw [this]
    exact Nat.lt_of_le_of_lt hm2 (by decide)
  have md : ∀ i : Int, modF (.int i) (.int (m : Int)) = some (.int (i % m)) := fun i => md0 hm3
  have fd : ∀ i : Int, fdivF (.int i) (.int (m : Int)) = some (.int (i / m)) := fun i => fd0 hm3 hm4
  have f8 : ∀ i : Int, fdivF (.int i) (.int 8) = some (.int (i / 8)) := fun i => fd0 (by decide) (by decide)
  have rem : ∀ i : Int, ∃ r : Nat, r < m ∧ i % (m : Int) = (r : Int) := fun i => by
    have h1 := Int.emod_nonneg i (show (m : Int) ≠ 0 by omega)
    have h2 := Int.emod_lt_of_pos i hm3
    exact ⟨(i % (m : Int)).toNat, by omega, by omega⟩
  by_cases h : c ≥ 1000000000000000000
  · obtain ⟨r, hr, er⟩ := rem c
    refine ⟨r, c / m, k, hr, ?_⟩
    have h' : (1000000000000000000 : Int) ≤ c := h
    simp -implicitDefEqProofs only [noEx, c__law_roll, callB, startR, b__law_roll, ev_foc, ev_fo0, ev_app, ev_enm, ev_rs, ev_lc', ev_g0, ev_gc, ev_y, big, ev_bnd, ev_ret, ev_lfS, ev_lfN, ev_stk, ev_vr, ev_vrT, ev_mT, ev_cF, ev_cO, ev_cB, ev_dd, ev_ds, ev_d0, ev_dc, ev_opr, ev_unr, ev_nl, ev_cns, ev_cbr, ev_ab, ev_ai, ev_tst', ev_an, ev_orr, ev_nt, ev_anV, ev_orV', ev_ntV, ev_ifm, ev_ch, ev_tp, ev_ls, ev_cl, ev_cl0, ev_isr, ev_sqI, ev_sqL, ev_sqT, ev_sb, ev_ss, ev_sn, ev_sa, ev_so, ev_sr, ev_sdr, ev_si, ev_sp, ev_p0, ev_pF, ev_pT, ev_sf, ev_hn, ev_ht, ev_hc, ev_h0, ev_cal, ev_f1, ev_f2, ev_f3, ev_f4, ev_cmp, ev_add, ev_sub, ev_isn, ev_n1, ev_n2, ev_n3, ev_n4, ev_ixL, ev_ixT, ev_a0, ev_a1, ev_a2, ev_lL, ev_lT, ev_tL, ev_tT, ev_liT, ev_abs, ev_mx, ev_mn, ev_mx3, ev_t1, ev_t2, ev_t3, noIN_n, noIN_b, noIN_i, noIN_s, noIN_l, noIN_t, ev_eqI, ev_neI, List.getElem?_cons_zero, List.getElem?_cons_succ, List.set_cons_zero, List.set_cons_succ, List.length_cons, List.length_nil, List.map_cons, List.map_nil, List.replicate_succ, List.replicate_zero, List.cons_append, List.nil_append, List.append_nil, Option.bind_some, Option.map_some, Nat.reduceAdd, Nat.reduceSub, Nat.reduceLT, Nat.reduceLeDiff, Nat.reduceEqDiff, if_true, if_false, reduceIte, Bool.false_eq_true, wipeR, restR, ev_sst, pow18, h', decide_true, md, fd, set0, finB, bwOf, er]
  · obtain ⟨x, ex⟩ := drawn_ok c (k + 1)
    obtain ⟨r, hr, er⟩ := rem (x / 8)
    refine ⟨r, c, k + 1, hr, ?_⟩
    have h' : ¬ (1000000000000000000 : Int) ≤ c := h
    simp -implicitDefEqProofs only [noEx, c__law_roll, callB, startR, b__law_roll, ev_foc, ev_fo0, ev_app, ev_enm, ev_rs, ev_lc', ev_g0, ev_gc, ev_y, big, ev_bnd, ev_ret, ev_lfS, ev_lfN, ev_stk, ev_vr, ev_vrT, ev_mT, ev_cF, ev_cO, ev_cB, ev_dd, ev_ds, ev_d0, ev_dc, ev_opr, ev_unr, ev_nl, ev_cns, ev_cbr, ev_ab, ev_ai, ev_tst', ev_an, ev_orr, ev_nt, ev_anV, ev_orV', ev_ntV, ev_ifm, ev_ch, ev_tp, ev_ls, ev_cl, ev_cl0, ev_isr, ev_sqI, ev_sqL, ev_sqT, ev_sb, ev_ss, ev_sn, ev_sa, ev_so, ev_sr, ev_sdr, ev_si, ev_sp, ev_p0, ev_pF, ev_pT, ev_sf, ev_hn, ev_ht, ev_hc, ev_h0, ev_cal, ev_f1, ev_f2, ev_f3, ev_f4, ev_cmp, ev_add, ev_sub, ev_isn, ev_n1, ev_n2, ev_n3, ev_n4, ev_ixL, ev_ixT, ev_a0, ev_a1, ev_a2, ev_lL, ev_lT, ev_tL, ev_tT, ev_liT, ev_abs, ev_mx, ev_mn, ev_mx3, ev_t1, ev_t2, ev_t3, noIN_n, noIN_b, noIN_i, noIN_s, noIN_l, noIN_t, ev_eqI, ev_neI, List.getElem?_cons_zero, List.getElem?_cons_succ, List.set_cons_zero, List.set_cons_succ, List.length_cons, List.length_nil, List.map_cons, List.map_nil, List.replicate_succ, List.replicate_zero, List.cons_append, List.nil_append, List.append_nil, Option.bind_some, Option.map_some, Nat.reduceAdd, Nat.reduceSub, Nat.reduceLT, Nat.reduceLeDiff, Nat.reduceEqDiff, if_true, if_false, reduceIte, Bool.false_eq_true, wipeR, restR, ev_sst, pow18, h', decide_false, md, fd, f8, set1, ex, finB, bwOf, er]
def IsDice (d : D) : Prop := ∃ c k : Int, d = .list [.int c, .int k]
theorem roll_d {d : D} (h : IsDice d) (m : Nat) (hm : 0 < m) (hm2 : m ≤ 1000000) : ∃ (r : Nat) (d' : D), r < m ∧ IsDice d' ∧ noEx c__law_roll d [.int (m : Int)] = .ok (.int (r : Int)) d' := by
  obtain ⟨c, k, rfl⟩ := h
  obtain ⟨r, c', k', h1, h2⟩ := roll_ok c k m hm hm2
  exact ⟨r, _, h1, ⟨c', k', rfl⟩, h2⟩
theorem roll_n {d : D} (h : IsDice d) (M : Int) (m : Nat) (e : M = m) (hm : 0 < m) (hm2 : m ≤ 1000000) : ∃ (r : Nat) (d' : D), r < m ∧ IsDice d' ∧ noEx c__law_roll d [.int M] = .ok (.int (r : Int)) d' := by
  subst e
  exact roll_d h m hm hm2
theorem callB_ok {g : D → List D → RB} {i : Nat} {fa : M (List D)} {ρ r r2 : Rho} {ds : List D} {x d0 d d1 : D} (h0 : cellD ρ[i]? = some x) (ha : fa ρ = .ok ds r) (h1 : cellD r[i]? = some d0) (hg : g d0 ds = .ok d d1) (hp : putCell r i d1 = some r2) : mCallB g i fa ρ = .ok d r2 := by
  unfold mCallB
  rw [h0]
  simp only
  rw [ev_bnd, ha]
  simp only [h1, hg, hp]
theorem rho0_dice (n : Nat) (c : Int) : ∃ d, IsDice d ∧ rho0 n c = .no :: .bw d :: List.replicate (n - 2) .no := ⟨_, ⟨c, 0, rfl⟩, rfl⟩
end Rn
end
section
set_option Elab.async false
set_option linter.all false
set_option maxRecDepth 100000
set_option maxHeartbeats 4000000
namespace Rn
open PySem PySem.Spec L2
abbrev Src := Option (Bool × Fin 10)
abbrev Arc := Src × Nat × Nat
abbrev Net := Nat × List (List Arc) × List Nat
theorem fin10 {P : Fin 10 → Prop} (h0 : P 0) (h1 : P 1) (h2 : P 2) (h3 : P 3) (h4 : P 4) (h5 : P 5) (h6 : P 6) (h7 : P 7) (h8 : P 8) (h9 : P 9) : ∀ n, P n
  | ⟨0, _⟩ => h0
  | ⟨1, _⟩ => h1
  | ⟨2, _⟩ => h2
  | ⟨3, _⟩ => h3
  | ⟨4, _⟩ => h4
  | ⟨5, _⟩ => h5
  | ⟨6, _⟩ => h6
  | ⟨7, _⟩ => h7
  | ⟨8, _⟩ => h8
  | ⟨9, _⟩ => h9
def srcS : Src → Str
  | none => "s"
  | some (false, n) => [("u0" : Str), "u1", "u2", "u3", "u4", "u5", "u6", "u7", "u8", "u9"].getD n.val "s"
  | some (true, n) => [("e0" : Str), "e1", "e2", "e3", "e4", "e5", "e6", "e7", "e8", "e9"].getD n.val "s"
def srcD (s : Src) : D := .str (srcS s)
def allSrc : List Src := none :: ((List.finRange 10).map fun n => some (false, n)) ++ (List.finRange 10).map fun n => some (true, n)
theorem all_src (s : Src) : s ∈ allSrc := by
  unfold allSrc
  rcases s with _ | ⟨_ | _, n⟩
  · simp
  · simp
  · simp
theorem src_eqv : ∀ a ∈ allSrc, ∀ b ∈ allSrc, PyData.eqv (srcD a) (srcD b) = decide (a = b) := by decide +kernel
theorem good_src : Good 0 srcD := ⟨fun _ => rfl, fun _ => Nat.le_refl _, fun a b => src_eqv a (all_src a) b (all_src b)⟩
def arcD (a : Arc) : D := .tuple [srcD a.1, .int (a.2.1 : Nat), .int (a.2.2 : Nat)]
def rowD (r : List Arc) : D := .tuple (r.map arcD)
def rowsD (r : List (List Arc)) : D := .tuple (r.map rowD)
def outsD (o : List Nat) : D := .tuple (o.map fun n : Nat => PyData.int (n : Int))
theorem good_outs : Good 1 outsD := good_nat.tup
def netD (n : Net) : D := .tuple [.int (n.1 : Nat), rowsD n.2.1, outsD n.2.2]
instance decArc : DecidableEq Arc := fun a b => instDecidableEqProd a b
instance decRow : DecidableEq (List Arc) := fun a b => inferInstanceAs (Decidable (a = b))
instance decRows : DecidableEq (List (List Arc)) := fun a b => inferInstanceAs (Decidable (a = b))
instance decNet : DecidableEq Net := fun a b => instDecidableEqProd a b
theorem rng1_n {f : M (List D)} {r : Rho} {n : Nat} (h : f r = .ok [.int (n : Int)] r) (hn : n ≤ 1000000) : mRng1 f r = .ok ((List.range n).map fun k : Nat => PyData.int (0 + (k : Int))) r := by
  rw [ev_rn1, ev_bnd, h]
  have h1 : (n : Int) ≤ 1000000 ∧ -1000000 ≤ (n : Int) := by omega
  simp only [if_pos h1, rangeD_map, ev_ret, Int.toNat_natCast]
def evOf (s : Src) : Option Nat := match s with
  | some (true, n) => some n.val
  | _ => none
theorem w_event (s : Src) : g_event_of [srcD s] = .ok (oD ((evOf s).map fun k : Nat => (k : Int))) := by
  rcases s with _ | ⟨_ | _, n⟩
  · kernel_rfl
  · revert n
    exact fin10 (by kernel_rfl) (by kernel_rfl) (by kernel_rfl) (by kernel_rfl) (by kernel_rfl) (by kernel_rfl) (by kernel_rfl) (by kernel_rfl) (by kernel_rfl) (by kernel_rfl)
  · revert n
    exact fin10 (by kernel_rfl) (by kernel_rfl) (by kernel_rfl) (by kernel_rfl) (by kernel_rfl) (by kernel_rfl) (by kernel_rfl) (by kernel_rfl) (by kernel_rfl) (by kernel_rfl)
theorem dig_s : ∀ n : Fin 10, strF [.int (n.val : Int)] = some (.str (toString (n.val : Int))) := fin10 (by kernel_rfl) (by kernel_rfl) (by kernel_rfl) (by kernel_rfl) (by kernel_rfl) (by kernel_rfl) (by kernel_rfl) (by kernel_rfl) (by kernel_rfl) (by kernel_rfl)
theorem dig_e : ∀ n : Fin 10, addF (.str "e") (.str (toString (n.val : Int))) = some (srcD (some (true, n))) := fin10 (by kernel_rfl) (by kernel_rfl) (by kernel_rfl) (by kernel_rfl) (by kernel_rfl) (by kernel_rfl) (by kernel_rfl) (by kernel_rfl) (by kernel_rfl) (by kernel_rfl)
theorem dig_u : ∀ n : Fin 10, addF (.str "u") (.str (toString (n.val : Int))) = some (srcD (some (false, n))) := fin10 (by kernel_rfl) (by kernel_rfl) (by kernel_rfl) (by kernel_rfl) (by kernel_rfl) (by kernel_rfl) (by kernel_rfl) (by kernel_rfl) (by kernel_rfl) (by kernel_rfl)
def srcH (s : Src) : Str := match s with
  | none => "s"
  | some (false, _) => "u"
  | some (true, _) => "e"
theorem src_head (s : Src) : ixF (srcD s) (.int 0) = some (.str (srcH s)) := by
  rcases s with _ | ⟨_ | _, n⟩
  · kernel_rfl
  · revert n
    exact fin10 (by kernel_rfl) (by kernel_rfl) (by kernel_rfl) (by kernel_rfl) (by kernel_rfl) (by kernel_rfl) (by kernel_rfl) (by kernel_rfl) (by kernel_rfl) (by kernel_rfl)
  · revert n
    exact fin10 (by kernel_rfl) (by kernel_rfl) (by kernel_rfl) (by kernel_rfl) (by kernel_rfl) (by kernel_rfl) (by kernel_rfl) (by kernel_rfl) (by kernel_rfl) (by kernel_rfl)
theorem src_tail : ∀ n : Fin 10, slF (srcD (some (true, n))) (some 1) none = some (.str (toString (n.val : Int))) := fin10 (by kernel_rfl) (by kernel_rfl) (by kernel_rfl) (by kernel_rfl) (by kernel_rfl) (by kernel_rfl) (by kernel_rfl) (by kernel_rfl) (by kernel_rfl) (by kernel_rfl)
theorem dig_i : ∀ n : Fin 10, intF [.str (toString (n.val : Int))] = some (.int (n.val : Int)) := fin10 (by kernel_rfl) (by kernel_rfl) (by kernel_rfl) (by kernel_rfl) (by kernel_rfl) (by kernel_rfl) (by kernel_rfl) (by kernel_rfl) (by kernel_rfl) (by kernel_rfl)
end Rn
end
section
set_option Elab.async false
set_option linter.all false
set_option maxRecDepth 100000
set_option maxHeartbeats 4000000
namespace Rn
open PySem PySem.Spec L2
abbrev Way := List (Nat × Nat)
abbrev Nd := Nat × Way
abbrev Rows := List (List Arc)
def openB (first : Nat) (n : Nd) (s : Src) : Bool := match evOf s with
  | some j => decide (first < j) && (!(n.2.map (·.1)).contains j && !decide (j = n.1))
  | none => false
def closes (rows : Rows) (first : Nat) (n : Nd) : List Way := ((rows.getD n.1 []).zipIdx.filter fun p => decide (evOf p.1.1 = some first)).map fun p => n.2 ++ [(n.1, p.2)]
def opens (rows : Rows) (first : Nat) (n : Nd) : List Nd := ((rows.getD n.1 []).zipIdx.filter fun p => openB first n p.1.1).map fun p => ((evOf p.1.1).getD 0, n.2 ++ [(n.1, p.2)])
def tree (rows : Rows) (first : Nat) : Nat → Nd → List Way
  | 0, n => closes rows first n
  | k + 1, n => closes rows first n ++ (opens rows first n).flatMap (tree rows first k)
/-- sources are events of the net -/
def SrcOk (rows : Rows) : Prop := ∀ row ∈ rows, ∀ a ∈ row, ∀ j, evOf a.1 = some j → j < rows.length
def cands (rows : Rows) (first : Nat) (n : Nd) : List Nat := (List.range rows.length).filter fun j => decide (first < j) && (!(n.2.map (·.1)).contains j && !decide (j = n.1))
theorem getD_memR {rows : Rows} {i : Nat} {a : Arc} (h : a ∈ rows.getD i []) : ∃ row ∈ rows, a ∈ row := by
  rw [List.getD_eq_getElem?_getD] at h
  cases q : rows[i]? with
  | none => rw [q] at h; simp at h
  | some r => rw [q] at h; exact ⟨r, List.mem_of_getElem? q, h⟩
theorem open_mem {rows : Rows} {first : Nat} {n m : Nd} (hs : SrcOk rows) (h : m ∈ opens rows first n) : m.1 ∈ cands rows first n ∧ ∃ p, m.2 = n.2 ++ [(n.1, p)] := by
  unfold opens at h
  obtain ⟨⟨a, p⟩, hp, rfl⟩ := List.mem_map.mp h
  obtain ⟨h1, h2⟩ := List.mem_filter.mp hp
  have ha : a ∈ rows.getD n.1 [] := by
    have := List.mem_zipIdx' h1
    rw [this.2]
    exact List.getElem_mem _
  obtain ⟨row, hr, har⟩ := getD_memR ha
  refine ⟨?_, p, rfl⟩
  unfold openB at h2
  cases q : evOf a.1 with
  | none => simp only [q] at h2; cases h2
  | some j =>
    simp only [q] at h2
    have := hs row hr a har j q
    simp only [q, Option.getD_some]
    exact List.mem_filter.mpr ⟨List.mem_range.mpr this, h2⟩
theorem filter_lt {α : Type} {p q : α → Bool} : ∀ {xs : List α} {x : α}, (∀ y, q y = true → p y = true) → x ∈ xs → p x = true → q x = false → (xs.filter q).length < (xs.filter p).length
  | [], x, _, h, _, _ => by simp at h
  | y :: ys, x, hi, h, hp, hq => by
    have le : ∀ zs : List α, (zs.filter q).length ≤ (zs.filter p).length := fun zs => by
      induction zs with
      | nil => exact Nat.le_refl _
      | cons z zs ih =>
        by_cases c : q z = true
        · rw [List.filter_cons_of_pos c, List.filter_cons_of_pos (hi z c), List.length_cons, List.length_cons]; omega
        · rw [List.filter_cons_of_neg c]
          by_cases c2 : p z = true
          · rw [List.filter_cons_of_pos c2, List.length_cons]; omega
          · rw [List.filter_cons_of_neg c2]; exact ih
    rcases List.mem_cons.mp h with rfl | h
    · rw [List.filter_cons_of_pos hp, List.filter_cons_of_neg (by rw [hq]; decide), List.length_cons]
      have := le ys
      omega
    · have ih := filter_lt hi h hp hq
      by_cases c : q y = true
      · rw [List.filter_cons_of_pos c, List.filter_cons_of_pos (hi y c), List.length_cons, List.length_cons]; omega
      · rw [List.filter_cons_of_neg c]
        by_cases c2 : p y = true
        · rw [List.filter_cons_of_pos c2, List.length_cons]; omega
        · rw [List.filter_cons_of_neg c2]; exact ih
theorem open_less {rows : Rows} {first : Nat} {n m : Nd} (hs : SrcOk rows) (h : m ∈ opens rows first n) : (cands rows first m).length < (cands rows first n).length := by
  obtain ⟨h1, p, h2⟩ := open_mem hs h
  unfold cands at h1 ⊢
  obtain ⟨h3, h4⟩ := List.mem_filter.mp h1
  refine filter_lt (x := m.1) (fun y hy => ?_) h3 h4 ?_
  · rw [h2] at hy
    simp only [Bool.and_eq_true, decide_eq_true_eq, Bool.not_eq_true', List.map_append, List.map_cons, List.map_nil, List.contains_eq_mem, List.mem_append, List.mem_singleton, decide_eq_false_iff_not, not_or] at hy ⊢
    exact ⟨hy.1, hy.2.1.1, hy.2.1.2⟩
  · simp
theorem cands_le (rows : Rows) (first : Nat) (n : Nd) : (cands rows first n).length ≤ rows.length := by
  unfold cands
  have := List.length_filter_le (fun j => decide (first < j) && (!(n.2.map (·.1)).contains j && !decide (j = n.1))) (List.range rows.length)
  simpa using this
theorem no_open {rows : Rows} {first : Nat} {n : Nd} (hs : SrcOk rows) (h : (cands rows first n).length = 0) : opens rows first n = [] := by
  cases q : opens rows first n with
  | nil => rfl
  | cons m ms =>
    have := open_less hs (show m ∈ opens rows first n by rw [q]; exact List.mem_cons_self ..)
    omega
theorem tree_more {rows : Rows} {first : Nat} (hs : SrcOk rows) : ∀ (k : Nat) (n : Nd), (cands rows first n).length ≤ k → tree rows first (k + 1) n = tree rows first k n
  | 0, n, h => by
    show closes rows first n ++ (opens rows first n).flatMap _ = closes rows first n
    rw [no_open hs (by omega)]
    simp
  | k + 1, n, h => by
    show closes rows first n ++ (opens rows first n).flatMap (tree rows first (k + 1)) = closes rows first n ++ (opens rows first n).flatMap (tree rows first k)
    congr 1
    unfold List.flatMap
    congr 1
    refine List.map_congr_left fun m hm => tree_more hs k m ?_
    have := open_less hs hm
    omega
def Tr (rows : Rows) (first : Nat) (n : Nd) : List Way := tree rows first rows.length n
theorem Tr_eq {rows : Rows} (first : Nat) (hs : SrcOk rows) (n : Nd) : Tr rows first n = closes rows first n ++ (opens rows first n).flatMap (Tr rows first) := by
  have := tree_more (first := first) hs rows.length n (cands_le rows first n)
  unfold Tr
  rw [← this]
  rfl
def size (rows : Rows) (first : Nat) : Nat → Nd → Nat
  | 0, _ => 1
  | k + 1, n => 1 + ((opens rows first n).map (size rows first k)).sum
theorem size_more {rows : Rows} {first : Nat} (hs : SrcOk rows) : ∀ (k : Nat) (n : Nd), (cands rows first n).length ≤ k → size rows first (k + 1) n = size rows first k n
  | 0, n, h => by
    show 1 + ((opens rows first n).map _).sum = 1
    rw [no_open hs (by omega)]
    rfl
  | k + 1, n, h => by
    show 1 + ((opens rows first n).map (size rows first (k + 1))).sum = 1 + ((opens rows first n).map (size rows first k)).sum
    congr 2
    refine List.map_congr_left fun m hm => size_more hs k m ?_
    have := open_less hs hm
    omega
def Sz (rows : Rows) (first : Nat) (n : Nd) : Nat := size rows first rows.length n
theorem Sz_eq {rows : Rows} (first : Nat) (hs : SrcOk rows) (n : Nd) : Sz rows first n = 1 + ((opens rows first n).map (Sz rows first)).sum := by
  have := size_more (first := first) hs rows.length n (cands_le rows first n)
  unfold Sz
  rw [← this]
  rfl
/-- bound of the sizes, with at most a arcs in a row -/
def bnd' (a : Nat) : Nat → Nat
  | 0 => 1
  | k + 1 => 1 + a * bnd' a k
theorem sum_le {α : Type} {f : α → Nat} {b : Nat} : ∀ {xs : List α}, (∀ x ∈ xs, f x ≤ b) → (xs.map f).sum ≤ xs.length * b
  | [], _ => by simp
  | x :: xs, h => by
    have h1 := h x (List.mem_cons_self ..)
    have h2 := sum_le (f := f) (b := b) (xs := xs) fun y hy => h y (List.mem_cons_of_mem _ hy)
    rw [List.map_cons, List.sum_cons, List.length_cons, Nat.succ_mul]
    omega
theorem opens_len {rows : Rows} {first a : Nat} (ha : ∀ r ∈ rows, r.length ≤ a) (n : Nd) : (opens rows first n).length ≤ a := by
  unfold opens
  rw [List.length_map]
  refine Nat.le_trans (List.length_filter_le _ _) ?_
  rw [List.length_zipIdx, List.getD_eq_getElem?_getD]
  cases q : rows[n.1]? with
  | none => simp
  | some r => exact ha r (List.mem_of_getElem? q)
theorem closes_len {rows : Rows} {first a : Nat} (ha : ∀ r ∈ rows, r.length ≤ a) (n : Nd) : (closes rows first n).length ≤ a := by
  unfold closes
  rw [List.length_map]
  refine Nat.le_trans (List.length_filter_le _ _) ?_
  rw [List.length_zipIdx, List.getD_eq_getElem?_getD]
  cases q : rows[n.1]? with
  | none => simp
  | some r => exact ha r (List.mem_of_getElem? q)
theorem size_le {rows : Rows} {first a : Nat} (ha : ∀ r ∈ rows, r.length ≤ a) : ∀ (k : Nat) (n : Nd), size rows first k n ≤ bnd' a k
  | 0, _ => Nat.le_refl _
  | k + 1, n => by
    show 1 + ((opens rows first n).map (size rows first k)).sum ≤ 1 + a * bnd' a k
    have h1 := sum_le (f := size rows first k) (b := bnd' a k) (xs := opens rows first n) fun m _ => size_le ha k m
    have h2 := opens_len (first := first) ha n
    have h3 : (opens rows first n).length * bnd' a k ≤ a * bnd' a k := Nat.mul_le_mul_right _ h2
    omega
theorem flat_len {α β : Type} {f : α → List β} {g : α → Nat} {c : Nat} : ∀ {xs : List α}, (∀ x ∈ xs, (f x).length ≤ c * g x) → (xs.flatMap f).length ≤ c * (xs.map g).sum
  | [], _ => by simp
  | x :: xs, h => by
    have h1 := h x (List.mem_cons_self ..)
    have h2 := flat_len (f := f) (g := g) (c := c) (xs := xs) fun y hy => h y (List.mem_cons_of_mem _ hy)
    rw [List.flatMap_cons, List.length_append, List.map_cons, List.sum_cons, Nat.mul_add]
    omega
theorem tree_len {rows : Rows} {first a : Nat} (ha : ∀ r ∈ rows, r.length ≤ a) : ∀ (k : Nat) (n : Nd), (tree rows first k n).length ≤ a * size rows first k n
  | 0, n => by
    have := closes_len (first := first) ha n
    show (closes rows first n).length ≤ a * 1
    omega
  | k + 1, n => by
    have h1 := closes_len (first := first) ha n
    have h2 := flat_len (f := tree rows first k) (g := size rows first k) (c := a) (xs := opens rows first n) fun m _ => tree_len ha k m
    show (closes rows first n ++ (opens rows first n).flatMap (tree rows first k)).length ≤ a * (1 + ((opens rows first n).map (size rows first k)).sum)
    rw [List.length_append, Nat.mul_add]
    omega
end Rn
end
section
set_option Elab.async false
set_option linter.all false
set_option maxRecDepth 100000
set_option maxHeartbeats 4000000
namespace Rn
open PySem PySem.Spec L2
theorem in_good {k : Nat} {α : Type} [DecidableEq α] {e : α → D} (g : Good k e) (hk : k ≤ 63) (neg : Bool) (x : α) (xs : List α) : inAF neg (e x) (.list (xs.map e)) = some (.bool (if neg then !decide (x ∈ xs) else decide (x ∈ xs))) := by
  show inF neg (e x) (.list (xs.map e)) = _
  unfold inF
  simp only [seqD]
  have ok : inOk (e x) (xs.map e) = true := by
    unfold inOk
    rw [g.plain, g.plainAll]
    have := g.depth x
    simp only [Bool.true_and, decide_eq_true_eq]
    omega
  rw [if_pos ok]
  have an : (xs.map e).any (fun z => PyData.eqv z (e x)) = decide (x ∈ xs) := by
    induction xs with
    | nil => simp
    | cons y ys ih =>
      have ok2 : inOk (e x) (ys.map e) = true := by
        unfold inOk
        rw [g.plain, g.plainAll]
        have := g.depth x
        simp only [Bool.true_and, decide_eq_true_eq]
        omega
      rw [List.map_cons, List.any_cons, ih ok2, g.eqv]
      by_cases h : y = x
      · subst h; simp
      · simp [h, Ne.symm h, eq_comm]
  rw [an]
theorem pop_ok {i : Nat} {ρ r2 : Rho} {ds : List D} {d : D} (h : cellD ρ[i]? = some (.list (ds ++ [d]))) (hp : putCell ρ i (.list ds) = some r2) : mPop i ρ = .ok d r2 := by
  unfold mPop
  rw [h]
  simp only [List.length_append, List.length_singleton, Nat.add_sub_cancel]
  rw [List.getElem?_append_right (Nat.le_refl _), Nat.sub_self, List.getElem?_cons_zero]
  simp only [List.dropLast_concat, hp]
theorem enumN {α : Type} (e : α → D) : ∀ (xs : List α) (n : Nat), enumD n (xs.map e) = (xs.zipIdx n).map fun p => .tuple [.int (p.2 : Nat), e p.1]
  | [], _ => rfl
  | x :: xs, n => by simp [enumD, enumN e xs (n + 1), List.zipIdx_cons]
theorem enum_ok {α : Type} {e : α → D} {xs : List α} {f : M (List D)} {ρ r : Rho} {d : D} (h : f ρ = .ok [d] r) (hd : seqD d = some (xs.map e)) : mEnum f ρ = .ok (xs.zipIdx.map fun p => .tuple [.int (p.2 : Nat), e p.1]) r := by
  rw [ev_enm, ev_bnd, h]
  simp only [hd, Option.map_some, enumN]
  rfl
theorem wp_app {f : M D} {i : Nat} {Q : Rho → Prop} {ρ r r2 : Rho} {d : D} {ds : List D} (h0 : cellD ρ[i]? = some (.list ds)) (he : f ρ = .ok d ρ) (hl : ds.length < 1000000) (hp : putCell ρ i (.list (ds ++ [d])) = some r2) (q : Q r2) : Wp (sAppend i f) Q ρ := wp_append h0 he h0 hl hp q
def evD (o : Option Nat) : D := oD (o.map fun k : Nat => (k : Int))
theorem ev_first (o : Option Nat) (f : Nat) : eqF (evD o) (.int (f : Int)) = some (.bool (decide (o = some f))) := by
  have := eqF_o (o.map fun k : Nat => (k : Int)) (some (f : Int))
  show eqF (oD _) (oD (some (f : Int))) = _
  rw [this]
  congr 2
  cases o with
  | none => rfl
  | some k =>
    by_cases h : k = f
    · subst h; simp
    · have h2 : ¬ ((k : Int) = (f : Int)) := by omega
      simp [h, h2]
theorem fm_pos {α β : Type} {p : α → Bool} {f : α → β} {xs : List α} {x : α} (h : p x = true) : ((xs ++ [x]).filter p).map f = (xs.filter p).map f ++ [f x] := by
  rw [List.filter_append, List.map_append, List.filter_cons_of_pos h]
  rfl
theorem fm_neg {α β : Type} {p : α → Bool} {f : α → β} {xs : List α} {x : α} (h : p x = false) : ((xs ++ [x]).filter p).map f = (xs.filter p).map f := by
  rw [List.filter_append, List.map_append, List.filter_cons_of_neg (by rw [h]; decide)]
  simp
def pairD (p : Nat × Nat) : D := .tuple [.int (p.1 : Nat), .int (p.2 : Nat)]
theorem good_pair : Good 1 pairD := good_nat.pair good_nat
def wayL (w : Way) : D := .list (w.map pairD)
theorem good_wayL : Good 2 wayL := good_pair.list
def ndD (n : Nd) : D := .tuple [.int (n.1 : Nat), wayL n.2]
theorem good_nd : Good 3 ndD := (good_nat.mono (show 0 ≤ 2 by decide)).pair good_wayL
theorem way_add (w : Way) (e p : Nat) (h : w.length ≤ 900) : addF (wayL w) (.list [.tuple [.int (e : Nat), .int (p : Nat)]]) = some (wayL (w ++ [(e, p)])) := by
  have := add_ll (w.map pairD) [.tuple [.int (e : Nat), .int (p : Nat)]] (by rw [List.length_map, List.length_singleton]; omega)
  show addF (.list (w.map pairD)) _ = _
  rw [this]
  show some (PyData.list _) = some (PyData.list ((w ++ [(e, p)]).map pairD))
  rw [List.map_append]
  rfl
abbrev rF (rows : Rows) (first : Nat) (found : List Way) (wait : List Nd) (x4 x5 x6 x7 x8 x9 x10 : Cell) : Rho := [.fz (rowsD rows), .fz (.int (first : Nat)), .ow (.list (found.map wayL)), .ow (.list (wait.map ndD)), x4, x5, x6, x7, x8, x9, x10]
/-- what the arcs passed so far have given -/
def closeP (first : Nat) (n : Nd) (ps : List (Arc × Nat)) : List Way := (ps.filter fun p => decide (evOf p.1.1 = some first)).map fun p => n.2 ++ [(n.1, p.2)]
def openP (first : Nat) (n : Nd) (ps : List (Arc × Nat)) : List Nd := (ps.filter fun p => openB first n p.1.1).map fun p => ((evOf p.1.1).getD 0, n.2 ++ [(n.1, p.2)])
theorem closeP_len (first : Nat) (n : Nd) (ps : List (Arc × Nat)) : (closeP first n ps).length ≤ ps.length := by
  unfold closeP
  rw [List.length_map]
  exact List.length_filter_le _ _
theorem openP_len (first : Nat) (n : Nd) (ps : List (Arc × Nat)) : (openP first n ps).length ≤ ps.length := by
  unfold openP
  rw [List.length_map]
  exact List.length_filter_le _ _
abbrev passD (w : Way) : D := .list ((w.map (·.1)).map fun n : Nat => PyData.int (n : Int))
theorem arc_turn {rows : Rows} {first : Nat} {found : List Way} {wait : List Nd} {n : Nd} {ps : List (Arc × Nat)} {a : Arc} {pl : Nat} {x9 x10 : Cell} (hw : n.2.length ≤ 900) (hf : found.length + ps.length < 900000) (hq : wait.length + ps.length < 900000) :
    Wp l1_rings_from (fun r => ∃ y9, r = rF rows first (found ++ closeP first n (ps ++ [(a, pl)])) (wait ++ openP first n (ps ++ [(a, pl)])) (.fz (.int (n.1 : Nat))) (.fz (wayL n.2)) (.fz (passD n.2)) (.fz (.int (pl : Nat))) (.fz (arcD a)) y9 x10)
      (rF rows first (found ++ closeP first n ps) (wait ++ openP first n ps) (.fz (.int (n.1 : Nat))) (.fz (wayL n.2)) (.fz (passD n.2)) (.fz (.int (pl : Nat))) (.fz (arcD a)) x9 x10) := by
  have hc := closeP_len first n ps
  have ho := openP_len first n ps
  have wa := way_add n.2 n.1 pl hw
  obtain ⟨s, dl, bk⟩ := a
  have we : g_event_of [srcD s] = .ok (evD (evOf s)) := w_event s
  refine wp_seq (wp_set (d := evD (evOf s)) (r := rF rows first (found ++ closeP first n ps) (wait ++ openP first n ps) (.fz (.int (n.1 : Nat))) (.fz (wayL n.2)) (.fz (passD n.2)) (.fz (.int (pl : Nat))) (.fz (arcD (s, dl, bk))) x9 x10) (call_ok rfl we) rfl ?_)
  refine wp_if (b := decide (evOf s = some first)) (r := rF rows first (found ++ closeP first n ps) (wait ++ openP first n ps) (.fz (.int (n.1 : Nat))) (.fz (wayL n.2)) (.fz (passD n.2)) (.fz (.int (pl : Nat))) (.fz (arcD (s, dl, bk))) (.fz (evD (evOf s))) x10) (tst_ok (op_ok rfl rfl rfl rfl (ev_first _ _))) (fun z => ?_) (fun z => ?_)
  · have z' := of_decide_eq_true z
    have e1 : closeP first n (ps ++ [((s, dl, bk), pl)]) = closeP first n ps ++ [n.2 ++ [(n.1, pl)]] := fm_pos (p := fun p : Arc × Nat => decide (evOf p.1.1 = some first)) z
    have e2 : openP first n (ps ++ [((s, dl, bk), pl)]) = openP first n ps := by
      have : openB first n s = false := by
        unfold openB
        rw [z']
        simp
      exact fm_neg (p := fun p : Arc × Nat => openB first n p.1.1) this
    refine wp_app (r := []) (d := wayL (n.2 ++ [(n.1, pl)])) rfl (op_ok rfl (mT_ok rfl) rfl rfl wa) (by simp; omega) rfl ⟨.fz (evD (evOf s)), ?_⟩
    rw [e1, e2, ← List.append_assoc]
    show _ = rF rows first ((found ++ closeP first n ps) ++ [n.2 ++ [(n.1, pl)]]) _ _ _ _ _ _ _ _
    unfold rF
    rw [List.map_append (l₁ := found ++ closeP first n ps)]
    rfl
  · have e1 : closeP first n (ps ++ [((s, dl, bk), pl)]) = closeP first n ps := fm_neg (p := fun p : Arc × Nat => decide (evOf p.1.1 = some first)) z
    cases hs : evOf s with
    | none =>
      have e2 : openP first n (ps ++ [((s, dl, bk), pl)]) = openP first n ps := by
        have : openB first n s = false := by
          unfold openB
          rw [hs]
        exact fm_neg (p := fun p : Arc × Nat => openB first n p.1.1) this
      rw [e1, e2]
      exact wp_not (and_f (tst_ok (op_ok rfl (mT_ok rfl) rfl rfl rfl))) ⟨_, rfl⟩
    | some j =>
      have gt : gtF (.int (j : Int)) (.int (first : Int)) = some (.bool (decide (first < j))) := by
        unfold gtF
        rw [ev_cmp]
        congr 2
        rw [Bool.eq_iff_iff, decide_eq_true_iff, decide_eq_true_iff]
        omega
      have ins := in_good good_nat (by decide) true j (n.2.map (·.1))
      have ne : neF (.int (j : Int)) (.int (n.1 : Int)) = some (.bool (!decide (j = n.1))) := good_nat.neF j n.1
      have ob : openB first n s = (decide (first < j) && (!decide (j ∈ n.2.map (·.1)) && !decide (j = n.1))) := by
        unfold openB
        rw [hs]
        simp only [List.contains_eq_mem]
      have tst : mAnd (mTst (mOp (isF true) (mVarT 9) (mT (ret .none)))) (mAnd (mTst (mOp gtF (mVarT 9) (mVarT 1))) (mAnd (mTst (mOp (inAF true) (mVarT 9) (mVarT 6))) (mTst (mOp neF (mVarT 9) (mVarT 4))))) (rF rows first (found ++ closeP first n ps) (wait ++ openP first n ps) (.fz (.int (n.1 : Nat))) (.fz (wayL n.2)) (.fz (passD n.2)) (.fz (.int (pl : Nat))) (.fz (arcD (s, dl, bk))) (.fz (evD (some j))) x10) = .ok (openB first n s) (rF rows first (found ++ closeP first n ps) (wait ++ openP first n ps) (.fz (.int (n.1 : Nat))) (.fz (wayL n.2)) (.fz (passD n.2)) (.fz (.int (pl : Nat))) (.fz (arcD (s, dl, bk))) (.fz (evD (some j))) x10) := by
        rw [ob]
        exact and_t (tst_ok (op_ok rfl (mT_ok rfl) rfl rfl rfl)) (and_ok (tst_ok (op_ok rfl rfl rfl rfl gt)) (fun _ => and_ok (tst_ok (op_ok rfl rfl rfl rfl ins)) (fun _ => tst_ok (op_ok rfl rfl rfl rfl ne))))
      refine wp_if tst (fun y => ?_) (fun y => ?_)
      · have e2 : openP first n (ps ++ [((s, dl, bk), pl)]) = openP first n ps ++ [(j, n.2 ++ [(n.1, pl)])] := by
          have := fm_pos (p := fun p : Arc × Nat => openB first n p.1.1) (f := fun p : Arc × Nat => ((evOf p.1.1).getD 0, n.2 ++ [(n.1, p.2)])) (xs := ps) (x := ((s, dl, bk), pl)) y
          simp only [hs, Option.getD_some] at this
          exact this
        refine wp_app (r := []) (d := ndD (j, n.2 ++ [(n.1, pl)])) rfl (tup_ok (cons_ok rfl (cons_ok (op_ok rfl (mT_ok rfl) rfl rfl wa) rfl)) (show (2 : Nat) ≤ 100 by decide)) (by simp; omega) rfl ⟨.fz (evD (some j)), ?_⟩
        rw [e1, e2, ← List.append_assoc]
        unfold rF
        rw [List.map_append (l₁ := wait ++ openP first n ps)]
        rfl
      · have e2 : openP first n (ps ++ [((s, dl, bk), pl)]) = openP first n ps := fm_neg (p := fun p : Arc × Nat => openB first n p.1.1) y
        rw [e1, e2]
        exact wp_next ⟨_, rfl⟩
end Rn
end
section
set_option Elab.async false
set_option linter.all false
set_option maxRecDepth 100000
set_option maxHeartbeats 4000000
namespace Rn
open PySem PySem.Spec L2
/-- rows that can be walked: few arcs, sources within -/
structure RowsOk (rows : Rows) (a : Nat) : Prop where
  src : SrcOk rows
  few : ∀ r ∈ rows, r.length ≤ a
  sml : a * bnd' a rows.length + bnd' a rows.length + a ≤ 799999
  len : rows.length ≤ 9
def NdOk (rows : Rows) (first : Nat) (n : Nd) : Prop := n.1 < rows.length ∧ n.2.length + (cands rows first n).length ≤ rows.length
theorem NdOk.next {rows : Rows} {first : Nat} {n m : Nd} (hs : SrcOk rows) (h : NdOk rows first n) (hm : m ∈ opens rows first n) : NdOk rows first m := by
  have h1 := open_less hs hm
  obtain ⟨h2, p, h3⟩ := open_mem hs hm
  have h4 := (List.mem_filter.mp h2).1
  refine ⟨List.mem_range.mp h4, ?_⟩
  rw [h3, List.length_append, List.length_singleton]
  have := h.2
  omega
theorem rows_at {rows : Rows} {i : Nat} (h : i < rows.length) : ixF (rowsD rows) (.int (i : Int)) = some (rowD (rows.getD i [])) := by
  have := atMap rowD rows (i := (i : Int)) (n := i) rfl h
  show atI (rows.map rowD) (i : Int) = _
  rw [this, List.getD_eq_getElem?_getD, List.getElem?_eq_getElem h]
  rfl
theorem sum_ge {α : Type} {f : α → Nat} : ∀ {xs : List α}, (∀ x ∈ xs, 1 ≤ f x) → xs.length ≤ (xs.map f).sum
  | [], _ => by simp
  | x :: xs, h => by
    have h1 := h x (List.mem_cons_self ..)
    have h2 := sum_ge (f := f) (xs := xs) fun y hy => h y (List.mem_cons_of_mem _ hy)
    rw [List.map_cons, List.sum_cons, List.length_cons]
    omega
theorem Sz_pos (rows : Rows) (first : Nat) (n : Nd) : 1 ≤ Sz rows first n := by
  unfold Sz
  cases rows.length with
  | zero => exact Nat.le_refl _
  | succ k =>
    show 1 ≤ 1 + _
    omega
theorem perm_step {α : Type} (A B C E : List α) : (A ++ (C ++ (B ++ E))).Perm (A ++ (B ++ (C ++ E))) := by
  refine List.Perm.append_left A ?_
  rw [← List.append_assoc, ← List.append_assoc]
  exact List.Perm.append_right E List.perm_append_comm
theorem node_turn {rows : Rows} {a first : Nat} (ok : RowsOk rows a) {found : List Way} {wait : List Nd} {n : Nd} (hn : NdOk rows first n) (hf : found.length < 800000) (hq : wait.length < 800000) {x4 x5 x6 x7 x8 x9 : Cell} :
    Wp l3_rings_from (fun r => ∃ y4 y5 y6 y7 y8 y9, r = rF rows first (found ++ closes rows first n) (wait ++ opens rows first n) y4 y5 y6 y7 y8 y9 .no)
      (rF rows first found (wait ++ [n]) x4 x5 x6 x7 x8 x9 .no) := by
  have hlen := ok.len
  have hn1 := hn.1
  have hn2 := hn.2
  have hrl : (rows.getD n.1 []).length ≤ 800000 := by
    have h1 := ok.sml
    rw [List.getD_eq_getElem?_getD, List.getElem?_eq_getElem hn1]
    have := ok.few _ (List.getElem_mem hn1)
    exact Nat.le_trans this (by omega)
  have ha : (rows.getD n.1 []).length ≤ 100000 ∨ 100000 ≤ a := by
    by_cases h : a ≤ 100000
    · left
      rw [List.getD_eq_getElem?_getD, List.getElem?_eq_getElem hn1]
      exact Nat.le_trans (ok.few _ (List.getElem_mem hn1)) h
    · right; omega
  have ha2 : (rows.getD n.1 []).length ≤ 100000 := by
    rcases ha with h | h
    · exact h
    · exfalso
      have h1 := ok.sml
      have h2 : 1 ≤ bnd' a rows.length := by
        cases rows.length with
        | zero => exact Nat.le_refl _
        | succ k => show 1 ≤ 1 + _; omega
      obtain ⟨l, hl⟩ : ∃ l, rows.length = l + 1 := ⟨rows.length - 1, by omega⟩
      rw [hl] at h1
      have h3 : a ≤ bnd' a (l + 1) := by
        show a ≤ 1 + a * bnd' a l
        have : 1 ≤ bnd' a l := by
          cases l with
          | zero => exact Nat.le_refl _
          | succ k => show 1 ≤ 1 + _; omega
        have := Nat.le_mul_of_pos_right a this
        omega
      have h4 : a * a ≤ a * bnd' a (l + 1) := Nat.mul_le_mul_left a h3
      have h5 : 100000 * 100000 ≤ a * a := Nat.mul_le_mul h h
      omega
  refine wp_seq (wp_set (d := ndD n) (r := rF rows first found wait x4 x5 x6 x7 x8 x9 .no) (pop_ok (ds := wait.map ndD) ?_ rfl) rfl ?_)
  · show some (PyData.list ((wait ++ [n]).map ndD)) = _
    rw [List.map_append]
    rfl
  have ep : mLc (mSeqI (mVar 5)) (hTup 2 (hCons (hName 10) (hCons (hName 7) (hNil)))) (mYes) (e0_rings_from) [10, 7] (rF rows first found wait (.fz (.int (n.1 : Nat))) (.fz (wayL n.2)) x6 x7 x8 x9 .no) = .ok (passD n.2) (rF rows first found wait (.fz (.int (n.1 : Nat))) (.fz (wayL n.2)) x6 x7 x8 x9 .no) := by
    unfold passD
    rw [List.map_map]
    exact mlc_map0 n.2 pairD (fun p : Nat × Nat => PyData.int (p.1 : Int)) (seqL_ok rfl) (by simp [big]; omega) rfl (fun p hp => ⟨_, rfl, rfl, rfl⟩)
  refine wp_seq (wp_set (d := passD n.2) ep rfl ?_)
  refine wp_for (fun p : Arc × Nat => PyData.tuple [.int (p.2 : Nat), arcD p.1]) (rows.getD n.1 []).zipIdx (fun ps r => ∃ y7 y8 y9, r = rF rows first (found ++ closeP first n ps) (wait ++ openP first n ps) (.fz (.int (n.1 : Nat))) (.fz (wayL n.2)) (.fz (passD n.2)) y7 y8 y9 .no) (ρ0 := rF rows first found wait (.fz (.int (n.1 : Nat))) (.fz (wayL n.2)) (.fz (passD n.2)) x7 x8 x9 .no) ?_ ?_ ?_ ?_
  · exact enum_ok (d := rowD (rows.getD n.1 [])) (cons_ok (op_ok rfl rfl rfl rfl (rows_at hn1)) rfl) rfl
  · refine ⟨x7, x8, x9, ?_⟩
    show _ = rF rows first (found ++ []) (wait ++ []) _ _ _ _ _ _ _
    rw [List.append_nil, List.append_nil]
  · rintro ps ⟨arc, pl⟩ post ex r ⟨y7, y8, y9, rfl⟩
    refine ⟨rF rows first (found ++ closeP first n ps) (wait ++ openP first n ps) (.fz (.int (n.1 : Nat))) (.fz (wayL n.2)) (.fz (passD n.2)) (.fz (.int (pl : Nat))) (.fz (arcD arc)) y9 .no, rfl, ?_⟩
    have hl : ps.length ≤ (rows.getD n.1 []).length := by
      have := congrArg List.length ex
      rw [List.length_zipIdx, List.length_append] at this
      omega
    obtain ⟨r2, e2, z, hr2⟩ := arc_turn (rows := rows) (first := first) (found := found) (wait := wait) (n := n) (ps := ps) (a := arc) (pl := pl) (x9 := y9) (x10 := .no) (by omega) (by omega) (by omega)
    exact ⟨r2, e2, _, _, z, hr2⟩
  · rintro r ⟨y7, y8, y9, rfl⟩
    exact ⟨_, _, _, y7, y8, y9, rfl⟩
theorem w_rings_from {rows : Rows} {a first : Nat} (ok : RowsOk rows a) (hfirst : first < rows.length) : ∃ found : List Way, found.Perm (Tr rows first (first, [])) ∧ g_rings_from [rowsD rows, .int (first : Nat)] = .ok (.list (found.map wayL)) := by
  have hsz : Sz rows first (first, []) ≤ bnd' a rows.length := size_le ok.few _ _
  have htl : (Tr rows first (first, [])).length ≤ a * Sz rows first (first, []) := tree_len ok.few _ _
  have hsml := ok.sml
  have hb1 : 1 ≤ bnd' a rows.length := Nat.le_trans (Sz_pos rows first (first, [])) hsz
  have hmul : a * Sz rows first (first, []) ≤ a * bnd' a rows.length := Nat.mul_le_mul_left a hsz
  generalize htot : Tr rows first (first, []) = total at htl ⊢
  have lp := wp_while (α := Unit) (c := c2_rings_from) (b := l3_rings_from) (n := 1000000) (Q := fun r => ∃ found y4 y5 y6 y7 y8 y9, found.Perm total ∧ r = rF rows first found [] y4 y5 y6 y7 y8 y9 .no) (ρ := rF rows first [] [(first, [])] .no .no .no .no .no .no .no)
    (fun k r => k ≤ bnd' a rows.length ∧ ∃ found wait y4 y5 y6 y7 y8 y9, (∀ n ∈ wait, NdOk rows first n) ∧ k = (wait.map (Sz rows first)).sum ∧ (found ++ wait.flatMap (Tr rows first)).Perm total ∧ r = rF rows first found wait y4 y5 y6 y7 y8 y9 .no)
    (Sz rows first (first, [])) (by omega) ⟨hsz, [], [(first, [])], .no, .no, .no, .no, .no, .no, ?_, ?_, ?_, rfl⟩ ?_
  · obtain ⟨r, e, found, y4, y5, y6, y7, y8, y9, hp, rfl⟩ := lp
    refine ⟨found, hp, ?_⟩
    unfold g_rings_from
    rw [call2 (m := 9)]
    unfold b_rings_from
    have s1 : sPar [true, true] [2, 3] (mCons (mLst (mNil)) (mCons (mLst (mCons (mTup (mCons (mVar 1) (mCons (mLst (mNil)) (mNil)))) (mNil))) (mNil))) [.fz (rowsD rows), .fz (.int (first : Nat)), .no, .no, .no, .no, .no, .no, .no, .no, .no] = .nx (rF rows first [] [(first, [])] .no .no .no .no .no .no .no) := par_ok rfl rfl
    exact fin_rt (seq_to s1 (seq_to e (ret_ok rfl)))
  · intro n hn
    rw [List.mem_singleton.mp hn]
    refine ⟨hfirst, ?_⟩
    have := cands_le rows first (first, [])
    simp
    exact this
  · simp
  · rw [← htot]
    simp
  · rintro k r ⟨hk, found, wait, y4, y5, y6, y7, y8, y9, hok, rfl, hperm, rfl⟩
    have ne := good_nd.list.neF wait []
    by_cases hw : wait = []
    · left
      rw [decide_eq_true hw] at ne
      refine ⟨_, tst_ok (op_ok rfl (mT_ok rfl) rfl rfl ne), found, y4, y5, y6, y7, y8, y9, ?_, ?_⟩
      · rw [hw] at hperm
        simpa using hperm
      · rw [hw]
    · right
      rw [decide_eq_false hw] at ne
      obtain ⟨init, n, hi⟩ : ∃ init n, wait = init ++ [n] := ⟨wait.dropLast, wait.getLast hw, (List.dropLast_concat_getLast hw).symm⟩
      have hlw := sum_ge (f := Sz rows first) (xs := wait) fun x _ => Sz_pos rows first x
      have hfl : found.length ≤ total.length := by
        have := hperm.length_eq
        rw [List.length_append] at this
        omega
      rw [hi] at hok hperm hlw hk ⊢
      refine ⟨_, tst_ok (op_ok rfl (mT_ok rfl) rfl rfl (by rw [hi] at ne; exact ne)), ?_⟩
      rw [List.length_append, List.length_singleton] at hlw
      obtain ⟨r2, e2, z4, z5, z6, z7, z8, z9, hr2⟩ := node_turn ok (found := found) (wait := init) (n := n) (hok n (by simp)) (by omega) (by omega) (x4 := y4) (x5 := y5) (x6 := y6) (x7 := y7) (x8 := y8) (x9 := y9)
      have hk' : (init ++ [n]).map (Sz rows first) = init.map (Sz rows first) ++ [Sz rows first n] := by simp
      have hs' : ((init ++ [n]).map (Sz rows first)).sum = (init.map (Sz rows first)).sum + (1 + ((opens rows first n).map (Sz rows first)).sum) := by
        rw [hk', List.sum_append, ← Sz_eq first ok.src n]
        simp
      have hs2 : ((init ++ opens rows first n).map (Sz rows first)).sum = (init.map (Sz rows first)).sum + ((opens rows first n).map (Sz rows first)).sum := by
        rw [List.map_append, List.sum_append]
      refine ⟨r2, e2, _, ?_, ?_, found ++ closes rows first n, init ++ opens rows first n, z4, z5, z6, z7, z8, z9, ?_, rfl, ?_, hr2⟩
      · rw [hs', hs2]
        omega
      · rw [hs2]
        rw [hs'] at hk
        omega
      · intro m hm
        rcases List.mem_append.mp hm with h | h
        · exact hok m (by simp [h])
        · exact (hok n (by simp)).next ok.src h
      · refine List.Perm.trans ?_ hperm
        rw [List.flatMap_append, List.flatMap_append, List.flatMap_singleton, Tr_eq first ok.src n]
        have := perm_step found (init.flatMap (Tr rows first)) (closes rows first n) ((opens rows first n).flatMap (Tr rows first))
        rw [List.append_assoc]
        exact this
end Rn
end
section
set_option Elab.async false
set_option linter.all false
set_option maxRecDepth 100000
set_option maxHeartbeats 4000000
namespace Rn
open PySem PySem.Spec L2
def ringT (w : Way) : D := .tuple (w.map pairD)
theorem good_ring : Good 2 ringT := good_pair.tup
theorem alike_ways : ∀ w v : Way, PySem.W.alikeAll (w.map pairD) (v.map pairD) = true
  | [], _ => by simp [PySem.W.alikeAll]
  | _ :: _, [] => by simp [PySem.W.alikeAll]
  | (a, b) :: w, (c, d) :: v => by
    simp only [List.map_cons, PySem.W.alikeAll, Bool.and_eq_true]
    exact ⟨rfl, alike_ways w v⟩
theorem ways_alike (ws : List Way) : PySem.W.AllAlike (ws.map ringT) := fun x hx y hy => by
  obtain ⟨w, _, rfl⟩ := List.mem_map.mp hx
  obtain ⟨v, _, rfl⟩ := List.mem_map.mp hy
  exact alike_ways w v
theorem sort_perm {xs ys : List Way} (h : xs.Perm ys) : isort (xs.map ringT) = isort (ys.map ringT) :=
  isort_uniq (ways_alike ys) ((isort_perm (xs.map ringT)).trans (h.map ringT)) (isort_pw _)
theorem sort_ok {ws : List Way} (hn : ∀ w ∈ ws, w ≠ []) (hl : ws.length ≤ 1000000) : sortF [.list (ws.map ringT)] = some (.list (isort (ws.map ringT))) := by
  have ok : sortOk (ws.map ringT) = true := by
    unfold sortOk
    simp only [Bool.and_eq_true, Bool.or_eq_true, decide_eq_true_eq, List.length_map]
    refine ⟨⟨⟨⟨?_, .inl ?_⟩, good_ring.plainAll ws⟩, hl⟩, ?_⟩
    · rw [List.all_eq_true]
      intro x hx
      rw [List.all_eq_true]
      intro y hy
      obtain ⟨w, _, rfl⟩ := List.mem_map.mp hx
      obtain ⟨v, _, rfl⟩ := List.mem_map.mp hy
      exact alike_ways w v
    · rw [List.all_eq_true]
      intro x hx
      obtain ⟨w, hw, rfl⟩ := List.mem_map.mp hx
      cases w with
      | nil => exact absurd rfl (hn _ hw)
      | cons p w => rfl
    · rw [List.all_eq_true]
      intro x hx
      obtain ⟨w, hw, rfl⟩ := List.mem_map.mp hx
      have := good_ring.depth w
      exact decide_eq_true (by omega)
  show (if sortOk (ws.map ringT) = true then _ else _) = _
  rw [if_pos ok]
theorem tree_ne {rows : Rows} {first : Nat} : ∀ (k : Nat) (n : Nd), ∀ w ∈ tree rows first k n, w ≠ []
  | 0, n, w, h => by
    obtain ⟨p, _, rfl⟩ := List.mem_map.mp h
    simp
  | k + 1, n, w, h => by
    rcases List.mem_append.mp h with h | h
    · obtain ⟨p, _, rfl⟩ := List.mem_map.mp h
      simp
    · obtain ⟨m, _, hm⟩ := List.mem_flatMap.mp h
      exact tree_ne k m w hm
def allW (rows : Rows) (k : Nat) : List Way := (List.range k).flatMap fun f => Tr rows f (f, [])
theorem allW_ne {rows : Rows} {k : Nat} : ∀ w ∈ allW rows k, w ≠ [] := fun w h => by
  obtain ⟨f, _, h⟩ := List.mem_flatMap.mp h
  exact tree_ne _ _ w h
theorem allW_len {rows : Rows} {a : Nat} (ok : RowsOk rows a) (k : Nat) : (allW rows k).length ≤ k * (a * bnd' a rows.length) := by
  induction k with
  | zero => simp [allW]
  | succ k ih =>
    have h1 : allW rows (k + 1) = allW rows k ++ Tr rows k (k, []) := by
      unfold allW
      rw [List.range_succ, List.flatMap_append, List.flatMap_singleton]
    have h2 : (Tr rows k (k, [])).length ≤ a * Sz rows k (k, []) := tree_len ok.few _ _
    have h3 : Sz rows k (k, []) ≤ bnd' a rows.length := size_le ok.few _ _
    have h4 : a * Sz rows k (k, []) ≤ a * bnd' a rows.length := Nat.mul_le_mul_left a h3
    rw [h1, List.length_append, Nat.succ_mul]
    omega
/-- the rings, sorted -/
def RG (rows : Rows) : List D := isort ((allW rows rows.length).map ringT)
theorem w_rings_of {rows : Rows} {a : Nat} (ok : RowsOk rows a) (hs : rows.length * (a * bnd' a rows.length) ≤ 900000) : g_rings_of [rowsD rows] = .ok (.list (RG rows)) := by
  have hlen := ok.len
  have e0 : mRng1 (mCons (mCB lenF (mCons (mVarT 0) (mNil))) (mNil)) [.fz (rowsD rows), .fz (.list []), .no, .no] = .ok ((List.range rows.length).map fun k : Nat => PyData.int (0 + (k : Int))) [.fz (rowsD rows), .fz (.list []), .no, .no] := by
    refine rng1_n (n := rows.length) ?_ (by omega)
    have : lenF [rowsD rows] = some (.int (rows.length : Int)) := by
      show some (PyData.int ((rows.map rowD).length : Int)) = _
      rw [List.length_map]
    exact cons_ok (cb_ok (cons_ok rfl rfl) rfl this) rfl
  obtain ⟨r, e, ws, x2, hp, hr⟩ := for_inv (h := hName 2) (b := l1_rings_of) (fun k : Nat => PyData.int (0 + (k : Int))) (fun pre ρ => ∃ (ws : List Way) (x2 : Cell), ws.Perm (allW rows pre.length) ∧ ρ = [.fz (rowsD rows), .fz (.list (ws.map ringT)), x2, .no]) (List.range rows.length) (ρ0 := [.fz (rowsD rows), .fz (.list []), .no, .no]) ⟨[], .no, by simp [allW], rfl⟩ (fun pre f post ex ρ hI => by
      obtain ⟨ws, x2, hp, rfl⟩ := hI
      obtain ⟨hf, hfl⟩ := range_pos ex
      obtain ⟨found, hfp, hg⟩ := w_rings_from ok (first := f) (by omega)
      refine ⟨[.fz (rowsD rows), .fz (.list (ws.map ringT)), .fz (.int (f : Nat)), .no], [.fz (rowsD rows), .fz (.list ((ws ++ found).map ringT)), .fz (.int (f : Nat)), .no], ?_, .inl ?_, ws ++ found, _, ?_, rfl⟩
      · rw [show (0 : Int) + (f : Int) = ((f : Nat) : Int) by omega]
        rfl
      · have h1 : (allW rows (pre.length + 1)).length ≤ (pre.length + 1) * (a * bnd' a rows.length) := allW_len ok _
        have h2 : (pre.length + 1) * (a * bnd' a rows.length) ≤ rows.length * (a * bnd' a rows.length) := Nat.mul_le_mul_right _ (by omega)
        have h3 : allW rows (pre.length + 1) = allW rows pre.length ++ Tr rows pre.length (pre.length, []) := by
          unfold allW
          rw [List.range_succ, List.flatMap_append, List.flatMap_singleton]
        have h4 := hp.length_eq
        have h5 := hfp.length_eq
        rw [h3, List.length_append] at h1
        rw [hf] at h5
        have lc : mLc (mSeqI (mCall0 g_rings_from (mCons (mVar 0) (mCons (mVar 2) (mNil))))) (hName 3) (mYes) (e0_rings_of) [3] [.fz (rowsD rows), .fz (.list (ws.map ringT)), .fz (.int (f : Nat)), .no] = .ok (.list (found.map ringT)) [.fz (rowsD rows), .fz (.list (ws.map ringT)), .fz (.int (f : Nat)), .no] :=
          mlc_map0 found wayL ringT (seqL_ok (call_ok rfl hg)) (by simp only [big]; omega) rfl (fun w hw => ⟨_, rfl, cb_ok rfl rfl rfl, rfl⟩)
        have ad : addF (.list (ws.map ringT)) (.list (found.map ringT)) = some (.list ((ws ++ found).map ringT)) := by
          show (if (ws.map ringT).length + (found.map ringT).length ≤ big then _ else _) = _
          rw [if_pos (by rw [List.length_map, List.length_map]; simp only [big]; omega), List.map_append]
        exact asg_ok (op_ok rfl (mT_ok lc) rfl rfl ad) rfl
      · rw [List.length_append, List.length_singleton]
        have h3 : allW rows (pre.length + 1) = allW rows pre.length ++ Tr rows pre.length (pre.length, []) := by
          unfold allW
          rw [List.range_succ, List.flatMap_append, List.flatMap_singleton]
        rw [h3]
        rw [hf] at hfp
        exact hp.append hfp)
  rw [List.length_range] at hp
  have hl := allW_len ok rows.length
  have so := sort_ok (ws := ws) (fun w hw => allW_ne w (hp.mem_iff.mp hw)) (by rw [hp.length_eq]; omega)
  rw [sort_perm hp] at so
  unfold g_rings_of
  rw [call1 (m := 3)]
  unfold b_rings_of
  rw [hr] at e
  exact fin_rt (seq_to (asg_ok rfl rfl) (seq_to (for_ok e0 e) (ret_ok (cb_ok (cons_ok rfl rfl) rfl so))))
end Rn
end
section
set_option Elab.async false
set_option linter.all false
set_option maxRecDepth 100000
set_option maxHeartbeats 4000000
namespace Rn
open PySem PySem.Spec L2
def srcOk (ins ev : Nat) (s : Src) : Prop := match s with
  | none => True
  | some (false, u) => u.val < ins
  | some (true, e) => e.val < ev
structure NetOk (n : Net) : Prop where
  ins : n.1 ≤ 2
  r1 : 1 ≤ n.2.1.length
  r5 : n.2.1.length ≤ 5
  few : ∀ r ∈ n.2.1, r.length ≤ 4
  arc : ∀ r ∈ n.2.1, ∀ a ∈ r, srcOk n.1 n.2.1.length a.1 ∧ a.2.1 ≤ 9 ∧ a.2.2 ≤ 3
  back : (n.2.1.map fun r => (r.map fun a => a.2.2).sum).sum ≤ 8
  rank : ∃ rk : Nat → Nat, ∀ i, ∀ a ∈ n.2.1.getD i [], a.2.2 = 0 → ∀ j, evOf a.1 = some j → rk j < rk i
  o1 : 1 ≤ n.2.2.length
  o3 : n.2.2.length ≤ 3
  outs : ∀ o ∈ n.2.2, o < n.2.1.length
theorem whole_n {v lo hi : Nat} (h1 : lo ≤ v) (h2 : v ≤ hi) : g_is_whole [.int (v : Int), .int (lo : Int), .int (hi : Int)] = .ok (.bool true) := by
  have a : (lo : Int) ≤ (v : Int) := by omega
  have b : (v : Int) ≤ (hi : Int) := by omega
  simp -implicitDefEqProofs [g_is_whole, b_is_whole, ev_foc, ev_fo0, ev_app, ev_enm, ev_rs, ev_lc', ev_g0, ev_gc, ev_y, big, ev_bnd, ev_ret, ev_lfS, ev_lfN, ev_stk, ev_vr, ev_vrT, ev_mT, ev_cF, ev_cO, ev_cB, ev_dd, ev_ds, ev_d0, ev_dc, ev_opr, ev_unr, ev_nl, ev_cns, ev_cbr, ev_ab, ev_ai, ev_tst', ev_an, ev_orr, ev_nt, ev_anV, ev_orV', ev_ntV, ev_ifm, ev_ch, ev_tp, ev_ls, ev_cl, ev_cl0, ev_isr, ev_sqI, ev_sqL, ev_sqT, ev_sb, ev_ss, ev_sn, ev_sa, ev_so, ev_sr, ev_sdr, ev_si, ev_sp, ev_p0, ev_pF, ev_pT, ev_sf, ev_hn, ev_ht, ev_hc, ev_h0, ev_cal, ev_f1, ev_f2, ev_f3, ev_f4, ev_cmp, ev_add, ev_sub, ev_mod, ev_fdv, ev_isn, ev_n1, ev_n2, ev_n3, ev_n4, ev_ixL, ev_ixT, ev_a0, ev_a1, ev_a2, ev_lL, ev_lT, ev_tL, ev_tT, ev_liT, ev_abs, ev_mx, ev_mn, ev_mx3, ev_t1, ev_t2, ev_t3, noIN_n, noIN_b, noIN_i, noIN_s, noIN_l, noIN_t, ev_eqI, ev_neI, List.getElem?_cons_zero, List.getElem?_cons_succ, List.set_cons_zero, List.set_cons_succ, List.length_cons, List.length_nil, List.map_cons, List.map_nil, List.replicate_succ, List.replicate_zero, List.cons_append, List.nil_append, List.append_nil, Option.bind_some, Option.map_some, Nat.reduceAdd, Nat.reduceSub, Nat.reduceLT, Nat.reduceLeDiff, Nat.reduceEqDiff, if_true, if_false, reduceIte, Bool.false_eq_true, wipeR, restR, a, b, pInt, pIs]
def srcList (ins ev : Nat) : List Src := ((List.range ins).map fun k => some (false, Fin.ofNat 10 k)) ++ (List.range ev).map fun k => some (true, Fin.ofNat 10 k)
theorem ofNat_val {k : Nat} (h : k < 10) : (Fin.ofNat 10 k).val = k := by
  simp [Fin.ofNat, Nat.mod_eq_of_lt h]
theorem dgs {k : Nat} (h : k < 10) : strF [.int (0 + (k : Int))] = some (.str (toString (k : Int))) := by
  rw [show (0 : Int) + (k : Int) = (k : Int) by omega]
  have := dig_s ⟨k, h⟩
  exact this
theorem ofNat_eq {k : Nat} (h : k < 10) : Fin.ofNat 10 k = ⟨k, h⟩ := Fin.ext (ofNat_val h)
theorem w_is_source {ins ev : Nat} (hi : ins ≤ 9) (he : ev ≤ 9) (s : Src) : g_is_source [srcD s, .int (ins : Nat), .int (ev : Nat)] = .ok (.bool (decide (s = none) || decide (s ∈ srcList ins ev))) := by
  have l1 : mLc (mRng1 (mCons (mVar 1) (mNil))) (hName 3) (mYes) (e0_is_source) [3] [.fz (srcD s), .fz (.int (ins : Nat)), .fz (.int (ev : Nat)), .no] = .ok (.list ((List.range ins).map fun k => srcD (some (false, Fin.ofNat 10 k)))) [.fz (srcD s), .fz (.int (ins : Nat)), .fz (.int (ev : Nat)), .no] := by
    refine mlc_map0 (List.range ins) (fun k : Nat => PyData.int (0 + (k : Int))) _ (rng1_n rfl (by omega)) (by simp [big]; omega) rfl (fun k hk => ⟨_, rfl, ?_, rfl⟩)
    have hk : k < 10 := by have := List.mem_range.mp hk; omega
    have := dig_u ⟨k, hk⟩
    rw [ofNat_eq hk]
    exact op_ok (mT_ok rfl) (mT_ok (cb_ok (cons_ok rfl rfl) rfl (dgs hk))) rfl rfl this
  have l2 : mLc (mRng1 (mCons (mVar 2) (mNil))) (hName 3) (mYes) (e1_is_source) [3] [.fz (srcD s), .fz (.int (ins : Nat)), .fz (.int (ev : Nat)), .no] = .ok (.list ((List.range ev).map fun k => srcD (some (true, Fin.ofNat 10 k)))) [.fz (srcD s), .fz (.int (ins : Nat)), .fz (.int (ev : Nat)), .no] := by
    refine mlc_map0 (List.range ev) (fun k : Nat => PyData.int (0 + (k : Int))) _ (rng1_n rfl (by omega)) (by simp [big]; omega) rfl (fun k hk => ⟨_, rfl, ?_, rfl⟩)
    have hk : k < 10 := by have := List.mem_range.mp hk; omega
    have := dig_e ⟨k, hk⟩
    rw [ofNat_eq hk]
    exact op_ok (mT_ok rfl) (mT_ok (cb_ok (cons_ok rfl rfl) rfl (dgs hk))) rfl rfl this
  have ad : addF (.list ((List.range ins).map fun k => srcD (some (false, Fin.ofNat 10 k)))) (.list ((List.range ev).map fun k => srcD (some (true, Fin.ofNat 10 k)))) = some (.list ((srcList ins ev).map srcD)) := by
    rw [add_ll _ _ (by simp; omega)]
    unfold srcList
    rw [List.map_append, List.map_map, List.map_map]
    rfl
  have e1 := good_src.eqF s none
  have e2 : inAF false (srcD s) (.list ((srcList ins ev).map srcD)) = some (.bool (decide (s ∈ srcList ins ev))) := by
    rw [in_good good_src (by decide) false s (srcList ins ev), if_neg (by decide)]
    exact congrArg (fun b => some (PyData.bool b)) (decide_eq_decide.mpr Iff.rfl)
  have ti : pIs "str" "str" = true := by decide
  have e0 : sIf (mNot (mTst (mIsi (pIs "str") (mVarT 0)))) (sRet (ret (.bool false))) (sNext) [.fz (srcD s), .fz (.int (ins : Nat)), .fz (.int (ev : Nat)), .no] = .nx [.fz (srcD s), .fz (.int (ins : Nat)), .fz (.int (ev : Nat)), .no] := by
    have : tyName (srcD s) = "str" := rfl
    have ni : noIN (srcD s) = true := rfl
    simp -implicitDefEqProofs [ev_app, ev_enm, ev_rs, ev_y, big, ev_bnd, ev_ret, ev_lfS, ev_lfN, ev_stk, ev_vr, ev_vrT, ev_mT, ev_cF, ev_cO, ev_cB, ev_dd, ev_ds, ev_d0, ev_dc, ev_opr, ev_unr, ev_nl, ev_cns, ev_cbr, ev_ab, ev_ai, ev_tst', ev_an, ev_orr, ev_nt, ev_anV, ev_orV', ev_ntV, ev_ifm, ev_ch, ev_tp, ev_ls, ev_cl, ev_cl0, ev_isr, ev_sqI, ev_sqL, ev_sqT, ev_sb, ev_ss, ev_sn, ev_sa, ev_so, ev_sr, ev_sdr, ev_si, ev_sp, ev_p0, ev_pF, ev_pT, ev_sf, ev_hn, ev_ht, ev_hc, ev_h0, ev_cal, ev_f1, ev_f2, ev_f3, ev_f4, ev_cmp, ev_add, ev_sub, ev_isn, ev_n1, ev_n2, ev_n3, ev_n4, ev_ixL, ev_ixT, ev_a0, ev_a1, ev_a2, ev_lL, ev_lT, ev_tL, ev_tT, ev_liT, ev_abs, ev_mx, ev_mn, ev_mx3, ev_t1, ev_t2, ev_t3, noIN_n, noIN_b, noIN_i, noIN_s, noIN_l, noIN_t, ev_eqI, ev_neI, List.getElem?_cons_zero, List.getElem?_cons_succ, List.set_cons_zero, List.set_cons_succ, List.length_cons, List.length_nil, List.map_cons, List.map_nil, List.replicate_succ, List.replicate_zero, List.cons_append, List.nil_append, List.append_nil, Option.bind_some, Option.map_some, Nat.reduceAdd, Nat.reduceSub, Nat.reduceLT, Nat.reduceLeDiff, Nat.reduceEqDiff, if_true, if_false, reduceIte, Bool.false_eq_true, wipeR, restR, this, ti, ni]
  unfold g_is_source
  rw [call3 (m := 1)]
  unfold b_is_source
  exact fin_rt (seq_to e0 (ret_ok (orV_ok (op_ok rfl (mT_ok rfl) rfl rfl e1) (fun _ => op_ok rfl (mT_ok (op_ok (mT_ok l1) (mT_ok l2) rfl rfl ad)) rfl rfl e2))))
theorem src_in {ins ev : Nat} {s : Src} (h : srcOk ins ev s) : (decide (s = none) || decide (s ∈ srcList ins ev)) = true := by
  rcases s with _ | ⟨_ | _, k⟩
  · rfl
  · have h : k.val < ins := h
    rw [Bool.or_eq_true]
    right
    refine decide_eq_true (List.mem_append.mpr (.inl (List.mem_map.mpr ⟨k.val, List.mem_range.mpr h, ?_⟩)))
    rw [ofNat_eq k.isLt]
  · have h : k.val < ev := h
    rw [Bool.or_eq_true]
    right
    refine decide_eq_true (List.mem_append.mpr (.inr (List.mem_map.mpr ⟨k.val, List.mem_range.mpr h, ?_⟩)))
    rw [ofNat_eq k.isLt]
theorem w_arc_ok {ins ev : Nat} (hi : ins ≤ 9) (he : ev ≤ 9) {a : Arc} (h : srcOk ins ev a.1) (h1 : a.2.1 ≤ 9) (h2 : a.2.2 ≤ 3) : g_is_arc [arcD a, .int (ins : Nat), .int (ev : Nat)] = .ok (.bool true) := by
  obtain ⟨s, d, b⟩ := a
  have ws := w_is_source hi he s
  rw [src_in h] at ws
  have w1 := whole_n (v := d) (lo := 0) (hi := 9) (by omega) h1
  have w2 := whole_n (v := b) (lo := 0) (hi := 3) (by omega) h2
  have ti : pIs "tuple" "tuple" = true := by decide
  have n3 : neF (.int 3) (.int 3) = some (.bool false) := by rw [ev_neI]; rfl
  have e0 : sIf (mOr (mNot (mTst (mIsi (pIs "tuple") (mVarT 0)))) (mOr (mTst (mOp neF (mT (mCB lenF (mCons (mVarT 0) (mNil)))) (mT (ret (.int 3))))) (mNot (mTst (mCall0 g_is_source (mCons (mOp ixF (mVarT 0) (mT (ret (.int 0)))) (mCons (mVar 1) (mCons (mVar 2) (mNil))))))))) (sRet (ret (.bool false))) (sNext) [.fz (.tuple [srcD s, .int (d : Nat), .int (b : Nat)]), .fz (.int (ins : Nat)), .fz (.int (ev : Nat))] = .nx [.fz (.tuple [srcD s, .int (d : Nat), .int (b : Nat)]), .fz (.int (ins : Nat)), .fz (.int (ev : Nat))] := by
    simp -implicitDefEqProofs [ev_app, ev_enm, ev_rs, ev_y, big, ev_bnd, ev_ret, ev_lfS, ev_lfN, ev_stk, ev_vr, ev_vrT, ev_mT, ev_cF, ev_cO, ev_cB, ev_dd, ev_ds, ev_d0, ev_dc, ev_opr, ev_unr, ev_nl, ev_cns, ev_cbr, ev_ab, ev_ai, ev_tst', ev_an, ev_orr, ev_nt, ev_anV, ev_orV', ev_ntV, ev_ifm, ev_ch, ev_tp, ev_ls, ev_cl, ev_cl0, ev_isr, ev_sqI, ev_sqL, ev_sqT, ev_sb, ev_ss, ev_sn, ev_sa, ev_so, ev_sr, ev_sdr, ev_si, ev_sp, ev_p0, ev_pF, ev_pT, ev_sf, ev_hn, ev_ht, ev_hc, ev_h0, ev_cal, ev_f1, ev_f2, ev_f3, ev_f4, ev_cmp, ev_add, ev_sub, ev_isn, ev_n1, ev_n2, ev_n3, ev_n4, ev_ixL, ev_ixT, ev_a0, ev_a1, ev_a2, ev_lL, ev_lT, ev_tL, ev_tT, ev_liT, ev_abs, ev_mx, ev_mn, ev_mx3, ev_t1, ev_t2, ev_t3, noIN_n, noIN_b, noIN_i, noIN_s, noIN_l, noIN_t, ev_eqI, ev_neI, List.getElem?_cons_zero, List.getElem?_cons_succ, List.set_cons_zero, List.set_cons_succ, List.length_cons, List.length_nil, List.map_cons, List.map_nil, List.replicate_succ, List.replicate_zero, List.cons_append, List.nil_append, List.append_nil, Option.bind_some, Option.map_some, Nat.reduceAdd, Nat.reduceSub, Nat.reduceLT, Nat.reduceLeDiff, Nat.reduceEqDiff, if_true, if_false, reduceIte, Bool.false_eq_true, wipeR, restR, ti, ws, n3]
  unfold g_is_arc
  rw [call3 (m := 0)]
  unfold b_is_arc
  exact fin_rt (seq_to e0 (ret_ok (andV_ok (call_ok rfl w1) (fun _ => call_ok rfl w2))))
theorem allT {α : Type} (xs : List α) : allF [.list (xs.map fun _ => PyData.bool true)] = some (.bool true) := by
  have : ∀ xs : List α, allOf asBool (xs.map fun _ => PyData.bool true) = some (xs.map fun _ => true) := fun xs => by
    induction xs with
    | nil => rfl
    | cons x xs ih =>
      simp only [List.map_cons]
      unfold allOf
      rw [ih]
      rfl
  unfold allF
  simp only [this, Option.map_some]
  congr 2
  induction xs with
  | nil => rfl
  | cons x xs ih => simp [ih]
theorem le_nat {a b : Nat} (h : a ≤ b) : leF (.int (a : Int)) (.int (b : Int)) = some (.bool true) := by
  unfold leF
  rw [ev_cmp, decide_eq_true (by omega)]
theorem w_row_ok {ins ev : Nat} (hi : ins ≤ 9) (he : ev ≤ 9) {r : List Arc} (hr : r.length ≤ 4) (h : ∀ a ∈ r, srcOk ins ev a.1 ∧ a.2.1 ≤ 9 ∧ a.2.2 ≤ 3) : g_is_row [rowD r, .int (ins : Nat), .int (ev : Nat)] = .ok (.bool true) := by
  have ti : pIs "tuple" "tuple" = true := by decide
  have l1 : mLc (mSeqI (mVar 0)) (hName 3) (mYes) (e0_is_row) [3] [.fz (rowD r), .fz (.int (ins : Nat)), .fz (.int (ev : Nat)), .no] = .ok (.list (r.map fun _ => PyData.bool true)) [.fz (rowD r), .fz (.int (ins : Nat)), .fz (.int (ev : Nat)), .no] := by
    refine mlc_map0 r arcD _ (seqT_ok rfl) (by simp [big]; omega) rfl (fun a ha => ⟨_, rfl, ?_, rfl⟩)
    obtain ⟨h1, h2, h3⟩ := h a ha
    exact call_ok rfl (w_arc_ok hi he h1 h2 h3)
  have ln : lenF [rowD r] = some (.int (r.length : Int)) := by
    show some (PyData.int ((r.map arcD).length : Int)) = _
    rw [List.length_map]
  have it : mIsi (pIs "tuple") (mVarT 0) [.fz (rowD r), .fz (.int (ins : Nat)), .fz (.int (ev : Nat)), .no] = .ok (.bool true) [.fz (rowD r), .fz (.int (ins : Nat)), .fz (.int (ev : Nat)), .no] := by
    have : tyName (rowD r) = "tuple" := rfl
    have ni : noIN (rowD r) = true := rfl
    simp -implicitDefEqProofs [ev_app, ev_enm, ev_rs, ev_y, big, ev_bnd, ev_ret, ev_lfS, ev_lfN, ev_stk, ev_vr, ev_vrT, ev_mT, ev_cF, ev_cO, ev_cB, ev_dd, ev_ds, ev_d0, ev_dc, ev_opr, ev_unr, ev_nl, ev_cns, ev_cbr, ev_ab, ev_ai, ev_tst', ev_an, ev_orr, ev_nt, ev_anV, ev_orV', ev_ntV, ev_ifm, ev_ch, ev_tp, ev_ls, ev_cl, ev_cl0, ev_isr, ev_sqI, ev_sqL, ev_sqT, ev_sb, ev_ss, ev_sn, ev_sa, ev_so, ev_sr, ev_sdr, ev_si, ev_sp, ev_p0, ev_pF, ev_pT, ev_sf, ev_hn, ev_ht, ev_hc, ev_h0, ev_cal, ev_f1, ev_f2, ev_f3, ev_f4, ev_cmp, ev_add, ev_sub, ev_isn, ev_n1, ev_n2, ev_n3, ev_n4, ev_ixL, ev_ixT, ev_a0, ev_a1, ev_a2, ev_lL, ev_lT, ev_tL, ev_tT, ev_liT, ev_abs, ev_mx, ev_mn, ev_mx3, ev_t1, ev_t2, ev_t3, noIN_n, noIN_b, noIN_i, noIN_s, noIN_l, noIN_t, ev_eqI, ev_neI, List.getElem?_cons_zero, List.getElem?_cons_succ, List.set_cons_zero, List.set_cons_succ, List.length_cons, List.length_nil, List.map_cons, List.map_nil, List.replicate_succ, List.replicate_zero, List.cons_append, List.nil_append, List.append_nil, Option.bind_some, Option.map_some, Nat.reduceAdd, Nat.reduceSub, Nat.reduceLT, Nat.reduceLeDiff, Nat.reduceEqDiff, if_true, if_false, reduceIte, Bool.false_eq_true, wipeR, restR, this, ti, ni]
  have l4 : leF (.int (r.length : Int)) (.int 4) = some (.bool true) := le_nat hr
  have p1 : mOp leF (mT (mCB lenF (mCons (mVarT 0) (mNil)))) (mT (ret (.int 4))) [.fz (rowD r), .fz (.int (ins : Nat)), .fz (.int (ev : Nat)), .no] = .ok (.bool true) [.fz (rowD r), .fz (.int (ins : Nat)), .fz (.int (ev : Nat)), .no] := op_ok (mT_ok (cb_ok (cons_ok rfl rfl) rfl ln)) (mT_ok rfl) rfl rfl l4
  have p2 : mCB allF (mCons (mT (mLc (mSeqI (mVar 0)) (hName 3) (mYes) (e0_is_row) [3])) (mNil)) [.fz (rowD r), .fz (.int (ins : Nat)), .fz (.int (ev : Nat)), .no] = .ok (.bool true) [.fz (rowD r), .fz (.int (ins : Nat)), .fz (.int (ev : Nat)), .no] := cb_ok (cons_ok (mT_ok l1) rfl) rfl (allT r)
  unfold g_is_row
  rw [call3 (m := 1)]
  unfold b_is_row
  exact fin_rt (ret_ok (andV_ok (x := true) (y := true) it (fun _ => andV_ok (x := true) (y := true) p1 (fun _ => p2))))
end Rn
end
section
set_option Elab.async false
set_option linter.all false
set_option maxRecDepth 100000
set_option maxHeartbeats 4000000
namespace Rn
open PySem PySem.Spec L2
theorem rows_len (rows : Rows) : lenF [rowsD rows] = some (.int (rows.length : Int)) := by
  show some (PyData.int ((rows.map rowD).length : Int)) = _
  rw [List.length_map]
theorem outs_len (o : List Nat) : lenF [outsD o] = some (.int (o.length : Int)) := by
  show some (PyData.int ((o.map fun n : Nat => PyData.int (n : Int)).length : Int)) = _
  rw [List.length_map]
theorem w_shaped {n : Net} (h : NetOk n) : g_is_shaped [netD n] = .ok (.bool true) := by
  obtain ⟨i0, rows, outs⟩ := n
  have hi : i0 ≤ 2 := h.ins
  have hr1 : 1 ≤ rows.length := h.r1
  have hr5 : rows.length ≤ 5 := h.r5
  have ho1 : 1 ≤ outs.length := h.o1
  have ho3 : outs.length ≤ 3 := h.o3
  have ti : pIs "tuple" "tuple" = true := by decide
  have n3 : neF (.int 3) (.int 3) = some (.bool false) := by rw [ev_neI]; rfl
  have w0 : g_is_whole [.int (i0 : Int), .int 0, .int 2] = .ok (.bool true) := whole_n (v := i0) (lo := 0) (hi := 2) (by omega) hi
  have a1 : leF (.int 1) (.int (rows.length : Int)) = some (.bool true) := le_nat (a := 1) hr1
  have a2 : leF (.int (rows.length : Int)) (.int 5) = some (.bool true) := le_nat (b := 5) hr5
  have b1 : leF (.int 1) (.int (outs.length : Int)) = some (.bool true) := le_nat (a := 1) ho1
  have b2 : leF (.int (outs.length : Int)) (.int 3) = some (.bool true) := le_nat (b := 3) ho3
  have t1 : tyName (rowsD rows) = "tuple" := rfl
  have t2 : tyName (outsD outs) = "tuple" := rfl
  have n1 : noIN (rowsD rows) = true := rfl
  have n2 : noIN (outsD outs) = true := rfl
  have lr := rows_len rows
  have lo := outs_len outs
  have l1 : mLc (mSeqI (mVar 2)) (hName 5) (mYes) (e0_is_shaped) [5] [.fz (.tuple [.int (i0 : Nat), rowsD rows, outsD outs]), .fz (.int (i0 : Nat)), .fz (rowsD rows), .fz (outsD outs), .no, .no] = .ok (.list (rows.map fun _ => PyData.bool true)) [.fz (.tuple [.int (i0 : Nat), rowsD rows, outsD outs]), .fz (.int (i0 : Nat)), .fz (rowsD rows), .fz (outsD outs), .no, .no] := by
    refine mlc_map0 rows rowD _ (seqT_ok rfl) (by simp [big]; omega) rfl (fun r hr => ⟨_, rfl, ?_, rfl⟩)
    exact call_ok (cons_ok rfl (cons_ok rfl (cons_ok (cb_ok (cons_ok rfl rfl) rfl lr) rfl))) (w_row_ok (by omega) (by omega) (h.few r hr) (h.arc r hr))
  have l2 : mLc (mSeqI (mVar 3)) (hName 4) (mYes) (e1_is_shaped) [4] [.fz (.tuple [.int (i0 : Nat), rowsD rows, outsD outs]), .fz (.int (i0 : Nat)), .fz (rowsD rows), .fz (outsD outs), .no, .no] = .ok (.list (outs.map fun _ => PyData.bool true)) [.fz (.tuple [.int (i0 : Nat), rowsD rows, outsD outs]), .fz (.int (i0 : Nat)), .fz (rowsD rows), .fz (outsD outs), .no, .no] := by
    refine mlc_map0 outs (fun k : Nat => PyData.int (k : Int)) _ (seqT_ok rfl) (by simp [big]; omega) rfl (fun o ho => ⟨_, rfl, ?_, rfl⟩)
    have hlt : o < rows.length := h.outs o ho
    have es : subF (.int (rows.length : Int)) (.int 1) = some (.int ((rows.length - 1 : Nat) : Int)) := by
      rw [ev_sub, show (rows.length : Int) - 1 = ((rows.length - 1 : Nat) : Int) by omega]
    have wo : g_is_whole [.int (o : Int), .int 0, .int ((rows.length - 1 : Nat) : Int)] = .ok (.bool true) := whole_n (v := o) (lo := 0) (by omega) (by omega)
    exact call_ok (cons_ok rfl (cons_ok rfl (cons_ok (op_ok (mT_ok (cb_ok (cons_ok rfl rfl) rfl lr)) (mT_ok rfl) rfl rfl es) rfl))) wo
  have e1 : sIf (mOr (mNot (mTst (mIsi (pIs "tuple") (mVarT 0)))) (mOr (mTst (mOp neF (mT (mCB lenF (mCons (mVarT 0) (mNil)))) (mT (ret (.int 3))))) (mNot (mTst (mCall0 g_is_whole (mCons (mOp ixF (mVarT 0) (mT (ret (.int 0)))) (mCons (ret (.int 0)) (mCons (ret (.int 2)) (mNil))))))))) (sRet (ret (.bool false))) (sNext) [.fz (.tuple [.int (i0 : Nat), rowsD rows, outsD outs]), .no, .no, .no, .no, .no] = .nx [.fz (.tuple [.int (i0 : Nat), rowsD rows, outsD outs]), .no, .no, .no, .no, .no] := by
    simp -implicitDefEqProofs [ev_app, ev_enm, ev_rs, ev_y, big, ev_bnd, ev_ret, ev_lfS, ev_lfN, ev_stk, ev_vr, ev_vrT, ev_mT, ev_cF, ev_cO, ev_cB, ev_dd, ev_ds, ev_d0, ev_dc, ev_opr, ev_unr, ev_nl, ev_cns, ev_cbr, ev_ab, ev_ai, ev_tst', ev_an, ev_orr, ev_nt, ev_anV, ev_orV', ev_ntV, ev_ifm, ev_ch, ev_tp, ev_ls, ev_cl, ev_cl0, ev_isr, ev_sqI, ev_sqL, ev_sqT, ev_sb, ev_ss, ev_sn, ev_sa, ev_so, ev_sr, ev_sdr, ev_si, ev_sp, ev_p0, ev_pF, ev_pT, ev_sf, ev_hn, ev_ht, ev_hc, ev_h0, ev_cal, ev_f1, ev_f2, ev_f3, ev_f4, ev_cmp, ev_add, ev_sub, ev_isn, ev_n1, ev_n2, ev_n3, ev_n4, ev_ixL, ev_ixT, ev_a0, ev_a1, ev_a2, ev_lL, ev_lT, ev_tL, ev_tT, ev_liT, ev_abs, ev_mx, ev_mn, ev_mx3, ev_t1, ev_t2, ev_t3, noIN_n, noIN_b, noIN_i, noIN_s, noIN_l, noIN_t, ev_eqI, ev_neI, List.getElem?_cons_zero, List.getElem?_cons_succ, List.set_cons_zero, List.set_cons_succ, List.length_cons, List.length_nil, List.map_cons, List.map_nil, List.replicate_succ, List.replicate_zero, List.cons_append, List.nil_append, List.append_nil, Option.bind_some, Option.map_some, Nat.reduceAdd, Nat.reduceSub, Nat.reduceLT, Nat.reduceLeDiff, Nat.reduceEqDiff, if_true, if_false, reduceIte, Bool.false_eq_true, wipeR, restR, ti, n3, w0]
  have e2 : sIf (mOr (mNot (mTst (mIsi (pIs "tuple") (mVarT 2)))) (mNot (mTst (mChain leF leF (mT (ret (.int 1))) (mT (mCB lenF (mCons (mVarT 2) (mNil)))) (mT (ret (.int 5))))))) (sRet (ret (.bool false))) (sNext) [.fz (.tuple [.int (i0 : Nat), rowsD rows, outsD outs]), .fz (.int (i0 : Nat)), .fz (rowsD rows), .fz (outsD outs), .no, .no] = .nx [.fz (.tuple [.int (i0 : Nat), rowsD rows, outsD outs]), .fz (.int (i0 : Nat)), .fz (rowsD rows), .fz (outsD outs), .no, .no] := by
    simp -implicitDefEqProofs [ev_app, ev_enm, ev_rs, ev_y, big, ev_bnd, ev_ret, ev_lfS, ev_lfN, ev_stk, ev_vr, ev_vrT, ev_mT, ev_cF, ev_cO, ev_cB, ev_dd, ev_ds, ev_d0, ev_dc, ev_opr, ev_unr, ev_nl, ev_cns, ev_cbr, ev_ab, ev_ai, ev_tst', ev_an, ev_orr, ev_nt, ev_anV, ev_orV', ev_ntV, ev_ifm, ev_ch, ev_tp, ev_ls, ev_cl, ev_cl0, ev_isr, ev_sqI, ev_sqL, ev_sqT, ev_sb, ev_ss, ev_sn, ev_sa, ev_so, ev_sr, ev_sdr, ev_si, ev_sp, ev_p0, ev_pF, ev_pT, ev_sf, ev_hn, ev_ht, ev_hc, ev_h0, ev_cal, ev_f1, ev_f2, ev_f3, ev_f4, ev_cmp, ev_add, ev_sub, ev_isn, ev_n1, ev_n2, ev_n3, ev_n4, ev_ixL, ev_ixT, ev_a0, ev_a1, ev_a2, ev_lL, ev_lT, ev_tL, ev_tT, ev_liT, ev_abs, ev_mx, ev_mn, ev_mx3, ev_t1, ev_t2, ev_t3, noIN_n, noIN_b, noIN_i, noIN_s, noIN_l, noIN_t, ev_eqI, ev_neI, List.getElem?_cons_zero, List.getElem?_cons_succ, List.set_cons_zero, List.set_cons_succ, List.length_cons, List.length_nil, List.map_cons, List.map_nil, List.replicate_succ, List.replicate_zero, List.cons_append, List.nil_append, List.append_nil, Option.bind_some, Option.map_some, Nat.reduceAdd, Nat.reduceSub, Nat.reduceLT, Nat.reduceLeDiff, Nat.reduceEqDiff, if_true, if_false, reduceIte, Bool.false_eq_true, wipeR, restR, ti, t1, n1, lr, a1, a2]
  have e4 : sIf (mOr (mNot (mTst (mIsi (pIs "tuple") (mVarT 3)))) (mNot (mTst (mChain leF leF (mT (ret (.int 1))) (mT (mCB lenF (mCons (mVarT 3) (mNil)))) (mT (ret (.int 3))))))) (sRet (ret (.bool false))) (sNext) [.fz (.tuple [.int (i0 : Nat), rowsD rows, outsD outs]), .fz (.int (i0 : Nat)), .fz (rowsD rows), .fz (outsD outs), .no, .no] = .nx [.fz (.tuple [.int (i0 : Nat), rowsD rows, outsD outs]), .fz (.int (i0 : Nat)), .fz (rowsD rows), .fz (outsD outs), .no, .no] := by
    simp -implicitDefEqProofs [ev_app, ev_enm, ev_rs, ev_y, big, ev_bnd, ev_ret, ev_lfS, ev_lfN, ev_stk, ev_vr, ev_vrT, ev_mT, ev_cF, ev_cO, ev_cB, ev_dd, ev_ds, ev_d0, ev_dc, ev_opr, ev_unr, ev_nl, ev_cns, ev_cbr, ev_ab, ev_ai, ev_tst', ev_an, ev_orr, ev_nt, ev_anV, ev_orV', ev_ntV, ev_ifm, ev_ch, ev_tp, ev_ls, ev_cl, ev_cl0, ev_isr, ev_sqI, ev_sqL, ev_sqT, ev_sb, ev_ss, ev_sn, ev_sa, ev_so, ev_sr, ev_sdr, ev_si, ev_sp, ev_p0, ev_pF, ev_pT, ev_sf, ev_hn, ev_ht, ev_hc, ev_h0, ev_cal, ev_f1, ev_f2, ev_f3, ev_f4, ev_cmp, ev_add, ev_sub, ev_isn, ev_n1, ev_n2, ev_n3, ev_n4, ev_ixL, ev_ixT, ev_a0, ev_a1, ev_a2, ev_lL, ev_lT, ev_tL, ev_tT, ev_liT, ev_abs, ev_mx, ev_mn, ev_mx3, ev_t1, ev_t2, ev_t3, noIN_n, noIN_b, noIN_i, noIN_s, noIN_l, noIN_t, ev_eqI, ev_neI, List.getElem?_cons_zero, List.getElem?_cons_succ, List.set_cons_zero, List.set_cons_succ, List.length_cons, List.length_nil, List.map_cons, List.map_nil, List.replicate_succ, List.replicate_zero, List.cons_append, List.nil_append, List.append_nil, Option.bind_some, Option.map_some, Nat.reduceAdd, Nat.reduceSub, Nat.reduceLT, Nat.reduceLeDiff, Nat.reduceEqDiff, if_true, if_false, reduceIte, Bool.false_eq_true, wipeR, restR, ti, t2, n2, lo, b1, b2]
  unfold g_is_shaped
  rw [call1 (m := 5)]
  unfold b_is_shaped
  have p2 : mCB allF (mCons (mT (mLc (mSeqI (mVar 2)) (hName 5) (mYes) (e0_is_shaped) [5])) (mNil)) [.fz (.tuple [.int (i0 : Nat), rowsD rows, outsD outs]), .fz (.int (i0 : Nat)), .fz (rowsD rows), .fz (outsD outs), .no, .no] = .ok (.bool true) [.fz (.tuple [.int (i0 : Nat), rowsD rows, outsD outs]), .fz (.int (i0 : Nat)), .fz (rowsD rows), .fz (outsD outs), .no, .no] := cb_ok (cons_ok (mT_ok l1) rfl) rfl (allT rows)
  have p3 : mCB allF (mCons (mT (mLc (mSeqI (mVar 3)) (hName 4) (mYes) (e1_is_shaped) [4])) (mNil)) [.fz (.tuple [.int (i0 : Nat), rowsD rows, outsD outs]), .fz (.int (i0 : Nat)), .fz (rowsD rows), .fz (outsD outs), .no, .no] = .ok (.bool true) [.fz (.tuple [.int (i0 : Nat), rowsD rows, outsD outs]), .fz (.int (i0 : Nat)), .fz (rowsD rows), .fz (outsD outs), .no, .no] := cb_ok (cons_ok (mT_ok l2) rfl) rfl (allT outs)
  exact fin_rt (seq_to e1 (seq_to (asg_ok (r2 := [.fz (.tuple [.int (i0 : Nat), rowsD rows, outsD outs]), .fz (.int (i0 : Nat)), .fz (rowsD rows), .fz (outsD outs), .no, .no]) rfl rfl) (seq_to e2 (seq_to (ifs_f (not_ok (tst_ok p2)) rfl) (seq_to e4 (ret_ok p3))))))
theorem sum_int (ns : List Nat) : sumF [.list (ns.map fun n : Nat => PyData.int (n : Int))] = some (.int (ns.sum : Nat)) := by
  have : ∀ ns : List Nat, allOf asInt (ns.map fun n : Nat => PyData.int (n : Int)) = some (ns.map fun n : Nat => (n : Int)) := fun ns => by
    induction ns with
    | nil => rfl
    | cons x xs ih =>
      simp only [List.map_cons]
      unfold allOf
      rw [ih]
      rfl
  unfold sumF
  simp only [this, Option.map_some]
  have e : (ns.map fun n : Nat => (n : Int)).sum = ((ns.sum : Nat) : Int) := by
    induction ns with
    | nil => rfl
    | cons x xs ih => simp only [List.map_cons, List.sum_cons, ih]; push_cast; rfl
  rw [e]
theorem w_all_back {rows : Rows} (h1 : rows.length ≤ 9) (h2 : ∀ r ∈ rows, r.length ≤ 100000) : g_all_back [rowsD rows] = .ok (.int ((rows.map fun r => (r.map fun a => a.2.2).sum).sum : Nat)) := by
  have l1 : mLc (mSeqI (mVar 0)) (hName 1) (mYes) (e1_all_back) [1] [.fz (rowsD rows), .no, .no, .no, .no] = .ok (.list (rows.map fun r => PyData.int ((r.map fun a => a.2.2).sum : Nat))) [.fz (rowsD rows), .no, .no, .no, .no] := by
    refine mlc_map0 rows rowD _ (seqT_ok rfl) (by simp [big]; omega) rfl (fun r hr => ⟨[.fz (rowsD rows), .fz (rowD r), .no, .no, .no], rfl, ?_, rfl⟩)
    have l2 : mLc (mSeqI (mVar 1)) (hTup 3 (hCons (hName 2) (hCons (hName 3) (hCons (hName 4) (hNil))))) (mYes) (e0_all_back) [2, 3, 4] [.fz (rowsD rows), .fz (rowD r), .no, .no, .no] = .ok (.list (r.map fun a => PyData.int (a.2.2 : Nat))) [.fz (rowsD rows), .fz (rowD r), .no, .no, .no] :=
      mlc_map0 r arcD _ (seqT_ok rfl) (by have := h2 r hr; simp [big]; omega) rfl (fun a ha => ⟨_, rfl, rfl, rfl⟩)
    have s := sum_int (r.map fun a => a.2.2)
    rw [List.map_map] at s
    exact cb_ok (cons_ok (mT_ok l2) rfl) rfl s
  have s := sum_int (rows.map fun r => (r.map fun a => a.2.2).sum)
  rw [List.map_map] at s
  unfold g_all_back
  rw [call1 (m := 4)]
  exact fin_rt (ret_ok (cb_ok (cons_ok (mT_ok l1) rfl) rfl s))
end Rn
end
section
set_option Elab.async false
set_option linter.all false
set_option maxRecDepth 100000
set_option maxHeartbeats 4000000
namespace Rn
open PySem PySem.Spec L2
abbrev intsD (xs : List Nat) : D := .list (xs.map fun n : Nat => PyData.int (n : Int))
def waits (r : List Arc) : List Nat := (r.filter fun a => decide (a.2.2 = 0)).filterMap fun a => evOf a.1
theorem fmap_is (xs : List (Option Nat)) : ((xs.filter fun o => !o.isNone).map evD) = (xs.filterMap id).map fun n : Nat => PyData.int (n : Int) := by
  induction xs with
  | nil => rfl
  | cons x xs ih =>
    cases x with
    | none => simpa using ih
    | some k =>
      rw [List.filter_cons_of_pos (by rfl), List.map_cons, ih]
      rfl
theorem w_same_round {rows : Rows} (h1 : rows.length ≤ 9) (h2 : ∀ r ∈ rows, r.length ≤ 100000) : g_same_round [rowsD rows] = .ok (.list (rows.map fun r => intsD (waits r))) := by
  obtain ⟨r, e, y2, y3, hr⟩ := for_inv (h := hName 2) (b := l4_same_round) rowD (fun pre ρ => ∃ y2 y3, ρ = [.fz (rowsD rows), .ow (.list (pre.map fun r => intsD (waits r))), y2, y3, .no, .no, .no, .no]) rows (ρ0 := [.fz (rowsD rows), .ow (.list []), .no, .no, .no, .no, .no, .no]) ⟨.no, .no, rfl⟩ (fun pre row post ex ρ hI => by
      obtain ⟨y2, y3, rfl⟩ := hI
      have hrow := h2 row (by rw [ex]; simp)
      have hpl : pre.length ≤ rows.length := by
        have := congrArg List.length ex
        rw [List.length_append] at this
        omega
      have l1 : mLc (mSeqI (mVar 2)) (hTup 3 (hCons (hName 4) (hCons (hName 5) (hCons (hName 6) (hNil))))) (t0_same_round) (e1_same_round) [4, 5, 6] [.fz (rowsD rows), .ow (.list (pre.map fun r => intsD (waits r))), .fz (rowD row), y3, .no, .no, .no, .no] = .ok (.list ((row.filter fun a => decide (a.2.2 = 0)).map fun a => evD (evOf a.1))) [.fz (rowsD rows), .ow (.list (pre.map fun r => intsD (waits r))), .fz (rowD row), y3, .no, .no, .no, .no] := by
        refine mlc_map row arcD (fun a => decide (a.2.2 = 0)) _ (seqT_ok rfl) (by simp [big]; omega) rfl (fun a ha => ⟨[.fz (rowsD rows), .ow (.list (pre.map fun r => intsD (waits r))), .fz (rowD row), y3, .fz (srcD a.1), .fz (.int (a.2.1 : Nat)), .fz (.int (a.2.2 : Nat)), .no], rfl, ?_, fun _ => ?_, rfl⟩)
        · exact tst_ok (op_ok rfl (mT_ok rfl) rfl rfl (good_nat.eqF a.2.2 0))
        · exact call_ok rfl (w_event a.1)
      obtain ⟨os, hos⟩ : ∃ os : List (Option Nat), os = (row.filter fun a => decide (a.2.2 = 0)).map fun a => evOf a.1 := ⟨_, rfl⟩
      have ho : ((row.filter fun a => decide (a.2.2 = 0)).map fun a => evD (evOf a.1)) = os.map evD := by rw [hos, List.map_map]; rfl
      have hol : os.length ≤ 100000 := by
        rw [hos, List.length_map]
        exact Nat.le_trans (List.length_filter_le _ _) hrow
      rw [ho] at l1
      have hw : waits row = os.filterMap id := by
        rw [hos]
        unfold waits
        rw [List.filterMap_map]
        rfl
      have l2 : mLc (mSeqI (mVar 3)) (hName 7) (t2_same_round) (e3_same_round) [7] [.fz (rowsD rows), .ow (.list (pre.map fun r => intsD (waits r))), .fz (rowD row), .fz (.list (os.map evD)), .no, .no, .no, .no] = .ok (intsD (waits row)) [.fz (rowsD rows), .ow (.list (pre.map fun r => intsD (waits r))), .fz (rowD row), .fz (.list (os.map evD)), .no, .no, .no, .no] := by
        unfold intsD
        rw [hw, ← fmap_is]
        refine mlc_map os evD (fun o => !o.isNone) evD (seqL_ok rfl) (by simp only [big]; omega) rfl (fun o ho => ⟨_, rfl, ?_, fun _ => rfl, rfl⟩)
        have := ist_o (o.map fun k : Nat => (k : Int))
        rw [Option.isNone_map] at this
        exact tst_ok (op_ok rfl (mT_ok rfl) rfl rfl this)
      obtain ⟨r2, e2, hr2⟩ := wp_app (Q := fun r2 => r2 = [.fz (rowsD rows), .ow (.list ((pre ++ [row]).map fun r => intsD (waits r))), .fz (rowD row), .fz (.list (os.map evD)), .no, .no, .no, .no]) (r := []) (i := 1) (ds := pre.map fun r => intsD (waits r)) rfl l2 (by rw [List.length_map]; omega) rfl (by rw [List.map_append]; rfl)
      exact ⟨_, r2, rfl, .inl (seq_to (asg_ok l1 rfl) e2), _, _, hr2⟩)
  rw [hr] at e
  unfold g_same_round
  rw [call1 (m := 7)]
  unfold b_same_round
  exact fin_rt (seq_to (own_ok rfl) (seq_to (for_ok (seqT_ok rfl) e) (ret_ok rfl)))
/-- not found yet -/
def left (N : Nat) (found : List Nat) : List Nat := (List.range N).filter fun j => !decide (j ∈ found)
theorem left_less {N : Nat} {found : List Nat} {x : Nat} (hx : x < N) (hn : x ∉ found) : (left N (found ++ [x])).length + 1 = (left N found).length := by
  unfold left
  have : ∀ (M : Nat), ((List.range M).filter fun j => !decide (j ∈ found ++ [x])).length + (if x < M then 1 else 0) = ((List.range M).filter fun j => !decide (j ∈ found)).length := fun M => by
    induction M with
    | zero => simp
    | succ M ih =>
      rw [List.range_succ, List.filter_append, List.filter_append, List.length_append, List.length_append]
      by_cases e : x = M
      · subst e
        rw [if_neg (by omega)] at ih
        simp only [List.filter_cons, List.filter_nil]
        simp [hn] at ih ⊢
        exact ih
      · have : (M ∈ found ++ [x]) = (M ∈ found) := by simp [Ne.symm e]
        have h2 : ([M].filter fun j => !decide (j ∈ found ++ [x])) = ([M].filter fun j => !decide (j ∈ found)) := by
          simp only [List.filter_cons, List.filter_nil, List.mem_append, List.mem_singleton]
          simp [Ne.symm e]
        rw [h2]
        by_cases g : x < M
        · rw [if_pos g] at ih
          rw [if_pos (by omega)]
          omega
        · rw [if_neg g] at ih
          rw [if_neg (by omega)]
          omega
  have := this N
  rw [if_pos hx] at this
  exact this
/-- the least one that is left is free -/
theorem free_ex {rk : Nat → Nat} {N : Nat} {found : List Nat} {W : Nat → List Nat} (hW : ∀ i, ∀ j ∈ W i, j < N ∧ rk j < rk i) (hl : 0 < (left N found).length) : ∃ i, i < N ∧ i ∉ found ∧ ∀ j ∈ W i, j ∈ found := by
  have key : ∀ (k i : Nat), rk i ≤ k → i < N → i ∉ found → ∃ i, i < N ∧ i ∉ found ∧ ∀ j ∈ W i, j ∈ found := by
    intro k
    induction k with
    | zero =>
      intro i hk hi hn
      refine ⟨i, hi, hn, fun j hj => ?_⟩
      have := (hW i j hj).2
      omega
    | succ k ih =>
      intro i hk hi hn
      by_cases h : ∀ j ∈ W i, j ∈ found
      · exact ⟨i, hi, hn, h⟩
      · obtain ⟨j, hj⟩ := Classical.not_forall.mp h
        obtain ⟨hj1, hj2⟩ := Classical.not_imp.mp hj
        have h3 := hW i j hj1
        exact ih j (by omega) h3.1 hj2
  obtain ⟨i, hi⟩ := List.exists_mem_of_length_pos hl
  obtain ⟨h1, h2⟩ := List.mem_filter.mp hi
  exact key (rk i) i (Nat.le_refl _) (List.mem_range.mp h1) (by simpa using h2)
end Rn
end
section
set_option Elab.async false
set_option linter.all false
set_option maxRecDepth 100000
set_option maxHeartbeats 4000000
namespace Rn
open PySem PySem.Spec L2
theorem allP {α : Type} (p : α → Bool) (xs : List α) : allF [.list (xs.map fun x => PyData.bool (p x))] = some (.bool (xs.all p)) := by
  have : ∀ xs : List α, allOf asBool (xs.map fun x => PyData.bool (p x)) = some (xs.map p) := fun xs => by
    induction xs with
    | nil => rfl
    | cons x xs ih =>
      simp only [List.map_cons]
      unfold allOf
      rw [ih]
      rfl
  unfold allF
  simp only [this, Option.map_some]
  congr 2
  induction xs with
  | nil => rfl
  | cons x xs ih => simp [ih]
def freeB (rows : Rows) (found : List Nat) (i : Nat) : Bool := !decide (i ∈ found) && (waits (rows.getD i [])).all fun j => decide (j ∈ found)
theorem waits_len (r : List Arc) : (waits r).length ≤ r.length := by
  unfold waits
  exact Nat.le_trans (List.length_filterMap_le _ _) (List.length_filter_le _ _)
/-- an order: each one stands behind those it waits for -/
def Ord (rows : Rows) (found : List Nat) : Prop := ∀ pre x post, found = pre ++ x :: post → x < rows.length ∧ x ∉ pre ∧ ∀ j ∈ waits (rows.getD x []), j ∈ pre
theorem Ord.snoc {rows : Rows} {found : List Nat} {i : Nat} (h : Ord rows found) (h1 : i < rows.length) (h2 : freeB rows found i = true) : Ord rows (found ++ [i]) := by
  intro pre x post e
  rcases List.eq_nil_or_concat post with rfl | ⟨post', y, rfl⟩
  · have e : found ++ [i] = pre ++ [x] := e
    obtain ⟨e1, e2⟩ := List.append_inj' e rfl
    have e2 : i = x := by simpa using e2
    subst e1
    subst e2
    unfold freeB at h2
    rw [Bool.and_eq_true, List.all_eq_true] at h2
    exact ⟨h1, by simpa using h2.1, fun j hj => of_decide_eq_true (h2.2 j hj)⟩
  · have e : found ++ [i] = (pre ++ x :: post') ++ [y] := by simpa using e
    obtain ⟨e1, _⟩ := List.append_inj' e rfl
    exact h pre x post' e1
theorem w_order {rows : Rows} (h1 : rows.length ≤ 9) (h2 : ∀ r ∈ rows, r.length ≤ 100000) (hs : SrcOk rows) {rk : Nat → Nat} (hrk : ∀ i, ∀ a ∈ rows.getD i [], a.2.2 = 0 → ∀ j, evOf a.1 = some j → rk j < rk i) :
    ∃ found : List Nat, found.length = rows.length ∧ Ord rows found ∧ g_order_of [rowsD rows] = .ok (intsD found) := by
  have hW : ∀ i, ∀ j ∈ waits (rows.getD i []), j < rows.length ∧ rk j < rk i := fun i j hj => by
    unfold waits at hj
    obtain ⟨a, ha, he⟩ := List.mem_filterMap.mp hj
    obtain ⟨ha1, ha2⟩ := List.mem_filter.mp ha
    obtain ⟨row, hr, har⟩ := getD_memR ha1
    exact ⟨hs row hr a har j he, hrk i a ha1 (of_decide_eq_true ha2) j he⟩
  obtain ⟨WD, hWD⟩ : ∃ WD : D, WD = .list (rows.map fun r => intsD (waits r)) := ⟨_, rfl⟩
  have hwat : ∀ i, i < rows.length → ixF WD (.int (0 + (i : Int))) = some (intsD (waits (rows.getD i []))) := fun i hi => by
    have := atMap (fun r => intsD (waits r)) rows (i := 0 + (i : Int)) (n := i) (by omega) hi
    rw [hWD]
    show atI (rows.map fun r => intsD (waits r)) (0 + (i : Int)) = _
    rw [this, List.getD_eq_getElem?_getD, List.getElem?_eq_getElem hi]
    rfl
  have hsm : ∀ i, (waits (rows.getD i [])).length ≤ 100000 := fun i => by
    refine Nat.le_trans (waits_len _) ?_
    rw [List.getD_eq_getElem?_getD]
    cases q : rows[i]? with
    | none => simp
    | some r => exact h2 r (List.mem_of_getElem? q)
  -- the free ones
  have lf : ∀ (found : List Nat) (x3 : Cell), mLc (mRng1 (mCons (mCB lenF (mCons (mVarT 0) (mNil))) (mNil))) (hName 4) (t1_order_of) (e2_order_of) [4] [.fz (rowsD rows), .fz WD, .ow (intsD found), x3, .no, .no] = .ok (.list (((List.range rows.length).filter (freeB rows found)).map fun k : Nat => PyData.int (0 + (k : Int)))) [.fz (rowsD rows), .fz WD, .ow (intsD found), x3, .no, .no] := fun found x3 => by
    refine mlc_map (List.range rows.length) (fun k : Nat => PyData.int (0 + (k : Int))) (freeB rows found) _ (rng1_n (n := rows.length) (cons_ok (cb_ok (cons_ok rfl rfl) rfl (rows_len rows)) rfl) (by omega)) (by simp [big]; omega) rfl (fun i hi => ⟨[.fz (rowsD rows), .fz WD, .ow (intsD found), x3, .fz (.int (0 + (i : Int))), .no], rfl, ?_, fun _ => rfl, rfl⟩)
    have hi := List.mem_range.mp hi
    have a1 : inAF true (.int (0 + (i : Int))) (intsD found) = some (.bool (!decide (i ∈ found))) := by
      rw [show (0 : Int) + (i : Int) = (i : Int) by omega, in_good good_nat (by decide) true i found, if_pos rfl]
    have l2 : mLc (mSeqI (mOp ixF (mVarT 1) (mVarT 4))) (hName 5) (mYes) (e0_order_of) [5] [.fz (rowsD rows), .fz WD, .ow (intsD found), x3, .fz (.int (0 + (i : Int))), .no] = .ok (.list ((waits (rows.getD i [])).map fun j => PyData.bool (decide (j ∈ found)))) [.fz (rowsD rows), .fz WD, .ow (intsD found), x3, .fz (.int (0 + (i : Int))), .no] := by
      refine mlc_map0 (waits (rows.getD i [])) (fun k : Nat => PyData.int (k : Int)) _ (seqL_ok (op_ok rfl rfl rfl rfl (hwat i hi))) (by have := hsm i; simp only [big]; omega) rfl (fun j hj => ⟨_, rfl, ?_, rfl⟩)
      have a2 : inAF false (.int (j : Int)) (intsD found) = some (.bool (decide (j ∈ found))) := by
        rw [in_good good_nat (by decide) false j found, if_neg (by decide)]
      exact op_ok rfl rfl rfl rfl a2
    exact and_ok (tst_ok (op_ok rfl rfl rfl rfl a1)) (fun _ => tst_ok (cb_ok (cons_ok (mT_ok l2) rfl) rfl (allP (fun j => decide (j ∈ found)) _)))
  have lp := wp_while (α := Unit) (c := c3_order_of) (b := l4_order_of) (n := 1000000) (Q := fun r => ∃ found x3, found.length = rows.length ∧ Ord rows found ∧ r = [.fz (rowsD rows), .fz WD, .ow (intsD found), x3, .no, .no]) (ρ := [.fz (rowsD rows), .fz WD, .ow (intsD []), .no, .no, .no])
    (fun k r => ∃ found x3, k = (left rows.length found).length ∧ found.length + k = rows.length ∧ Ord rows found ∧ r = [.fz (rowsD rows), .fz WD, .ow (intsD found), x3, .no, .no]) rows.length (by omega) ⟨[], .no, ?_, by simp, ?_, rfl⟩ ?_
  · obtain ⟨r, e, found, x3, hl, ho, rfl⟩ := lp
    refine ⟨found, hl, ho, ?_⟩
    have wr := w_same_round h1 h2
    rw [← hWD] at wr
    unfold g_order_of
    rw [call1 (m := 5)]
    unfold b_order_of
    have s1 : sPar [false, true] [1, 2] (mCons (mCall0 g_same_round (mCons (mVar 0) (mNil))) (mCons (mLst (mNil)) (mNil))) [.fz (rowsD rows), .no, .no, .no, .no, .no] = .nx [.fz (rowsD rows), .fz WD, .ow (intsD []), .no, .no, .no] := par_ok (cons_ok (call_ok rfl wr) (cons_ok rfl rfl)) rfl
    exact fin_rt (seq_to s1 (seq_to e (ret_ok rfl)))
  · unfold left
    have : ((List.range rows.length).filter fun j => !decide (j ∈ ([] : List Nat))) = List.range rows.length := List.filter_eq_self.mpr (fun _ _ => by simp)
    rw [this, List.length_range]
  · intro pre x post e
    simp at e
  · rintro k r ⟨found, x3, rfl, hsum, ho, rfl⟩
    have lfd : lenF [intsD found] = some (.int (found.length : Int)) := by
      show some (PyData.int ((found.map fun n : Nat => PyData.int (n : Int)).length : Int)) = _
      rw [List.length_map]
    have lt : ltF (.int (found.length : Int)) (.int (rows.length : Int)) = some (.bool (decide (found.length < rows.length))) := by
      unfold ltF
      rw [ev_cmp]
      congr 2
      rw [Bool.eq_iff_iff, decide_eq_true_iff, decide_eq_true_iff]
      omega
    have tst : c3_order_of [.fz (rowsD rows), .fz WD, .ow (intsD found), x3, .no, .no] = .ok (decide (found.length < rows.length)) [.fz (rowsD rows), .fz WD, .ow (intsD found), x3, .no, .no] := tst_ok (op_ok (mT_ok (cb_ok (cons_ok rfl rfl) rfl lfd)) (mT_ok (cb_ok (cons_ok rfl rfl) rfl (rows_len rows))) rfl rfl lt)
    by_cases hlt : found.length < rows.length
    · right
      rw [decide_eq_true hlt] at tst
      refine ⟨_, tst, ?_⟩
      obtain ⟨i, hi, hn, hw⟩ := free_ex (N := rows.length) (found := found) (W := fun i => waits (rows.getD i [])) hW (by omega)
      have hfi : freeB rows found i = true := by
        unfold freeB
        rw [Bool.and_eq_true, List.all_eq_true]
        exact ⟨by simpa using hn, fun j hj => decide_eq_true (hw j hj)⟩
      have him : i ∈ (List.range rows.length).filter (freeB rows found) := List.mem_filter.mpr ⟨List.mem_range.mpr hi, hfi⟩
      have l1 := lf found x3
      have hmem : ∀ y, y ∈ (List.range rows.length).filter (freeB rows found) → y < rows.length ∧ freeB rows found y = true := fun y hy => ⟨List.mem_range.mp (List.mem_filter.mp hy).1, (List.mem_filter.mp hy).2⟩
      generalize (List.range rows.length).filter (freeB rows found) = fs at him l1 hmem
      cases fs with
      | nil => simp at him
      | cons x fs =>
        obtain ⟨hx1, hx2⟩ := hmem x (List.mem_cons_self ..)
        have hxn : x ∉ found := by
          unfold freeB at hx2
          rw [Bool.and_eq_true] at hx2
          simpa using hx2.1
        refine wp_seq (wp_set l1 rfl ?_)
        have ne := good_int.list.eqF ((x :: fs).map fun k : Nat => 0 + (k : Int)) []
        rw [List.map_map, decide_eq_false (by simp)] at ne
        refine wp_seq (wp_not (tst_ok (op_ok rfl (mT_ok rfl) rfl rfl ne)) ?_)
        have a0 : ixF (.list ((x :: fs).map fun k : Nat => PyData.int (0 + (k : Int)))) (.int 0) = some (.int (x : Int)) := by
          rw [List.map_cons]
          refine (ev_a0 _ _).trans ?_
          rw [show (0 : Int) + (x : Int) = (x : Int) by omega]
        have ll := left_less hx1 hxn
        refine wp_app (r := []) (ds := found.map fun n : Nat => PyData.int (n : Int)) (d := .int (x : Int)) rfl (op_ok rfl (mT_ok rfl) rfl rfl a0) (by rw [List.length_map]; omega) rfl ⟨(left rows.length (found ++ [x])).length, by omega, found ++ [x], .fz (.list ((x :: fs).map fun k : Nat => PyData.int (0 + (k : Int)))), rfl, by rw [List.length_append, List.length_singleton]; omega, ho.snoc hx1 hx2, ?_⟩
        unfold intsD
        rw [List.map_append]
        rfl
    · left
      rw [decide_eq_false hlt] at tst
      exact ⟨_, tst, found, x3, by omega, ho, rfl⟩
theorem NetOk.src {n : Net} (h : NetOk n) : SrcOk n.2.1 := fun row hr a ha j hj => by
  have := (h.arc row hr a ha).1
  obtain ⟨s, d, b⟩ := a
  rcases s with _ | ⟨_ | _, k⟩
  · cases hj
  · cases hj
  · have h2 : k.val < n.2.1.length := this
    have : k.val = j := Option.some.inj hj
    omega
theorem NetOk.order {n : Net} (h : NetOk n) : ∃ found : List Nat, found.length = n.2.1.length ∧ Ord n.2.1 found ∧ g_order_of [rowsD n.2.1] = .ok (intsD found) := by
  obtain ⟨rk, hrk⟩ := h.rank
  have := h.r5
  exact w_order (by omega) (fun r hr => Nat.le_trans (h.few r hr) (by decide)) h.src hrk
theorem NetOk.net {n : Net} (h : NetOk n) : g_is_net [netD n] = .ok (.bool true) := by
  have hr5 := h.r5
  have s := w_shaped h
  have b := w_all_back (rows := n.2.1) (by omega) (fun r hr => Nat.le_trans (h.few r hr) (by decide))
  obtain ⟨found, _, _, o⟩ := h.order
  have l8 : leF (.int ((n.2.1.map fun r => (r.map fun a => a.2.2).sum).sum : Nat)) (.int 8) = some (.bool true) := le_nat (b := 8) h.back
  have row1 : ixF (netD n) (.int 1) = some (rowsD n.2.1) := rfl
  have p1 : mCall0 g_is_shaped (mCons (mVar 0) (mNil)) [.fz (netD n)] = .ok (.bool true) [.fz (netD n)] := call_ok rfl s
  have p2 : mOp leF (mT (mCall0 g_all_back (mCons (mOp ixF (mVarT 0) (mT (ret (.int 1)))) (mNil)))) (mT (ret (.int 8))) [.fz (netD n)] = .ok (.bool true) [.fz (netD n)] := op_ok (mT_ok (call_ok (cons_ok (op_ok rfl (mT_ok rfl) rfl rfl row1) rfl) b)) (mT_ok rfl) rfl rfl l8
  have p3 : mOp (isF true) (mT (mCall0 g_order_of (mCons (mOp ixF (mVarT 0) (mT (ret (.int 1)))) (mNil)))) (mT (ret .none)) [.fz (netD n)] = .ok (.bool true) [.fz (netD n)] := op_ok (mT_ok (call_ok (cons_ok (op_ok rfl (mT_ok rfl) rfl rfl row1) rfl) o)) (mT_ok rfl) rfl rfl rfl
  unfold g_is_net
  rw [call1 (m := 0)]
  unfold b_is_net
  exact fin_rt (ret_ok (andV_ok (x := true) (y := true) p1 (fun _ => andV_ok (x := true) (y := true) p2 (fun _ => p3))))
theorem NetOk.need {n : Net} (h : NetOk n) : g_need_net [netD n] = .ok .none := by
  unfold g_need_net
  rw [call1 (m := 0)]
  unfold b_need_net
  exact fin_nx (ifs_f (not_ok (tst_ok (call_ok rfl h.net))) rfl)
end Rn
end
section
set_option Elab.async false
set_option linter.all false
set_option maxRecDepth 100000
set_option maxHeartbeats 4000000
namespace Rn
open PySem PySem.Spec L2
structure ArcPre (given many ev : Nat) (a : Arc) : Prop where
  src : srcOk given many a.1
  dl : a.2.1 ≤ 9
  bk : a.2.2 ≤ 3
  low : a.2.2 = 0 → ∀ j, evOf a.1 = some j → j < ev
abbrev rN (d : D) (most inp many given : Nat) (x5 : Cell) (left : Nat) (x7 x8 x9 x10 x11 x12 x13 : Cell) : Rho := [.bw d, .fz (.int (most : Nat)), .fz (.int (inp : Nat)), .fz (.int (many : Nat)), .fz (.int (given : Nat)), x5, .fz (.int (left : Nat)), x7, x8, x9, x10, x11, x12, x13]
abbrev owR (r : List Arc) : Cell := .ow (.list (r.map arcD))
theorem src_e {d : D} (hd : IsDice d) {many : Nat} (h0 : 0 < many) (h : many ≤ 9) : ∃ (k : Fin 10) (x : Nat) (d' : D), IsDice d' ∧ k.val = x ∧ x < many ∧ noEx c__law_roll d [.int (many : Nat)] = .ok (.int (x : Nat)) d' ∧ strF [.int (x : Int)] = some (.str (toString (x : Int))) ∧ addF (.str "e") (.str (toString (x : Int))) = some (srcD (some (true, k))) ∧ addF (.str "u") (.str (toString (x : Int))) = some (srcD (some (false, k))) := by
  obtain ⟨x, d', hx, hd', q⟩ := roll_n hd (many : Nat) many rfl h0 (by omega)
  have hx10 : x < 10 := by omega
  exact ⟨⟨x, hx10⟩, x, d', hd', rfl, hx, q, dig_s ⟨x, hx10⟩, dig_e ⟨x, hx10⟩, dig_u ⟨x, hx10⟩⟩
theorem arc_draw {d : D} (hd : IsDice d) {most inp many given left ev : Nat} {x5 x8 x10 : Cell} {row : List Arc} {x11 x12 x13 : Cell} (hm0 : 0 < many) (hm : many ≤ 9) (hg : given ≤ 9) (hrow : row.length ≤ 100) :
    Wp l0__law_net (fun r => ∃ (d' : D) (left' : Nat) (row' : List Arc) (y11 y12 y13 : Cell), IsDice d' ∧ ((row' = row ∧ left' = left) ∨ ∃ a, ArcPre given many ev a ∧ a.2.2 ≤ left ∧ left' + a.2.2 = left ∧ row' = row ++ [a]) ∧ r = rN d' most inp many given x5 left' (.fz (.int (ev : Nat))) x8 (owR row') x10 y11 y12 y13)
      (rN d most inp many given x5 left (.fz (.int (ev : Nat))) x8 (owR row) x10 x11 x12 x13) := by
  -- back
  obtain ⟨i, d1, hi, hd1, q1⟩ := roll_n hd 6 6 rfl (by decide) (by decide)
  obtain ⟨b, hb, eb⟩ : ∃ b : Nat, b ≤ 3 ∧ atI [PyData.int 0, PyData.int 1, PyData.int 1, PyData.int 2, PyData.int 0, PyData.int 3] (i : Int) = some (.int (b : Nat)) := by
    match i, hi with
    | 0, _ => exact ⟨0, by decide, rfl⟩
    | 1, _ => exact ⟨1, by decide, rfl⟩
    | 2, _ => exact ⟨1, by decide, rfl⟩
    | 3, _ => exact ⟨2, by decide, rfl⟩
    | 4, _ => exact ⟨0, by decide, rfl⟩
    | 5, _ => exact ⟨3, by decide, rfl⟩
  refine wp_seq (wp_set (d := .int (b : Nat)) (r := rN d1 most inp many given x5 left (.fz (.int (ev : Nat))) x8 (owR row) x10 x11 x12 x13) (op_ok (mT_ok rfl) (mT_ok (callB_ok rfl rfl rfl q1 rfl)) rfl rfl eb) rfl ?_)
  -- pick
  obtain ⟨pk, d2, hpk, hd2, q2⟩ := roll_n hd1 4 4 rfl (by decide) (by decide)
  refine wp_seq (wp_set (d := .int (pk : Nat)) (r := rN d2 most inp many given x5 left (.fz (.int (ev : Nat))) x8 (owR row) x10 (.fz (.int (b : Nat))) x12 x13) (callB_ok rfl rfl rfl q2 rfl) rfl ?_)
  -- source
  obtain ⟨k, x, d3, hd3, hkx, hxm, q3, ds, de, _⟩ := src_e hd2 hm0 hm
  refine wp_seq (wp_set (d := srcD (some (true, k))) (r := rN d3 most inp many given x5 left (.fz (.int (ev : Nat))) x8 (owR row) x10 (.fz (.int (b : Nat))) (.fz (.int (pk : Nat))) x13) (op_ok (mT_ok rfl) (mT_ok (cb_ok (cons_ok (mT_ok (callB_ok rfl (cons_ok rfl rfl) rfl q3 rfl)) rfl) rfl ds)) rfl rfl de) rfl ?_)
  -- from here on: any good source
  have rest : ∀ (s : Src) (d4 : D), IsDice d4 → srcOk given many s → Wp (sSeq (sIf (mAnd (mTst (mOp eqF (mT (mOp ixF (mVarT 13) (mT (ret (.int 0))))) (mT (ret (.str "e"))))) (mAnd (mTst (mOp geF (mT (mCB intF (mCons (mT (mSl slF (mVarT 13) (mPart (ret (.int 1))) (mNoPart))) (mNil)))) (mVarT 7))) (mTst (mOp eqF (mVarT 11) (mT (ret (.int 0))))))) (sAsg (ret (.int 1)) (hName 11)) (sNext))
      (sIf (mTst (mOp leF (mVarT 11) (mVarT 6))) (sSeq (sAsg (mOp subF (mVarT 6) (mVarT 11)) (hName 6))
      (sAppend 9 (mTup (mCons (mVar 13) (mCons (mCallB (noEx c__law_roll) 0 (mCons (ret (.int 10)) (mNil))) (mCons (mVar 11) (mNil))))))) (sNext))) (fun r => ∃ (d' : D) (left' : Nat) (row' : List Arc) (y11 y12 y13 : Cell), IsDice d' ∧ ((row' = row ∧ left' = left) ∨ ∃ a, ArcPre given many ev a ∧ a.2.2 ≤ left ∧ left' + a.2.2 = left ∧ row' = row ++ [a]) ∧ r = rN d' most inp many given x5 left' (.fz (.int (ev : Nat))) x8 (owR row') x10 y11 y12 y13)
      (rN d4 most inp many given x5 left (.fz (.int (ev : Nat))) x8 (owR row) x10 (.fz (.int (b : Nat))) (.fz (.int (pk : Nat))) (.fz (srcD s))) := by
    intro s d4 hd4 hs
    -- the last part
    have last : ∀ (b' : Nat), b' ≤ 3 → (b' = 0 → ∀ j, evOf s = some j → j < ev) → Wp (sIf (mTst (mOp leF (mVarT 11) (mVarT 6))) (sSeq (sAsg (mOp subF (mVarT 6) (mVarT 11)) (hName 6))
      (sAppend 9 (mTup (mCons (mVar 13) (mCons (mCallB (noEx c__law_roll) 0 (mCons (ret (.int 10)) (mNil))) (mCons (mVar 11) (mNil))))))) (sNext)) (fun r => ∃ (d' : D) (left' : Nat) (row' : List Arc) (y11 y12 y13 : Cell), IsDice d' ∧ ((row' = row ∧ left' = left) ∨ ∃ a, ArcPre given many ev a ∧ a.2.2 ≤ left ∧ left' + a.2.2 = left ∧ row' = row ++ [a]) ∧ r = rN d' most inp many given x5 left' (.fz (.int (ev : Nat))) x8 (owR row') x10 y11 y12 y13)
      (rN d4 most inp many given x5 left (.fz (.int (ev : Nat))) x8 (owR row) x10 (.fz (.int (b' : Nat))) (.fz (.int (pk : Nat))) (.fz (srcD s))) := by
      intro b' hb' hlow
      have le : leF (.int (b' : Int)) (.int (left : Int)) = some (.bool (decide (b' ≤ left))) := by
        unfold leF
        rw [ev_cmp]
        congr 2
        rw [Bool.eq_iff_iff, decide_eq_true_iff, decide_eq_true_iff]
        omega
      refine wp_if (tst_ok (op_ok rfl rfl rfl rfl le)) (fun z => ?_) (fun z => ?_)
      · have z := of_decide_eq_true z
        obtain ⟨dl, d5, hdl, hd5, q5⟩ := roll_n hd4 10 10 rfl (by decide) (by decide)
        have es : subF (.int (left : Int)) (.int (b' : Int)) = some (.int ((left - b' : Nat) : Int)) := by
          rw [ev_sub, show (left : Int) - (b' : Int) = ((left - b' : Nat) : Int) by omega]
        refine wp_seq (wp_set (d := .int ((left - b' : Nat) : Int)) (r := rN d4 most inp many given x5 left (.fz (.int (ev : Nat))) x8 (owR row) x10 (.fz (.int (b' : Nat))) (.fz (.int (pk : Nat))) (.fz (srcD s))) (op_ok rfl rfl rfl rfl es) rfl ?_)
        refine wp_append (d := arcD (s, dl, b')) (r := rN d5 most inp many given x5 (left - b') (.fz (.int (ev : Nat))) x8 (owR row) x10 (.fz (.int (b' : Nat))) (.fz (.int (pk : Nat))) (.fz (srcD s))) rfl (tup_ok (cons_ok rfl (cons_ok (callB_ok rfl rfl rfl q5 rfl) (cons_ok rfl rfl))) (show (3 : Nat) ≤ 100 by decide)) rfl (by simp [big]; omega) rfl ?_
        refine ⟨d5, left - b', row ++ [(s, dl, b')], .fz (.int (b' : Nat)), .fz (.int (pk : Nat)), .fz (srcD s), hd5, .inr ⟨(s, dl, b'), ⟨hs, by simp only; omega, hb', hlow⟩, z, by simp only; omega, rfl⟩, ?_⟩
        unfold owR
        rw [List.map_append]
        rfl
      · exact wp_next ⟨d4, left, row, _, _, _, hd4, .inl ⟨rfl, rfl⟩, rfl⟩
    have hd := src_head s
    have eh := eqF_s (srcH s) "e"
    rcases s with _ | ⟨_ | _, k⟩
    · rw [decide_eq_false (show ¬ srcH none = "e" by decide)] at eh
      refine wp_seq (wp_not (and_f (tst_ok (op_ok (mT_ok (op_ok rfl (mT_ok rfl) rfl rfl hd)) (mT_ok rfl) rfl rfl eh))) (last b hb (fun _ j hj => by cases hj)))
    · rw [decide_eq_false (show ¬ srcH (some (false, k)) = "e" by show ¬ (("u" : Str) = "e"); decide)] at eh
      refine wp_seq (wp_not (and_f (tst_ok (op_ok (mT_ok (op_ok rfl (mT_ok rfl) rfl rfl hd)) (mT_ok rfl) rfl rfl eh))) (last b hb (fun _ j hj => by cases hj)))
    · rw [decide_eq_true (show srcH (some (true, k)) = "e" from rfl)] at eh
      have tl := src_tail k
      have di := dig_i k
      have num : mCB intF (mCons (mT (mSl slF (mVarT 13) (mPart (ret (.int 1))) (mNoPart))) (mNil)) (rN d4 most inp many given x5 left (.fz (.int (ev : Nat))) x8 (owR row) x10 (.fz (.int (b : Nat))) (.fz (.int (pk : Nat))) (.fz (srcD (some (true, k))))) = .ok (.int (k.val : Int)) (rN d4 most inp many given x5 left (.fz (.int (ev : Nat))) x8 (owR row) x10 (.fz (.int (b : Nat))) (.fz (.int (pk : Nat))) (.fz (srcD (some (true, k))))) := by
        have sl : mSl slF (mVarT 13) (mPart (ret (.int 1))) (mNoPart) (rN d4 most inp many given x5 left (.fz (.int (ev : Nat))) x8 (owR row) x10 (.fz (.int (b : Nat))) (.fz (.int (pk : Nat))) (.fz (srcD (some (true, k))))) = .ok (.str (toString (k.val : Int))) (rN d4 most inp many given x5 left (.fz (.int (ev : Nat))) x8 (owR row) x10 (.fz (.int (b : Nat))) (.fz (.int (pk : Nat))) (.fz (srcD (some (true, k))))) := by
          show lft (slF (srcD (some (true, k))) (some 1) none) _ = _
          rw [tl]
          rfl
        exact cb_ok (cons_ok (mT_ok sl) rfl) rfl di
      have ge : geF (.int (k.val : Int)) (.int (ev : Int)) = some (.bool (decide (ev ≤ k.val))) := by
        unfold geF
        rw [ev_cmp]
        congr 2
        rw [Bool.eq_iff_iff, decide_eq_true_iff, decide_eq_true_iff]
        omega
      have e0 : eqF (.int (b : Int)) (.int 0) = some (.bool (decide (b = 0))) := good_nat.eqF b 0
      refine wp_seq (wp_if (b := decide (ev ≤ k.val) && decide (b = 0)) (r := rN d4 most inp many given x5 left (.fz (.int (ev : Nat))) x8 (owR row) x10 (.fz (.int (b : Nat))) (.fz (.int (pk : Nat))) (.fz (srcD (some (true, k))))) (and_t (tst_ok (op_ok (mT_ok (op_ok rfl (mT_ok rfl) rfl rfl hd)) (mT_ok rfl) rfl rfl eh)) (and_ok (tst_ok (op_ok (mT_ok num) rfl rfl rfl ge)) (fun _ => tst_ok (op_ok rfl (mT_ok rfl) rfl rfl e0)))) (fun z => ?_) (fun z => ?_))
      · exact wp_set (d := .int ((1 : Nat) : Int)) rfl rfl (last 1 (by decide) (fun h => by cases h))
      · refine wp_next (last b hb (fun hb0 j hj => ?_))
        have hj : k.val = j := Option.some.inj hj
        rw [hb0, decide_eq_true rfl, Bool.and_true] at z
        have := of_decide_eq_false z
        omega
  have e0 : eqF (.int (pk : Int)) (.int 0) = some (.bool (decide (pk = 0))) := good_nat.eqF pk 0
  have e1 : eqF (.int (pk : Int)) (.int 1) = some (.bool (decide (pk = 1))) := good_nat.eqF pk 1
  have gt : gtF (.int (given : Int)) (.int 0) = some (.bool (decide (0 < given))) := by
    unfold gtF
    rw [ev_cmp]
    congr 2
    rw [Bool.eq_iff_iff, decide_eq_true_iff, decide_eq_true_iff]
    omega
  have hsk : srcOk given many (some (true, k)) := by show k.val < many; omega
  -- pick == 1
  have mid : ∀ (s : Src), srcOk given many s → Wp (sSeq (sIf (mAnd (mTst (mOp eqF (mVarT 12) (mT (ret (.int 1))))) (mTst (mOp gtF (mVarT 4) (mT (ret (.int 0)))))) (sAsg (mOp addF (mT (ret (.str "u"))) (mT (mCB strF (mCons (mT (mCallB (noEx c__law_roll) 0 (mCons (mVar 4) (mNil)))) (mNil))))) (hName 13)) (sNext)) (sSeq (sIf (mAnd (mTst (mOp eqF (mT (mOp ixF (mVarT 13) (mT (ret (.int 0))))) (mT (ret (.str "e"))))) (mAnd (mTst (mOp geF (mT (mCB intF (mCons (mT (mSl slF (mVarT 13) (mPart (ret (.int 1))) (mNoPart))) (mNil)))) (mVarT 7))) (mTst (mOp eqF (mVarT 11) (mT (ret (.int 0))))))) (sAsg (ret (.int 1)) (hName 11)) (sNext))
      (sIf (mTst (mOp leF (mVarT 11) (mVarT 6))) (sSeq (sAsg (mOp subF (mVarT 6) (mVarT 11)) (hName 6))
      (sAppend 9 (mTup (mCons (mVar 13) (mCons (mCallB (noEx c__law_roll) 0 (mCons (ret (.int 10)) (mNil))) (mCons (mVar 11) (mNil))))))) (sNext)))) (fun r => ∃ (d' : D) (left' : Nat) (row' : List Arc) (y11 y12 y13 : Cell), IsDice d' ∧ ((row' = row ∧ left' = left) ∨ ∃ a, ArcPre given many ev a ∧ a.2.2 ≤ left ∧ left' + a.2.2 = left ∧ row' = row ++ [a]) ∧ r = rN d' most inp many given x5 left' (.fz (.int (ev : Nat))) x8 (owR row') x10 y11 y12 y13)
      (rN d3 most inp many given x5 left (.fz (.int (ev : Nat))) x8 (owR row) x10 (.fz (.int (b : Nat))) (.fz (.int (pk : Nat))) (.fz (srcD s))) := by
    intro s hs
    refine wp_seq (wp_if (b := decide (pk = 1) && decide (0 < given)) (r := rN d3 most inp many given x5 left (.fz (.int (ev : Nat))) x8 (owR row) x10 (.fz (.int (b : Nat))) (.fz (.int (pk : Nat))) (.fz (srcD s))) (and_ok (tst_ok (op_ok rfl (mT_ok rfl) rfl rfl e1)) (fun _ => tst_ok (op_ok rfl (mT_ok rfl) rfl rfl gt))) (fun z => ?_) (fun z => ?_))
    · rw [Bool.and_eq_true] at z
      have hg0 := of_decide_eq_true z.2
      obtain ⟨u, y, d4, hd4, huy, hyg, q4, ds4, _, du⟩ := src_e hd3 hg0 hg
      refine wp_set (d := srcD (some (false, u))) (r := rN d4 most inp many given x5 left (.fz (.int (ev : Nat))) x8 (owR row) x10 (.fz (.int (b : Nat))) (.fz (.int (pk : Nat))) (.fz (srcD s))) (op_ok (mT_ok rfl) (mT_ok (cb_ok (cons_ok (mT_ok (callB_ok rfl (cons_ok rfl rfl) rfl q4 rfl)) rfl) rfl ds4)) rfl rfl du) rfl (rest _ d4 hd4 ?_)
      show u.val < given
      omega
    · exact wp_next (rest s d3 hd3 hs)
  refine wp_seq (wp_if (b := decide (pk = 0)) (r := rN d3 most inp many given x5 left (.fz (.int (ev : Nat))) x8 (owR row) x10 (.fz (.int (b : Nat))) (.fz (.int (pk : Nat))) (.fz (srcD (some (true, k))))) (tst_ok (op_ok rfl (mT_ok rfl) rfl rfl e0)) (fun z => ?_) (fun z => ?_))
  · exact wp_set (d := srcD none) rfl rfl (mid none trivial)
  · exact wp_next (mid _ hsk)
end Rn
end
section
set_option Elab.async false
set_option linter.all false
set_option maxRecDepth 100000
set_option maxHeartbeats 4000000
namespace Rn
open PySem PySem.Spec L2
theorem rng1_s {f : M (List D)} {r r2 : Rho} {n : Nat} (h : f r = .ok [.int (n : Int)] r2) (hn : n ≤ 1000000) : mRng1 f r = .ok ((List.range n).map fun k : Nat => PyData.int (0 + (k : Int))) r2 := by
  rw [ev_rn1, ev_bnd, h]
  have h1 : (n : Int) ≤ 1000000 ∧ -1000000 ≤ (n : Int) := by omega
  simp only [if_pos h1, rangeD_map, ev_ret, Int.toNat_natCast]
def backs (r : List Arc) : Nat := (r.map fun a => a.2.2).sum
theorem backs_snoc (r : List Arc) (a : Arc) : backs (r ++ [a]) = backs r + a.2.2 := by simp [backs]
abbrev owRs (rs : Rows) : Cell := .ow (.list (rs.map rowD))
theorem row_draw {d : D} (hd : IsDice d) {most inp many given left ev : Nat} {x8 x9 x10 x11 x12 x13 : Cell} {rows : Rows} (hm0 : 0 < many) (hm : many ≤ 9) (hg : given ≤ 9) (hrs : rows.length ≤ 100) :
    Wp l1__law_net (fun r => ∃ (d' : D) (left' : Nat) (row : List Arc) (y9 y10 y11 y12 y13 : Cell), IsDice d' ∧ (∀ a ∈ row, ArcPre given many ev a) ∧ row.length ≤ 3 ∧ left' + backs row = left ∧ r = rN d' most inp many given (owRs (rows ++ [row])) left' (.fz (.int (ev : Nat))) x8 y9 y10 y11 y12 y13)
      (rN d most inp many given (owRs rows) left (.fz (.int (ev : Nat))) x8 x9 x10 x11 x12 x13) := by
  refine wp_seq (wp_own (d := .list []) rfl ?_)
  obtain ⟨t, d1, ht, hd1, q1⟩ := roll_n hd 4 4 rfl (by decide) (by decide)
  refine wp_seq (wp_for (fun k : Nat => PyData.int (0 + (k : Int))) (List.range t) (fun pre r => ∃ (d' : D) (left' : Nat) (row : List Arc) (y10 y11 y12 y13 : Cell), IsDice d' ∧ (∀ a ∈ row, ArcPre given many ev a) ∧ row.length ≤ pre.length ∧ left' + backs row = left ∧ r = rN d' most inp many given (owRs rows) left' (.fz (.int (ev : Nat))) x8 (owR row) y10 y11 y12 y13) (ρ0 := rN d1 most inp many given (owRs rows) left (.fz (.int (ev : Nat))) x8 (owR []) x10 x11 x12 x13) (rng1_s (cons_ok (callB_ok rfl rfl rfl q1 rfl) rfl) (by omega)) ⟨d1, left, [], x10, x11, x12, x13, hd1, by simp, by simp, rfl, rfl⟩ ?_ ?_)
  · rintro pre i post ex r ⟨d2, left2, row, y10, y11, y12, y13, hd2, hok, hlen, hsum, rfl⟩
    obtain ⟨hi, hlt⟩ := range_pos ex
    refine ⟨rN d2 most inp many given (owRs rows) left2 (.fz (.int (ev : Nat))) x8 (owR row) (.fz (.int (0 + (i : Int)))) y11 y12 y13, rfl, ?_⟩
    obtain ⟨r3, e3, d3, left3, row3, z11, z12, z13, hd3, hcase, hr3⟩ := arc_draw hd2 (most := most) (inp := inp) (many := many) (given := given) (left := left2) (ev := ev) (x5 := owRs rows) (x8 := x8) (x10 := .fz (.int (0 + (i : Int)))) (row := row) (x11 := y11) (x12 := y12) (x13 := y13) hm0 hm hg (by omega)
    refine ⟨r3, e3, d3, left3, row3, _, z11, z12, z13, hd3, ?_, ?_, ?_, hr3⟩
    · rcases hcase with ⟨rfl, rfl⟩ | ⟨a, ha, _, _, rfl⟩
      · exact hok
      · intro c hc
        rcases List.mem_append.mp hc with h | h
        · exact hok c h
        · rw [List.mem_singleton.mp h]; exact ha
    · rw [List.length_append, List.length_singleton]
      rcases hcase with ⟨rfl, rfl⟩ | ⟨a, ha, _, _, rfl⟩
      · omega
      · rw [List.length_append, List.length_singleton]; omega
    · rcases hcase with ⟨rfl, rfl⟩ | ⟨a, ha, h1, h2, rfl⟩
      · exact hsum
      · rw [backs_snoc]; omega
  · rintro r ⟨d2, left2, row, y10, y11, y12, y13, hd2, hok, hlen, hsum, rfl⟩
    rw [List.length_range] at hlen
    refine wp_app (r := []) (ds := rows.map rowD) (d := rowD row) rfl (cb_ok (cons_ok rfl rfl) rfl rfl) (by rw [List.length_map]; omega) rfl ⟨d2, left2, row, owR row, y10, y11, y12, y13, hd2, hok, by omega, hsum, ?_⟩
    unfold owRs
    rw [List.map_append]
    rfl
/-- rows as drawn -/
structure RowsPre (given many : Nat) (rows : Rows) : Prop where
  few : ∀ r ∈ rows, r.length ≤ 3
  pre : ∀ i, ∀ a ∈ rows.getD i [], ArcPre given many i a
theorem getD_snoc {rows : Rows} {row : List Arc} (i : Nat) : (rows ++ [row]).getD i [] = if i < rows.length then rows.getD i [] else if i = rows.length then row else [] := by
  rw [List.getD_eq_getElem?_getD, List.getD_eq_getElem?_getD]
  by_cases h : i < rows.length
  · rw [if_pos h, List.getElem?_append_left h]
  · rw [if_neg h, List.getElem?_append_right (by omega)]
    by_cases h2 : i = rows.length
    · rw [if_pos h2, h2, Nat.sub_self]; rfl
    · rw [if_neg h2, List.getElem?_eq_none (by simp; omega)]; rfl
theorem RowsPre.snoc {given many : Nat} {rows : Rows} {row : List Arc} (h : RowsPre given many rows) (h1 : row.length ≤ 3) (h2 : ∀ a ∈ row, ArcPre given many rows.length a) : RowsPre given many (rows ++ [row]) := by
  refine ⟨fun r hr => ?_, fun i a ha => ?_⟩
  · rcases List.mem_append.mp hr with z | z
    · exact h.few r z
    · rw [List.mem_singleton.mp z]; exact h1
  · rw [getD_snoc] at ha
    split at ha
    · exact h.pre i a ha
    · split at ha
      · next e => rw [e]; exact h2 a ha
      · simp at ha
theorem rows_draw {d : D} (hd : IsDice d) {most inp many given : Nat} (hm0 : 0 < many) (hm : many ≤ 5) (hg : given ≤ 2) {x7 x8 x9 x10 x11 x12 x13 : Cell} {Q : Rho → Prop}
    (q : ∀ (d' : D) (left : Nat) (rows : Rows) (y7 y9 y10 y11 y12 y13 : Cell), IsDice d' → rows.length = many → RowsPre given many rows → left + (rows.map backs).sum = 8 → Q (rN d' most inp many given (owRs rows) left y7 x8 y9 y10 y11 y12 y13)) :
    Wp (sFor (mRng1 (mCons (mVar 3) (mNil))) (hName 7) (l1__law_net)) Q (rN d most inp many given (owRs []) 8 x7 x8 x9 x10 x11 x12 x13) := by
  refine wp_for (fun k : Nat => PyData.int (0 + (k : Int))) (List.range many) (fun pre r => ∃ (d' : D) (left : Nat) (rows : Rows) (y7 y9 y10 y11 y12 y13 : Cell), IsDice d' ∧ rows.length = pre.length ∧ RowsPre given many rows ∧ left + (rows.map backs).sum = 8 ∧ r = rN d' most inp many given (owRs rows) left y7 x8 y9 y10 y11 y12 y13) (rng1_n rfl (by omega)) ⟨d, 8, [], x7, x9, x10, x11, x12, x13, hd, rfl, ⟨by simp, fun i a ha => by simp at ha⟩, rfl, rfl⟩ ?_ ?_
  · rintro pre i post ex r ⟨d2, left2, rows, y7, y9, y10, y11, y12, y13, hd2, hlen, hpre, hsum, rfl⟩
    obtain ⟨hi, hlt⟩ := range_pos ex
    refine ⟨rN d2 most inp many given (owRs rows) left2 (.fz (.int (i : Nat))) x8 y9 y10 y11 y12 y13, ?_, ?_⟩
    · rw [show (0 : Int) + (i : Int) = (i : Int) by omega]
      rfl
    obtain ⟨r3, e3, d3, left3, row, z9, z10, z11, z12, z13, hd3, hok, hl3, hs3, hr3⟩ := row_draw hd2 (most := most) (inp := inp) (many := many) (given := given) (left := left2) (ev := i) (x8 := x8) (x9 := y9) (x10 := y10) (x11 := y11) (x12 := y12) (x13 := y13) (rows := rows) hm0 (by omega) (by omega) (by omega)
    refine ⟨r3, e3, d3, left3, rows ++ [row], _, z9, z10, z11, z12, z13, hd3, by rw [List.length_append, List.length_append, hlen]; rfl, hpre.snoc hl3 (fun a ha => ?_), ?_, hr3⟩
    · rw [hlen, ← hi]; exact hok a ha
    · rw [List.map_append, List.sum_append]
      simp
      omega
  · rintro r ⟨d2, left2, rows, y7, y9, y10, y11, y12, y13, hd2, hlen, hpre, hsum, rfl⟩
    rw [List.length_range] at hlen
    exact q d2 left2 rows y7 y9 y10 y11 y12 y13 hd2 hlen hpre hsum
end Rn
end
section
set_option Elab.async false
set_option linter.all false
set_option maxRecDepth 100000
set_option maxHeartbeats 4000000
namespace Rn
open PySem PySem.Spec L2
def rotS (t m : Nat) (s : Src) : Src := match s with
  | some (true, k) => some (true, Fin.ofNat 10 ((k.val + t) % m))
  | s => s
def rotR (t m : Nat) (r : List Arc) : List Arc := r.map fun a => (rotS t m a.1, a.2)
def rotL (t : Nat) (rs : Rows) : Rows := rs.drop (rs.length - t) ++ rs.take (rs.length - t)
def rotN (t : Nat) (n : Net) : Net := (n.1, rotL t (n.2.1.map (rotR t n.2.1.length)), n.2.2.map fun o => (o + t) % n.2.1.length)
theorem rotL_len (t : Nat) (rs : Rows) : (rotL t rs).length = rs.length := by
  unfold rotL
  rw [List.length_append, List.length_drop, List.length_take]
  omega
theorem rotL_mem {t : Nat} {rs : Rows} {r : List Arc} (h : r ∈ rotL t rs) : r ∈ rs := by
  unfold rotL at h
  rcases List.mem_append.mp h with h | h
  · exact List.mem_of_mem_drop h
  · exact List.mem_of_mem_take h
/-- the row of event i stands at (i + t) % m -/
theorem rotL_at {t : Nat} {rs : Rows} (ht : t < rs.length) {i : Nat} (hi : i < rs.length) : (rotL t rs)[(i + t) % rs.length]? = rs[i]? := by
  unfold rotL
  by_cases h : i + t < rs.length
  · rw [Nat.mod_eq_of_lt h, List.getElem?_append_right (by rw [List.length_drop]; omega), List.length_drop, List.getElem?_take, if_pos (by omega)]
    congr 1
    omega
  · have e : (i + t) % rs.length = i + t - rs.length := by
      rw [Nat.mod_eq_sub_mod (by omega), Nat.mod_eq_of_lt (by omega)]
    rw [e, List.getElem?_append_left (by rw [List.length_drop]; omega), List.getElem?_drop]
    congr 1
    omega
theorem rot_uniq {t : Nat} {rs L : Rows} (ht : t < rs.length) (hl : L.length = rs.length) (h : ∀ i, i < rs.length → L[(i + t) % rs.length]? = rs[i]?) : L = rotL t rs := by
  refine List.ext_getElem? fun j => ?_
  by_cases hj : j < rs.length
  · obtain ⟨i, hi, e⟩ : ∃ i, i < rs.length ∧ (i + t) % rs.length = j := by
      by_cases hjt : j < t
      · refine ⟨rs.length - t + j, by omega, ?_⟩
        rw [show rs.length - t + j + t = rs.length + j by omega, Nat.add_mod_left, Nat.mod_eq_of_lt hj]
      · refine ⟨j - t, by omega, ?_⟩
        rw [show j - t + t = j by omega, Nat.mod_eq_of_lt hj]
    rw [← e, h i hi, rotL_at ht hi]
  · rw [List.getElem?_eq_none (by omega), List.getElem?_eq_none (by rw [rotL_len]; omega)]
theorem rotS_ok {t m ins : Nat} {s : Src} (hm0 : 0 < m) (hm : m ≤ 9) (h : srcOk ins m s) : srcOk ins m (rotS t m s) := by
  rcases s with _ | ⟨_ | _, k⟩
  · trivial
  · exact h
  · show (Fin.ofNat 10 ((k.val + t) % m)).val < m
    have := Nat.mod_lt (k.val + t) hm0
    rw [ofNat_val (by omega)]
    exact this
theorem rot_ev {t m : Nat} {s : Src} (hm0 : 0 < m) (hm : m ≤ 9) {j : Nat} (h : evOf (rotS t m s) = some j) : ∃ k, evOf s = some k ∧ j = (k + t) % m := by
  rcases s with _ | ⟨_ | _, k⟩
  · cases h
  · cases h
  · refine ⟨k.val, rfl, ?_⟩
    have h : (Fin.ofNat 10 ((k.val + t) % m)).val = j := Option.some.inj h
    have := Nat.mod_lt (k.val + t) hm0
    rw [ofNat_val (by omega)] at h
    exact h.symm
theorem mod_back {k t m : Nat} (hk : k < m) (ht : t < m) : ((k + t) % m + (m - t)) % m = k := by
  by_cases h : k + t < m
  · rw [Nat.mod_eq_of_lt h, show k + t + (m - t) = m + k by omega, Nat.add_mod_left, Nat.mod_eq_of_lt hk]
  · have e : (k + t) % m = k + t - m := by
      rw [Nat.mod_eq_sub_mod (by omega), Nat.mod_eq_of_lt (by omega)]
    rw [e, show k + t - m + (m - t) = k by omega, Nat.mod_eq_of_lt hk]
theorem backs_rot (t m : Nat) (r : List Arc) : ((rotR t m r).map fun a => a.2.2).sum = (r.map fun a => a.2.2).sum := by
  unfold rotR
  rw [List.map_map]
  rfl
theorem NetOk.rot {n : Net} (h : NetOk n) {t : Nat} (ht : t < n.2.1.length) : NetOk (rotN t n) := by
  obtain ⟨i0, rows, outs⟩ := n
  have hr1 : 1 ≤ rows.length := h.r1
  have hr5 : rows.length ≤ 5 := h.r5
  have ht : t < rows.length := ht
  obtain ⟨R, hR⟩ : ∃ R, R = rows.map (rotR t rows.length) := ⟨_, rfl⟩
  have hRl : R.length = rows.length := by rw [hR, List.length_map]
  have hlen : (rotL t R).length = rows.length := by rw [rotL_len, hRl]
  have eN : rotN t (i0, rows, outs) = (i0, rotL t R, outs.map fun o => (o + t) % rows.length) := by rw [hR]; rfl
  rw [eN]
  have hmem : ∀ r ∈ rotL t R, ∃ r0 ∈ rows, r = rotR t rows.length r0 := fun r hr => by
    have := rotL_mem hr
    rw [hR] at this
    obtain ⟨r0, h0, e⟩ := List.mem_map.mp this
    exact ⟨r0, h0, e.symm⟩
  refine ⟨h.ins, by show 1 ≤ (rotL t R).length; omega, by show (rotL t R).length ≤ 5; omega, ?_, ?_, ?_, ?_, ?_, ?_, ?_⟩
  · intro r hr
    obtain ⟨r0, h0, rfl⟩ := hmem r hr
    unfold rotR
    rw [List.length_map]
    exact h.few r0 h0
  · intro r hr a ha
    obtain ⟨r0, h0, rfl⟩ := hmem r hr
    obtain ⟨a0, ha0, rfl⟩ := List.mem_map.mp ha
    obtain ⟨h1, h2, h3⟩ := h.arc r0 h0 a0 ha0
    show srcOk i0 (rotL t R).length _ ∧ _
    rw [hlen]
    exact ⟨rotS_ok (by omega) (by omega) h1, h2, h3⟩
  · show ((rotL t R).map fun r => (r.map fun a => a.2.2).sum).sum ≤ 8
    have e1 : ((rotL t R).map fun r => (r.map fun a => a.2.2).sum).sum = (R.map fun r => (r.map fun a => a.2.2).sum).sum := by
      unfold rotL
      have := congrArg (fun l : Rows => (l.map fun r => (r.map fun a => a.2.2).sum).sum) (List.take_append_drop (R.length - t) R)
      simp only [List.map_append, List.sum_append] at this ⊢
      omega
    have e2 : (R.map fun r => (r.map fun a => a.2.2).sum) = rows.map fun r => (r.map fun a => a.2.2).sum := by
      rw [hR, List.map_map]
      exact List.map_congr_left fun r _ => backs_rot t rows.length r
    rw [e1, e2]
    exact h.back
  · obtain ⟨rk, hrk⟩ := h.rank
    refine ⟨fun j => rk ((j + (rows.length - t)) % rows.length), fun i a ha hb j hj => ?_⟩
    have ha : a ∈ (rotL t R).getD i [] := ha
    by_cases hi : i < rows.length
    · obtain ⟨i1, hi1, e1⟩ : ∃ i1, i1 < rows.length ∧ (i1 + t) % rows.length = i := by
        by_cases hjt : i < t
        · refine ⟨rows.length - t + i, by omega, ?_⟩
          rw [show rows.length - t + i + t = rows.length + i by omega, Nat.add_mod_left, Nat.mod_eq_of_lt hi]
        · refine ⟨i - t, by omega, ?_⟩
          rw [show i - t + t = i by omega, Nat.mod_eq_of_lt hi]
      have e2 := rotL_at (t := t) (rs := R) (by omega) (i := i1) (by omega)
      rw [hRl, e1] at e2
      rw [List.getD_eq_getElem?_getD, e2, hR, List.getElem?_map, List.getElem?_eq_getElem hi1] at ha
      have ha : a ∈ rotR t rows.length rows[i1] := ha
      obtain ⟨a0, ha0, rfl⟩ := List.mem_map.mp ha
      obtain ⟨k, hk, hjk⟩ := rot_ev (by omega) (by omega) hj
      have hkm : k < rows.length := by
        have := h.src rows[i1] (List.getElem_mem hi1) a0 ha0 k hk
        exact this
      have := hrk i1 a0 (by
        show a0 ∈ rows.getD i1 []
        rw [List.getD_eq_getElem?_getD, List.getElem?_eq_getElem hi1]
        exact ha0) hb k hk
      show rk ((j + (rows.length - t)) % rows.length) < rk ((i + (rows.length - t)) % rows.length)
      rw [hjk, mod_back hkm ht, ← e1, mod_back hi1 ht]
      exact this
    · rw [List.getD_eq_getElem?_getD, List.getElem?_eq_none (by omega)] at ha
      simp at ha
  · show 1 ≤ (outs.map _).length
    rw [List.length_map]
    exact h.o1
  · show (outs.map _).length ≤ 3
    rw [List.length_map]
    exact h.o3
  · intro o ho
    obtain ⟨o0, h0, rfl⟩ := List.mem_map.mp ho
    show (o0 + t) % rows.length < (rotL t R).length
    rw [hlen]
    exact Nat.mod_lt _ (by omega)
end Rn
end
section
set_option Elab.async false
set_option linter.all false
set_option maxRecDepth 100000
set_option maxHeartbeats 4000000
namespace Rn
open PySem PySem.Spec L2
abbrev rQ (d net : D) (m t : Nat) (x4 x5 x6 x7 x8 x9 x10 : Cell) : Rho := [.bw d, .fz net, .fz (.int (m : Nat)), .fz (.int (t : Nat)), x4, x5, x6, x7, x8, x9, x10, .no]
theorem mod_nat {a m : Nat} (h : 0 < m) : modF (.int (a : Int)) (.int (m : Int)) = some (.int ((a % m : Nat) : Int)) := by
  rw [md0 (by omega)]
  simp
theorem mod_inj {i j t m : Nat} (hi : i < m) (hj : j < m) (ht : t < m) (h : (i + t) % m = (j + t) % m) : i = j := by
  have h1 := mod_back hi ht
  have h2 := mod_back hj ht
  rw [h] at h1
  omega
theorem arc_rot {d net : D} {m t : Nat} (hm0 : 0 < m) (hm : m ≤ 9) {x4 x5 x6 : Cell} {some' : List Arc} {a : Arc} (hl : some'.length ≤ 100) :
    Wp l0__law_renamed (fun r => ∃ y8, r = rQ d net m t x4 x5 x6 (owR (some' ++ [(rotS t m a.1, a.2)])) y8 (.fz (.int (a.2.1 : Nat))) (.fz (.int (a.2.2 : Nat))))
      (rQ d net m t x4 x5 x6 (owR some') (.fz (srcD a.1)) (.fz (.int (a.2.1 : Nat))) (.fz (.int (a.2.2 : Nat)))) := by
  obtain ⟨s, dl, bk⟩ := a
  have last : ∀ s' : Src, Wp (sAppend 7 (mTup (mCons (mVar 8) (mCons (mVar 9) (mCons (mVar 10) (mNil)))))) (fun r => ∃ y8, r = rQ d net m t x4 x5 x6 (owR (some' ++ [(s', dl, bk)])) y8 (.fz (.int (dl : Nat))) (.fz (.int (bk : Nat)))) (rQ d net m t x4 x5 x6 (owR some') (.fz (srcD s')) (.fz (.int (dl : Nat))) (.fz (.int (bk : Nat)))) := fun s' => by
    refine wp_app (r := []) (ds := some'.map arcD) (d := arcD (s', dl, bk)) rfl (tup_ok (cons_ok rfl (cons_ok rfl (cons_ok rfl rfl))) (show (3 : Nat) ≤ 100 by decide)) (by rw [List.length_map]; omega) rfl ⟨.fz (srcD s'), ?_⟩
    unfold owR
    rw [List.map_append]
    rfl
  have hd := src_head s
  have eh := eqF_s (srcH s) "e"
  rcases s with _ | ⟨_ | _, k⟩
  · rw [decide_eq_false (show ¬ srcH none = "e" by decide)] at eh
    exact wp_seq (wp_not (tst_ok (op_ok (mT_ok (op_ok rfl (mT_ok rfl) rfl rfl hd)) (mT_ok rfl) rfl rfl eh)) (last none))
  · rw [decide_eq_false (show ¬ srcH (some (false, k)) = "e" by show ¬ (("u" : Str) = "e"); decide)] at eh
    exact wp_seq (wp_not (tst_ok (op_ok (mT_ok (op_ok rfl (mT_ok rfl) rfl rfl hd)) (mT_ok rfl) rfl rfl eh)) (last (some (false, k))))
  · rw [decide_eq_true (show srcH (some (true, k)) = "e" from rfl)] at eh
    have tl := src_tail k
    have di := dig_i k
    have hlt := Nat.mod_lt (k.val + t) hm0
    have hlt10 : (k.val + t) % m < 10 := by omega
    have num : mCB intF (mCons (mT (mSl slF (mVarT 8) (mPart (ret (.int 1))) (mNoPart))) (mNil)) (rQ d net m t x4 x5 x6 (owR some') (.fz (srcD (some (true, k)))) (.fz (.int (dl : Nat))) (.fz (.int (bk : Nat)))) = .ok (.int (k.val : Int)) (rQ d net m t x4 x5 x6 (owR some') (.fz (srcD (some (true, k)))) (.fz (.int (dl : Nat))) (.fz (.int (bk : Nat)))) := by
      have sl : mSl slF (mVarT 8) (mPart (ret (.int 1))) (mNoPart) (rQ d net m t x4 x5 x6 (owR some') (.fz (srcD (some (true, k)))) (.fz (.int (dl : Nat))) (.fz (.int (bk : Nat)))) = .ok (.str (toString (k.val : Int))) (rQ d net m t x4 x5 x6 (owR some') (.fz (srcD (some (true, k)))) (.fz (.int (dl : Nat))) (.fz (.int (bk : Nat)))) := by
        show lft (slF (srcD (some (true, k))) (some 1) none) _ = _
        rw [tl]
        rfl
      exact cb_ok (cons_ok (mT_ok sl) rfl) rfl di
    have ea : addF (.int (k.val : Int)) (.int (t : Int)) = some (.int ((k.val + t : Nat) : Int)) := by
      rw [ev_add]
      rfl
    have ds := dig_s ⟨(k.val + t) % m, hlt10⟩
    have de := dig_e ⟨(k.val + t) % m, hlt10⟩
    have er : rotS t m (some (true, k)) = some (true, ⟨(k.val + t) % m, hlt10⟩) := by
      show some (true, Fin.ofNat 10 ((k.val + t) % m)) = _
      rw [ofNat_eq hlt10]
    rw [er]
    refine wp_seq (wp_if (tst_ok (op_ok (mT_ok (op_ok rfl (mT_ok rfl) rfl rfl hd)) (mT_ok rfl) rfl rfl eh)) (fun _ => ?_) (fun z => by cases z))
    exact wp_set (d := srcD (some (true, ⟨(k.val + t) % m, hlt10⟩))) (op_ok (mT_ok rfl) (mT_ok (cb_ok (cons_ok (mT_ok (op_ok (mT_ok (op_ok (mT_ok num) rfl rfl rfl ea)) rfl rfl rfl (mod_nat hm0))) rfl) rfl ds)) rfl rfl de) rfl (last _)
theorem row_rot {d net : D} {m t i : Nat} (hm0 : 0 < m) (hm : m ≤ 9) {L : Rows} (hL : L.length = m) {row : List Arc} (hrow : row.length ≤ 50) {x7 x8 x9 x10 : Cell} :
    Wp l1__law_renamed (fun r => ∃ y7 y8 y9 y10, r = rQ d net m t (owRs (L.set ((i + t) % m) (rotR t m row))) (.fz (.int (i : Nat))) (.fz (rowD row)) y7 y8 y9 y10)
      (rQ d net m t (owRs L) (.fz (.int (i : Nat))) (.fz (rowD row)) x7 x8 x9 x10) := by
  refine wp_seq (wp_own (d := .list []) rfl ?_)
  refine wp_seq (wp_for arcD row (fun pre r => ∃ y8 y9 y10, r = rQ d net m t (owRs L) (.fz (.int (i : Nat))) (.fz (rowD row)) (owR (rotR t m pre)) y8 y9 y10) (ρ0 := rQ d net m t (owRs L) (.fz (.int (i : Nat))) (.fz (rowD row)) (owR []) x8 x9 x10) (seqT_ok rfl) ⟨x8, x9, x10, rfl⟩ ?_ ?_)
  · rintro pre a post ex r ⟨y8, y9, y10, rfl⟩
    have hl : pre.length ≤ row.length := by
      have := congrArg List.length ex
      rw [List.length_append] at this
      omega
    refine ⟨rQ d net m t (owRs L) (.fz (.int (i : Nat))) (.fz (rowD row)) (owR (rotR t m pre)) (.fz (srcD a.1)) (.fz (.int (a.2.1 : Nat))) (.fz (.int (a.2.2 : Nat))), rfl, ?_⟩
    obtain ⟨r2, e2, z8, hr2⟩ := arc_rot (d := d) (net := net) (t := t) hm0 hm (x4 := owRs L) (x5 := .fz (.int (i : Nat))) (x6 := .fz (rowD row)) (some' := rotR t m pre) (a := a) (by unfold rotR; rw [List.length_map]; omega)
    refine ⟨r2, e2, z8, .fz (.int (a.2.1 : Nat)), .fz (.int (a.2.2 : Nat)), ?_⟩
    rw [hr2]
    unfold rotR
    rw [List.map_append]
    rfl
  · rintro r ⟨y8, y9, y10, rfl⟩
    have ea : addF (.int (i : Int)) (.int (t : Int)) = some (.int ((i + t : Nat) : Int)) := by
      rw [ev_add]
      rfl
    have hlt := Nat.mod_lt (i + t) hm0
    refine wp_setitem (d := rowD (rotR t m row)) (r := rQ d net m t (owRs L) (.fz (.int (i : Nat))) (.fz (rowD row)) (owR (rotR t m row)) y8 y9 y10) (r2 := rQ d net m t (owRs L) (.fz (.int (i : Nat))) (.fz (rowD row)) (owR (rotR t m row)) y8 y9 y10) (k := (((i + t) % m : Nat) : Int)) (cb_ok (cons_ok rfl rfl) rfl rfl) rfl (op_ok (mT_ok (op_ok rfl rfl rfl rfl ea)) rfl rfl rfl (mod_nat hm0)) (setD_ok (n := (i + t) % m) rfl rfl (by rw [List.length_map]; omega) rfl) ⟨owR (rotR t m row), y8, y9, y10, ?_⟩
    unfold owRs
    rw [List.map_set]
    rfl
theorem w_renamed {d : D} (hd : IsDice d) {n : Net} (h : NetOk n) : ∃ (n' : Net) (d' : D), IsDice d' ∧ NetOk n' ∧ noEx c__law_renamed d [netD n] = .ok (netD n') d' := by
  obtain ⟨i0, rows, outs⟩ := n
  have hr1 : 1 ≤ rows.length := h.r1
  have hr5 : rows.length ≤ 5 := h.r5
  have ho3 : outs.length ≤ 3 := h.o3
  obtain ⟨x, d1, hx, hd1, q1⟩ := roll_n hd 2 2 rfl (by decide) (by decide)
  obtain ⟨N, hN⟩ : ∃ N, N = netD (i0, rows, outs) := ⟨_, rfl⟩
  have i1 : ixF N (.int 1) = some (rowsD rows) := by rw [hN]; rfl
  have i2 : ixF N (.int 2) = some (outsD outs) := by rw [hN]; rfl
  have i3 : ixF N (.int 0) = some (.int (i0 : Nat)) := by rw [hN]; rfl
  have ex := good_nat.eqF x 0
  have s1 : sAsg (mCB lenF (mCons (mT (mOp ixF (mVarT 1) (mT (ret (.int 1))))) (mNil))) (hName 2) [.bw d, .fz N, .no, .no, .no, .no, .no, .no, .no, .no, .no, .no] = .nx [.bw d, .fz N, .fz (.int (rows.length : Nat)), .no, .no, .no, .no, .no, .no, .no, .no, .no] := asg_ok (cb_ok (cons_ok (mT_ok (op_ok rfl (mT_ok rfl) rfl rfl i1)) rfl) rfl (rows_len rows)) rfl
  have fin : ∀ (n' : Net) (d' : D) (r : Rho), IsDice d' → NetOk n' → b__law_renamed [.bw d, .fz N, .no, .no, .no, .no, .no, .no, .no, .no, .no, .no] = .rt (netD n') r → bwOf r = some d' → ∃ (n' : Net) (d' : D), IsDice d' ∧ NetOk n' ∧ noEx c__law_renamed d [N] = .ok (netD n') d' := by
    intro n' d' r hd' hn' e hb
    refine ⟨n', d', hd', hn', ?_⟩
    have e' : c__law_renamed d [N] = .ok (netD n') d' := by
      unfold c__law_renamed callB
      rw [if_pos (show [N].length + 1 = 2 from rfl)]
      show finB (b__law_renamed [.bw d, .fz N, .no, .no, .no, .no, .no, .no, .no, .no, .no, .no]) = _
      rw [e]
      show (match bwOf r with | some d1 => RB.ok (netD n') d1 | none => RB.no) = _
      rw [hb]
    unfold noEx
    rw [e']
  rw [← hN]
  by_cases hx0 : x = 0
  · rw [decide_eq_true hx0] at ex
    refine fin (i0, rows, outs) d1 [.bw d1, .fz N, .fz (.int (rows.length : Nat)), .no, .no, .no, .no, .no, .no, .no, .no, .no] hd1 h ?_ rfl
    rw [← hN]
    exact seq_to s1 (seq_rt (ifs_t (tst_ok (op_ok (mT_ok (callB_ok rfl rfl rfl q1 rfl)) (mT_ok rfl) rfl rfl ex)) rfl))
  · rw [decide_eq_false hx0] at ex
    obtain ⟨t, d2, ht, hd2, q2⟩ := roll_n hd1 (rows.length : Nat) rows.length rfl (by omega) (by omega)
    have rep := rep_one (d := PyData.tuple []) (j := (rows.length : Int)) (n := rows.length) rfl (by omega)
    have rep' : repF (.list [.tuple []]) (.int (rows.length : Int)) = some (.list ((List.replicate rows.length ([] : List Arc)).map rowD)) := by
      rw [rep, List.map_replicate]
      rfl
    obtain ⟨R, hR⟩ : ∃ R, R = rows.map (rotR t rows.length) := ⟨_, rfl⟩
    have hRl : R.length = rows.length := by rw [hR, List.length_map]
    obtain ⟨r, e, L, y5, y6, y7, y8, y9, y10, hLl, hLat, hr⟩ := for_inv (h := hTup 2 (hCons (hName 5) (hCons (hName 6) (hNil)))) (b := l1__law_renamed) (fun p : List Arc × Nat => PyData.tuple [.int (p.2 : Nat), rowD p.1]) (fun pre ρ => ∃ (L : Rows) (y5 y6 y7 y8 y9 y10 : Cell), L.length = rows.length ∧ (∀ i, i < pre.length → L[(i + t) % rows.length]? = R[i]?) ∧ ρ = rQ d2 N rows.length t (owRs L) y5 y6 y7 y8 y9 y10) rows.zipIdx (ρ0 := rQ d2 N rows.length t (owRs (List.replicate rows.length [])) .no .no .no .no .no .no) ⟨List.replicate rows.length [], .no, .no, .no, .no, .no, .no, by simp, fun i hi => by simp at hi, rfl⟩ (fun pre p post ex ρ hI => by
        obtain ⟨row, i⟩ := p
        obtain ⟨L, y5, y6, y7, y8, y9, y10, hLl, hLat, rfl⟩ := hI
        have hp : (rows.zipIdx)[pre.length]? = some (row, i) := by rw [ex]; simp
        have hpl : pre.length < rows.length := by
          have := congrArg List.length ex
          rw [List.length_zipIdx, List.length_append, List.length_cons] at this
          omega
        rw [List.getElem?_zipIdx, List.getElem?_eq_getElem hpl] at hp
        have hp2 : rows[pre.length] = row ∧ pre.length = i := by simpa using hp
        obtain ⟨hp1, hpi⟩ := hp2
        have hrow : row.length ≤ 50 := by
          rw [← hp1]
          exact Nat.le_trans (h.few _ (List.getElem_mem hpl)) (by decide)
        obtain ⟨r2, e2, z7, z8, z9, z10, hr2⟩ := row_rot (d := d2) (net := N) (t := t) (i := i) (m := rows.length) (by omega) (by omega) (L := L) hLl (row := row) hrow (x7 := y7) (x8 := y8) (x9 := y9) (x10 := y10)
        refine ⟨rQ d2 N rows.length t (owRs L) (.fz (.int (i : Nat))) (.fz (rowD row)) y7 y8 y9 y10, r2, rfl, .inl e2, L.set ((i + t) % rows.length) (rotR t rows.length row), _, _, z7, z8, z9, z10, by rw [List.length_set]; exact hLl, fun k hk => ?_, hr2⟩
        rw [List.length_append, List.length_singleton] at hk
        have hmi := Nat.mod_lt (i + t) (show rows.length > 0 by omega)
        rw [List.getElem?_set]
        by_cases hki : k = i
        · subst hki
          rw [if_pos rfl, if_pos (by omega), hR, List.getElem?_map, ← hpi, List.getElem?_eq_getElem hpl, hp1]
          rfl
        · have hne : ¬ (i + t) % rows.length = (k + t) % rows.length := fun z => hki (mod_inj (by omega) (by omega) ht z.symm)
          rw [if_neg hne]
          exact hLat k (by omega))
    rw [List.length_zipIdx] at hLat
    have hLR : L = rotL t R := rot_uniq (by omega) (by omega) (fun i hi => by rw [hRl]; exact hLat i (by omega))
    have ho := h.rot (t := t) ht
    have eN : rotN t (i0, rows, outs) = (i0, L, outs.map fun o => (o + t) % rows.length) := by rw [hLR, hR]; rfl
    rw [eN] at ho
    refine fin _ d2 (rQ d2 N rows.length t (owRs L) y5 y6 y7 y8 y9 y10) hd2 ho ?_ rfl
    have lo : mLc (mSeqI (mOp ixF (mVarT 1) (mT (ret (.int 2))))) (hName 11) (mYes) (e2__law_renamed) [11] (rQ d2 N rows.length t (owRs L) y5 y6 y7 y8 y9 y10) = .ok (.list ((outs.map fun o => (o + t) % rows.length).map fun n : Nat => PyData.int (n : Int))) (rQ d2 N rows.length t (owRs L) y5 y6 y7 y8 y9 y10) := by
      rw [List.map_map]
      refine mlc_map0 outs (fun n : Nat => PyData.int (n : Int)) _ (seqT_ok (op_ok rfl (mT_ok rfl) rfl rfl i2)) (by simp [big]; omega) rfl (fun o ho => ⟨_, rfl, ?_, rfl⟩)
      have ea : addF (.int (o : Int)) (.int (t : Int)) = some (.int ((o + t : Nat) : Int)) := by
        rw [ev_add]
        rfl
      exact op_ok (mT_ok (op_ok rfl rfl rfl rfl ea)) rfl rfl rfl (mod_nat (by omega))
    have s2 : sIf (mTst (mOp eqF (mT (mCallB (noEx c__law_roll) 0 (mCons (ret (.int 2)) (mNil)))) (mT (ret (.int 0))))) (sRet (mVar 1)) (sNext) [.bw d, .fz N, .fz (.int (rows.length : Nat)), .no, .no, .no, .no, .no, .no, .no, .no, .no] = .nx [.bw d1, .fz N, .fz (.int (rows.length : Nat)), .no, .no, .no, .no, .no, .no, .no, .no, .no] := ifs_f (tst_ok (op_ok (mT_ok (callB_ok rfl rfl rfl q1 rfl)) (mT_ok rfl) rfl rfl ex)) rfl
    have s3 : sAsg (mCallB (noEx c__law_roll) 0 (mCons (mVar 2) (mNil))) (hName 3) [.bw d1, .fz N, .fz (.int (rows.length : Nat)), .no, .no, .no, .no, .no, .no, .no, .no, .no] = .nx (rQ d2 N rows.length t .no .no .no .no .no .no .no) := asg_ok (callB_ok rfl (cons_ok rfl rfl) rfl q2 rfl) rfl
    have s4 : sOwn (mOp repF (mT (mLst (mCons (mTup (mNil)) (mNil)))) (mVarT 2)) 4 (rQ d2 N rows.length t .no .no .no .no .no .no .no) = .nx (rQ d2 N rows.length t (owRs (List.replicate rows.length [])) .no .no .no .no .no .no) := by
      have e4 : mOp repF (mT (mLst (mCons (mTup (mNil)) (mNil)))) (mVarT 2) (rQ d2 N rows.length t .no .no .no .no .no .no .no) = .ok (.list ((List.replicate rows.length ([] : List Arc)).map rowD)) (rQ d2 N rows.length t .no .no .no .no .no .no .no) := op_ok (mT_ok rfl) rfl rfl rfl rep'
      exact own_ok e4
    have s5 : sFor (mEnum (mCons (mOp ixF (mVarT 1) (mT (ret (.int 1)))) (mNil))) (hTup 2 (hCons (hName 5) (hCons (hName 6) (hNil)))) (l1__law_renamed) (rQ d2 N rows.length t (owRs (List.replicate rows.length [])) .no .no .no .no .no .no) = .nx (rQ d2 N rows.length t (owRs L) y5 y6 y7 y8 y9 y10) := by
      rw [← hr]
      exact for_ok (enum_ok (d := rowsD rows) (cons_ok (op_ok rfl (mT_ok rfl) rfl rfl i1) rfl) rfl) e
    exact seq_to s1 (seq_to s2 (seq_to s3 (seq_to s4 (seq_to s5 (ret_ok (tup_ok (cons_ok (op_ok rfl (mT_ok rfl) rfl rfl i3) (cons_ok (cb_ok (cons_ok rfl rfl) rfl rfl) (cons_ok (cb_ok (cons_ok (mT_ok lo) rfl) rfl rfl) rfl))) (show (3 : Nat) ≤ 100 by decide)))))))
end Rn
end
section
set_option Elab.async false
set_option linter.all false
set_option maxRecDepth 100000
set_option maxHeartbeats 4000000
namespace Rn
open PySem PySem.Spec L2
theorem ok_of_pre {given many : Nat} {rows : Rows} {outs : List Nat} (hg : given ≤ 2) (hm0 : 0 < many) (hm : many ≤ 5) (hl : rows.length = many) (hf : ∀ r ∈ rows, r.length ≤ 4) (hp : ∀ i, ∀ a ∈ rows.getD i [], ArcPre given many i a) (hb : (rows.map backs).sum ≤ 8) (ho1 : 1 ≤ outs.length) (ho3 : outs.length ≤ 3) (ho : ∀ o ∈ outs, o < many) : NetOk (given, rows, outs) := by
  subst hl
  refine ⟨hg, hm0, hm, hf, fun r hr a ha => ?_, hb, ⟨fun i => i, fun i a ha hb0 j hj => (hp i a ha).low hb0 j hj⟩, ho1, ho3, ho⟩
  obtain ⟨i, hi, e⟩ := List.mem_iff_getElem.mp hr
  have := hp i a (by rw [List.getD_eq_getElem?_getD, List.getElem?_eq_getElem hi, e]; exact ha)
  exact ⟨this.src, this.dl, this.bk⟩
theorem outs_go {most inp many given left : Nat} (hm0 : 0 < many) (hm : many ≤ 9) {x5 x7 x8 x9 x11 x12 x13 : Cell} : ∀ (ds : List D) (d : D), IsDice d → ∃ (os : List Nat) (d' : D), IsDice d' ∧ os.length = ds.length ∧ (∀ o ∈ os, o < many) ∧
    lcGo (hName 10) mYes e2__law_net [10] ds (rN d most inp many given x5 left x7 x8 x9 .no x11 x12 x13) = .ok (os.map fun n : Nat => PyData.int (n : Int)) (rN d' most inp many given x5 left x7 x8 x9 .no x11 x12 x13)
  | [], d, hd => ⟨[], d, hd, rfl, by simp, rfl⟩
  | y :: ds, d, hd => by
    obtain ⟨x, d1, hx, hd1, q1⟩ := roll_n hd (many : Nat) many rfl hm0 (by omega)
    obtain ⟨os, d', hd', hl, ho, e2⟩ := outs_go (most := most) (inp := inp) (many := many) (given := given) (left := left) hm0 hm (x5 := x5) (x7 := x7) (x8 := x8) (x9 := x9) (x11 := x11) (x12 := x12) (x13 := x13) ds d1 hd1
    refine ⟨x :: os, d', hd', by simp [hl], fun o h => ?_, ?_⟩
    · rcases List.mem_cons.mp h with z | z
      · rw [z]; exact hx
      · exact ho o z
    · exact lcgo_cons (ρ1 := rN d most inp many given x5 left x7 x8 x9 (.fz y) x11 x12 x13) rfl (callB_ok rfl (cons_ok rfl rfl) rfl q1 rfl) e2
/-- outputs, and the rest -/
theorem tail_ok {d : D} (hd : IsDice d) {most inp many given left : Nat} {rows : Rows} (hg : given ≤ 2) (hm0 : 0 < many) (hm : many ≤ 5) (hl : rows.length = many) (hf : ∀ r ∈ rows, r.length ≤ 4) (hp : ∀ i, ∀ a ∈ rows.getD i [], ArcPre given many i a) (hb : (rows.map backs).sum ≤ 8) {x7 x8 x9 x10 x11 x12 x13 : Cell} :
    Rt (sSeq (sAsg (mCB tupleF (mCons (mT (mLc (mRng1 (mCons (mOp addF (mT (ret (.int 1))) (mT (mCallB (noEx c__law_roll) 0 (mCons (ret (.int 2)) (mNil))))) (mNil))) (hName 10) (mYes) (e2__law_net) [10])) (mNil))) (hName 8))
      (sRet (mCallB (noEx c__law_renamed) 0 (mCons (mTup (mCons (mVar 4) (mCons (mCB tupleF (mCons (mVarT 5) (mNil))) (mCons (mVar 8) (mNil))))) (mNil))))) (fun u r => ∃ (n : Net) (d' : D), IsDice d' ∧ NetOk n ∧ u = netD n ∧ bwOf r = some d')
      (rN d most inp many given (owRs rows) left x7 x8 x9 x10 x11 x12 x13) := by
  obtain ⟨x, d1, hx, hd1, q1⟩ := roll_n hd 2 2 rfl (by decide) (by decide)
  have ea : addF (.int 1) (.int (x : Int)) = some (.int ((x + 1 : Nat) : Int)) := by
    rw [ev_add, show (1 : Int) + (x : Int) = ((x + 1 : Nat) : Int) by omega]
  obtain ⟨os, d2, hd2, hol, ho, e2⟩ := outs_go (most := most) (inp := inp) (many := many) (given := given) (left := left) hm0 (by omega) (x5 := owRs rows) (x7 := x7) (x8 := x8) (x9 := x9) (x11 := x11) (x12 := x12) (x13 := x13) ((List.range (x + 1)).map fun k : Nat => PyData.int (0 + (k : Int))) d1 hd1
  rw [List.length_map, List.length_range] at hol
  have hi : mRng1 (mCons (mOp addF (mT (ret (.int 1))) (mT (mCallB (noEx c__law_roll) 0 (mCons (ret (.int 2)) (mNil))))) (mNil)) (rN d most inp many given (owRs rows) left x7 x8 x9 x10 x11 x12 x13) = .ok ((List.range (x + 1)).map fun k : Nat => PyData.int (0 + (k : Int))) (rN d1 most inp many given (owRs rows) left x7 x8 x9 x10 x11 x12 x13) := rng1_s (cons_ok (op_ok (mT_ok rfl) (mT_ok (callB_ok rfl rfl rfl q1 rfl)) rfl rfl ea) rfl) (by omega)
  have lc : mLc (mRng1 (mCons (mOp addF (mT (ret (.int 1))) (mT (mCallB (noEx c__law_roll) 0 (mCons (ret (.int 2)) (mNil))))) (mNil))) (hName 10) (mYes) (e2__law_net) [10] (rN d most inp many given (owRs rows) left x7 x8 x9 x10 x11 x12 x13) = .ok (.list (os.map fun n : Nat => PyData.int (n : Int))) (rN d2 most inp many given (owRs rows) left x7 x8 x9 x10 x11 x12 x13) := by
    unfold mLc bnd
    rw [hi]
    simp only [if_pos (show ((List.range (x + 1)).map fun k : Nat => PyData.int (0 + (k : Int))).length ≤ big by simp [big]; omega)]
    have e2' : lcGo (hName 10) mYes e2__law_net [10] ((List.range (x + 1)).map fun k : Nat => PyData.int (0 + (k : Int))) (wipeR (rN d1 most inp many given (owRs rows) left x7 x8 x9 x10 x11 x12 x13) [10]) = .ok (os.map fun n : Nat => PyData.int (n : Int)) (rN d2 most inp many given (owRs rows) left x7 x8 x9 .no x11 x12 x13) := e2
    rw [e2']
    rfl
  have hnet := ok_of_pre (outs := os) hg hm0 hm hl hf hp hb (by omega) (by omega) ho
  refine rt_seq (wp_set (d := outsD os) (cb_ok (cons_ok (mT_ok lc) rfl) rfl rfl) rfl ?_)
  obtain ⟨n', d3, hd3, hn', q3⟩ := w_renamed hd2 hnet
  exact rt_ret (callB_ok rfl (cons_ok (tup_ok (cons_ok rfl (cons_ok (cb_ok (cons_ok rfl rfl) rfl rfl) (cons_ok rfl rfl))) (show (3 : Nat) ≤ 100 by decide)) rfl) rfl q3 rfl) ⟨n', d3, hd3, hn', rfl, rfl⟩
theorem w_law_net {d : D} (hd : IsDice d) {most inp : Nat} (h1 : 0 < most) (h5 : most ≤ 5) (hi : inp ≤ 2) : ∃ (n : Net) (d' : D), IsDice d' ∧ NetOk n ∧ noEx c__law_net d [.int (most : Nat), .int (inp : Nat)] = .ok (netD n) d' := by
  obtain ⟨m0, d1, hm, hd1, q1⟩ := roll_n hd (most : Nat) most rfl h1 (by omega)
  obtain ⟨given, d2, hg, hd2, q2⟩ := roll_n hd1 ((inp : Int) + 1) (inp + 1) (by simp) (by omega) (by omega)
  obtain ⟨many, hmany⟩ : ∃ many, many = m0 + 1 := ⟨_, rfl⟩
  have ea : addF (.int 1) (.int (m0 : Int)) = some (.int (many : Nat)) := by
    rw [ev_add, show (1 : Int) + (m0 : Int) = (many : Int) by omega]
  have body : Rt b__law_net (fun u r => ∃ (n : Net) (d' : D), IsDice d' ∧ NetOk n ∧ u = netD n ∧ bwOf r = some d') [.bw d, .fz (.int (most : Nat)), .fz (.int (inp : Nat)), .no, .no, .no, .no, .no, .no, .no, .no, .no, .no, .no] := by
    refine rt_seq (wp_par (ds := [.int (many : Nat), .int (given : Nat)]) (r := [.bw d2, .fz (.int (most : Nat)), .fz (.int (inp : Nat)), .no, .no, .no, .no, .no, .no, .no, .no, .no, .no, .no]) (cons_ok (op_ok (mT_ok rfl) (mT_ok (callB_ok rfl (cons_ok rfl rfl) rfl q1 rfl)) rfl rfl ea) (cons_ok (callB_ok rfl (cons_ok (op_ok rfl (mT_ok rfl) rfl rfl rfl) rfl) rfl q2 rfl) rfl)) rfl ?_)
    refine rt_seq (wp_par (ds := [.list [], .int 8]) rfl rfl ?_)
    refine rt_seq (rows_draw hd2 (most := most) (inp := inp) (many := many) (given := given) (by omega) (by omega) (by omega) (x7 := .no) (x8 := .no) (x9 := .no) (x10 := .no) (x11 := .no) (x12 := .no) (x13 := .no) ?_)
    intro d3 left rows y7 y9 y10 y11 y12 y13 hd3 hl hpre hsum
    have hfew : ∀ r ∈ rows, r.length ≤ 4 := fun r hr => Nat.le_trans (hpre.few r hr) (by decide)
    have hl0 : 0 < rows.length := by omega
    have hr0 : (rows.getD 0 []).length ≤ 3 := by
      rw [List.getD_eq_getElem?_getD, List.getElem?_eq_getElem hl0]
      exact hpre.few _ (List.getElem_mem hl0)
    have at0 : ixF (.list (rows.map rowD)) (.int 0) = some (rowD (rows.getD 0 [])) := rows_at (i := 0) hl0
    have len0 : lenF [rowD (rows.getD 0 [])] = some (.int ((rows.getD 0 []).length : Int)) := by
      show some (PyData.int (((rows.getD 0 []).map arcD).length : Int)) = _
      rw [List.length_map]
    have lt4 : ltF (.int ((rows.getD 0 []).length : Int)) (.int 4) = some (.bool true) := by
      unfold ltF
      rw [ev_cmp, decide_eq_true (by omega)]
    obtain ⟨x, d4, hx, hd4, q4⟩ := roll_n hd3 3 3 rfl (by decide) (by decide)
    have gx : gtF (.int (x : Int)) (.int 0) = some (.bool (decide ((0 : Int) < (x : Int)))) := rfl
    refine rt_seq (wp_if (b := decide ((0 : Int) < (x : Int)) && true) (r := rN d4 most inp many given (owRs rows) left y7 .no y9 y10 y11 y12 y13) (and_ok (tst_ok (op_ok (mT_ok (callB_ok rfl rfl rfl q4 rfl)) (mT_ok rfl) rfl rfl gx)) (fun _ => tst_ok (op_ok (mT_ok (cb_ok (cons_ok (mT_ok (op_ok rfl (mT_ok rfl) rfl rfl at0)) rfl) rfl len0)) (mT_ok rfl) rfl rfl lt4))) (fun _ => ?_) (fun _ => ?_))
    · obtain ⟨dl, d5, hdl, hd5, q5⟩ := roll_n hd4 10 10 rfl (by decide) (by decide)
      obtain ⟨row, hrow⟩ : ∃ row, row = rows.getD 0 [] ++ [((none : Src), dl, 0)] := ⟨_, rfl⟩
      have ad : addF (rowD (rows.getD 0 [])) (.tuple [arcD (none, dl, 0)]) = some (rowD row) := by
        have := add_tt ((rows.getD 0 []).map arcD) [arcD (none, dl, 0)] (by rw [List.length_map, List.length_singleton]; omega)
        refine this.trans ?_
        rw [hrow]
        unfold rowD
        rw [List.map_append]
        rfl
      refine wp_setitem (d := rowD row) (r := rN d5 most inp many given (owRs rows) left y7 .no y9 y10 y11 y12 y13) (r2 := rN d5 most inp many given (owRs rows) left y7 .no y9 y10 y11 y12 y13) (k := 0) (op_ok (mT_ok (op_ok rfl (mT_ok rfl) rfl rfl at0)) (mT_ok (tup_ok (cons_ok (tup_ok (cons_ok rfl (cons_ok (callB_ok rfl rfl rfl q5 rfl) (cons_ok rfl rfl))) (show (3 : Nat) ≤ 100 by decide)) rfl) (show (1 : Nat) ≤ 100 by decide))) rfl rfl ad) rfl rfl (setD_ok (n := 0) rfl rfl (by rw [List.length_map]; omega) rfl) ?_
      have em : (rows.map rowD).set 0 (rowD row) = (rows.set 0 row).map rowD := by rw [List.map_set]
      rw [em]
      have g0 : rows.getD 0 [] = rows[0] := by rw [List.getD_eq_getElem?_getD, List.getElem?_eq_getElem hl0]; rfl
      refine tail_ok hd5 (by omega) (by omega) (by omega) (by rw [List.length_set]; exact hl) (fun r hr => ?_) (fun i a ha => ?_) ?_
      · rcases List.mem_or_eq_of_mem_set hr with w | w
        · exact hfew r w
        · rw [w, hrow, List.length_append, List.length_singleton]; omega
      · rw [List.getD_eq_getElem?_getD, List.getElem?_set] at ha
        by_cases hi0 : 0 = i
        · subst hi0
          rw [if_pos rfl, if_pos hl0] at ha
          have ha : a ∈ row := ha
          rw [hrow] at ha
          rcases List.mem_append.mp ha with w | w
          · exact hpre.pre 0 a w
          · rw [List.mem_singleton.mp w]
            exact ⟨trivial, by simp only; omega, by simp, fun _ j hj => by cases hj⟩
        · rw [if_neg hi0, ← List.getD_eq_getElem?_getD] at ha
          exact hpre.pre i a ha
      · have hbk : backs row = backs (rows.getD 0 []) := by rw [hrow, backs_snoc]; rfl
        have : ((rows.set 0 row).map backs) = rows.map backs := by
          rw [List.map_set]
          refine List.ext_getElem? fun k => ?_
          rw [List.getElem?_set]
          by_cases hk : 0 = k
          · subst hk
            rw [if_pos rfl, if_pos (by rw [List.length_map]; exact hl0), List.getElem?_map, List.getElem?_eq_getElem hl0, hbk, g0]
            rfl
          · rw [if_neg hk]
        rw [this]
        omega
    · exact wp_next (tail_ok hd4 (by omega) (by omega) (by omega) hl hfew hpre.pre (by omega))
  obtain ⟨u, r, e, n, d', hd', hn, rfl, hb⟩ := body
  refine ⟨n, d', hd', hn, ?_⟩
  have e' : c__law_net d [.int (most : Nat), .int (inp : Nat)] = .ok (netD n) d' := by
    unfold c__law_net callB
    rw [if_pos (show [PyData.int (most : Nat), PyData.int (inp : Nat)].length + 1 = 3 from rfl)]
    show finB (b__law_net [.bw d, .fz (.int (most : Nat)), .fz (.int (inp : Nat)), .no, .no, .no, .no, .no, .no, .no, .no, .no, .no, .no]) = _
    rw [e]
    show (match bwOf r with | some d1 => RB.ok (netD n) d1 | none => RB.no) = _
    rw [hb]
  unfold noEx
  rw [e']
end Rn
end
section
set_option Elab.async false
set_option linter.all false
set_option maxRecDepth 100000
set_option maxHeartbeats 4000000
namespace Rn
open PySem PySem.Spec L2
abbrev Tim := Option Int
def mx (a b : Tim) : Tim := match a, b with
  | none, b => b
  | some a, none => some a
  | some a, some b => some (if a < b then b else a)
def addT (t : Tim) (d : Nat) : Tim := t.map (· + (d : Int))
abbrev Xs := Nat → Nat → Tim
abbrev Gs := Src → Nat → Tim
def term (x : Xs) (gv : Gs) (m : Nat) (a : Arc) : Tim := if a.2.2 ≤ m then addT (match evOf a.1 with | some j => x j (m - a.2.2) | none => gv a.1 (m - a.2.2)) a.2.1 else none
def foldA (f : Arc → Tim) (r : List Arc) (t : Tim) : Tim := r.foldl (fun t a => mx t (f a)) t
theorem foldA_congr {f g : Arc → Tim} : ∀ {r : List Arc} {t : Tim}, (∀ a ∈ r, f a = g a) → foldA f r t = foldA g r t
  | [], _, _ => rfl
  | a :: r, t, h => by
    show foldA f r (mx t (f a)) = foldA g r (mx t (g a))
    rw [h a (List.mem_cons_self ..)]
    exact foldA_congr fun b hb => h b (List.mem_cons_of_mem _ hb)
def IsRun (rows : Rows) (gv : Gs) (ext : Xs) (x : Xs) : Prop := ∀ e m, e < rows.length → x e m = foldA (term x gv m) (rows.getD e []) (ext e m)
def RkOk (rows : Rows) (rk : Nat → Nat) : Prop := ∀ i, ∀ a ∈ rows.getD i [], a.2.2 = 0 → ∀ j, evOf a.1 = some j → rk j < rk i
def rkN (n : Nat) (rk : Nat → Nat) (i : Nat) : Nat := ((List.range n).filter fun j => decide (rk j < rk i)).length
theorem rkN_le (n : Nat) (rk : Nat → Nat) (i : Nat) : rkN n rk i ≤ n := by
  have := List.length_filter_le (fun j => decide (rk j < rk i)) (List.range n)
  rw [List.length_range] at this
  exact this
theorem filt_lt {p q : Nat → Bool} : ∀ {l : List Nat} {z : Nat}, (∀ y ∈ l, p y = true → q y = true) → z ∈ l → p z = false → q z = true → (l.filter p).length < (l.filter q).length
  | [], _, _, h, _, _ => by simp at h
  | y :: l, z, hpq, hm, hp, hq => by
    have hle : (l.filter p).length ≤ (l.filter q).length := by
      rw [← List.countP_eq_length_filter, ← List.countP_eq_length_filter]
      exact List.countP_mono_left fun w hw => hpq w (List.mem_cons_of_mem _ hw)
    rcases List.mem_cons.mp hm with rfl | hm
    · rw [List.filter_cons_of_neg (by simp [hp]), List.filter_cons_of_pos hq]
      simp only [List.length_cons]; omega
    · have ih := filt_lt (fun w hw => hpq w (List.mem_cons_of_mem _ hw)) hm hp hq
      by_cases py : p y = true
      · rw [List.filter_cons_of_pos py, List.filter_cons_of_pos (hpq y (List.mem_cons_self ..) py)]
        simp only [List.length_cons]; omega
      · rw [List.filter_cons_of_neg py]
        by_cases qy : q y = true
        · rw [List.filter_cons_of_pos qy]; simp only [List.length_cons]; omega
        · rw [List.filter_cons_of_neg qy]; exact ih
theorem rkN_lt {n : Nat} {rk : Nat → Nat} {i j : Nat} (hj : j < n) (h : rk j < rk i) : rkN n rk j < rkN n rk i := by
  refine filt_lt (z := j) (fun y _ hy => ?_) (List.mem_range.mpr hj) (by simp) (by simp [h])
  have := of_decide_eq_true hy
  exact decide_eq_true (by omega)
theorem rkN_ok {rows : Rows} {rk : Nat → Nat} (h : RkOk rows rk) (hs : SrcOk rows) : RkOk rows (rkN rows.length rk) := fun i a ha h0 j hj => by
  obtain ⟨row, hr, ha'⟩ := getD_memR ha
  exact rkN_lt (hs row hr a ha' j hj) (h i a ha h0 j hj)
theorem rkN_in {n : Nat} {rk : Nat → Nat} {i : Nat} (hi : i < n) : rkN n rk i < n := by
  have h := filt_lt (p := fun j => decide (rk j < rk i)) (q := fun _ => true) (l := List.range n) (z := i) (fun _ _ _ => rfl) (List.mem_range.mpr hi) (by simp) rfl
  have e : (List.range n).filter (fun _ => true) = List.range n := List.filter_eq_self.mpr fun _ _ => rfl
  rw [e, List.length_range] at h
  exact h
def xf (rows : Rows) (gv : Gs) (ext : Xs) : Nat → Xs
  | 0, _, _ => none
  | k + 1, e, m => foldA (term (xf rows gv ext k) gv m) (rows.getD e []) (ext e m)
theorem xf_st {rows : Rows} {gv : Gs} {ext : Xs} {rk : Nat → Nat} {R : Nat} (h : RkOk rows rk) (hR : ∀ i, rk i ≤ R) : ∀ (N e m : Nat), (R + 1) * m + rk e < N → ∀ k k', (R + 1) * m + rk e < k → (R + 1) * m + rk e < k' → xf rows gv ext k e m = xf rows gv ext k' e m := by
  intro N
  induction N with
  | zero => intro e m h0; omega
  | succ N ih =>
    intro e m hN k k' hk hk'
    obtain ⟨k, rfl⟩ : ∃ l, k = l + 1 := ⟨k - 1, by omega⟩
    obtain ⟨k', rfl⟩ : ∃ l, k' = l + 1 := ⟨k' - 1, by omega⟩
    show foldA (term (xf rows gv ext k) gv m) (rows.getD e []) (ext e m) = foldA (term (xf rows gv ext k') gv m) (rows.getD e []) (ext e m)
    refine foldA_congr fun a ha => ?_
    unfold term
    by_cases hb : a.2.2 ≤ m
    · rw [if_pos hb, if_pos hb]
      cases hj : evOf a.1 with
      | none => rfl
      | some j =>
        show addT (xf rows gv ext k j (m - a.2.2)) _ = addT (xf rows gv ext k' j (m - a.2.2)) _
        have lt : (R + 1) * (m - a.2.2) + rk j < (R + 1) * m + rk e := by
          by_cases h0 : a.2.2 = 0
          · rw [h0, Nat.sub_zero]
            have := h e a ha h0 j hj
            omega
          · have e1 : (R + 1) * (m - a.2.2) + (R + 1) * a.2.2 = (R + 1) * m := by rw [← Nat.mul_add]; congr 1; omega
            have e2 : R + 1 ≤ (R + 1) * a.2.2 := Nat.le_mul_of_pos_right _ (by omega)
            have := hR j
            omega
        rw [ih j (m - a.2.2) (by omega) k k' (by omega) (by omega)]
    · rw [if_neg hb, if_neg hb]
/-- the run: the ranks are at most 5 -/
def runX (rows : Rows) (gv : Gs) (ext : Xs) : Xs := fun e m => xf rows gv ext (6 * (m + 1)) e m
theorem runX_is {rows : Rows} {gv : Gs} {ext : Xs} {rk : Nat → Nat} (h : RkOk rows rk) (hR : ∀ i, rk i ≤ 5) : IsRun rows gv ext (runX rows gv ext) := by
  intro e m he
  have h6 := hR e
  have e1 : runX rows gv ext e m = xf rows gv ext (6 * m + rk e + 1) e m := xf_st h hR (6 * m + rk e + 1) e m (by omega) _ _ (by omega) (by omega)
  rw [e1]
  show foldA (term (xf rows gv ext (6 * m + rk e)) gv m) (rows.getD e []) (ext e m) = _
  refine foldA_congr fun a ha => ?_
  unfold term
  by_cases hb : a.2.2 ≤ m
  · rw [if_pos hb, if_pos hb]
    cases hj : evOf a.1 with
    | none => rfl
    | some j =>
      show addT (xf rows gv ext (6 * m + rk e) j (m - a.2.2)) _ = addT (runX rows gv ext j (m - a.2.2)) _
      have hj5 := hR j
      have lt : 6 * (m - a.2.2) + rk j < 6 * m + rk e := by
        by_cases h0 : a.2.2 = 0
        · rw [h0, Nat.sub_zero]
          have := h e a ha h0 j hj
          omega
        · omega
      rw [show runX rows gv ext j (m - a.2.2) = xf rows gv ext (6 * ((m - a.2.2) + 1)) j (m - a.2.2) from rfl]
      rw [xf_st h hR (6 * m + rk e) j (m - a.2.2) lt (6 * m + rk e) (6 * ((m - a.2.2) + 1)) lt (by omega)]
  · rw [if_neg hb, if_neg hb]
theorem NetOk.rk {n : Net} (h : NetOk n) : ∃ rk : Nat → Nat, RkOk n.2.1 rk ∧ (∀ i, rk i ≤ 5) ∧ ∀ i, i < n.2.1.length → rk i < n.2.1.length := by
  obtain ⟨rk, hrk⟩ := h.rank
  exact ⟨rkN n.2.1.length rk, rkN_ok hrk h.src, fun i => Nat.le_trans (rkN_le _ _ _) h.r5, fun i hi => rkN_in hi⟩
theorem NetOk.run {n : Net} (h : NetOk n) (gv : Gs) (ext : Xs) : IsRun n.2.1 gv ext (runX n.2.1 gv ext) := by
  obtain ⟨rk, h1, h2, _⟩ := h.rk
  exact runX_is h1 h2
end Rn
end
section
set_option Elab.async false
set_option linter.all false
set_option maxRecDepth 100000
set_option maxHeartbeats 4000000
namespace Rn
open PySem PySem.Spec L2
theorem nodup_le : ∀ {l m : List Nat}, l.Nodup → (∀ y ∈ l, y ∈ m) → l.length ≤ m.length
  | [], m, _, _ => Nat.zero_le _
  | y :: l, m, nd, sub => by
    have nd' := List.nodup_cons.mp nd
    have hy : y ∈ m := sub y (List.mem_cons_self ..)
    have ih := nodup_le (l := l) (m := m.erase y) nd'.2 fun z hz => (List.mem_erase_of_ne (show z ≠ y from fun w => nd'.1 (w ▸ hz))).mpr (sub z (List.mem_cons_of_mem _ hz))
    rw [List.length_erase_of_mem hy] at ih
    have : 0 < m.length := List.length_pos_iff.mpr (List.ne_nil_of_mem hy)
    rw [List.length_cons]
    omega
end Rn
end
section
set_option Elab.async false
set_option linter.all false
set_option maxRecDepth 100000
set_option maxHeartbeats 4000000
namespace Rn
open PySem PySem.Spec L2
theorem chain_ok {f g : D → D → Option D} {a b c : M TV} {ρ : Rho} {x y z : TV} {d e k : D} {p q : Bool} (ha : a ρ = .ok x ρ) (hb : b ρ = .ok y ρ) (dx : deref ρ x = some d) (dy : deref ρ y = some e) (hf : f d e = some (.bool p)) (hc : p = true → c ρ = .ok z ρ ∧ deref ρ z = some k ∧ g e k = some (.bool q)) :
    mChain f g a b c ρ = .ok (.bool (p && q)) ρ := by
  unfold mChain bnd
  simp only [ha, hb, dx, dy, hf]
  cases p with
  | false => rfl
  | true =>
    obtain ⟨h1, h2, h3⟩ := hc rfl
    simp only [Option.bind_some, asBool, h1, dy, h2, h3]
    rfl
end Rn
end
section
set_option Elab.async false
set_option linter.all false
set_option maxRecDepth 100000
set_option maxHeartbeats 4000000
namespace Rn
open PySem PySem.Spec L2
theorem nodup_leG {α : Type} [DecidableEq α] : ∀ {l m : List α}, l.Nodup → (∀ y ∈ l, y ∈ m) → l.length ≤ m.length
  | [], m, _, _ => Nat.zero_le _
  | y :: l, m, nd, sub => by
    have nd' := List.nodup_cons.mp nd
    have hy : y ∈ m := sub y (List.mem_cons_self ..)
    have ih := nodup_leG (l := l) (m := m.erase y) nd'.2 fun z hz => (List.mem_erase_of_ne (show z ≠ y from fun w => nd'.1 (w ▸ hz))).mpr (sub z (List.mem_cons_of_mem _ hz))
    rw [List.length_erase_of_mem hy] at ih
    have : 0 < m.length := List.length_pos_iff.mpr (List.ne_nil_of_mem hy)
    rw [List.length_cons]
    omega
structure TbOk (N : Nat) (x : Xs) (M : Nat) (tbl : Tbl) : Prop where
  nd : (tbl.map (·.1)).Nodup
  key : ∀ p ∈ tbl, ∃ e m : Nat, p = (((e : Int), (m : Int)), x e m) ∧ e < N ∧ m ≤ M
theorem look_mem {tbl : Tbl} {p : Int × Int} {t : Tim} (h : look tbl p = some t) : (p, t) ∈ tbl := by
  unfold look at h
  cases e : tbl.find? fun q => decide (q.1 = p) with
  | none => rw [e] at h; cases h
  | some q =>
    rw [e] at h
    cases h
    have h1 := List.find?_some e
    have h2 := List.mem_of_find?_eq_some e
    have h3 := of_decide_eq_true h1
    subst h3
    exact h2
theorem TbOk.val {N : Nat} {x : Xs} {M : Nat} {tbl : Tbl} (h : TbOk N x M tbl) {e m : Nat} {t : Tim} (hl : look tbl ((e : Int), (m : Int)) = some t) : t = x e m := by
  obtain ⟨e', m', hp, _⟩ := h.key _ (look_mem hl)
  have h1 := congrArg (fun q : (Int × Int) × Tim => q.1.1) hp
  have h2 := congrArg (fun q : (Int × Int) × Tim => q.1.2) hp
  have h3 := congrArg (fun q : (Int × Int) × Tim => q.2) hp
  have h1 : (e : Int) = e' := h1
  have h2 : (m : Int) = m' := h2
  have h3 : t = x e' m' := h3
  rw [h3, show e' = e by omega, show m' = m by omega]
theorem TbOk.len {N : Nat} {x : Xs} {M : Nat} {tbl : Tbl} (h : TbOk N x M tbl) : tbl.length ≤ N * (M + 1) := by
  have := nodup_leG (m := (List.range N).flatMap fun e : Nat => (List.range (M + 1)).map fun m : Nat => (((e : Int), (m : Int)) : Int × Int)) h.nd fun y hy => by
    obtain ⟨p, hp, rfl⟩ := List.mem_map.mp hy
    obtain ⟨e, m, rfl, h1, h2⟩ := h.key p hp
    exact List.mem_flatMap.mpr ⟨e, List.mem_range.mpr h1, List.mem_map.mpr ⟨m, List.mem_range.mpr (by omega), rfl⟩⟩
  rw [List.length_map] at this
  refine Nat.le_trans this ?_
  rw [List.length_flatMap]
  have key : ∀ l : List Nat, (l.map fun a : Nat => ((List.range (M + 1)).map fun m : Nat => (((a : Int), (m : Int)) : Int × Int)).length).sum ≤ l.length * (M + 1) := fun l => by
    induction l with
    | nil => simp
    | cons a l ih =>
      rw [List.map_cons, List.sum_cons, List.length_cons, Nat.succ_mul, List.length_map, List.length_range]
      omega
  have := key (List.range N)
  rw [List.length_range] at this
  exact this
theorem TbOk.put {N : Nat} {x : Xs} {M : Nat} {tbl : Tbl} (h : TbOk N x M tbl) {e m : Nat} (he : e < N) (hm : m ≤ M) (hn : look tbl ((e : Int), (m : Int)) = none) : TbOk N x M (tbl ++ [(((e : Int), (m : Int)), x e m)]) := by
  refine ⟨?_, fun p hp => ?_⟩
  · rw [List.map_append, List.nodup_append]
    refine ⟨h.nd, by simp, fun a ha b hb => ?_⟩
    simp at hb
    subst hb
    rintro rfl
    obtain ⟨q, hq, hq2⟩ := List.mem_map.mp ha
    unfold look at hn
    rw [Option.map_eq_none_iff, List.find?_eq_none] at hn
    exact hn q hq (decide_eq_true hq2)
  · rcases List.mem_append.mp hp with hp | hp
    · exact h.key p hp
    · simp at hp; subst hp; exact ⟨e, m, rfl, he, hm⟩
theorem TbOk.up {N : Nat} {x : Xs} {M M' : Nat} {tbl : Tbl} (h : TbOk N x M tbl) (hm : M ≤ M') : TbOk N x M' tbl := ⟨h.nd, fun p hp => by
  obtain ⟨e, m, h1, h2, h3⟩ := h.key p hp
  exact ⟨e, m, h1, h2, by omega⟩⟩
end Rn
end
section
set_option Elab.async false
set_option linter.all false
set_option maxRecDepth 100000
set_option maxHeartbeats 4000000
namespace Rn
open PySem PySem.Spec L2
abbrev Strs := List (List Tim)
theorem w_wholeI (i lo hi : Int) : g_is_whole [.int i, .int lo, .int hi] = .ok (.bool (decide (lo ≤ i) && decide (i ≤ hi))) := by
  by_cases h1 : lo ≤ i <;> by_cases h2 : i ≤ hi <;> simp -implicitDefEqProofs [g_is_whole, b_is_whole, ev_foc, ev_fo0, ev_app, ev_enm, ev_rs, ev_lc', ev_g0, ev_gc, ev_y, big, ev_bnd, ev_ret, ev_lfS, ev_lfN, ev_stk, ev_vr, ev_vrT, ev_mT, ev_cF, ev_cO, ev_cB, ev_dd, ev_ds, ev_d0, ev_dc, ev_opr, ev_unr, ev_nl, ev_cns, ev_cbr, ev_ab, ev_ai, ev_tst', ev_an, ev_orr, ev_nt, ev_anV, ev_orV', ev_ntV, ev_ifm, ev_ch, ev_tp, ev_ls, ev_cl, ev_cl0, ev_isr, ev_sqI, ev_sqL, ev_sqT, ev_sb, ev_ss, ev_sn, ev_sa, ev_so, ev_sr, ev_sdr, ev_si, ev_sp, ev_p0, ev_pF, ev_pT, ev_sf, ev_hn, ev_ht, ev_hc, ev_h0, ev_cal, ev_f1, ev_f2, ev_f3, ev_f4, ev_cmp, ev_add, ev_sub, ev_mod, ev_fdv, ev_isn, ev_n1, ev_n2, ev_n3, ev_n4, ev_ixL, ev_ixT, ev_a0, ev_a1, ev_a2, ev_lL, ev_lT, ev_tL, ev_tT, ev_liT, ev_abs, ev_mx, ev_mn, ev_mx3, ev_t1, ev_t2, ev_t3, noIN_n, noIN_b, noIN_i, noIN_s, noIN_l, noIN_t, ev_eqI, ev_neI, List.getElem?_cons_zero, List.getElem?_cons_succ, List.set_cons_zero, List.set_cons_succ, List.length_cons, List.length_nil, List.map_cons, List.map_nil, List.replicate_succ, List.replicate_zero, List.cons_append, List.nil_append, List.append_nil, Option.bind_some, Option.map_some, Nat.reduceAdd, Nat.reduceSub, Nat.reduceLT, Nat.reduceLeDiff, Nat.reduceEqDiff, if_true, if_false, reduceIte, Bool.false_eq_true, wipeR, restR, pInt, pIs, h1, h2]
theorem un_ok {f : D → Option D} {a : M TV} {ρ r : Rho} {x : TV} {d z : D} (ha : a ρ = .ok x r) (dx : deref r x = some d) (hf : f d = some z) : mUn f a ρ = .ok z r := by
  unfold mUn bnd
  simp only [ha, dx]
  unfold lft
  rw [hf]
end Rn
end
section
set_option Elab.async false
set_option linter.all false
set_option maxRecDepth 100000
set_option maxHeartbeats 4000000
namespace Rn
open PySem PySem.Spec L2
section
variable {α : Type}
theorem lf_var {i : Nat} {ρ r : Rho} {d : D} (h : mVar i ρ = .ok d r) : mVar i ρ = .ok d r := h
theorem lf_varT {i : Nat} {ρ r : Rho} {d : TV} (h : mVarT i ρ = .ok d r) : mVarT i ρ = .ok d r := h
theorem lf_ret {x d : α} {ρ r : Rho} (h : ret x ρ = .ok d r) : ret x ρ = .ok d r := h
theorem lf_nil {ρ r : Rho} {d : List α} (h : mNil ρ = .ok d r) : mNil ρ = .ok d r := h
theorem lf_nop {ρ r : Rho} {d : Option Int} (h : mNoPart ρ = .ok d r) : mNoPart ρ = .ok d r := h
theorem lf_dt0 {ρ r : Rho} {d : D} (h : mDT0 ρ = .ok d r) : mDT0 ρ = .ok d r := h
theorem lf_opt {o : Option D} {z : D} (h : o = some z) : o = some z := h
theorem lf_opts {o : Option (List D)} {z : List D} (h : o = some z) : o = some z := h
theorem lf_optR {o : Option Rho} {z : Rho} (h : o = some z) : o = some z := h
theorem lf_call {o : RR} {d : D} (h : o = .ok d) : o = .ok d := h
theorem lf_cex {o : RR} {c : Str} (h : o = .ex c) : o = .ex c := h
theorem lf_callB {o : RB} {d d1 : D} (h : o = .ok d d1) : o = .ok d d1 := h
theorem lf_ne {a b z : D} (h : neF a b = some z) : neF a b = some z := h
theorem lf_eq {a b z : D} (h : eqF a b = some z) : eqF a b = some z := h
theorem part_ok {f : M D} {ρ r : Rho} {i : Int} (e : f ρ = .ok (.int i) r) : mPart f ρ = .ok (some i) r := by unfold mPart; rw [ev_bnd, e]; rfl
theorem slc_ok {f : D → Option Int → Option Int → Option D} {a : M TV} {b c : M (Option Int)} {ρ r1 r2 r3 : Rho} {x : TV} {l u : Option Int} {d z : D} (ha : a ρ = .ok x r1) (hb : b r1 = .ok l r2) (hc : c r2 = .ok u r3) (dx : deref r3 x = some d) (hf : f d l u = some z) : mSl f a b c ρ = .ok z r3 := by
  unfold mSl
  rw [ev_bnd, ha]
  simp only
  rw [ev_bnd, hb]
  simp only
  rw [ev_bnd, hc]
  simp only [dx, hf, ev_lfS]
theorem isi_ok {p : String → Bool} {a : M TV} {ρ r : Rho} {x : TV} {d : D} (ha : a ρ = .ok x r) (dx : deref r x = some d) (hn : noIN d = true := by first | rfl | assumption) : mIsi p a ρ = .ok (.bool (p (tyName d))) r := by
  unfold mIsi
  rw [ev_bnd, ha]
  simp only [dx]
  rw [if_pos hn]
theorem dget_ok {fd : M TV} {fk fz : M D} {ρ r1 r2 r3 : Rho} {x : TV} {kds kds' : List (D × D)} {k z d : D} (h1 : fd ρ = .ok x r1) (d1 : deref r1 x = some (.dict kds')) (h2 : fk r1 = .ok k r2) (h3 : fz r2 = .ok z r3) (d3 : deref r3 x = some (.dict kds)) (hg : getF kds k z = some d) (hi : isIN kds' = false := by first | rfl | assumption) : mGet fd fk fz ρ = .ok d r3 := by
  unfold mGet
  rw [ev_bnd, h1]
  simp only [d1]
  rw [if_neg (by rw [hi]; decide)]
  rw [ev_bnd, h2]
  simp only
  rw [ev_bnd, h3]
  simp only [d3, hg, ev_lfS]
theorem if_T {c : M Bool} {a b : M α} {ρ r r2 : Rho} {t : Bool} {x : α} (e : c ρ = .ok t r) (ht : t = true) (h : a r = .ok x r2) : mIf c a b ρ = .ok x r2 := if_ok e (fun _ => h) (fun z => by rw [ht] at z; cases z)
theorem if_F {c : M Bool} {a b : M α} {ρ r r2 : Rho} {t : Bool} {x : α} (e : c ρ = .ok t r) (ht : t = false) (h : b r = .ok x r2) : mIf c a b ρ = .ok x r2 := if_ok e (fun z => by rw [ht] at z; cases z) (fun _ => h)
theorem and_F {a b : M Bool} {ρ r : Rho} {t : Bool} (e : a ρ = .ok t r) (ht : t = false) : mAnd a b ρ = .ok false r := and_f (by rw [e, ht])
theorem and_T {a b : M Bool} {ρ r r2 : Rho} {t u : Bool} (e : a ρ = .ok t r) (ht : t = true) (h : b r = .ok u r2) : mAnd a b ρ = .ok u r2 := and_t (by rw [e, ht]) h
theorem or_F {a b : M Bool} {ρ r r2 : Rho} {t u : Bool} (e : a ρ = .ok t r) (ht : t = false) (h : b r = .ok u r2) : mOr a b ρ = .ok u r2 := or_f (by rw [e, ht]) h
theorem or_T {a b : M Bool} {ρ r : Rho} {t : Bool} (e : a ρ = .ok t r) (ht : t = true) : mOr a b ρ = .ok true r := or_t (by rw [e, ht])
theorem or_b {a b : M Bool} {ρ r : Rho} {x y : Bool} (ha : a ρ = .ok x r) (hb : b r = .ok y r) : mOr a b ρ = .ok (x || y) r := or_ok ha fun _ => hb
theorem and_b {a b : M Bool} {ρ r : Rho} {x y : Bool} (ha : a ρ = .ok x r) (hb : b r = .ok y r) : mAnd a b ρ = .ok (x && y) r := and_ok ha fun _ => hb
theorem andV_F {a b : M D} {ρ r : Rho} {x : Bool} (ha : a ρ = .ok (.bool x) r) (hx : x = false) : mAndV a b ρ = .ok (.bool false) r := by
  subst hx; rw [ev_anV, ev_bnd, ha]; rfl
theorem andV_T {a b : M D} {ρ r r2 : Rho} {x : Bool} {d : D} (ha : a ρ = .ok (.bool x) r) (hx : x = true) (hb : b r = .ok d r2) : mAndV a b ρ = .ok d r2 := by
  subst hx; rw [ev_anV, ev_bnd, ha]; exact hb
theorem orV_T {a b : M D} {ρ r : Rho} {x : Bool} (ha : a ρ = .ok (.bool x) r) (hx : x = true) : mOrV a b ρ = .ok (.bool true) r := by
  subst hx; rw [ev_orV', ev_bnd, ha]; rfl
theorem orV_F {a b : M D} {ρ r r2 : Rho} {x : Bool} {d : D} (ha : a ρ = .ok (.bool x) r) (hx : x = false) (hb : b r = .ok d r2) : mOrV a b ρ = .ok d r2 := by
  subst hx; rw [ev_orV', ev_bnd, ha]; exact hb
theorem andV_b {a b : M D} {ρ r : Rho} {x y : Bool} (ha : a ρ = .ok (.bool x) r) (hb : b r = .ok (.bool y) r) : mAndV a b ρ = .ok (.bool (x && y)) r := andV_ok ha fun _ => hb
theorem orV_b {a b : M D} {ρ r : Rho} {x y : Bool} (ha : a ρ = .ok (.bool x) r) (hb : b r = .ok (.bool y) r) : mOrV a b ρ = .ok (.bool (x || y)) r := orV_ok ha fun _ => hb
theorem chain_b {f g : D → D → Option D} {a b c : M TV} {ρ : Rho} {x y z : TV} {d e k : D} {p q : Bool} (ha : a ρ = .ok x ρ) (hb : b ρ = .ok y ρ) (dx : deref ρ x = some d) (dy : deref ρ y = some e) (hf : f d e = some (.bool p)) (hc : c ρ = .ok z ρ) (dz : deref ρ z = some k) (hg : g e k = some (.bool q)) : mChain f g a b c ρ = .ok (.bool (p && q)) ρ := chain_ok ha hb dx dy hf fun _ => ⟨hc, dz, hg⟩
theorem callF_ok {g : List D → RR} {fa : M (List D)} {ρ r : Rho} {ds : List D} {d : D} (e : fa ρ = .ok ds r) (hg : g ds = .fr d) : mCallF0 g fa ρ = .ok d r := by unfold mCallF0; rw [ev_bnd, e]; simp only [hg]
theorem lf_fr {o : RR} {d : D} (h : o = .fr d) : o = .fr d := h
theorem enum_a {e : α → D} {xs : List α} {f : M (List D)} {ρ r : Rho} {d : D} (h : f ρ = .ok [d] r) (hd : seqD d = some (xs.map e)) : mEnum f ρ = .ok (xs.zipIdx.map fun p => .tuple [.int (p.2 : Nat), e p.1]) r := enum_ok h hd
theorem rng1_a {f : M (List D)} {r r2 : Rho} {i : Int} {n : Nat} (h : f r = .ok [.int i] r2) (hi : i = (n : Int)) (hn : n ≤ 1000000) : mRng1 f r = .ok ((List.range n).map fun k : Nat => PyData.int (k : Int)) r2 := by
  subst hi
  rw [rng1_s h hn]
  congr 1
  apply List.map_congr_left
  intro k _
  rw [Int.zero_add]
theorem rng2_a {f : M (List D)} {r r2 : Rho} {i j : Int} {a b : Nat} (h : f r = .ok [.int i, .int j] r2) (hi : i = (a : Int)) (hj : j = (b : Int)) (ha : a ≤ 1000000) (hb : b ≤ 1000000) : mRng2 f r = .ok ((List.range (b - a)).map fun k : Nat => PyData.int ((a + k : Nat) : Int)) r2 := by
  subst hi hj
  rw [ev_rn2, ev_bnd, h]
  simp only
  rw [if_pos (by omega), ev_ret, rangeD_map, show ((b : Int) - (a : Int)).toNat = b - a by omega]
  congr 1
/-- a comprehension, its elements found on the way -/
theorem lc_a {fi : M (List D)} {h : D → Rho → Option Rho} {fe : M D} {vs : List Nat} {ρ : Rho} {xs : List α} {e : α → D} {g : α → D} (hi : fi ρ = .ok (xs.map e) ρ) (hl : xs.length ≤ big) (hr : restR ρ (wipeR ρ vs) vs = ρ)
    (H : ∀ x, x ∈ xs → ∃ r1, h (e x) (wipeR ρ vs) = some r1 ∧ fe r1 = .ok (g x) r1 ∧ wipeR r1 vs = wipeR ρ vs) : mLc fi h mYes fe vs ρ = .ok (.list (xs.map g)) ρ := mlc_map0 xs e g hi hl hr H
theorem callX_t {f : M D} {ρ r : Rho} {c : Str} (e : f ρ = .ex c r) (hc : excN.contains c = true) : mTold f ρ = .ok (termD c) r := told_ex e hc
/-- statements -/
theorem wp_notB {c : M Bool} {f : S} {Q : Rho → Prop} {ρ r : Rho} {b : Bool} (e : c ρ = .ok b r) (hb : b = false) (q : Q r) : Wp (sIf c f sNext) Q ρ := wp_not (by rw [e, hb]) q
theorem wp_ifF {c : M Bool} {f g : S} {Q : Rho → Prop} {ρ r : Rho} {b : Bool} (e : c ρ = .ok b r) (hb : b = false) (q : Wp g Q r) : Wp (sIf c f g) Q ρ := wp_if e (fun z => by rw [hb] at z; cases z) (fun _ => q)
theorem wp_ifT {c : M Bool} {f g : S} {Q : Rho → Prop} {ρ r : Rho} {b : Bool} (e : c ρ = .ok b r) (hb : b = true) (q : Wp f Q r) : Wp (sIf c f g) Q ρ := wp_if e (fun _ => q) (fun z => by rw [hb] at z; cases z)
theorem mul_s {i j : Int} (h1 : -1000000000000 < i) (h2 : i < 1000000000000) : mulF (.int i) (.int j) = some (.int (i * j)) := ev_mul i j (by
  have : isSmall i = true := by
    unfold isSmall
    rw [decide_eq_true (by omega), decide_eq_true (by omega)]
    rfl
  rw [this, Bool.true_or])
theorem rt_of {f : S} {d : D} {ρ : Rho} (h : Rt f (fun x _ => x = d) ρ) : finO (f ρ) = .ok d := by
  obtain ⟨x, r, e, q⟩ := h
  subst q
  exact fin_rt e
end
end Rn
end
section
set_option Elab.async false
set_option linter.all false
set_option maxRecDepth 100000
set_option maxHeartbeats 4000000
namespace Rn
open PySem PySem.Spec L2
def arcAt (rows : Rows) (p : Nat × Nat) : Arc := (rows.getD p.1 []).getD p.2 (none, 0, 0)
def dlW (rows : Rows) (w : Way) : Nat := (w.map fun p => (arcAt rows p).2.1).sum
def bkW (rows : Rows) (w : Way) : Nat := (w.map fun p => (arcAt rows p).2.2).sum
def WayOk (rows : Rows) (w : Way) : Prop := ∀ p ∈ w, p.1 < rows.length ∧ p.2 < (rows.getD p.1 []).length
theorem WayOk.snoc {rows : Rows} {w : Way} (h : WayOk rows w) {p : Nat × Nat} (h1 : p.1 < rows.length) (h2 : p.2 < (rows.getD p.1 []).length) : WayOk rows (w ++ [p]) := fun x hx => by
  rcases List.mem_append.mp hx with z | z
  · exact h x z
  · rw [List.mem_singleton.mp z]; exact ⟨h1, h2⟩
theorem bkW_snoc (rows : Rows) (w : Way) (p : Nat × Nat) : bkW rows (w ++ [p]) = bkW rows w + (arcAt rows p).2.2 := by simp [bkW]
structure RingOk (rows : Rows) (w : Way) : Prop where
  way : WayOk rows w
  len : w.length ≤ rows.length + 1
  bk1 : 1 ≤ bkW rows w
structure NdInv (rows : Rows) (first : Nat) (rk : Nat → Nat) (n : Nd) : Prop where
  ok : NdOk rows first n
  way : WayOk rows n.2
  low : bkW rows n.2 = 0 → rk n.1 ≤ rk first
theorem zip_arc {rows : Rows} {i : Nat} {a : Arc} {p : Nat} (h : (a, p) ∈ (rows.getD i []).zipIdx) : p < (rows.getD i []).length ∧ arcAt rows (i, p) = a ∧ a ∈ rows.getD i [] := by
  have h2 := List.mem_zipIdx' h
  obtain ⟨h3, h4⟩ := h2
  refine ⟨h3, ?_, ?_⟩
  · unfold arcAt
    rw [List.getD_eq_getElem?_getD (l := rows.getD i []), List.getElem?_eq_getElem h3, ← h4]
    rfl
  · rw [h4]
    exact List.getElem_mem _
theorem close_ok {rows : Rows} {first : Nat} {rk : Nat → Nat} (hrk : ∀ i, ∀ a ∈ rows.getD i [], a.2.2 = 0 → ∀ j, evOf a.1 = some j → rk j < rk i) {n : Nd} (hn : NdInv rows first rk n) : ∀ w ∈ closes rows first n, RingOk rows w := fun w hw => by
  obtain ⟨⟨a, p⟩, hp, rfl⟩ := List.mem_map.mp hw
  obtain ⟨h1, h2⟩ := List.mem_filter.mp hp
  obtain ⟨h3, h4, h5⟩ := zip_arc h1
  have h2 : evOf a.1 = some first := of_decide_eq_true h2
  refine ⟨hn.way.snoc hn.ok.1 h3, ?_, ?_⟩
  · have := hn.ok.2
    rw [List.length_append, List.length_singleton]
    omega
  · rw [bkW_snoc, h4]
    by_cases hb : bkW rows n.2 = 0
    · by_cases ha : a.2.2 = 0
      · have := hrk n.1 a h5 ha first h2
        have := hn.low hb
        omega
      · omega
    · omega
theorem open_inv {rows : Rows} (hs : SrcOk rows) {first : Nat} {rk : Nat → Nat} (hrk : ∀ i, ∀ a ∈ rows.getD i [], a.2.2 = 0 → ∀ j, evOf a.1 = some j → rk j < rk i) {n : Nd} (hn : NdInv rows first rk n) : ∀ m ∈ opens rows first n, NdInv rows first rk m := fun m hm => by
  refine ⟨hn.ok.next hs hm, ?_, ?_⟩
  · obtain ⟨⟨a, p⟩, hp, rfl⟩ := List.mem_map.mp hm
    obtain ⟨h1, h2⟩ := List.mem_filter.mp hp
    obtain ⟨h3, h4, h5⟩ := zip_arc h1
    exact hn.way.snoc hn.ok.1 h3
  · obtain ⟨⟨a, p⟩, hp, rfl⟩ := List.mem_map.mp hm
    obtain ⟨h1, h2⟩ := List.mem_filter.mp hp
    obtain ⟨h3, h4, h5⟩ := zip_arc h1
    intro hb
    rw [bkW_snoc, h4] at hb
    have h2 : openB first n a.1 = true := h2
    unfold openB at h2
    cases q : evOf a.1 with
    | none => rw [q] at h2; cases h2
    | some j =>
      have := hrk n.1 a h5 (by omega) j q
      have := hn.low (by omega)
      show rk j ≤ rk first
      omega
theorem tree_ok {rows : Rows} (hs : SrcOk rows) {first : Nat} {rk : Nat → Nat} (hrk : ∀ i, ∀ a ∈ rows.getD i [], a.2.2 = 0 → ∀ j, evOf a.1 = some j → rk j < rk i) : ∀ (k : Nat) (n : Nd), NdInv rows first rk n → ∀ w ∈ tree rows first k n, RingOk rows w
  | 0, n, hn, w, hw => close_ok hrk hn w hw
  | k + 1, n, hn, w, hw => by
    rcases List.mem_append.mp hw with h | h
    · exact close_ok hrk hn w h
    · obtain ⟨m, hm, h⟩ := List.mem_flatMap.mp h
      exact tree_ok hs hrk k m (open_inv hs hrk hn m hm) w h
theorem NetOk.ring {n : Net} (h : NetOk n) : ∀ w ∈ allW n.2.1 n.2.1.length, RingOk n.2.1 w := fun w hw => by
  obtain ⟨f, hf, hw⟩ := List.mem_flatMap.mp hw
  obtain ⟨rk, hrk⟩ := h.rank
  have hf := List.mem_range.mp hf
  have hc := cands_le n.2.1 f (f, [])
  have hi : NdInv n.2.1 f rk (f, []) := ⟨⟨hf, by rw [List.length_nil, Nat.zero_add]; exact hc⟩, fun p hp => by simp at hp, fun _ => Nat.le_refl _⟩
  exact tree_ok h.src hrk _ _ hi w hw
theorem NetOk.rows {n : Net} (h : NetOk n) : RowsOk n.2.1 4 ∧ n.2.1.length * (4 * bnd' 4 n.2.1.length) < 800000 := by
  have h5 := h.r5
  have hb : bnd' 4 n.2.1.length ≤ 1365 := by
    generalize n.2.1.length = l at h5
    match l, h5 with
    | 0, _ => decide
    | 1, _ => decide
    | 2, _ => decide
    | 3, _ => decide
    | 4, _ => decide
    | 5, _ => decide
  refine ⟨⟨h.src, h.few, by omega, by omega⟩, ?_⟩
  have : n.2.1.length * (4 * bnd' 4 n.2.1.length) ≤ 5 * (4 * 1365) := Nat.mul_le_mul h5 (by omega)
  omega
/-- the bounds of the sums -/
theorem NetOk.sums {n : Net} (h : NetOk n) {w : Way} (hw : RingOk n.2.1 w) : dlW n.2.1 w ≤ 54 ∧ bkW n.2.1 w ≤ 18 := by
  have h5 := h.r5
  have hl := hw.len
  have harc : ∀ p ∈ w, (arcAt n.2.1 p).2.1 ≤ 9 ∧ (arcAt n.2.1 p).2.2 ≤ 3 := fun p hp => by
    obtain ⟨h1, h2⟩ := hw.way p hp
    have hm : arcAt n.2.1 p ∈ n.2.1.getD p.1 [] := by
      unfold arcAt
      rw [List.getD_eq_getElem?_getD (l := n.2.1.getD p.1 []), List.getElem?_eq_getElem h2]
      exact List.getElem_mem _
    obtain ⟨r, hr, har⟩ := getD_memR hm
    exact (h.arc r hr _ har).2
  have d := sum_le (f := fun p => (arcAt n.2.1 p).2.1) (b := 9) (xs := w) fun p hp => (harc p hp).1
  have b := sum_le (f := fun p => (arcAt n.2.1 p).2.2) (b := 3) (xs := w) fun p hp => (harc p hp).2
  unfold dlW bkW
  omega
theorem arc_at {rows : Rows} {p : Nat × Nat} (h1 : p.1 < rows.length) (h2 : p.2 < (rows.getD p.1 []).length) : ixF (rowsD rows) (.int (p.1 : Nat)) = some (rowD (rows.getD p.1 [])) ∧ ixF (rowD (rows.getD p.1 [])) (.int (p.2 : Nat)) = some (arcD (arcAt rows p)) := by
  refine ⟨rows_at h1, ?_⟩
  have := atMap arcD (rows.getD p.1 []) (i := (p.2 : Int)) (n := p.2) rfl h2
  show atI ((rows.getD p.1 []).map arcD) (p.2 : Int) = _
  rw [this]
  unfold arcAt
  rw [List.getD_eq_getElem?_getD (l := rows.getD p.1 []), List.getElem?_eq_getElem h2]
  rfl
theorem w_measure {rows : Rows} {w : Way} (hw : WayOk rows w) (hl : w.length ≤ 1000) : g_measure [rowsD rows, ringT w] = .ok (.tuple [.int (dlW rows w : Nat), .int (bkW rows w : Nat)]) := by
  obtain ⟨as, has⟩ : ∃ as : List Arc, as = w.map (arcAt rows) := ⟨_, rfl⟩
  have hal : as.length ≤ 1000 := by rw [has, List.length_map]; exact hl
  have l1 : mLc (mSeqI (mVar 1)) (hTup 2 (hCons (hName 3) (hCons (hName 4) (hNil)))) (mYes) (e0_measure) [3, 4] [.fz (rowsD rows), .fz (ringT w), .no, .no, .no, .no] = .ok (.list (as.map arcD)) [.fz (rowsD rows), .fz (ringT w), .no, .no, .no, .no] := by
    rw [has, List.map_map]
    refine mlc_map0 w pairD _ (seqT_ok rfl) (by simp only [big]; omega) rfl (fun p hp => ⟨[.fz (rowsD rows), .fz (ringT w), .no, .fz (.int (p.1 : Nat)), .fz (.int (p.2 : Nat)), .no], rfl, ?_, rfl⟩)
    obtain ⟨h1, h2⟩ := hw p hp
    obtain ⟨e1, e2⟩ := arc_at h1 h2
    exact op_ok (mT_ok (op_ok rfl rfl rfl rfl e1)) rfl rfl rfl e2
  have l2 : mLc (mSeqI (mVar 2)) (hName 5) (mYes) (e2_measure) [5] [.fz (rowsD rows), .fz (ringT w), .fz (.list (as.map arcD)), .no, .no, .no] = .ok (.list ((as.map fun a => a.2.1).map fun n : Nat => PyData.int (n : Int))) [.fz (rowsD rows), .fz (ringT w), .fz (.list (as.map arcD)), .no, .no, .no] := by
    rw [List.map_map]
    exact mlc_map0 as arcD _ (seqL_ok rfl) (by simp only [big]; omega) rfl (fun a ha => ⟨_, rfl, op_ok rfl (mT_ok rfl) rfl rfl rfl, rfl⟩)
  have l3 : mLc (mSeqI (mVar 2)) (hName 5) (mYes) (e1_measure) [5] [.fz (rowsD rows), .fz (ringT w), .fz (.list (as.map arcD)), .no, .no, .no] = .ok (.list ((as.map fun a => a.2.2).map fun n : Nat => PyData.int (n : Int))) [.fz (rowsD rows), .fz (ringT w), .fz (.list (as.map arcD)), .no, .no, .no] := by
    rw [List.map_map]
    exact mlc_map0 as arcD _ (seqL_ok rfl) (by simp only [big]; omega) rfl (fun a ha => ⟨_, rfl, op_ok rfl (mT_ok rfl) rfl rfl rfl, rfl⟩)
  have s1 := sum_int (as.map fun a => a.2.1)
  have s2 := sum_int (as.map fun a => a.2.2)
  have d1 : (as.map fun a => a.2.1).sum = dlW rows w := by rw [has, List.map_map]; rfl
  have d2 : (as.map fun a => a.2.2).sum = bkW rows w := by rw [has, List.map_map]; rfl
  rw [d1] at s1
  rw [d2] at s2
  unfold g_measure
  rw [call2 (m := 4)]
  unfold b_measure
  exact fin_rt (seq_to (asg_ok l1 rfl) (ret_ok (tup_ok (cons_ok (cb_ok (cons_ok (mT_ok l2) rfl) rfl s1) (cons_ok (cb_ok (cons_ok (mT_ok l3) rfl) rfl s2) rfl)) (show (2 : Nat) ≤ 100 by decide))))
end Rn
end
section
set_option Elab.async false
set_option linter.all false
set_option maxRecDepth 100000
set_option maxHeartbeats 4000000
namespace Rn
open PySem PySem.Spec L2
theorem w_is_less (p q r s : Int) (h1 : isSmall s = true) (h2 : isSmall q = true) : g_is_less [.tuple [.int p, .int q], .tuple [.int r, .int s]] = .ok (.bool (decide (p * s < r * q))) := by
  simp -implicitDefEqProofs [g_is_less, b_is_less, ev_foc, ev_fo0, ev_app, ev_enm, ev_rs, ev_lc', ev_g0, ev_gc, ev_y, big, ev_bnd, ev_ret, ev_lfS, ev_lfN, ev_stk, ev_vr, ev_vrT, ev_mT, ev_cF, ev_cO, ev_cB, ev_dd, ev_ds, ev_d0, ev_dc, ev_opr, ev_unr, ev_nl, ev_cns, ev_cbr, ev_ab, ev_ai, ev_tst', ev_an, ev_orr, ev_nt, ev_anV, ev_orV', ev_ntV, ev_ifm, ev_ch, ev_tp, ev_ls, ev_cl, ev_cl0, ev_isr, ev_sqI, ev_sqL, ev_sqT, ev_sb, ev_ss, ev_sn, ev_sa, ev_so, ev_sr, ev_sdr, ev_si, ev_sp, ev_p0, ev_pF, ev_pT, ev_sf, ev_hn, ev_ht, ev_hc, ev_h0, ev_cal, ev_f1, ev_f2, ev_f3, ev_f4, ev_cmp, ev_add, ev_sub, ev_mod, ev_fdv, ev_isn, ev_n1, ev_n2, ev_n3, ev_n4, ev_ixL, ev_ixT, ev_a0, ev_a1, ev_a2, ev_lL, ev_lT, ev_tL, ev_tT, ev_liT, ev_abs, ev_mx, ev_mn, ev_mx3, ev_t1, ev_t2, ev_t3, noIN_n, noIN_b, noIN_i, noIN_s, noIN_l, noIN_t, ev_eqI, ev_neI, List.getElem?_cons_zero, List.getElem?_cons_succ, List.set_cons_zero, List.set_cons_succ, List.length_cons, List.length_nil, List.map_cons, List.map_nil, List.replicate_succ, List.replicate_zero, List.cons_append, List.nil_append, List.append_nil, Option.bind_some, Option.map_some, Nat.reduceAdd, Nat.reduceSub, Nat.reduceLT, Nat.reduceLeDiff, Nat.reduceEqDiff, if_true, if_false, reduceIte, Bool.false_eq_true, wipeR, restR, ev_mul, h1, h2]
abbrev Fr := Int × Int
def encF (f : Fr) : D := .tuple [.int f.1, .int f.2]
def encO : Option Fr → D
  | none => .none
  | some f => encF f
def grt (o : Option Fr) (f : Fr) : Option Fr := match o with
  | none => some f
  | some g => if g.1 * f.2 < f.1 * g.2 then some f else some g
theorem gr_step (fs : List D) (o : Option Fr) (x : Cell) (f : Fr) (hf : isSmall f.2 = true) (ho : ∀ g, o = some g → isSmall g.2 = true) :
    (sAsg (mIf (mOr (mTst (mOp (isF false) (mVarT 1) (mT (ret .none)))) (mTst (mCall0 g_is_less (mCons (mVar 1) (mCons (mVar 2) (mNil)))))) (mVar 2) (mVar 1)) (hName 1)) [.fz (.list fs), .fz (encO o), .fz (encF f)] = .nx [.fz (.list fs), .fz (encO (grt o f)), .fz (encF f)] := by
  cases o with
  | none => simp -implicitDefEqProofs [ev_foc, ev_fo0, ev_app, ev_enm, ev_rs, ev_lc', ev_g0, ev_gc, ev_y, big, ev_bnd, ev_ret, ev_lfS, ev_lfN, ev_stk, ev_vr, ev_vrT, ev_mT, ev_cF, ev_cO, ev_cB, ev_dd, ev_ds, ev_d0, ev_dc, ev_opr, ev_unr, ev_nl, ev_cns, ev_cbr, ev_ab, ev_ai, ev_tst', ev_an, ev_orr, ev_nt, ev_anV, ev_orV', ev_ntV, ev_ifm, ev_ch, ev_tp, ev_ls, ev_cl, ev_cl0, ev_isr, ev_sqI, ev_sqL, ev_sqT, ev_sb, ev_ss, ev_sn, ev_sa, ev_so, ev_sr, ev_sdr, ev_si, ev_sp, ev_p0, ev_pF, ev_pT, ev_sf, ev_hn, ev_ht, ev_hc, ev_h0, ev_cal, ev_f1, ev_f2, ev_f3, ev_f4, ev_cmp, ev_add, ev_sub, ev_mod, ev_fdv, ev_isn, ev_n1, ev_n2, ev_n3, ev_n4, ev_ixL, ev_ixT, ev_a0, ev_a1, ev_a2, ev_lL, ev_lT, ev_tL, ev_tT, ev_liT, ev_abs, ev_mx, ev_mn, ev_mx3, ev_t1, ev_t2, ev_t3, noIN_n, noIN_b, noIN_i, noIN_s, noIN_l, noIN_t, ev_eqI, ev_neI, List.getElem?_cons_zero, List.getElem?_cons_succ, List.set_cons_zero, List.set_cons_succ, List.length_cons, List.length_nil, List.map_cons, List.map_nil, List.replicate_succ, List.replicate_zero, List.cons_append, List.nil_append, List.append_nil, Option.bind_some, Option.map_some, Nat.reduceAdd, Nat.reduceSub, Nat.reduceLT, Nat.reduceLeDiff, Nat.reduceEqDiff, if_true, if_false, reduceIte, Bool.false_eq_true, wipeR, restR, encO, grt]
  | some g =>
    have hl := w_is_less g.1 g.2 f.1 f.2 hf (ho g rfl)
    simp -implicitDefEqProofs only [ev_foc, ev_fo0, ev_app, ev_enm, ev_rs, ev_lc', ev_g0, ev_gc, ev_y, big, ev_bnd, ev_ret, ev_lfS, ev_lfN, ev_stk, ev_vr, ev_vrT, ev_mT, ev_cF, ev_cO, ev_cB, ev_dd, ev_ds, ev_d0, ev_dc, ev_opr, ev_unr, ev_nl, ev_cns, ev_cbr, ev_ab, ev_ai, ev_tst', ev_an, ev_orr, ev_nt, ev_anV, ev_orV', ev_ntV, ev_ifm, ev_ch, ev_tp, ev_ls, ev_cl, ev_cl0, ev_isr, ev_sqI, ev_sqL, ev_sqT, ev_sb, ev_ss, ev_sn, ev_sa, ev_so, ev_sr, ev_sdr, ev_si, ev_sp, ev_p0, ev_pF, ev_pT, ev_sf, ev_hn, ev_ht, ev_hc, ev_h0, ev_cal, ev_f1, ev_f2, ev_f3, ev_f4, ev_cmp, ev_add, ev_sub, ev_mod, ev_fdv, ev_isn, ev_n1, ev_n2, ev_n3, ev_n4, ev_ixL, ev_ixT, ev_a0, ev_a1, ev_a2, ev_lL, ev_lT, ev_tL, ev_tT, ev_liT, ev_abs, ev_mx, ev_mn, ev_mx3, ev_t1, ev_t2, ev_t3, noIN_n, noIN_b, noIN_i, noIN_s, noIN_l, noIN_t, ev_eqI, ev_neI, List.getElem?_cons_zero, List.getElem?_cons_succ, List.set_cons_zero, List.set_cons_succ, List.length_cons, List.length_nil, List.map_cons, List.map_nil, List.replicate_succ, List.replicate_zero, List.cons_append, List.nil_append, List.append_nil, Option.bind_some, Option.map_some, Nat.reduceAdd, Nat.reduceSub, Nat.reduceLT, Nat.reduceLeDiff, Nat.reduceEqDiff, if_true, if_false, reduceIte, Bool.false_eq_true, wipeR, restR, encO, encF] at hl ⊢
    rw [hl]
    by_cases h : g.1 * f.2 < f.1 * g.2
    · simp -implicitDefEqProofs [ev_foc, ev_fo0, ev_app, ev_enm, ev_rs, ev_lc', ev_g0, ev_gc, ev_y, big, ev_bnd, ev_ret, ev_lfS, ev_lfN, ev_stk, ev_vr, ev_vrT, ev_mT, ev_cF, ev_cO, ev_cB, ev_dd, ev_ds, ev_d0, ev_dc, ev_opr, ev_unr, ev_nl, ev_cns, ev_cbr, ev_ab, ev_ai, ev_tst', ev_an, ev_orr, ev_nt, ev_anV, ev_orV', ev_ntV, ev_ifm, ev_ch, ev_tp, ev_ls, ev_cl, ev_cl0, ev_isr, ev_sqI, ev_sqL, ev_sqT, ev_sb, ev_ss, ev_sn, ev_sa, ev_so, ev_sr, ev_sdr, ev_si, ev_sp, ev_p0, ev_pF, ev_pT, ev_sf, ev_hn, ev_ht, ev_hc, ev_h0, ev_cal, ev_f1, ev_f2, ev_f3, ev_f4, ev_cmp, ev_add, ev_sub, ev_mod, ev_fdv, ev_isn, ev_n1, ev_n2, ev_n3, ev_n4, ev_ixL, ev_ixT, ev_a0, ev_a1, ev_a2, ev_lL, ev_lT, ev_tL, ev_tT, ev_liT, ev_abs, ev_mx, ev_mn, ev_mx3, ev_t1, ev_t2, ev_t3, noIN_n, noIN_b, noIN_i, noIN_s, noIN_l, noIN_t, ev_eqI, ev_neI, List.getElem?_cons_zero, List.getElem?_cons_succ, List.set_cons_zero, List.set_cons_succ, List.length_cons, List.length_nil, List.map_cons, List.map_nil, List.replicate_succ, List.replicate_zero, List.cons_append, List.nil_append, List.append_nil, Option.bind_some, Option.map_some, Nat.reduceAdd, Nat.reduceSub, Nat.reduceLT, Nat.reduceLeDiff, Nat.reduceEqDiff, if_true, if_false, reduceIte, Bool.false_eq_true, wipeR, restR, grt, h, encO, encF]
    · simp -implicitDefEqProofs [ev_foc, ev_fo0, ev_app, ev_enm, ev_rs, ev_lc', ev_g0, ev_gc, ev_y, big, ev_bnd, ev_ret, ev_lfS, ev_lfN, ev_stk, ev_vr, ev_vrT, ev_mT, ev_cF, ev_cO, ev_cB, ev_dd, ev_ds, ev_d0, ev_dc, ev_opr, ev_unr, ev_nl, ev_cns, ev_cbr, ev_ab, ev_ai, ev_tst', ev_an, ev_orr, ev_nt, ev_anV, ev_orV', ev_ntV, ev_ifm, ev_ch, ev_tp, ev_ls, ev_cl, ev_cl0, ev_isr, ev_sqI, ev_sqL, ev_sqT, ev_sb, ev_ss, ev_sn, ev_sa, ev_so, ev_sr, ev_sdr, ev_si, ev_sp, ev_p0, ev_pF, ev_pT, ev_sf, ev_hn, ev_ht, ev_hc, ev_h0, ev_cal, ev_f1, ev_f2, ev_f3, ev_f4, ev_cmp, ev_add, ev_sub, ev_mod, ev_fdv, ev_isn, ev_n1, ev_n2, ev_n3, ev_n4, ev_ixL, ev_ixT, ev_a0, ev_a1, ev_a2, ev_lL, ev_lT, ev_tL, ev_tT, ev_liT, ev_abs, ev_mx, ev_mn, ev_mx3, ev_t1, ev_t2, ev_t3, noIN_n, noIN_b, noIN_i, noIN_s, noIN_l, noIN_t, ev_eqI, ev_neI, List.getElem?_cons_zero, List.getElem?_cons_succ, List.set_cons_zero, List.set_cons_succ, List.length_cons, List.length_nil, List.map_cons, List.map_nil, List.replicate_succ, List.replicate_zero, List.cons_append, List.nil_append, List.append_nil, Option.bind_some, Option.map_some, Nat.reduceAdd, Nat.reduceSub, Nat.reduceLT, Nat.reduceLeDiff, Nat.reduceEqDiff, if_true, if_false, reduceIte, Bool.false_eq_true, wipeR, restR, grt, h, encO, encF]
theorem gr_loop (gs : List D) : ∀ (fs : List Fr) (o : Option Fr) (x : Cell), (∀ f ∈ fs, isSmall f.2 = true) → (∀ g, o = some g → isSmall g.2 = true) → ∃ y,
    forGo (hName 2) (sAsg (mIf (mOr (mTst (mOp (isF false) (mVarT 1) (mT (ret .none)))) (mTst (mCall0 g_is_less (mCons (mVar 1) (mCons (mVar 2) (mNil)))))) (mVar 2) (mVar 1)) (hName 1)) (fs.map encF) [.fz (.list gs), .fz (encO o), x] = .nx [.fz (.list gs), .fz (encO (fs.foldl grt o)), y]
  | [], o, x, _, _ => ⟨x, rfl⟩
  | f :: fs, o, x, h1, h2 => by
    have hf := h1 f (List.mem_cons_self ..)
    obtain ⟨y, ih⟩ := gr_loop gs fs (grt o f) (.fz (encF f)) (fun z hz => h1 z (List.mem_cons_of_mem _ hz)) (fun g hg => by
      unfold grt at hg
      cases o with
      | none => cases hg; exact hf
      | some k =>
        simp only at hg
        split at hg
        · cases hg; exact hf
        · cases hg; exact h2 _ rfl)
    refine ⟨y, ?_⟩
    have st := gr_step gs o x f hf h2
    rw [List.map_cons]
    unfold forGo
    simp only [hName, List.set_cons_succ, List.set_cons_zero] at st ih ⊢
    rw [st]
    simp only [ih, List.foldl_cons]
theorem w_greatest (fs : List Fr) (h : ∀ f ∈ fs, isSmall f.2 = true) : g_greatest [.list (fs.map encF)] = .ok (encO (fs.foldl grt none)) := by
  obtain ⟨y, e⟩ := gr_loop (fs.map encF) fs none .no h (by simp)
  change forGo _ _ _ [Cell.fz (.list (fs.map encF)), Cell.fz .none, Cell.no] = _ at e
  simp -implicitDefEqProofs only [g_greatest, b_greatest, ev_foc, ev_fo0, ev_app, ev_enm, ev_rs, ev_lc', ev_g0, ev_gc, ev_y, big, ev_bnd, ev_ret, ev_lfS, ev_lfN, ev_stk, ev_vr, ev_vrT, ev_mT, ev_cF, ev_cO, ev_cB, ev_dd, ev_ds, ev_d0, ev_dc, ev_opr, ev_unr, ev_nl, ev_cns, ev_cbr, ev_ab, ev_ai, ev_tst', ev_an, ev_orr, ev_nt, ev_anV, ev_orV', ev_ntV, ev_ifm, ev_ch, ev_tp, ev_ls, ev_cl, ev_cl0, ev_isr, ev_sqI, ev_sqL, ev_sqT, ev_sb, ev_ss, ev_sn, ev_sa, ev_so, ev_sr, ev_sdr, ev_si, ev_sp, ev_p0, ev_pF, ev_pT, ev_sf, ev_hn, ev_ht, ev_hc, ev_h0, ev_cal, ev_f1, ev_f2, ev_f3, ev_f4, ev_cmp, ev_add, ev_sub, ev_mod, ev_fdv, ev_isn, ev_n1, ev_n2, ev_n3, ev_n4, ev_ixL, ev_ixT, ev_a0, ev_a1, ev_a2, ev_lL, ev_lT, ev_tL, ev_tT, ev_liT, ev_abs, ev_mx, ev_mn, ev_mx3, ev_t1, ev_t2, ev_t3, noIN_n, noIN_b, noIN_i, noIN_s, noIN_l, noIN_t, ev_eqI, ev_neI, List.getElem?_cons_zero, List.getElem?_cons_succ, List.set_cons_zero, List.set_cons_succ, List.length_cons, List.length_nil, List.map_cons, List.map_nil, List.replicate_succ, List.replicate_zero, List.cons_append, List.nil_append, List.append_nil, Option.bind_some, Option.map_some, Nat.reduceAdd, Nat.reduceSub, Nat.reduceLT, Nat.reduceLeDiff, Nat.reduceEqDiff, if_true, if_false, reduceIte, Bool.false_eq_true, wipeR, restR]
  simp only [l0_greatest]
  rw [e]
  simp -implicitDefEqProofs only [ev_foc, ev_fo0, ev_app, ev_enm, ev_rs, ev_lc', ev_g0, ev_gc, ev_y, big, ev_bnd, ev_ret, ev_lfS, ev_lfN, ev_stk, ev_vr, ev_vrT, ev_mT, ev_cF, ev_cO, ev_cB, ev_dd, ev_ds, ev_d0, ev_dc, ev_opr, ev_unr, ev_nl, ev_cns, ev_cbr, ev_ab, ev_ai, ev_tst', ev_an, ev_orr, ev_nt, ev_anV, ev_orV', ev_ntV, ev_ifm, ev_ch, ev_tp, ev_ls, ev_cl, ev_cl0, ev_isr, ev_sqI, ev_sqL, ev_sqT, ev_sb, ev_ss, ev_sn, ev_sa, ev_so, ev_sr, ev_sdr, ev_si, ev_sp, ev_p0, ev_pF, ev_pT, ev_sf, ev_hn, ev_ht, ev_hc, ev_h0, ev_cal, ev_f1, ev_f2, ev_f3, ev_f4, ev_cmp, ev_add, ev_sub, ev_mod, ev_fdv, ev_isn, ev_n1, ev_n2, ev_n3, ev_n4, ev_ixL, ev_ixT, ev_a0, ev_a1, ev_a2, ev_lL, ev_lT, ev_tL, ev_tT, ev_liT, ev_abs, ev_mx, ev_mn, ev_mx3, ev_t1, ev_t2, ev_t3, noIN_n, noIN_b, noIN_i, noIN_s, noIN_l, noIN_t, ev_eqI, ev_neI, List.getElem?_cons_zero, List.getElem?_cons_succ, List.set_cons_zero, List.set_cons_succ, List.length_cons, List.length_nil, List.map_cons, List.map_nil, List.replicate_succ, List.replicate_zero, List.cons_append, List.nil_append, List.append_nil, Option.bind_some, Option.map_some, Nat.reduceAdd, Nat.reduceSub, Nat.reduceLT, Nat.reduceLeDiff, Nat.reduceEqDiff, if_true, if_false, reduceIte, Bool.false_eq_true, wipeR, restR]
theorem div_loop : ∀ (n x y : Nat), y < n → whileGo c0_divisor l1_divisor n [.fz (.int x), .fz (.int y)] = .nx [.fz (.int (Nat.gcd x y)), .fz (.int 0)]
  | 0, _, _, h => absurd h (Nat.not_lt_zero _)
  | n + 1, x, y, h => by
    unfold whileGo
    by_cases h0 : y = 0
    · subst h0
      simp -implicitDefEqProofs [c0_divisor, ev_foc, ev_fo0, ev_app, ev_enm, ev_rs, ev_lc', ev_g0, ev_gc, ev_y, big, ev_bnd, ev_ret, ev_lfS, ev_lfN, ev_stk, ev_vr, ev_vrT, ev_mT, ev_cF, ev_cO, ev_cB, ev_dd, ev_ds, ev_d0, ev_dc, ev_opr, ev_unr, ev_nl, ev_cns, ev_cbr, ev_ab, ev_ai, ev_tst', ev_an, ev_orr, ev_nt, ev_anV, ev_orV', ev_ntV, ev_ifm, ev_ch, ev_tp, ev_ls, ev_cl, ev_cl0, ev_isr, ev_sqI, ev_sqL, ev_sqT, ev_sb, ev_ss, ev_sn, ev_sa, ev_so, ev_sr, ev_sdr, ev_si, ev_sp, ev_p0, ev_pF, ev_pT, ev_sf, ev_hn, ev_ht, ev_hc, ev_h0, ev_cal, ev_f1, ev_f2, ev_f3, ev_f4, ev_cmp, ev_add, ev_sub, ev_mod, ev_fdv, ev_isn, ev_n1, ev_n2, ev_n3, ev_n4, ev_ixL, ev_ixT, ev_a0, ev_a1, ev_a2, ev_lL, ev_lT, ev_tL, ev_tT, ev_liT, ev_abs, ev_mx, ev_mn, ev_mx3, ev_t1, ev_t2, ev_t3, noIN_n, noIN_b, noIN_i, noIN_s, noIN_l, noIN_t, ev_eqI, ev_neI, List.getElem?_cons_zero, List.getElem?_cons_succ, List.set_cons_zero, List.set_cons_succ, List.length_cons, List.length_nil, List.map_cons, List.map_nil, List.replicate_succ, List.replicate_zero, List.cons_append, List.nil_append, List.append_nil, Option.bind_some, Option.map_some, Nat.reduceAdd, Nat.reduceSub, Nat.reduceLT, Nat.reduceLeDiff, Nat.reduceEqDiff, if_true, if_false, reduceIte, Bool.false_eq_true, wipeR, restR, ev_neI]
    · have hp : 0 < y := Nat.pos_of_ne_zero h0
      have hi : (0 : Int) < (y : Int) := by omega
      have hne : ((y : Int) = 0) = False := by simp; omega
      have ih := div_loop n y (x % y) (Nat.lt_of_lt_of_le (Nat.mod_lt _ hp) (Nat.le_of_lt_succ h))
      have e : (x : Int) % (y : Int) = ((x % y : Nat) : Int) := by simp
      simp -implicitDefEqProofs only [c0_divisor, l1_divisor, ev_foc, ev_fo0, ev_app, ev_enm, ev_rs, ev_lc', ev_g0, ev_gc, ev_y, big, ev_bnd, ev_ret, ev_lfS, ev_lfN, ev_stk, ev_vr, ev_vrT, ev_mT, ev_cF, ev_cO, ev_cB, ev_dd, ev_ds, ev_d0, ev_dc, ev_opr, ev_unr, ev_nl, ev_cns, ev_cbr, ev_ab, ev_ai, ev_tst', ev_an, ev_orr, ev_nt, ev_anV, ev_orV', ev_ntV, ev_ifm, ev_ch, ev_tp, ev_ls, ev_cl, ev_cl0, ev_isr, ev_sqI, ev_sqL, ev_sqT, ev_sb, ev_ss, ev_sn, ev_sa, ev_so, ev_sr, ev_sdr, ev_si, ev_sp, ev_p0, ev_pF, ev_pT, ev_sf, ev_hn, ev_ht, ev_hc, ev_h0, ev_cal, ev_f1, ev_f2, ev_f3, ev_f4, ev_cmp, ev_add, ev_sub, ev_mod, ev_fdv, ev_isn, ev_n1, ev_n2, ev_n3, ev_n4, ev_ixL, ev_ixT, ev_a0, ev_a1, ev_a2, ev_lL, ev_lT, ev_tL, ev_tT, ev_liT, ev_abs, ev_mx, ev_mn, ev_mx3, ev_t1, ev_t2, ev_t3, noIN_n, noIN_b, noIN_i, noIN_s, noIN_l, noIN_t, ev_eqI, ev_neI, List.getElem?_cons_zero, List.getElem?_cons_succ, List.set_cons_zero, List.set_cons_succ, List.length_cons, List.length_nil, List.map_cons, List.map_nil, List.replicate_succ, List.replicate_zero, List.cons_append, List.nil_append, List.append_nil, Option.bind_some, Option.map_some, Nat.reduceAdd, Nat.reduceSub, Nat.reduceLT, Nat.reduceLeDiff, Nat.reduceEqDiff, if_true, if_false, reduceIte, Bool.false_eq_true, wipeR, restR, ev_neI, hne, hi, decide_false, Bool.not_false, e, ih]
      rw [Nat.gcd_comm x y, Nat.gcd_rec y x, Nat.gcd_comm]
      exact ih
theorem w_divisor (x y : Nat) (h : y < 1000000) : g_divisor [.int x, .int y] = .ok (.int (Nat.gcd x y)) := by
  simp -implicitDefEqProofs only [g_divisor, b_divisor, ev_foc, ev_fo0, ev_app, ev_enm, ev_rs, ev_lc', ev_g0, ev_gc, ev_y, big, ev_bnd, ev_ret, ev_lfS, ev_lfN, ev_stk, ev_vr, ev_vrT, ev_mT, ev_cF, ev_cO, ev_cB, ev_dd, ev_ds, ev_d0, ev_dc, ev_opr, ev_unr, ev_nl, ev_cns, ev_cbr, ev_ab, ev_ai, ev_tst', ev_an, ev_orr, ev_nt, ev_anV, ev_orV', ev_ntV, ev_ifm, ev_ch, ev_tp, ev_ls, ev_cl, ev_cl0, ev_isr, ev_sqI, ev_sqL, ev_sqT, ev_sb, ev_ss, ev_sn, ev_sa, ev_so, ev_sr, ev_sdr, ev_si, ev_sp, ev_p0, ev_pF, ev_pT, ev_sf, ev_hn, ev_ht, ev_hc, ev_h0, ev_cal, ev_f1, ev_f2, ev_f3, ev_f4, ev_cmp, ev_add, ev_sub, ev_mod, ev_fdv, ev_isn, ev_n1, ev_n2, ev_n3, ev_n4, ev_ixL, ev_ixT, ev_a0, ev_a1, ev_a2, ev_lL, ev_lT, ev_tL, ev_tT, ev_liT, ev_abs, ev_mx, ev_mn, ev_mx3, ev_t1, ev_t2, ev_t3, noIN_n, noIN_b, noIN_i, noIN_s, noIN_l, noIN_t, ev_eqI, ev_neI, List.getElem?_cons_zero, List.getElem?_cons_succ, List.set_cons_zero, List.set_cons_succ, List.length_cons, List.length_nil, List.map_cons, List.map_nil, List.replicate_succ, List.replicate_zero, List.cons_append, List.nil_append, List.append_nil, Option.bind_some, Option.map_some, Nat.reduceAdd, Nat.reduceSub, Nat.reduceLT, Nat.reduceLeDiff, Nat.reduceEqDiff, if_true, if_false, reduceIte, Bool.false_eq_true, wipeR, restR, div_loop _ x y h]
theorem w_lowest (t b : Nat) (h0 : 0 < b) (h : b < 1000000) : g_lowest [.int t, .int b] = .ok (.tuple [.int (t / Nat.gcd t b : Nat), .int (b / Nat.gcd t b : Nat)]) := by
  have hg : 0 < Nat.gcd t b := Nat.gcd_pos_of_pos_right t h0
  have hg2 : Nat.gcd t b ≤ b := Nat.gcd_le_right t h0
  have hi : (0 : Int) < (Nat.gcd t b : Int) ∧ (Nat.gcd t b : Int).natAbs < 2 ^ 400 := by
    refine ⟨by omega, ?_⟩
    have : (Nat.gcd t b : Int).natAbs = Nat.gcd t b := by omega
    rw [this]
    exact Nat.lt_of_lt_of_le (Nat.lt_of_le_of_lt hg2 h) (by decide)
  have hn : ¬ ((t : Int) < 0) := by omega
  simp -implicitDefEqProofs only [g_lowest, b_lowest, ev_foc, ev_fo0, ev_app, ev_enm, ev_rs, ev_lc', ev_g0, ev_gc, ev_y, big, ev_bnd, ev_ret, ev_lfS, ev_lfN, ev_stk, ev_vr, ev_vrT, ev_mT, ev_cF, ev_cO, ev_cB, ev_dd, ev_ds, ev_d0, ev_dc, ev_opr, ev_unr, ev_nl, ev_cns, ev_cbr, ev_ab, ev_ai, ev_tst', ev_an, ev_orr, ev_nt, ev_anV, ev_orV', ev_ntV, ev_ifm, ev_ch, ev_tp, ev_ls, ev_cl, ev_cl0, ev_isr, ev_sqI, ev_sqL, ev_sqT, ev_sb, ev_ss, ev_sn, ev_sa, ev_so, ev_sr, ev_sdr, ev_si, ev_sp, ev_p0, ev_pF, ev_pT, ev_sf, ev_hn, ev_ht, ev_hc, ev_h0, ev_cal, ev_f1, ev_f2, ev_f3, ev_f4, ev_cmp, ev_add, ev_sub, ev_mod, ev_fdv, ev_isn, ev_n1, ev_n2, ev_n3, ev_n4, ev_ixL, ev_ixT, ev_a0, ev_a1, ev_a2, ev_lL, ev_lT, ev_tL, ev_tT, ev_liT, ev_abs, ev_mx, ev_mn, ev_mx3, ev_t1, ev_t2, ev_t3, noIN_n, noIN_b, noIN_i, noIN_s, noIN_l, noIN_t, ev_eqI, ev_neI, List.getElem?_cons_zero, List.getElem?_cons_succ, List.set_cons_zero, List.set_cons_succ, List.length_cons, List.length_nil, List.map_cons, List.map_nil, List.replicate_succ, List.replicate_zero, List.cons_append, List.nil_append, List.append_nil, Option.bind_some, Option.map_some, Nat.reduceAdd, Nat.reduceSub, Nat.reduceLT, Nat.reduceLeDiff, Nat.reduceEqDiff, if_true, if_false, reduceIte, Bool.false_eq_true, wipeR, restR, hn, w_divisor t b h, hi, and_self, Int.natCast_ediv]
def lowF (t b : Nat) : Fr := (((t / Nat.gcd t b : Nat) : Int), ((b / Nat.gcd t b : Nat) : Int))
theorem w_ratio {rows : Rows} {w : Way} (hw : WayOk rows w) (hl : w.length ≤ 1000) (h0 : 0 < bkW rows w) (h : bkW rows w < 1000000) : g_ratio [rowsD rows, ringT w] = .ok (encF (lowF (dlW rows w) (bkW rows w))) := by
  have e := w_lowest (dlW rows w) (bkW rows w) h0 h
  unfold g_ratio
  rw [call2 (m := 2)]
  unfold b_ratio
  exact fin_rt (seq_to (asg_ok (call_ok rfl (w_measure hw hl)) rfl) (ret_ok (call_ok rfl e)))
end Rn
end
section
set_option Elab.async false
set_option linter.all false
set_option maxRecDepth 100000
set_option maxHeartbeats 4000000
namespace Rn
open PySem PySem.Spec L2
theorem pre_list {α : Type} {f : α → D} {P : α → Prop} : ∀ {l : List D}, (∀ d ∈ l, ∃ w, P w ∧ f w = d) → ∃ ys : List α, l = ys.map f ∧ ∀ w ∈ ys, P w
  | [], _ => ⟨[], rfl, by simp⟩
  | d :: l, h => by
    obtain ⟨w, hw, e⟩ := h d (List.mem_cons_self ..)
    obtain ⟨ys, e2, h2⟩ := pre_list (l := l) fun x hx => h x (List.mem_cons_of_mem _ hx)
    refine ⟨w :: ys, by rw [List.map_cons, e, e2], fun x hx => ?_⟩
    rcases List.mem_cons.mp hx with z | z
    · rw [z]; exact hw
    · exact h2 x z
def frW (rows : Rows) (w : Way) : Fr := lowF (dlW rows w) (bkW rows w)
/-- the rings of a good net, as ways -/
theorem NetOk.ways {n : Net} (h : NetOk n) : ∃ ws : List Way, RG n.2.1 = ws.map ringT ∧ (∀ w ∈ ws, RingOk n.2.1 w) ∧ ws.length ≤ 100000 := by
  obtain ⟨ok, hs⟩ := h.rows
  obtain ⟨ws, e, hw⟩ := pre_list (f := ringT) (P := RingOk n.2.1) (l := RG n.2.1) fun d hd => by
    have := (isort_perm ((allW n.2.1 n.2.1.length).map ringT)).mem_iff.mp hd
    obtain ⟨w, hw, e⟩ := List.mem_map.mp this
    exact ⟨w, h.ring w hw, e⟩
  refine ⟨ws, e, hw, ?_⟩
  have h1 : ws.length = (RG n.2.1).length := by rw [e, List.length_map]
  have h2 : (RG n.2.1).length = (allW n.2.1 n.2.1.length).length := by
    unfold RG
    rw [(isort_perm _).length_eq, List.length_map]
  have h3 := allW_len ok n.2.1.length
  have h5 := h.r5
  have hb : bnd' 4 n.2.1.length ≤ 1365 := by
    generalize n.2.1.length = l at h5
    match l, h5 with
    | 0, _ => decide
    | 1, _ => decide
    | 2, _ => decide
    | 3, _ => decide
    | 4, _ => decide
    | 5, _ => decide
  have : n.2.1.length * (4 * bnd' 4 n.2.1.length) ≤ 5 * (4 * 1365) := Nat.mul_le_mul h5 (by omega)
  omega
theorem NetOk.w_rings_of {n : Net} (h : NetOk n) : g_rings_of [rowsD n.2.1] = .ok (.list (RG n.2.1)) := by
  obtain ⟨ok, hs⟩ := h.rows
  exact Rn.w_rings_of ok (by omega)
theorem fr_small {rows : Rows} {w : Way} (h : bkW rows w ≤ 18) : isSmall (frW rows w).2 = true := by
  obtain ⟨k, hk, hk2⟩ : ∃ k : Nat, (frW rows w).2 = (k : Int) ∧ k ≤ 18 := ⟨_, rfl, Nat.le_trans (Nat.div_le_self _ _) h⟩
  rw [hk]
  unfold isSmall
  rw [Bool.and_eq_true]
  exact ⟨decide_eq_true (by omega), decide_eq_true (by omega)⟩
theorem NetOk.w_ratio {n : Net} (h : NetOk n) {w : Way} (hw : RingOk n.2.1 w) : g_ratio [rowsD n.2.1, ringT w] = .ok (encF (frW n.2.1 w)) := by
  have h1 := h.sums hw
  have h2 := hw.len
  have h3 := hw.bk1
  have h5 := h.r5
  exact Rn.w_ratio hw.way (by omega) (by omega) (by omega)
theorem NetOk.w_slowest_of {n : Net} (h : NetOk n) {ws : List Way} (e : RG n.2.1 = ws.map ringT) (hw : ∀ w ∈ ws, RingOk n.2.1 w) (hl : ws.length ≤ 100000) : g_slowest_of [rowsD n.2.1] = .ok (encO ((ws.map (frW n.2.1)).foldl grt none)) := by
  have hr := h.w_rings_of
  rw [e] at hr
  have lc : mLc (mSeqI (mCall0 g_rings_of (mCons (mVar 0) (mNil)))) (hName 1) (mYes) (e0_slowest_of) [1] [.fz (rowsD n.2.1), .no] = .ok (.list ((ws.map (frW n.2.1)).map encF)) [.fz (rowsD n.2.1), .no] := by
    rw [List.map_map]
    exact mlc_map0 ws ringT _ (seqL_ok (call_ok rfl hr)) (by simp only [big]; omega) rfl (fun w hw' => ⟨_, rfl, call_ok rfl (h.w_ratio (hw w hw')), rfl⟩)
  have g := w_greatest (ws.map (frW n.2.1)) (fun f hf => by
    obtain ⟨w, hw', rfl⟩ := List.mem_map.mp hf
    exact fr_small (h.sums (hw w hw')).2)
  unfold g_slowest_of
  rw [call1 (m := 1)]
  exact fin_rt (ret_ok (call_ok (cons_ok lc rfl) g))
end Rn
end
section
set_option Elab.async false
set_option linter.all false
set_option maxRecDepth 100000
set_option maxHeartbeats 4000000
namespace Rn
open PySem PySem.Spec L2
theorem grt_some (fs : List Fr) : ∀ (g : Fr), ∃ m, fs.foldl grt (some g) = some m := by
  induction fs with
  | nil => exact fun g => ⟨g, rfl⟩
  | cons f fs ih =>
    intro g
    rw [List.foldl_cons]
    show ∃ m, fs.foldl grt (if g.1 * f.2 < f.1 * g.2 then some f else some g) = some m
    split
    · exact ih f
    · exact ih g
theorem fr_trans {x y z : Fr} (hy : 0 < y.2) (hx : 0 < x.2) (hz : 0 < z.2) (h1 : x.1 * y.2 ≤ y.1 * x.2) (h2 : y.1 * z.2 ≤ z.1 * y.2) : x.1 * z.2 ≤ z.1 * x.2 := by
  have a : (x.1 * y.2) * z.2 ≤ (y.1 * x.2) * z.2 := Int.mul_le_mul_of_nonneg_right h1 (Int.le_of_lt hz)
  have b : (y.1 * z.2) * x.2 ≤ (z.1 * y.2) * x.2 := Int.mul_le_mul_of_nonneg_right h2 (Int.le_of_lt hx)
  have e : (x.1 * z.2) * y.2 ≤ (z.1 * x.2) * y.2 := by
    calc (x.1 * z.2) * y.2 = (x.1 * y.2) * z.2 := by rw [Int.mul_assoc, Int.mul_comm z.2, ← Int.mul_assoc]
      _ ≤ (y.1 * x.2) * z.2 := a
      _ = (y.1 * z.2) * x.2 := by rw [Int.mul_assoc, Int.mul_comm x.2, ← Int.mul_assoc]
      _ ≤ (z.1 * y.2) * x.2 := b
      _ = (z.1 * x.2) * y.2 := by rw [Int.mul_assoc, Int.mul_comm y.2, ← Int.mul_assoc]
  exact Int.le_of_mul_le_mul_right e hy
theorem grt_spec : ∀ (fs : List Fr) (g m : Fr), 0 < g.2 → (∀ f ∈ fs, 0 < f.2) → fs.foldl grt (some g) = some m → (m = g ∨ m ∈ fs) ∧ g.1 * m.2 ≤ m.1 * g.2 ∧ ∀ f ∈ fs, f.1 * m.2 ≤ m.1 * f.2
  | [], g, m, _, _, e => by cases e; exact ⟨.inl rfl, Int.le_refl _, by simp⟩
  | f :: fs, g, m, hg, hf, e => by
    have hf0 := hf f (List.mem_cons_self ..)
    have hf1 : ∀ x ∈ fs, 0 < x.2 := fun x hx => hf x (List.mem_cons_of_mem _ hx)
    rw [List.foldl_cons] at e
    change fs.foldl grt (if g.1 * f.2 < f.1 * g.2 then some f else some g) = some m at e
    split at e
    · next hlt =>
      obtain ⟨h1, h2, h3⟩ := grt_spec fs f m hf0 hf1 e
      have hm : 0 < m.2 := by
        rcases h1 with h1 | h1
        · rw [h1]; exact hf0
        · exact hf1 m h1
      refine ⟨.inr ?_, fr_trans hf0 hg hm (Int.le_of_lt hlt) h2, fun x hx => ?_⟩
      · rcases h1 with h1 | h1
        · rw [h1]; exact List.mem_cons_self ..
        · exact List.mem_cons_of_mem _ h1
      · rcases List.mem_cons.mp hx with rfl | hx
        · exact h2
        · exact h3 x hx
    · next hlt =>
      obtain ⟨h1, h2, h3⟩ := grt_spec fs g m hg hf1 e
      have hm : 0 < m.2 := by
        rcases h1 with h1 | h1
        · rw [h1]; exact hg
        · exact hf1 m h1
      refine ⟨?_, h2, fun x hx => ?_⟩
      · rcases h1 with h1 | h1
        · exact .inl h1
        · exact .inr (List.mem_cons_of_mem _ h1)
      · rcases List.mem_cons.mp hx with rfl | hx
        · exact fr_trans hg hf0 hm (Int.not_lt.mp hlt) h2
        · exact h3 x hx
end Rn
end
section
set_option Elab.async false
set_option linter.all false
set_option maxRecDepth 100000
set_option maxHeartbeats 4000000
namespace Rn
open PySem PySem.Spec L2
/-- an edge: from, to, delay, back -/
abbrev Ed := Nat × Nat × Nat × Nat
def EdOk (rows : Rows) (d : Ed) : Prop := d.2.1 < rows.length ∧ d.1 < rows.length ∧ ∃ a ∈ rows.getD d.2.1 [], evOf a.1 = some d.1 ∧ a.2.1 = d.2.2.1 ∧ a.2.2 = d.2.2.2
def IsPath (rows : Rows) : Nat → List Ed → Nat → Prop
  | u, [], v => u = v
  | u, d :: l, v => d.1 = u ∧ EdOk rows d ∧ IsPath rows d.2.1 l v
def lenP (l : List Ed) : Nat := (l.map fun d => d.2.2.2).sum
def wtP (l : List Ed) : Nat := (l.map fun d => d.2.2.1).sum
theorem lenP_app (l m : List Ed) : lenP (l ++ m) = lenP l + lenP m := by simp [lenP]
theorem wtP_app (l m : List Ed) : wtP (l ++ m) = wtP l + wtP m := by simp [wtP]
theorem path_app {rows : Rows} : ∀ {l m : List Ed} {u v : Nat}, IsPath rows u (l ++ m) v ↔ ∃ w, IsPath rows u l w ∧ IsPath rows w m v
  | [], m, u, v => by
    constructor
    · intro h; exact ⟨u, rfl, h⟩
    · rintro ⟨w, h1, h2⟩; cases h1; exact h2
  | d :: l, m, u, v => by
    constructor
    · rintro ⟨h1, h2, h3⟩
      obtain ⟨w, h4, h5⟩ := path_app.mp h3
      exact ⟨w, ⟨h1, h2, h4⟩, h5⟩
    · rintro ⟨w, ⟨h1, h2, h3⟩, h4⟩
      exact ⟨h1, h2, path_app.mpr ⟨w, h3, h4⟩⟩
theorem path_ok {rows : Rows} : ∀ {l : List Ed} {u v : Nat}, IsPath rows u l v → ∀ d ∈ l, EdOk rows d
  | [], _, _, _, d, h => by simp at h
  | e :: l, _, _, ⟨_, h2, h3⟩, d, h => by
    rcases List.mem_cons.mp h with rfl | h
    · exact h2
    · exact path_ok h3 d h
def initF (gv : Gs) (ext : Xs) (rows : Rows) (e m : Nat) : Tim := foldA (term (fun _ _ => none) gv m) (rows.getD e []) (ext e m)
/-- a walk: a beginning, and a path from it -/
def WalkP (rows : Rows) (ini : Xs) (e n w : Nat) (e0 : Nat) (l : List Ed) : Prop := ∃ m0 v0 : Nat, e0 < rows.length ∧ ini e0 m0 = some (v0 : Int) ∧ IsPath rows e0 l e ∧ n = m0 + lenP l ∧ w = v0 + wtP l
def leT (a b : Tim) : Prop := match a, b with
  | none, _ => True
  | some _, none => False
  | some a, some b => a ≤ b
theorem mx_le {a b c : Tim} : leT (mx a b) c ↔ leT a c ∧ leT b c := by
  cases a <;> cases b <;> cases c <;> simp [mx, leT]
  rename_i a b c
  split <;> omega
theorem mx_is (a b : Tim) : mx a b = a ∨ mx a b = b := by
  cases a with
  | none => right; cases b <;> rfl
  | some a =>
    cases b with
    | none => left; rfl
    | some b =>
      show some (if a < b then b else a) = some a ∨ some (if a < b then b else a) = some b
      split
      · exact .inr rfl
      · exact .inl rfl
theorem leT_refl (a : Tim) : leT a a := by cases a <;> simp [leT]
theorem leT_trans {a b c : Tim} (h : leT a b) (g : leT b c) : leT a c := by
  cases a <;> cases b <;> cases c <;> simp [leT] at * <;> omega
theorem foldA_ge {f : Arc → Tim} : ∀ {r : List Arc} {t : Tim}, leT t (foldA f r t) ∧ ∀ a ∈ r, leT (f a) (foldA f r t)
  | [], t => ⟨leT_refl t, fun a h => by simp at h⟩
  | b :: r, t => by
    obtain ⟨h1, h2⟩ := foldA_ge (f := f) (r := r) (t := mx t (f b))
    obtain ⟨h3, h4⟩ := mx_le.mp h1
    refine ⟨h3, fun a ha => ?_⟩
    rcases List.mem_cons.mp ha with rfl | ha
    · exact h4
    · exact h2 a ha
theorem foldA_is {f : Arc → Tim} : ∀ {r : List Arc} {t : Tim}, foldA f r t = t ∨ ∃ a ∈ r, foldA f r t = f a
  | [], t => .inl rfl
  | b :: r, t => by
    rcases foldA_is (f := f) (r := r) (t := mx t (f b)) with h | ⟨a, ha, h⟩
    · rcases mx_is t (f b) with z | z
      · exact .inl (by show foldA f r (mx t (f b)) = t; rw [h, z])
      · exact .inr ⟨b, List.mem_cons_self .., by show foldA f r (mx t (f b)) = f b; rw [h, z]⟩
    · exact .inr ⟨a, List.mem_cons_of_mem _ ha, h⟩
theorem ini_le {rows : Rows} {gv : Gs} {ext x : Xs} (hx : IsRun rows gv ext x) {e m : Nat} (he : e < rows.length) : leT (initF gv ext rows e m) (x e m) := by
  rw [hx e m he]
  obtain ⟨g1, g2⟩ := foldA_ge (f := term x gv m) (r := rows.getD e []) (t := ext e m)
  unfold initF
  rcases foldA_is (f := term (fun _ _ => none) gv m) (r := rows.getD e []) (t := ext e m) with h | ⟨a, ha, h⟩
  · rw [h]; exact g1
  · rw [h]
    have := g2 a ha
    unfold term at this ⊢
    by_cases hb : a.2.2 ≤ m
    · rw [if_pos hb] at this ⊢
      cases hj : evOf a.1 with
      | none => simp only [hj] at this ⊢; exact this
      | some j => simp only; exact trivial
    · rw [if_neg hb]; exact trivial
theorem path_le {rows : Rows} {gv : Gs} {ext x : Xs} (hx : IsRun rows gv ext x) : ∀ (k : Nat) {l : List Ed} {u e m : Nat} {v : Int}, l.length = k → u < rows.length → leT (some v) (x u m) → IsPath rows u l e → leT (some (v + (wtP l : Int))) (x e (m + lenP l)) := by
  intro k
  induction k with
  | zero =>
    intro l u e m v hl hu hv hp
    have : l = [] := List.eq_nil_of_length_eq_zero hl
    subst this
    cases hp
    simpa [wtP, lenP] using hv
  | succ k ih =>
    intro l u e m v hl hu hv hp
    obtain ⟨l', d, rfl⟩ : ∃ l' d, l = l' ++ [d] := by
      rcases List.eq_nil_or_concat l with h | ⟨l', d, h⟩
      · subst h; simp at hl
      · exact ⟨l', d, by rw [h, List.concat_eq_append]⟩
    obtain ⟨j, p1, p2, p3, p4⟩ := path_app.mp hp
    cases p4
    obtain ⟨q1, q2, a, ha, q3, q4, q5⟩ := p3
    have hl' : l'.length = k := by simpa using hl
    have h1 := ih hl' hu hv p1
    rw [lenP_app, wtP_app]
    have e1 : lenP [d] = d.2.2.2 := by simp [lenP]
    have e2 : wtP [d] = d.2.2.1 := by simp [wtP]
    rw [e1, e2, hx d.2.1 _ q1]
    obtain ⟨_, g2⟩ := foldA_ge (f := term x gv (m + (lenP l' + d.2.2.2))) (r := rows.getD d.2.1 []) (t := ext d.2.1 (m + (lenP l' + d.2.2.2)))
    refine leT_trans ?_ (g2 a ha)
    unfold term
    rw [if_pos (by omega), q3]
    show leT _ (addT (x d.1 (m + (lenP l' + d.2.2.2) - a.2.2)) a.2.1)
    rw [show m + (lenP l' + d.2.2.2) - a.2.2 = m + lenP l' by omega, p2, q4]
    cases hxx : x j (m + lenP l') with
    | none => rw [hxx] at h1; exact h1.elim
    | some y =>
      rw [hxx] at h1
      have h1 : v + (wtP l' : Int) ≤ y := h1
      show v + ((wtP l' + d.2.2.1 : Nat) : Int) ≤ y + (d.2.2.1 : Int)
      omega
theorem walk_le {rows : Rows} {gv : Gs} {ext x : Xs} (hx : IsRun rows gv ext x) {e n w e0 : Nat} {l : List Ed} (h : WalkP rows (initF gv ext rows) e n w e0 l) : leT (some (w : Int)) (x e n) := by
  obtain ⟨m0, v0, h0, hi, hp, rfl, rfl⟩ := h
  have := ini_le hx (m := m0) h0
  rw [hi] at this
  have := path_le hx l.length rfl h0 this hp
  rw [show ((v0 + wtP l : Nat) : Int) = (v0 : Int) + (wtP l : Int) by omega]
  exact this
theorem run_walk {rows : Rows} {gv : Gs} {ext x : Xs} {rk : Nat → Nat} (hx : IsRun rows gv ext x) (hrk : RkOk rows rk) (hs : SrcOk rows) (hR : ∀ i, rk i ≤ 5) (hn : ∀ e m v, initF gv ext rows e m = some v → 0 ≤ v) : ∀ (N e n : Nat) (v : Int), 6 * n + rk e < N → e < rows.length → x e n = some v → ∃ (w e0 : Nat) (l : List Ed), v = w ∧ WalkP rows (initF gv ext rows) e n w e0 l := by
  intro N
  induction N with
  | zero => intro e n v h; omega
  | succ N ih =>
    intro e n v hN he hv
    have begin_ : initF gv ext rows e n = some v → ∃ (w e0 : Nat) (l : List Ed), v = w ∧ WalkP rows (initF gv ext rows) e n w e0 l := fun hi => by
      have h0 := hn e n v hi
      refine ⟨v.toNat, e, [], by omega, n, v.toNat, he, ?_, rfl, by simp [lenP], by simp [wtP]⟩
      rw [hi, Int.toNat_of_nonneg h0]
    have ge : ∀ {a}, a ∈ rows.getD e [] → evOf a.1 = none → term x gv n a = some v → initF gv ext rows e n = some v := fun {a} ha hj ht => by
      have i1 := ini_le hx (m := n) he
      rw [hv] at i1
      obtain ⟨_, g2⟩ := foldA_ge (f := term (fun _ _ => none) gv n) (r := rows.getD e []) (t := ext e n)
      have := g2 a ha
      have et : term (fun _ _ => none) gv n a = some v := by
        rw [← ht]
        unfold term
        simp only [hj]
      rw [et] at this
      unfold initF at i1 ⊢
      cases hq : foldA (term (fun _ _ => none) gv n) (rows.getD e []) (ext e n) with
      | none => rw [hq] at this; exact this.elim
      | some y =>
        rw [hq] at this i1
        have h1 : v ≤ y := this
        have h2 : y ≤ v := i1
        rw [show y = v by omega]
    rw [hx e n he] at hv
    rcases foldA_is (f := term x gv n) (r := rows.getD e []) (t := ext e n) with h | ⟨a, ha, h⟩
    · -- what holds beside
      rw [h] at hv
      have i1 := ini_le hx (m := n) he
      rw [hx e n he, h, hv] at i1
      obtain ⟨g1, _⟩ := foldA_ge (f := term (fun _ _ => none) gv n) (r := rows.getD e []) (t := ext e n)
      rw [hv] at g1
      refine begin_ ?_
      unfold initF at i1 ⊢
      rw [hv] at i1 ⊢
      cases hq : foldA (term (fun _ _ => none) gv n) (rows.getD e []) (some v) with
      | none => rw [hq] at g1; exact g1.elim
      | some y =>
        rw [hq] at g1 i1
        have h1 : v ≤ y := g1
        have h2 : y ≤ v := i1
        rw [show y = v by omega]
    · rw [h] at hv
      cases hj : evOf a.1 with
      | none =>
        have hv' : x e n = some v := by rw [hx e n he, h, hv]
        exact begin_ (by
          have := @ge a ha hj hv
          exact this)
      | some j =>
        obtain ⟨row, hr, ha'⟩ := getD_memR ha
        have hjl := hs row hr a ha' j hj
        unfold term at hv
        by_cases hb : a.2.2 ≤ n
        · rw [if_pos hb, hj] at hv
          have hv : addT (x j (n - a.2.2)) a.2.1 = some v := hv
          cases hxj : x j (n - a.2.2) with
          | none => rw [hxj] at hv; cases hv
          | some y =>
            rw [hxj] at hv
            have ey : y + (a.2.1 : Int) = v := Option.some.inj hv
            have hj5 := hR j
            have lt : 6 * (n - a.2.2) + rk j < 6 * n + rk e := by
              by_cases h0 : a.2.2 = 0
              · rw [h0, Nat.sub_zero]
                have := hrk e a ha h0 j hj
                omega
              · omega
            obtain ⟨w, e0, l, ew, m0, v0, k1, k2, k3, k4, k5⟩ := ih j (n - a.2.2) y (by omega) hjl hxj
            refine ⟨w + a.2.1, e0, l ++ [(j, e, a.2.1, a.2.2)], by omega, m0, v0, k1, k2, path_app.mpr ⟨j, k3, rfl, ⟨he, hjl, a, ha, hj, rfl, rfl⟩, rfl⟩, ?_, ?_⟩
            · rw [lenP_app]
              have : lenP [(j, e, a.2.1, a.2.2)] = a.2.2 := by simp [lenP]
              omega
            · rw [wtP_app]
              have : wtP [(j, e, a.2.1, a.2.2)] = a.2.1 := by simp [wtP]
              omega
        · rw [if_neg hb] at hv; cases hv
end Rn
end
section
set_option Elab.async false
set_option linter.all false
set_option maxRecDepth 100000
set_option maxHeartbeats 4000000
namespace Rn
open PySem PySem.Spec L2
theorem dup_ex {l : List Nat} (h : ¬ l.Nodup) : ∃ (i j : Nat) (x : Nat), i < j ∧ j < l.length ∧ l[i]? = some x ∧ l[j]? = some x := by
  apply Classical.byContradiction
  intro hn
  refine h (List.pairwise_iff_getElem.mpr fun i j hi hj hij e => hn ⟨i, j, l[i], hij, hj, List.getElem?_eq_getElem hi, ?_⟩)
  rw [List.getElem?_eq_getElem hj, e]
theorem path_at {rows : Rows} : ∀ {l : List Ed} {u v : Nat}, IsPath rows u l v → ∀ i, i ≤ l.length → ∃ w, (u :: l.map fun d => d.2.1)[i]? = some w ∧ IsPath rows u (l.take i) w ∧ IsPath rows w (l.drop i) v
  | l, u, v, h, 0, _ => ⟨u, rfl, rfl, h⟩
  | [], u, v, h, i + 1, hi => by simp at hi
  | d :: l, u, v, ⟨h1, h2, h3⟩, i + 1, hi => by
    obtain ⟨w, e1, e2, e3⟩ := path_at h3 i (by simpa using hi)
    exact ⟨w, by simpa using e1, ⟨h1, h2, e2⟩, e3⟩
theorem cut3 {α : Type} (l : List α) {i j : Nat} (hij : i ≤ j) : l = l.take i ++ (l.take j).drop i ++ l.drop j := by
  have h1 : l.take i = (l.take j).take i := by rw [List.take_take, Nat.min_eq_left hij]
  rw [h1, List.take_append_drop, List.take_append_drop]
/-- two places of a path alike: a closed piece between them -/
theorem path_cut {rows : Rows} {l : List Ed} {u v : Nat} (h : IsPath rows u l v) {i j x : Nat} (hij : i < j) (hj : j ≤ l.length) (e1 : (u :: l.map fun d => d.2.1)[i]? = some x) (e2 : (u :: l.map fun d => d.2.1)[j]? = some x) :
    IsPath rows u (l.take i) x ∧ IsPath rows x ((l.take j).drop i) x ∧ IsPath rows x (l.drop j) v := by
  obtain ⟨w, a1, a2, a3⟩ := path_at h i (by omega)
  obtain ⟨w', b1, b2, b3⟩ := path_at h j hj
  rw [e1] at a1; cases a1
  rw [e2] at b1; cases b1
  refine ⟨a2, ?_, b3⟩
  have : l.take j = l.take i ++ (l.take j).drop i := by
    have h1 : l.take i = (l.take j).take i := by rw [List.take_take, Nat.min_eq_left (by omega)]
    rw [h1, List.take_append_drop]
  rw [this] at b2
  obtain ⟨y, c1, c2⟩ := path_app.mp b2
  have same : ∀ {l : List Ed} {a b c : Nat}, IsPath rows a l b → IsPath rows a l c → b = c := by
    intro l
    induction l with
    | nil => intro a b c h1 h2; exact h1.symm.trans h2
    | cons d l ih => intro a b c h1 h2; exact ih h1.2.2 h2.2.2
  rw [same a2 c1]
  have := same a2 c1
  subst this
  exact c2
def SimpR (rows : Rows) (m : Nat) (c : List Ed) : Prop := IsPath rows m c m ∧ c ≠ [] ∧ (c.map fun d => d.2.1).Nodup
theorem end_mem {rows : Rows} : ∀ {c : List Ed} {u v : Nat}, IsPath rows u c v → c ≠ [] → v ∈ c.map fun d => d.2.1
  | [], _, _, _, h => absurd rfl h
  | [d], u, v, ⟨_, _, h⟩, _ => by cases h; simp
  | d :: e :: l, u, v, ⟨_, _, h⟩, _ => List.mem_cons_of_mem _ (end_mem h (by simp))
/-- what holds of all simple rings holds of closed paths -/
theorem cyc_le {rows : Rows} {P : Nat → Prop} {D ℓ : Nat} (H : ∀ m r, SimpR rows m r → P m → wtP r * ℓ ≤ D * lenP r) : ∀ (k : Nat) (c : List Ed) (m : Nat), c.length ≤ k → IsPath rows m c m → (∀ d ∈ c, P d.2.1) → wtP c * ℓ ≤ D * lenP c := by
  intro k
  induction k with
  | zero =>
    intro c m hk _ _
    have : c = [] := List.eq_nil_of_length_eq_zero (by omega)
    subst this
    simp [wtP, lenP]
  | succ k ih =>
    intro c m hk hp hP
    by_cases hc : c = []
    · subst hc; simp [wtP, lenP]
    by_cases nd : (c.map fun d => d.2.1).Nodup
    · obtain ⟨d, hd, e⟩ := List.mem_map.mp (end_mem hp hc)
      exact H m c ⟨hp, hc, nd⟩ (e ▸ hP d hd)
    · obtain ⟨i, j, x, hij, hj, e1, e2⟩ := dup_ex nd
      rw [List.length_map] at hj
      obtain ⟨a1, a2, a3⟩ := path_cut hp (i := i + 1) (j := j + 1) (x := x) (by omega) (by omega) (by rw [List.getElem?_cons_succ]; exact e1) (by rw [List.getElem?_cons_succ]; exact e2)
      have ec := cut3 c (i := i + 1) (j := j + 1) (by omega)
      have l1 : (c.take (i + 1)).length = i + 1 := by simp; omega
      have l2 : ((c.take (j + 1)).drop (i + 1)).length = j - i := by simp; omega
      have l3 : (c.drop (j + 1)).length = c.length - (j + 1) := by simp
      have q1 := ih ((c.take (j + 1)).drop (i + 1)) x (by omega) a2 (fun d hd => hP d (List.mem_of_mem_take (List.mem_of_mem_drop hd)))
      have q2 := ih (c.take (i + 1) ++ c.drop (j + 1)) m (by rw [List.length_append]; omega) (path_app.mpr ⟨x, a1, a3⟩) (fun d hd => by
        rcases List.mem_append.mp hd with hd | hd
        · exact hP d (List.mem_of_mem_take hd)
        · exact hP d (List.mem_of_mem_drop hd))
      rw [ec]
      generalize c.take (i + 1) = A at *
      generalize (c.take (j + 1)).drop (i + 1) = B at *
      generalize c.drop (j + 1) = C at *
      rw [wtP_app, wtP_app, lenP_app, lenP_app]
      rw [wtP_app, lenP_app] at q2
      have s1 : (wtP A + wtP B + wtP C) * ℓ = wtP B * ℓ + (wtP A + wtP C) * ℓ := by rw [← Nat.add_mul]; congr 1; omega
      have s2 : D * (lenP A + lenP B + lenP C) = D * lenP B + D * (lenP A + lenP C) := by rw [← Nat.mul_add]; congr 1; omega
      omega
end Rn
end
section
set_option Elab.async false
set_option linter.all false
set_option maxRecDepth 100000
set_option maxHeartbeats 4000000
namespace Rn
open PySem PySem.Spec L2
/-- a path passes its places -/
theorem path_via {rows : Rows} {l : List Ed} {u v x : Nat} (h : IsPath rows u l v) (hx : x ∈ u :: l.map fun d => d.2.1) : ∃ l1 l2, l = l1 ++ l2 ∧ IsPath rows u l1 x ∧ IsPath rows x l2 v := by
  obtain ⟨i, hi, e⟩ := List.mem_iff_getElem.mp hx
  have hi' : i ≤ l.length := by simp at hi; omega
  obtain ⟨w, a1, a2, a3⟩ := path_at h i hi'
  rw [List.getElem?_eq_getElem hi, e] at a1
  cases a1
  exact ⟨l.take i, l.drop i, (List.take_append_drop i l).symm, a2, a3⟩
theorem simp_few {rows : Rows} {m : Nat} {r : List Ed} (h : SimpR rows m r) : r.length ≤ rows.length := by
  have := nodup_le h.2.2 (m := List.range rows.length) fun y hy => by
    obtain ⟨d, hd, rfl⟩ := List.mem_map.mp hy
    exact List.mem_range.mpr (path_ok h.1 d hd).1
  simpa using this
section
variable {rows : Rows} {ini x : Xs} {rk : Nat → Nat} {c : Nat}
/-- the frame: a run by its walks; few events, small arcs, small beginnings; a step that all rings divide -/
structure FrW (rows : Rows) (ini x : Xs) (rk : Nat → Nat) (c : Nat) : Prop where
  n5 : rows.length ≤ 5
  rkk : RkOk rows rk
  d9 : ∀ d, EdOk rows d → d.2.2.1 ≤ 9
  b3 : ∀ d, EdOk rows d → d.2.2.2 ≤ 3
  i3 : ∀ e m v, ini e m = some v → m ≤ 3 ∧ v ≤ 9
  le : ∀ {e n w e0 : Nat} {l : List Ed}, WalkP rows ini e n w e0 l → leT (some (w : Int)) (x e n)
  ex : ∀ {e n : Nat} {v : Int}, e < rows.length → x e n = some v → ∃ (w e0 : Nat) (l : List Ed), v = w ∧ WalkP rows ini e n w e0 l
  c1 : 0 < c
  dv : ∀ m r, SimpR rows m r → lenP r ∣ c
def key (r : List Ed) : Nat := wtP r * (360360 / lenP r)
end
end Rn
end
section
set_option Elab.async false
set_option linter.all false
set_option maxRecDepth 100000
set_option maxHeartbeats 4000000
namespace Rn
open PySem PySem.Spec L2
theorem zip_at {r : List Arc} {a : Arc} (h : a ∈ r) : ∃ p, (a, p) ∈ r.zipIdx := by
  obtain ⟨i, hi, e⟩ := List.mem_iff_getElem.mp h
  exact ⟨i, by rw [List.mem_zipIdx_iff_getElem?]; rw [List.getElem?_eq_getElem hi, e]⟩
theorem least_mem : ∀ {l : List Nat}, l ≠ [] → ∃ x ∈ l, ∀ y ∈ l, x ≤ y
  | [], h => absurd rfl h
  | [a], _ => ⟨a, by simp, fun y hy => by simp at hy; omega⟩
  | a :: b :: l, _ => by
    obtain ⟨x, hx, hm⟩ := least_mem (l := b :: l) (by simp)
    by_cases h : a ≤ x
    · exact ⟨a, List.mem_cons_self .., fun y hy => by
        rcases List.mem_cons.mp hy with rfl | hy
        · exact Nat.le_refl _
        · exact Nat.le_trans h (hm y hy)⟩
    · exact ⟨x, List.mem_cons_of_mem _ hx, fun y hy => by
        rcases List.mem_cons.mp hy with rfl | hy
        · omega
        · exact hm y hy⟩
end Rn
end
section
set_option Elab.async false
set_option linter.all false
set_option maxRecDepth 100000
set_option maxHeartbeats 4000000
namespace Rn
open PySem PySem.Spec L2
structure ImpOk (gv : Gs) (ext : Xs) : Prop where
  g : ∀ s m v, gv s m = some v → m = 0 ∧ v = 0
  x : ∀ e m v, ext e m = some v → m = 0 ∧ v = 0
theorem NetOk.ini {n : Net} (h : NetOk n) {gv : Gs} {ext : Xs} (hi : ImpOk gv ext) {e m : Nat} {v : Int} (hv : initF gv ext n.2.1 e m = some v) : m ≤ 3 ∧ v ≤ 9 ∧ 0 ≤ v := by
  unfold initF at hv
  rcases foldA_is (f := term (fun _ _ => none) gv m) (r := n.2.1.getD e []) (t := ext e m) with z | ⟨a, ha, z⟩
  · rw [z] at hv
    have := hi.x e m v hv
    omega
  · rw [z] at hv
    obtain ⟨row, hr, ha'⟩ := getD_memR ha
    have harc := h.arc row hr a ha'
    unfold term at hv
    by_cases hb : a.2.2 ≤ m
    · rw [if_pos hb] at hv
      cases hj : evOf a.1 with
      | some j => rw [hj] at hv; cases hv
      | none =>
        rw [hj] at hv
        have hv : addT (gv a.1 (m - a.2.2)) a.2.1 = some v := hv
        cases hg : gv a.1 (m - a.2.2) with
        | none => rw [hg] at hv; cases hv
        | some y =>
          rw [hg] at hv
          have := hi.g _ _ _ hg
          have hy : y + (a.2.1 : Int) = v := Option.some.inj hv
          omega
    · rw [if_neg hb] at hv; cases hv
theorem NetOk.fr {n : Net} (h : NetOk n) {gv : Gs} {ext : Xs} (hi : ImpOk gv ext) {c : Nat} (hc : 0 < c) (hd : ∀ m r, SimpR n.2.1 m r → lenP r ∣ c) : ∃ rk, FrW n.2.1 (initF gv ext n.2.1) (runX n.2.1 gv ext) rk c := by
  obtain ⟨rk, k1, k2, k3⟩ := h.rk
  have ed : ∀ d, EdOk n.2.1 d → d.2.2.1 ≤ 9 ∧ d.2.2.2 ≤ 3 := fun d ⟨_, _, a, ha, _, h1, h2⟩ => by
    obtain ⟨row, hr, ha'⟩ := getD_memR ha
    have := h.arc row hr a ha'
    omega
  exact ⟨rk, ⟨h.r5, k1, fun d hd => (ed d hd).1, fun d hd => (ed d hd).2, fun e m v hv => ⟨(h.ini hi hv).1, (h.ini hi hv).2.1⟩, fun hw => walk_le (h.run gv ext) hw, fun {e n' v} he hx => run_walk (h.run gv ext) k1 h.src k2 (fun e m v hv => (h.ini hi hv).2.2) (6 * n' + rk e + 1) e n' v (by omega) he hx, hc, hd⟩⟩
end Rn
end
section
set_option Elab.async false
set_option linter.all false
set_option autoImplicit false
set_option maxRecDepth 100000
namespace Rn
abbrev Tm := Option Int
def rise (a b : Tm) : Option Tm := match a, b with
  | none, none => some none
  | some x, some y => some (some (y - x))
  | _, _ => none
/-- the row goes on evenly at n by the step c -/
def gd (r : Nat → Tm) (c n : Nat) : Prop := rise (r n) (r (n + c)) ≠ none ∧ rise (r n) (r (n + c)) = rise (r (n + c)) (r (n + 2 * c))
instance (r : Nat → Tm) (c n : Nat) : Decidable (gd r c n) := by unfold gd; exact inferInstance
def Per (r : Nat → Tm) (b c : Nat) : Prop := ∀ n, b ≤ n → gd r c n
theorem Per.mono {r : Nat → Tm} {b b' c : Nat} (h : Per r b c) (hb : b ≤ b') : Per r b' c := fun n hn => h n (Nat.le_trans hb hn)
end Rn
end
section
set_option Elab.async false
set_option linter.all false
set_option maxRecDepth 100000
set_option maxHeartbeats 4000000
namespace Rn
open PySem PySem.Spec L2
def whole (d : D) (lo hi : Int) : Bool := match d with
  | .int v => decide (lo ≤ v) && decide (v ≤ hi)
  | _ => false
theorem isT (d : D) : isF true d .none = some (.bool (!isNoneD d)) := by cases d <;> rfl
theorem small_n {n : Nat} (h : n < 1000000000000000000) : isSmall (n : Int) = true := by
  unfold isSmall
  rw [Bool.and_eq_true, decide_eq_true_eq, decide_eq_true_eq]
  omega
theorem mul_nat (a b : Nat) (h : a < 1000000000000) : mulF (.int a) (.int b) = some (.int ((a * b : Nat) : Int)) := by
  rw [ev_mul _ _ (by rw [small_n (by omega)]; rfl)]
  simp
end Rn
end
section
set_option Elab.async false
set_option linter.all false
set_option maxRecDepth 100000
set_option maxHeartbeats 4000000
namespace Rn
open PySem PySem.Spec L2
theorem cut_to (ds : List D) {i : Int} {n : Nat} (e : i = n) (h : n ≤ ds.length) : cutD ds none (some i) = ds.take n := by
  subst e
  unfold cutD
  rw [HT.sIx_nat, HT.sIx_none, Nat.min_eq_left h]
  simp
end Rn
end
section
set_option Elab.async false
set_option linter.all false
set_option maxRecDepth 100000
set_option maxHeartbeats 4000000
namespace Rn
open PySem PySem.Spec L2
theorem allOf_map {α : Type} (p : α → Bool) : ∀ xs : List α, allOf asBool (xs.map fun x => PyData.bool (p x)) = some (xs.map p)
  | [] => rfl
  | x :: xs => by
    have ih := allOf_map p xs
    simp only [List.map_cons]
    unfold allOf
    rw [ih]
    rfl
theorem allF_map {α : Type} (p : α → Bool) (xs : List α) : allF [.list (xs.map fun x => PyData.bool (p x))] = some (.bool (xs.all p)) := by
  unfold allF
  simp only [allOf_map, Option.map_some]
  congr 2
  induction xs with
  | nil => rfl
  | cons x xs ih => simp [ih]
theorem anyF_map {α : Type} (p : α → Bool) (xs : List α) : anyF [.list (xs.map fun x => PyData.bool (p x))] = some (.bool (xs.any p)) := by
  unfold anyF
  simp only [allOf_map, Option.map_some]
  congr 2
  induction xs with
  | nil => rfl
  | cons x xs ih => simp [ih]
end Rn
end
section
set_option Elab.async false
set_option linter.all false
set_option maxRecDepth 100000
set_option maxHeartbeats 4000000
namespace Rn
open PySem PySem.Spec L2
theorem evs_or (s : Src) : evOf s = none ∨ ∃ j, evOf s = some j := by
  cases evOf s with
  | none => exact .inl rfl
  | some j => exact .inr ⟨j, rfl⟩
theorem NetOk.lt {n : Net} (h : NetOk n) {rk : Nat → Nat} (k1 : RkOk n.2.1 rk) (k2 : ∀ i, rk i ≤ 5) {e j m : Nat} {a : Arc} (ha : a ∈ n.2.1.getD e []) (hj : evOf a.1 = some j) (hb : a.2.2 ≤ m) : 6 * (m - a.2.2) + rk j < 6 * m + rk e := by
  have hj5 := k2 j
  by_cases h0 : a.2.2 = 0
  · rw [h0, Nat.sub_zero]
    have := k1 e a ha h0 j hj
    omega
  · omega
end Rn
end
section
set_option Elab.async false
set_option linter.all false
set_option maxRecDepth 100000
set_option maxHeartbeats 4000000
namespace Rn
open PySem PySem.Spec L2
local macro_rules
  | `(tactic| array_get_dec) => `(tactic| focus first
    | (with_reducible assumption)
    | ((with_reducible apply mT_ok); all_goals array_get_dec)
    | ((with_reducible apply op_ok); all_goals array_get_dec)
    | ((with_reducible apply cons_ok); all_goals array_get_dec)
    | ((with_reducible apply call_ok); all_goals array_get_dec)
    | ((with_reducible apply callX_ok); all_goals array_get_dec)
    | ((with_reducible apply callX_ex); all_goals array_get_dec)
    | ((with_reducible apply callB_ok); all_goals array_get_dec)
    | ((with_reducible apply tst_ok); all_goals array_get_dec)
    | ((with_reducible apply cb_ok); all_goals array_get_dec)
    | ((with_reducible apply un_ok); all_goals array_get_dec)
    | ((with_reducible apply slc_ok); all_goals array_get_dec)
    | ((with_reducible apply part_ok); all_goals array_get_dec)
    | ((with_reducible apply not_ok); all_goals array_get_dec)
    | ((with_reducible apply notV_ok); all_goals array_get_dec)
    | ((with_reducible apply seqT_ok); all_goals array_get_dec)
    | ((with_reducible apply seqL_ok); all_goals array_get_dec)
    | ((with_reducible apply dget_ok); all_goals array_get_dec)
    | ((with_reducible apply chain_b); all_goals array_get_dec)
    | ((with_reducible apply callF_ok); all_goals array_get_dec)
    | ((with_reducible apply isi_ok); (focus array_get_dec); (focus array_get_dec); (first | exact rfl | with_reducible assumption))
    | ((with_reducible apply tup_ok); (focus array_get_dec); (first | exact (by decide) | simp))
    | ((with_reducible apply lst_ok); (focus array_get_dec); (first | exact (by decide) | simp))
    | ((with_reducible apply if_T); (focus array_get_dec); (focus first | exact rfl | with_reducible assumption); (focus array_get_dec))
    | ((with_reducible apply if_F); (focus array_get_dec); (focus first | exact rfl | with_reducible assumption); (focus array_get_dec))
    | ((with_reducible apply and_T); (focus array_get_dec); (focus first | exact rfl | with_reducible assumption); (focus array_get_dec))
    | ((with_reducible apply or_F); (focus array_get_dec); (focus first | exact rfl | with_reducible assumption); (focus array_get_dec))
    | ((with_reducible apply andV_T); (focus array_get_dec); (focus first | exact rfl | with_reducible assumption); (focus array_get_dec))
    | ((with_reducible apply orV_F); (focus array_get_dec); (focus first | exact rfl | with_reducible assumption); (focus array_get_dec))
    | ((with_reducible apply and_F); (focus array_get_dec); (focus first | exact rfl | with_reducible assumption))
    | ((with_reducible apply or_T); (focus array_get_dec); (focus first | exact rfl | with_reducible assumption))
    | ((with_reducible apply andV_F); (focus array_get_dec); (focus first | exact rfl | with_reducible assumption))
    | ((with_reducible apply orV_T); (focus array_get_dec); (focus first | exact rfl | with_reducible assumption))
    | ((with_reducible apply and_b); all_goals array_get_dec)
    | ((with_reducible apply or_b); all_goals array_get_dec)
    | ((with_reducible apply andV_b); all_goals array_get_dec)
    | ((with_reducible apply orV_b); all_goals array_get_dec)
    | ((with_reducible apply callX_t); (focus array_get_dec); decide)
    | ((with_reducible apply told_ok); all_goals array_get_dec)
    | ((with_reducible apply lc_a); (focus array_get_dec); (focus first | with_reducible assumption | (simp [big]; done) | (simp [big]; omega)); (exact rfl); (intro x hx; refine ⟨_, rfl, ?_, rfl⟩; first | with_reducible assumption | array_get_dec))
    | ((with_reducible apply rng1_a); (focus array_get_dec); (focus first | with_reducible assumption | exact rfl); (focus first | with_reducible assumption | omega | (simp; done) | (simp; omega)))
    | ((with_reducible apply rng2_a); (focus array_get_dec); (focus first | with_reducible assumption | exact rfl); (focus first | with_reducible assumption | exact rfl); (focus first | with_reducible assumption | omega | (simp; done) | (simp; omega)); (focus first | with_reducible assumption | omega | (simp; done) | (simp; omega)))
    | ((with_reducible apply enum_a); (focus array_get_dec); (focus exact rfl))
    | ((with_reducible apply lf_var); exact rfl)
    | ((with_reducible apply lf_varT); exact rfl)
    | ((with_reducible apply lf_ret); exact rfl)
    | ((with_reducible apply lf_nil); exact rfl)
    | ((with_reducible apply lf_nop); exact rfl)
    | ((with_reducible apply lf_dt0); exact rfl)
    | ((with_reducible apply lf_opts); exact rfl)
    | ((with_reducible apply lf_optR); exact rfl)
    | ((with_reducible apply lf_opt); first | with_reducible assumption | with_reducible exact isn_o _ | with_reducible exact ist_o _ | with_reducible exact neF_o _ _ | with_reducible exact eqF_o _ _ | with_reducible exact neF_b _ _ | with_reducible exact eqF_b _ _ | with_reducible exact neF_s _ _ | with_reducible exact eqF_s _ _ | with_reducible exact ev_neI _ _ | with_reducible exact ev_eqI _ _ | exact ev_neI _ _ | exact ev_eqI _ _ | ((fail_if_success (with_reducible apply lf_ne)); (fail_if_success (with_reducible apply lf_eq)); exact rfl) | exact term_eq _ | exact ev_isn _ _ | solve_by_elim (maxDepth := 3))
    | ((with_reducible apply lf_call); first | with_reducible assumption | solve_by_elim (maxDepth := 3))
    | ((with_reducible apply lf_fr); first | with_reducible assumption | solve_by_elim (maxDepth := 3))
    | ((with_reducible apply lf_cex); first | with_reducible assumption | solve_by_elim (maxDepth := 3))
    | ((with_reducible apply lf_callB); first | with_reducible assumption | solve_by_elim (maxDepth := 3)))
/-- k can hold up e -/
inductive Rch (rows : Rows) (e : Nat) : Nat → Prop
  | refl : Rch rows e e
  | step {k j : Nat} {a : Arc} (h : Rch rows e k) (ha : a ∈ rows.getD k []) (hj : evOf a.1 = some j) : Rch rows e j
def St (rows : Rows) (h : Nat) : Prop := ∃ k, Rch rows h k ∧ ∃ a ∈ rows.getD k [], a.1 = none
def hdW (w : Way) : Nat := (w.headD (0, 0)).1
end Rn
end
section
set_option Elab.async false
set_option linter.all false
set_option maxRecDepth 100000
set_option maxHeartbeats 4000000
namespace Rn
open PySem PySem.Spec L2
theorem low_parts {a b : Nat} (hb : 0 < b) : ∃ g x y : Nat, 0 < g ∧ 0 < y ∧ a = g * x ∧ b = g * y ∧ Nat.gcd x y = 1 ∧ lowF a b = ((x : Int), (y : Int)) := by
  have hg : 0 < Nat.gcd a b := Nat.gcd_pos_of_pos_right a hb
  obtain ⟨x, hx⟩ := Nat.gcd_dvd_left a b
  obtain ⟨y, hy⟩ := Nat.gcd_dvd_right a b
  generalize hG : Nat.gcd a b = g at hg hx hy
  have e1 : a / g = x := by rw [hx]; exact Nat.mul_div_cancel_left x hg
  have e2 : b / g = y := by rw [hy]; exact Nat.mul_div_cancel_left y hg
  have hy0 : 0 < y := by
    rcases Nat.eq_zero_or_pos y with z | z
    · rw [z, Nat.mul_zero] at hy; omega
    · exact z
  refine ⟨g, x, y, hg, hy0, hx, hy, ?_, ?_⟩
  · rw [hx, hy, Nat.gcd_mul_left] at hG
    exact Nat.eq_of_mul_eq_mul_left hg (by rw [hG, Nat.mul_one])
  · unfold lowF
    rw [hG, e1, e2]
end Rn
end
section
set_option Elab.async false
set_option linter.all false
set_option maxRecDepth 100000
set_option maxHeartbeats 1000000
namespace Rn
open PySem PySem.Spec L2
theorem dlW_snoc (rows : Rows) (w : Way) (p : Nat × Nat) : dlW rows (w ++ [p]) = dlW rows w + (arcAt rows p).2.1 := by
  unfold dlW
  simp
theorem hdW_snoc {w : Way} (p : Nat × Nat) (h : w ≠ []) : hdW (w ++ [p]) = hdW w := by
  cases w with
  | nil => exact absurd rfl h
  | cons q w => rfl
theorem tree_path {rows : Rows} {first : Nat} (hs : SrcOk rows) (hf : first < rows.length) : ∀ (k : Nat) (n : Nd), (∃ l, IsPath rows n.1 l first ∧ lenP l = bkW rows n.2 ∧ wtP l = dlW rows n.2) → ((n.2 = [] ∧ n.1 = first) ∨ (n.2 ≠ [] ∧ hdW n.2 = first)) → n.1 < rows.length → ∀ w ∈ tree rows first k n, ∃ l, IsPath rows first l first ∧ l ≠ [] ∧ lenP l = bkW rows w ∧ wtP l = dlW rows w ∧ hdW w = first := by
  intro k
  have cl : ∀ (n : Nd), (∃ l, IsPath rows n.1 l first ∧ lenP l = bkW rows n.2 ∧ wtP l = dlW rows n.2) → ((n.2 = [] ∧ n.1 = first) ∨ (n.2 ≠ [] ∧ hdW n.2 = first)) → n.1 < rows.length → ∀ w ∈ closes rows first n, ∃ l, IsPath rows first l first ∧ l ≠ [] ∧ lenP l = bkW rows w ∧ wtP l = dlW rows w ∧ hdW w = first := by
    rintro n ⟨l, hp, h1, h2⟩ hh hn w hw
    obtain ⟨⟨a, p⟩, hz, rfl⟩ := List.mem_map.mp hw
    obtain ⟨hz, he⟩ := List.mem_filter.mp hz
    have he : evOf a.1 = some first := by simpa using he
    have za := zip_arc hz
    refine ⟨(first, n.1, a.2.1, a.2.2) :: l, ⟨rfl, ⟨hn, hf, a, za.2.2, he, rfl, rfl⟩, hp⟩, by simp, ?_, ?_, ?_⟩
    · show _ = bkW rows (n.2 ++ [(n.1, p)])
      rw [bkW_snoc, za.2.1, ← h1]
      simp [lenP]
      omega
    · show _ = dlW rows (n.2 ++ [(n.1, p)])
      rw [dlW_snoc, za.2.1, ← h2]
      simp [wtP]
      omega
    · show hdW (n.2 ++ [(n.1, p)]) = first
      rcases hh with ⟨z1, z2⟩ | ⟨z1, z2⟩
      · rw [z1]; exact z2
      · rw [hdW_snoc _ z1]; exact z2
  induction k with
  | zero => exact cl
  | succ k ih =>
    rintro n ⟨l, hp, h1, h2⟩ hh hn w hw
    have hw : w ∈ closes rows first n ++ (opens rows first n).flatMap (tree rows first k) := hw
    rcases List.mem_append.mp hw with hw | hw
    · exact cl n ⟨l, hp, h1, h2⟩ hh hn w hw
    · obtain ⟨m, hm, hw⟩ := List.mem_flatMap.mp hw
      obtain ⟨⟨a, p⟩, hz, rfl⟩ := List.mem_map.mp hm
      obtain ⟨hz, he⟩ := List.mem_filter.mp hz
      have za := zip_arc hz
      have ho : openB first n a.1 = true := he
      unfold openB at ho
      rcases evs_or a.1 with e1 | ⟨j, e1⟩
      · rw [e1] at ho; cases ho
      · obtain ⟨row, hr, har⟩ := getD_memR za.2.2
        have hj := hs row hr a har j e1
        have em : ((evOf a.1).getD 0) = j := by rw [e1]; rfl
        refine ih ((evOf a.1).getD 0, n.2 ++ [(n.1, p)]) ⟨(j, n.1, a.2.1, a.2.2) :: l, ?_, ?_, ?_⟩ (.inr ⟨by simp, ?_⟩) (by show (evOf a.1).getD 0 < _; rw [em]; exact hj) w hw
        · show IsPath rows ((evOf a.1).getD 0) _ first
          rw [em]
          exact ⟨rfl, ⟨hn, hj, a, za.2.2, e1, rfl, rfl⟩, hp⟩
        · show _ = bkW rows (n.2 ++ [(n.1, p)])
          rw [bkW_snoc, za.2.1, ← h1]
          simp [lenP]
          omega
        · show _ = dlW rows (n.2 ++ [(n.1, p)])
          rw [dlW_snoc, za.2.1, ← h2]
          simp [wtP]
          omega
        · show hdW (n.2 ++ [(n.1, p)]) = first
          rcases hh with ⟨z1, z2⟩ | ⟨z1, z2⟩
          · rw [z1]; exact z2
          · rw [hdW_snoc _ z1]; exact z2
theorem way_path {rows : Rows} (hs : SrcOk rows) {w : Way} (hw : w ∈ allW rows rows.length) : ∃ l, IsPath rows (hdW w) l (hdW w) ∧ l ≠ [] ∧ lenP l = bkW rows w ∧ wtP l = dlW rows w ∧ hdW w < rows.length := by
  obtain ⟨f, hf, hw⟩ := List.mem_flatMap.mp hw
  have hf := List.mem_range.mp hf
  obtain ⟨l, h1, h2, h3, h4, h5⟩ := tree_path hs hf rows.length (f, []) ⟨[], rfl, rfl, rfl⟩ (.inl ⟨rfl, rfl⟩) hf w hw
  exact ⟨l, by rw [h5]; exact h1, h2, h3, h4, by rw [h5]; exact hf⟩
theorem tree_in2 {rows : Rows} {first : Nat} : ∀ (k : Nat) {q : List Ed} {e : Nat} {way : Way}, IsPath rows first q e → q ≠ [] → q.length ≤ k + 1 → (q.map fun d => d.2.1).Nodup → (∀ d ∈ q, d.2.1 ≠ e → first < d.2.1) → (∀ d ∈ q, d.2.1 ∉ way.map (·.1)) → ∃ w ∈ tree rows first k (e, way), bkW rows w = bkW rows way + lenP q ∧ dlW rows w = dlW rows way + wtP q := by
  intro k
  induction k with
  | zero =>
    intro q e way hp hq hl nd hgt hnw
    obtain ⟨d, rfl⟩ : ∃ d, q = [d] := by
      cases q with
      | nil => exact absurd rfl hq
      | cons d q =>
        have : q = [] := List.eq_nil_of_length_eq_zero (by have hl' : q.length + 1 ≤ 1 := hl; omega)
        exact ⟨d, by rw [this]⟩
    obtain ⟨h1, ⟨_, _, a, ha, h2, h5, h4⟩, h3⟩ := hp
    cases h3
    obtain ⟨p, hz⟩ := zip_at ha
    refine ⟨way ++ [(d.2.1, p)], List.mem_map.mpr ⟨(a, p), List.mem_filter.mpr ⟨hz, decide_eq_true (by rw [h2, h1])⟩, rfl⟩, ?_⟩
    rw [bkW_snoc, dlW_snoc, (zip_arc hz).2.1, h4, h5]
    simp [lenP, wtP]
  | succ k ih =>
    intro q e way hp hq hl nd hgt hnw
    obtain ⟨q', d, rfl⟩ : ∃ q' d, q = q' ++ [d] := by
      rcases List.eq_nil_or_concat q with h | ⟨q', d, h⟩
      · exact absurd h hq
      · exact ⟨q', d, by rw [h, List.concat_eq_append]⟩
    obtain ⟨j, p1, h1, ⟨_, _, a, ha, h2, h5, h4⟩, h3⟩ := path_app.mp hp
    cases h3
    obtain ⟨p, hz⟩ := zip_at ha
    have el : lenP [d] = d.2.2.2 := by simp [lenP]
    have ew1 : wtP [d] = d.2.2.1 := by simp [wtP]
    by_cases hq' : q' = []
    · subst hq'
      cases p1
      refine ⟨way ++ [(d.2.1, p)], List.mem_append_left _ (List.mem_map.mpr ⟨(a, p), List.mem_filter.mpr ⟨hz, decide_eq_true (by rw [h2, h1])⟩, rfl⟩), ?_⟩
      rw [bkW_snoc, dlW_snoc, (zip_arc hz).2.1, h4, h5]
      simp [lenP, wtP]
    · rw [List.map_append, List.nodup_append] at nd
      have hjm := end_mem p1 hq'
      have hje : j ≠ d.2.1 := nd.2.2 j hjm d.2.1 (by simp)
      obtain ⟨dj, hdj, edj⟩ := List.mem_map.mp hjm
      have hjf : first < j := by
        have := hgt dj (List.mem_append_left _ hdj) (by rw [edj]; exact hje)
        rw [edj] at this
        exact this
      have hjw : j ∉ way.map (·.1) := by rw [← edj]; exact hnw dj (List.mem_append_left _ hdj)
      have hop : (j, way ++ [(d.2.1, p)]) ∈ opens rows first (d.2.1, way) := by
        refine List.mem_map.mpr ⟨(a, p), List.mem_filter.mpr ⟨hz, ?_⟩, ?_⟩
        · show openB first (d.2.1, way) a.1 = true
          unfold openB
          rw [h2, h1]
          simp only [Bool.and_eq_true, Bool.not_eq_true', List.contains_eq_mem, decide_eq_false_iff_not, decide_eq_true_eq]
          exact ⟨hjf, hjw, hje⟩
        · show ((evOf a.1).getD 0, way ++ [(d.2.1, p)]) = _
          rw [h2, h1]; rfl
      obtain ⟨w, hw, ew, ew2⟩ := ih (q := q') (e := j) (way := way ++ [(d.2.1, p)]) p1 hq' (by rw [List.length_append] at hl; simp at hl; omega) nd.1 (fun d' hd' ne => hgt d' (List.mem_append_left _ hd') (nd.2.2 d'.2.1 (List.mem_map.mpr ⟨d', hd', rfl⟩) d.2.1 (by simp))) (fun d' hd' => by
        rw [List.map_append, List.mem_append, not_or]
        refine ⟨hnw d' (List.mem_append_left _ hd'), ?_⟩
        simp
        exact nd.2.2 d'.2.1 (List.mem_map.mpr ⟨d', hd', rfl⟩) d.2.1 (by simp))
      refine ⟨w, List.mem_append_right _ (List.mem_flatMap.mpr ⟨_, hop, hw⟩), ?_⟩
      rw [ew, ew2, bkW_snoc, dlW_snoc, (zip_arc hz).2.1, h4, h5, lenP_app, el, wtP_app, ew1]
      omega
theorem ring_found2 {rows : Rows} (hs : SrcOk rows) {m : Nat} {r : List Ed} (h : SimpR rows m r) : ∃ w ∈ allW rows rows.length, bkW rows w = lenP r ∧ dlW rows w = wtP r ∧ hdW w ∈ r.map fun d => d.2.1 := by
  obtain ⟨hp, hne, nd⟩ := h
  obtain ⟨f, hf, hmin⟩ := least_mem (l := r.map fun d => d.2.1) (by simpa using hne)
  obtain ⟨l1, l2, rfl, p1, p2⟩ := path_via hp (List.mem_cons_of_mem _ hf)
  have pm : ((l2 ++ l1).map fun d => d.2.1).Perm ((l1 ++ l2).map fun d => d.2.1) := (List.perm_append_comm).map _
  have hq : IsPath rows f (l2 ++ l1) f := path_app.mpr ⟨m, p2, p1⟩
  have nd' : ((l2 ++ l1).map fun d => d.2.1).Nodup := pm.nodup_iff.mpr nd
  have ne' : l2 ++ l1 ≠ [] := fun z => hne (by
    obtain ⟨a, b⟩ := List.append_eq_nil_iff.mp z
    rw [a, b]; rfl)
  have few : (l2 ++ l1).length ≤ rows.length := simp_few ⟨hq, ne', nd'⟩
  have hfl : f < rows.length := by
    obtain ⟨d, hd, rfl⟩ := List.mem_map.mp hf
    exact (path_ok hp d hd).1
  obtain ⟨w, hw, ew, ew2⟩ := tree_in2 (rows := rows) (first := f) rows.length (q := l2 ++ l1) (e := f) (way := []) hq ne' (by omega) nd' (fun d hd hn => by
    have := hmin d.2.1 (pm.mem_iff.mp (List.mem_map.mpr ⟨d, hd, rfl⟩))
    omega) (fun d _ => by simp)
  have hh := (tree_path (rows := rows) (first := f) hs hfl rows.length (f, []) ⟨[], rfl, rfl, rfl⟩ (.inl ⟨rfl, rfl⟩) hfl w hw).choose_spec.2.2.2.2
  refine ⟨w, List.mem_flatMap.mpr ⟨f, List.mem_range.mpr hfl, hw⟩, ?_, ?_, by rw [hh]; exact hf⟩
  · rw [ew, lenP_app, lenP_app]
    simp [bkW]
    omega
  · rw [ew2, wtP_app, wtP_app]
    simp [dlW]
    omega
end Rn
end
section
set_option Elab.async false
set_option linter.all false
set_option maxRecDepth 100000
set_option maxHeartbeats 4000000
namespace Rn
open PySem PySem.Spec L2
local macro_rules
  | `(tactic| array_get_dec) => `(tactic| focus first
    | (with_reducible assumption)
    | ((with_reducible apply mT_ok); all_goals array_get_dec)
    | ((with_reducible apply op_ok); all_goals array_get_dec)
    | ((with_reducible apply cons_ok); all_goals array_get_dec)
    | ((with_reducible apply call_ok); all_goals array_get_dec)
    | ((with_reducible apply callX_ok); all_goals array_get_dec)
    | ((with_reducible apply callX_ex); all_goals array_get_dec)
    | ((with_reducible apply callB_ok); all_goals array_get_dec)
    | ((with_reducible apply tst_ok); all_goals array_get_dec)
    | ((with_reducible apply cb_ok); all_goals array_get_dec)
    | ((with_reducible apply un_ok); all_goals array_get_dec)
    | ((with_reducible apply slc_ok); all_goals array_get_dec)
    | ((with_reducible apply part_ok); all_goals array_get_dec)
    | ((with_reducible apply not_ok); all_goals array_get_dec)
    | ((with_reducible apply notV_ok); all_goals array_get_dec)
    | ((with_reducible apply seqT_ok); all_goals array_get_dec)
    | ((with_reducible apply seqL_ok); all_goals array_get_dec)
    | ((with_reducible apply dget_ok); all_goals array_get_dec)
    | ((with_reducible apply chain_b); all_goals array_get_dec)
    | ((with_reducible apply callF_ok); all_goals array_get_dec)
    | ((with_reducible apply isi_ok); (focus array_get_dec); (focus array_get_dec); (first | exact rfl | with_reducible assumption))
    | ((with_reducible apply tup_ok); (focus array_get_dec); (first | exact (by decide) | simp))
    | ((with_reducible apply lst_ok); (focus array_get_dec); (first | exact (by decide) | simp))
    | ((with_reducible apply if_T); (focus array_get_dec); (focus first | exact rfl | with_reducible assumption); (focus array_get_dec))
    | ((with_reducible apply if_F); (focus array_get_dec); (focus first | exact rfl | with_reducible assumption); (focus array_get_dec))
    | ((with_reducible apply and_T); (focus array_get_dec); (focus first | exact rfl | with_reducible assumption); (focus array_get_dec))
    | ((with_reducible apply or_F); (focus array_get_dec); (focus first | exact rfl | with_reducible assumption); (focus array_get_dec))
    | ((with_reducible apply andV_T); (focus array_get_dec); (focus first | exact rfl | with_reducible assumption); (focus array_get_dec))
    | ((with_reducible apply orV_F); (focus array_get_dec); (focus first | exact rfl | with_reducible assumption); (focus array_get_dec))
    | ((with_reducible apply and_F); (focus array_get_dec); (focus first | exact rfl | with_reducible assumption))
    | ((with_reducible apply or_T); (focus array_get_dec); (focus first | exact rfl | with_reducible assumption))
    | ((with_reducible apply andV_F); (focus array_get_dec); (focus first | exact rfl | with_reducible assumption))
    | ((with_reducible apply orV_T); (focus array_get_dec); (focus first | exact rfl | with_reducible assumption))
    | ((with_reducible apply and_b); all_goals array_get_dec)
    | ((with_reducible apply or_b); all_goals array_get_dec)
    | ((with_reducible apply andV_b); all_goals array_get_dec)
    | ((with_reducible apply orV_b); all_goals array_get_dec)
    | ((with_reducible apply callX_t); (focus array_get_dec); decide)
    | ((with_reducible apply told_ok); all_goals array_get_dec)
    | ((with_reducible apply lc_a); (focus array_get_dec); (focus first | with_reducible assumption | (simp [big]; done) | (simp [big]; omega)); (exact rfl); (intro x hx; refine ⟨_, rfl, ?_, rfl⟩; first | with_reducible assumption | array_get_dec))
    | ((with_reducible apply rng1_a); (focus array_get_dec); (focus first | with_reducible assumption | exact rfl); (focus first | with_reducible assumption | omega | (simp; done) | (simp; omega)))
    | ((with_reducible apply rng2_a); (focus array_get_dec); (focus first | with_reducible assumption | exact rfl); (focus first | with_reducible assumption | exact rfl); (focus first | with_reducible assumption | omega | (simp; done) | (simp; omega)); (focus first | with_reducible assumption | omega | (simp; done) | (simp; omega)))
    | ((with_reducible apply enum_a); (focus array_get_dec); (focus exact rfl))
    | ((with_reducible apply lf_var); exact rfl)
    | ((with_reducible apply lf_varT); exact rfl)
    | ((with_reducible apply lf_ret); exact rfl)
    | ((with_reducible apply lf_nil); exact rfl)
    | ((with_reducible apply lf_nop); exact rfl)
    | ((with_reducible apply lf_dt0); exact rfl)
    | ((with_reducible apply lf_opts); exact rfl)
    | ((with_reducible apply lf_optR); exact rfl)
    | ((with_reducible apply lf_opt); first | with_reducible assumption | with_reducible exact isn_o _ | with_reducible exact ist_o _ | with_reducible exact neF_o _ _ | with_reducible exact eqF_o _ _ | with_reducible exact neF_b _ _ | with_reducible exact eqF_b _ _ | with_reducible exact neF_s _ _ | with_reducible exact eqF_s _ _ | with_reducible exact ev_neI _ _ | with_reducible exact ev_eqI _ _ | exact ev_neI _ _ | exact ev_eqI _ _ | ((fail_if_success (with_reducible apply lf_ne)); (fail_if_success (with_reducible apply lf_eq)); exact rfl) | exact term_eq _ | exact ev_isn _ _ | solve_by_elim (maxDepth := 3))
    | ((with_reducible apply lf_call); first | with_reducible assumption | solve_by_elim (maxDepth := 3))
    | ((with_reducible apply lf_fr); first | with_reducible assumption | solve_by_elim (maxDepth := 3))
    | ((with_reducible apply lf_cex); first | with_reducible assumption | solve_by_elim (maxDepth := 3))
    | ((with_reducible apply lf_callB); first | with_reducible assumption | solve_by_elim (maxDepth := 3)))
theorem len_outs (o : List Nat) : lenF [outsD o] = some (.int (o.length : Int)) := by
  show some (PyData.int ((o.map fun n : Nat => PyData.int (n : Int)).length : Int)) = _
  rw [List.length_map]
def isLate (own due : Tim) : Bool := match own, due with
  | some a, some b => decide (b < a)
  | _, _ => false
def brkRow (x : Nat → Tim) (o : Nat) (row : List (Tim × Nat)) : List (Nat × Nat) := (row.filter fun p => isLate (x p.2) p.1).map fun p => (o, p.2)
def brk (X : Nat → Nat → Tim) (ds : List (List Tim × Nat)) : List (Nat × Nat) := (ds.map fun p => brkRow (X p.2) p.2 p.1.zipIdx).flatten
end Rn
end
section
set_option Elab.async false
set_option linter.all false
set_option maxRecDepth 100000
set_option maxHeartbeats 4000000
namespace Rn
open PySem PySem.Spec L2
def dAt (ds : Strs) (o m : Nat) : Tim := (ds.getD o []).getD m none
end Rn
end
section
set_option Elab.async false
set_option linter.all false
set_option maxRecDepth 100000
set_option maxHeartbeats 4000000
namespace Rn
open PySem PySem.Spec L2
local macro_rules
  | `(tactic| array_get_dec) => `(tactic| focus first
    | (with_reducible assumption)
    | ((with_reducible apply mT_ok); all_goals array_get_dec)
    | ((with_reducible apply op_ok); all_goals array_get_dec)
    | ((with_reducible apply cons_ok); all_goals array_get_dec)
    | ((with_reducible apply call_ok); all_goals array_get_dec)
    | ((with_reducible apply callX_ok); all_goals array_get_dec)
    | ((with_reducible apply callX_ex); all_goals array_get_dec)
    | ((with_reducible apply callB_ok); all_goals array_get_dec)
    | ((with_reducible apply tst_ok); all_goals array_get_dec)
    | ((with_reducible apply cb_ok); all_goals array_get_dec)
    | ((with_reducible apply un_ok); all_goals array_get_dec)
    | ((with_reducible apply slc_ok); all_goals array_get_dec)
    | ((with_reducible apply part_ok); all_goals array_get_dec)
    | ((with_reducible apply not_ok); all_goals array_get_dec)
    | ((with_reducible apply notV_ok); all_goals array_get_dec)
    | ((with_reducible apply seqT_ok); all_goals array_get_dec)
    | ((with_reducible apply seqL_ok); all_goals array_get_dec)
    | ((with_reducible apply dget_ok); all_goals array_get_dec)
    | ((with_reducible apply chain_b); all_goals array_get_dec)
    | ((with_reducible apply callF_ok); all_goals array_get_dec)
    | ((with_reducible apply isi_ok); (focus array_get_dec); (focus array_get_dec); (first | exact rfl | with_reducible assumption))
    | ((with_reducible apply tup_ok); (focus array_get_dec); (first | exact (by decide) | simp))
    | ((with_reducible apply lst_ok); (focus array_get_dec); (first | exact (by decide) | simp))
    | ((with_reducible apply if_T); (focus array_get_dec); (focus first | exact rfl | with_reducible assumption); (focus array_get_dec))
    | ((with_reducible apply if_F); (focus array_get_dec); (focus first | exact rfl | with_reducible assumption); (focus array_get_dec))
    | ((with_reducible apply and_T); (focus array_get_dec); (focus first | exact rfl | with_reducible assumption); (focus array_get_dec))
    | ((with_reducible apply or_F); (focus array_get_dec); (focus first | exact rfl | with_reducible assumption); (focus array_get_dec))
    | ((with_reducible apply andV_T); (focus array_get_dec); (focus first | exact rfl | with_reducible assumption); (focus array_get_dec))
    | ((with_reducible apply orV_F); (focus array_get_dec); (focus first | exact rfl | with_reducible assumption); (focus array_get_dec))
    | ((with_reducible apply and_F); (focus array_get_dec); (focus first | exact rfl | with_reducible assumption))
    | ((with_reducible apply or_T); (focus array_get_dec); (focus first | exact rfl | with_reducible assumption))
    | ((with_reducible apply andV_F); (focus array_get_dec); (focus first | exact rfl | with_reducible assumption))
    | ((with_reducible apply orV_T); (focus array_get_dec); (focus first | exact rfl | with_reducible assumption))
    | ((with_reducible apply and_b); all_goals array_get_dec)
    | ((with_reducible apply or_b); all_goals array_get_dec)
    | ((with_reducible apply andV_b); all_goals array_get_dec)
    | ((with_reducible apply orV_b); all_goals array_get_dec)
    | ((with_reducible apply callX_t); (focus array_get_dec); decide)
    | ((with_reducible apply told_ok); all_goals array_get_dec)
    | ((with_reducible apply lc_a); (focus array_get_dec); (focus first | with_reducible assumption | (simp [big]; done) | (simp [big]; omega)); (exact rfl); (intro x hx; refine ⟨_, rfl, ?_, rfl⟩; first | with_reducible assumption | array_get_dec))
    | ((with_reducible apply rng1_a); (focus array_get_dec); (focus first | with_reducible assumption | exact rfl); (focus first | with_reducible assumption | omega | (simp; done) | (simp; omega)))
    | ((with_reducible apply rng2_a); (focus array_get_dec); (focus first | with_reducible assumption | exact rfl); (focus first | with_reducible assumption | exact rfl); (focus first | with_reducible assumption | omega | (simp; done) | (simp; omega)); (focus first | with_reducible assumption | omega | (simp; done) | (simp; omega)))
    | ((with_reducible apply enum_a); (focus array_get_dec); (focus exact rfl))
    | ((with_reducible apply lf_var); exact rfl)
    | ((with_reducible apply lf_varT); exact rfl)
    | ((with_reducible apply lf_ret); exact rfl)
    | ((with_reducible apply lf_nil); exact rfl)
    | ((with_reducible apply lf_nop); exact rfl)
    | ((with_reducible apply lf_dt0); exact rfl)
    | ((with_reducible apply lf_opts); exact rfl)
    | ((with_reducible apply lf_optR); exact rfl)
    | ((with_reducible apply lf_opt); first | with_reducible assumption | with_reducible exact isn_o _ | with_reducible exact ist_o _ | with_reducible exact neF_o _ _ | with_reducible exact eqF_o _ _ | with_reducible exact neF_b _ _ | with_reducible exact eqF_b _ _ | with_reducible exact neF_s _ _ | with_reducible exact eqF_s _ _ | with_reducible exact ev_neI _ _ | with_reducible exact ev_eqI _ _ | exact ev_neI _ _ | exact ev_eqI _ _ | ((fail_if_success (with_reducible apply lf_ne)); (fail_if_success (with_reducible apply lf_eq)); exact rfl) | exact term_eq _ | exact ev_isn _ _ | solve_by_elim (maxDepth := 3))
    | ((with_reducible apply lf_call); first | with_reducible assumption | solve_by_elim (maxDepth := 3))
    | ((with_reducible apply lf_fr); first | with_reducible assumption | solve_by_elim (maxDepth := 3))
    | ((with_reducible apply lf_cex); first | with_reducible assumption | solve_by_elim (maxDepth := 3))
    | ((with_reducible apply lf_callB); first | with_reducible assumption | solve_by_elim (maxDepth := 3)))
end Rn
end
section
set_option Elab.async false
set_option linter.all false
set_option maxRecDepth 100000
set_option maxHeartbeats 4000000
namespace Rn
open PySem PySem.Spec L2
local macro_rules
  | `(tactic| array_get_dec) => `(tactic| focus first
    | (with_reducible assumption)
    | ((with_reducible apply mT_ok); all_goals array_get_dec)
    | ((with_reducible apply op_ok); all_goals array_get_dec)
    | ((with_reducible apply cons_ok); all_goals array_get_dec)
    | ((with_reducible apply call_ok); all_goals array_get_dec)
    | ((with_reducible apply callX_ok); all_goals array_get_dec)
    | ((with_reducible apply callX_ex); all_goals array_get_dec)
    | ((with_reducible apply callB_ok); all_goals array_get_dec)
    | ((with_reducible apply tst_ok); all_goals array_get_dec)
    | ((with_reducible apply cb_ok); all_goals array_get_dec)
    | ((with_reducible apply un_ok); all_goals array_get_dec)
    | ((with_reducible apply slc_ok); all_goals array_get_dec)
    | ((with_reducible apply part_ok); all_goals array_get_dec)
    | ((with_reducible apply not_ok); all_goals array_get_dec)
    | ((with_reducible apply notV_ok); all_goals array_get_dec)
    | ((with_reducible apply seqT_ok); all_goals array_get_dec)
    | ((with_reducible apply seqL_ok); all_goals array_get_dec)
    | ((with_reducible apply dget_ok); all_goals array_get_dec)
    | ((with_reducible apply chain_b); all_goals array_get_dec)
    | ((with_reducible apply callF_ok); all_goals array_get_dec)
    | ((with_reducible apply isi_ok); (focus array_get_dec); (focus array_get_dec); (first | exact rfl | with_reducible assumption))
    | ((with_reducible apply tup_ok); (focus array_get_dec); (first | exact (by decide) | simp))
    | ((with_reducible apply lst_ok); (focus array_get_dec); (first | exact (by decide) | simp))
    | ((with_reducible apply if_T); (focus array_get_dec); (focus first | exact rfl | with_reducible assumption); (focus array_get_dec))
    | ((with_reducible apply if_F); (focus array_get_dec); (focus first | exact rfl | with_reducible assumption); (focus array_get_dec))
    | ((with_reducible apply and_T); (focus array_get_dec); (focus first | exact rfl | with_reducible assumption); (focus array_get_dec))
    | ((with_reducible apply or_F); (focus array_get_dec); (focus first | exact rfl | with_reducible assumption); (focus array_get_dec))
    | ((with_reducible apply andV_T); (focus array_get_dec); (focus first | exact rfl | with_reducible assumption); (focus array_get_dec))
    | ((with_reducible apply orV_F); (focus array_get_dec); (focus first | exact rfl | with_reducible assumption); (focus array_get_dec))
    | ((with_reducible apply and_F); (focus array_get_dec); (focus first | exact rfl | with_reducible assumption))
    | ((with_reducible apply or_T); (focus array_get_dec); (focus first | exact rfl | with_reducible assumption))
    | ((with_reducible apply andV_F); (focus array_get_dec); (focus first | exact rfl | with_reducible assumption))
    | ((with_reducible apply orV_T); (focus array_get_dec); (focus first | exact rfl | with_reducible assumption))
    | ((with_reducible apply and_b); all_goals array_get_dec)
    | ((with_reducible apply or_b); all_goals array_get_dec)
    | ((with_reducible apply andV_b); all_goals array_get_dec)
    | ((with_reducible apply orV_b); all_goals array_get_dec)
    | ((with_reducible apply callX_t); (focus array_get_dec); decide)
    | ((with_reducible apply told_ok); all_goals array_get_dec)
    | ((with_reducible apply lc_a); (focus array_get_dec); (focus first | with_reducible assumption | (simp [big]; done) | (simp [big]; omega)); (exact rfl); (intro x hx; refine ⟨_, rfl, ?_, rfl⟩; first | with_reducible assumption | array_get_dec))
    | ((with_reducible apply rng1_a); (focus array_get_dec); (focus first | with_reducible assumption | exact rfl); (focus first | with_reducible assumption | omega | (simp; done) | (simp; omega)))
    | ((with_reducible apply rng2_a); (focus array_get_dec); (focus first | with_reducible assumption | exact rfl); (focus first | with_reducible assumption | exact rfl); (focus first | with_reducible assumption | omega | (simp; done) | (simp; omega)); (focus first | with_reducible assumption | omega | (simp; done) | (simp; omega)))
    | ((with_reducible apply enum_a); (focus array_get_dec); (focus exact rfl))
    | ((with_reducible apply lf_var); exact rfl)
    | ((with_reducible apply lf_varT); exact rfl)
    | ((with_reducible apply lf_ret); exact rfl)
    | ((with_reducible apply lf_nil); exact rfl)
    | ((with_reducible apply lf_nop); exact rfl)
    | ((with_reducible apply lf_dt0); exact rfl)
    | ((with_reducible apply lf_opts); exact rfl)
    | ((with_reducible apply lf_optR); exact rfl)
    | ((with_reducible apply lf_opt); first | with_reducible assumption | with_reducible exact isn_o _ | with_reducible exact ist_o _ | with_reducible exact neF_o _ _ | with_reducible exact eqF_o _ _ | with_reducible exact neF_b _ _ | with_reducible exact eqF_b _ _ | with_reducible exact neF_s _ _ | with_reducible exact eqF_s _ _ | with_reducible exact ev_neI _ _ | with_reducible exact ev_eqI _ _ | exact ev_neI _ _ | exact ev_eqI _ _ | ((fail_if_success (with_reducible apply lf_ne)); (fail_if_success (with_reducible apply lf_eq)); exact rfl) | exact term_eq _ | exact ev_isn _ _ | solve_by_elim (maxDepth := 3))
    | ((with_reducible apply lf_call); first | with_reducible assumption | solve_by_elim (maxDepth := 3))
    | ((with_reducible apply lf_fr); first | with_reducible assumption | solve_by_elim (maxDepth := 3))
    | ((with_reducible apply lf_cex); first | with_reducible assumption | solve_by_elim (maxDepth := 3))
    | ((with_reducible apply lf_callB); first | with_reducible assumption | solve_by_elim (maxDepth := 3)))
def fewR (a : List (Tim × Nat)) : List Tim := a.map fun p => if p.2 % 2 = 0 then none else p.1
def fewS (ds : Strs) : Strs := ds.map fun a => fewR a.zipIdx
/-- dues that are small -/
structure SmOk (n : Net) (r : Nat) (ds : Strs) (lo hi : Int) : Prop where
  len : ds.length = n.2.2.length
  row : ∀ a ∈ ds, a.length = r
  tm : ∀ a ∈ ds, ∀ v, some v ∈ a → lo ≤ v ∧ v ≤ hi
theorem SmOk.few {n : Net} {r : Nat} {ds : Strs} {lo hi : Int} (h : SmOk n r ds lo hi) : SmOk n r (fewS ds) lo hi := by
  refine ⟨by simpa [fewS] using h.len, fun a ha => ?_, fun a ha v hv => ?_⟩
  · obtain ⟨b, hb, rfl⟩ := List.mem_map.mp ha
    simpa [fewR] using h.row b hb
  · obtain ⟨b, hb, rfl⟩ := List.mem_map.mp ha
    obtain ⟨⟨t, k⟩, ht, e⟩ := List.mem_map.mp hv
    have ht := List.mem_of_getElem? (List.mk_mem_zipIdx_iff_getElem?.mp ht)
    dsimp only at e
    split at e
    · cases e
    · exact h.tm b hb v (e ▸ ht)
theorem SmOk.at {n : Net} {r : Nat} {ds : Strs} {lo hi : Int} (h : SmOk n r ds lo hi) {o m : Nat} {v : Int} (e : dAt ds o m = some v) : lo ≤ v ∧ v ≤ hi := by
  unfold dAt at e
  rw [List.getD_eq_getElem?_getD (l := ds)] at e
  cases e1 : ds[o]? with
  | none => rw [e1] at e; cases e
  | some a =>
    rw [e1] at e
    have e : a.getD m none = some v := e
    rw [List.getD_eq_getElem?_getD] at e
    cases e2 : a[m]? with
    | none => rw [e2] at e; cases e
    | some t =>
      rw [e2] at e
      have e : t = some v := e
      subst e
      exact h.tm a (List.mem_of_getElem? e1) v (List.mem_of_getElem? e2)
end Rn
end
section
set_option Elab.async false
set_option linter.all false
set_option maxRecDepth 100000
set_option maxHeartbeats 1000000
namespace Rn
open PySem PySem.Spec L2
local macro_rules
  | `(tactic| array_get_dec) => `(tactic| focus first
    | (with_reducible assumption)
    | ((with_reducible apply mT_ok); all_goals array_get_dec)
    | ((with_reducible apply op_ok); all_goals array_get_dec)
    | ((with_reducible apply cons_ok); all_goals array_get_dec)
    | ((with_reducible apply call_ok); all_goals array_get_dec)
    | ((with_reducible apply callX_ok); all_goals array_get_dec)
    | ((with_reducible apply callX_ex); all_goals array_get_dec)
    | ((with_reducible apply callB_ok); all_goals array_get_dec)
    | ((with_reducible apply tst_ok); all_goals array_get_dec)
    | ((with_reducible apply cb_ok); all_goals array_get_dec)
    | ((with_reducible apply un_ok); all_goals array_get_dec)
    | ((with_reducible apply slc_ok); all_goals array_get_dec)
    | ((with_reducible apply part_ok); all_goals array_get_dec)
    | ((with_reducible apply not_ok); all_goals array_get_dec)
    | ((with_reducible apply notV_ok); all_goals array_get_dec)
    | ((with_reducible apply seqT_ok); all_goals array_get_dec)
    | ((with_reducible apply seqL_ok); all_goals array_get_dec)
    | ((with_reducible apply dget_ok); all_goals array_get_dec)
    | ((with_reducible apply chain_b); all_goals array_get_dec)
    | ((with_reducible apply callF_ok); all_goals array_get_dec)
    | ((with_reducible apply isi_ok); (focus array_get_dec); (focus array_get_dec); (first | exact rfl | with_reducible assumption))
    | ((with_reducible apply tup_ok); (focus array_get_dec); (first | exact (by decide) | simp))
    | ((with_reducible apply lst_ok); (focus array_get_dec); (first | exact (by decide) | simp))
    | ((with_reducible apply if_T); (focus array_get_dec); (focus first | exact rfl | with_reducible assumption); (focus array_get_dec))
    | ((with_reducible apply if_F); (focus array_get_dec); (focus first | exact rfl | with_reducible assumption); (focus array_get_dec))
    | ((with_reducible apply and_T); (focus array_get_dec); (focus first | exact rfl | with_reducible assumption); (focus array_get_dec))
    | ((with_reducible apply or_F); (focus array_get_dec); (focus first | exact rfl | with_reducible assumption); (focus array_get_dec))
    | ((with_reducible apply andV_T); (focus array_get_dec); (focus first | exact rfl | with_reducible assumption); (focus array_get_dec))
    | ((with_reducible apply orV_F); (focus array_get_dec); (focus first | exact rfl | with_reducible assumption); (focus array_get_dec))
    | ((with_reducible apply and_F); (focus array_get_dec); (focus first | exact rfl | with_reducible assumption))
    | ((with_reducible apply or_T); (focus array_get_dec); (focus first | exact rfl | with_reducible assumption))
    | ((with_reducible apply andV_F); (focus array_get_dec); (focus first | exact rfl | with_reducible assumption))
    | ((with_reducible apply orV_T); (focus array_get_dec); (focus first | exact rfl | with_reducible assumption))
    | ((with_reducible apply and_b); all_goals array_get_dec)
    | ((with_reducible apply or_b); all_goals array_get_dec)
    | ((with_reducible apply andV_b); all_goals array_get_dec)
    | ((with_reducible apply orV_b); all_goals array_get_dec)
    | ((with_reducible apply callX_t); (focus array_get_dec); decide)
    | ((with_reducible apply told_ok); all_goals array_get_dec)
    | ((with_reducible apply lc_a); (focus array_get_dec); (focus first | with_reducible assumption | (simp [big]; done) | (simp [big]; omega)); (exact rfl); (intro x hx; refine ⟨_, rfl, ?_, rfl⟩; first | with_reducible assumption | array_get_dec))
    | ((with_reducible apply rng1_a); (focus array_get_dec); (focus first | with_reducible assumption | exact rfl); (focus first | with_reducible assumption | omega | (simp; done) | (simp; omega)))
    | ((with_reducible apply rng2_a); (focus array_get_dec); (focus first | with_reducible assumption | exact rfl); (focus first | with_reducible assumption | exact rfl); (focus first | with_reducible assumption | omega | (simp; done) | (simp; omega)); (focus first | with_reducible assumption | omega | (simp; done) | (simp; omega)))
    | ((with_reducible apply enum_a); (focus array_get_dec); (focus exact rfl))
    | ((with_reducible apply lf_var); exact rfl)
    | ((with_reducible apply lf_varT); exact rfl)
    | ((with_reducible apply lf_ret); exact rfl)
    | ((with_reducible apply lf_nil); exact rfl)
    | ((with_reducible apply lf_nop); exact rfl)
    | ((with_reducible apply lf_dt0); exact rfl)
    | ((with_reducible apply lf_opts); exact rfl)
    | ((with_reducible apply lf_optR); exact rfl)
    | ((with_reducible apply lf_opt); first | with_reducible assumption | with_reducible exact isn_o _ | with_reducible exact ist_o _ | with_reducible exact neF_o _ _ | with_reducible exact eqF_o _ _ | with_reducible exact neF_b _ _ | with_reducible exact eqF_b _ _ | with_reducible exact neF_s _ _ | with_reducible exact eqF_s _ _ | with_reducible exact ev_neI _ _ | with_reducible exact ev_eqI _ _ | exact ev_neI _ _ | exact ev_eqI _ _ | ((fail_if_success (with_reducible apply lf_ne)); (fail_if_success (with_reducible apply lf_eq)); exact rfl) | exact term_eq _ | exact ev_isn _ _ | solve_by_elim (maxDepth := 3))
    | ((with_reducible apply lf_call); first | with_reducible assumption | solve_by_elim (maxDepth := 3))
    | ((with_reducible apply lf_fr); first | with_reducible assumption | solve_by_elim (maxDepth := 3))
    | ((with_reducible apply lf_cex); first | with_reducible assumption | solve_by_elim (maxDepth := 3))
    | ((with_reducible apply lf_callB); first | with_reducible assumption | solve_by_elim (maxDepth := 3)))
end Rn
end
section
set_option Elab.async false
set_option linter.all false
set_option maxRecDepth 100000
set_option maxHeartbeats 4000000
namespace Rn
open PySem PySem.Spec L2
local macro_rules
  | `(tactic| array_get_dec) => `(tactic| focus first
    | (with_reducible assumption)
    | ((with_reducible apply mT_ok); all_goals array_get_dec)
    | ((with_reducible apply op_ok); all_goals array_get_dec)
    | ((with_reducible apply cons_ok); all_goals array_get_dec)
    | ((with_reducible apply call_ok); all_goals array_get_dec)
    | ((with_reducible apply callX_ok); all_goals array_get_dec)
    | ((with_reducible apply callX_ex); all_goals array_get_dec)
    | ((with_reducible apply callB_ok); all_goals array_get_dec)
    | ((with_reducible apply tst_ok); all_goals array_get_dec)
    | ((with_reducible apply cb_ok); all_goals array_get_dec)
    | ((with_reducible apply un_ok); all_goals array_get_dec)
    | ((with_reducible apply slc_ok); all_goals array_get_dec)
    | ((with_reducible apply part_ok); all_goals array_get_dec)
    | ((with_reducible apply not_ok); all_goals array_get_dec)
    | ((with_reducible apply notV_ok); all_goals array_get_dec)
    | ((with_reducible apply seqT_ok); all_goals array_get_dec)
    | ((with_reducible apply seqL_ok); all_goals array_get_dec)
    | ((with_reducible apply dget_ok); all_goals array_get_dec)
    | ((with_reducible apply chain_b); all_goals array_get_dec)
    | ((with_reducible apply callF_ok); all_goals array_get_dec)
    | ((with_reducible apply isi_ok); (focus array_get_dec); (focus array_get_dec); (first | exact rfl | with_reducible assumption))
    | ((with_reducible apply tup_ok); (focus array_get_dec); (first | exact (by decide) | simp))
    | ((with_reducible apply lst_ok); (focus array_get_dec); (first | exact (by decide) | simp))
    | ((with_reducible apply if_T); (focus array_get_dec); (focus first | exact rfl | with_reducible assumption); (focus array_get_dec))
    | ((with_reducible apply if_F); (focus array_get_dec); (focus first | exact rfl | with_reducible assumption); (focus array_get_dec))
    | ((with_reducible apply and_T); (focus array_get_dec); (focus first | exact rfl | with_reducible assumption); (focus array_get_dec))
    | ((with_reducible apply or_F); (focus array_get_dec); (focus first | exact rfl | with_reducible assumption); (focus array_get_dec))
    | ((with_reducible apply andV_T); (focus array_get_dec); (focus first | exact rfl | with_reducible assumption); (focus array_get_dec))
    | ((with_reducible apply orV_F); (focus array_get_dec); (focus first | exact rfl | with_reducible assumption); (focus array_get_dec))
    | ((with_reducible apply and_F); (focus array_get_dec); (focus first | exact rfl | with_reducible assumption))
    | ((with_reducible apply or_T); (focus array_get_dec); (focus first | exact rfl | with_reducible assumption))
    | ((with_reducible apply andV_F); (focus array_get_dec); (focus first | exact rfl | with_reducible assumption))
    | ((with_reducible apply orV_T); (focus array_get_dec); (focus first | exact rfl | with_reducible assumption))
    | ((with_reducible apply and_b); all_goals array_get_dec)
    | ((with_reducible apply or_b); all_goals array_get_dec)
    | ((with_reducible apply andV_b); all_goals array_get_dec)
    | ((with_reducible apply orV_b); all_goals array_get_dec)
    | ((with_reducible apply callX_t); (focus array_get_dec); decide)
    | ((with_reducible apply told_ok); all_goals array_get_dec)
    | ((with_reducible apply lc_a); (focus array_get_dec); (focus first | with_reducible assumption | (simp [big]; done) | (simp [big]; omega)); (exact rfl); (intro x hx; refine ⟨_, rfl, ?_, rfl⟩; first | with_reducible assumption | array_get_dec))
    | ((with_reducible apply rng1_a); (focus array_get_dec); (focus first | with_reducible assumption | exact rfl); (focus first | with_reducible assumption | omega | (simp; done) | (simp; omega)))
    | ((with_reducible apply rng2_a); (focus array_get_dec); (focus first | with_reducible assumption | exact rfl); (focus first | with_reducible assumption | exact rfl); (focus first | with_reducible assumption | omega | (simp; done) | (simp; omega)); (focus first | with_reducible assumption | omega | (simp; done) | (simp; omega)))
    | ((with_reducible apply enum_a); (focus array_get_dec); (focus exact rfl))
    | ((with_reducible apply lf_var); exact rfl)
    | ((with_reducible apply lf_varT); exact rfl)
    | ((with_reducible apply lf_ret); exact rfl)
    | ((with_reducible apply lf_nil); exact rfl)
    | ((with_reducible apply lf_nop); exact rfl)
    | ((with_reducible apply lf_dt0); exact rfl)
    | ((with_reducible apply lf_opts); exact rfl)
    | ((with_reducible apply lf_optR); exact rfl)
    | ((with_reducible apply lf_opt); first | with_reducible assumption | with_reducible exact isn_o _ | with_reducible exact ist_o _ | with_reducible exact neF_o _ _ | with_reducible exact eqF_o _ _ | with_reducible exact neF_b _ _ | with_reducible exact eqF_b _ _ | with_reducible exact neF_s _ _ | with_reducible exact eqF_s _ _ | with_reducible exact ev_neI _ _ | with_reducible exact ev_eqI _ _ | exact ev_neI _ _ | exact ev_eqI _ _ | ((fail_if_success (with_reducible apply lf_ne)); (fail_if_success (with_reducible apply lf_eq)); exact rfl) | exact term_eq _ | exact ev_isn _ _ | solve_by_elim (maxDepth := 3))
    | ((with_reducible apply lf_call); first | with_reducible assumption | solve_by_elim (maxDepth := 3))
    | ((with_reducible apply lf_fr); first | with_reducible assumption | solve_by_elim (maxDepth := 3))
    | ((with_reducible apply lf_cex); first | with_reducible assumption | solve_by_elim (maxDepth := 3))
    | ((with_reducible apply lf_callB); first | with_reducible assumption | solve_by_elim (maxDepth := 3)))
def Rank (rows : Rows) : Prop := ∃ rk : Nat → Nat, ∀ i, ∀ a ∈ rows.getD i [], a.2.2 = 0 → ∀ j, evOf a.1 = some j → rk j < rk i
def pos (found : List Nat) (i : Nat) : Nat := (found.takeWhile fun y => !decide (y = i)).length
theorem pos_eq {x : Nat} {post : List Nat} : ∀ {pre : List Nat}, x ∉ pre → pos (pre ++ x :: post) x = pre.length
  | [], _ => by simp [pos]
  | y :: pre, h => by
    have h1 : ¬ y = x := fun z => h (by rw [z]; exact List.mem_cons_self ..)
    have := pos_eq (post := post) (pre := pre) fun z => h (List.mem_cons_of_mem _ z)
    unfold pos at *
    simp [h1, this]
theorem pos_lt {y : Nat} {post : List Nat} : ∀ {pre : List Nat}, y ∈ pre → pos (pre ++ post) y < pre.length
  | z :: pre, h => by
    by_cases e : z = y
    · subst e; simp [pos]
    · have h' : y ∈ pre := by
        rcases List.mem_cons.mp h with h | h
        · exact absurd h.symm e
        · exact h
      have := pos_lt (post := post) h'
      unfold pos at *
      simp [e]
      omega
theorem Ord.rank {rows : Rows} {found : List Nat} (h : Ord rows found) (hl : ∀ i, i < rows.length → i ∈ found) : Rank rows := by
  refine ⟨pos found, fun i a ha h0 j hj => ?_⟩
  have hi : i < rows.length := by
    rcases Nat.lt_or_ge i rows.length with h | h
    · exact h
    · rw [List.getD_eq_getElem?_getD, List.getElem?_eq_none h] at ha
      simp at ha
  obtain ⟨pre, post, e⟩ := List.append_of_mem (hl i hi)
  obtain ⟨_, h2, h3⟩ := h pre i post e
  have hw : j ∈ waits (rows.getD i []) := by
    unfold waits
    exact List.mem_filterMap.mpr ⟨a, List.mem_filter.mpr ⟨ha, decide_eq_true h0⟩, hj⟩
  rw [e, pos_eq h2]
  exact pos_lt (h3 j hw)
end Rn
end
section
set_option Elab.async false
set_option linter.all false
set_option maxRecDepth 100000
set_option maxHeartbeats 4000000
namespace Rn
open PySem PySem.Spec L2
local macro_rules
  | `(tactic| array_get_dec) => `(tactic| focus first
    | (with_reducible assumption)
    | ((with_reducible apply mT_ok); all_goals array_get_dec)
    | ((with_reducible apply op_ok); all_goals array_get_dec)
    | ((with_reducible apply cons_ok); all_goals array_get_dec)
    | ((with_reducible apply call_ok); all_goals array_get_dec)
    | ((with_reducible apply callX_ok); all_goals array_get_dec)
    | ((with_reducible apply callX_ex); all_goals array_get_dec)
    | ((with_reducible apply callB_ok); all_goals array_get_dec)
    | ((with_reducible apply tst_ok); all_goals array_get_dec)
    | ((with_reducible apply cb_ok); all_goals array_get_dec)
    | ((with_reducible apply un_ok); all_goals array_get_dec)
    | ((with_reducible apply slc_ok); all_goals array_get_dec)
    | ((with_reducible apply part_ok); all_goals array_get_dec)
    | ((with_reducible apply not_ok); all_goals array_get_dec)
    | ((with_reducible apply notV_ok); all_goals array_get_dec)
    | ((with_reducible apply seqT_ok); all_goals array_get_dec)
    | ((with_reducible apply seqL_ok); all_goals array_get_dec)
    | ((with_reducible apply dget_ok); all_goals array_get_dec)
    | ((with_reducible apply chain_b); all_goals array_get_dec)
    | ((with_reducible apply callF_ok); all_goals array_get_dec)
    | ((with_reducible apply isi_ok); (focus array_get_dec); (focus array_get_dec); (first | exact rfl | with_reducible assumption))
    | ((with_reducible apply tup_ok); (focus array_get_dec); (first | exact (by decide) | simp))
    | ((with_reducible apply lst_ok); (focus array_get_dec); (first | exact (by decide) | simp))
    | ((with_reducible apply if_T); (focus array_get_dec); (focus first | exact rfl | with_reducible assumption); (focus array_get_dec))
    | ((with_reducible apply if_F); (focus array_get_dec); (focus first | exact rfl | with_reducible assumption); (focus array_get_dec))
    | ((with_reducible apply and_T); (focus array_get_dec); (focus first | exact rfl | with_reducible assumption); (focus array_get_dec))
    | ((with_reducible apply or_F); (focus array_get_dec); (focus first | exact rfl | with_reducible assumption); (focus array_get_dec))
    | ((with_reducible apply andV_T); (focus array_get_dec); (focus first | exact rfl | with_reducible assumption); (focus array_get_dec))
    | ((with_reducible apply orV_F); (focus array_get_dec); (focus first | exact rfl | with_reducible assumption); (focus array_get_dec))
    | ((with_reducible apply and_F); (focus array_get_dec); (focus first | exact rfl | with_reducible assumption))
    | ((with_reducible apply or_T); (focus array_get_dec); (focus first | exact rfl | with_reducible assumption))
    | ((with_reducible apply andV_F); (focus array_get_dec); (focus first | exact rfl | with_reducible assumption))
    | ((with_reducible apply orV_T); (focus array_get_dec); (focus first | exact rfl | with_reducible assumption))
    | ((with_reducible apply and_b); all_goals array_get_dec)
    | ((with_reducible apply or_b); all_goals array_get_dec)
    | ((with_reducible apply andV_b); all_goals array_get_dec)
    | ((with_reducible apply orV_b); all_goals array_get_dec)
    | ((with_reducible apply callX_t); (focus array_get_dec); decide)
    | ((with_reducible apply told_ok); all_goals array_get_dec)
    | ((with_reducible apply lc_a); (focus array_get_dec); (focus first | with_reducible assumption | (simp [big]; done) | (simp [big]; omega)); (exact rfl); (intro x hx; refine ⟨_, rfl, ?_, rfl⟩; first | with_reducible assumption | array_get_dec))
    | ((with_reducible apply rng1_a); (focus array_get_dec); (focus first | with_reducible assumption | exact rfl); (focus first | with_reducible assumption | omega | (simp; done) | (simp; omega)))
    | ((with_reducible apply rng2_a); (focus array_get_dec); (focus first | with_reducible assumption | exact rfl); (focus first | with_reducible assumption | exact rfl); (focus first | with_reducible assumption | omega | (simp; done) | (simp; omega)); (focus first | with_reducible assumption | omega | (simp; done) | (simp; omega)))
    | ((with_reducible apply enum_a); (focus array_get_dec); (focus exact rfl))
    | ((with_reducible apply lf_var); exact rfl)
    | ((with_reducible apply lf_varT); exact rfl)
    | ((with_reducible apply lf_ret); exact rfl)
    | ((with_reducible apply lf_nil); exact rfl)
    | ((with_reducible apply lf_nop); exact rfl)
    | ((with_reducible apply lf_dt0); exact rfl)
    | ((with_reducible apply lf_opts); exact rfl)
    | ((with_reducible apply lf_optR); exact rfl)
    | ((with_reducible apply lf_opt); first | with_reducible assumption | with_reducible exact isn_o _ | with_reducible exact ist_o _ | with_reducible exact neF_o _ _ | with_reducible exact eqF_o _ _ | with_reducible exact neF_b _ _ | with_reducible exact eqF_b _ _ | with_reducible exact neF_s _ _ | with_reducible exact eqF_s _ _ | with_reducible exact ev_neI _ _ | with_reducible exact ev_eqI _ _ | exact ev_neI _ _ | exact ev_eqI _ _ | ((fail_if_success (with_reducible apply lf_ne)); (fail_if_success (with_reducible apply lf_eq)); exact rfl) | exact term_eq _ | exact ev_isn _ _ | solve_by_elim (maxDepth := 3))
    | ((with_reducible apply lf_call); first | with_reducible assumption | solve_by_elim (maxDepth := 3))
    | ((with_reducible apply lf_fr); first | with_reducible assumption | solve_by_elim (maxDepth := 3))
    | ((with_reducible apply lf_cex); first | with_reducible assumption | solve_by_elim (maxDepth := 3))
    | ((with_reducible apply lf_callB); first | with_reducible assumption | solve_by_elim (maxDepth := 3)))
theorem dig_sk {k : Nat} (h : k < 10) : strF [.int (k : Int)] = some (.str (toString (k : Int))) := dig_s ⟨k, h⟩
end Rn
end
section
set_option Elab.async false
set_option linter.all false
set_option maxRecDepth 100000
set_option maxHeartbeats 1000000
namespace Rn
open PySem PySem.Spec L2
local macro_rules
  | `(tactic| array_get_dec) => `(tactic| focus first
    | (with_reducible assumption)
    | ((with_reducible apply mT_ok); all_goals array_get_dec)
    | ((with_reducible apply op_ok); all_goals array_get_dec)
    | ((with_reducible apply cons_ok); all_goals array_get_dec)
    | ((with_reducible apply call_ok); all_goals array_get_dec)
    | ((with_reducible apply callX_ok); all_goals array_get_dec)
    | ((with_reducible apply callX_ex); all_goals array_get_dec)
    | ((with_reducible apply callB_ok); all_goals array_get_dec)
    | ((with_reducible apply tst_ok); all_goals array_get_dec)
    | ((with_reducible apply cb_ok); all_goals array_get_dec)
    | ((with_reducible apply un_ok); all_goals array_get_dec)
    | ((with_reducible apply slc_ok); all_goals array_get_dec)
    | ((with_reducible apply part_ok); all_goals array_get_dec)
    | ((with_reducible apply not_ok); all_goals array_get_dec)
    | ((with_reducible apply notV_ok); all_goals array_get_dec)
    | ((with_reducible apply seqT_ok); all_goals array_get_dec)
    | ((with_reducible apply seqL_ok); all_goals array_get_dec)
    | ((with_reducible apply dget_ok); all_goals array_get_dec)
    | ((with_reducible apply chain_b); all_goals array_get_dec)
    | ((with_reducible apply callF_ok); all_goals array_get_dec)
    | ((with_reducible apply isi_ok); (focus array_get_dec); (focus array_get_dec); (first | exact rfl | with_reducible assumption))
    | ((with_reducible apply tup_ok); (focus array_get_dec); (first | exact (by decide) | simp))
    | ((with_reducible apply lst_ok); (focus array_get_dec); (first | exact (by decide) | simp))
    | ((with_reducible apply if_T); (focus array_get_dec); (focus first | exact rfl | with_reducible assumption); (focus array_get_dec))
    | ((with_reducible apply if_F); (focus array_get_dec); (focus first | exact rfl | with_reducible assumption); (focus array_get_dec))
    | ((with_reducible apply and_T); (focus array_get_dec); (focus first | exact rfl | with_reducible assumption); (focus array_get_dec))
    | ((with_reducible apply or_F); (focus array_get_dec); (focus first | exact rfl | with_reducible assumption); (focus array_get_dec))
    | ((with_reducible apply andV_T); (focus array_get_dec); (focus first | exact rfl | with_reducible assumption); (focus array_get_dec))
    | ((with_reducible apply orV_F); (focus array_get_dec); (focus first | exact rfl | with_reducible assumption); (focus array_get_dec))
    | ((with_reducible apply and_F); (focus array_get_dec); (focus first | exact rfl | with_reducible assumption))
    | ((with_reducible apply or_T); (focus array_get_dec); (focus first | exact rfl | with_reducible assumption))
    | ((with_reducible apply andV_F); (focus array_get_dec); (focus first | exact rfl | with_reducible assumption))
    | ((with_reducible apply orV_T); (focus array_get_dec); (focus first | exact rfl | with_reducible assumption))
    | ((with_reducible apply and_b); all_goals array_get_dec)
    | ((with_reducible apply or_b); all_goals array_get_dec)
    | ((with_reducible apply andV_b); all_goals array_get_dec)
    | ((with_reducible apply orV_b); all_goals array_get_dec)
    | ((with_reducible apply callX_t); (focus array_get_dec); decide)
    | ((with_reducible apply told_ok); all_goals array_get_dec)
    | ((with_reducible apply lc_a); (focus array_get_dec); (focus first | with_reducible assumption | (simp [big]; done) | (simp [big]; omega)); (exact rfl); (intro x hx; refine ⟨_, rfl, ?_, rfl⟩; first | with_reducible assumption | array_get_dec))
    | ((with_reducible apply rng1_a); (focus array_get_dec); (focus first | with_reducible assumption | exact rfl); (focus first | with_reducible assumption | omega | (simp; done) | (simp; omega)))
    | ((with_reducible apply rng2_a); (focus array_get_dec); (focus first | with_reducible assumption | exact rfl); (focus first | with_reducible assumption | exact rfl); (focus first | with_reducible assumption | omega | (simp; done) | (simp; omega)); (focus first | with_reducible assumption | omega | (simp; done) | (simp; omega)))
    | ((with_reducible apply enum_a); (focus array_get_dec); (focus exact rfl))
    | ((with_reducible apply lf_var); exact rfl)
    | ((with_reducible apply lf_varT); exact rfl)
    | ((with_reducible apply lf_ret); exact rfl)
    | ((with_reducible apply lf_nil); exact rfl)
    | ((with_reducible apply lf_nop); exact rfl)
    | ((with_reducible apply lf_dt0); exact rfl)
    | ((with_reducible apply lf_opts); exact rfl)
    | ((with_reducible apply lf_optR); exact rfl)
    | ((with_reducible apply lf_opt); first | with_reducible assumption | with_reducible exact isn_o _ | with_reducible exact ist_o _ | with_reducible exact neF_o _ _ | with_reducible exact eqF_o _ _ | with_reducible exact neF_b _ _ | with_reducible exact eqF_b _ _ | with_reducible exact neF_s _ _ | with_reducible exact eqF_s _ _ | with_reducible exact ev_neI _ _ | with_reducible exact ev_eqI _ _ | exact ev_neI _ _ | exact ev_eqI _ _ | ((fail_if_success (with_reducible apply lf_ne)); (fail_if_success (with_reducible apply lf_eq)); exact rfl) | exact term_eq _ | exact ev_isn _ _ | solve_by_elim (maxDepth := 3))
    | ((with_reducible apply lf_call); first | with_reducible assumption | solve_by_elim (maxDepth := 3))
    | ((with_reducible apply lf_fr); first | with_reducible assumption | solve_by_elim (maxDepth := 3))
    | ((with_reducible apply lf_cex); first | with_reducible assumption | solve_by_elim (maxDepth := 3))
    | ((with_reducible apply lf_callB); first | with_reducible assumption | solve_by_elim (maxDepth := 3)))
def SubN (a b : Net) : Prop := a.2.1.length = b.2.1.length ∧ ∀ i, ∀ x ∈ a.2.1.getD i [], ∃ y ∈ b.2.1.getD i [], x.1 = y.1 ∧ x.2.1 ≤ y.2.1 ∧ x.2.2 = y.2.2
theorem SubN.refl (a : Net) : SubN a a := ⟨rfl, fun i x hx => ⟨x, hx, rfl, Nat.le_refl _, rfl⟩⟩
theorem SubN.trans {a b c : Net} (h : SubN a b) (g : SubN b c) : SubN a c := ⟨h.1.trans g.1, fun i x hx => by
  obtain ⟨y, hy, a1, a2, a3⟩ := h.2 i x hx
  obtain ⟨z, hz, b1, b2, b3⟩ := g.2 i y hy
  exact ⟨z, hz, a1.trans b1, Nat.le_trans a2 b2, a3.trans b3⟩⟩
end Rn
end
section
set_option Elab.async false
set_option linter.all false
set_option maxRecDepth 100000
set_option maxHeartbeats 1000000
namespace Rn
open PySem PySem.Spec L2
local macro_rules
  | `(tactic| array_get_dec) => `(tactic| focus first
    | (with_reducible assumption)
    | ((with_reducible apply mT_ok); all_goals array_get_dec)
    | ((with_reducible apply op_ok); all_goals array_get_dec)
    | ((with_reducible apply cons_ok); all_goals array_get_dec)
    | ((with_reducible apply call_ok); all_goals array_get_dec)
    | ((with_reducible apply callX_ok); all_goals array_get_dec)
    | ((with_reducible apply callX_ex); all_goals array_get_dec)
    | ((with_reducible apply callB_ok); all_goals array_get_dec)
    | ((with_reducible apply tst_ok); all_goals array_get_dec)
    | ((with_reducible apply cb_ok); all_goals array_get_dec)
    | ((with_reducible apply un_ok); all_goals array_get_dec)
    | ((with_reducible apply slc_ok); all_goals array_get_dec)
    | ((with_reducible apply part_ok); all_goals array_get_dec)
    | ((with_reducible apply not_ok); all_goals array_get_dec)
    | ((with_reducible apply notV_ok); all_goals array_get_dec)
    | ((with_reducible apply seqT_ok); all_goals array_get_dec)
    | ((with_reducible apply seqL_ok); all_goals array_get_dec)
    | ((with_reducible apply dget_ok); all_goals array_get_dec)
    | ((with_reducible apply chain_b); all_goals array_get_dec)
    | ((with_reducible apply callF_ok); all_goals array_get_dec)
    | ((with_reducible apply isi_ok); (focus array_get_dec); (focus array_get_dec); (first | exact rfl | with_reducible assumption))
    | ((with_reducible apply tup_ok); (focus array_get_dec); (first | exact (by decide) | simp))
    | ((with_reducible apply lst_ok); (focus array_get_dec); (first | exact (by decide) | simp))
    | ((with_reducible apply if_T); (focus array_get_dec); (focus first | exact rfl | with_reducible assumption); (focus array_get_dec))
    | ((with_reducible apply if_F); (focus array_get_dec); (focus first | exact rfl | with_reducible assumption); (focus array_get_dec))
    | ((with_reducible apply and_T); (focus array_get_dec); (focus first | exact rfl | with_reducible assumption); (focus array_get_dec))
    | ((with_reducible apply or_F); (focus array_get_dec); (focus first | exact rfl | with_reducible assumption); (focus array_get_dec))
    | ((with_reducible apply andV_T); (focus array_get_dec); (focus first | exact rfl | with_reducible assumption); (focus array_get_dec))
    | ((with_reducible apply orV_F); (focus array_get_dec); (focus first | exact rfl | with_reducible assumption); (focus array_get_dec))
    | ((with_reducible apply and_F); (focus array_get_dec); (focus first | exact rfl | with_reducible assumption))
    | ((with_reducible apply or_T); (focus array_get_dec); (focus first | exact rfl | with_reducible assumption))
    | ((with_reducible apply andV_F); (focus array_get_dec); (focus first | exact rfl | with_reducible assumption))
    | ((with_reducible apply orV_T); (focus array_get_dec); (focus first | exact rfl | with_reducible assumption))
    | ((with_reducible apply and_b); all_goals array_get_dec)
    | ((with_reducible apply or_b); all_goals array_get_dec)
    | ((with_reducible apply andV_b); all_goals array_get_dec)
    | ((with_reducible apply orV_b); all_goals array_get_dec)
    | ((with_reducible apply callX_t); (focus array_get_dec); decide)
    | ((with_reducible apply told_ok); all_goals array_get_dec)
    | ((with_reducible apply lc_a); (focus array_get_dec); (focus first | with_reducible assumption | (simp [big]; done) | (simp [big]; omega)); (exact rfl); (intro x hx; refine ⟨_, rfl, ?_, rfl⟩; first | with_reducible assumption | array_get_dec))
    | ((with_reducible apply rng1_a); (focus array_get_dec); (focus first | with_reducible assumption | exact rfl); (focus first | with_reducible assumption | omega | (simp; done) | (simp; omega)))
    | ((with_reducible apply rng2_a); (focus array_get_dec); (focus first | with_reducible assumption | exact rfl); (focus first | with_reducible assumption | exact rfl); (focus first | with_reducible assumption | omega | (simp; done) | (simp; omega)); (focus first | with_reducible assumption | omega | (simp; done) | (simp; omega)))
    | ((with_reducible apply enum_a); (focus array_get_dec); (focus exact rfl))
    | ((with_reducible apply lf_var); exact rfl)
    | ((with_reducible apply lf_varT); exact rfl)
    | ((with_reducible apply lf_ret); exact rfl)
    | ((with_reducible apply lf_nil); exact rfl)
    | ((with_reducible apply lf_nop); exact rfl)
    | ((with_reducible apply lf_dt0); exact rfl)
    | ((with_reducible apply lf_opts); exact rfl)
    | ((with_reducible apply lf_optR); exact rfl)
    | ((with_reducible apply lf_opt); first | with_reducible assumption | with_reducible exact isn_o _ | with_reducible exact ist_o _ | with_reducible exact neF_o _ _ | with_reducible exact eqF_o _ _ | with_reducible exact neF_b _ _ | with_reducible exact eqF_b _ _ | with_reducible exact neF_s _ _ | with_reducible exact eqF_s _ _ | with_reducible exact ev_neI _ _ | with_reducible exact ev_eqI _ _ | exact ev_neI _ _ | exact ev_eqI _ _ | ((fail_if_success (with_reducible apply lf_ne)); (fail_if_success (with_reducible apply lf_eq)); exact rfl) | exact term_eq _ | exact ev_isn _ _ | solve_by_elim (maxDepth := 3))
    | ((with_reducible apply lf_call); first | with_reducible assumption | solve_by_elim (maxDepth := 3))
    | ((with_reducible apply lf_fr); first | with_reducible assumption | solve_by_elim (maxDepth := 3))
    | ((with_reducible apply lf_cex); first | with_reducible assumption | solve_by_elim (maxDepth := 3))
    | ((with_reducible apply lf_callB); first | with_reducible assumption | solve_by_elim (maxDepth := 3)))
theorem getD_mem {rows : Rows} {e : Nat} (he : e < rows.length) : rows.getD e [] ∈ rows := by
  rw [List.getD_eq_getElem?_getD, List.getElem?_eq_getElem he]
  exact List.getElem_mem _
end Rn
end
section
set_option Elab.async false
set_option linter.all false
set_option maxRecDepth 100000
set_option maxHeartbeats 1000000
namespace Rn
open PySem PySem.Spec L2
local macro_rules
  | `(tactic| array_get_dec) => `(tactic| focus first
    | (with_reducible assumption)
    | ((with_reducible apply mT_ok); all_goals array_get_dec)
    | ((with_reducible apply op_ok); all_goals array_get_dec)
    | ((with_reducible apply cons_ok); all_goals array_get_dec)
    | ((with_reducible apply call_ok); all_goals array_get_dec)
    | ((with_reducible apply callX_ok); all_goals array_get_dec)
    | ((with_reducible apply callX_ex); all_goals array_get_dec)
    | ((with_reducible apply callB_ok); all_goals array_get_dec)
    | ((with_reducible apply tst_ok); all_goals array_get_dec)
    | ((with_reducible apply cb_ok); all_goals array_get_dec)
    | ((with_reducible apply un_ok); all_goals array_get_dec)
    | ((with_reducible apply slc_ok); all_goals array_get_dec)
    | ((with_reducible apply part_ok); all_goals array_get_dec)
    | ((with_reducible apply not_ok); all_goals array_get_dec)
    | ((with_reducible apply notV_ok); all_goals array_get_dec)
    | ((with_reducible apply seqT_ok); all_goals array_get_dec)
    | ((with_reducible apply seqL_ok); all_goals array_get_dec)
    | ((with_reducible apply dget_ok); all_goals array_get_dec)
    | ((with_reducible apply chain_b); all_goals array_get_dec)
    | ((with_reducible apply callF_ok); all_goals array_get_dec)
    | ((with_reducible apply isi_ok); (focus array_get_dec); (focus array_get_dec); (first | exact rfl | with_reducible assumption))
    | ((with_reducible apply tup_ok); (focus array_get_dec); (first | exact (by decide) | simp))
    | ((with_reducible apply lst_ok); (focus array_get_dec); (first | exact (by decide) | simp))
    | ((with_reducible apply if_T); (focus array_get_dec); (focus first | exact rfl | with_reducible assumption); (focus array_get_dec))
    | ((with_reducible apply if_F); (focus array_get_dec); (focus first | exact rfl | with_reducible assumption); (focus array_get_dec))
    | ((with_reducible apply and_T); (focus array_get_dec); (focus first | exact rfl | with_reducible assumption); (focus array_get_dec))
    | ((with_reducible apply or_F); (focus array_get_dec); (focus first | exact rfl | with_reducible assumption); (focus array_get_dec))
    | ((with_reducible apply andV_T); (focus array_get_dec); (focus first | exact rfl | with_reducible assumption); (focus array_get_dec))
    | ((with_reducible apply orV_F); (focus array_get_dec); (focus first | exact rfl | with_reducible assumption); (focus array_get_dec))
    | ((with_reducible apply and_F); (focus array_get_dec); (focus first | exact rfl | with_reducible assumption))
    | ((with_reducible apply or_T); (focus array_get_dec); (focus first | exact rfl | with_reducible assumption))
    | ((with_reducible apply andV_F); (focus array_get_dec); (focus first | exact rfl | with_reducible assumption))
    | ((with_reducible apply orV_T); (focus array_get_dec); (focus first | exact rfl | with_reducible assumption))
    | ((with_reducible apply and_b); all_goals array_get_dec)
    | ((with_reducible apply or_b); all_goals array_get_dec)
    | ((with_reducible apply andV_b); all_goals array_get_dec)
    | ((with_reducible apply orV_b); all_goals array_get_dec)
    | ((with_reducible apply callX_t); (focus array_get_dec); decide)
    | ((with_reducible apply told_ok); all_goals array_get_dec)
    | ((with_reducible apply lc_a); (focus array_get_dec); (focus first | with_reducible assumption | (simp [big]; done) | (simp [big]; omega)); (exact rfl); (intro x hx; refine ⟨_, rfl, ?_, rfl⟩; first | with_reducible assumption | array_get_dec))
    | ((with_reducible apply rng1_a); (focus array_get_dec); (focus first | with_reducible assumption | exact rfl); (focus first | with_reducible assumption | omega | (simp; done) | (simp; omega)))
    | ((with_reducible apply rng2_a); (focus array_get_dec); (focus first | with_reducible assumption | exact rfl); (focus first | with_reducible assumption | exact rfl); (focus first | with_reducible assumption | omega | (simp; done) | (simp; omega)); (focus first | with_reducible assumption | omega | (simp; done) | (simp; omega)))
    | ((with_reducible apply enum_a); (focus array_get_dec); (focus exact rfl))
    | ((with_reducible apply lf_var); exact rfl)
    | ((with_reducible apply lf_varT); exact rfl)
    | ((with_reducible apply lf_ret); exact rfl)
    | ((with_reducible apply lf_nil); exact rfl)
    | ((with_reducible apply lf_nop); exact rfl)
    | ((with_reducible apply lf_dt0); exact rfl)
    | ((with_reducible apply lf_opts); exact rfl)
    | ((with_reducible apply lf_optR); exact rfl)
    | ((with_reducible apply lf_opt); first | with_reducible assumption | with_reducible exact isn_o _ | with_reducible exact ist_o _ | with_reducible exact neF_o _ _ | with_reducible exact eqF_o _ _ | with_reducible exact neF_b _ _ | with_reducible exact eqF_b _ _ | with_reducible exact neF_s _ _ | with_reducible exact eqF_s _ _ | with_reducible exact ev_neI _ _ | with_reducible exact ev_eqI _ _ | exact ev_neI _ _ | exact ev_eqI _ _ | ((fail_if_success (with_reducible apply lf_ne)); (fail_if_success (with_reducible apply lf_eq)); exact rfl) | exact term_eq _ | exact ev_isn _ _ | solve_by_elim (maxDepth := 3))
    | ((with_reducible apply lf_call); first | with_reducible assumption | solve_by_elim (maxDepth := 3))
    | ((with_reducible apply lf_fr); first | with_reducible assumption | solve_by_elim (maxDepth := 3))
    | ((with_reducible apply lf_cex); first | with_reducible assumption | solve_by_elim (maxDepth := 3))
    | ((with_reducible apply lf_callB); first | with_reducible assumption | solve_by_elim (maxDepth := 3)))
structure RowsR (rows : Rows) : Prop where
  l1 : 1 ≤ rows.length
  l5 : rows.length ≤ 5
  src : SrcOk rows
  few : ∀ r ∈ rows, r.length ≤ 6
  arc : ∀ r ∈ rows, ∀ a ∈ r, a.2.1 ≤ 9 ∧ a.2.2 ≤ 6
  rank : Rank rows
theorem RowsR.ok {rows : Rows} (h : RowsR rows) : RowsOk rows 6 ∧ rows.length * (6 * bnd' 6 rows.length) ≤ 300000 := by
  have h5 := h.l5
  have hb : bnd' 6 rows.length ≤ 9331 := by
    generalize rows.length = l at h5
    match l, h5 with
    | 0, _ => decide
    | 1, _ => decide
    | 2, _ => decide
    | 3, _ => decide
    | 4, _ => decide
    | 5, _ => decide
  refine ⟨⟨h.src, h.few, by omega, by omega⟩, ?_⟩
  have : rows.length * (6 * bnd' 6 rows.length) ≤ 5 * (6 * 9331) := Nat.mul_le_mul h5 (by omega)
  omega
theorem RowsR.ring {rows : Rows} (h : RowsR rows) : ∀ w ∈ allW rows rows.length, RingOk rows w := fun w hw => by
  obtain ⟨f, hf, hw⟩ := List.mem_flatMap.mp hw
  obtain ⟨rk, hrk⟩ := h.rank
  have hf := List.mem_range.mp hf
  have hc := cands_le rows f (f, [])
  have hi : NdInv rows f rk (f, []) := ⟨⟨hf, by rw [List.length_nil, Nat.zero_add]; exact hc⟩, fun p hp => by simp at hp, fun _ => Nat.le_refl _⟩
  exact tree_ok h.src hrk _ _ hi w hw
theorem RowsR.sums {rows : Rows} (h : RowsR rows) {w : Way} (hw : RingOk rows w) : dlW rows w ≤ 54 ∧ bkW rows w ≤ 36 := by
  have h5 := h.l5
  have hl := hw.len
  have harc : ∀ p ∈ w, (arcAt rows p).2.1 ≤ 9 ∧ (arcAt rows p).2.2 ≤ 6 := fun p hp => by
    obtain ⟨h1, h2⟩ := hw.way p hp
    have hm : arcAt rows p ∈ rows.getD p.1 [] := by
      unfold arcAt
      rw [List.getD_eq_getElem?_getD (l := rows.getD p.1 []), List.getElem?_eq_getElem h2]
      exact List.getElem_mem _
    obtain ⟨r, hr, har⟩ := getD_memR hm
    exact h.arc r hr _ har
  have d := sum_le (f := fun p => (arcAt rows p).2.1) (b := 9) (xs := w) fun p hp => (harc p hp).1
  have b := sum_le (f := fun p => (arcAt rows p).2.2) (b := 6) (xs := w) fun p hp => (harc p hp).2
  unfold dlW bkW
  omega
/-- what the greatest ratio is -/
def Slow (rows : Rows) (o : Option (Nat × Nat)) : Prop := match o with
  | none => ∀ m r, ¬ SimpR rows m r
  | some f => 0 < f.2 ∧ f.1 ≤ 1000 ∧ f.2 ≤ 1000 ∧ (∀ m r, SimpR rows m r → wtP r * f.2 ≤ f.1 * lenP r) ∧ ∃ m r, IsPath rows m r m ∧ r ≠ [] ∧ 0 < lenP r ∧ wtP r * f.2 = f.1 * lenP r
def encN : Option (Nat × Nat) → D
  | none => .none
  | some f => .tuple [.int (f.1 : Int), .int (f.2 : Int)]
/-- the greatest of the rings, however they are put and weighed -/
theorem slow_of {rows : Rows} (h : RowsR rows) {ws : List Way} (hm : ∀ w, w ∈ ws ↔ w ∈ allW rows rows.length) {F : Way → Fr} (hF : ∀ w ∈ ws, ∃ g x y : Nat, 0 < g ∧ 0 < y ∧ dlW rows w = g * x ∧ bkW rows w = g * y ∧ F w = ((x : Int), (y : Int))) : ∃ o, (ws.map F).foldl grt none = o.map (fun f : Nat × Nat => ((f.1 : Int), (f.2 : Int))) ∧ Slow rows o := by
  cases hws : ws with
  | nil =>
    refine ⟨none, rfl, fun m r hr => ?_⟩
    obtain ⟨w, hw, _⟩ := ring_found2 h.src hr
    have := (hm w).mpr hw
    rw [hws] at this
    simp at this
  | cons w1 rest =>
    obtain ⟨M, hM⟩ := grt_some (rest.map F) (F w1)
    have pos : ∀ w ∈ ws, 0 < (F w).2 := fun w hw => by
      obtain ⟨g, x, y, _, hy, _, _, e⟩ := hF w hw
      rw [e]
      show (0 : Int) < (y : Int)
      omega
    obtain ⟨s1, s2, s3⟩ := grt_spec (rest.map F) (F w1) M (pos w1 (by rw [hws]; exact List.mem_cons_self ..)) (fun f hf => by
      obtain ⟨w, hw, rfl⟩ := List.mem_map.mp hf
      exact pos w (by rw [hws]; exact List.mem_cons_of_mem _ hw)) hM
    obtain ⟨w0, hw0, eM⟩ : ∃ w0 ∈ ws, M = F w0 := by
      rw [hws]
      rcases s1 with s1 | s1
      · exact ⟨w1, List.mem_cons_self .., s1⟩
      · obtain ⟨w, hw, e⟩ := List.mem_map.mp s1
        exact ⟨w, List.mem_cons_of_mem _ hw, e.symm⟩
    have top : ∀ w ∈ ws, (F w).1 * M.2 ≤ M.1 * (F w).2 := fun w hw => by
      rw [hws] at hw
      rcases List.mem_cons.mp hw with rfl | hw
      · exact s2
      · exact s3 _ (List.mem_map.mpr ⟨w, hw, rfl⟩)
    obtain ⟨g, X, Y, hg, hY, eX, eY, e3⟩ := hF w0 hw0
    have ha0 := (hm w0).mp hw0
    have sm := h.sums (h.ring w0 ha0)
    have lX : X ≤ dlW rows w0 := by rw [eX]; exact Nat.le_mul_of_pos_left _ hg
    have lY : Y ≤ bkW rows w0 := by rw [eY]; exact Nat.le_mul_of_pos_left _ hg
    refine ⟨some (X, Y), ?_, hY, by simp only; omega, by simp only; omega, fun m r hr => ?_, ?_⟩
    · show (rest.map F).foldl grt (some (F w1)) = some ((X : Int), (Y : Int))
      rw [hM, eM, e3]
    · obtain ⟨w, hw, q1, q2, _⟩ := ring_found2 h.src hr
      have hw' := (hm w).mpr hw
      have t := top w hw'
      obtain ⟨g', x', y', hg', hy', ex', ey', e3'⟩ := hF w hw'
      rw [eM, e3, e3'] at t
      have t : (x' : Int) * (Y : Int) ≤ (X : Int) * (y' : Int) := t
      have t : x' * Y ≤ X * y' := by exact_mod_cast t
      show wtP r * Y ≤ X * lenP r
      rw [← q1, ← q2, ex', ey', Nat.mul_assoc, Nat.mul_left_comm X]
      exact Nat.mul_le_mul_left _ t
    · obtain ⟨l, p1, p2, p3, p4, _⟩ := way_path h.src ha0
      have b1 := (h.ring w0 ha0).bk1
      refine ⟨_, l, p1, p2, by omega, ?_⟩
      show wtP l * Y = X * lenP l
      rw [p3, p4, eX, eY]
      simp only [Nat.mul_assoc, Nat.mul_left_comm, Nat.mul_comm]
theorem RowsR.ways {rows : Rows} (h : RowsR rows) : ∃ ws : List Way, RG rows = ws.map ringT ∧ (∀ w, w ∈ ws ↔ w ∈ allW rows rows.length) ∧ ws.length ≤ 300000 := by
  obtain ⟨ok, hs⟩ := h.ok
  obtain ⟨ws, e, hw⟩ := pre_list (f := ringT) (P := fun w => w ∈ allW rows rows.length) (l := RG rows) fun d hd => by
    have := (isort_perm ((allW rows rows.length).map ringT)).mem_iff.mp hd
    obtain ⟨w, hw, e⟩ := List.mem_map.mp this
    exact ⟨w, hw, e⟩
  have inj : ∀ {v w : Way}, ringT v = ringT w → v = w := fun {v w} h => by
    have e := good_ring.eqv v w
    have e2 := good_ring.eqv w w
    rw [h, e2] at e
    simpa using e.symm
  refine ⟨ws, e, fun w => ⟨hw w, fun hw2 => ?_⟩, ?_⟩
  · have : ringT w ∈ RG rows := (isort_perm ((allW rows rows.length).map ringT)).mem_iff.mpr (List.mem_map.mpr ⟨w, hw2, rfl⟩)
    rw [e] at this
    obtain ⟨v, hv, ev⟩ := List.mem_map.mp this
    rw [← inj ev]; exact hv
  · have h1 : ws.length = (RG rows).length := by rw [e, List.length_map]
    have h2 : (RG rows).length = (allW rows rows.length).length := by
      unfold RG
      rw [(isort_perm _).length_eq, List.length_map]
    have h3 := allW_len ok rows.length
    omega
theorem fr_small2 {rows : Rows} {w : Way} (h : bkW rows w ≤ 36) : isSmall (frW rows w).2 = true := by
  obtain ⟨k, hk, hk2⟩ : ∃ k : Nat, (frW rows w).2 = (k : Int) ∧ k ≤ 36 := ⟨_, rfl, Nat.le_trans (Nat.div_le_self _ _) h⟩
  rw [hk]
  unfold isSmall
  rw [Bool.and_eq_true]
  exact ⟨decide_eq_true (by omega), decide_eq_true (by omega)⟩
theorem RowsR.w_slowest_of {rows : Rows} (h : RowsR rows) : ∃ o, g_slowest_of [rowsD rows] = .ok (encN o) ∧ Slow rows o := by
  obtain ⟨ok, hs⟩ := h.ok
  have hr := Rn.w_rings_of ok (by omega)
  obtain ⟨ws, e, hm, hl⟩ := h.ways
  rw [e] at hr
  have hw : ∀ w ∈ ws, RingOk rows w := fun w hw => h.ring w ((hm w).mp hw)
  have hl5 := h.l5
  have lc : mLc (mSeqI (mCall0 g_rings_of (mCons (mVar 0) (mNil)))) (hName 1) (mYes) (e0_slowest_of) [1] [.fz (rowsD rows), .no] = .ok (.list ((ws.map (frW rows)).map encF)) [.fz (rowsD rows), .no] := by
    rw [List.map_map]
    refine mlc_map0 ws ringT _ (seqL_ok (call_ok rfl hr)) (by simp only [big]; omega) rfl (fun w hw' => ⟨_, rfl, call_ok rfl ?_, rfl⟩)
    have h1 := h.sums (hw w hw')
    have h2 := (hw w hw').len
    have h3 := (hw w hw').bk1
    exact Rn.w_ratio (hw w hw').way (by omega) (by omega) (by omega)
  have g := w_greatest (ws.map (frW rows)) (fun f hf => by
    obtain ⟨w, hw', rfl⟩ := List.mem_map.mp hf
    exact fr_small2 (h.sums (hw w hw')).2)
  obtain ⟨o, eo, so⟩ := slow_of h hm (F := frW rows) fun w hw' => by
    obtain ⟨g, x, y, a1, a2, a3, a4, _, a5⟩ := low_parts (a := dlW rows w) (hw w hw').bk1
    exact ⟨g, x, y, a1, a2, a3, a4, a5⟩
  refine ⟨o, ?_, so⟩
  rw [eo] at g
  have : encO (o.map fun f : Nat × Nat => ((f.1 : Int), (f.2 : Int))) = encN o := by cases o <;> rfl
  rw [this] at g
  unfold g_slowest_of
  rw [call1 (m := 1)]
  exact fin_rt (ret_ok (call_ok (cons_ok lc rfl) g))
/-- a pace that is kept -/
def KeepP (rows : Rows) (p q : Nat) : Prop := ∀ m r, SimpR rows m r → wtP r * q ≤ p * lenP r
theorem keep_closed {rows : Rows} {p q : Nat} (h : KeepP rows p q) {m : Nat} {r : List Ed} (hp : IsPath rows m r m) : wtP r * q ≤ p * lenP r := cyc_le (P := fun _ => True) (fun m r hr _ => h m r hr) r.length r m (Nat.le_refl _) hp (fun _ _ => trivial)
theorem slow_keep {rows : Rows} {o : Option (Nat × Nat)} (h : Slow rows o) {p q : Nat} : KeepP rows p q ↔ ∀ f, o = some f → f.1 * q ≤ p * f.2 := by
  constructor
  · intro hk f hf
    subst hf
    obtain ⟨h1, _, _, h2, m, r, h3, _, h4, h5⟩ := h
    have := keep_closed hk h3
    have a1 : f.1 * q * lenP r ≤ p * f.2 * lenP r := by
      have e1 : f.1 * q * lenP r = (wtP r * q) * f.2 := by rw [Nat.mul_right_comm, ← h5, Nat.mul_right_comm]
      have e2 : p * f.2 * lenP r = (p * lenP r) * f.2 := Nat.mul_right_comm ..
      rw [e1, e2]
      exact Nat.mul_le_mul_right _ this
    exact Nat.le_of_mul_le_mul_right a1 h4
  · intro hk m r hr
    cases o with
    | none => exact absurd hr (h m r)
    | some f =>
      obtain ⟨h1, _, _, h2, _⟩ := h
      have a1 := h2 m r hr
      have a2 := hk f rfl
      apply Nat.le_of_mul_le_mul_right (c := f.2) _ h1
      calc wtP r * q * f.2 = wtP r * f.2 * q := Nat.mul_right_comm ..
        _ ≤ f.1 * lenP r * q := Nat.mul_le_mul_right _ a1
        _ = f.1 * q * lenP r := Nat.mul_right_comm ..
        _ ≤ p * f.2 * lenP r := Nat.mul_le_mul_right _ a2
        _ = p * lenP r * f.2 := Nat.mul_right_comm ..
end Rn
end
section
set_option Elab.async false
set_option linter.all false
set_option maxRecDepth 100000
set_option maxHeartbeats 1000000
namespace Rn
open PySem PySem.Spec L2
local macro_rules
  | `(tactic| array_get_dec) => `(tactic| focus first
    | (with_reducible assumption)
    | ((with_reducible apply mT_ok); all_goals array_get_dec)
    | ((with_reducible apply op_ok); all_goals array_get_dec)
    | ((with_reducible apply cons_ok); all_goals array_get_dec)
    | ((with_reducible apply call_ok); all_goals array_get_dec)
    | ((with_reducible apply callX_ok); all_goals array_get_dec)
    | ((with_reducible apply callX_ex); all_goals array_get_dec)
    | ((with_reducible apply callB_ok); all_goals array_get_dec)
    | ((with_reducible apply tst_ok); all_goals array_get_dec)
    | ((with_reducible apply cb_ok); all_goals array_get_dec)
    | ((with_reducible apply un_ok); all_goals array_get_dec)
    | ((with_reducible apply slc_ok); all_goals array_get_dec)
    | ((with_reducible apply part_ok); all_goals array_get_dec)
    | ((with_reducible apply not_ok); all_goals array_get_dec)
    | ((with_reducible apply notV_ok); all_goals array_get_dec)
    | ((with_reducible apply seqT_ok); all_goals array_get_dec)
    | ((with_reducible apply seqL_ok); all_goals array_get_dec)
    | ((with_reducible apply dget_ok); all_goals array_get_dec)
    | ((with_reducible apply chain_b); all_goals array_get_dec)
    | ((with_reducible apply callF_ok); all_goals array_get_dec)
    | ((with_reducible apply isi_ok); (focus array_get_dec); (focus array_get_dec); (first | exact rfl | with_reducible assumption))
    | ((with_reducible apply tup_ok); (focus array_get_dec); (first | exact (by decide) | simp))
    | ((with_reducible apply lst_ok); (focus array_get_dec); (first | exact (by decide) | simp))
    | ((with_reducible apply if_T); (focus array_get_dec); (focus first | exact rfl | with_reducible assumption); (focus array_get_dec))
    | ((with_reducible apply if_F); (focus array_get_dec); (focus first | exact rfl | with_reducible assumption); (focus array_get_dec))
    | ((with_reducible apply and_T); (focus array_get_dec); (focus first | exact rfl | with_reducible assumption); (focus array_get_dec))
    | ((with_reducible apply or_F); (focus array_get_dec); (focus first | exact rfl | with_reducible assumption); (focus array_get_dec))
    | ((with_reducible apply andV_T); (focus array_get_dec); (focus first | exact rfl | with_reducible assumption); (focus array_get_dec))
    | ((with_reducible apply orV_F); (focus array_get_dec); (focus first | exact rfl | with_reducible assumption); (focus array_get_dec))
    | ((with_reducible apply and_F); (focus array_get_dec); (focus first | exact rfl | with_reducible assumption))
    | ((with_reducible apply or_T); (focus array_get_dec); (focus first | exact rfl | with_reducible assumption))
    | ((with_reducible apply andV_F); (focus array_get_dec); (focus first | exact rfl | with_reducible assumption))
    | ((with_reducible apply orV_T); (focus array_get_dec); (focus first | exact rfl | with_reducible assumption))
    | ((with_reducible apply and_b); all_goals array_get_dec)
    | ((with_reducible apply or_b); all_goals array_get_dec)
    | ((with_reducible apply andV_b); all_goals array_get_dec)
    | ((with_reducible apply orV_b); all_goals array_get_dec)
    | ((with_reducible apply callX_t); (focus array_get_dec); decide)
    | ((with_reducible apply told_ok); all_goals array_get_dec)
    | ((with_reducible apply lc_a); (focus array_get_dec); (focus first | with_reducible assumption | (simp [big]; done) | (simp [big]; omega)); (exact rfl); (intro x hx; refine ⟨_, rfl, ?_, rfl⟩; first | with_reducible assumption | array_get_dec))
    | ((with_reducible apply rng1_a); (focus array_get_dec); (focus first | with_reducible assumption | exact rfl); (focus first | with_reducible assumption | omega | (simp; done) | (simp; omega)))
    | ((with_reducible apply rng2_a); (focus array_get_dec); (focus first | with_reducible assumption | exact rfl); (focus first | with_reducible assumption | exact rfl); (focus first | with_reducible assumption | omega | (simp; done) | (simp; omega)); (focus first | with_reducible assumption | omega | (simp; done) | (simp; omega)))
    | ((with_reducible apply enum_a); (focus array_get_dec); (focus exact rfl))
    | ((with_reducible apply lf_var); exact rfl)
    | ((with_reducible apply lf_varT); exact rfl)
    | ((with_reducible apply lf_ret); exact rfl)
    | ((with_reducible apply lf_nil); exact rfl)
    | ((with_reducible apply lf_nop); exact rfl)
    | ((with_reducible apply lf_dt0); exact rfl)
    | ((with_reducible apply lf_opts); exact rfl)
    | ((with_reducible apply lf_optR); exact rfl)
    | ((with_reducible apply lf_opt); first | with_reducible assumption | with_reducible exact isn_o _ | with_reducible exact ist_o _ | with_reducible exact neF_o _ _ | with_reducible exact eqF_o _ _ | with_reducible exact neF_b _ _ | with_reducible exact eqF_b _ _ | with_reducible exact neF_s _ _ | with_reducible exact eqF_s _ _ | with_reducible exact ev_neI _ _ | with_reducible exact ev_eqI _ _ | exact ev_neI _ _ | exact ev_eqI _ _ | ((fail_if_success (with_reducible apply lf_ne)); (fail_if_success (with_reducible apply lf_eq)); exact rfl) | exact term_eq _ | exact ev_isn _ _ | solve_by_elim (maxDepth := 3))
    | ((with_reducible apply lf_call); first | with_reducible assumption | solve_by_elim (maxDepth := 3))
    | ((with_reducible apply lf_fr); first | with_reducible assumption | solve_by_elim (maxDepth := 3))
    | ((with_reducible apply lf_cex); first | with_reducible assumption | solve_by_elim (maxDepth := 3))
    | ((with_reducible apply lf_callB); first | with_reducible assumption | solve_by_elim (maxDepth := 3)))
def addB (rs : Rows) (s : Nat × Nat) (k : Nat) : Rows := rs.set s.1 (rs.getD s.1 [] ++ [(some (true, Fin.ofNat 10 s.2), 0, k)])
def withR (rows : Rows) (st : List (Nat × Nat)) (rooms : List Nat) : Rows := st.zipIdx.foldl (fun rs p => addB rs p.1 (rooms.getD p.2 0)) rows
def storesD (st : List (Nat × Nat)) : D := .tuple (st.map pairD)
structure StOk (n : Net) (st : List (Nat × Nat)) : Prop where
  l1 : 1 ≤ st.length
  l2 : st.length ≤ 2
  lt : ∀ s ∈ st, s.1 < n.2.1.length ∧ s.2 < n.2.1.length
structure RmOk (m : Nat) (r : List Nat) : Prop where
  len : r.length = m
  lo : ∀ k ∈ r, 1 ≤ k ∧ k ≤ 6
structure RowsK (L k : Nat) (rows : Rows) : Prop where
  len : rows.length = L
  src : SrcOk rows
  few : ∀ r ∈ rows, r.length ≤ k
  arc : ∀ r ∈ rows, ∀ a ∈ r, a.2.1 ≤ 9 ∧ a.2.2 ≤ 6
  rank : Rank rows
theorem addB_len (rs : Rows) (s : Nat × Nat) (k : Nat) : (addB rs s k).length = rs.length := List.length_set
theorem addB_at {rs : Rows} {s : Nat × Nat} (hs : s.1 < rs.length) (k i : Nat) : (addB rs s k).getD i [] = if i = s.1 then rs.getD s.1 [] ++ [(some (true, Fin.ofNat 10 s.2), 0, k)] else rs.getD i [] := by
  unfold addB
  rw [List.getD_eq_getElem?_getD, List.getElem?_set]
  by_cases h : s.1 = i
  · rw [if_pos h, if_pos hs, if_pos h.symm]
    rfl
  · rw [if_neg h, if_neg fun z => h z.symm, List.getD_eq_getElem?_getD (l := rs) (i := i)]
theorem RowsK.add {L k : Nat} {rows : Rows} (h : RowsK L k rows) (hL : L ≤ 9) {s : Nat × Nat} (h1 : s.1 < L) (h2 : s.2 < L) {r : Nat} (hr : 1 ≤ r ∧ r ≤ 6) : RowsK L (k + 1) (addB rows s r) where
  len := (addB_len ..).trans h.len
  src := fun row hrow a ha j hj => by
    rw [addB_len]
    rcases List.mem_or_eq_of_mem_set hrow with hq | rfl
    · exact h.src row hq a ha j hj
    · rcases List.mem_append.mp ha with ha | ha
      · obtain ⟨q, hq, haq⟩ := getD_memR ha
        exact h.src q hq a haq j hj
      · rw [List.mem_singleton.mp ha] at hj
        have hj : some (Fin.ofNat 10 s.2).val = some j := hj
        rw [ofNat_val (by omega)] at hj
        injection hj with hj
        rw [h.len]; omega
  few := fun row hrow => by
    rcases List.mem_or_eq_of_mem_set hrow with hq | rfl
    · have := h.few row hq; omega
    · have := h.few _ (getD_mem (rows := rows) (e := s.1) (by rw [h.len]; exact h1))
      rw [List.length_append, List.length_singleton]; omega
  arc := fun row hrow a ha => by
    rcases List.mem_or_eq_of_mem_set hrow with hq | rfl
    · exact h.arc row hq a ha
    · rcases List.mem_append.mp ha with ha | ha
      · obtain ⟨q, hq, haq⟩ := getD_memR ha
        exact h.arc q hq a haq
      · rw [List.mem_singleton.mp ha]
        exact ⟨by simp, hr.2⟩
  rank := by
    obtain ⟨rk, hk⟩ := h.rank
    refine ⟨rk, fun i a ha h0 j hj => ?_⟩
    rw [addB_at (by rw [h.len]; exact h1)] at ha
    split at ha
    · rename_i hi
      rcases List.mem_append.mp ha with ha | ha
      · rw [hi]; exact hk s.1 a ha h0 j hj
      · rw [List.mem_singleton.mp ha] at h0
        have h0 : r = 0 := h0
        omega
    · exact hk i a ha h0 j hj
theorem withR_ok {n : Net} (h : NetOk n) {st : List (Nat × Nat)} (hs : StOk n st) {r : List Nat} (hr : RmOk st.length r) : RowsR (withR n.2.1 st r) ∧ (withR n.2.1 st r).length = n.2.1.length := by
  have r5 := h.r5
  have r1 := h.r1
  have k0 : RowsK n.2.1.length 4 n.2.1 := ⟨rfl, h.src, h.few, fun r hr a ha => by have := h.arc r hr a ha; exact ⟨this.2.1, by omega⟩, h.rank⟩
  have room : ∀ i, i < st.length → 1 ≤ r.getD i 0 ∧ r.getD i 0 ≤ 6 := fun i hi => by
    rw [List.getD_eq_getElem?_getD, List.getElem?_eq_getElem (by rw [hr.len]; exact hi)]
    exact hr.lo _ (List.getElem_mem _)
  have fin : ∀ {rows : Rows}, RowsK n.2.1.length 6 rows → RowsR rows ∧ rows.length = n.2.1.length := fun {rows} k => ⟨⟨by rw [k.len]; exact r1, by rw [k.len]; exact r5, k.src, k.few, k.arc, k.rank⟩, k.len⟩
  have lift : ∀ {rows : Rows}, RowsK n.2.1.length 5 rows → RowsK n.2.1.length 6 rows := fun {rows} k => ⟨k.len, k.src, fun r hr => by have := k.few r hr; omega, k.arc, k.rank⟩
  match st, hs, room with
  | [a], hs, room =>
    have ha := hs.lt a (by simp)
    exact fin (lift (k0.add (by omega) ha.1 ha.2 (room 0 (by simp))))
  | [a, b], hs, room =>
    have ha := hs.lt a (by simp)
    have hb := hs.lt b (by simp)
    exact fin ((k0.add (by omega) ha.1 ha.2 (room 0 (by simp))).add (by omega) hb.1 hb.2 (room 1 (by simp)))
  | [], hs, _ => exact absurd hs.l1 (by simp)
  | _ :: _ :: _ :: _, hs, _ => exact absurd hs.l2 (by simp)
theorem fold_len : ∀ (l : List ((Nat × Nat) × Nat)) (rows : Rows) (r : List Nat), (l.foldl (fun rs p => addB rs p.1 (r.getD p.2 0)) rows).length = rows.length
  | [], _, _ => rfl
  | p :: l, rows, r => (fold_len l _ r).trans (addB_len ..)
theorem rooms_at {r : List Nat} {i : Nat} (hi : i < r.length) : ixF (outsD r) (.int (i : Int)) = some (.int ((r.getD i 0 : Nat) : Int)) := by
  refine atN (n := i) rfl ?_
  rw [List.getElem?_map, List.getD_eq_getElem?_getD, List.getElem?_eq_getElem hi]
  rfl
theorem fold_row (l : List ((Nat × Nat) × Nat)) (rows : Rows) (r : List Nat) (k : Nat) (hk : ∀ q ∈ rows, q.length ≤ k) : ∀ q ∈ l.foldl (fun rs p => addB rs p.1 (r.getD p.2 0)) rows, q.length ≤ k + l.length := by
  induction l generalizing rows k with
  | nil => simpa using hk
  | cons p l ih =>
    intro q hq
    have h1 : ∀ q ∈ addB rows p.1 (r.getD p.2 0), q.length ≤ k + 1 := fun q hq => by
      rcases List.mem_or_eq_of_mem_set hq with hq | rfl
      · have := hk q hq; omega
      · have : (rows.getD p.1.1 []).length ≤ k := by
          rw [List.getD_eq_getElem?_getD]
          cases e : rows[p.1.1]? with
          | none => simp
          | some x => exact hk x (List.mem_of_getElem? e)
        rw [List.length_append, List.length_singleton]; omega
    have := ih (addB rows p.1 (r.getD p.2 0)) (k + 1) h1 q hq
    rw [List.length_cons]; omega
theorem w_with_rooms {n : Net} (h : NetOk n) {st : List (Nat × Nat)} (hs : StOk n st) {r : List Nat} (hr : RmOk st.length r) : g_with_rooms [rowsD n.2.1, storesD st, outsD r] = .ok (rowsD (withR n.2.1 st r)) := by
  have r5 := h.r5
  have s2 := hs.l2
  unfold g_with_rooms
  rw [call3 (m := 4)]
  refine rt_of ?_
  unfold b_with_rooms
  dsimp only [List.map, List.replicate]
  refine rt_seq (wp_own (d := .list (n.2.1.map rowD)) (cb_ok (cons_ok rfl rfl) rfl rfl) ?_)
  dsimp only [List.set]
  apply rt_seq
  refine wp_for (fun p : (Nat × Nat) × Nat => PyData.tuple [.int (p.2 : Nat), pairD p.1]) st.zipIdx (fun pre ρ => ∃ x_at x_giver x_taker, ρ = [.fz (rowsD n.2.1), .fz (storesD st), .fz (outsD r), .ow (.list ((pre.foldl (fun rs p => addB rs p.1 (r.getD p.2 0)) n.2.1).map rowD)), x_at, x_giver, x_taker]) (enum_ok (d := storesD st) (cons_ok rfl rfl) rfl) (by repeat (first | exact rfl | apply Exists.intro)) ?_ ?_
  · rintro pre ⟨s, i⟩ post ex ρ ⟨x_at, x_giver, x_taker, rfl⟩
    have hmem : (s, i) ∈ st.zipIdx := by rw [ex]; simp
    have hi := List.mk_mem_zipIdx_iff_getElem?.mp hmem
    have hil := (List.getElem?_eq_some_iff.mp hi).1
    obtain ⟨hg, ht⟩ := hs.lt s (List.mem_of_getElem? hi)
    have hl := fold_len pre n.2.1 r
    have hf := fold_row pre n.2.1 r 4 h.few
    have hpl : pre.length ≤ 2 := by
      have := congrArg List.length ex
      rw [List.length_append, List.length_cons, List.length_zipIdx] at this
      omega
    refine ⟨_, rfl, ?_⟩
    dsimp only [List.set]
    rw [List.foldl_append]
    generalize pre.foldl (fun rs p => addB rs p.1 (r.getD p.2 0)) n.2.1 = rs at *
    show Wp l0_with_rooms (fun ρ => ∃ x_at x_giver x_taker, ρ = [.fz (rowsD n.2.1), .fz (storesD st), .fz (outsD r), .ow (.list ((addB rs s (r.getD i 0)).map rowD)), x_at, x_giver, x_taker]) [.fz (rowsD n.2.1), .fz (storesD st), .fz (outsD r), .ow (.list (rs.map rowD)), .fz (.int (i : Int)), .fz (.int (s.1 : Int)), .fz (.int (s.2 : Int))]
    have hgs : s.1 < rs.length := by rw [hl]; exact hg
    have ix : ixF (.list (rs.map rowD)) (.int (s.1 : Int)) = some (rowD (rs.getD s.1 [])) := by
      refine atN (n := s.1) rfl ?_
      rw [List.getElem?_map, List.getD_eq_getElem?_getD, List.getElem?_eq_getElem hgs]
      rfl
    have ds : strF [.int (s.2 : Int)] = some (.str (toString (s.2 : Int))) := dig_sk (by omega)
    have de : addF (.str "e") (.str (toString (s.2 : Int))) = some (srcD (some (true, Fin.ofNat 10 s.2))) := by
      rw [ofNat_eq (by omega)]
      exact dig_e ⟨s.2, by omega⟩
    have rm := rooms_at (r := r) (i := i) (by rw [hr.len]; exact hil)
    have ad : addF (rowD (rs.getD s.1 [])) (.tuple [.tuple [srcD (some (true, Fin.ofNat 10 s.2)), .int 0, .int ((r.getD i 0 : Nat) : Int)]]) = some (rowD (rs.getD s.1 [] ++ [(some (true, Fin.ofNat 10 s.2), 0, r.getD i 0)])) := by
      show addF (.tuple _) (.tuple _) = _
      rw [add_tt _ _ (by have := hf _ (getD_mem hgs); rw [List.length_map, List.length_singleton]; omega)]
      unfold rowD
      rw [List.map_append]
      rfl
    have em : (addB rs s (r.getD i 0)).map rowD = (rs.map rowD).set s.1 (rowD (rs.getD s.1 [] ++ [(some (true, Fin.ofNat 10 s.2), 0, r.getD i 0)])) := List.map_set
    rw [em]
    unfold l0_with_rooms
    generalize rowD (rs.getD s.1 [] ++ [(some (true, Fin.ofNat 10 s.2), 0, r.getD i 0)]) = NR at *
    apply wp_setitem (k := (s.1 : Int)) (d := NR)
    · array_get_dec
    · exact rfl
    · exact rfl
    · exact setD_ok (n := s.1) rfl rfl (by rw [List.length_map]; exact hgs) rfl
    · repeat (first | exact rfl | apply Exists.intro)
  · rintro ρ ⟨x_at, x_giver, x_taker, rfl⟩
    exact rt_ret (cb_ok (cons_ok rfl rfl) rfl rfl) rfl
theorem len_st (st : List (Nat × Nat)) : lenF [storesD st] = some (.int (st.length : Int)) := by
  show some (PyData.int ((st.map pairD).length : Int)) = _
  rw [List.length_map]
theorem w_are_stores {n : Net} (h : NetOk n) {st : List (Nat × Nat)} (hs : StOk n st) : g_are_stores [netD n, storesD st] = .ok (.bool true) := by
  have l1 := hs.l1
  have l2 := hs.l2
  have ls := len_st st
  have lr := rows_len n.2.1
  unfold g_are_stores
  rw [call2 (m := 2)]
  refine rt_of ?_
  unfold b_are_stores
  dsimp only [List.map, List.replicate]
  have ist : tyName (storesD st) = "tuple" := rfl
  refine rt_seq (wp_notB (or_b (not_ok (tst_ok (isi_ok rfl rfl))) (not_ok (tst_ok (chain_b (mT_ok rfl) (mT_ok (cb_ok (cons_ok rfl rfl) rfl ls)) rfl rfl rfl (mT_ok rfl) rfl rfl)))) ?_ ?_)
  · rw [ist]
    simp [pIs]
    omega
  refine rt_seq (wp_each pairD st (fun ρ => ∃ x_store, ρ = ([.fz (netD n), .fz (storesD st), x_store, .no] : Rho)) (seqT_ok rfl) (by repeat (first | exact rfl | apply Exists.intro)) ?_ ?_)
  · rintro s hsm ρ ⟨x_store, rfl⟩
    obtain ⟨h1, h2⟩ := hs.lt s hsm
    refine ⟨_, rfl, ?_⟩
    dsimp only [List.set]
    have w1 := w_wholeI (s.1 : Int) 0 ((n.2.1.length : Int) - 1)
    rw [decide_eq_true (by omega), decide_eq_true (by omega)] at w1
    have w2 := w_wholeI (s.2 : Int) 0 ((n.2.1.length : Int) - 1)
    rw [decide_eq_true (by omega), decide_eq_true (by omega)] at w2
    have lc : mLc (mSeqI (mVar 2)) (hName 3) (mYes) (e0_are_stores) [3] [.fz (netD n), .fz (storesD st), .fz (pairD s), .no] = .ok (.list ([s.1, s.2].map fun _ => PyData.bool true)) [.fz (netD n), .fz (storesD st), .fz (pairD s), .no] := by
      refine mlc_map0 [s.1, s.2] (fun k : Nat => PyData.int (k : Int)) _ (seqT_ok rfl) (by simp [big]) rfl fun k hk => ⟨_, rfl, ?_, rfl⟩
      have hk : k = s.1 ∨ k = s.2 := by simpa using hk
      rcases hk with rfl | rfl
      · exact call_ok (cons_ok rfl (cons_ok rfl (cons_ok (op_ok (mT_ok (cb_ok (cons_ok (mT_ok (op_ok rfl (mT_ok rfl) rfl rfl rfl)) rfl) rfl lr)) (mT_ok rfl) rfl rfl rfl) rfl))) w1
      · exact call_ok (cons_ok rfl (cons_ok rfl (cons_ok (op_ok (mT_ok (cb_ok (cons_ok (mT_ok (op_ok rfl (mT_ok rfl) rfl rfl rfl)) rfl) rfl lr)) (mT_ok rfl) rfl rfl rfl) rfl))) w2
    have al := allT [s.1, s.2]
    have lp : lenF [pairD s] = some (.int 2) := rfl
    have np : neF (.int 2) (.int 2) = some (.bool false) := ev_neI 2 2
    generalize [s.1, s.2].map (fun _ => PyData.bool true) = LL at *
    unfold l1_are_stores
    refine wp_seq (wp_notB (or_b (not_ok (tst_ok (isi_ok rfl rfl))) (tst_ok (op_ok (mT_ok (cb_ok (cons_ok rfl rfl) rfl lp)) (mT_ok rfl) rfl rfl np))) rfl ?_)
    apply wp_notB
    · array_get_dec
    · rfl
    repeat (first | exact rfl | apply Exists.intro)
  · rintro ρ ⟨x_store, rfl⟩
    exact rt_ret rfl rfl
theorem need_stores {n : Net} (h : NetOk n) {st : List (Nat × Nat)} (hs : StOk n st) : g_need_stores [netD n, storesD st] = .ok .none := by
  have nn := h.need
  have wa := w_are_stores h hs
  unfold g_need_stores
  rw [call2 (m := 0)]
  have wp : Wp b_need_stores (fun _ => True) [.fz (netD n), .fz (storesD st)] := by
    unfold b_need_stores
    apply wp_seq; apply wp_drop
    · array_get_dec
    try dsimp only [List.set, oD]
    apply wp_notB
    · array_get_dec
    · rfl
    trivial
  obtain ⟨ρ, e, _⟩ := wp
  exact fin_nx e
theorem need_rooms {st : List (Nat × Nat)} {r : List Nat} (hr : RmOk st.length r) (hl : st.length ≤ 2) : g_need_rooms [storesD st, outsD r] = .ok .none := by
  have ls := len_st st
  have lo := len_outs r
  have hl2 := hr.len
  unfold g_need_rooms
  rw [call2 (m := 1)]
  have wp : Wp b_need_rooms (fun _ => True) [.fz (storesD st), .fz (outsD r), .no] := by
    unfold b_need_rooms
    have ist : tyName (outsD r) = "tuple" := rfl
    refine wp_seq (wp_notB (or_b (not_ok (tst_ok (isi_ok rfl rfl))) (tst_ok (op_ok (mT_ok (cb_ok (cons_ok rfl rfl) rfl lo)) (mT_ok (cb_ok (cons_ok rfl rfl) rfl ls)) rfl rfl (ev_neI _ _)))) ?_ ?_)
    · rw [ist]
      simp [pIs]
      omega
    have lc : mLc (mSeqI (mVar 1)) (hName 2) (mYes) (e0_need_rooms) [2] [.fz (storesD st), .fz (outsD r), .no] = .ok (.list (r.map fun _ => PyData.bool true)) [.fz (storesD st), .fz (outsD r), .no] := by
      refine mlc_map0 r (fun k : Nat => PyData.int (k : Int)) _ (seqT_ok rfl) (by unfold big; omega) rfl fun k hk => ⟨_, rfl, ?_, rfl⟩
      have := hr.lo k hk
      have w1 := w_wholeI (k : Int) 1 6
      rw [decide_eq_true (by omega), decide_eq_true (by omega)] at w1
      exact call_ok (cons_ok rfl (cons_ok rfl (cons_ok rfl rfl))) w1
    have al := allT r
    generalize r.map (fun _ => PyData.bool true) = LL at *
    apply wp_notB
    · array_get_dec
    · rfl
    trivial
  obtain ⟨ρ, e, _⟩ := wp
  exact fin_nx e
theorem w_slowest_with {n : Net} (h : NetOk n) {st : List (Nat × Nat)} (hs : StOk n st) {r : List Nat} (hr : RmOk st.length r) : ∃ o, g_slowest_with [netD n, storesD st, outsD r] = .ok (encN o) ∧ Slow (withR n.2.1 st r) o := by
  have n1 := need_stores h hs
  have n2 := need_rooms hr hs.l2
  have ww := w_with_rooms h hs hr
  obtain ⟨o, so, hso⟩ := RowsR.w_slowest_of (withR_ok h hs hr).1
  refine ⟨o, ?_, hso⟩
  unfold g_slowest_with
  rw [call3 (m := 0)]
  refine rt_of ?_
  unfold b_slowest_with
  generalize rowsD (withR n.2.1 st r) = WR at *
  dsimp only [List.map, List.replicate]
  apply rt_seq; apply wp_drop
  · array_get_dec
  try dsimp only [List.set, oD]
  apply rt_seq; apply wp_drop
  · array_get_dec
  try dsimp only [List.set, oD]
  apply rt_ret
  · array_get_dec
  rfl
noncomputable def keepB (rows : Rows) (st : List (Nat × Nat)) (p q : Nat) (r : List Nat) : Bool := @decide (KeepP (withR rows st r) p q) (Classical.propDecidable _)
def paceD (p q : Nat) : D := .tuple [.int (p : Int), .int (q : Int)]
theorem keepB_iff {rows : Rows} {st : List (Nat × Nat)} {p q : Nat} {r : List Nat} : keepB rows st p q r = true ↔ KeepP (withR rows st r) p q := by
  unfold keepB
  exact @decide_eq_true_iff _ (Classical.propDecidable _)
theorem sm_nat {k : Nat} (h : k ≤ 1000) : isSmall (k : Int) = true := by
  unfold isSmall
  rw [Bool.and_eq_true]
  exact ⟨decide_eq_true (by omega), decide_eq_true (by omega)⟩
theorem w_keeps {n : Net} (h : NetOk n) {st : List (Nat × Nat)} (hs : StOk n st) {r : List Nat} (hr : RmOk st.length r) {p q : Nat} (hp : p ≤ 1000) (hq : q ≤ 1000) : g_keeps [rowsD n.2.1, storesD st, outsD r, paceD p q] = .ok (.bool (keepB n.2.1 st p q r)) := by
  have ww := w_with_rooms h hs hr
  obtain ⟨o, so, hso⟩ := RowsR.w_slowest_of (withR_ok h hs hr).1
  have kk := slow_keep (p := p) (q := q) hso
  have kb := keepB_iff (rows := n.2.1) (st := st) (p := p) (q := q) (r := r)
  generalize keepB n.2.1 st p q r = kB at kb
  rw [kk] at kb
  unfold g_keeps
  rw [call4 (m := 1)]
  refine rt_of ?_
  unfold b_keeps
  generalize rowsD (withR n.2.1 st r) = WR at *
  dsimp only [List.map, List.replicate]
  apply rt_seq; apply wp_set
  · array_get_dec
  · exact rfl
  try dsimp only [List.set, oD]
  cases o with
  | none =>
    have : kB = true := kb.mpr fun f hf => by cases hf
    subst this
    exact rt_ret (orV_T (op_ok rfl (mT_ok rfl) rfl rfl rfl) rfl) rfl
  | some f =>
    obtain ⟨f1, f2, f3, _⟩ := hso
    have il := w_is_less (p : Int) (q : Int) (f.1 : Int) (f.2 : Int) (sm_nat f3) (sm_nat hq)
    have il : g_is_less [paceD p q, .tuple [.int (f.1 : Int), .int (f.2 : Int)]] = .ok (.bool (decide ((p : Int) * (f.2 : Int) < (f.1 : Int) * (q : Int)))) := il
    have e1 : (!decide ((p : Int) * (f.2 : Int) < (f.1 : Int) * (q : Int))) = kB := by
      have : kB = true ↔ f.1 * q ≤ p * f.2 := kb.trans ⟨fun z => z f rfl, fun z g hg => by cases hg; exact z⟩
      have c1 : (p : Int) * (f.2 : Int) = ((p * f.2 : Nat) : Int) := (Int.natCast_mul ..).symm
      have c2 : (f.1 : Int) * (q : Int) = ((f.1 * q : Nat) : Int) := (Int.natCast_mul ..).symm
      rw [c1, c2, Bool.eq_iff_iff, this]
      simp
      omega
    refine rt_ret (orV_F (op_ok rfl (mT_ok rfl) rfl rfl rfl) rfl (notV_ok (call_ok (cons_ok rfl (cons_ok rfl rfl)) il))) ?_
    rw [e1]
def allR : Nat → List (List Nat)
  | 1 => (List.range 6).map fun k => [k + 1]
  | 2 => (List.range 36).map fun k => [1 + k / 6, 1 + k % 6]
  | _ => []
theorem allR_ok {m : Nat} (h1 : 1 ≤ m) (h2 : m ≤ 2) : ∀ r ∈ allR m, RmOk m r := by
  intro r hr
  rcases (show m = 1 ∨ m = 2 by omega) with rfl | rfl
  · obtain ⟨k, hk, rfl⟩ := List.mem_map.mp hr
    have hk := List.mem_range.mp hk
    exact ⟨rfl, fun x hx => by simp at hx; omega⟩
  · obtain ⟨k, hk, rfl⟩ := List.mem_map.mp hr
    have hk := List.mem_range.mp hk
    exact ⟨rfl, fun x hx => by
      simp only [List.mem_cons, List.not_mem_nil, or_false] at hx
      rcases hx with rfl | rfl <;> omega⟩
theorem w_all1 : g_all_rooms [.int 1] = .ok (.list ((allR 1).map outsD)) := by kernel_rfl
theorem w_all2 : g_all_rooms [.int 2] = .ok (.list ((allR 2).map outsD)) := by kernel_rfl
theorem w_all {m : Nat} (h1 : 1 ≤ m) (h2 : m ≤ 2) : g_all_rooms [.int (m : Int)] = .ok (.list ((allR m).map outsD)) := by
  rcases (show m = 1 ∨ m = 2 by omega) with rfl | rfl
  · exact w_all1
  · exact w_all2
def leR (t r : List Nat) : Bool := t.zipIdx.all fun p => decide (p.1 ≤ r.getD p.2 0)
noncomputable def goodR (rows : Rows) (st : List (Nat × Nat)) (p q : Nat) : List (List Nat) := (allR st.length).filter (keepB rows st p q)
noncomputable def leastR (rows : Rows) (st : List (Nat × Nat)) (p q : Nat) : List (List Nat) := (goodR rows st p q).filter fun r => decide ((goodR rows st p q).filter (fun t => !decide (t = r) && leR t r) = [])
theorem goodR_ok {n : Net} {st : List (Nat × Nat)} (hs : StOk n st) {p q : Nat} : ∀ r ∈ goodR n.2.1 st p q, RmOk st.length r := fun r hr => allR_ok hs.l1 hs.l2 r (List.mem_filter.mp hr).1
theorem allR_len (m : Nat) : (allR m).length ≤ 36 := by
  unfold allR
  split <;> simp
theorem w_least {n : Net} (h : NetOk n) {st : List (Nat × Nat)} (hs : StOk n st) {p q : Nat} (hp : p ≤ 1000) (hq : q ≤ 1000) (hip : g_is_pace [paceD p q] = .ok (.bool true)) : g_least_rooms [netD n, storesD st, paceD p q] = .ok (.tuple ((leastR n.2.1 st p q).map outsD)) := by
  have n1 := need_stores h hs
  have ls := len_st st
  have wa := w_all hs.l1 hs.l2
  have al := allR_len st.length
  unfold g_least_rooms
  rw [call3 (m := 7)]
  refine rt_of ?_
  unfold b_least_rooms
  dsimp only [List.map, List.replicate]
  apply rt_seq; apply wp_drop
  · array_get_dec
  try dsimp only [List.set, oD]
  apply rt_seq; apply wp_notB
  · array_get_dec
  · rfl
  have lc : mLc (mSeqI (mCall0 g_all_rooms (mCons (mCB lenF (mCons (mVarT 1) (mNil))) (mNil)))) (hName 5) (t0_least_rooms) (e1_least_rooms) [5] [.fz (netD n), .fz (storesD st), .fz (paceD p q), .no, .no, .no, .no, .no, .no, .no] = .ok (.list ((goodR n.2.1 st p q).map outsD)) [.fz (netD n), .fz (storesD st), .fz (paceD p q), .no, .no, .no, .no, .no, .no, .no] := by
    refine mlc_map (allR st.length) outsD (keepB n.2.1 st p q) outsD (seqL_ok (call_ok (cons_ok (cb_ok (cons_ok rfl rfl) rfl ls) rfl) wa)) (by unfold big; omega) rfl fun r hr => ⟨_, rfl, ?_, fun _ => rfl, rfl⟩
    exact tst_ok (call_ok (cons_ok (op_ok rfl (mT_ok rfl) rfl rfl rfl) (cons_ok rfl (cons_ok rfl (cons_ok rfl rfl)))) (w_keeps h hs (allR_ok hs.l1 hs.l2 r hr) hp hq))
  have hgl : (goodR n.2.1 st p q).length ≤ 36 := Nat.le_trans (List.length_filter_le ..) al
  have hok := goodR_ok (p := p) (q := q) hs
  have lst : leastR n.2.1 st p q = (goodR n.2.1 st p q).filter fun r => decide ((goodR n.2.1 st p q).filter (fun t => !decide (t = r) && leR t r) = []) := rfl
  rw [lst]
  generalize goodR n.2.1 st p q = G at *
  apply rt_seq; apply wp_set
  · array_get_dec
  · exact rfl
  try dsimp only [List.set, oD]
  refine rt_seq (wp_own (d := .list []) rfl ?_)
  dsimp only [List.set]
  apply rt_seq
  refine wp_for outsD G (fun pre ρ => ∃ x_rooms x_lesser, ρ = [.fz (netD n), .fz (storesD st), .fz (paceD p q), .fz (.list (G.map outsD)), .ow (.list ((pre.filter fun r => decide (G.filter (fun t => !decide (t = r) && leR t r) = [])).map outsD)), x_rooms, x_lesser, .no, .no, .no]) (seqL_ok rfl) (by repeat (first | exact rfl | apply Exists.intro)) ?_ ?_
  · rintro pre r post ex ρ ⟨x_rooms, x_lesser, rfl⟩
    have hr : r ∈ G := by rw [ex]; simp
    have hpl : pre.length ≤ 36 := by
      have := congrArg List.length ex
      rw [List.length_append, List.length_cons] at this
      omega
    refine ⟨_, rfl, ?_⟩
    dsimp only [List.set]
    have hro := hok r hr
    have lc2 : mLc (mSeqI (mVar 3)) (hName 7) (t3_least_rooms) (e4_least_rooms) [7] [.fz (netD n), .fz (storesD st), .fz (paceD p q), .fz (.list (G.map outsD)), .ow (.list ((pre.filter fun r => decide (G.filter (fun t => !decide (t = r) && leR t r) = [])).map outsD)), .fz (outsD r), x_lesser, .no, .no, .no] = .ok (.list ((G.filter fun t => !decide (t = r) && leR t r).map outsD)) [.fz (netD n), .fz (storesD st), .fz (paceD p q), .fz (.list (G.map outsD)), .ow (.list ((pre.filter fun r => decide (G.filter (fun t => !decide (t = r) && leR t r) = [])).map outsD)), .fz (outsD r), x_lesser, .no, .no, .no] := by
      generalize (pre.filter fun r => decide (G.filter (fun t => !decide (t = r) && leR t r) = [])).map outsD = FD
      refine mlc_map G outsD (fun t => !decide (t = r) && leR t r) outsD (seqL_ok rfl) (by unfold big; omega) rfl fun t ht => ⟨_, rfl, ?_, fun _ => rfl, rfl⟩
      have hto := hok t ht
      have ne := good_outs.neF t r
      have lc3 : mLc (mEnum (mCons (mVar 7) (mNil))) (hTup 2 (hCons (hName 8) (hCons (hName 9) (hNil)))) (mYes) (e2_least_rooms) [8, 9] [.fz (netD n), .fz (storesD st), .fz (paceD p q), .fz (.list (G.map outsD)), .ow (.list FD), .fz (outsD r), x_lesser, .fz (outsD t), .no, .no] = .ok (.list (t.zipIdx.map fun p => PyData.bool (decide (p.1 ≤ r.getD p.2 0)))) [.fz (netD n), .fz (storesD st), .fz (paceD p q), .fz (.list (G.map outsD)), .ow (.list FD), .fz (outsD r), x_lesser, .fz (outsD t), .no, .no] := by
        refine mlc_map0 t.zipIdx (fun p : Nat × Nat => PyData.tuple [.int (p.2 : Nat), .int (p.1 : Int)]) _ (enum_ok (d := outsD t) (e := fun k : Nat => PyData.int (k : Int)) (xs := t) (cons_ok rfl rfl) rfl) (by rw [List.length_zipIdx, hto.len]; have := hs.l2; unfold big; omega) rfl fun x hx => ⟨_, rfl, ?_, rfl⟩
        have hi := (List.getElem?_eq_some_iff.mp (List.mk_mem_zipIdx_iff_getElem?.mp (show (x.1, x.2) ∈ t.zipIdx from hx))).1
        have rm := rooms_at (r := r) (i := x.2) (by rw [hro.len, ← hto.len]; exact hi)
        refine op_ok rfl (mT_ok (op_ok rfl rfl rfl rfl rm)) rfl rfl ?_
        show some (PyData.bool (decide ((x.1 : Int) ≤ ((r.getD x.2 0 : Nat) : Int)))) = _
        congr 2
        rw [decide_eq_decide]
        omega
      have ap := allP (fun p : Nat × Nat => decide (p.1 ≤ r.getD p.2 0)) t.zipIdx
      have al3 : allF [.list (t.zipIdx.map fun p => PyData.bool (decide (p.1 ≤ r.getD p.2 0)))] = some (.bool (leR t r)) := ap
      exact and_b (tst_ok (op_ok rfl rfl rfl rfl ne)) (tst_ok (cb_ok (cons_ok (mT_ok lc3) rfl) rfl al3))
    have eq := good_outs.list.eqF (G.filter fun t => !decide (t = r) && leR t r) []
    have eq : eqF (.list ((G.filter fun t => !decide (t = r) && leR t r).map outsD)) (.list []) = some (.bool (decide (G.filter (fun t => !decide (t = r) && leR t r) = []))) := eq
    rw [List.filter_append, List.map_append]
    have hfl : ((pre.filter fun r => decide (G.filter (fun t => !decide (t = r) && leR t r) = [])).map outsD).length ≤ 36 := by
      rw [List.length_map]
      exact Nat.le_trans (List.length_filter_le ..) hpl
    generalize (pre.filter fun r => decide (G.filter (fun t => !decide (t = r) && leR t r) = [])).map outsD = FD at *
    unfold l5_least_rooms
    apply wp_seq; apply wp_set
    · array_get_dec
    · exact rfl
    try dsimp only [List.set, oD]
    by_cases hc : G.filter (fun t => !decide (t = r) && leR t r) = []
    · rw [decide_eq_true hc] at eq
      have e1 : [r].filter (fun r => decide (G.filter (fun t => !decide (t = r) && leR t r) = [])) = [r] := List.filter_cons_of_pos (decide_eq_true hc)
      rw [e1]
      apply wp_ifT
      · array_get_dec
      · rfl
      have ln : FD.length < big := by unfold big; omega
      apply wp_append
      · exact rfl
      · array_get_dec
      · exact rfl
      · first | with_reducible assumption | (simp [big]; done) | (simp [big]; omega)
      · exact rfl
      try dsimp only [List.set, oD]
      repeat (first | exact rfl | apply Exists.intro)
    · rw [decide_eq_false hc] at eq
      have e1 : [r].filter (fun r => decide (G.filter (fun t => !decide (t = r) && leR t r) = [])) = [] := List.filter_cons_of_neg (by simpa using hc)
      rw [e1, List.map_nil, List.append_nil]
      apply wp_ifF
      · array_get_dec
      · rfl
      exact wp_next (by repeat (first | exact rfl | apply Exists.intro))
  · rintro ρ ⟨x_rooms, x_lesser, rfl⟩
    exact rt_ret (cb_ok (cons_ok rfl rfl) rfl rfl) rfl
end Rn
end
section
set_option Elab.async false
set_option linter.all false
set_option maxRecDepth 100000
set_option maxHeartbeats 1000000
namespace Rn
open PySem PySem.Spec L2
local macro_rules
  | `(tactic| array_get_dec) => `(tactic| focus first
    | (with_reducible assumption)
    | ((with_reducible apply mT_ok); all_goals array_get_dec)
    | ((with_reducible apply op_ok); all_goals array_get_dec)
    | ((with_reducible apply cons_ok); all_goals array_get_dec)
    | ((with_reducible apply call_ok); all_goals array_get_dec)
    | ((with_reducible apply callX_ok); all_goals array_get_dec)
    | ((with_reducible apply callX_ex); all_goals array_get_dec)
    | ((with_reducible apply callB_ok); all_goals array_get_dec)
    | ((with_reducible apply tst_ok); all_goals array_get_dec)
    | ((with_reducible apply cb_ok); all_goals array_get_dec)
    | ((with_reducible apply un_ok); all_goals array_get_dec)
    | ((with_reducible apply slc_ok); all_goals array_get_dec)
    | ((with_reducible apply part_ok); all_goals array_get_dec)
    | ((with_reducible apply not_ok); all_goals array_get_dec)
    | ((with_reducible apply notV_ok); all_goals array_get_dec)
    | ((with_reducible apply seqT_ok); all_goals array_get_dec)
    | ((with_reducible apply seqL_ok); all_goals array_get_dec)
    | ((with_reducible apply dget_ok); all_goals array_get_dec)
    | ((with_reducible apply chain_b); all_goals array_get_dec)
    | ((with_reducible apply callF_ok); all_goals array_get_dec)
    | ((with_reducible apply isi_ok); (focus array_get_dec); (focus array_get_dec); (first | exact rfl | with_reducible assumption))
    | ((with_reducible apply tup_ok); (focus array_get_dec); (first | exact (by decide) | simp))
    | ((with_reducible apply lst_ok); (focus array_get_dec); (first | exact (by decide) | simp))
    | ((with_reducible apply if_T); (focus array_get_dec); (focus first | exact rfl | with_reducible assumption); (focus array_get_dec))
    | ((with_reducible apply if_F); (focus array_get_dec); (focus first | exact rfl | with_reducible assumption); (focus array_get_dec))
    | ((with_reducible apply and_T); (focus array_get_dec); (focus first | exact rfl | with_reducible assumption); (focus array_get_dec))
    | ((with_reducible apply or_F); (focus array_get_dec); (focus first | exact rfl | with_reducible assumption); (focus array_get_dec))
    | ((with_reducible apply andV_T); (focus array_get_dec); (focus first | exact rfl | with_reducible assumption); (focus array_get_dec))
    | ((with_reducible apply orV_F); (focus array_get_dec); (focus first | exact rfl | with_reducible assumption); (focus array_get_dec))
    | ((with_reducible apply and_F); (focus array_get_dec); (focus first | exact rfl | with_reducible assumption))
    | ((with_reducible apply or_T); (focus array_get_dec); (focus first | exact rfl | with_reducible assumption))
    | ((with_reducible apply andV_F); (focus array_get_dec); (focus first | exact rfl | with_reducible assumption))
    | ((with_reducible apply orV_T); (focus array_get_dec); (focus first | exact rfl | with_reducible assumption))
    | ((with_reducible apply and_b); all_goals array_get_dec)
    | ((with_reducible apply or_b); all_goals array_get_dec)
    | ((with_reducible apply andV_b); all_goals array_get_dec)
    | ((with_reducible apply orV_b); all_goals array_get_dec)
    | ((with_reducible apply callX_t); (focus array_get_dec); decide)
    | ((with_reducible apply told_ok); all_goals array_get_dec)
    | ((with_reducible apply lc_a); (focus array_get_dec); (focus first | with_reducible assumption | (simp [big]; done) | (simp [big]; omega)); (exact rfl); (intro x hx; refine ⟨_, rfl, ?_, rfl⟩; first | with_reducible assumption | array_get_dec))
    | ((with_reducible apply rng1_a); (focus array_get_dec); (focus first | with_reducible assumption | exact rfl); (focus first | with_reducible assumption | omega | (simp; done) | (simp; omega)))
    | ((with_reducible apply rng2_a); (focus array_get_dec); (focus first | with_reducible assumption | exact rfl); (focus first | with_reducible assumption | exact rfl); (focus first | with_reducible assumption | omega | (simp; done) | (simp; omega)); (focus first | with_reducible assumption | omega | (simp; done) | (simp; omega)))
    | ((with_reducible apply enum_a); (focus array_get_dec); (focus exact rfl))
    | ((with_reducible apply lf_var); exact rfl)
    | ((with_reducible apply lf_varT); exact rfl)
    | ((with_reducible apply lf_ret); exact rfl)
    | ((with_reducible apply lf_nil); exact rfl)
    | ((with_reducible apply lf_nop); exact rfl)
    | ((with_reducible apply lf_dt0); exact rfl)
    | ((with_reducible apply lf_opts); exact rfl)
    | ((with_reducible apply lf_optR); exact rfl)
    | ((with_reducible apply lf_opt); first | with_reducible assumption | with_reducible exact isn_o _ | with_reducible exact ist_o _ | with_reducible exact neF_o _ _ | with_reducible exact eqF_o _ _ | with_reducible exact neF_b _ _ | with_reducible exact eqF_b _ _ | with_reducible exact neF_s _ _ | with_reducible exact eqF_s _ _ | with_reducible exact ev_neI _ _ | with_reducible exact ev_eqI _ _ | exact ev_neI _ _ | exact ev_eqI _ _ | ((fail_if_success (with_reducible apply lf_ne)); (fail_if_success (with_reducible apply lf_eq)); exact rfl) | exact term_eq _ | exact ev_isn _ _ | solve_by_elim (maxDepth := 3))
    | ((with_reducible apply lf_call); first | with_reducible assumption | solve_by_elim (maxDepth := 3))
    | ((with_reducible apply lf_fr); first | with_reducible assumption | solve_by_elim (maxDepth := 3))
    | ((with_reducible apply lf_cex); first | with_reducible assumption | solve_by_elim (maxDepth := 3))
    | ((with_reducible apply lf_callB); first | with_reducible assumption | solve_by_elim (maxDepth := 3)))
theorem w_is_pace {p q : Nat} (hp : p ≤ 1000) (hq : q ≤ 1000) (hq1 : 1 ≤ q) (hg : Nat.gcd p q = 1) : g_is_pace [paceD p q] = .ok (.bool true) := by
  have w1 := w_wholeI (p : Int) 0 1000
  rw [decide_eq_true (by omega), decide_eq_true (by omega)] at w1
  have w2 := w_wholeI (q : Int) 1 1000
  rw [decide_eq_true (by omega), decide_eq_true (by omega)] at w2
  have lw := w_lowest p q (by omega) (by omega)
  rw [hg, Nat.div_one, Nat.div_one] at lw
  have lw : g_lowest [.int (p : Int), .int (q : Int)] = .ok (paceD p q) := lw
  have eq : eqF (paceD p q) (paceD p q) = some (.bool true) := by
    have := good_pair.eqF (p, q) (p, q)
    rw [decide_eq_true rfl] at this
    exact this
  have ix0 : ixF (paceD p q) (.int 0) = some (.int (p : Int)) := rfl
  have ix1 : ixF (paceD p q) (.int 1) = some (.int (q : Int)) := rfl
  have lp : lenF [paceD p q] = some (.int 2) := rfl
  have np : neF (.int 2) (.int 2) = some (.bool false) := ev_neI 2 2
  unfold g_is_pace
  rw [call1 (m := 0)]
  refine rt_of ?_
  unfold b_is_pace
  dsimp only [List.map, List.replicate]
  refine rt_seq (wp_notB (or_b (not_ok (tst_ok (isi_ok rfl rfl))) (tst_ok (op_ok (mT_ok (cb_ok (cons_ok rfl rfl) rfl lp)) (mT_ok rfl) rfl rfl np))) rfl ?_)
  exact rt_ret (andV_T (call_ok (cons_ok (op_ok rfl (mT_ok rfl) rfl rfl ix0) (cons_ok rfl (cons_ok rfl rfl))) w1) rfl (andV_T (call_ok (cons_ok (op_ok rfl (mT_ok rfl) rfl rfl ix1) (cons_ok rfl (cons_ok rfl rfl))) w2) rfl (op_ok (mT_ok (call_ok (cons_ok (op_ok rfl (mT_ok rfl) rfl rfl ix0) (cons_ok (op_ok rfl (mT_ok rfl) rfl rfl ix1) rfl)) lw)) rfl rfl rfl eq))) rfl
end Rn
end
section
set_option Elab.async false
set_option linter.all false
set_option maxRecDepth 100000
set_option maxHeartbeats 1000000
namespace Rn
open PySem PySem.Spec L2
/-- each arc of the one has its like in the other, with no more rooms -/
structure Emb (rows rows' : Rows) : Prop where
  len : rows.length = rows'.length
  arc : ∀ i, ∀ a ∈ rows.getD i [], ∃ b ∈ rows'.getD i [], b.1 = a.1 ∧ b.2.1 = a.2.1 ∧ b.2.2 ≤ a.2.2
theorem Emb.refl (rows : Rows) : Emb rows rows := ⟨rfl, fun i a ha => ⟨a, ha, rfl, rfl, Nat.le_refl _⟩⟩
theorem Emb.trans {a b c : Rows} (h : Emb a b) (g : Emb b c) : Emb a c := ⟨h.len.trans g.len, fun i x hx => by
  obtain ⟨y, hy, e1, e2, e3⟩ := h.arc i x hx
  obtain ⟨z, hz, f1, f2, f3⟩ := g.arc i y hy
  exact ⟨z, hz, f1.trans e1, f2.trans e2, Nat.le_trans f3 e3⟩⟩
theorem Emb.add {rs rs' : Rows} (h : Emb rs rs') {s : Nat × Nat} (hs : s.1 < rs.length) {k k' : Nat} (hk : k' ≤ k) : Emb (addB rs s k) (addB rs' s k') := ⟨by rw [addB_len, addB_len, h.len], fun i x hx => by
  rw [addB_at hs] at hx
  rw [addB_at (by rw [← h.len]; exact hs)]
  by_cases hi : i = s.1
  · rw [if_pos hi] at hx ⊢
    rcases List.mem_append.mp hx with hx | hx
    · obtain ⟨y, hy, e⟩ := h.arc _ x hx
      exact ⟨y, List.mem_append_left _ hy, e⟩
    · rw [List.mem_singleton.mp hx]
      exact ⟨_, List.mem_append_right _ (List.mem_singleton.mpr rfl), rfl, rfl, hk⟩
  · rw [if_neg hi] at hx ⊢
    exact h.arc i x hx⟩
theorem emb_add {rs : Rows} {s : Nat × Nat} (hs : s.1 < rs.length) (k : Nat) : Emb rs (addB rs s k) := ⟨(addB_len _ _ _).symm, fun i x hx => by
  rw [addB_at hs]
  by_cases hi : i = s.1
  · subst hi
    rw [if_pos rfl]
    exact ⟨x, List.mem_append_left _ hx, rfl, rfl, Nat.le_refl _⟩
  · rw [if_neg hi]
    exact ⟨x, hx, rfl, rfl, Nat.le_refl _⟩⟩
theorem emb_path {rows rows' : Rows} (h : Emb rows rows') : ∀ {l : List Ed} {u v : Nat}, IsPath rows u l v → ∃ l', IsPath rows' u l' v ∧ (l'.map fun d => d.2.1) = (l.map fun d => d.2.1) ∧ wtP l' = wtP l ∧ lenP l' ≤ lenP l
  | [], u, v, e => ⟨[], e, rfl, rfl, Nat.le_refl _⟩
  | d :: l, u, v, ⟨e1, ⟨d1, d2, a, ha, a1, a2, a3⟩, e3⟩ => by
    obtain ⟨l', h1, h2, h3, h4⟩ := emb_path h e3
    obtain ⟨b, hb, b1, b2, b3⟩ := h.arc _ a ha
    refine ⟨(d.1, d.2.1, d.2.2.1, b.2.2) :: l', ⟨e1, ⟨by rw [← h.len]; exact d1, by rw [← h.len]; exact d2, b, hb, by rw [b1]; exact a1, by rw [b2]; exact a2, rfl⟩, h1⟩, ?_, ?_, ?_⟩
    · rw [List.map_cons, List.map_cons, h2]
    · have x : wtP ((d.1, d.2.1, d.2.2.1, b.2.2) :: l') = d.2.2.1 + wtP l' := by simp [wtP]
      have y : wtP (d :: l) = d.2.2.1 + wtP l := by simp [wtP]
      rw [x, y, h3]
    · have x : lenP ((d.1, d.2.1, d.2.2.1, b.2.2) :: l') = b.2.2 + lenP l' := by simp [lenP]
      have y : lenP (d :: l) = d.2.2.2 + lenP l := by simp [lenP]
      rw [x, y]
      omega
theorem emb_keep {rows rows' : Rows} (h : Emb rows rows') {p q : Nat} (k : KeepP rows' p q) : KeepP rows p q := by
  intro m r ⟨h1, h2, h3⟩
  obtain ⟨r', e1, e2, e3, e4⟩ := emb_path h h1
  have ne : r' ≠ [] := fun z => by
    rw [z] at e2
    have := congrArg List.length e2
    simp at this
    exact h2 (List.length_eq_zero_iff.mp this.symm)
  have := k m r' ⟨e1, ne, by rw [e2]; exact h3⟩
  rw [e3] at this
  exact Nat.le_trans this (Nat.mul_le_mul_left _ e4)
theorem le_1 (a x : Nat) : leR [a] [x] = decide (a ≤ x) := by simp [leR]
theorem le_2 (a b x y : Nat) : leR [a, b] [x, y] = (decide (a ≤ x) && decide (b ≤ y)) := by simp [leR]
theorem len_1 {r : List Nat} (h : r.length = 1) : ∃ a, r = [a] := by
  match r, h with
  | [a], _ => exact ⟨a, rfl⟩
theorem len_2 {r : List Nat} (h : r.length = 2) : ∃ a b, r = [a, b] := by
  match r, h with
  | [a, b], _ => exact ⟨a, b, rfl⟩
theorem le_refl2 {r : List Nat} (h : r.length = 1 ∨ r.length = 2) : leR r r = true := by
  rcases h with h | h
  · obtain ⟨a, rfl⟩ := len_1 h; simp [le_1]
  · obtain ⟨a, b, rfl⟩ := len_2 h; simp [le_2]
theorem le_trans2 {m : Nat} {r s t : List Nat} (hm : m = 1 ∨ m = 2) (hr : r.length = m) (hs : s.length = m) (ht : t.length = m) (h1 : leR r s = true) (h2 : leR s t = true) : leR r t = true := by
  rcases hm with rfl | rfl
  · obtain ⟨a, rfl⟩ := len_1 hr
    obtain ⟨b, rfl⟩ := len_1 hs
    obtain ⟨c, rfl⟩ := len_1 ht
    rw [le_1, decide_eq_true_eq] at *
    omega
  · obtain ⟨a, a', rfl⟩ := len_2 hr
    obtain ⟨b, b', rfl⟩ := len_2 hs
    obtain ⟨c, c', rfl⟩ := len_2 ht
    rw [le_2, Bool.and_eq_true, decide_eq_true_eq, decide_eq_true_eq] at *
    omega
theorem le_less {m : Nat} {r s : List Nat} (hm : m = 1 ∨ m = 2) (hr : r.length = m) (hs : s.length = m) (h1 : leR r s = true) (ne : r ≠ s) : r.sum < s.sum := by
  rcases hm with rfl | rfl
  · obtain ⟨a, rfl⟩ := len_1 hr
    obtain ⟨b, rfl⟩ := len_1 hs
    rw [le_1, decide_eq_true_eq] at h1
    have : a ≠ b := fun z => ne (by rw [z])
    simp
    omega
  · obtain ⟨a, a', rfl⟩ := len_2 hr
    obtain ⟨b, b', rfl⟩ := len_2 hs
    rw [le_2, Bool.and_eq_true, decide_eq_true_eq, decide_eq_true_eq] at h1
    have : ¬ (a = b ∧ a' = b') := fun z => ne (by rw [z.1, z.2])
    simp
    omega
section
variable {n : Net} {st : List (Nat × Nat)} {p q : Nat}
theorem goodR_mem {r : List Nat} : r ∈ goodR n.2.1 st p q ↔ r ∈ allR st.length ∧ KeepP (withR n.2.1 st r) p q := by
  unfold goodR
  rw [List.mem_filter, keepB_iff]
theorem leastR_mem {r : List Nat} : r ∈ leastR n.2.1 st p q ↔ r ∈ goodR n.2.1 st p q ∧ ∀ t ∈ goodR n.2.1 st p q, leR t r = true → t = r := by
  unfold leastR
  rw [List.mem_filter, decide_eq_true_eq, List.filter_eq_nil_iff]
  constructor
  · rintro ⟨h1, h2⟩
    refine ⟨h1, fun t ht hl => ?_⟩
    apply Classical.byContradiction
    intro hne
    refine h2 t ht ?_
    rw [decide_eq_false hne, hl]
    rfl
  · rintro ⟨h1, h2⟩
    refine ⟨h1, fun t ht hx => ?_⟩
    simp only [Bool.and_eq_true, Bool.not_eq_true', decide_eq_false_iff_not] at hx
    exact hx.1 (h2 t ht hx.2)
theorem leastR_ex (hs : StOk n st) : ∀ (k : Nat) (r : List Nat), r.sum ≤ k → r ∈ goodR n.2.1 st p q → ∃ t ∈ leastR n.2.1 st p q, leR t r = true := by
  have hm : st.length = 1 ∨ st.length = 2 := by
    have := hs.l1
    have := hs.l2
    omega
  have hl : ∀ r ∈ goodR n.2.1 st p q, r.length = st.length := fun r hr => (goodR_ok hs r hr).len
  intro k
  induction k with
  | zero =>
    intro r hk hr
    refine ⟨r, leastR_mem.mpr ⟨hr, fun t ht hle => ?_⟩, le_refl2 (by rw [hl r hr]; exact hm)⟩
    apply Classical.byContradiction
    intro hne
    have := le_less hm (hl t ht) (hl r hr) hle hne
    omega
  | succ k ih =>
    intro r hk hr
    by_cases h : ∀ t ∈ goodR n.2.1 st p q, leR t r = true → t = r
    · exact ⟨r, leastR_mem.mpr ⟨hr, h⟩, le_refl2 (by rw [hl r hr]; exact hm)⟩
    · obtain ⟨t, ht⟩ := Classical.not_forall.mp h
      obtain ⟨ht, hx⟩ := Classical.not_imp.mp ht
      obtain ⟨hle, hne⟩ := Classical.not_imp.mp hx
      have := le_less hm (hl t ht) (hl r hr) hle hne
      obtain ⟨u, hu, hul⟩ := ih t (by omega) ht
      have hug := (leastR_mem.mp hu).1
      exact ⟨u, hu, le_trans2 hm (hl u hug) (hl t ht) (hl r hr) hul hle⟩
theorem with_1 (rows : Rows) (s : Nat × Nat) (a : Nat) : withR rows [s] [a] = addB rows s a := rfl
/-- more rooms keep what fewer keep -/
theorem keep_more {s t : Nat × Nat} (h1 : s.1 < n.2.1.length) (h2 : t.1 < n.2.1.length) {a b x y : Nat} (ha : a ≤ x) (hb : b ≤ y) (k : KeepP (withR n.2.1 [s, t] [a, b]) p q) : KeepP (withR n.2.1 [s, t] [x, y]) p q :=
  emb_keep (((Emb.refl n.2.1).add h1 ha).add (by rw [addB_len]; exact h2) hb) k
theorem keep_net {s t : Nat × Nat} (h1 : s.1 < n.2.1.length) (h2 : t.1 < n.2.1.length) {a b : Nat} (k : KeepP (withR n.2.1 [s, t] [a, b]) p q) : KeepP n.2.1 p q :=
  emb_keep ((emb_add h1 a).trans (emb_add (by rw [addB_len]; exact h2) b)) k
theorem keep_one {s t : Nat × Nat} (h2 : t.1 < n.2.1.length) {a b : Nat} (k : KeepP (withR n.2.1 [s, t] [a, b]) p q) : KeepP (withR n.2.1 [s] [a]) p q :=
  emb_keep (emb_add (by rw [with_1, addB_len]; exact h2) b) k
end
end Rn
end
section
set_option Elab.async false
set_option linter.all false
set_option maxRecDepth 100000
set_option maxHeartbeats 1000000
namespace Rn
open PySem PySem.Spec L2
theorem ge_nat (a x : Nat) : geF (.int (a : Int)) (.int (x : Int)) = some (.bool (decide (x ≤ a))) := by
  show some (PyData.bool (decide ((a : Int) ≥ (x : Int)))) = _
  rw [show decide ((a : Int) ≥ (x : Int)) = decide (x ≤ a) from decide_eq_decide.mpr (by omega)]
theorem w_no_less (a b x y : Nat) : g__law_no_less [outsD [a, b], outsD [x, y]] = .ok (.bool (leR [x, y] [a, b])) := by
  rw [le_2]
  have an := allF_map (fun p : Nat × Nat => decide (([x, y] : List Nat).getD p.2 0 ≤ p.1)) [(a, 0), (b, 1)]
  have i0 : ixF (outsD [x, y]) (.int ((0 : Nat) : Int)) = some (.int (x : Int)) := rfl
  have i1 : ixF (outsD [x, y]) (.int ((1 : Nat) : Int)) = some (.int (y : Int)) := rfl
  have lc : ∀ u v : Cell, mLc (mEnum (mCons (mVar 0) (mNil))) (hTup 2 (hCons (hName 2) (hCons (hName 3) (hNil)))) (mYes) (e0__law_no_less) [2, 3] [.fz (outsD [a, b]), .fz (outsD [x, y]), u, v] = .ok (.list ([(a, 0), (b, 1)].map fun p : Nat × Nat => PyData.bool (decide (([x, y] : List Nat).getD p.2 0 ≤ p.1)))) [.fz (outsD [a, b]), .fz (outsD [x, y]), u, v] := fun u v => by
    refine lc_a (xs := [(a, 0), (b, 1)]) (e := fun p : Nat × Nat => PyData.tuple [.int (p.2 : Nat), .int (p.1 : Int)]) (enum_ok (e := fun k : Nat => PyData.int (k : Int)) (xs := [a, b]) (cons_ok rfl rfl) rfl) (by simp [big]) rfl fun p hp => ?_
    simp only [List.mem_cons, List.not_mem_nil, or_false] at hp
    rcases hp with rfl | rfl
    · exact ⟨_, rfl, op_ok rfl (mT_ok (op_ok rfl rfl rfl rfl i0)) rfl rfl (ge_nat a x), rfl⟩
    · exact ⟨_, rfl, op_ok rfl (mT_ok (op_ok rfl rfl rfl rfl i1)) rfl rfl (ge_nat b y), rfl⟩
  unfold g__law_no_less
  rw [call2 (m := 2)]
  have e : ([(a, 0), (b, 1)].all fun p : Nat × Nat => decide (([x, y] : List Nat).getD p.2 0 ≤ p.1)) = (decide (x ≤ a) && decide (y ≤ b)) := by simp
  rw [e] at an
  exact fin_rt (ret_ok (cb_ok (cons_ok (mT_ok (lc _ _)) rfl) rfl an))
theorem no_less2 {r t : List Nat} (hr : r.length = 2) (ht : t.length = 2) : g__law_no_less [outsD r, outsD t] = .ok (.bool (leR t r)) := by
  obtain ⟨a, b, rfl⟩ := len_2 hr
  obtain ⟨x, y, rfl⟩ := len_2 ht
  exact w_no_less a b x y
theorem pairs_outs : ∀ {R : List (List Nat)}, (∀ r ∈ R, r.length = 2) → pairsOf (R.map outsD) = some (R.map fun r => (((r.getD 0 0 : Nat) : Int), ((r.getD 1 0 : Nat) : Int)))
  | [], _ => rfl
  | r :: R, h => by
    obtain ⟨a, b, rfl⟩ := len_2 (h r List.mem_cons_self)
    have ih := pairs_outs (R := R) fun s hs => h s (List.mem_cons_of_mem _ hs)
    show (pairsOf (R.map outsD)).map (((a : Int), (b : Int)) :: ·) = _
    rw [ih]
    rfl
theorem all_order : (allR 2).Pairwise fun r s => r.getD 0 0 * 64 + r.getD 1 0 < s.getD 0 0 * 64 + s.getD 1 0 := by decide +kernel
section
variable {n : Net} {s t : Nat × Nat} {p q : Nat}
theorem least_sub {st : List (Nat × Nat)} : (leastR n.2.1 st p q).Sublist (allR st.length) := by
  unfold leastR goodR
  exact List.filter_sublist.trans List.filter_sublist
theorem set_same (hs : StOk n [s, t]) : sortSetF [.tuple ((leastR n.2.1 [s, t] p q).map outsD)] = some (.list ((leastR n.2.1 [s, t] p q).map outsD)) := by
  have sub : (leastR n.2.1 [s, t] p q).Sublist (allR 2) := least_sub
  have hl : ∀ r ∈ leastR n.2.1 [s, t] p q, RmOk 2 r := fun r hr => allR_ok (by decide) (by decide) r (sub.subset hr)
  have len : (leastR n.2.1 [s, t] p q).length ≤ 36 := Nat.le_trans sub.length_le (allR_len 2)
  have pw := all_order.sublist sub
  generalize leastR n.2.1 [s, t] p q = R at *
  have e := pairs_outs (R := R) fun r hr => (hl r hr).len
  show (match pairsOf (R.map outsD) with | some ps => if ordered ps = true then some (PyData.list (R.map outsD)) else none | none => none) = _
  rw [e]
  refine if_pos ?_
  unfold ordered
  simp only [Bool.and_eq_true, decide_eq_true_eq]
  refine ⟨⟨by rw [List.length_map]; omega, fun x hx => ?_⟩, ?_⟩
  · obtain ⟨r, hr, rfl⟩ := List.mem_map.mp hx
    have h := hl r hr
    obtain ⟨a, b, rfl⟩ := len_2 h.len
    have h1 := h.lo a (by simp)
    have h2 := h.lo b (by simp)
    show (0 : Int) ≤ (a : Int) ∧ (a : Int) < 64 ∧ (0 : Int) ≤ (b : Int) ∧ (b : Int) < 64
    omega
  · refine List.pairwise_map.mpr (pw.imp fun {r u} h => ?_)
    show ((r.getD 0 0 : Nat) : Int) * 64 + ((r.getD 1 0 : Nat) : Int) < ((u.getD 0 0 : Nat) : Int) * 64 + ((u.getD 1 0 : Nat) : Int)
    omega
/-- keeps: just the rooms that are no less than a least one -/
theorem keeps_iff (hs : StOk n [s, t]) {r : List Nat} (hr : r ∈ allR 2) : KeepP (withR n.2.1 [s, t] r) p q ↔ (leastR n.2.1 [s, t] p q).any (fun u => leR u r) = true := by
  rw [List.any_eq_true]
  constructor
  · intro k
    exact leastR_ex hs r.sum r (Nat.le_refl _) (goodR_mem.mpr ⟨hr, k⟩)
  · rintro ⟨u, hu, hle⟩
    have hg := goodR_mem.mp (leastR_mem.mp hu).1
    obtain ⟨a, b, rfl⟩ := len_2 (allR_ok (m := 2) (by decide) (by decide) u hg.1).len
    obtain ⟨x, y, rfl⟩ := len_2 (allR_ok (m := 2) (by decide) (by decide) r hr).len
    rw [le_2, Bool.and_eq_true, decide_eq_true_eq, decide_eq_true_eq] at hle
    exact keep_more (hs.lt s (by simp)).1 (hs.lt t (by simp)).1 hle.1 hle.2 hg.2
theorem none_less (hs : StOk n [s, t]) {r : List Nat} (hr : r ∈ leastR n.2.1 [s, t] p q) : (leastR n.2.1 [s, t] p q).any (fun u => !decide (u = r) && leR u r) = false := by
  rw [List.any_eq_false]
  intro u hu
  simp only [Bool.and_eq_true, Bool.not_eq_true', decide_eq_false_iff_not]
  rintro ⟨hne, hle⟩
  exact hne ((leastR_mem.mp hr).2 u (leastR_mem.mp hu).1 hle)
theorem least_net (hs : StOk n [s, t]) (h : leastR n.2.1 [s, t] p q ≠ []) : KeepP n.2.1 p q := by
  obtain ⟨u, hu⟩ := List.exists_mem_of_ne_nil _ h
  have hg := goodR_mem.mp (leastR_mem.mp hu).1
  obtain ⟨a, b, rfl⟩ := len_2 (allR_ok (m := 2) (by decide) (by decide) u hg.1).len
  exact keep_net (hs.lt s (by simp)).1 (hs.lt t (by simp)).1 hg.2
theorem st_one (hs : StOk n [s, t]) : StOk n [s] := ⟨by simp, by simp, fun x hx => hs.lt x (by rw [List.mem_singleton.mp hx]; simp)⟩
theorem least_one (hs : StOk n [s, t]) (h : leastR n.2.1 [s, t] p q ≠ []) : leastR n.2.1 [s] p q ≠ [] := by
  obtain ⟨u, hu⟩ := List.exists_mem_of_ne_nil _ h
  have hg := goodR_mem.mp (leastR_mem.mp hu).1
  have ok := allR_ok (m := 2) (by decide) (by decide) u hg.1
  obtain ⟨a, b, rfl⟩ := len_2 ok.len
  have ha := ok.lo a (by simp)
  have k := keep_one (n := n) (s := s) (hs.lt t (by simp)).1 hg.2
  have hm : [a] ∈ allR [s].length := List.mem_map.mpr ⟨a - 1, List.mem_range.mpr (by omega), by rw [show a - 1 + 1 = a by omega]⟩
  obtain ⟨v, hv, -⟩ := leastR_ex (st_one hs) [a].sum [a] (Nat.le_refl _) (goodR_mem.mpr ⟨hm, k⟩)
  intro z
  rw [z] at hv
  cases hv
theorem one_order : (allR 1).Nodup := by decide
theorem least_few (hs : StOk n [s]) : (leastR n.2.1 [s] p q).length ≤ 1 := by
  have nd : (leastR n.2.1 [s] p q).Nodup := one_order.sublist least_sub
  have same : ∀ u ∈ leastR n.2.1 [s] p q, ∀ v ∈ leastR n.2.1 [s] p q, u = v := by
    intro u hu v hv
    have gu := (leastR_mem.mp hu)
    have gv := (leastR_mem.mp hv)
    obtain ⟨a, rfl⟩ := len_1 (goodR_ok hs u gu.1).len
    obtain ⟨b, rfl⟩ := len_1 (goodR_ok hs v gv.1).len
    rcases Nat.le_total a b with h | h
    · exact gv.2 _ gu.1 (by rw [le_1]; exact decide_eq_true h)
    · exact (gu.2 _ gv.1 (by rw [le_1]; exact decide_eq_true h)).symm
  generalize leastR n.2.1 [s] p q = R at *
  match R, nd, same with
  | [], _, _ => simp
  | [u], _, _ => simp
  | u :: v :: R, nd, same =>
    rw [List.nodup_cons] at nd
    exact absurd (by rw [same u (by simp) v (by simp)]; simp) nd.1
end
end Rn
end
section
set_option Elab.async false
set_option linter.all false
set_option maxRecDepth 100000
set_option maxHeartbeats 1000000
namespace Rn
open PySem PySem.Spec L2
local macro_rules
  | `(tactic| array_get_dec) => `(tactic| focus first
    | (with_reducible assumption)
    | ((with_reducible apply mT_ok); all_goals array_get_dec)
    | ((with_reducible apply op_ok); all_goals array_get_dec)
    | ((with_reducible apply cons_ok); all_goals array_get_dec)
    | ((with_reducible apply call_ok); all_goals array_get_dec)
    | ((with_reducible apply callX_ok); all_goals array_get_dec)
    | ((with_reducible apply callX_ex); all_goals array_get_dec)
    | ((with_reducible apply callB_ok); all_goals array_get_dec)
    | ((with_reducible apply tst_ok); all_goals array_get_dec)
    | ((with_reducible apply cb_ok); all_goals array_get_dec)
    | ((with_reducible apply un_ok); all_goals array_get_dec)
    | ((with_reducible apply slc_ok); all_goals array_get_dec)
    | ((with_reducible apply part_ok); all_goals array_get_dec)
    | ((with_reducible apply not_ok); all_goals array_get_dec)
    | ((with_reducible apply notV_ok); all_goals array_get_dec)
    | ((with_reducible apply seqT_ok); all_goals array_get_dec)
    | ((with_reducible apply seqL_ok); all_goals array_get_dec)
    | ((with_reducible apply dget_ok); all_goals array_get_dec)
    | ((with_reducible apply chain_b); all_goals array_get_dec)
    | ((with_reducible apply callF_ok); all_goals array_get_dec)
    | ((with_reducible apply isi_ok); (focus array_get_dec); (focus array_get_dec); (first | exact rfl | with_reducible assumption))
    | ((with_reducible apply tup_ok); (focus array_get_dec); (first | exact (by decide) | simp))
    | ((with_reducible apply lst_ok); (focus array_get_dec); (first | exact (by decide) | simp))
    | ((with_reducible apply if_T); (focus array_get_dec); (focus first | exact rfl | with_reducible assumption); (focus array_get_dec))
    | ((with_reducible apply if_F); (focus array_get_dec); (focus first | exact rfl | with_reducible assumption); (focus array_get_dec))
    | ((with_reducible apply and_T); (focus array_get_dec); (focus first | exact rfl | with_reducible assumption); (focus array_get_dec))
    | ((with_reducible apply or_F); (focus array_get_dec); (focus first | exact rfl | with_reducible assumption); (focus array_get_dec))
    | ((with_reducible apply andV_T); (focus array_get_dec); (focus first | exact rfl | with_reducible assumption); (focus array_get_dec))
    | ((with_reducible apply orV_F); (focus array_get_dec); (focus first | exact rfl | with_reducible assumption); (focus array_get_dec))
    | ((with_reducible apply and_F); (focus array_get_dec); (focus first | exact rfl | with_reducible assumption))
    | ((with_reducible apply or_T); (focus array_get_dec); (focus first | exact rfl | with_reducible assumption))
    | ((with_reducible apply andV_F); (focus array_get_dec); (focus first | exact rfl | with_reducible assumption))
    | ((with_reducible apply orV_T); (focus array_get_dec); (focus first | exact rfl | with_reducible assumption))
    | ((with_reducible apply and_b); all_goals array_get_dec)
    | ((with_reducible apply or_b); all_goals array_get_dec)
    | ((with_reducible apply andV_b); all_goals array_get_dec)
    | ((with_reducible apply orV_b); all_goals array_get_dec)
    | ((with_reducible apply callX_t); (focus array_get_dec); decide)
    | ((with_reducible apply told_ok); all_goals array_get_dec)
    | ((with_reducible apply lc_a); (focus array_get_dec); (focus first | with_reducible assumption | (simp [big]; done) | (simp [big]; omega)); (exact rfl); (intro x hx; refine ⟨_, rfl, ?_, rfl⟩; first | with_reducible assumption | array_get_dec))
    | ((with_reducible apply rng1_a); (focus array_get_dec); (focus first | with_reducible assumption | exact rfl); (focus first | with_reducible assumption | omega | (simp; done) | (simp; omega)))
    | ((with_reducible apply rng2_a); (focus array_get_dec); (focus first | with_reducible assumption | exact rfl); (focus first | with_reducible assumption | exact rfl); (focus first | with_reducible assumption | omega | (simp; done) | (simp; omega)); (focus first | with_reducible assumption | omega | (simp; done) | (simp; omega)))
    | ((with_reducible apply enum_a); (focus array_get_dec); (focus exact rfl))
    | ((with_reducible apply lf_var); exact rfl)
    | ((with_reducible apply lf_varT); exact rfl)
    | ((with_reducible apply lf_ret); exact rfl)
    | ((with_reducible apply lf_nil); exact rfl)
    | ((with_reducible apply lf_nop); exact rfl)
    | ((with_reducible apply lf_dt0); exact rfl)
    | ((with_reducible apply lf_opts); exact rfl)
    | ((with_reducible apply lf_optR); exact rfl)
    | ((with_reducible apply lf_opt); first | with_reducible assumption | with_reducible exact isn_o _ | with_reducible exact ist_o _ | with_reducible exact neF_o _ _ | with_reducible exact eqF_o _ _ | with_reducible exact neF_b _ _ | with_reducible exact eqF_b _ _ | with_reducible exact neF_s _ _ | with_reducible exact eqF_s _ _ | with_reducible exact ev_neI _ _ | with_reducible exact ev_eqI _ _ | exact ev_neI _ _ | exact ev_eqI _ _ | ((fail_if_success (with_reducible apply lf_ne)); (fail_if_success (with_reducible apply lf_eq)); exact rfl) | exact term_eq _ | exact ev_isn _ _ | solve_by_elim (maxDepth := 3))
    | ((with_reducible apply lf_call); first | with_reducible assumption | solve_by_elim (maxDepth := 3))
    | ((with_reducible apply lf_fr); first | with_reducible assumption | solve_by_elim (maxDepth := 3))
    | ((with_reducible apply lf_cex); first | with_reducible assumption | solve_by_elim (maxDepth := 3))
    | ((with_reducible apply lf_callB); first | with_reducible assumption | solve_by_elim (maxDepth := 3)))
section
variable {n : Net} {s t : Nat × Nat} {p : Nat} {d : D}
noncomputable abbrev LR (n : Net) (s t : Nat × Nat) (p : Nat) : List (List Nat) := leastR n.2.1 [s, t] p 1
theorem least_len (hs : StOk n [s, t]) : ∀ r ∈ LR n s t p, r.length = 2 := fun r hr => (allR_ok (m := 2) (by decide) (by decide) r (least_sub.subset hr)).len
theorem loop1 (hs : StOk n [s, t]) {x_one x_at x_single x_rooms x_most x_keeps_it x_other : Cell} {Q : Rho → Prop} (q : ∀ x_one x_other, Q [.no, .bw d, .fz (netD n), .fz (.int (n.2.1.length : Int)), .fz (storesD [s, t]), .fz (paceD p 1), .fz (.tuple ((LR n s t p).map outsD)), x_one, x_at, x_single, x_rooms, x_most, x_keeps_it, x_other]) :
    Wp s14_law Q [.no, .bw d, .fz (netD n), .fz (.int (n.2.1.length : Int)), .fz (storesD [s, t]), .fz (paceD p 1), .fz (.tuple ((LR n s t p).map outsD)), x_one, x_at, x_single, x_rooms, x_most, x_keeps_it, x_other] := by
  have len := least_len (n := n) (s := s) (t := t) (p := p) hs
  have sub : (LR n s t p).length ≤ 36 := Nat.le_trans least_sub.length_le (allR_len 2)
  have nl : ∀ r, r ∈ LR n s t p → (LR n s t p).any (fun u => !decide (u = r) && leR u r) = false := fun r hr => none_less hs hr
  generalize LR n s t p = R at *
  unfold s14_law
  refine wp_for outsD R (fun _ ρ => ∃ x_one x_other, ρ = [.no, .bw d, .fz (netD n), .fz (.int (n.2.1.length : Int)), .fz (storesD [s, t]), .fz (paceD p 1), .fz (.tuple (R.map outsD)), x_one, x_at, x_single, x_rooms, x_most, x_keeps_it, x_other]) (seqT_ok rfl) ⟨_, _, rfl⟩ ?_ ?_
  · rintro pre r post ex ρ ⟨x_one, x_other, rfl⟩
    have hr : r ∈ R := by rw [ex]; simp
    refine ⟨_, rfl, ?_⟩
    dsimp only [List.set]
    unfold l1_law
    have an := anyF_map (fun u => !decide (u = r) && leR u r) R
    rw [nl r hr] at an
    have lc : ∀ x_other : Cell, mLc (mSeqI (mVar 6)) (hName 13) (mYes) (e0_law) [13] [.no, .bw d, .fz (netD n), .fz (.int (n.2.1.length : Int)), .fz (storesD [s, t]), .fz (paceD p 1), .fz (.tuple (R.map outsD)), .fz (outsD r), x_at, x_single, x_rooms, x_most, x_keeps_it, x_other] = .ok (.list (R.map fun u => PyData.bool (!decide (u = r) && leR u r))) [.no, .bw d, .fz (netD n), .fz (.int (n.2.1.length : Int)), .fz (storesD [s, t]), .fz (paceD p 1), .fz (.tuple (R.map outsD)), .fz (outsD r), x_at, x_single, x_rooms, x_most, x_keeps_it, x_other] := fun x_other => by
      refine lc_a (xs := R) (e := outsD) (g := fun u => PyData.bool (!decide (u = r) && leR u r)) (seqT_ok rfl) (by unfold big; omega) rfl fun u hu => ⟨_, rfl, ?_, rfl⟩
      have ne := good_outs.neF u r
      have ml := no_less2 (len r hr) (len u hu)
      by_cases h : u = r
      · rw [decide_eq_true h] at ne ⊢
        exact andV_F (op_ok rfl rfl rfl rfl ne) rfl
      · rw [decide_eq_false h] at ne ⊢
        exact andV_T (op_ok rfl rfl rfl rfl ne) rfl (call_ok (cons_ok rfl (cons_ok rfl rfl)) ml)
    exact wp_notB (tst_ok (cb_ok (cons_ok (mT_ok (lc _)) rfl) rfl an)) rfl ⟨_, _, rfl⟩
  · rintro ρ ⟨x_one, x_other, rfl⟩
    exact q _ _
theorem loop2 (h : NetOk n) (hs : StOk n [s, t]) (hp : p ≤ 1000) {x_one x_at x_single x_rooms x_most x_keeps_it x_other : Cell} {Q : Rho → Prop} (q : ∀ x_one x_at x_rooms x_most x_keeps_it, Q [.no, .bw d, .fz (netD n), .fz (.int (n.2.1.length : Int)), .fz (storesD [s, t]), .fz (paceD p 1), .fz (.tuple ((LR n s t p).map outsD)), x_one, x_at, x_single, x_rooms, x_most, x_keeps_it, x_other]) :
    Wp s15_law Q [.no, .bw d, .fz (netD n), .fz (.int (n.2.1.length : Int)), .fz (storesD [s, t]), .fz (paceD p 1), .fz (.tuple ((LR n s t p).map outsD)), x_one, x_at, x_single, x_rooms, x_most, x_keeps_it, x_other] := by
  have len := least_len (n := n) (s := s) (t := t) (p := p) hs
  have sub : (LR n s t p).length ≤ 36 := Nat.le_trans least_sub.length_le (allR_len 2)
  have ki : ∀ r, r ∈ allR 2 → (KeepP (withR n.2.1 [s, t] r) p 1 ↔ (LR n s t p).any (fun u => leR u r) = true) := fun r hr => keeps_iff hs hr
  have a0 : ixF (paceD p 1) (.int 0) = some (.int (p : Int)) := rfl
  have a1 : ixF (paceD p 1) (.int 1) = some (.int 1) := rfl
  generalize LR n s t p = R at *
  unfold s15_law
  refine wp_each (fun k : Nat => PyData.int (k : Int)) (List.range 36) (fun ρ => ∃ x_one x_at x_rooms x_most x_keeps_it, ρ = [.no, .bw d, .fz (netD n), .fz (.int (n.2.1.length : Int)), .fz (storesD [s, t]), .fz (paceD p 1), .fz (.tuple (R.map outsD)), x_one, x_at, x_single, x_rooms, x_most, x_keeps_it, x_other]) (rng1_a (i := 36) (cons_ok rfl rfl) rfl (by decide)) ⟨_, _, _, _, _, rfl⟩ ?_ ?_
  · rintro k hk ρ ⟨x_one, x_at, x_rooms, x_most, x_keeps_it, rfl⟩
    have hk := List.mem_range.mp hk
    have hr : [1 + k / 6, 1 + k % 6] ∈ allR 2 := List.mem_map.mpr ⟨k, List.mem_range.mpr hk, rfl⟩
    have fd : fdivF (.int (k : Int)) (.int 6) = some (.int ((k / 6 : Nat) : Int)) := by
      rw [fd0 (by decide) (by decide)]
      rfl
    have md : modF (.int (k : Int)) (.int 6) = some (.int ((k % 6 : Nat) : Int)) := mod_nat (m := 6) (by decide)
    have ad1 : addF (.int 1) (.int ((k / 6 : Nat) : Int)) = some (.int ((1 + k / 6 : Nat) : Int)) := by rw [ev_add]; rfl
    have ad2 : addF (.int 1) (.int ((k % 6 : Nat) : Int)) = some (.int ((1 + k % 6 : Nat) : Int)) := by rw [ev_add]; rfl
    obtain ⟨o, w, S⟩ := w_slowest_with h hs (allR_ok (m := 2) (by decide) (by decide) _ hr)
    have kp := (slow_keep S (p := p) (q := 1)).symm.trans (ki _ hr)
    have hlen : ([1 + k / 6, 1 + k % 6] : List Nat).length = 2 := rfl
    refine ⟨_, rfl, ?_⟩
    dsimp only [List.set]
    unfold l7_law s3_law
    refine wp_seq (wp_set (d := outsD [1 + k / 6, 1 + k % 6]) (tup_ok (cons_ok (op_ok (mT_ok rfl) (mT_ok (op_ok rfl (mT_ok rfl) rfl rfl fd)) rfl rfl ad1) (cons_ok (op_ok (mT_ok rfl) (mT_ok (op_ok rfl (mT_ok rfl) rfl rfl md)) rfl rfl ad2) rfl)) (show (2 : Nat) ≤ 100 by decide)) rfl ?_)
    dsimp only [List.set]
    generalize ([1 + k / 6, 1 + k % 6] : List Nat) = r at *
    have an := anyF_map (fun u => leR u r) R
    unfold s4_law
    refine wp_seq (wp_set (callX_ok (cons_ok rfl (cons_ok rfl (cons_ok rfl rfl))) w) rfl ?_)
    dsimp only [List.set]
    have step : ∀ b : Bool, b = R.any (fun u => leR u r) → (∀ x_keeps_it : Cell, (mOrV (mOp (isF false) (mVarT 11) (mT (ret .none))) (mOp leF (mT (mOp mulF (mT (mOp ixF (mVarT 11) (mT (ret (.int 0))))) (mT (mOp ixF (mVarT 5) (mT (ret (.int 1))))))) (mT (mOp mulF (mT (mOp ixF (mVarT 5) (mT (ret (.int 0))))) (mT (mOp ixF (mVarT 11) (mT (ret (.int 1))))))))) [.no, .bw d, .fz (netD n), .fz (.int (n.2.1.length : Int)), .fz (storesD [s, t]), .fz (paceD p 1), .fz (.tuple (R.map outsD)), x_one, .fz (.int (k : Int)), x_single, .fz (outsD r), .fz (encN o), x_keeps_it, x_other] = .ok (.bool b) [.no, .bw d, .fz (netD n), .fz (.int (n.2.1.length : Int)), .fz (storesD [s, t]), .fz (paceD p 1), .fz (.tuple (R.map outsD)), x_one, .fz (.int (k : Int)), x_single, .fz (outsD r), .fz (encN o), x_keeps_it, x_other]) → Wp (sSeq s5_law s6_law) (fun ρ => ∃ x_one x_at x_rooms x_most x_keeps_it, ρ = [.no, .bw d, .fz (netD n), .fz (.int (n.2.1.length : Int)), .fz (storesD [s, t]), .fz (paceD p 1), .fz (.tuple (R.map outsD)), x_one, x_at, x_single, x_rooms, x_most, x_keeps_it, x_other]) [.no, .bw d, .fz (netD n), .fz (.int (n.2.1.length : Int)), .fz (storesD [s, t]), .fz (paceD p 1), .fz (.tuple (R.map outsD)), x_one, .fz (.int (k : Int)), x_single, .fz (outsD r), .fz (encN o), x_keeps_it, x_other] := by
      intro b hb ev
      unfold s5_law
      refine wp_seq (wp_set (ev _) rfl ?_)
      dsimp only [List.set]
      unfold s6_law
      have lc : ∀ x_one : Cell, mLc (mSeqI (mVar 6)) (hName 7) (mYes) (e2_law) [7] [.no, .bw d, .fz (netD n), .fz (.int (n.2.1.length : Int)), .fz (storesD [s, t]), .fz (paceD p 1), .fz (.tuple (R.map outsD)), x_one, .fz (.int (k : Int)), x_single, .fz (outsD r), .fz (encN o), .fz (.bool b), x_other] = .ok (.list (R.map fun u => PyData.bool (leR u r))) [.no, .bw d, .fz (netD n), .fz (.int (n.2.1.length : Int)), .fz (storesD [s, t]), .fz (paceD p 1), .fz (.tuple (R.map outsD)), x_one, .fz (.int (k : Int)), x_single, .fz (outsD r), .fz (encN o), .fz (.bool b), x_other] := fun x_one => by
        refine lc_a (xs := R) (e := outsD) (g := fun u => PyData.bool (leR u r)) (seqT_ok rfl) (by unfold big; omega) rfl fun u hu => ⟨_, rfl, ?_, rfl⟩
        exact call_ok (cons_ok rfl (cons_ok rfl rfl)) (no_less2 hlen (len u hu))
      have ne : neF (.bool b) (.bool (R.any fun u => leR u r)) = some (.bool false) := by
        rw [← hb]; exact ne_self good_bool b
      exact wp_notB (tst_ok (op_ok rfl (mT_ok (cb_ok (cons_ok (mT_ok (lc _)) rfl) rfl an)) rfl rfl ne)) rfl ⟨_, _, _, _, _, rfl⟩
    cases o with
    | none =>
      refine step true ?_ fun x => orV_T (op_ok rfl (mT_ok rfl) rfl rfl rfl) rfl
      exact (kp.mp fun f z => by cases z).symm
    | some f =>
      have m0 : ixF (encN (some f)) (.int 0) = some (.int (f.1 : Int)) := rfl
      have m1 : ixF (encN (some f)) (.int 1) = some (.int (f.2 : Int)) := rfl
      have u1 : mulF (.int (f.1 : Int)) (.int 1) = some (.int (f.1 : Int)) := by
        have b1 : f.1 ≤ 1000 := S.2.1
        rw [mul_s (by omega) (by omega), Int.mul_one]
      have u2 : mulF (.int (p : Int)) (.int (f.2 : Int)) = some (.int ((p * f.2 : Nat) : Int)) := mul_nat p f.2 (by omega)
      have le : leF (.int (f.1 : Int)) (.int ((p * f.2 : Nat) : Int)) = some (.bool (decide (f.1 ≤ p * f.2))) := by
        show some (PyData.bool (decide ((f.1 : Int) ≤ ((p * f.2 : Nat) : Int)))) = _
        rw [show decide ((f.1 : Int) ≤ ((p * f.2 : Nat) : Int)) = decide (f.1 ≤ p * f.2) from decide_eq_decide.mpr (by omega)]
      refine step (decide (f.1 ≤ p * f.2)) ?_ fun x => orV_F (op_ok rfl (mT_ok rfl) rfl rfl rfl) rfl (op_ok (mT_ok (op_ok (mT_ok (op_ok rfl (mT_ok rfl) rfl rfl m0)) (mT_ok (op_ok rfl (mT_ok rfl) rfl rfl a1)) rfl rfl u1)) (mT_ok (op_ok (mT_ok (op_ok rfl (mT_ok rfl) rfl rfl a0)) (mT_ok (op_ok rfl (mT_ok rfl) rfl rfl m1)) rfl rfl u2)) rfl rfl le)
      rw [Bool.eq_iff_iff, decide_eq_true_eq, ← kp]
      constructor
      · rintro h g hg
        cases hg
        rw [Nat.mul_one]; exact h
      · intro h
        have := h f rfl
        rw [Nat.mul_one] at this; exact this
  · rintro ρ ⟨x_one, x_at, x_rooms, x_most, x_keeps_it, rfl⟩
    exact q _ _ _ _ _
theorem slow_net (h : NetOk n) : ∃ o, g_slowest [netD n] = .ok (encN o) ∧ Slow n.2.1 o := by
  have R : RowsR n.2.1 := ⟨h.r1, h.r5, h.src, fun r hr => Nat.le_trans (h.few r hr) (by decide), fun r hr a ha => ⟨(h.arc r hr a ha).2.1, Nat.le_trans (h.arc r hr a ha).2.2 (by decide)⟩, h.rank⟩
  obtain ⟨o, e, S⟩ := R.w_slowest_of
  refine ⟨o, ?_, S⟩
  unfold g_slowest
  rw [call1 (m := 0)]
  exact fin_rt (seq_to (drop_ok (callX_ok rfl h.need)) (ret_ok (call_ok (cons_ok (op_ok rfl (mT_ok rfl) rfl rfl rfl) rfl) e)))
theorem rest34 (h : NetOk n) (hs : StOk n [s, t]) (hp : p ≤ 1000) (hip : g_is_pace [paceD p 1] = .ok (.bool true)) {x_one x_at x_single x_rooms x_most x_keeps_it x_other : Cell} :
    Wp (sSeq s16_law (sSeq s17_law s18_law)) (fun _ => True) [.no, .bw d, .fz (netD n), .fz (.int (n.2.1.length : Int)), .fz (storesD [s, t]), .fz (paceD p 1), .fz (.tuple ((LR n s t p).map outsD)), x_one, x_at, x_single, x_rooms, x_most, x_keeps_it, x_other] := by
  have hs1 := st_one hs
  have wl := w_least h hs1 hp (q := 1) (by decide) hip
  have few := least_few (n := n) (s := s) (p := p) (q := 1) hs1
  have lone := least_one (n := n) (s := s) (t := t) (p := p) (q := 1) hs
  have lnet : LR n s t p ≠ [] → KeepP n.2.1 p 1 := least_net hs
  obtain ⟨o, ws, S⟩ : ∃ o, g_slowest [netD n] = .ok (encN o) ∧ Slow n.2.1 o := slow_net h
  have sl : slF (storesD [s, t]) none (some 1) = some (storesD [s]) := by
    show some (PyData.tuple (cutD [pairD s, pairD t] none (some 1))) = _
    rw [cut_to (i := 1) (n := 1) _ rfl (by simp)]
    rfl
  have a0 : ixF (paceD p 1) (.int 0) = some (.int (p : Int)) := rfl
  have l1 : lenF [.tuple ((leastR n.2.1 [s] p 1).map outsD)] = some (.int ((leastR n.2.1 [s] p 1).length : Int)) := by
    show some (PyData.int (((leastR n.2.1 [s] p 1).map outsD).length : Int)) = _
    rw [List.length_map]
  have gt1 : gtF (.int ((leastR n.2.1 [s] p 1).length : Int)) (.int 1) = some (.bool false) := by
    show some (PyData.bool (decide (((leastR n.2.1 [s] p 1).length : Int) > 1))) = _
    rw [decide_eq_false (by omega)]
  have ne1 : neF (.tuple ((LR n s t p).map outsD)) (.tuple []) = some (.bool (!decide (LR n s t p = []))) := good_outs.tup.neF (LR n s t p) []
  have eq1 : eqF (.tuple ((leastR n.2.1 [s] p 1).map outsD)) (.tuple []) = some (.bool (decide (leastR n.2.1 [s] p 1 = []))) := good_outs.tup.eqF (leastR n.2.1 [s] p 1) []
  generalize leastR n.2.1 [s] p 1 = R1 at *
  have fin : ∀ {x_one x_at x_rooms x_most x_keeps_it x_other : Cell}, Wp (sSeq s17_law s18_law) (fun _ => True) [.no, .bw d, .fz (netD n), .fz (.int (n.2.1.length : Int)), .fz (storesD [s, t]), .fz (paceD p 1), .fz (.tuple ((LR n s t p).map outsD)), x_one, x_at, x_single, x_rooms, x_most, x_keeps_it, x_other] := by
    intro x_one x_at x_rooms x_most x_keeps_it x_other
    unfold s17_law
    refine wp_seq (wp_set (callX_ok (cons_ok rfl (cons_ok (slc_ok rfl rfl (part_ok rfl) rfl sl) (cons_ok rfl rfl))) wl) rfl ?_)
    dsimp only [List.set]
    unfold s18_law
    by_cases hL : LR n s t p = []
    · rw [decide_eq_true hL] at ne1
      exact wp_notB (or_F (tst_ok (op_ok (mT_ok (cb_ok (cons_ok rfl rfl) rfl l1)) (mT_ok rfl) rfl rfl gt1)) rfl (and_F (tst_ok (op_ok rfl (mT_ok (tup_ok rfl (by decide))) rfl rfl ne1)) rfl)) rfl trivial
    · rw [decide_eq_false hL] at ne1
      rw [decide_eq_false (lone hL)] at eq1
      exact wp_notB (or_F (tst_ok (op_ok (mT_ok (cb_ok (cons_ok rfl rfl) rfl l1)) (mT_ok rfl) rfl rfl gt1)) rfl (and_T (tst_ok (op_ok rfl (mT_ok (tup_ok rfl (by decide))) rfl rfl ne1)) rfl (tst_ok (op_ok rfl (mT_ok (tup_ok rfl (by decide))) rfl rfl eq1)))) rfl trivial
  unfold s16_law
  cases o with
  | none =>
    refine wp_seq (wp_notB (and_F (tst_ok (op_ok (mT_ok (callX_ok (cons_ok rfl rfl) ws)) (mT_ok rfl) rfl rfl rfl)) rfl) rfl ?_)
    exact fin
  | some f =>
    have m0 : ixF (encN (some f)) (.int 0) = some (.int (f.1 : Int)) := rfl
    have m1 : ixF (encN (some f)) (.int 1) = some (.int (f.2 : Int)) := rfl
    have u2 : mulF (.int (p : Int)) (.int (f.2 : Int)) = some (.int ((p * f.2 : Nat) : Int)) := mul_nat p f.2 (by omega)
    have gt : gtF (.int (f.1 : Int)) (.int ((p * f.2 : Nat) : Int)) = some (.bool (decide (p * f.2 < f.1))) := by
      show some (PyData.bool (decide ((f.1 : Int) > ((p * f.2 : Nat) : Int)))) = _
      rw [show decide ((f.1 : Int) > ((p * f.2 : Nat) : Int)) = decide (p * f.2 < f.1) from decide_eq_decide.mpr (by omega)]
    have t1 : isF true (encN (some f)) .none = some (.bool true) := rfl
    by_cases hf : p * f.2 < f.1
    · rw [decide_eq_true hf] at gt
      have hL : LR n s t p = [] := by
        apply Classical.byContradiction
        intro hne
        have := (slow_keep S).mp (lnet hne) f rfl
        rw [Nat.mul_one] at this
        omega
      have ne2 := ne1
      rw [decide_eq_true hL] at ne2
      refine wp_seq (wp_notB (and_T (tst_ok (op_ok (mT_ok (callX_ok (cons_ok rfl rfl) ws)) (mT_ok rfl) rfl rfl t1)) rfl (and_T (tst_ok (op_ok (mT_ok (op_ok (mT_ok (callX_ok (cons_ok rfl rfl) ws)) (mT_ok rfl) rfl rfl m0)) (mT_ok (op_ok (mT_ok (op_ok rfl (mT_ok rfl) rfl rfl a0)) (mT_ok (op_ok (mT_ok (callX_ok (cons_ok rfl rfl) ws)) (mT_ok rfl) rfl rfl m1)) rfl rfl u2)) rfl rfl gt)) rfl (tst_ok (op_ok rfl (mT_ok (tup_ok rfl (by decide))) rfl rfl ne2)))) rfl ?_)
      exact fin
    · rw [decide_eq_false hf] at gt
      refine wp_seq (wp_notB (and_T (tst_ok (op_ok (mT_ok (callX_ok (cons_ok rfl rfl) ws)) (mT_ok rfl) rfl rfl t1)) rfl (and_F (tst_ok (op_ok (mT_ok (op_ok (mT_ok (callX_ok (cons_ok rfl rfl) ws)) (mT_ok rfl) rfl rfl m0)) (mT_ok (op_ok (mT_ok (op_ok rfl (mT_ok rfl) rfl rfl a0)) (mT_ok (op_ok (mT_ok (callX_ok (cons_ok rfl rfl) ws)) (mT_ok rfl) rfl rfl m1)) rfl rfl u2)) rfl rfl gt)) rfl)) rfl ?_)
      exact fin
end
theorem round_ok : RoundOk lawN.length b_law := roundOk_of fun c0 => by
  obtain ⟨d0, hd0, e0⟩ := rho0_dice 14 c0
  rw [show lawN.length = 14 from rfl, show rho0 14 c0 = [.no, .bw d0, .no, .no, .no, .no, .no, .no, .no, .no, .no, .no, .no, .no] from e0]
  obtain ⟨n, d1, hd1, h, q1⟩ := w_law_net hd0 (most := 4) (inp := 0) (by decide) (by decide) (by decide)
  have r1 := h.r1
  have r5 := h.r5
  have ln : lenF [rowsD n.2.1] = some (.int (n.2.1.length : Int)) := by
    show some (PyData.int ((n.2.1.map _).length : Int)) = _
    rw [List.length_map]
  obtain ⟨a, d2, ha, hd2, q2⟩ := roll_n hd1 (n.2.1.length : Int) n.2.1.length rfl (by omega) (by omega)
  obtain ⟨b, d3, hb, hd3, q3⟩ := roll_n hd2 (n.2.1.length : Int) n.2.1.length rfl (by omega) (by omega)
  obtain ⟨x, d4, hx, hd4, q4⟩ := roll_n hd3 (n.2.1.length : Int) n.2.1.length rfl (by omega) (by omega)
  obtain ⟨y, d5, hy, hd5, q5⟩ := roll_n hd4 (n.2.1.length : Int) n.2.1.length rfl (by omega) (by omega)
  obtain ⟨k, d6, hk, hd6, q6⟩ := roll_n hd5 9 9 rfl (by decide) (by decide)
  have ad : addF (.int 1) (.int (k : Int)) = some (.int ((1 + k : Nat) : Int)) := by rw [ev_add]; rfl
  have hs : StOk n [(a, b), (x, y)] := ⟨by simp, by simp, fun u hu => by
    simp only [List.mem_cons, List.not_mem_nil, or_false] at hu
    rcases hu with rfl | rfl
    · exact ⟨ha, hb⟩
    · exact ⟨hx, hy⟩⟩
  have hip := w_is_pace (p := 1 + k) (q := 1) (by omega) (by decide) (by decide) (Nat.gcd_one_right _)
  have wl := w_least h hs (p := 1 + k) (q := 1) (by omega) (by decide) hip
  have ss := set_same (n := n) (p := 1 + k) (q := 1) hs
  have neR : neF (.list ((leastR n.2.1 [(a, b), (x, y)] (1 + k) 1).map outsD)) (.list ((leastR n.2.1 [(a, b), (x, y)] (1 + k) 1).map outsD)) = some (.bool false) := ne_self good_outs.list _
  unfold b_law s8_law
  refine wp_seq (wp_set (callB_ok rfl (cons_ok rfl (cons_ok rfl rfl)) rfl q1 rfl) rfl ?_)
  dsimp only [List.set]
  unfold s9_law
  refine wp_seq (wp_set (cb_ok (cons_ok (mT_ok (op_ok rfl (mT_ok rfl) rfl rfl rfl)) rfl) rfl ln) rfl ?_)
  dsimp only [List.set]
  unfold s10_law
  refine wp_seq (wp_set (d := storesD [(a, b), (x, y)]) (tup_ok (cons_ok (tup_ok (cons_ok (callB_ok rfl (cons_ok rfl rfl) rfl q2 rfl) (cons_ok (callB_ok rfl (cons_ok rfl rfl) rfl q3 rfl) rfl)) (show (2 : Nat) ≤ 100 by decide)) (cons_ok (tup_ok (cons_ok (callB_ok rfl (cons_ok rfl rfl) rfl q4 rfl) (cons_ok (callB_ok rfl (cons_ok rfl rfl) rfl q5 rfl) rfl)) (show (2 : Nat) ≤ 100 by decide)) rfl)) (show (2 : Nat) ≤ 100 by decide)) rfl ?_)
  dsimp only [List.set]
  unfold s11_law
  refine wp_seq (wp_set (d := paceD (1 + k) 1) (tup_ok (cons_ok (op_ok (mT_ok rfl) (mT_ok (callB_ok rfl (cons_ok rfl rfl) rfl q6 rfl)) rfl rfl ad) (cons_ok rfl rfl)) (show (2 : Nat) ≤ 100 by decide)) rfl ?_)
  dsimp only [List.set]
  unfold s12_law
  refine wp_seq (wp_set (callX_ok (cons_ok rfl (cons_ok rfl (cons_ok rfl rfl))) wl) rfl ?_)
  dsimp only [List.set]
  unfold s13_law
  refine wp_seq (wp_notB (tst_ok (op_ok (mT_ok (cb_ok (cons_ok rfl rfl) rfl rfl)) (mT_ok (cb_ok (cons_ok rfl rfl) rfl ss)) rfl rfl neR)) rfl ?_)
  refine wp_seq (loop1 hs fun x_one x_other => ?_)
  refine wp_seq (loop2 h hs (by omega) fun x_one x_at x_rooms x_most x_keeps_it => ?_)
  exact rest34 h hs (by omega) hip
end Rn
end
set_option Elab.async false
set_option linter.all false
set_option maxRecDepth 100000
set_option maxHeartbeats 0
namespace Rn
open PySem PySem.Spec PyProof.Rows L2
section
variable {P : Program} {w : World} {K : PySem.W.Frag} {h : Heap} {mg : Str → Option Value} {base : Heap}
theorem h_nm (X : K.In h) (G : h.Ns mainGlobals mg) (c : He.SaysD hfa hfn K) : Nm K mg (He.ga K) where
  ValueError := He.free_ok X G (c.fact 38 (f := .free "ValueError") rfl)
  abs := He.free_ok X G (c.fact 39 (f := .free "abs") rfl)
  all := He.free_ok X G (c.fact 40 (f := .free "all") rfl)
  any := He.free_ok X G (c.fact 41 (f := .free "any") rfl)
  bool := He.free_ok X G (c.fact 42 (f := .free "bool") rfl)
  enumerate := He.free_ok X G (c.fact 43 (f := .free "enumerate") rfl)
  int := He.free_ok X G (c.fact 44 (f := .free "int") rfl)
  isinstance := He.free_ok X G (c.fact 45 (f := .free "isinstance") rfl)
  len := He.free_ok X G (c.fact 46 (f := .free "len") rfl)
  list := He.free_ok X G (c.fact 47 (f := .free "list") rfl)
  max := He.free_ok X G (c.fact 48 (f := .free "max") rfl)
  min := He.free_ok X G (c.fact 49 (f := .free "min") rfl)
  range := He.free_ok X G (c.fact 50 (f := .free "range") rfl)
  set := He.free_ok X G (c.fact 51 (f := .free "set") rfl)
  sorted := He.free_ok X G (c.fact 52 (f := .free "sorted") rfl)
  str := He.free_ok X G (c.fact 53 (f := .free "str") rfl)
  sum := He.free_ok X G (c.fact 54 (f := .free "sum") rfl)
  tuple := He.free_ok X G (c.fact 55 (f := .free "tuple") rfl)
  MOST_EVENTS := He.int_ok X G (c.fact 56 (f := .int "MOST_EVENTS" 5) rfl)
  MOST_BACK := He.int_ok X G (c.fact 57 (f := .int "MOST_BACK" 8) rfl)
  MOST_ROOMS := He.int_ok X G (c.fact 58 (f := .int "MOST_ROOMS" 6) rfl)
  X_RoundError := let e := He.exc_ok (c.fact 63 (f := .exc "RoundError") rfl); ⟨He.glo_ok X G (c.fact 59 (f := .glo "RoundError") rfl), e.1, e.2.1, e.2.2.1, e.2.2.2⟩
  X_InvalidNet := let e := He.exc_ok (c.fact 64 (f := .exc "InvalidNet") rfl); ⟨He.glo_ok X G (c.fact 60 (f := .glo "InvalidNet") rfl), e.1, e.2.1, e.2.2.1, e.2.2.2⟩
  X_InvalidNumber := let e := He.exc_ok (c.fact 65 (f := .exc "InvalidNumber") rfl); ⟨He.glo_ok X G (c.fact 61 (f := .glo "InvalidNumber") rfl), e.1, e.2.1, e.2.2.1, e.2.2.2⟩
  X_InvalidStores := let e := He.exc_ok (c.fact 66 (f := .exc "InvalidStores") rfl); ⟨He.glo_ok X G (c.fact 62 (f := .glo "InvalidStores") rfl), e.1, e.2.1, e.2.2.1, e.2.2.2⟩
theorem h__law_drawn (X : K.In h) (G : h.Ns mainGlobals mg) (c : He.SaysD hfa hfn K) : HasF K mg "_law_drawn" s__law_drawn ["cell", "k"] := by
  obtain ⟨fd, F⟩ := c.def_ 0 (d := hd__law_drawn) rfl
  exact ⟨He.ga K "_law_drawn", fd, F, He.glo_ok X G (c.fact 0 (f := .glo "_law_drawn") rfl), FunD.bindsN F fun _ _ _ _ _ _ us hl => match us, hl with | [_, _], _ => rfl⟩
theorem h__law_roll (X : K.In h) (G : h.Ns mainGlobals mg) (c : He.SaysD hfa hfn K) : HasF K mg "_law_roll" s__law_roll ["dice", "many"] := by
  obtain ⟨fd, F⟩ := c.def_ 1 (d := hd__law_roll) rfl
  exact ⟨He.ga K "_law_roll", fd, F, He.glo_ok X G (c.fact 1 (f := .glo "_law_roll") rfl), FunD.bindsN F fun _ _ _ _ _ _ us hl => match us, hl with | [_, _], _ => rfl⟩
theorem h__law_renamed (X : K.In h) (G : h.Ns mainGlobals mg) (c : He.SaysD hfa hfn K) : HasF K mg "_law_renamed" s__law_renamed ["dice", "net"] := by
  obtain ⟨fd, F⟩ := c.def_ 2 (d := hd__law_renamed) rfl
  exact ⟨He.ga K "_law_renamed", fd, F, He.glo_ok X G (c.fact 2 (f := .glo "_law_renamed") rfl), FunD.bindsN F fun _ _ _ _ _ _ us hl => match us, hl with | [_, _], _ => rfl⟩
theorem h__law_net (X : K.In h) (G : h.Ns mainGlobals mg) (c : He.SaysD hfa hfn K) : HasF K mg "_law_net" s__law_net ["dice", "most", "inputs"] := by
  obtain ⟨fd, F⟩ := c.def_ 3 (d := hd__law_net) rfl
  exact ⟨He.ga K "_law_net", fd, F, He.glo_ok X G (c.fact 3 (f := .glo "_law_net") rfl), FunD.bindsN F fun _ _ _ _ _ _ us hl => match us, hl with | [_, _, _], _ => rfl⟩
theorem h_is_whole (X : K.In h) (G : h.Ns mainGlobals mg) (c : He.SaysD hfa hfn K) : HasF K mg "is_whole" s_is_whole ["value", "low", "high"] := by
  obtain ⟨fd, F⟩ := c.def_ 4 (d := hd_is_whole) rfl
  exact ⟨He.ga K "is_whole", fd, F, He.glo_ok X G (c.fact 4 (f := .glo "is_whole") rfl), FunD.bindsN F fun _ _ _ _ _ _ us hl => match us, hl with | [_, _, _], _ => rfl⟩
theorem h_is_source (X : K.In h) (G : h.Ns mainGlobals mg) (c : He.SaysD hfa hfn K) : HasF K mg "is_source" s_is_source ["value", "inputs", "events"] := by
  obtain ⟨fd, F⟩ := c.def_ 5 (d := hd_is_source) rfl
  exact ⟨He.ga K "is_source", fd, F, He.glo_ok X G (c.fact 5 (f := .glo "is_source") rfl), FunD.bindsN F fun _ _ _ _ _ _ us hl => match us, hl with | [_, _, _], _ => rfl⟩
theorem h_is_arc (X : K.In h) (G : h.Ns mainGlobals mg) (c : He.SaysD hfa hfn K) : HasF K mg "is_arc" s_is_arc ["value", "inputs", "events"] := by
  obtain ⟨fd, F⟩ := c.def_ 6 (d := hd_is_arc) rfl
  exact ⟨He.ga K "is_arc", fd, F, He.glo_ok X G (c.fact 6 (f := .glo "is_arc") rfl), FunD.bindsN F fun _ _ _ _ _ _ us hl => match us, hl with | [_, _, _], _ => rfl⟩
theorem h_is_row (X : K.In h) (G : h.Ns mainGlobals mg) (c : He.SaysD hfa hfn K) : HasF K mg "is_row" s_is_row ["value", "inputs", "events"] := by
  obtain ⟨fd, F⟩ := c.def_ 7 (d := hd_is_row) rfl
  exact ⟨He.ga K "is_row", fd, F, He.glo_ok X G (c.fact 7 (f := .glo "is_row") rfl), FunD.bindsN F fun _ _ _ _ _ _ us hl => match us, hl with | [_, _, _], _ => rfl⟩
theorem h_is_shaped (X : K.In h) (G : h.Ns mainGlobals mg) (c : He.SaysD hfa hfn K) : HasF K mg "is_shaped" s_is_shaped ["value"] := by
  obtain ⟨fd, F⟩ := c.def_ 8 (d := hd_is_shaped) rfl
  exact ⟨He.ga K "is_shaped", fd, F, He.glo_ok X G (c.fact 8 (f := .glo "is_shaped") rfl), FunD.bindsN F fun _ _ _ _ _ _ us hl => match us, hl with | [_], _ => rfl⟩
theorem h_all_back (X : K.In h) (G : h.Ns mainGlobals mg) (c : He.SaysD hfa hfn K) : HasF K mg "all_back" s_all_back ["rows"] := by
  obtain ⟨fd, F⟩ := c.def_ 9 (d := hd_all_back) rfl
  exact ⟨He.ga K "all_back", fd, F, He.glo_ok X G (c.fact 9 (f := .glo "all_back") rfl), FunD.bindsN F fun _ _ _ _ _ _ us hl => match us, hl with | [_], _ => rfl⟩
theorem h_event_of (X : K.In h) (G : h.Ns mainGlobals mg) (c : He.SaysD hfa hfn K) : HasF K mg "event_of" s_event_of ["source"] := by
  obtain ⟨fd, F⟩ := c.def_ 10 (d := hd_event_of) rfl
  exact ⟨He.ga K "event_of", fd, F, He.glo_ok X G (c.fact 10 (f := .glo "event_of") rfl), FunD.bindsN F fun _ _ _ _ _ _ us hl => match us, hl with | [_], _ => rfl⟩
theorem h_same_round (X : K.In h) (G : h.Ns mainGlobals mg) (c : He.SaysD hfa hfn K) : HasF K mg "same_round" s_same_round ["rows"] := by
  obtain ⟨fd, F⟩ := c.def_ 11 (d := hd_same_round) rfl
  exact ⟨He.ga K "same_round", fd, F, He.glo_ok X G (c.fact 11 (f := .glo "same_round") rfl), FunD.bindsN F fun _ _ _ _ _ _ us hl => match us, hl with | [_], _ => rfl⟩
theorem h_order_of (X : K.In h) (G : h.Ns mainGlobals mg) (c : He.SaysD hfa hfn K) : HasF K mg "order_of" s_order_of ["rows"] := by
  obtain ⟨fd, F⟩ := c.def_ 12 (d := hd_order_of) rfl
  exact ⟨He.ga K "order_of", fd, F, He.glo_ok X G (c.fact 12 (f := .glo "order_of") rfl), FunD.bindsN F fun _ _ _ _ _ _ us hl => match us, hl with | [_], _ => rfl⟩
theorem h_is_net (X : K.In h) (G : h.Ns mainGlobals mg) (c : He.SaysD hfa hfn K) : HasF K mg "is_net" s_is_net ["value"] := by
  obtain ⟨fd, F⟩ := c.def_ 13 (d := hd_is_net) rfl
  exact ⟨He.ga K "is_net", fd, F, He.glo_ok X G (c.fact 13 (f := .glo "is_net") rfl), FunD.bindsN F fun _ _ _ _ _ _ us hl => match us, hl with | [_], _ => rfl⟩
theorem h_need_net (X : K.In h) (G : h.Ns mainGlobals mg) (c : He.SaysD hfa hfn K) : HasF K mg "need_net" s_need_net ["net"] := by
  obtain ⟨fd, F⟩ := c.def_ 14 (d := hd_need_net) rfl
  exact ⟨He.ga K "need_net", fd, F, He.glo_ok X G (c.fact 14 (f := .glo "need_net") rfl), FunD.bindsN F fun _ _ _ _ _ _ us hl => match us, hl with | [_], _ => rfl⟩
theorem h_are_stores (X : K.In h) (G : h.Ns mainGlobals mg) (c : He.SaysD hfa hfn K) : HasF K mg "are_stores" s_are_stores ["net", "value"] := by
  obtain ⟨fd, F⟩ := c.def_ 15 (d := hd_are_stores) rfl
  exact ⟨He.ga K "are_stores", fd, F, He.glo_ok X G (c.fact 15 (f := .glo "are_stores") rfl), FunD.bindsN F fun _ _ _ _ _ _ us hl => match us, hl with | [_, _], _ => rfl⟩
theorem h_need_stores (X : K.In h) (G : h.Ns mainGlobals mg) (c : He.SaysD hfa hfn K) : HasF K mg "need_stores" s_need_stores ["net", "stores"] := by
  obtain ⟨fd, F⟩ := c.def_ 16 (d := hd_need_stores) rfl
  exact ⟨He.ga K "need_stores", fd, F, He.glo_ok X G (c.fact 16 (f := .glo "need_stores") rfl), FunD.bindsN F fun _ _ _ _ _ _ us hl => match us, hl with | [_, _], _ => rfl⟩
theorem h_divisor (X : K.In h) (G : h.Ns mainGlobals mg) (c : He.SaysD hfa hfn K) : HasF K mg "divisor" s_divisor ["one", "other"] := by
  obtain ⟨fd, F⟩ := c.def_ 17 (d := hd_divisor) rfl
  exact ⟨He.ga K "divisor", fd, F, He.glo_ok X G (c.fact 17 (f := .glo "divisor") rfl), FunD.bindsN F fun _ _ _ _ _ _ us hl => match us, hl with | [_, _], _ => rfl⟩
theorem h_lowest (X : K.In h) (G : h.Ns mainGlobals mg) (c : He.SaysD hfa hfn K) : HasF K mg "lowest" s_lowest ["top", "bottom"] := by
  obtain ⟨fd, F⟩ := c.def_ 18 (d := hd_lowest) rfl
  exact ⟨He.ga K "lowest", fd, F, He.glo_ok X G (c.fact 18 (f := .glo "lowest") rfl), FunD.bindsN F fun _ _ _ _ _ _ us hl => match us, hl with | [_, _], _ => rfl⟩
theorem h_is_pace (X : K.In h) (G : h.Ns mainGlobals mg) (c : He.SaysD hfa hfn K) : HasF K mg "is_pace" s_is_pace ["value"] := by
  obtain ⟨fd, F⟩ := c.def_ 19 (d := hd_is_pace) rfl
  exact ⟨He.ga K "is_pace", fd, F, He.glo_ok X G (c.fact 19 (f := .glo "is_pace") rfl), FunD.bindsN F fun _ _ _ _ _ _ us hl => match us, hl with | [_], _ => rfl⟩
theorem h_all_rooms (X : K.In h) (G : h.Ns mainGlobals mg) (c : He.SaysD hfa hfn K) : HasF K mg "all_rooms" s_all_rooms ["many"] := by
  obtain ⟨fd, F⟩ := c.def_ 20 (d := hd_all_rooms) rfl
  exact ⟨He.ga K "all_rooms", fd, F, He.glo_ok X G (c.fact 20 (f := .glo "all_rooms") rfl), FunD.bindsN F fun _ _ _ _ _ _ us hl => match us, hl with | [_], _ => rfl⟩
theorem h_is_less (X : K.In h) (G : h.Ns mainGlobals mg) (c : He.SaysD hfa hfn K) : HasF K mg "is_less" s_is_less ["one", "other"] := by
  obtain ⟨fd, F⟩ := c.def_ 21 (d := hd_is_less) rfl
  exact ⟨He.ga K "is_less", fd, F, He.glo_ok X G (c.fact 21 (f := .glo "is_less") rfl), FunD.bindsN F fun _ _ _ _ _ _ us hl => match us, hl with | [_, _], _ => rfl⟩
theorem h_greatest (X : K.In h) (G : h.Ns mainGlobals mg) (c : He.SaysD hfa hfn K) : HasF K mg "greatest" s_greatest ["fractions"] := by
  obtain ⟨fd, F⟩ := c.def_ 22 (d := hd_greatest) rfl
  exact ⟨He.ga K "greatest", fd, F, He.glo_ok X G (c.fact 22 (f := .glo "greatest") rfl), FunD.bindsN F fun _ _ _ _ _ _ us hl => match us, hl with | [_], _ => rfl⟩
theorem h_rings_from (X : K.In h) (G : h.Ns mainGlobals mg) (c : He.SaysD hfa hfn K) : HasF K mg "rings_from" s_rings_from ["rows", "first"] := by
  obtain ⟨fd, F⟩ := c.def_ 23 (d := hd_rings_from) rfl
  exact ⟨He.ga K "rings_from", fd, F, He.glo_ok X G (c.fact 23 (f := .glo "rings_from") rfl), FunD.bindsN F fun _ _ _ _ _ _ us hl => match us, hl with | [_, _], _ => rfl⟩
theorem h_rings_of (X : K.In h) (G : h.Ns mainGlobals mg) (c : He.SaysD hfa hfn K) : HasF K mg "rings_of" s_rings_of ["rows"] := by
  obtain ⟨fd, F⟩ := c.def_ 24 (d := hd_rings_of) rfl
  exact ⟨He.ga K "rings_of", fd, F, He.glo_ok X G (c.fact 24 (f := .glo "rings_of") rfl), FunD.bindsN F fun _ _ _ _ _ _ us hl => match us, hl with | [_], _ => rfl⟩
theorem h_measure (X : K.In h) (G : h.Ns mainGlobals mg) (c : He.SaysD hfa hfn K) : HasF K mg "measure" s_measure ["rows", "ring"] := by
  obtain ⟨fd, F⟩ := c.def_ 25 (d := hd_measure) rfl
  exact ⟨He.ga K "measure", fd, F, He.glo_ok X G (c.fact 25 (f := .glo "measure") rfl), FunD.bindsN F fun _ _ _ _ _ _ us hl => match us, hl with | [_, _], _ => rfl⟩
theorem h_ratio (X : K.In h) (G : h.Ns mainGlobals mg) (c : He.SaysD hfa hfn K) : HasF K mg "ratio" s_ratio ["rows", "ring"] := by
  obtain ⟨fd, F⟩ := c.def_ 26 (d := hd_ratio) rfl
  exact ⟨He.ga K "ratio", fd, F, He.glo_ok X G (c.fact 26 (f := .glo "ratio") rfl), FunD.bindsN F fun _ _ _ _ _ _ us hl => match us, hl with | [_, _], _ => rfl⟩
theorem h_slowest_of (X : K.In h) (G : h.Ns mainGlobals mg) (c : He.SaysD hfa hfn K) : HasF K mg "slowest_of" s_slowest_of ["rows"] := by
  obtain ⟨fd, F⟩ := c.def_ 27 (d := hd_slowest_of) rfl
  exact ⟨He.ga K "slowest_of", fd, F, He.glo_ok X G (c.fact 27 (f := .glo "slowest_of") rfl), FunD.bindsN F fun _ _ _ _ _ _ us hl => match us, hl with | [_], _ => rfl⟩
theorem h_with_rooms (X : K.In h) (G : h.Ns mainGlobals mg) (c : He.SaysD hfa hfn K) : HasF K mg "with_rooms" s_with_rooms ["rows", "stores", "rooms"] := by
  obtain ⟨fd, F⟩ := c.def_ 28 (d := hd_with_rooms) rfl
  exact ⟨He.ga K "with_rooms", fd, F, He.glo_ok X G (c.fact 28 (f := .glo "with_rooms") rfl), FunD.bindsN F fun _ _ _ _ _ _ us hl => match us, hl with | [_, _, _], _ => rfl⟩
theorem h_keeps (X : K.In h) (G : h.Ns mainGlobals mg) (c : He.SaysD hfa hfn K) : HasF K mg "keeps" s_keeps ["rows", "stores", "rooms", "pace"] := by
  obtain ⟨fd, F⟩ := c.def_ 29 (d := hd_keeps) rfl
  exact ⟨He.ga K "keeps", fd, F, He.glo_ok X G (c.fact 29 (f := .glo "keeps") rfl), FunD.bindsN F fun _ _ _ _ _ _ us hl => match us, hl with | [_, _, _, _], _ => rfl⟩
theorem h_least_rooms (X : K.In h) (G : h.Ns mainGlobals mg) (c : He.SaysD hfa hfn K) : HasF K mg "least_rooms" s_least_rooms ["net", "stores", "pace"] := by
  obtain ⟨fd, F⟩ := c.def_ 30 (d := hd_least_rooms) rfl
  exact ⟨He.ga K "least_rooms", fd, F, He.glo_ok X G (c.fact 30 (f := .glo "least_rooms") rfl), FunD.bindsN F fun _ _ _ _ _ _ us hl => match us, hl with | [_, _, _], _ => rfl⟩
theorem h__law_no_less (X : K.In h) (G : h.Ns mainGlobals mg) (c : He.SaysD hfa hfn K) : HasF K mg "_law_no_less" s__law_no_less ["one", "other"] := by
  obtain ⟨fd, F⟩ := c.def_ 31 (d := hd__law_no_less) rfl
  exact ⟨He.ga K "_law_no_less", fd, F, He.glo_ok X G (c.fact 31 (f := .glo "_law_no_less") rfl), FunD.bindsN F fun _ _ _ _ _ _ us hl => match us, hl with | [_, _], _ => rfl⟩
theorem h_need_rooms (X : K.In h) (G : h.Ns mainGlobals mg) (c : He.SaysD hfa hfn K) : HasF K mg "need_rooms" s_need_rooms ["stores", "rooms"] := by
  obtain ⟨fd, F⟩ := c.def_ 32 (d := hd_need_rooms) rfl
  exact ⟨He.ga K "need_rooms", fd, F, He.glo_ok X G (c.fact 32 (f := .glo "need_rooms") rfl), FunD.bindsN F fun _ _ _ _ _ _ us hl => match us, hl with | [_, _], _ => rfl⟩
theorem h_slowest_with (X : K.In h) (G : h.Ns mainGlobals mg) (c : He.SaysD hfa hfn K) : HasF K mg "slowest_with" s_slowest_with ["net", "stores", "rooms"] := by
  obtain ⟨fd, F⟩ := c.def_ 33 (d := hd_slowest_with) rfl
  exact ⟨He.ga K "slowest_with", fd, F, He.glo_ok X G (c.fact 33 (f := .glo "slowest_with") rfl), FunD.bindsN F fun _ _ _ _ _ _ us hl => match us, hl with | [_, _, _], _ => rfl⟩
theorem h_slowest (X : K.In h) (G : h.Ns mainGlobals mg) (c : He.SaysD hfa hfn K) : HasF K mg "slowest" s_slowest ["net"] := by
  obtain ⟨fd, F⟩ := c.def_ 34 (d := hd_slowest) rfl
  exact ⟨He.ga K "slowest", fd, F, He.glo_ok X G (c.fact 34 (f := .glo "slowest") rfl), FunD.bindsN F fun _ _ _ _ _ _ us hl => match us, hl with | [_], _ => rfl⟩
theorem h__law_cell (X : K.In h) (G : h.Ns mainGlobals mg) (c : He.SaysD hfa hfn K) : HasF K mg "_law_cell" s__law_cell ["script", "k"] := by
  obtain ⟨fd, F⟩ := c.def_ 35 (d := hd__law_cell) rfl
  exact ⟨He.ga K "_law_cell", fd, F, He.glo_ok X G (c.fact 35 (f := .glo "_law_cell") rfl), FunD.bindsN F fun _ _ _ _ _ _ us hl => match us, hl with | [_, _], _ => rfl⟩
theorem h__law_rounds (X : K.In h) (G : h.Ns mainGlobals mg) (c : He.SaysD hfa hfn K) : HasF K mg "_law_rounds" s__law_rounds ["script", "most"] := by
  obtain ⟨fd, F⟩ := c.def_ 36 (d := hd__law_rounds) rfl
  exact ⟨He.ga K "_law_rounds", fd, F, He.glo_ok X G (c.fact 36 (f := .glo "_law_rounds") rfl), FunD.bindsN F fun _ _ _ _ _ _ us hl => match us, hl with | [_, _], _ => rfl⟩
theorem h_ends (X : K.In h) (G : h.Ns mainGlobals mg) (c : He.SaysD hfa hfn K) {f : Addr} {fd : FuncData} (F : FnP K "law" s_law f fd) : FnOk P w K mg base (L2N.CX P w) 9 f fd ["script"] (spLawS K []) := by
  have nm := h_nm X G c
  have D__law_drawn := ok__law_drawn (P := P) (w := w) (base := base) nm (h__law_drawn X G c)
  have D__law_roll := ok__law_roll (P := P) (w := w) (base := base) nm (h__law_roll X G c) D__law_drawn
  have D__law_renamed := ok__law_renamed (P := P) (w := w) (base := base) nm (h__law_renamed X G c) D__law_roll
  have D__law_net := ok__law_net (P := P) (w := w) (base := base) nm (h__law_net X G c) D__law_roll D__law_renamed
  have D_is_whole := ok_is_whole (P := P) (w := w) (base := base) nm (h_is_whole X G c)
  have D_is_source := ok_is_source (P := P) (w := w) (base := base) nm (h_is_source X G c)
  have D_is_arc := ok_is_arc (P := P) (w := w) (base := base) nm (h_is_arc X G c) D_is_source D_is_whole
  have D_is_row := ok_is_row (P := P) (w := w) (base := base) nm (h_is_row X G c) D_is_arc
  have D_is_shaped := ok_is_shaped (P := P) (w := w) (base := base) nm (h_is_shaped X G c) D_is_whole D_is_row
  have D_all_back := ok_all_back (P := P) (w := w) (base := base) nm (h_all_back X G c)
  have D_event_of := ok_event_of (P := P) (w := w) (base := base) nm (h_event_of X G c)
  have D_same_round := ok_same_round (P := P) (w := w) (base := base) nm (h_same_round X G c) D_event_of
  have D_order_of := ok_order_of (P := P) (w := w) (base := base) nm (h_order_of X G c) D_same_round
  have D_is_net := ok_is_net (P := P) (w := w) (base := base) nm (h_is_net X G c) D_is_shaped D_all_back D_order_of
  have D_need_net := ok_need_net (P := P) (w := w) (base := base) nm (h_need_net X G c) D_is_net
  have D_are_stores := ok_are_stores (P := P) (w := w) (base := base) nm (h_are_stores X G c) D_is_whole
  have D_need_stores := ok_need_stores (P := P) (w := w) (base := base) nm (h_need_stores X G c) D_need_net D_are_stores
  have D_divisor := ok_divisor (P := P) (w := w) (base := base) nm (h_divisor X G c)
  have D_lowest := ok_lowest (P := P) (w := w) (base := base) nm (h_lowest X G c) D_divisor
  have D_is_pace := ok_is_pace (P := P) (w := w) (base := base) nm (h_is_pace X G c) D_is_whole D_lowest
  have D_all_rooms := ok_all_rooms (P := P) (w := w) (base := base) nm (h_all_rooms X G c)
  have D_is_less := ok_is_less (P := P) (w := w) (base := base) nm (h_is_less X G c)
  have D_greatest := ok_greatest (P := P) (w := w) (base := base) nm (h_greatest X G c) D_is_less
  have D_rings_from := ok_rings_from (P := P) (w := w) (base := base) nm (h_rings_from X G c) D_event_of
  have D_rings_of := ok_rings_of (P := P) (w := w) (base := base) nm (h_rings_of X G c) D_rings_from
  have D_measure := ok_measure (P := P) (w := w) (base := base) nm (h_measure X G c)
  have D_ratio := ok_ratio (P := P) (w := w) (base := base) nm (h_ratio X G c) D_measure D_lowest
  have D_slowest_of := ok_slowest_of (P := P) (w := w) (base := base) nm (h_slowest_of X G c) D_greatest D_rings_of D_ratio
  have D_with_rooms := ok_with_rooms (P := P) (w := w) (base := base) nm (h_with_rooms X G c)
  have D_keeps := ok_keeps (P := P) (w := w) (base := base) nm (h_keeps X G c) D_slowest_of D_with_rooms D_is_less
  have D_least_rooms := ok_least_rooms (P := P) (w := w) (base := base) nm (h_least_rooms X G c) D_need_stores D_is_pace D_all_rooms D_keeps
  have D__law_no_less := ok__law_no_less (P := P) (w := w) (base := base) nm (h__law_no_less X G c)
  have D_need_rooms := ok_need_rooms (P := P) (w := w) (base := base) nm (h_need_rooms X G c) D_is_whole
  have D_slowest_with := ok_slowest_with (P := P) (w := w) (base := base) nm (h_slowest_with X G c) D_need_stores D_need_rooms D_slowest_of D_with_rooms
  have D_slowest := ok_slowest (P := P) (w := w) (base := base) nm (h_slowest X G c) D_need_net D_slowest_of
  have D__law_cell := ok__law_cell (P := P) (w := w) (base := base) nm (h__law_cell X G c)
  have D__law_rounds := ok__law_rounds (P := P) (w := w) (base := base) nm (h__law_rounds X G c) D__law_cell
  exact ok_law nm F D__law_rounds D__law_net D__law_roll D_least_rooms D__law_no_less D_slowest_with D_slowest round_ok
end
/-- the end of a law whose defs may raise, over facts of the head -/
theorem law_walk {lw : PySem.W.OpenLaw} {most lev : Nat} {qp : Program} {ls : List Str} {XP : (Str → Option Value) → Heap → Prop} {YP : World → Heap → Prop} {dr : DefRec} (CX : World → CXT) (par : Str)
    (h1 : lw.most = some most) (h2 : most ≤ sizeLine) (h3 : dr.params.defaults = []) (h4 : Room lev callerA)
    (facts : ∀ (w : World) (mg : Str → Option Value) (fa : Addr) (h : Heap), YP w h → h.Ns mainGlobals mg → mg dr.name = some (.ref fa) → ∃ (K : PySem.W.Frag) (fd : FuncData) (sp : Sp), K.In h ∧
      (∀ (s : Shared) (u : Value), BindsTo s fd ⟨[u], []⟩ [(par, u)]) ∧ (∀ (H : Hp) (a : Addr) (ns : List Int), ns.length ≤ most → Only H → SqL K H a (ns.map V.int) → sp [.ref a] H (fun v _ => v = .bl true) fun _ _ _ => False) ∧ ∀ base : Heap, K.In base → base.Ns mainGlobals mg → FnOk lw.prog w K mg base (CX w) lev fa fd [par] sp)
    (calm : ∀ (w : World) (H : Hp) (s : Shared) (e : Value) (s' : Shared), CX w [] H s (fun _ _ _ => False) e s' → False) : PySem.W.WalkO qp ls XP YP lw.row.toRowW dr [] (fun f vs => PySem.call f vs) := by
  refine Att.attach_call h1 h3 fun w _ s1 mg _ fa _ _ _ _ a _ ns G Y _ _ _ hm ho hi hl hg => ?_
  obtain ⟨K, fd, sp, kx, hb, hs, hf⟩ := facts w mg fa _ Y G.T.g hm
  refine law_call kx G.T.g G.T.b G.T.builtins G.T.nolimit hg ho hi (Nat.le_trans hl h2) h4 hf hb (fun H q1 q2 => hs H a ns hl q1 q2) ?_
  exact fun H e s' => calm w H s1 e s'
end Rn
open PySem PySem.W PySem.Calls PyProof.Rows
theorem PySem.Challenge.cw_roundnets_k34_whole_least_rooms_holds : PySem.Challenge.rw_roundnets_k34_whole_least_rooms.Holds := by
  w_on; o_law
  refine HandSHeadRun.head_any (r := OpenLaw.row PySem.Challenge.rw_roundnets_k34_whole_least_rooms) (q := view (OpenLaw.row PySem.Challenge.rw_roundnets_k34_whole_least_rooms).prog [49]) (H := Rn.hk) (ob := Rn.ob) (M := 30000) (loose := Rn.loose) (d := HandSHeadRun.topDef (OpenLaw.row PySem.Challenge.rw_roundnets_k34_whole_least_rooms).prog 49) (kwd := []) Rn.ob_eq
    (by kernel_rfl) (fun s => by kernel_rfl) Rn.head_run (by kernel_rfl) (by kernel_rfl) (by kernel_rfl) (by rfl) (by first | assumption | decide +kernel) (by decide +kernel) ⟨rfl, rfl, rfl, rfl, rfl, by decide +kernel⟩ ?hw ?hc
  case hw => w_witness2
  case hc =>
    refine Rn.law_walk (lw := PySem.Challenge.rw_roundnets_k34_whole_least_rooms) (most := 63) (lev := 9) (fun w => L2N.CX (PySem.Challenge.rw_roundnets_k34_whole_least_rooms).prog w) "script" rfl (by decide) (by kernel_rfl) ⟨rfl, by decide, by decide⟩ ?F ?G
    case G =>
      rintro w H s e s' ⟨_, _, _, _, _, _, _, _, _, _, _, _, z⟩
      exact z
    case F =>
      intro w mg fa h Y G hmg0
      obtain ⟨K, KX, c⟩ := Y
      have hmg : mg ("law" : PySem.Str) = some (.ref fa) := by
        have e : (HandSHeadRun.topDef (OpenLaw.row PySem.Challenge.rw_roundnets_k34_whole_least_rooms).prog 49).name = ("law" : PySem.Str) := by kernel_rfl
        rw [← e]
        exact hmg0
      obtain ⟨fd, F⟩ := c.def_ 37 (d := Rn.hd_law) rfl
      have e := hmg.symm.trans (He.glo_ok KX G (c.fact 37 (f := .glo "law") rfl))
      cases e
      have b := L2.FunD.bindsA (ps := ["script"]) F fun _ _ _ _ _ _ us hl => match us, hl with | [_], _ => rfl
      exact ⟨K, fd, Rn.spLawS K [], KX, fun s v => b s [v] rfl, fun H a ns hl _ hS => ⟨a, ns, rfl, hS, hl, fun _ z => (nomatch z), fun _ => rfl⟩, fun base _ _ => Rn.h_ends KX G c F⟩
