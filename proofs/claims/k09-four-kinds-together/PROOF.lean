import PyProof.Rows.All
import Wide.All
import OpenK.AllK
import Wide.FinOn
import KE.KStateDown
import HandS.ForMost
import HandS.ForExc
import HandS.ExcInit
import HandS.ExcField
import HandS.Defaults
import HandS.Lambda
import HandS.EndTab
import HandS.HeadHook4
import HandS.HeadWalk
import HandS.Head2
import HandS.TupAny
import HandS.TupMul
import HandS.IsInst
import HandS.Walk
import HandS.Wide
import HandS.Conv
import PySem.Challenge.RW_mazesums_k09_whole_four_kinds_together
import KE.GoesMore
import KE.GoesEnum
import PyProof.EnumMake
import PyProof.StrOps2
import PyProof.ListStr
import HandS.Zip
import HandS.SetFor
import HandS.Strs
import HandS.SortInts
import HandS.Small
import HandS.Replace
import HandS.NoneIn
set_option Elab.async false
set_option linter.all false
set_option maxRecDepth 100000
set_option maxHeartbeats 0
namespace L2
open PySem PySem.Spec
open PyProof.Rows
/-- an own exception over ValueError with an __init__: what the written part must say -/
def oexL (K : PySem.W.Frag) (C : Addr) : Bool := match K.lookup C with
  | some ⟨.type t, _, .cls cd, sl⟩ => (match cd.mro, sl.toList with
    | .ref C' :: bm, [_, _, _, _, some (.builtin n), _] => decide (t = "type") && (decide (C' = C) && (decide (n = "ValueError.__new__") && (!cd.hasDel && (cd.hasDict && PySem.HandSPX.refsVE bm))))
    | _, _ => false)
  | _ => false
def oexB (K : PySem.W.Frag) (C : Addr) : Bool := oexL K C && (He.eqO (PySem.W.findIn K (.ref C) "__setattr__") (some (some (.builtin "object.__setattr__"))) && (decide (PySem.W.subIn K (.ref C) (.type "BaseException") = some true) &&
  (decide (PySem.W.typeIn K (.ref C) = some (.type "type")) && (PySem.W.keepIn K (.ref C) && decide (PySem.W.exmOne K (.ref C) (.ref C) = some true)))))
def initB (K : PySem.W.Frag) (C : Addr) : Bool := He.eqO (PySem.W.findIn K (.ref C) "__init__") (some (some (.ref (He.ma K C "__init__")))) && decide (PySem.W.typeIn K (.ref (He.ma K C "__init__")) = some (.type "function"))
theorem oexB_ok {K : PySem.W.Frag} {C : Addr} (h : oexB K C = true) : OexC K C ∧ PySem.W.exmOne K (.ref C) (.ref C) = some true := by
  unfold oexB at h
  simp only [Bool.and_eq_true, decide_eq_true_eq] at h
  obtain ⟨h1, h2, h3, h4, h5, h6⟩ := h
  refine ⟨⟨?_, He.eqO_ok h2, h3, h4, h5⟩, h6⟩
  unfold oexL at h1
  split at h1
  · rename_i t dd cd sl ho
    split at h1
    · rename_i C' bm k0 k1 k2 k3 n k5 hm hs
      simp only [Bool.and_eq_true, decide_eq_true_eq, Bool.not_eq_true'] at h1
      obtain ⟨rfl, rfl, rfl, hdel, hdict, hv⟩ := h1
      obtain ⟨nm, bs, mro, ns, qn, hd, sn, sub, ab, col, del⟩ := cd
      dsimp only at hm hdel hdict
      subst hm hdel hdict
      have hsl : sl = #[k0, k1, k2, k3, some (.builtin "ValueError.__new__"), k5] := by
        obtain ⟨l⟩ := sl
        simp only at hs
        rw [hs]
      subst hsl
      exact ⟨_, _, _, _, _, _, _, _, _, _, _, _, _, _, _, ho, hv⟩
    · cases h1
  · cases h1
theorem initB_ok {K : PySem.W.Frag} {C : Addr} (h : initB K C = true) : PySem.W.findIn K (.ref C) "__init__" = some (some (.ref (He.ma K C "__init__"))) ∧ PySem.W.typeIn K (.ref (He.ma K C "__init__")) = some (.type "function") := by
  unfold initB at h
  simp only [Bool.and_eq_true, decide_eq_true_eq] at h
  exact ⟨He.eqO_ok h.1, h.2⟩
end L2
namespace Hl
open PySem PySem.Spec
open PyProof.Rows L2 He
/-- as the kit's widest hook, but over written addresses -/
def seenAt (as : List Addr) (fa : List Fa) (fn : List DefD) (tf : List Defn) (ex : PySem.W.Frag → Bool) (g : Addr → Option Obj) : AlX :=
  let K := frT g as
  (obsT fa fn [] K, ex K && tabsB g tf K)
theorem seenAt_says {as : List Addr} {fa : List Fa} {fn : List DefD} {tf : List Defn} {ex : PySem.W.Frag → Bool} {w : World} {h : Heap} (e : seenAt as fa fn tf ex h.get? = valX fn [] w) : SaysX fa fn [] tf ex w h (frT h.get? as) := by
  have a1 : obsT fa fn [] (frT h.get? as) = valT fn [] w := (Prod.mk.inj e).1
  have a2 : (ex (frT h.get? as) && tabsB h.get? tf (frT h.get? as)) = true := (Prod.mk.inj e).2
  have b := Bool.and_eq_true_iff.mp a2
  have all : ∀ p ∈ tf, PySem.W.codeHdIn (frT h.get? as) (cT (frT h.get? as) p).1 (cT (frT h.get? as) p).2 = true ∧ ∃ o, h.get? (cT (frT h.get? as) p).2 = some o ∧ emptyTab o = true := by
    intro p hp
    have c := Bool.and_eq_true_iff.mp (List.all_eq_true.mp b.2 p hp)
    refine ⟨c.1, ?_⟩
    have c2 := c.2
    split at c2
    · rename_i o ho
      exact ⟨o, ho, c2⟩
    · cases c2
  constructor
  · exact a1
  · exact b.1
  · exact fun p hp => (all p hp).1
  · intro p hp
    obtain ⟨_, o, ho, eo⟩ := all p hp
    exact frT_none ho eo
  · intro p hp
    obtain ⟨_, o, ho, eo⟩ := all p hp
    rw [ho, emptyTab_eq eo]
def hook (as : List Addr) (fa : List Fa) (fn : List DefD) (tf : List Defn) (ex : PySem.W.Frag → Bool) : PySem.W.Hook where
  α := AlX
  obs s := seenAt as fa fn tf ex s.heap.get?
  val w := valX fn [] w
  says w h := ∃ K, PySem.W.Frag.In K h ∧ SaysX fa fn [] tf ex w h K
  of _ _ e := ⟨_, frT_in, seenAt_says e⟩
  keeps := by
    intro w h h' ⟨K, hK, c⟩ k
    refine ⟨K, PySem.W.Frag.In.keeps hK k, ⟨c.t, c.more, c.hd, c.out, ?_⟩⟩
    intro p hp
    exact k _ _ (c.empty p hp)
theorem seenAt_eq {as : List Addr} {fa : List Fa} {fn : List DefD} {tf : List Defn} {ex : PySem.W.Frag → Bool} {g : Addr → Option Obj} {s : Shared} (h : ∀ a, g a = s.heap.get? a) : seenAt as fa fn tf ex g = (hook as fa fn tf ex).obs s := by
  show seenAt as fa fn tf ex g = seenAt as fa fn tf ex s.heap.get?
  rw [funext h]
end Hl
namespace L2
open PySem PySem.Spec
open PyProof.Rows
/-- a written tuple of texts -/
def isStr (v : Value) (z : Str) : Bool := match v with
  | .str y _ => decide (y = z)
  | _ => false
def allStr : List Value → List Str → Bool
  | [], [] => true
  | v :: vs, z :: zs => isStr v z && allStr vs zs
  | _, _ => false
def tupB (K : PySem.W.Frag) (a : Addr) (zs : List Str) : Bool := match K.lookup a with
  | some ⟨.type t, _, .seq its _, _⟩ => decide (t = "tuple") && (decide (its.size ≤ sizeLine) && allStr its.toList zs)
  | _ => false
theorem allStr_ok : ∀ {vs : List Value} {zs : List Str}, allStr vs zs = true → Vals (zs.map V.str) vs
  | [], [], _ => .nil
  | v :: vs, z :: zs, h => by
    unfold allStr at h
    obtain ⟨h1, h2⟩ := Bool.and_eq_true_iff.mp h
    refine .cons ?_ (allStr_ok h2)
    unfold isStr at h1
    split at h1
    · rename_i y t
      obtain rfl := of_decide_eq_true h1
      exact ⟨t, rfl⟩
    · cases h1
  | [], _ :: _, h => by cases h
  | _ :: _, [], h => by cases h
theorem tupB_ok {K : PySem.W.Frag} {a : Addr} {zs : List Str} (h : tupB K a zs = true) (H : Hp) : SqT K H a (zs.map V.str) := by
  unfold tupB at h
  split at h
  · rename_i t dd its n sl ho
    simp only [Bool.and_eq_true, decide_eq_true_eq] at h
    obtain ⟨rfl, h1, h2⟩ := h
    exact .inr ⟨_, its, n, ho, rfl, rfl, h1, allStr_ok h2⟩
  · cases h
end L2
namespace K09
open PySem PySem.Spec
open PyProof.Rows L2
def top (i : Nat) : Stmt := PySem.Challenge.pw_mazesums_k09_whole_four_kinds_together.main.body.getD i (.Pass ⟨0, 0, 0, 0⟩)
abbrev s__wall : Stmt := top 0
abbrev s_BadArgument_init : Stmt := inClass (top 2) 0
abbrev s_Flaw_init : Stmt := inClass (top 3) 0
abbrev s_is_whole : Stmt := top 16
abbrev s_is_passage : Stmt := top 17
abbrev s_is_maze : Stmt := top 18
abbrev s_need : Stmt := top 19
abbrev s_need_maze : Stmt := top 20
abbrev s_need_door : Stmt := top 21
abbrev s_need_kind : Stmt := top 22
abbrev s_Worths_init : Stmt := inClass (top 25) 0
abbrev s_Worths_none : Stmt := inClass (top 25) 1
abbrev s_Worths_empty : Stmt := inClass (top 25) 2
abbrev s_Worths_passage : Stmt := inClass (top 25) 3
abbrev s_Worths_add : Stmt := inClass (top 25) 4
abbrev s_Worths_times : Stmt := inClass (top 25) 5
abbrev s_Worths_again : Stmt := inClass (top 25) 6
abbrev s_Part_init : Stmt := inClass (top 27) 0
abbrev s_Part_without : Stmt := inClass (top 27) 1
abbrev s_Part_hidden : Stmt := inClass (top 27) 2
abbrev s_Part_glued : Stmt := inClass (top 27) 3
abbrev s_Part_beside : Stmt := inClass (top 27) 4
abbrev s_Part_told : Stmt := inClass (top 27) 5
abbrev s_Part_closed : Stmt := inClass (top 27) 6
abbrev s_Part_table : Stmt := inClass (top 27) 7
abbrev s_ordered : Stmt := top 28
abbrev s_part : Stmt := top 29
abbrev s_part_by : Stmt := top 30
abbrev s_part_of : Stmt := top 31
abbrev s_table_of : Stmt := top 32
abbrev s_part_over : Stmt := top 33
abbrev s_side_by_side : Stmt := top 35
abbrev s_room_behind : Stmt := top 36
abbrev s_rooms_glued : Stmt := top 37
abbrev s_joined : Stmt := top 38
abbrev s_need_two : Stmt := top 40
abbrev s_are_alike : Stmt := top 41
abbrev s_unlike : Stmt := top 42
abbrev s_without : Stmt := top 43
abbrev s_thin : Stmt := top 44
abbrev s_Reader_init : Stmt := inClass (top 50) 0
abbrev s_Reader_sign : Stmt := inClass (top 50) 1
abbrev s_Reader_refuse : Stmt := inClass (top 50) 2
abbrev s_Reader_is_next : Stmt := inClass (top 50) 3
abbrev s_Reader_digit : Stmt := inClass (top 50) 4
abbrev s_Reader_nest : Stmt := inClass (top 50) 5
abbrev s_Reader_item : Stmt := inClass (top 50) 6
abbrev s_Reader_atom : Stmt := inClass (top 50) 7
abbrev s_Reader_ground : Stmt := inClass (top 50) 8
abbrev s_is_text : Stmt := top 51
abbrev s_tree_of : Stmt := top 52
abbrev s_flaw : Stmt := top 53
abbrev s_Node_init : Stmt := inClass (top 55) 0
abbrev s_nodes_of : Stmt := top 56
abbrev s_doors_at : Stmt := top 57
abbrev s_Nest_init : Stmt := inClass (top 58) 0
abbrev s_Nest_open_maze : Stmt := inClass (top 58) 1
abbrev s_Nest_reckon : Stmt := inClass (top 58) 2
abbrev s_Nest_follow : Stmt := inClass (top 58) 3
abbrev s_Nest_lay : Stmt := inClass (top 58) 4
abbrev s_Nest_need_place : Stmt := inClass (top 58) 5
abbrev s_Nest_change : Stmt := inClass (top 58) 6
abbrev s_Nest_shut : Stmt := inClass (top 58) 7
abbrev s_Nest_unshut : Stmt := inClass (top 58) 8
abbrev s_Nest_alter : Stmt := inClass (top 58) 9
abbrev s_Nest_undo : Stmt := inClass (top 58) 10
abbrev s_Nest_redo : Stmt := inClass (top 58) 11
abbrev s_Nest_table : Stmt := inClass (top 58) 12
abbrev s_Nest_reckoned : Stmt := inClass (top 58) 13
abbrev s_Nest_leaf_maze : Stmt := inClass (top 58) 14
abbrev s_Nest_whole : Stmt := inClass (top 58) 15
abbrev s_Nest_joined_at : Stmt := inClass (top 58) 16
abbrev s_need_doors : Stmt := top 61
abbrev s_least_ways : Stmt := top 62
abbrev s_widest : Stmt := top 63
abbrev s_first_way : Stmt := top 64
abbrev s_least_way : Stmt := top 65
abbrev s_wide_way : Stmt := top 66
abbrev s_is_way : Stmt := top 67
abbrev s_bound : Stmt := top 68
abbrev s_is_bound : Stmt := top 69
abbrev s_cut : Stmt := top 70
abbrev s_is_cut : Stmt := top 71
abbrev s__law_taken : Stmt := top 73
abbrev s__law_pick : Stmt := top 74
abbrev s__law_refused : Stmt := top 75
abbrev s__law_alike : Stmt := top 76
abbrev s__law_maze : Stmt := top 77
abbrev s__law_kind : Stmt := top 78
abbrev s__law_pair : Stmt := top 79
abbrev s__law_narrow : Stmt := top 80
abbrev s__law_parts : Stmt := top 81
abbrev s_law : Stmt := top 82
abbrev n__wall : List Str := ["k"]
abbrev p__wall : List Str := ["k"]
abbrev n_BadArgument_init : List Str := ["self", "name"]
abbrev p_BadArgument_init : List Str := ["self", "name"]
abbrev n_Flaw_init : List Str := ["self", "place", "message"]
abbrev p_Flaw_init : List Str := ["self", "place", "message"]
abbrev n_is_whole : List Str := ["value", "low", "high"]
abbrev p_is_whole : List Str := ["value", "low", "high"]
abbrev n_is_passage : List Str := ["value", "rooms"]
abbrev p_is_passage : List Str := ["value", "rooms"]
abbrev n_is_maze : List Str := ["value", "rooms", "passages", "doors", "own"]
abbrev p_is_maze : List Str := ["value"]
abbrev n_need : List Str := ["is_right", "name"]
abbrev p_need : List Str := ["is_right", "name"]
abbrev n_need_maze : List Str := ["value", "name"]
abbrev p_need_maze : List Str := ["value", "name"]
abbrev n_need_door : List Str := ["doors", "value", "name"]
abbrev p_need_door : List Str := ["doors", "value", "name"]
abbrev n_need_kind : List Str := ["kind", "most"]
abbrev p_need_kind : List Str := ["kind", "most"]
abbrev n_Worths_init : List Str := ["self", "kind", "most"]
abbrev p_Worths_init : List Str := ["self", "kind", "most"]
abbrev n_Worths_none : List Str := ["self"]
abbrev p_Worths_none : List Str := ["self"]
abbrev n_Worths_empty : List Str := ["self"]
abbrev p_Worths_empty : List Str := ["self"]
abbrev n_Worths_passage : List Str := ["self", "length", "width", "at"]
abbrev p_Worths_passage : List Str := ["self", "length", "width"]
abbrev n_Worths_add : List Str := ["self", "one", "other", "a", "b"]
abbrev p_Worths_add : List Str := ["self", "one", "other"]
abbrev n_Worths_times : List Str := ["self", "one", "other", "found", "at", "own", "place"]
abbrev p_Worths_times : List Str := ["self", "one", "other"]
abbrev n_Worths_again : List Str := ["self", "one", "found", "turn"]
abbrev p_Worths_again : List Str := ["self", "one"]
abbrev n_Part_init : List Str := ["self", "worths", "spots", "rows"]
abbrev p_Part_init : List Str := ["self", "worths", "spots", "rows"]
abbrev n_Part_without : List Str := ["self", "spot", "worths", "rows", "loop", "others", "at", "found", "one", "first", "own"]
abbrev p_Part_without : List Str := ["self", "spot"]
abbrev n_Part_hidden : List Str := ["self", "door", "spot", "rest", "moved", "own"]
abbrev p_Part_hidden : List Str := ["self", "door"]
abbrev n_Part_glued : List Str := ["self", "one", "other", "first", "second", "worths", "rows", "row", "keep", "drop", "a", "b", "at", "spots", "own"]
abbrev p_Part_glued : List Str := ["self", "one", "other"]
abbrev n_Part_beside : List Str := ["self", "other", "many", "none", "rows", "row", "own"]
abbrev p_Part_beside : List Str := ["self", "other"]
abbrev n_Part_told : List Str := ["self", "row"]
abbrev p_Part_told : List Str := ["self"]
abbrev n_Part_closed : List Str := ["self", "worths", "rows", "row", "spot", "loop", "before", "one", "first", "other"]
abbrev p_Part_closed : List Str := ["self"]
abbrev n_Part_table : List Str := ["self", "rows", "other", "one"]
abbrev p_Part_table : List Str := ["self"]
abbrev n_ordered : List Str := ["worths", "spots", "rows", "order", "own", "other", "one"]
abbrev p_ordered : List Str := ["worths", "spots", "rows"]
abbrev n_part : List Str := ["maze", "kind", "most"]
abbrev p_part : List Str := ["maze", "kind", "most"]
abbrev n_part_by : List Str := ["maze", "worths", "rooms", "passages", "doors", "rows", "room", "start", "goal", "length", "width", "row", "found", "left"]
abbrev p_part_by : List Str := ["maze", "worths"]
abbrev n_part_of : List Str := ["maze", "kind", "most"]
abbrev p_part_of : List Str := ["maze", "kind", "most"]
abbrev n_table_of : List Str := ["maze", "kind", "most"]
abbrev p_table_of : List Str := ["maze", "kind", "most"]
abbrev n_part_over : List Str := ["one", "other", "many", "found", "doors", "at"]
abbrev p_part_over : List Str := ["one", "other", "many"]
abbrev n_side_by_side : List Str := ["one", "other", "rooms", "passages", "doors", "more", "start", "goal", "length", "width", "own"]
abbrev p_side_by_side : List Str := ["one", "other"]
abbrev n_room_behind : List Str := ["room", "keep", "drop"]
abbrev p_room_behind : List Str := ["room", "keep", "drop"]
abbrev n_rooms_glued : List Str := ["maze", "first", "second", "rooms", "passages", "doors", "keep", "drop", "more", "start", "goal", "length", "width", "own"]
abbrev p_rooms_glued : List Str := ["maze", "first", "second"]
abbrev n_joined : List Str := ["one", "other", "many", "found", "doors", "at"]
abbrev p_joined : List Str := ["one", "other", "many"]
abbrev n_need_two : List Str := ["one", "other", "kind", "most"]
abbrev p_need_two : List Str := ["one", "other", "kind", "most"]
abbrev n_are_alike : List Str := ["one", "other", "kind", "most"]
abbrev p_are_alike : List Str := ["one", "other", "kind", "most"]
abbrev n_unlike : List Str := ["one", "other", "most", "kind"]
abbrev p_unlike : List Str := ["one", "other", "most"]
abbrev n_without : List Str := ["maze", "place"]
abbrev p_without : List Str := ["maze", "place"]
abbrev n_thin : List Str := ["maze", "kind", "most", "own", "at", "less"]
abbrev p_thin : List Str := ["maze", "kind", "most"]
abbrev n_Reader_init : List Str := ["self", "text", "at", "sign", "place"]
abbrev p_Reader_init : List Str := ["self", "text"]
abbrev n_Reader_sign : List Str := ["self"]
abbrev p_Reader_sign : List Str := ["self"]
abbrev n_Reader_refuse : List Str := ["self", "message"]
abbrev p_Reader_refuse : List Str := ["self", "message"]
abbrev n_Reader_is_next : List Str := ["self", "sign"]
abbrev p_Reader_is_next : List Str := ["self", "sign"]
abbrev n_Reader_digit : List Str := ["self"]
abbrev p_Reader_digit : List Str := ["self"]
abbrev n_Reader_nest : List Str := ["self", "found"]
abbrev p_Reader_nest : List Str := ["self"]
abbrev n_Reader_item : List Str := ["self", "found", "many"]
abbrev p_Reader_item : List Str := ["self"]
abbrev n_Reader_atom : List Str := ["self", "found", "one"]
abbrev p_Reader_atom : List Str := ["self"]
abbrev n_Reader_ground : List Str := ["self", "sign", "found"]
abbrev p_Reader_ground : List Str := ["self"]
abbrev n_is_text : List Str := ["value"]
abbrev p_is_text : List Str := ["value"]
abbrev n_tree_of : List Str := ["text", "reader", "found"]
abbrev p_tree_of : List Str := ["text"]
abbrev n_flaw : List Str := ["text", "e"]
abbrev p_flaw : List Str := ["text"]
abbrev n_Node_init : List Str := ["self", "word", "numbers", "below"]
abbrev p_Node_init : List Str := ["self", "word", "numbers", "below"]
abbrev n_nodes_of : List Str := ["tree", "word", "trees", "own", "rows", "found", "row", "number", "node"]
abbrev p_nodes_of : List Str := ["tree"]
abbrev n_doors_at : List Str := ["node", "counts", "below", "own", "found"]
abbrev p_doors_at : List Str := ["node", "counts"]
abbrev n_Nest_init : List Str := ["self", "text", "mazes", "kind", "most", "own", "node", "leaf"]
abbrev p_Nest_init : List Str := ["self", "text", "mazes", "kind", "most"]
abbrev n_Nest_open_maze : List Str := ["self", "leaf", "rooms", "passages", "doors", "at", "own"]
abbrev p_Nest_open_maze : List Str := ["self", "leaf"]
abbrev n_Nest_reckon : List Str := ["self", "node", "found", "parts", "own", "is_same"]
abbrev p_Nest_reckon : List Str := ["self", "node"]
abbrev n_Nest_follow : List Str := ["self", "leaf", "node"]
abbrev p_Nest_follow : List Str := ["self", "leaf"]
abbrev n_Nest_lay : List Str := ["self", "leaf", "place", "state", "mazes", "shut_ones", "rooms", "passages", "doors", "before"]
abbrev p_Nest_lay : List Str := ["self", "leaf", "place", "state"]
abbrev n_Nest_need_place : List Str := ["self", "leaf", "place"]
abbrev p_Nest_need_place : List Str := ["self", "leaf", "place"]
abbrev n_Nest_change : List Str := ["self", "leaf", "place", "state", "before"]
abbrev p_Nest_change : List Str := ["self", "leaf", "place", "state"]
abbrev n_Nest_shut : List Str := ["self", "leaf", "place"]
abbrev p_Nest_shut : List Str := ["self", "leaf", "place"]
abbrev n_Nest_unshut : List Str := ["self", "leaf", "place"]
abbrev p_Nest_unshut : List Str := ["self", "leaf", "place"]
abbrev n_Nest_alter : List Str := ["self", "leaf", "place", "length", "width"]
abbrev p_Nest_alter : List Str := ["self", "leaf", "place", "length", "width"]
abbrev n_Nest_undo : List Str := ["self", "leaf", "place", "before", "state"]
abbrev p_Nest_undo : List Str := ["self"]
abbrev n_Nest_redo : List Str := ["self"]
abbrev p_Nest_redo : List Str := ["self"]
abbrev n_Nest_table : List Str := ["self"]
abbrev p_Nest_table : List Str := ["self"]
abbrev n_Nest_reckoned : List Str := ["self"]
abbrev p_Nest_reckoned : List Str := ["self"]
abbrev n_Nest_leaf_maze : List Str := ["self", "leaf"]
abbrev p_Nest_leaf_maze : List Str := ["self", "leaf"]
abbrev n_Nest_whole : List Str := ["self", "own"]
abbrev p_Nest_whole : List Str := ["self"]
abbrev n_Nest_joined_at : List Str := ["self", "node", "some", "own", "rooms", "passages", "doors"]
abbrev p_Nest_joined_at : List Str := ["self", "node"]
abbrev n_need_doors : List Str := ["maze", "one", "other"]
abbrev p_need_doors : List Str := ["maze", "one", "other"]
abbrev n_least_ways : List Str := ["maze", "room", "found", "turn", "start", "goal", "length", "width", "own"]
abbrev p_least_ways : List Str := ["maze", "room"]
abbrev n_widest : List Str := ["maze", "room", "found", "turn", "start", "goal", "length", "width"]
abbrev p_widest : List Str := ["maze", "room"]
abbrev n_first_way : List Str := ["maze", "here", "goal", "best", "found", "at", "passage", "start", "room", "length", "width"]
abbrev p_first_way : List Str := ["maze", "here", "goal"]
abbrev n_least_way : List Str := ["maze", "one", "other"]
abbrev p_least_way : List Str := ["maze", "one", "other"]
abbrev n_wide_way : List Str := ["maze", "one", "other", "here", "goal", "least", "places", "at", "own", "some"]
abbrev p_wide_way : List Str := ["maze", "one", "other"]
abbrev n_is_way : List Str := ["maze", "one", "other", "value", "own", "room"]
abbrev p_is_way : List Str := ["maze", "one", "other", "value"]
abbrev n_bound : List Str := ["maze", "one", "turned", "start", "goal", "length", "width", "best", "own"]
abbrev p_bound : List Str := ["maze", "one"]
abbrev n_is_bound : List Str := ["maze", "one", "other", "least", "value", "own", "start", "goal", "length", "width"]
abbrev p_is_bound : List Str := ["maze", "one", "other", "least", "value"]
abbrev n_cut : List Str := ["maze", "one", "other", "width", "found", "line", "room", "own"]
abbrev p_cut : List Str := ["maze", "one", "other", "width"]
abbrev n_is_cut : List Str := ["maze", "one", "other", "width", "value", "own"]
abbrev p_is_cut : List Str := ["maze", "one", "other", "width", "value"]
abbrev n__law_taken : List Str := ["row", "many", "found", "cell"]
abbrev p__law_taken : List Str := ["row", "many"]
abbrev n__law_pick : List Str := ["row", "some"]
abbrev p__law_pick : List Str := ["row", "some"]
abbrev n__law_refused : List Str := ["call", "e"]
abbrev p__law_refused : List Str := ["call"]
abbrev n__law_alike : List Str := ["found", "due", "at"]
abbrev p__law_alike : List Str := ["found", "due"]
abbrev n__law_maze : List Str := ["row", "rooms", "most", "doors", "many", "passages", "turn", "at"]
abbrev p__law_maze : List Str := ["row", "rooms", "most", "doors"]
abbrev n__law_kind : List Str := ["row"]
abbrev p__law_kind : List Str := ["row"]
abbrev n__law_pair : List Str := ["maze", "one", "other", "worths", "can", "least", "wide", "counted", "some", "length", "own", "short", "broad", "at"]
abbrev p__law_pair : List Str := ["maze", "one", "other", "worths"]
abbrev n__law_narrow : List Str := ["row", "maze", "wides", "nest", "width", "at", "own", "due", "line", "turn"]
abbrev p__law_narrow : List Str := ["row", "maze", "wides"]
abbrev n__law_parts : List Str := ["maze", "most", "spots", "kind", "own", "rows", "one", "other", "can", "least", "wide", "counted", "some", "length"]
abbrev p__law_parts : List Str := ["maze", "most"]
abbrev n_law : List Str := ["script", "row", "turn", "maze", "most", "tables", "kind", "one", "other", "own", "fewer", "less"]
abbrev p_law : List Str := ["script"]
def d__wall : He.DefD := ⟨("_wall", none), "_wall", "_wall", defArgs s__wall, defBody s__wall, defScope s__wall, [], []⟩
def d_BadArgument_init : He.DefD := ⟨("BadArgument", some "__init__"), "__init__", "BadArgument.__init__", defArgs s_BadArgument_init, defBody s_BadArgument_init, defScope s_BadArgument_init, [], []⟩
def d_Flaw_init : He.DefD := ⟨("Flaw", some "__init__"), "__init__", "Flaw.__init__", defArgs s_Flaw_init, defBody s_Flaw_init, defScope s_Flaw_init, [], []⟩
def d_is_whole : He.DefD := ⟨("is_whole", none), "is_whole", "is_whole", defArgs s_is_whole, defBody s_is_whole, defScope s_is_whole, [], []⟩
def d_is_passage : He.DefD := ⟨("is_passage", none), "is_passage", "is_passage", defArgs s_is_passage, defBody s_is_passage, defScope s_is_passage, [], []⟩
def d_is_maze : He.DefD := ⟨("is_maze", none), "is_maze", "is_maze", defArgs s_is_maze, defBody s_is_maze, defScope s_is_maze, [], []⟩
def d_need : He.DefD := ⟨("need", none), "need", "need", defArgs s_need, defBody s_need, defScope s_need, [], []⟩
def d_need_maze : He.DefD := ⟨("need_maze", none), "need_maze", "need_maze", defArgs s_need_maze, defBody s_need_maze, defScope s_need_maze, [], []⟩
def d_need_door : He.DefD := ⟨("need_door", none), "need_door", "need_door", defArgs s_need_door, defBody s_need_door, defScope s_need_door, [], []⟩
def d_need_kind : He.DefD := ⟨("need_kind", none), "need_kind", "need_kind", defArgs s_need_kind, defBody s_need_kind, defScope s_need_kind, [], []⟩
def d_Worths_init : He.DefD := ⟨("Worths", some "__init__"), "__init__", "Worths.__init__", defArgs s_Worths_init, defBody s_Worths_init, defScope s_Worths_init, [], []⟩
def d_Worths_none : He.DefD := ⟨("Worths", some "none"), "none", "Worths.none", defArgs s_Worths_none, defBody s_Worths_none, defScope s_Worths_none, [], []⟩
def d_Worths_empty : He.DefD := ⟨("Worths", some "empty"), "empty", "Worths.empty", defArgs s_Worths_empty, defBody s_Worths_empty, defScope s_Worths_empty, [], []⟩
def d_Worths_passage : He.DefD := ⟨("Worths", some "passage"), "passage", "Worths.passage", defArgs s_Worths_passage, defBody s_Worths_passage, defScope s_Worths_passage, [], []⟩
def d_Worths_add : He.DefD := ⟨("Worths", some "add"), "add", "Worths.add", defArgs s_Worths_add, defBody s_Worths_add, defScope s_Worths_add, [], []⟩
def d_Worths_times : He.DefD := ⟨("Worths", some "times"), "times", "Worths.times", defArgs s_Worths_times, defBody s_Worths_times, defScope s_Worths_times, [], []⟩
def d_Worths_again : He.DefD := ⟨("Worths", some "again"), "again", "Worths.again", defArgs s_Worths_again, defBody s_Worths_again, defScope s_Worths_again, [], []⟩
def d_Part_init : He.DefD := ⟨("Part", some "__init__"), "__init__", "Part.__init__", defArgs s_Part_init, defBody s_Part_init, defScope s_Part_init, [], []⟩
def d_Part_without : He.DefD := ⟨("Part", some "without"), "without", "Part.without", defArgs s_Part_without, defBody s_Part_without, defScope s_Part_without, [], []⟩
def d_Part_hidden : He.DefD := ⟨("Part", some "hidden"), "hidden", "Part.hidden", defArgs s_Part_hidden, defBody s_Part_hidden, defScope s_Part_hidden, [], []⟩
def d_Part_glued : He.DefD := ⟨("Part", some "glued"), "glued", "Part.glued", defArgs s_Part_glued, defBody s_Part_glued, defScope s_Part_glued, [], []⟩
def d_Part_beside : He.DefD := ⟨("Part", some "beside"), "beside", "Part.beside", defArgs s_Part_beside, defBody s_Part_beside, defScope s_Part_beside, [], []⟩
def d_Part_told : He.DefD := ⟨("Part", some "told"), "told", "Part.told", defArgs s_Part_told, defBody s_Part_told, defScope s_Part_told, [], []⟩
def d_Part_closed : He.DefD := ⟨("Part", some "closed"), "closed", "Part.closed", defArgs s_Part_closed, defBody s_Part_closed, defScope s_Part_closed, [], []⟩
def d_Part_table : He.DefD := ⟨("Part", some "table"), "table", "Part.table", defArgs s_Part_table, defBody s_Part_table, defScope s_Part_table, [], []⟩
def d_ordered : He.DefD := ⟨("ordered", none), "ordered", "ordered", defArgs s_ordered, defBody s_ordered, defScope s_ordered, [], []⟩
def d_part : He.DefD := ⟨("part", none), "part", "part", defArgs s_part, defBody s_part, defScope s_part, [], []⟩
def d_part_by : He.DefD := ⟨("part_by", none), "part_by", "part_by", defArgs s_part_by, defBody s_part_by, defScope s_part_by, [], []⟩
def d_part_of : He.DefD := ⟨("part_of", none), "part_of", "part_of", defArgs s_part_of, defBody s_part_of, defScope s_part_of, [], []⟩
def d_table_of : He.DefD := ⟨("table_of", none), "table_of", "table_of", defArgs s_table_of, defBody s_table_of, defScope s_table_of, [], []⟩
def d_part_over : He.DefD := ⟨("part_over", none), "part_over", "part_over", defArgs s_part_over, defBody s_part_over, defScope s_part_over, [], []⟩
def d_side_by_side : He.DefD := ⟨("side_by_side", none), "side_by_side", "side_by_side", defArgs s_side_by_side, defBody s_side_by_side, defScope s_side_by_side, [], []⟩
def d_room_behind : He.DefD := ⟨("room_behind", none), "room_behind", "room_behind", defArgs s_room_behind, defBody s_room_behind, defScope s_room_behind, [], []⟩
def d_rooms_glued : He.DefD := ⟨("rooms_glued", none), "rooms_glued", "rooms_glued", defArgs s_rooms_glued, defBody s_rooms_glued, defScope s_rooms_glued, [], []⟩
def d_joined : He.DefD := ⟨("joined", none), "joined", "joined", defArgs s_joined, defBody s_joined, defScope s_joined, [], []⟩
def d_need_two : He.DefD := ⟨("need_two", none), "need_two", "need_two", defArgs s_need_two, defBody s_need_two, defScope s_need_two, [], []⟩
def d_are_alike : He.DefD := ⟨("are_alike", none), "are_alike", "are_alike", defArgs s_are_alike, defBody s_are_alike, defScope s_are_alike, [], []⟩
def d_unlike : He.DefD := ⟨("unlike", none), "unlike", "unlike", defArgs s_unlike, defBody s_unlike, defScope s_unlike, [], []⟩
def d_without : He.DefD := ⟨("without", none), "without", "without", defArgs s_without, defBody s_without, defScope s_without, [], []⟩
def d_thin : He.DefD := ⟨("thin", none), "thin", "thin", defArgs s_thin, defBody s_thin, defScope s_thin, [], []⟩
def d_Reader_init : He.DefD := ⟨("Reader", some "__init__"), "__init__", "Reader.__init__", defArgs s_Reader_init, defBody s_Reader_init, defScope s_Reader_init, [], []⟩
def d_Reader_sign : He.DefD := ⟨("Reader", some "sign"), "sign", "Reader.sign", defArgs s_Reader_sign, defBody s_Reader_sign, defScope s_Reader_sign, [], []⟩
def d_Reader_refuse : He.DefD := ⟨("Reader", some "refuse"), "refuse", "Reader.refuse", defArgs s_Reader_refuse, defBody s_Reader_refuse, defScope s_Reader_refuse, [], []⟩
def d_Reader_is_next : He.DefD := ⟨("Reader", some "is_next"), "is_next", "Reader.is_next", defArgs s_Reader_is_next, defBody s_Reader_is_next, defScope s_Reader_is_next, [], []⟩
def d_Reader_digit : He.DefD := ⟨("Reader", some "digit"), "digit", "Reader.digit", defArgs s_Reader_digit, defBody s_Reader_digit, defScope s_Reader_digit, [], []⟩
def d_Reader_nest : He.DefD := ⟨("Reader", some "nest"), "nest", "Reader.nest", defArgs s_Reader_nest, defBody s_Reader_nest, defScope s_Reader_nest, [], []⟩
def d_Reader_item : He.DefD := ⟨("Reader", some "item"), "item", "Reader.item", defArgs s_Reader_item, defBody s_Reader_item, defScope s_Reader_item, [], []⟩
def d_Reader_atom : He.DefD := ⟨("Reader", some "atom"), "atom", "Reader.atom", defArgs s_Reader_atom, defBody s_Reader_atom, defScope s_Reader_atom, [], []⟩
def d_Reader_ground : He.DefD := ⟨("Reader", some "ground"), "ground", "Reader.ground", defArgs s_Reader_ground, defBody s_Reader_ground, defScope s_Reader_ground, [], []⟩
def d_is_text : He.DefD := ⟨("is_text", none), "is_text", "is_text", defArgs s_is_text, defBody s_is_text, defScope s_is_text, [], []⟩
def d_tree_of : He.DefD := ⟨("tree_of", none), "tree_of", "tree_of", defArgs s_tree_of, defBody s_tree_of, defScope s_tree_of, [], []⟩
def d_flaw : He.DefD := ⟨("flaw", none), "flaw", "flaw", defArgs s_flaw, defBody s_flaw, defScope s_flaw, [], []⟩
def d_Node_init : He.DefD := ⟨("Node", some "__init__"), "__init__", "Node.__init__", defArgs s_Node_init, defBody s_Node_init, defScope s_Node_init, [], []⟩
def d_nodes_of : He.DefD := ⟨("nodes_of", none), "nodes_of", "nodes_of", defArgs s_nodes_of, defBody s_nodes_of, defScope s_nodes_of, [], []⟩
def d_doors_at : He.DefD := ⟨("doors_at", none), "doors_at", "doors_at", defArgs s_doors_at, defBody s_doors_at, defScope s_doors_at, [], []⟩
def d_Nest_init : He.DefD := ⟨("Nest", some "__init__"), "__init__", "Nest.__init__", defArgs s_Nest_init, defBody s_Nest_init, defScope s_Nest_init, [], []⟩
def d_Nest_open_maze : He.DefD := ⟨("Nest", some "open_maze"), "open_maze", "Nest.open_maze", defArgs s_Nest_open_maze, defBody s_Nest_open_maze, defScope s_Nest_open_maze, [], []⟩
def d_Nest_reckon : He.DefD := ⟨("Nest", some "reckon"), "reckon", "Nest.reckon", defArgs s_Nest_reckon, defBody s_Nest_reckon, defScope s_Nest_reckon, [], []⟩
def d_Nest_follow : He.DefD := ⟨("Nest", some "follow"), "follow", "Nest.follow", defArgs s_Nest_follow, defBody s_Nest_follow, defScope s_Nest_follow, [], []⟩
def d_Nest_lay : He.DefD := ⟨("Nest", some "lay"), "lay", "Nest.lay", defArgs s_Nest_lay, defBody s_Nest_lay, defScope s_Nest_lay, [], []⟩
def d_Nest_need_place : He.DefD := ⟨("Nest", some "need_place"), "need_place", "Nest.need_place", defArgs s_Nest_need_place, defBody s_Nest_need_place, defScope s_Nest_need_place, [], []⟩
def d_Nest_change : He.DefD := ⟨("Nest", some "change"), "change", "Nest.change", defArgs s_Nest_change, defBody s_Nest_change, defScope s_Nest_change, [], []⟩
def d_Nest_shut : He.DefD := ⟨("Nest", some "shut"), "shut", "Nest.shut", defArgs s_Nest_shut, defBody s_Nest_shut, defScope s_Nest_shut, [], []⟩
def d_Nest_unshut : He.DefD := ⟨("Nest", some "unshut"), "unshut", "Nest.unshut", defArgs s_Nest_unshut, defBody s_Nest_unshut, defScope s_Nest_unshut, [], []⟩
def d_Nest_alter : He.DefD := ⟨("Nest", some "alter"), "alter", "Nest.alter", defArgs s_Nest_alter, defBody s_Nest_alter, defScope s_Nest_alter, [], []⟩
def d_Nest_undo : He.DefD := ⟨("Nest", some "undo"), "undo", "Nest.undo", defArgs s_Nest_undo, defBody s_Nest_undo, defScope s_Nest_undo, [], []⟩
def d_Nest_redo : He.DefD := ⟨("Nest", some "redo"), "redo", "Nest.redo", defArgs s_Nest_redo, defBody s_Nest_redo, defScope s_Nest_redo, [], []⟩
def d_Nest_table : He.DefD := ⟨("Nest", some "table"), "table", "Nest.table", defArgs s_Nest_table, defBody s_Nest_table, defScope s_Nest_table, [], []⟩
def d_Nest_reckoned : He.DefD := ⟨("Nest", some "reckoned"), "reckoned", "Nest.reckoned", defArgs s_Nest_reckoned, defBody s_Nest_reckoned, defScope s_Nest_reckoned, [], []⟩
def d_Nest_leaf_maze : He.DefD := ⟨("Nest", some "leaf_maze"), "leaf_maze", "Nest.leaf_maze", defArgs s_Nest_leaf_maze, defBody s_Nest_leaf_maze, defScope s_Nest_leaf_maze, [], []⟩
def d_Nest_whole : He.DefD := ⟨("Nest", some "whole"), "whole", "Nest.whole", defArgs s_Nest_whole, defBody s_Nest_whole, defScope s_Nest_whole, [], []⟩
def d_Nest_joined_at : He.DefD := ⟨("Nest", some "joined_at"), "joined_at", "Nest.joined_at", defArgs s_Nest_joined_at, defBody s_Nest_joined_at, defScope s_Nest_joined_at, [], []⟩
def d_need_doors : He.DefD := ⟨("need_doors", none), "need_doors", "need_doors", defArgs s_need_doors, defBody s_need_doors, defScope s_need_doors, [], []⟩
def d_least_ways : He.DefD := ⟨("least_ways", none), "least_ways", "least_ways", defArgs s_least_ways, defBody s_least_ways, defScope s_least_ways, [], []⟩
def d_widest : He.DefD := ⟨("widest", none), "widest", "widest", defArgs s_widest, defBody s_widest, defScope s_widest, [], []⟩
def d_first_way : He.DefD := ⟨("first_way", none), "first_way", "first_way", defArgs s_first_way, defBody s_first_way, defScope s_first_way, [], []⟩
def d_least_way : He.DefD := ⟨("least_way", none), "least_way", "least_way", defArgs s_least_way, defBody s_least_way, defScope s_least_way, [], []⟩
def d_wide_way : He.DefD := ⟨("wide_way", none), "wide_way", "wide_way", defArgs s_wide_way, defBody s_wide_way, defScope s_wide_way, [], []⟩
def d_is_way : He.DefD := ⟨("is_way", none), "is_way", "is_way", defArgs s_is_way, defBody s_is_way, defScope s_is_way, [], []⟩
def d_bound : He.DefD := ⟨("bound", none), "bound", "bound", defArgs s_bound, defBody s_bound, defScope s_bound, [], []⟩
def d_is_bound : He.DefD := ⟨("is_bound", none), "is_bound", "is_bound", defArgs s_is_bound, defBody s_is_bound, defScope s_is_bound, [], []⟩
def d_cut : He.DefD := ⟨("cut", none), "cut", "cut", defArgs s_cut, defBody s_cut, defScope s_cut, [], []⟩
def d_is_cut : He.DefD := ⟨("is_cut", none), "is_cut", "is_cut", defArgs s_is_cut, defBody s_is_cut, defScope s_is_cut, [], []⟩
def d__law_taken : He.DefD := ⟨("_law_taken", none), "_law_taken", "_law_taken", defArgs s__law_taken, defBody s__law_taken, defScope s__law_taken, [], []⟩
def d__law_pick : He.DefD := ⟨("_law_pick", none), "_law_pick", "_law_pick", defArgs s__law_pick, defBody s__law_pick, defScope s__law_pick, [], []⟩
def d__law_refused : He.DefD := ⟨("_law_refused", none), "_law_refused", "_law_refused", defArgs s__law_refused, defBody s__law_refused, defScope s__law_refused, [], []⟩
def d__law_alike : He.DefD := ⟨("_law_alike", none), "_law_alike", "_law_alike", defArgs s__law_alike, defBody s__law_alike, defScope s__law_alike, [], []⟩
def d__law_maze : He.DefD := ⟨("_law_maze", none), "_law_maze", "_law_maze", defArgs s__law_maze, defBody s__law_maze, defScope s__law_maze, [], []⟩
def d__law_kind : He.DefD := ⟨("_law_kind", none), "_law_kind", "_law_kind", defArgs s__law_kind, defBody s__law_kind, defScope s__law_kind, [], []⟩
def d__law_pair : He.DefD := ⟨("_law_pair", none), "_law_pair", "_law_pair", defArgs s__law_pair, defBody s__law_pair, defScope s__law_pair, [], []⟩
def d__law_narrow : He.DefD := ⟨("_law_narrow", none), "_law_narrow", "_law_narrow", defArgs s__law_narrow, defBody s__law_narrow, defScope s__law_narrow, [], []⟩
def d__law_parts : He.DefD := ⟨("_law_parts", none), "_law_parts", "_law_parts", defArgs s__law_parts, defBody s__law_parts, defScope s__law_parts, [], []⟩
def d_law : He.DefD := ⟨("law", none), "law", "law", defArgs s_law, defBody s_law, defScope s_law, [], []⟩
def fn : List He.DefD := [d__wall, d_BadArgument_init, d_Flaw_init, d_is_whole, d_is_passage, d_is_maze, d_need, d_need_maze, d_need_door, d_need_kind, d_Worths_init, d_Worths_none, d_Worths_empty, d_Worths_passage, d_Worths_add, d_Worths_times, d_Worths_again, d_Part_init, d_Part_without, d_Part_hidden, d_Part_glued, d_Part_beside, d_Part_told, d_Part_closed, d_Part_table, d_ordered, d_part, d_part_by, d_part_of, d_table_of, d_part_over, d_side_by_side, d_room_behind, d_rooms_glued, d_joined, d_need_two, d_are_alike, d_unlike, d_without, d_thin, d_Reader_init, d_Reader_sign, d_Reader_refuse, d_Reader_is_next, d_Reader_digit, d_Reader_nest, d_Reader_item, d_Reader_atom, d_Reader_ground, d_is_text, d_tree_of, d_flaw, d_Node_init, d_nodes_of, d_doors_at, d_Nest_init, d_Nest_open_maze, d_Nest_reckon, d_Nest_follow, d_Nest_lay, d_Nest_need_place, d_Nest_change, d_Nest_shut, d_Nest_unshut, d_Nest_alter, d_Nest_undo, d_Nest_redo, d_Nest_table, d_Nest_reckoned, d_Nest_leaf_maze, d_Nest_whole, d_Nest_joined_at, d_need_doors, d_least_ways, d_widest, d_first_way, d_least_way, d_wide_way, d_is_way, d_bound, d_is_bound, d_cut, d_is_cut, d__law_taken, d__law_pick, d__law_refused, d__law_alike, d__law_maze, d__law_kind, d__law_pair, d__law_narrow, d__law_parts, d_law]
def fa0 : List He.Fa := [.glo "_wall", .glo "is_whole", .glo "is_passage", .glo "is_maze", .glo "need", .glo "need_maze", .glo "need_door", .glo "need_kind", .glo "ordered", .glo "part", .glo "part_by", .glo "part_of", .glo "table_of", .glo "part_over", .glo "side_by_side", .glo "room_behind", .glo "rooms_glued", .glo "joined", .glo "need_two", .glo "are_alike", .glo "unlike", .glo "without", .glo "thin", .glo "is_text", .glo "tree_of", .glo "flaw", .glo "nodes_of", .glo "doors_at", .glo "need_doors", .glo "least_ways", .glo "widest", .glo "first_way", .glo "least_way", .glo "wide_way", .glo "is_way", .glo "bound", .glo "is_bound", .glo "cut", .glo "is_cut", .glo "_law_taken"]
def fa1 : List He.Fa := [.glo "_law_pick", .glo "_law_refused", .glo "_law_alike", .glo "_law_maze", .glo "_law_kind", .glo "_law_pair", .glo "_law_narrow", .glo "_law_parts", .glo "law", .glo "BadArgument", .keep "BadArgument", .noat "BadArgument" "name", .glo "Flaw", .keep "Flaw", .noat "Flaw" "place", .noat "Flaw" "message", .glo "Worths", .cls "Worths", .mkr "Worths", .noat "Worths" "kind", .noat "Worths" "most", .meth "Worths" "none", .meth "Worths" "empty", .meth "Worths" "passage", .meth "Worths" "add", .meth "Worths" "times", .meth "Worths" "again", .glo "Part", .cls "Part", .mkr "Part", .noat "Part" "worths", .noat "Part" "spots", .noat "Part" "rows", .meth "Part" "without", .meth "Part" "hidden", .meth "Part" "glued", .meth "Part" "beside", .meth "Part" "told", .meth "Part" "closed", .meth "Part" "table"]
def fa2 : List He.Fa := [.glo "Reader", .cls "Reader", .mkr "Reader", .noat "Reader" "signs", .noat "Reader" "size", .noat "Reader" "at", .noat "Reader" "deep", .meth "Reader" "sign", .meth "Reader" "refuse", .meth "Reader" "is_next", .meth "Reader" "digit", .meth "Reader" "nest", .meth "Reader" "item", .meth "Reader" "atom", .meth "Reader" "ground", .glo "Node", .cls "Node", .mkr "Node", .noat "Node" "word", .noat "Node" "numbers", .noat "Node" "below", .noat "Node" "above", .noat "Node" "part", .glo "Nest", .cls "Nest", .mkr "Nest", .noat "Nest" "nodes", .noat "Nest" "kind", .noat "Nest" "most", .noat "Nest" "leaves", .noat "Nest" "mazes", .noat "Nest" "shut_ones", .noat "Nest" "pasts", .noat "Nest" "futures", .noat "Nest" "count", .meth "Nest" "open_maze", .meth "Nest" "reckon", .meth "Nest" "follow", .meth "Nest" "lay", .meth "Nest" "need_place"]
def fa3 : List He.Fa := [.meth "Nest" "change", .meth "Nest" "shut", .meth "Nest" "unshut", .meth "Nest" "alter", .meth "Nest" "undo", .meth "Nest" "redo", .meth "Nest" "table", .meth "Nest" "reckoned", .meth "Nest" "leaf_maze", .meth "Nest" "whole", .meth "Nest" "joined_at", .int "MOST_ROOMS" 40, .int "MOST_PASSAGES" 120, .int "MOST_DOORS" 12, .int "MOST_LENGTH" 50, .int "MOST_WIDTH" 99, .int "MOST_LEVEL" 12, .str "CAN" "can", .str "LEAST" "least", .str "WIDE" "wide", .str "COUNT" "count", .glo "KINDS", .int "ENDLESS" 1000, .str "LETTERS" "abcdef", .str "DIGITS" "0123456789", .int "MOST_TEXT" 200, .int "MOST_DEEP" 20, .int "FAR" 1000000, .free "ValueError", .free "all", .free "bool", .free "enumerate", .free "int", .free "isinstance", .free "len", .free "list", .free "max", .free "min", .free "range", .free "set"]
def fa4 : List He.Fa := [.free "sorted", .free "str", .free "sum", .free "tuple", .free "zip"]
def fa : List He.Fa := fa0 ++ fa1 ++ fa2 ++ fa3 ++ fa4
def tf : List He.Defn := [("law", none)]
def exF (K : PySem.W.Frag) : Bool := (oexB K (He.ga K "BadArgument") && xfB K (He.ga K "BadArgument") && initB K (He.ga K "BadArgument")) && (oexB K (He.ga K "Flaw") && xfB K (He.ga K "Flaw") && initB K (He.ga K "Flaw")) && tupB K (He.ga K "KINDS") ["can", "least", "wide", "count"]
abbrev R : PySem.W.OpenRow := PySem.W.OpenLaw.row PySem.Challenge.rw_mazesums_k09_whole_four_kinds_together
def ads : List Addr := [3, 21, 69, 76, 81, 88, 95, 102, 109, 229, 236, 241, 248, 255, 262, 267, 274, 279, 286, 293, 300, 305, 312, 319, 401, 408, 415, 441, 446, 576, 583, 590, 597, 604, 609, 614, 619, 624, 629, 634, 641, 648, 655, 660, 665, 672, 677, 682, 687, 692, 38, 58, 164, 220, 390, 432, 565, 37, 57, 163, 219, 389, 431, 564, 35, 55, 123, 130, 137, 142, 147, 154, 161, 182, 187, 192, 197, 202, 207, 212, 217, 331, 338, 345, 352, 359, 366, 373, 380, 387, 429, 458, 463, 468, 475, 482, 489, 496, 503, 510, 517, 524, 531, 538, 545, 552, 557, 562, 20, 68, 75, 80, 87, 94, 101, 108, 228, 235, 240, 247, 254, 261, 266, 273, 278, 285, 292, 299, 304, 311, 318, 400, 407, 414, 440, 445, 575, 582, 589, 596, 603, 608, 613, 618, 623, 628, 633, 640, 647, 654, 659, 664, 671, 676, 681, 686, 691, 34, 54, 122, 129, 136, 141, 146, 153, 160, 181, 186, 191, 196, 201, 206, 211, 216, 330, 337, 344, 351, 358, 365, 372, 379, 386, 428, 457, 462, 467, 474, 481, 488, 495, 502, 509, 516, 523, 530, 537, 544, 551, 556, 561, 62]
abbrev hk : PySem.W.Hook := Hl.hook ads fa fn tf exF
def ob (s : PySem.W.SharedT) : He.AlX := Hl.seenAt ads fa fn tf exF (HandSHeadRun.getT s)
theorem ob_eq (s : PySem.W.SharedT) : ob s = hk.obs s.abs := Hl.seenAt_eq (HandSHeadRun.getT_eq s)
def loose : List PySem.Str := (["_wall", "BadArgument", "Flaw", "MOST_ROOMS", "MOST_PASSAGES", "MOST_DOORS", "MOST_LENGTH", "MOST_WIDTH", "MOST_LEVEL", "CAN", "LEAST", "WIDE", "COUNT", "KINDS", "is_whole", "is_passage", "is_maze", "need", "need_maze", "need_door", "need_kind", "ENDLESS", "Worths", "Part", "ordered", "part", "part_by", "part_of", "table_of", "part_over"] : List PySem.Str) ++ (["side_by_side", "room_behind", "rooms_glued", "joined", "need_two", "are_alike", "unlike", "without", "thin", "LETTERS", "DIGITS", "MOST_TEXT", "MOST_DEEP", "Reader", "is_text", "tree_of", "flaw", "Node", "nodes_of", "doors_at", "Nest", "FAR", "need_doors", "least_ways", "widest", "first_way", "least_way", "wide_way", "is_way", "bound"] : List PySem.Str) ++ (["is_bound", "cut", "is_cut", "_law_taken", "_law_pick", "_law_refused", "_law_alike", "_law_maze", "_law_kind", "_law_pair", "_law_narrow", "_law_parts"] : List PySem.Str)
theorem run (w : World) : HandSHeadRun.RunEq R (PySem.W.view R.prog [82]) hk ob 20000 loose w := by
  intro os
  kernel_rfl
end K09
/-! Data, and a small logic of what is owned: for readings of the hand layer. -/
namespace Sl
open PySem PySem.Spec
open PyProof.Rows L2
/-- immutable data -/
inductive D where
  | non | bl (b : Bool) | int (i : Int) | str (x : Str) | tup (ds : List D)
mutual
/-- v stands for d -/
inductive RD (K : PySem.W.Frag) (H : Hp) : D → V → Prop
  | non : RD K H .non .non
  | bl (b : Bool) : RD K H (.bl b) (.bl b)
  | int (i : Int) : RD K H (.int i) (.int i)
  | str (x : Str) : RD K H (.str x) (.str x)
  | tup {a : Addr} {xs : List V} {ds : List D} : SqT K H a xs → RDs K H ds xs → RD K H (.tup ds) (.ref a)
inductive RDs (K : PySem.W.Frag) (H : Hp) : List D → List V → Prop
  | nil : RDs K H [] []
  | cons {d : D} {ds : List D} {v : V} {vs : List V} : RD K H d v → RDs K H ds vs → RDs K H (d :: ds) (v :: vs)
end
/-- tuples stay -/
def TEx (H H' : Hp) : Prop := ∀ a xs, Rd H a (.tup xs) → Rd H' a (.tup xs)
/-- what was tracked stays -/
def Ex (H H' : Hp) : Prop := ∀ a o, H a = some o → H' a = some o
/-- .. but at M -/
def ExB (M : List Addr) (H H' : Hp) : Prop := ∀ a o, a ∉ M → H a = some o → H' a = some o
theorem Ex.refl (H : Hp) : Ex H H := fun _ _ h => h
theorem Ex.trans {H H1 H2 : Hp} (a : Ex H H1) (b : Ex H1 H2) : Ex H H2 := fun x o h => b x o (a x o h)
theorem ExB.refl (M : List Addr) (H : Hp) : ExB M H H := fun _ _ _ h => h
theorem ExB.trans {M : List Addr} {H H1 H2 : Hp} (a : ExB M H H1) (b : ExB M H1 H2) : ExB M H H2 := fun x o n h => b x o n (a x o n h)
theorem Ex.b {M : List Addr} {H H' : Hp} (e : Ex H H') : ExB M H H' := fun x o _ h => e x o h
theorem ExB.ex {H H' : Hp} (e : ExB [] H H') : Ex H H' := fun x o h => e x o (by simp) h
theorem ExB.mono {M M' : List Addr} {H H' : Hp} (e : ExB M H H') (h : ∀ a ∈ M, a ∈ M') : ExB M' H H' := fun x o n q => e x o (fun z => n (h x z)) q
theorem TEx.refl (H : Hp) : TEx H H := fun _ _ h => h
theorem TEx.trans {H H1 H2 : Hp} (a : TEx H H1) (b : TEx H1 H2) : TEx H H2 := fun x o h => b x o (a x o h)
theorem Ex.t {H H' : Hp} (e : Ex H H') : TEx H H' := fun a xs h => by
  rcases h with h | ⟨o, h⟩
  · exact .inl (e a _ h)
  · exact .inr ⟨o, e a _ h⟩
theorem TEx.sq {K : PySem.W.Frag} {H H' : Hp} {a : Addr} {xs : List V} (e : TEx H H') (h : SqT K H a xs) : SqT K H' a xs := by
  rcases h with h | h
  · exact .inl (e a xs h)
  · exact .inr h
theorem Ex.sqL {K : PySem.W.Frag} {H H' : Hp} {a : Addr} {xs : List V} (e : Ex H H') (h : SqL K H a xs) : SqL K H' a xs := by
  rcases h with (h | ⟨o, h⟩) | h
  · exact .inl (.inl (e a _ h))
  · exact .inl (.inr ⟨o, e a _ h⟩)
  · exact .inr h
mutual
theorem RD.mono {K : PySem.W.Frag} {H H' : Hp} (e : TEx H H') : ∀ {d : D} {v : V}, RD K H d v → RD K H' d v
  | _, _, .non => .non
  | _, _, .bl b => .bl b
  | _, _, .int i => .int i
  | _, _, .str x => .str x
  | _, _, .tup h r => .tup (e.sq h) (RDs.mono e r)
theorem RDs.mono {K : PySem.W.Frag} {H H' : Hp} (e : TEx H H') : ∀ {ds : List D} {vs : List V}, RDs K H ds vs → RDs K H' ds vs
  | _, _, .nil => .nil
  | _, _, .cons h r => .cons (RD.mono e h) (RDs.mono e r)
end
theorem RDs.len {K : PySem.W.Frag} {H : Hp} : ∀ {ds : List D} {vs : List V}, RDs K H ds vs → vs.length = ds.length
  | _, _, .nil => rfl
  | _, _, .cons _ r => by simp [RDs.len r]
theorem RDs.get {K : PySem.W.Frag} {H : Hp} : ∀ {ds : List D} {vs : List V} {i : Nat} {d : D}, RDs K H ds vs → ds[i]? = some d → ∃ v, vs[i]? = some v ∧ RD K H d v
  | _, _, _, _, .nil, e => by simp at e
  | _, _, 0, _, .cons r _, e => by simp at e; subst e; exact ⟨_, rfl, r⟩
  | _, _, i + 1, d, .cons _ t, e => by
    obtain ⟨v, h1, h2⟩ := RDs.get (i := i) t (by simpa using e)
    exact ⟨v, by simpa using h1, h2⟩
theorem RDs.getV {K : PySem.W.Frag} {H : Hp} : ∀ {ds : List D} {vs : List V} {i : Nat} {v : V}, RDs K H ds vs → vs[i]? = some v → ∃ d, ds[i]? = some d ∧ RD K H d v
  | _, _, _, _, .nil, e => by simp at e
  | _, _, 0, _, .cons r _, e => by simp at e; subst e; exact ⟨_, rfl, r⟩
  | _, _, i + 1, v, .cons _ t, e => by
    obtain ⟨d, h1, h2⟩ := RDs.getV (i := i) t (by simpa using e)
    exact ⟨d, by simpa using h1, h2⟩
theorem RDs.append {K : PySem.W.Frag} {H : Hp} : ∀ {ds es : List D} {vs ws : List V}, RDs K H ds vs → RDs K H es ws → RDs K H (ds ++ es) (vs ++ ws)
  | _, _, _, _, .nil, s => s
  | _, _, _, _, .cons r t, s => .cons r (RDs.append t s)
theorem RDs.take {K : PySem.W.Frag} {H : Hp} : ∀ {ds : List D} {vs : List V} (n : Nat), RDs K H ds vs → RDs K H (ds.take n) (vs.take n)
  | _, _, 0, _ => .nil
  | _, _, _ + 1, .nil => .nil
  | _, _, n + 1, .cons r t => .cons r (RDs.take n t)
theorem RDs.drop {K : PySem.W.Frag} {H : Hp} : ∀ {ds : List D} {vs : List V} (n : Nat), RDs K H ds vs → RDs K H (ds.drop n) (vs.drop n)
  | _, _, 0, r => r
  | _, _, _ + 1, .nil => .nil
  | _, _, n + 1, .cons _ t => RDs.drop n t
theorem RDs.set {K : PySem.W.Frag} {H : Hp} {d : D} {v : V} (r : RD K H d v) : ∀ {ds : List D} {vs : List V} (i : Nat), RDs K H ds vs → RDs K H (ds.set i d) (vs.set i v)
  | _, _, _, .nil => .nil
  | _, _, 0, .cons _ t => .cons r t
  | _, _, i + 1, .cons q t => .cons q (RDs.set r i t)
theorem RDs.one {K : PySem.W.Frag} {H : Hp} {d : D} {v : V} (r : RD K H d v) : RDs K H [d] [v] := .cons r .nil
theorem RD.ofInt {K : PySem.W.Frag} {H : Hp} {i : Int} {v : V} (r : RD K H (.int i) v) : v = .int i := by cases r; rfl
theorem RD.ofBl {K : PySem.W.Frag} {H : Hp} {b : Bool} {v : V} (r : RD K H (.bl b) v) : v = .bl b := by cases r; rfl
theorem RD.ofStr {K : PySem.W.Frag} {H : Hp} {x : Str} {v : V} (r : RD K H (.str x) v) : v = .str x := by cases r; rfl
theorem RD.ofNon {K : PySem.W.Frag} {H : Hp} {v : V} (r : RD K H .non v) : v = .non := by cases r; rfl
theorem RD.ofTup {K : PySem.W.Frag} {H : Hp} {ds : List D} {v : V} (r : RD K H (.tup ds) v) : ∃ a xs, v = .ref a ∧ SqT K H a xs ∧ RDs K H ds xs := by cases r with | tup h r => exact ⟨_, _, rfl, h, r⟩
theorem RDs.ofCons {K : PySem.W.Frag} {H : Hp} {d : D} {ds : List D} {vs : List V} (r : RDs K H (d :: ds) vs) : ∃ v ws, vs = v :: ws ∧ RD K H d v ∧ RDs K H ds ws := by cases r with | cons a b => exact ⟨_, _, rfl, a, b⟩
theorem RDs.ofNil {K : PySem.W.Frag} {H : Hp} {vs : List V} (r : RDs K H [] vs) : vs = [] := by cases r; rfl
theorem RDs.ints {K : PySem.W.Frag} {H : Hp} : ∀ {ns : List Int} {vs : List V}, RDs K H (ns.map D.int) vs → vs = ns.map V.int
  | [], _, r => r.ofNil
  | n :: ns, _, r => by
    obtain ⟨v, ws, rfl, h1, h2⟩ := RDs.ofCons r
    rw [h1.ofInt, RDs.ints h2] <;> rfl
theorem RDs.ofInts (K : PySem.W.Frag) (H : Hp) : ∀ (ns : List Int), RDs K H (ns.map D.int) (ns.map V.int)
  | [] => .nil
  | n :: ns => .cons (.int n) (RDs.ofInts K H ns)
/-! ### what is known of the heap -/
/-- a thing known of the heap, with the addresses that it leans on -/
structure As where
  P : Hp → List Addr → Prop
  there : ∀ {H : Hp} {fp : List Addr}, P H fp → ∀ a ∈ fp, ∃ o, H a = some o
  loc : ∀ {H H' : Hp} {fp : List Addr}, P H fp → (∀ a ∈ fp, H' a = H a) → TEx H H' → P H' fp
/-- data -/
def dt (K : PySem.W.Frag) (d : D) (v : V) : As where
  P := fun H fp => fp = [] ∧ RD K H d v
  there := fun h a ha => by rw [h.1] at ha; simp at ha
  loc := fun h _ t => ⟨h.1, h.2.mono t⟩
/-- an object -/
def pt (a : Addr) (o : HO) : As where
  P := fun H fp => fp = [a] ∧ H a = some o
  there := fun h b hb => by rw [h.1] at hb; simp at hb; subst hb; exact ⟨_, h.2⟩
  loc := fun h k _ => ⟨h.1, by rw [k a (by rw [h.1]; simp)]; exact h.2⟩
/-- a list of data -/
def ls (K : PySem.W.Frag) (a : Addr) (ds : List D) : As where
  P := fun H fp => fp = [a] ∧ ∃ xs, H a = some (.lst xs) ∧ RDs K H ds xs
  there := fun h b hb => by rw [h.1] at hb; simp at hb; subst hb; exact ⟨_, h.2.choose_spec.1⟩
  loc := fun h k t => ⟨h.1, by obtain ⟨xs, h1, h2⟩ := h.2; exact ⟨xs, by rw [k a (by rw [h.1]; simp)]; exact h1, h2.mono t⟩⟩
/-- both -/
def sep (A B : As) : As where
  P := fun H fp => ∃ f g, fp = f ++ g ∧ A.P H f ∧ B.P H g
  there := fun h b hb => by
    obtain ⟨f, g, rfl, h1, h2⟩ := h
    rcases List.mem_append.mp hb with z | z
    · exact A.there h1 b z
    · exact B.there h2 b z
  loc := fun h k t => by
    obtain ⟨f, g, rfl, h1, h2⟩ := h
    exact ⟨f, g, rfl, A.loc h1 (fun a ha => k a (List.mem_append_left _ ha)) t, B.loc h2 (fun a ha => k a (List.mem_append_right _ ha)) t⟩
/-- with a plain fact -/
def pur (p : Prop) : As where
  P := fun _ fp => fp = [] ∧ p
  there := fun h a ha => by rw [h.1] at ha; simp at ha
  loc := fun h _ _ => h
def exs {α : Type} (A : α → As) : As where
  P := fun H fp => ∃ x, (A x).P H fp
  there := fun ⟨x, h⟩ => (A x).there h
  loc := fun ⟨x, h⟩ k t => ⟨x, (A x).loc h k t⟩
inductive All2 (H : Hp) : List As → List (List Addr) → Prop
  | nil : All2 H [] []
  | cons {A : As} {l : List As} {fp : List Addr} {fps : List (List Addr)} : A.P H fp → All2 H l fps → All2 H (A :: l) (fp :: fps)
theorem All2.loc {H H' : Hp} (t : TEx H H') : ∀ {l : List As} {fps : List (List Addr)}, All2 H l fps → (∀ a ∈ fps.flatten, H' a = H a) → All2 H' l fps
  | _, _, .nil, _ => .nil
  | _, _, .cons h r, k => .cons (As.loc _ h (fun a ha => k a (by simp [ha])) t) (All2.loc t r fun a ha => k a (by simp at ha ⊢; exact .inr ha))
theorem All2.there {H : Hp} : ∀ {l : List As} {fps : List (List Addr)}, All2 H l fps → ∀ a ∈ fps.flatten, ∃ o, H a = some o
  | _, _, .nil, a, ha => by simp at ha
  | _, _, .cons h r, a, ha => by
    rw [List.flatten_cons] at ha
    rcases List.mem_append.mp ha with z | z
    · exact As.there _ h a z
    · exact All2.there r a z
theorem All2.mem {H : Hp} {A : As} : ∀ {l : List As} {fps : List (List Addr)}, All2 H l fps → A ∈ l → ∃ fp, A.P H fp ∧ ∀ a ∈ fp, a ∈ fps.flatten
  | _, _, .nil, h => by cases h
  | _, _, .cons h r, m => by
    rcases List.mem_cons.mp m with rfl | m
    · exact ⟨_, h, fun a ha => by simp [ha]⟩
    · obtain ⟨fp, h1, h2⟩ := All2.mem r m
      exact ⟨fp, h1, fun a ha => by rw [List.flatten_cons]; exact List.mem_append_right _ (h2 a ha)⟩
/-- one of a list, and the others -/
inductive Pick : List As → As → List As → Prop
  | here {A : As} {r : List As} : Pick (A :: r) A r
  | there {A B : As} {l r : List As} : Pick l A r → Pick (B :: l) A (B :: r)
theorem Pick.mem {l r : List As} {A : As} (p : Pick l A r) : A ∈ l := by
  induction p with
  | here => exact List.mem_cons_self
  | there _ ih => exact List.mem_cons_of_mem _ ih
theorem All2.pick {H : Hp} {l r : List As} {A : As} (p : Pick l A r) : ∀ {fps : List (List Addr)}, All2 H l fps → ∃ fp rest, A.P H fp ∧ All2 H r rest ∧ (fp ++ rest.flatten).Perm fps.flatten := by
  induction p with
  | here =>
    intro fps h
    cases h with
    | cons h t => exact ⟨_, _, h, t, by simp⟩
  | there p ih =>
    intro fps h
    cases h with
    | @cons B l f fs h t =>
      obtain ⟨fp, rest, h1, h2, h3⟩ := ih t
      refine ⟨fp, f :: rest, h1, .cons h h2, ?_⟩
      rw [List.flatten_cons, List.flatten_cons]
      calc
        (fp ++ (f ++ rest.flatten)).Perm (f ++ (fp ++ rest.flatten)) := by
          rw [← List.append_assoc, ← List.append_assoc]
          exact (List.perm_append_comm).append_right _
        _ |>.Perm (f ++ fs.flatten) := h3.append_left _
/-- the state of a body: entered at H0, it may change what stands at M; LO is its own (apart from all else), LB is known besides -/
structure SH (K : PySem.W.Frag) (H0 : Hp) (M : List Addr) (LO LB : List As) (H : Hp) : Prop where
  ex : ExB M H0 H
  tx : TEx H0 H
  own : ∃ fps fbs : List (List Addr), All2 H LO fps ∧ All2 H LB fbs ∧ fps.flatten.Nodup ∧ (∀ a ∈ fps.flatten, (H0 a = none ∨ a ∈ M) ∧ a ∉ fbs.flatten)
section
variable {K : PySem.W.Frag} {H0 H H' : Hp} {M : List Addr} {LO LB LO' LB' : List As} {A B : As}
theorem SH.lb (S : SH K H0 M LO LB H) (m : A ∈ LB) : ∃ fp, A.P H fp := by
  obtain ⟨_, _, _, h, _⟩ := S.own
  obtain ⟨fp, h1, _⟩ := h.mem m
  exact ⟨fp, h1⟩
theorem SH.lo (S : SH K H0 M LO LB H) (m : A ∈ LO) : ∃ fp, A.P H fp := by
  obtain ⟨_, _, h, _, _⟩ := S.own
  obtain ⟨fp, h1, _⟩ := h.mem m
  exact ⟨fp, h1⟩
/-- known, own or not -/
theorem SH.at (S : SH K H0 M LO LB H) (m : A ∈ LO ∨ A ∈ LB) : ∃ fp, A.P H fp := m.elim S.lo S.lb
theorem SH.rd {d : D} {v : V} (S : SH K H0 M LO LB H) (m : dt K d v ∈ LB) : RD K H d v := by
  obtain ⟨_, _, h⟩ := S.lb m
  exact h
theorem SH.start (H : Hp) : SH K H [] [] [] H := ⟨ExB.refl _ _, TEx.refl _, [], [], .nil, .nil, by simp, fun a h => by simp at h⟩
/-- something more is known, that leans on nothing of one's own -/
theorem SH.know {fp : List Addr} (S : SH K H0 M LO LB H) (h : A.P H fp) (hf : ∀ fps, All2 H LO fps → ∀ a ∈ fp, a ∉ fps.flatten) : SH K H0 M LO (A :: LB) H := by
  obtain ⟨fps, fbs, h1, h2, h3, h4⟩ := S.own
  refine ⟨S.ex, S.tx, fps, fp :: fbs, h1, .cons h h2, h3, fun a ha => ⟨(h4 a ha).1, ?_⟩⟩
  rw [List.flatten_cons]
  intro z
  rcases List.mem_append.mp z with z | z
  · exact hf fps h1 a z ha
  · exact (h4 a ha).2 z
theorem SH.data {d : D} {v : V} (S : SH K H0 M LO LB H) (h : RD K H d v) : SH K H0 M LO (dt K d v :: LB) H :=
  S.know (A := dt K d v) (fp := []) ⟨rfl, h⟩ fun _ _ a ha => by simp at ha
/-- at the entry (nothing is one's own) -/
theorem SH.know0 {fp : List Addr} (S : SH K H0 M [] LB H) (h : A.P H fp) : SH K H0 M [] (A :: LB) H :=
  S.know h fun fps q a _ => by cases q; simp
/-- one's own is let go: it is known still -/
theorem SH.freeze (S : SH K H0 M LO LB H) (p : Pick LO A LO') : SH K H0 M LO' (A :: LB) H := by
  obtain ⟨fps, fbs, h1, h2, h3, h4⟩ := S.own
  obtain ⟨fp, rest, q1, q2, q3⟩ := h1.pick p
  have nd := (q3.nodup_iff).mpr h3
  refine ⟨S.ex, S.tx, rest, fp :: fbs, q2, .cons q1 h2, (List.nodup_append.mp nd).2.1, fun a ha => ?_⟩
  have ha' : a ∈ fps.flatten := q3.mem_iff.mp (List.mem_append_right _ ha)
  refine ⟨(h4 a ha').1, ?_⟩
  rw [List.flatten_cons]
  intro z
  rcases List.mem_append.mp z with z | z
  · exact (List.nodup_append.mp nd).2.2 a z a ha rfl
  · exact (h4 a ha').2 z
/-- less is told -/
theorem SH.dropB (S : SH K H0 M LO LB H) (h : ∀ A ∈ LB', A ∈ LB) : SH K H0 M LO LB' H := by
  obtain ⟨fps, fbs, h1, h2, h3, h4⟩ := S.own
  have key : ∀ l : List As, (∀ A ∈ l, A ∈ LB) → ∃ gs, All2 H l gs ∧ ∀ a ∈ gs.flatten, a ∈ fbs.flatten := by
    intro l
    induction l with
    | nil => exact fun _ => ⟨[], .nil, fun a ha => by simp at ha⟩
    | cons B l ih =>
      intro hl
      obtain ⟨gs, g1, g2⟩ := ih fun A hA => hl A (List.mem_cons_of_mem _ hA)
      obtain ⟨fp, e1, e2⟩ := h2.mem (hl B List.mem_cons_self)
      refine ⟨fp :: gs, .cons e1 g1, fun a ha => ?_⟩
      rw [List.flatten_cons] at ha
      rcases List.mem_append.mp ha with z | z
      · exact e2 a z
      · exact g2 a z
  obtain ⟨gs, g1, g2⟩ := key LB' h
  exact ⟨S.ex, S.tx, fps, gs, h1, g1, h3, fun a ha => ⟨(h4 a ha).1, fun z => (h4 a ha).2 (g2 a z)⟩⟩
theorem SH.drop (S : SH K H0 M LO LB H) (p : Pick LO A LO') : SH K H0 M LO' LB H := (S.freeze p).dropB fun _ h => List.mem_cons_of_mem _ h
theorem SH.front (S : SH K H0 M LO LB H) (p : Pick LO A LO') : SH K H0 M (A :: LO') LB H := by
  obtain ⟨fps, fbs, h1, h2, h3, h4⟩ := S.own
  obtain ⟨fp, rest, q1, q2, q3⟩ := h1.pick p
  refine ⟨S.ex, S.tx, fp :: rest, fbs, .cons q1 q2, h2, ?_, fun a ha => ?_⟩
  · rw [List.flatten_cons]; exact (q3.nodup_iff).mpr h3
  · rw [List.flatten_cons] at ha; exact h4 a (q3.mem_iff.mp ha)
/-- a row of the first list within the second -/
inductive Sub : List As → List As → Prop
  | nil {l : List As} : Sub [] l
  | cons {A : As} {k l r : List As} : Pick l A r → Sub k r → Sub (A :: k) l
theorem SH.sub (h : Sub LO' LO) (S : SH K H0 M LO LB H) : SH K H0 M LO' LB H := by
  obtain ⟨fps, fbs, h1, h2, h3, h4⟩ := S.own
  have key : ∀ {k l : List As}, Sub k l → ∀ fps : List (List Addr), All2 H l fps → fps.flatten.Nodup → ∃ gs, All2 H k gs ∧ gs.flatten.Nodup ∧ ∀ a ∈ gs.flatten, a ∈ fps.flatten := by
    intro k l s
    induction s with
    | nil => exact fun fps _ _ => ⟨[], .nil, by simp, fun a ha => by simp at ha⟩
    | cons p _ ih =>
      intro fps q nd
      obtain ⟨fp, rest, q1, q2, q3⟩ := q.pick p
      have nd' := (q3.nodup_iff).mpr nd
      obtain ⟨n1, n2, n3⟩ := List.nodup_append.mp nd'
      obtain ⟨gs, g1, g2, g3⟩ := ih rest q2 n2
      refine ⟨fp :: gs, .cons q1 g1, ?_, fun a ha => ?_⟩
      · rw [List.flatten_cons]
        exact List.nodup_append.mpr ⟨n1, g2, fun a ha b hb => n3 a ha b (g3 b hb)⟩
      · rw [List.flatten_cons] at ha
        rcases List.mem_append.mp ha with z | z
        · exact q3.mem_iff.mp (List.mem_append_left _ z)
        · exact q3.mem_iff.mp (List.mem_append_right _ (g3 a z))
  obtain ⟨gs, g1, g2, g3⟩ := key h fps h1 h3
  exact ⟨S.ex, S.tx, gs, fbs, g1, h2, g2, fun a ha => h4 a (g3 a ha)⟩
/-- a change of heap in which the objects of fp (own things A) may have become others -/
theorem SH.step (S : SH K H0 M LO LB H) (p : Pick LO A LO') (h : ∀ fp, A.P H fp → (∀ a ∈ fp, H0 a = none ∨ a ∈ M) → fp.Nodup →
      ExB fp H H' ∧ TEx H H' ∧ ∃ fp', B.P H' fp' ∧ fp'.Nodup ∧ ∀ a ∈ fp', a ∈ fp ∨ H a = none) : SH K H0 M (B :: LO') LB H' := by
  obtain ⟨fps, fbs, h1, h2, h3, h4⟩ := S.own
  obtain ⟨fp, rest, q1, q2, q3⟩ := h1.pick p
  have nd := (q3.nodup_iff).mpr h3
  obtain ⟨n1, n2, n3⟩ := List.nodup_append.mp nd
  have inF : ∀ a ∈ fp, a ∈ fps.flatten := fun a ha => q3.mem_iff.mp (List.mem_append_left _ ha)
  have inR : ∀ a ∈ rest.flatten, a ∈ fps.flatten := fun a ha => q3.mem_iff.mp (List.mem_append_right _ ha)
  obtain ⟨e, t, fp', b1, b2, b3⟩ := h fp q1 (fun a ha => (h4 a (inF a ha)).1) n1
  have keepR : ∀ a ∈ rest.flatten, H' a = H a := fun a ha => by
    obtain ⟨o, ho⟩ := q2.there a ha
    rw [ho]
    exact e a o (fun z => n3 a z a ha rfl) ho
  have keepB : ∀ a ∈ fbs.flatten, H' a = H a := fun a ha => by
    obtain ⟨o, ho⟩ := h2.there a ha
    rw [ho]
    exact e a o (fun z => (h4 a (inF a z)).2 ha) ho
  refine ⟨fun a o na ho => ?_, S.tx.trans t, fp' :: rest, fbs, .cons b1 (q2.loc t keepR), h2.loc t keepB, ?_, fun a ha => ?_⟩
  · refine e a o (fun z => ?_) (S.ex a o na ho)
    rcases (h4 a (inF a z)).1 with w | w
    · rw [ho] at w; cases w
    · exact na w
  · rw [List.flatten_cons]
    refine List.nodup_append.mpr ⟨b2, n2, fun a ha b hb e => ?_⟩
    subst e
    rcases b3 a ha with z | z
    · exact n3 a z a hb rfl
    · obtain ⟨o, ho⟩ := q2.there a hb
      rw [ho] at z; cases z
  · rw [List.flatten_cons] at ha
    rcases List.mem_append.mp ha with z | z
    · rcases b3 a z with w | w
      · exact h4 a (inF a w)
      · refine ⟨?_, fun y => ?_⟩
        · cases q : H0 a with
          | none => exact .inl rfl
          | some o =>
            by_cases hm : a ∈ M
            · exact .inr hm
            · have := S.ex a o hm q
              rw [w] at this; cases this
        · obtain ⟨o, ho⟩ := h2.there a y
          rw [w] at ho; cases ho
    · exact h4 a (inR a z)
/-- the heap grows; what grew is one's own -/
theorem SH.grow {fp : List Addr} (S : SH K H0 M LO LB H) (e : Ex H H') (h : A.P H' fp) (nd : fp.Nodup) (nw : ∀ a ∈ fp, H a = none) : SH K H0 M (A :: LO) LB H' := by
  have S1 : SH K H0 M (pur True :: LO) LB H := by
    obtain ⟨fps, fbs, h1, h2, h3, h4⟩ := S.own
    exact ⟨S.ex, S.tx, [] :: fps, fbs, .cons ⟨rfl, trivial⟩ h1, h2, by simpa using h3, fun a ha => h4 a (by simpa using ha)⟩
  exact S1.step .here fun f hf _ _ => ⟨e.b, e.t, fp, h, nd, fun a ha => .inr (nw a ha)⟩
/-- .. nothing of it matters -/
theorem SH.ext (S : SH K H0 M LO LB H) (e : Ex H H') : SH K H0 M LO LB H' :=
  (S.grow (A := pur True) (fp := []) e ⟨rfl, trivial⟩ (by simp) (fun a ha => by simp at ha)).drop .here
theorem ex_new {p : Addr} {o : HO} (h : H p = none) : Ex H (upd H p o) := fun a u e => by
  rw [upd_ne (ne_of_none e h)]
  exact e
/-- a new object -/
theorem SH.new {p : Addr} {o : HO} (S : SH K H0 M LO LB H) (h : H p = none) : SH K H0 M (pt p o :: LO) LB (upd H p o) :=
  S.grow (A := pt p o) (fp := [p]) (ex_new h) ⟨rfl, upd_same⟩ (by simp) (fun a ha => by simp at ha; rw [ha]; exact h)
/-- a new list of data -/
theorem SH.newL {p : Addr} {xs : List V} {ds : List D} (S : SH K H0 M LO LB H) (h : H p = none) (r : RDs K H ds xs) : SH K H0 M (ls K p ds :: LO) LB (upd H p (.lst xs)) :=
  S.grow (A := ls K p ds) (fp := [p]) (ex_new h) ⟨rfl, xs, upd_same, r.mono (ex_new h).t⟩ (by simp) (fun a ha => by simp at ha; rw [ha]; exact h)
/-- a new tuple of data -/
theorem SH.newT {p : Addr} {xs : List V} {ds : List D} (S : SH K H0 M LO LB H) (h : H p = none) (r : RDs K H ds xs) : SH K H0 M LO (dt K (.tup ds) (.ref p) :: LB) (upd H p (.tup xs)) :=
  (S.ext (ex_new h)).data (.tup (.inl (.inl upd_same)) (r.mono (ex_new h).t))
theorem tex_put {p : Addr} {o o' : HO} (h : H p = some o) (n1 : ∀ xs, o ≠ .tup xs) (n2 : ∀ ob u, o ≠ .frz ob u) : TEx H (upd H p o') := fun a xs r => by
  rcases r with r | ⟨ob, r⟩
  · refine .inl ?_
    rw [upd_ne (ne_of r h (n1 xs).symm)]
    exact r
  · refine .inr ⟨ob, ?_⟩
    rw [upd_ne (ne_of r h (n2 ob _).symm)]
    exact r
/-- an object of one's own becomes another -/
theorem SH.put {p : Addr} {o o' : HO} (S : SH K H0 M LO LB H) (q : Pick LO (pt p o) LO') (n1 : ∀ xs, o ≠ .tup xs := by intro xs z; cases z) (n2 : ∀ ob u, o ≠ .frz ob u := by intro a b z; cases z) : SH K H0 M (pt p o' :: LO') LB (upd H p o') :=
  S.step q fun fp h _ _ => by
    obtain ⟨rfl, h⟩ := h
    refine ⟨fun a u na e => ?_, tex_put h n1 n2, [p], ⟨rfl, upd_same⟩, by simp, fun a ha => .inl ha⟩
    rw [upd_ne (by simpa using na)]
    exact e
/-- a list of one's own becomes another -/
theorem SH.putL {p : Addr} {ds es : List D} {ys : List V} (S : SH K H0 M LO LB H) (q : Pick LO (ls K p ds) LO') (r : RDs K H es ys) : SH K H0 M (ls K p es :: LO') LB (upd H p (.lst ys)) :=
  S.step q fun fp h _ _ => by
    obtain ⟨rfl, xs, h, _⟩ := h
    have t : TEx H (upd H p (.lst ys)) := tex_put h (by intro xs z; cases z) (by intro a b z; cases z)
    refine ⟨fun a u na e => ?_, t, [p], ⟨rfl, ys, upd_same, r.mono t⟩, by simp, fun a ha => .inl ha⟩
    rw [upd_ne (by simpa using na)]
    exact e
theorem SH.getL {p : Addr} {ds : List D} (S : SH K H0 M LO LB H) (m : ls K p ds ∈ LO ∨ ls K p ds ∈ LB) : ∃ xs, H p = some (.lst xs) ∧ RDs K H ds xs := by
  obtain ⟨_, _, h⟩ := S.at m
  exact h
theorem SH.getO {p : Addr} {o : HO} (S : SH K H0 M LO LB H) (m : pt p o ∈ LO ∨ pt p o ∈ LB) : H p = some o := by
  obtain ⟨_, _, h⟩ := S.at m
  exact h
end
end Sl
/-! enumerate over a text and over a tuple. -/
namespace EnX
open PySem
open AutoSeq1 (wpAny_loadPart')
abbrev tIt (l : Addr) : Obj := { cls := .type "tuple_iterator", data := .fields #[.ref l, .int 0 0] }
abbrev eOb (it : Addr) : Obj := { cls := .type "enumerate", data := .fields #[.none, .bool false, .ref it, rawInt 0, .none, .none] }
theorem newT (l : Addr) (items : Array Value) :
    Meets (Builtin.«enumerate.__new__» ⟨[.type "enumerate", .ref l], []⟩) (fun _ R s => s.heap.IsTuple l items ∧
      R (.ok (.ret (.ref (s.heap.push (tIt l)).objs.size)))
        { s with heap := (s.heap.push (tIt l)).push (eOb s.heap.objs.size) }) := by
  refine .of_wp fun prog w A R s h => ?_
  obtain ⟨hp, g, d, tk, os⟩ := s
  obtain ⟨hl, h⟩ := h
  have hsub := sub_enumerate
  have hL : Heap.IsTuple (Shared.heap ⟨hp, g, d, tk, os⟩) l items := hl
  obtain ⟨o0, e0, c0, n0, d0⟩ := id hl
  wp_walk using wpAny_loadPart' e0
  refine wpAny_stack_any fun st => ?_
  refine wpAny_pure ?_
  split
  · rename_i c _ _ _ _ _
    cases (c == Value.type "enumerate") <;>
      (wp_walk using wpAny_loadPart' e0, wpAny_pyIter_tuple hL
       exact ⟨_, rfl, h⟩)
  · wp_walk using wpAny_loadPart' e0, wpAny_pyIter_tuple hL
    exact ⟨_, rfl, h⟩
theorem call_tup {prog : Program} {w : World} {A : Around} {E : Value → Shared → Prop} {s : Shared} {l : Addr} {items : Array Value} {Q : Value → Shared → Prop} (hL : s.heap.IsTuple l items)
    (h : ∀ h', IsEnum h' (s.heap.objs.size + 1) s.heap.objs.size 0 .none → h'.IsTupleIter s.heap.objs.size l 0 →
      (∀ b o, s.heap.get? b = some o → h'.get? b = some o) → Q (.ref (s.heap.objs.size + 1)) { s with heap := h' }) :
    wpAny (model prog w) A (call (.type "enumerate") [.ref l]) Q E s := by
  refine callType_new F.called_enumerate (by decide) (F.typeCall_enumerate_1 _) (F.newCall_enumerate_1 _)
    (fun obj => F.args_object_init_2 obj _) F.entry_enumerate_new (newT l items) ⟨hL, ?_⟩
  have hz : (s.heap.push (tIt l)).objs.size = s.heap.objs.size + 1 := Heap.size_push ..
  show _ ∧ _
  rw [hz]
  have he : IsEnum ((s.heap.push (tIt l)).push (eOb s.heap.objs.size)) (s.heap.objs.size + 1) s.heap.objs.size 0 .none := by
    have q := Heap.get?_push_size (s.heap.push (tIt l)) (o := eOb s.heap.objs.size) rfl
    rw [hz] at q
    exact q
  refine ⟨⟨_, he, rfl⟩, h _ he ?_ fun b o x => ?_⟩
  · exact ⟨_, Heap.get?_push_of_some _ (Heap.get?_push_size _ rfl), rfl, rfl⟩
  · exact Heap.get?_push_of_some _ (Heap.get?_push_of_some _ x)
end EnX
namespace L2
open PySem PySem.Spec
open PyProof.Rows
/-- pairs of a turn's number and a thing, new at each turn -/
def ItP (n : Nat) (Y : Nat → V → Prop) : It where
  go i _ := i < n
  yld i H v H' := ∃ T x, v = .ref T ∧ H T = none ∧ H' = upd H T (.tup [.int (i : Nat), x]) ∧ Y i x
  stop i _ := i = n
/-- the same over a tuple that is read -/
def ItQ (K : PySem.W.Frag) (a : Addr) : It where
  go i H := ∃ (xs : List V) (x : V), SqT K H a xs ∧ xs[i]? = some x
  yld i H v H' := ∃ T x, v = .ref T ∧ H T = none ∧ H' = upd H T (.tup [.int (i : Nat), x]) ∧ ∀ xs, SqT K H a xs → xs[i]? = some x
  stop i H := ∃ xs : List V, SqT K H a xs ∧ i = xs.length
/-- behind a turn of an enumerate: the pair is told -/
theorem enum_told {X : Cx} {pins : List (Addr × Obj)} {σ : St} {H : Hp} {s : Shared} {e it : Addr} {elts : List Expr} {kk : Nat} {tpos : Pos} {i tk : Nat} {x : V} {u : Value} {h' : Heap} {E : Value → Shared → Prop} {tn : Nat → Heap → Prop} {Y : Hp → V → Hp → Prop}
    (I : Inv X pins σ H s) (hf : ∀ b ∈ [e, it], FpOk X pins H b) (hel : e < s.heap.objs.size) (hil : it < s.heap.objs.size) (hne : e ≠ it) (ru : RelV x u)
    (ho : IsEnumOut h' e it ((i : Int) + 1) u s.heap.objs.size) (hT : h'.get? s.heap.objs.size = some { cls := .type "tuple", data := .seq #[.int i tk, u] })
    (hk : ∀ b o, b ≠ e → b ≠ it → s.heap.get? b = some o → h'.get? b = some o)
    (hst : ∀ h'', (∀ b o, b ≠ e → h'.get? b = some o → h''.get? b = some o) → IsEnum h'' e it ((i : Int) + 1) u → tn (i + 1) h'')
    (hy : H s.heap.objs.size = none → Y H (.ref s.heap.objs.size) (upd H s.heap.objs.size (.tup [.int (i : Nat), x]))) :
    wpAny (model X.prog X.w) X.A (letOwnedTupleGo (.Tuple elts kk tpos) (.ref e) (.ref s.heap.objs.size))
      (fun _ s2 => ∃ z H', Inv X pins σ H' s2 ∧ RelV z (.ref s.heap.objs.size) ∧ Y H z H' ∧ tn (i + 1) s2.heap ∧ ∀ b ∈ [e, it], H' b = none) E { s with heap := h', toks := tk + 1 } := by
  refine wpAny_letOwnedTupleGo_enum (s := { s with heap := h', toks := tk + 1 }) ho fun h'' he' sb => ?_
  have nT : ∀ b, b < s.heap.objs.size → b ≠ s.heap.objs.size := fun b hb => Nat.ne_of_lt hb
  have hT2 : h''.get? s.heap.objs.size = some { cls := .type "tuple", data := .seq #[.int i tk, u] } := (sb.2 _ (Nat.ne_of_gt hel)).trans hT
  have new : ObjOk X.prog X.w (upd H s.heap.objs.size (.tup [.int (i : Nat), x])) h'' s.heap.objs.size (.tup [.int (i : Nat), x]) := by
    refine ⟨by show 2 ≤ sizeLine; decide, [.int i tk, u], .cons ⟨_, rfl⟩ (.cons ru .nil), ?_⟩
    exact ⟨_, hT2, rfl, _, rfl⟩
  have I1 : Inv X pins σ (upd H s.heap.objs.size (.tup [.int (i : Nat), x])) { s with heap := h'', toks := tk + 1 } := by
    refine I.turnedNew (ch := [e, it]) (fun b ob hb q => ?_) hf (Nat.le_refl _) new
    have b1 : b ≠ e := fun z => hb (by simp [z])
    have b2 : b ≠ it := fun z => hb (by simp [z])
    exact (sb.2 b b1).trans (hk b ob b1 b2 q)
  refine ⟨.ref s.heap.objs.size, _, I1, rfl, hy (I.hok.fresh (Nat.le_refl _)), ?_, fun b hb => ?_⟩
  · exact hst h'' (fun b o hb q => (sb.2 b hb).trans q) he'
  · have e' : b = e ∨ b = it := by simpa using hb
    have hb' : b < s.heap.objs.size := by
      rcases e' with z | z
      · rw [z]
        exact hel
      · rw [z]
        exact hil
    rw [upd_ne (nT b hb')]
    exact (hf b hb).1
section
variable {P : Program} {w : World} {K : PySem.W.Frag} {elts : List Expr} {kk : Nat} {tpos : Pos}
theorem turn_enumS (e it : Addr) (z : Str) (t : Tok) :
    Turn P w K (.Tuple elts kk tpos) (ItP z.cps.size fun i v => ∃ c, z.cps[i]? = some c ∧ v = .str ⟨#[c]⟩) [e, it] e (fun i h => (∃ old, IsEnum h e it ((i : Nat) : Int) old) ∧ h.IsStrIter it (strIterType z) z t i ∧ e ≠ it) where
  mem := List.mem_cons_self
  obj := by
    intro i h st b hb
    obtain ⟨⟨old, he⟩, ⟨o, ho, hc, hd⟩, _⟩ := st
    rcases (by simpa using hb : b = e ∨ b = it) with y | y
    · rw [y]
      exact ⟨_, he, fun v q => nomatch q⟩
    · rw [y]
      exact ⟨o, ho, fun v q => by rw [hd] at q; cases q⟩
  keep := by
    intro i h h' st k
    obtain ⟨⟨old, he⟩, ⟨o, ho, r⟩, hne⟩ := st
    exact ⟨⟨old, k e (by simp) _ he⟩, ⟨o, k it (by simp) o ho, r⟩, hne⟩
  item := by
    intro X hP hw hK hc i pins s σ H E I hf st hg
    subst hP hw hK
    obtain ⟨⟨old, he⟩, hit, hne⟩ := st
    have hel : e < s.heap.objs.size := Heap.lt_size he
    have hil : it < s.heap.objs.size := by
      obtain ⟨_, q, _⟩ := hit
      exact Heap.lt_size q
    have Dr := Draws.text (prog := X.prog) (w := X.w) (A := X.A.in1) (I.ok.hd hc) it z t
    refine wpAny_pyNext_enum_itemD Dr he hit hg hne (by simpa using hne) fun x h' tk hx ho hit' hT hsz hk => ?_
    obtain ⟨c, u, hcx, rfl⟩ := hx
    refine ⟨_, rfl, ?_⟩
    refine enum_told (tn := fun i h => (∃ old, IsEnum h e it ((i : Nat) : Int) old) ∧ h.IsStrIter it (strIterType z) z t i ∧ e ≠ it) (x := .str ⟨#[c]⟩) I hf hel hil hne ⟨u, rfl⟩ ho hT hk (fun h'' k q => ⟨⟨.str ⟨#[c]⟩ u, ?_⟩, ?_, hne⟩)
      (Y := (ItP z.cps.size fun i v => ∃ c, z.cps[i]? = some c ∧ v = .str ⟨#[c]⟩).yld i) fun n => ⟨_, _, rfl, n, rfl, c, hcx, rfl⟩
    · have e1 : ((i + 1 : Nat) : Int) = (i : Int) + 1 := by omega
      rw [e1]
      exact q
    · obtain ⟨o, q1, q2⟩ := hit'
      exact ⟨o, k it o (Ne.symm hne) q1, q2⟩
  done := by
    intro X hP hw hK hc i pins s σ H E I hf st hg
    subst hP hw hK
    obtain ⟨⟨old, he⟩, hit, hne⟩ := st
    obtain ⟨f0, f1, f2, f3, f4, f5⟩ := hf it (by simp)
    have fin : ∀ h', Heap.ExtBut it s.heap h' → (none : Option Value) = none ∧ Inv X pins σ H { s with heap := h' } := fun h' eb => ⟨rfl, I.turned (t' := s.toks) (fun b o hb q => eb b o hb q) f0 f1 f3 f4 f5⟩
    have Dr := Draws.text (prog := X.prog) (w := X.w) (A := X.A.in1) (I.ok.hd hc) it z t
    have hT : s.TypeIs (.ref e) "enumerate" := ⟨_, he, rfl⟩
    have hi : i = z.cps.size := hg
    subst hi
    exact wpAny_pyNext_enum_endD Dr he hit fin
  self := fun A i s Q E st h => let ⟨⟨_, he⟩, _⟩ := st; wpAny_pyIter_enum he h
theorem turn_enumT (a e it : Addr) :
    Turn P w K (.Tuple elts kk tpos) (ItQ K a) [e, it] e (fun i h => (∃ old, IsEnum h e it ((i : Nat) : Int) old) ∧ h.IsTupleIter it a i ∧ e ≠ it ∧ a ≠ it ∧ a ≠ e) where
  mem := List.mem_cons_self
  obj := by
    intro i h st b hb
    obtain ⟨⟨old, he⟩, ⟨o, ho, hc, hd⟩, _⟩ := st
    rcases (by simpa using hb : b = e ∨ b = it) with y | y
    · rw [y]
      exact ⟨_, he, fun v q => nomatch q⟩
    · rw [y]
      exact ⟨o, ho, fun v q => by rw [hd] at q; cases q⟩
  keep := by
    intro i h h' st k
    obtain ⟨⟨old, he⟩, ⟨o, ho, r⟩, hne⟩ := st
    exact ⟨⟨old, k e (by simp) _ he⟩, ⟨o, k it (by simp) o ho, r⟩, hne⟩
  item := by
    intro X hP hw hK hc i pins s σ H E I hf st hg
    subst hP hw hK
    obtain ⟨⟨old, he⟩, hit, hne, ha1, ha2⟩ := st
    obtain ⟨xs, x, hq, hx⟩ := hg
    obtain ⟨its, rv, p, hz⟩ := I.tuple hq
    obtain ⟨u, hu, ru⟩ := rv.get hx
    have hel : e < s.heap.objs.size := Heap.lt_size he
    have hil : it < s.heap.objs.size := by
      obtain ⟨_, q, _⟩ := hit
      exact Heap.lt_size q
    have Dr := Draws.tuple (prog := X.prog) (w := X.w) (A := X.A.in1) (I.ok.hd hc) it a ha1 its.toArray
    have hi : i < its.toArray.size := by
      have := (List.getElem?_eq_some_iff.mp hu).1
      simpa using this
    refine wpAny_pyNext_enum_itemD Dr he ⟨hit, p⟩ hi hne (by simpa using ⟨hne, Ne.symm ha2⟩) fun y h' tk hy ho hit' hT hsz hk => ?_
    obtain rfl : u = y := by
      have q : its[i]? = some y := by simpa using hy
      rw [hu] at q
      exact Option.some.inj q
    refine ⟨_, rfl, ?_⟩
    refine enum_told (tn := fun i h => (∃ old, IsEnum h e it ((i : Nat) : Int) old) ∧ h.IsTupleIter it a i ∧ e ≠ it ∧ a ≠ it ∧ a ≠ e) (x := x) I hf hel hil hne ru ho hT hk (fun h'' k q => ⟨⟨u, ?_⟩, ?_, hne, ha1, ha2⟩)
      (Y := (ItQ X.K a).yld i) fun n => ⟨_, _, rfl, n, rfl, fun ys hy => ?_⟩
    · have e1 : ((i + 1 : Nat) : Int) = (i : Int) + 1 := by omega
      rw [e1]
      exact q
    · obtain ⟨o, q1, q2⟩ := hit'.1
      exact ⟨o, k it o (Ne.symm hne) q1, q2⟩
    · rw [I.tuple_inj hy hq]
      exact hx
  done := by
    intro X hP hw hK hc i pins s σ H E I hf st hg
    subst hP hw hK
    obtain ⟨⟨old, he⟩, hit, hne, ha1, ha2⟩ := st
    obtain ⟨xs, hq, hi⟩ := hg
    obtain ⟨its, rv, p, hz⟩ := I.tuple hq
    obtain ⟨f0, f1, f2, f3, f4, f5⟩ := hf it (by simp)
    have Dr := Draws.tuple (prog := X.prog) (w := X.w) (A := X.A.in1) (I.ok.hd hc) it a ha1 its.toArray
    have hi2 : i = its.toArray.size := by rw [hi, rv.length]; simp
    subst hi2
    exact wpAny_pyNext_enum_endD Dr he ⟨hit, p⟩ fun h' eb => ⟨rfl, I.turned (t' := s.toks) (fun b o hb q => eb b o hb q) f0 f1 f3 f4 f5⟩
  self := fun A i s Q E st h => let ⟨⟨_, he⟩, _⟩ := st; wpAny_pyIter_enum he h
end
/-- enumerate(a text), enumerate(a tuple) -/
def iEnumS (ta : TA) : TI := fun σ H R => ta σ H fun vs H1 => ∃ z, vs = [.str z] ∧ R (ItP z.cps.size fun i v => ∃ c, z.cps[i]? = some c ∧ v = .str ⟨#[c]⟩) H1
def iEnumT (K : PySem.W.Frag) (ta : TA) : TI := fun σ H R => ta σ H fun vs H1 => ∃ a xs, vs = [.ref a] ∧ SqT K H1 a xs ∧ R (ItQ K a) H1
section
variable {X : Cx} {e : Expr} {ta : TA} {p pos tpos : Pos} {elts : List Expr} {kk : Nat}
theorem new2 {X : Cx} {pins : List (Addr × Obj)} {σ : St} {H H1 : Hp} {s1 : Shared} (I1 : Inv X pins σ H1 s1) : ∀ b ∈ [s1.heap.objs.size + 1, s1.heap.objs.size], FpOk X pins H1 b := by
  intro b hb
  have hle : s1.heap.objs.size ≤ b := by
    rcases (by simpa using hb : b = s1.heap.objs.size + 1 ∨ b = s1.heap.objs.size) with z | z
    · rw [z]
      exact Nat.le_succ _
    · exact Nat.le_of_eq z.symm
  exact I1.fpOk hle (I1.hok.fresh hle)
theorem pi_enumS (hg : Gl X "enumerate") (hm : X.mg "enumerate" = none) (ha : PA X [e] ta) (hs : starEach [e] X.env = [(false, eval e X.env)] := by rfl) :
    PI X (.Tuple elts kk tpos) (.Call (.Name "enumerate" p) [e] [] pos) (iEnumS ta) := by
  refine ⟨fun pins s σ H R I h => ?_⟩
  refine Call_ (ld_blt I hg hm boot_enumerate (PyProof.Rows.callWith_type1 (thn (ha.run pos pins s σ H _ I h) ?_) hs rfl))
  rintro us s1 ⟨vs, H1, I1, r1, z, ex, q⟩
  subst ex
  cases r1 with
  | cons r rr =>
    cases rr
    obtain ⟨t, rfl⟩ := r
    refine call_enumerate_str fun h' he hit hsz hk => wpAny_pyIter_enum he ?_
    have I2 : Inv X pins σ H1 { s1 with heap := h' } := I1.kept (t' := s1.toks) hk
    exact ⟨s1.heap.objs.size + 1, [s1.heap.objs.size + 1, s1.heap.objs.size], _, _, H1, rfl, I2, turn_enumS (s1.heap.objs.size + 1) s1.heap.objs.size z t, ⟨⟨.none, he⟩, hit, Nat.succ_ne_self _⟩, new2 (H := H) I1, q⟩
theorem pi_enumT (hg : Gl X "enumerate") (hm : X.mg "enumerate" = none) (ha : PA X [e] ta) (hs : starEach [e] X.env = [(false, eval e X.env)] := by rfl) :
    PI X (.Tuple elts kk tpos) (.Call (.Name "enumerate" p) [e] [] pos) (iEnumT X.K ta) := by
  refine ⟨fun pins s σ H R I h => ?_⟩
  refine Call_ (ld_blt I hg hm boot_enumerate (PyProof.Rows.callWith_type1 (thn (ha.run pos pins s σ H _ I h) ?_) hs rfl))
  rintro us s1 ⟨vs, H1, I1, r1, a, xs, ex, hq, q⟩
  subst ex
  cases r1 with
  | cons r rr =>
    cases rr
    cases r
    obtain ⟨its, rv, p', hz⟩ := I1.tuple hq
    have al : a < s1.heap.objs.size := by
      obtain ⟨o, ho, _⟩ := p'
      exact Heap.lt_size ho
    refine EnX.call_tup p' fun h' he hit hk => wpAny_pyIter_enum he ?_
    have I2 : Inv X pins σ H1 { s1 with heap := h' } := I1.kept (t' := s1.toks) hk
    exact ⟨s1.heap.objs.size + 1, [s1.heap.objs.size + 1, s1.heap.objs.size], _, _, H1, rfl, I2, turn_enumT a (s1.heap.objs.size + 1) s1.heap.objs.size,
      ⟨⟨.none, he⟩, hit, Nat.succ_ne_self _, Nat.ne_of_lt al, Nat.ne_of_lt (Nat.lt_succ_of_lt al)⟩, new2 (H := H) I1, q⟩
end
section
variable {K : PySem.W.Frag} {a : Addr} {xs : List V}
theorem walk_P {n : Nat} {Y : Nat → V → Prop} : Walk (ItP n Y) n (fun _ => True) (fun i H v H' => ∃ T x, v = .ref T ∧ H T = none ∧ H' = upd H T (.tup [.int (i : Nat), x]) ∧ Y i x) :=
  ⟨fun _ _ hi _ => hi, fun _ _ => rfl, fun _ _ _ _ _ _ y => y⟩
theorem walk_Q : Walk (ItQ K a) xs.length (fun H => SqT K H a xs) (fun i H v H' => ∃ T x, v = .ref T ∧ H T = none ∧ H' = upd H T (.tup [.int (i : Nat), x]) ∧ xs[i]? = some x) := by
  refine ⟨fun i _ hi q => ⟨xs, xs[i], q, by simp [hi]⟩, fun _ q => ⟨xs, q, rfl⟩, ?_⟩
  rintro i H v H' _ q ⟨T, x, h1, h2, h3, h4⟩
  exact ⟨T, x, h1, h2, h3, h4 xs q⟩
end
end L2
/-! Short words for derivations and for readings. -/
namespace Sl
open PySem PySem.Spec
open PyProof.Rows L2
/-! ### defs -/
structure Has (P : Program) (w : World) (K : PySem.W.Frag) (mg : Str → Option Value) (base : Heap) (k : Nat) (f : Addr) (ps : List Str) (sp : Sp) : Prop where
  ex : ∃ fd, FnOk P w K mg base (L2.CX P w) k f fd ps sp ∧ Binds K fd ps []
  kp : PySem.W.keepIn K (.ref f) = true
section
variable {P : Program} {w : World} {K : PySem.W.Frag} {mg : Str → Option Value} {base : Heap} {k j : Nat} {f : Addr} {N ps : List Str} {sp sp' : Sp} {x qual : Str} {params : Arguments} {body : List Stmt} {scope : Scope}
theorem Has.mono (h : Has P w K mg base j f ps sp) (z : j ≤ k) : Has P w K mg base k f ps sp := by
  obtain ⟨⟨fd, a, b⟩, c⟩ := h
  exact ⟨⟨fd, a.mono z, b⟩, c⟩
theorem Has.imp (h : Has P w K mg base k f ps sp) (z : ∀ vs H Q E, sp' vs H Q E → sp vs H Q E) : Has P w K mg base k f ps sp' := by
  obtain ⟨⟨fd, a, b⟩, c⟩ := h
  exact ⟨⟨fd, a.imp z, b⟩, c⟩
abbrev BindsBy (x qual : Str) (params : Arguments) (body : List Stmt) (scope : Scope) (ps : List Str) : Prop :=
  ∀ (kV doc pm : Value) (an : Option Addr) (cdv ct : Value) (us : List Value), us.length = ps.length → bindArgs (PySem.W.fnOf x qual params body scope .none kV doc pm an cdv ct) ⟨us, []⟩ = pure (ps.zip us)
theorem has_of (F : ∃ fd, FunD K x qual params body scope [] [] f fd) (S : FnScope N ps scope) (hb : BindsBy x qual params body scope ps) (len : ∀ vs H Q E, sp vs H Q E → vs.length = ps.length)
    (hbody : ∀ (cdv : Value) (A : Around) (outer : List Env) (s : Shared) (H : Hp) (vs : List V) (Q : VK) (E : XK), Room k (A.deeper (envOfC qual scope s.heap.objs.size f cdv)) → sp vs H Q E →
      ∃ t, PSs (cxOf (L2.CX P w) P w K mg base N qual scope f cdv A outer s H E) body t ∧ t { nx := fun _ H' => Q .non H', rt := Q } (L2.start N vs) H) : Has P w K mg base (k + 1) f ps sp := by
  obtain ⟨fd, F⟩ := F
  exact ⟨⟨fd, F.ok S len hbody, F.bindsN hb⟩, F.kp⟩
end
section
variable {X : Cx} {k : Nat} {f C : Addr} {ps : List Str} {sp : Sp} {E : XK} {x m : Str} {p pos apos : Pos} {e o : Expr} {es : List Expr} {ta : TE} {t : TA}
theorem pcall (h : Has X.prog X.w X.K X.mg X.base k f ps sp) (hr : Room k X.A) (hm : X.mg x = some (.ref f)) (ha : PA X (e :: es) t) (hg : Gl X x := by rfl)
    (hdb : (x == ("__debug__" : Str)) = false := by decide) (he : starEach (e :: es) X.env = (false, eval e X.env) :: starEach es X.env := by rfl) (hpl : (backTo pos (starEach es X.env)).any (·.1) = false := by rfl) :
    PE X (.Call (.Name x p) (e :: es) [] pos) (tCall sp [] E0 t) := by
  obtain ⟨⟨fd, F, b⟩, kp⟩ := h
  exact pe_call F hr hg hm kp b .nil passL ha hdb he hpl
/-- .. that may raise -/
theorem pcallX (h : Has X.prog X.w X.K X.mg X.base k f ps sp) (hr : Room k X.A) (hm : X.mg x = some (.ref f)) (hx : Passes (L2.CX X.prog X.w) X E) (ha : PA X (e :: es) t) (hg : Gl X x := by rfl)
    (hdb : (x == ("__debug__" : Str)) = false := by decide) (he : starEach (e :: es) X.env = (false, eval e X.env) :: starEach es X.env := by rfl) (hpl : (backTo pos (starEach es X.env)).any (·.1) = false := by rfl) :
    PE X (.Call (.Name x p) (e :: es) [] pos) (tCall sp [] E t) := by
  obtain ⟨⟨fd, F, b⟩, kp⟩ := h
  exact pe_call F hr hg hm kp b .nil hx ha hdb he hpl
/-- .. in a try's body -/
theorem pcallS {E : L2.St → XK} (h : Has X.prog X.w X.K X.mg X.base k f ps sp) (hr : Room k X.A) (hm : X.mg x = some (.ref f)) (hx : ∀ σ, PassesAt (L2.CX X.prog X.w) X σ (E σ)) (ha : PA X (e :: es) t) (hg : Gl X x := by rfl)
    (hdb : (x == ("__debug__" : Str)) = false := by decide) (he : starEach (e :: es) X.env = (false, eval e X.env) :: starEach es X.env := by rfl) (hpl : (backTo pos (starEach es X.env)).any (·.1) = false := by rfl) :
    PE X (.Call (.Name x p) (e :: es) [] pos) (tCallS sp E t) := by
  obtain ⟨⟨fd, F, b⟩, kp⟩ := h
  exact pe_callS F hr hg hm kp b hx ha hdb he hpl
theorem pmeth (h : Has X.prog X.w X.K X.mg X.base k f ps sp) (c : Cls X.K C) (hm : Meth X.K C m f) (hr : Room k X.A) (hx : Passes (L2.CX X.prog X.w) X E) (he : PE X o ta) (ha : PA X (e :: es) t) {pl : Sem Bool}
    (hst : starEach (e :: es) X.env = (false, eval e X.env) :: starEach es X.env := by rfl) (hpl : (backTo pos (starEach es X.env)).any (·.1) = false := by rfl)
    (ht : eval (.Call (.Attribute o m apos) (e :: es) [] pos) X.env = (do
      let ov ← eval o X.env
      standAt apos.atName
      let r ← holding [ov] (getMethod ov m pl)
      callWith pos r.1 r.2 (backTo pos (starEach (e :: es) X.env)) (backToKw pos (keywordEach [] X.env))) := by rfl) :
    PE X (.Call (.Attribute o m apos) (e :: es) [] pos) (tMeth C m sp [] E ta t) := by
  obtain ⟨⟨fd, F, b⟩, kp⟩ := h
  exact pe_meth he c hm F hr b .nil hx ha hst hpl ht
theorem pmeth0 (h : Has X.prog X.w X.K X.mg X.base k f ps sp) (c : Cls X.K C) (hm : Meth X.K C m f) (hr : Room k X.A) (hx : Passes (L2.CX X.prog X.w) X E) (he : PE X o ta) {pl : Sem Bool}
    (ht : eval (.Call (.Attribute o m apos) [] [] pos) X.env = (do
      let ov ← eval o X.env
      standAt apos.atName
      let r ← holding [ov] (getMethod ov m pl)
      callWith pos r.1 r.2 (backTo pos (starEach [] X.env)) (backToKw pos (keywordEach [] X.env))) := by rfl) :
    PE X (.Call (.Attribute o m apos) [] [] pos) (tMeth C m sp [] E ta tNil) := by
  obtain ⟨⟨fd, F, b⟩, kp⟩ := h
  exact pe_meth0 he c hm F hr b .nil hx ht
theorem pmake (h : Has X.prog X.w X.K X.mg X.base k f ps sp) (M : Mk X.K C f) (hr : Room (k + 1) X.A) (hm : X.mg x = some (.ref C)) (hx : Passes (L2.CX X.prog X.w) X E) (ha : PA X (e :: es) t) (hg : Gl X x := by rfl)
    (hdb : (x == ("__debug__" : Str)) = false := by decide) (he : starEach (e :: es) X.env = (false, eval e X.env) :: starEach es X.env := by rfl) (hpl : (backTo pos (starEach es X.env)).any (·.1) = false := by rfl) :
    PE X (.Call (.Name x p) (e :: es) [] pos) (tMake C sp [] E t) := by
  obtain ⟨⟨fd, F, b⟩, kp⟩ := h
  exact pe_make M F hr hg hm b .nil hx ha hdb he hpl
/-- an own exception is raised -/
theorem praise {W : WX} {pos2 : Pos} {ta : TA} (h : Has X.prog X.w X.K X.mg X.base k f ps sp) (hc : X.calm = true) (tk : Takes X W) (T : OexC X.K C) (iC : PySem.W.findIn X.K (.ref C) "__init__" = some (some (.ref f))) (tI : PySem.W.typeIn X.K (.ref f) = some (.type "function"))
    (hr : Room (k + 1) X.A) (hm : X.mg x = some (.ref C)) (ha : PA X (e :: es) ta) (hg : Gl X x := by rfl)
    (hdb : (x == ("__debug__" : Str)) = false := by decide) (he : starEach (e :: es) X.env = (false, eval e X.env) :: starEach es X.env := by rfl) (hpl : (backTo pos (starEach es X.env)).any (·.1) = false := by rfl) :
    PS X (.Raise (some (.Call (.Name x p) (e :: es) [] pos)) none pos2) (fun _ σ H => tMkO C sp [] ta σ H fun cls d H' => W cls d σ H') := by
  obtain ⟨⟨fd, F, b⟩, kp⟩ := h
  exact ps_raise hc tk (pmk_oex T iC tI F hr b .nil passL hg hm ha hdb he hpl)
end
/-! ### operators, by names -/
def rAddI : R2 := fun x y H Q => ∃ i j, x = .int i ∧ y = .int j ∧ Q (.int (i + j)) H
def rSubI : R2 := fun x y H Q => ∃ i j, x = .int i ∧ y = .int j ∧ Q (.int (i - j)) H
def rMulI : R2 := fun x y H Q => ∃ i j, x = .int i ∧ y = .int j ∧ CMul i j ∧ Q (.int (i * j)) H
def rModI : R2 := fun x y H Q => ∃ i j, x = .int i ∧ y = .int j ∧ 0 < j ∧ Q (.int (i % j)) H
def rDivI : R2 := fun x y H Q => ∃ i j, x = .int i ∧ y = .int j ∧ CDiv i j ∧ Q (.int (i / j)) H
def rPowI : R2 := fun x y H Q => ∃ i j, x = .int i ∧ y = .int j ∧ CPow i j ∧ Q (.int (i ^ j.toNat)) H
def rLtI : R2 := fun x y H Q => ∃ i j, x = .int i ∧ y = .int j ∧ Q (.bl (decide (i < j))) H
def rLeI : R2 := fun x y H Q => ∃ i j, x = .int i ∧ y = .int j ∧ Q (.bl (decide (i ≤ j))) H
def rGtI : R2 := fun x y H Q => ∃ i j, x = .int i ∧ y = .int j ∧ Q (.bl (decide (j < i))) H
def rGeI : R2 := fun x y H Q => ∃ i j, x = .int i ∧ y = .int j ∧ Q (.bl (decide (j ≤ i))) H
def rAddS : R2 := fun x y H Q => ∃ i j, x = .str i ∧ y = .str j ∧ i.length + j.length ≤ sizeLine ∧ Q (.str (i ++ j)) H
def rIsNo : R2 := fun x y H Q => y = .non ∧ Q (.bl (decide (x = .non))) H
def rNoNo : R2 := fun x y H Q => y = .non ∧ Q (.bl (!decide (x = .non))) H
def rInSg : R2 := fun x y H Q => ∃ (c : Nat) (z : Str), x = .str ⟨#[c]⟩ ∧ y = .str z ∧ Q (.bl (decide (c ∈ z.cps.toList))) H
def rNiSg : R2 := fun x y H Q => ∃ (c : Nat) (z : Str), x = .str ⟨#[c]⟩ ∧ y = .str z ∧ Q (.bl (!decide (c ∈ z.cps.toList))) H
def rRepS : R2 := fun x y H Q => ∃ (z : Str) (k : Int), x = .str z ∧ y = .int k ∧ 2 ≤ k ∧ k ≤ 1000 ∧ z.length ≤ 1000 ∧ 1 ≤ z.length ∧ Q (.str ⟨((List.replicate k.toNat z.cps.toList).flatten).toArray⟩) H
section
variable {X : Cx}
theorem oAddI : OpR X (binaryOp .Add) rAddI := op_add
theorem oSubI : OpR X (binaryOp .Sub) rSubI := op_sub
theorem oMulI : OpR X (binaryOp .Mult) rMulI := op_mul
theorem oModI : OpR X (binaryOp .Mod) rModI := op_mod
theorem oDivI : OpR X (binaryOp .FloorDiv) rDivI := op_fdiv
theorem oPowI : OpR X (binaryOp .Pow) rPowI := op_pow
theorem oLtI : OpR X (compareOp .Lt) rLtI := op_lt
theorem oLeI : OpR X (compareOp .LtE) rLeI := op_le
theorem oGtI : OpR X (compareOp .Gt) rGtI := op_gt
theorem oGeI : OpR X (compareOp .GtE) rGeI := op_ge
theorem oAddS : OpR X (binaryOp .Add) rAddS := op_add_str
theorem oIsNo : OpR X (compareOp .Is) rIsNo := op_isN
theorem oNoNo : OpR X (compareOp .IsNot) rNoNo := op_notN
theorem oInSg : OpR X (compareOp .In) rInSg := op_in_sign
theorem oNiSg : OpR X (compareOp .NotIn) rNiSg := op_notIn_sign
theorem foldl_app {α : Type} (z : Array α) : ∀ (n : Nat) (acc : Array α), (List.replicate n z).foldl (· ++ ·) acc = (acc.toList ++ (List.replicate n z.toList).flatten).toArray
  | 0, acc => by simp
  | n + 1, acc => by
    rw [List.replicate_succ, List.foldl_cons, foldl_app z n]
    simp [List.replicate_succ]
theorem oRepS : OpR X (binaryOp .Mult) rRepS := by
  intro pins s σ H x y v u Q I rx ry h
  obtain ⟨z, k, rfl, rfl, h1, h2, h3, h4, q⟩ := h
  obtain ⟨t, rfl⟩ := rx
  obtain ⟨t2, rfl⟩ := ry
  have hm : z.length * k.toNat ≤ 1000 * 1000 := Nat.mul_le_mul h3 (by omega)
  have e1 : (k == 1 || z.length == 0) = false := by
    have a : ¬ k = 1 := by omega
    have b : ¬ z.length = 0 := by omega
    simp [a, b]
  refine PySem.P.mul_str ?_ (fun _ _ => ?_) (fun _ _ => ?_) ?_
  · have a : ¬ k < -(2 ^ 63 : Int) := by omega
    have b : ¬ k ≥ 2 ^ 63 := by omega
    rw [decide_eq_false a, decide_eq_false b]
    rfl
  · have c : (1000 : Int) ≤ (2 ^ 63 - 1) / k := by
      refine (Int.le_ediv_iff_mul_le (by omega)).mpr ?_
      omega
    omega
  · show decide (_ > sizeLine) = false
    have c : z.length * k.toNat ≤ sizeLine := Nat.le_trans hm (by decide)
    simpa using c
  · have h0 : ¬ k < 1 := by omega
    rw [if_neg h0, e1]
    simp only [Bool.false_eq_true, if_false]
    have ef : (List.replicate k.toNat z.cps).foldl (· ++ ·) #[] = ((List.replicate k.toNat z.cps.toList).flatten).toArray := by
      rw [foldl_app]
      simp
    rw [ef]
    refine ⟨?_, .str ⟨((List.replicate k.toNat z.cps.toList).flatten).toArray⟩, H, I.tok _, ⟨_, rfl⟩, q⟩
    show ((List.replicate k.toNat z.cps.toList).flatten).toArray.size ≤ sizeLine
    have el : ((List.replicate k.toNat z.cps.toList).flatten).length = k.toNat * z.length := by
      simp [List.length_flatten, Str.length]
    rw [List.size_toArray, el, Nat.mul_comm]
    exact Nat.le_trans hm (by decide)
end
end Sl
namespace K09
open PySem PySem.Spec
open PyProof.Rows L2 Sl
/-- what the top has left -/
structure Tx (K : PySem.W.Frag) (mg : Str → Option Value) : Prop where
  c : He.SaysD fa fn K
  ex : exF K = true
  at_ : ∃ h : Heap, K.In h ∧ h.Ns mainGlobals mg
section
variable {K : PySem.W.Frag} {mg : Str → Option Value} (T : Tx K mg)
include T
abbrev a__wall (K : PySem.W.Frag) : Addr := He.fAd K ("_wall", none)
theorem f__wall : ∃ fd, FunD K "_wall" "_wall" (defArgs s__wall) (defBody s__wall) (defScope s__wall) [] [] (a__wall K) fd := T.c.def_ 0 (d := d__wall) rfl
theorem z__wall : FnScope n__wall p__wall (defScope s__wall) := ⟨rfl, rfl, rfl, by decide +kernel, rfl, by decide +kernel, by decide +kernel⟩
theorem b__wall : BindsBy "_wall" "_wall" (defArgs s__wall) (defBody s__wall) (defScope s__wall) p__wall := fun _ _ _ _ _ _ us hl => match us, hl with | [_], _ => rfl
abbrev a_BadArgument_init (K : PySem.W.Frag) : Addr := He.fAd K ("BadArgument", some "__init__")
theorem f_BadArgument_init : ∃ fd, FunD K "__init__" "BadArgument.__init__" (defArgs s_BadArgument_init) (defBody s_BadArgument_init) (defScope s_BadArgument_init) [] [] (a_BadArgument_init K) fd := T.c.def_ 1 (d := d_BadArgument_init) rfl
theorem z_BadArgument_init : FnScope n_BadArgument_init p_BadArgument_init (defScope s_BadArgument_init) := ⟨rfl, rfl, rfl, by decide +kernel, rfl, by decide +kernel, by decide +kernel⟩
theorem b_BadArgument_init : BindsBy "__init__" "BadArgument.__init__" (defArgs s_BadArgument_init) (defBody s_BadArgument_init) (defScope s_BadArgument_init) p_BadArgument_init := fun _ _ _ _ _ _ us hl => match us, hl with | [_, _], _ => rfl
abbrev a_Flaw_init (K : PySem.W.Frag) : Addr := He.fAd K ("Flaw", some "__init__")
theorem f_Flaw_init : ∃ fd, FunD K "__init__" "Flaw.__init__" (defArgs s_Flaw_init) (defBody s_Flaw_init) (defScope s_Flaw_init) [] [] (a_Flaw_init K) fd := T.c.def_ 2 (d := d_Flaw_init) rfl
theorem z_Flaw_init : FnScope n_Flaw_init p_Flaw_init (defScope s_Flaw_init) := ⟨rfl, rfl, rfl, by decide +kernel, rfl, by decide +kernel, by decide +kernel⟩
theorem b_Flaw_init : BindsBy "__init__" "Flaw.__init__" (defArgs s_Flaw_init) (defBody s_Flaw_init) (defScope s_Flaw_init) p_Flaw_init := fun _ _ _ _ _ _ us hl => match us, hl with | [_, _, _], _ => rfl
abbrev a_is_whole (K : PySem.W.Frag) : Addr := He.fAd K ("is_whole", none)
theorem f_is_whole : ∃ fd, FunD K "is_whole" "is_whole" (defArgs s_is_whole) (defBody s_is_whole) (defScope s_is_whole) [] [] (a_is_whole K) fd := T.c.def_ 3 (d := d_is_whole) rfl
theorem z_is_whole : FnScope n_is_whole p_is_whole (defScope s_is_whole) := ⟨rfl, rfl, rfl, by decide +kernel, rfl, by decide +kernel, by decide +kernel⟩
theorem b_is_whole : BindsBy "is_whole" "is_whole" (defArgs s_is_whole) (defBody s_is_whole) (defScope s_is_whole) p_is_whole := fun _ _ _ _ _ _ us hl => match us, hl with | [_, _, _], _ => rfl
abbrev a_is_passage (K : PySem.W.Frag) : Addr := He.fAd K ("is_passage", none)
theorem f_is_passage : ∃ fd, FunD K "is_passage" "is_passage" (defArgs s_is_passage) (defBody s_is_passage) (defScope s_is_passage) [] [] (a_is_passage K) fd := T.c.def_ 4 (d := d_is_passage) rfl
theorem z_is_passage : FnScope n_is_passage p_is_passage (defScope s_is_passage) := ⟨rfl, rfl, rfl, by decide +kernel, rfl, by decide +kernel, by decide +kernel⟩
theorem b_is_passage : BindsBy "is_passage" "is_passage" (defArgs s_is_passage) (defBody s_is_passage) (defScope s_is_passage) p_is_passage := fun _ _ _ _ _ _ us hl => match us, hl with | [_, _], _ => rfl
abbrev a_is_maze (K : PySem.W.Frag) : Addr := He.fAd K ("is_maze", none)
theorem f_is_maze : ∃ fd, FunD K "is_maze" "is_maze" (defArgs s_is_maze) (defBody s_is_maze) (defScope s_is_maze) [] [] (a_is_maze K) fd := T.c.def_ 5 (d := d_is_maze) rfl
theorem z_is_maze : FnScope n_is_maze p_is_maze (defScope s_is_maze) := ⟨rfl, rfl, rfl, by decide +kernel, rfl, by decide +kernel, by decide +kernel⟩
theorem b_is_maze : BindsBy "is_maze" "is_maze" (defArgs s_is_maze) (defBody s_is_maze) (defScope s_is_maze) p_is_maze := fun _ _ _ _ _ _ us hl => match us, hl with | [_], _ => rfl
abbrev a_need (K : PySem.W.Frag) : Addr := He.fAd K ("need", none)
theorem f_need : ∃ fd, FunD K "need" "need" (defArgs s_need) (defBody s_need) (defScope s_need) [] [] (a_need K) fd := T.c.def_ 6 (d := d_need) rfl
theorem z_need : FnScope n_need p_need (defScope s_need) := ⟨rfl, rfl, rfl, by decide +kernel, rfl, by decide +kernel, by decide +kernel⟩
theorem b_need : BindsBy "need" "need" (defArgs s_need) (defBody s_need) (defScope s_need) p_need := fun _ _ _ _ _ _ us hl => match us, hl with | [_, _], _ => rfl
abbrev a_need_maze (K : PySem.W.Frag) : Addr := He.fAd K ("need_maze", none)
theorem f_need_maze : ∃ fd, FunD K "need_maze" "need_maze" (defArgs s_need_maze) (defBody s_need_maze) (defScope s_need_maze) [] [] (a_need_maze K) fd := T.c.def_ 7 (d := d_need_maze) rfl
theorem z_need_maze : FnScope n_need_maze p_need_maze (defScope s_need_maze) := ⟨rfl, rfl, rfl, by decide +kernel, rfl, by decide +kernel, by decide +kernel⟩
theorem b_need_maze : BindsBy "need_maze" "need_maze" (defArgs s_need_maze) (defBody s_need_maze) (defScope s_need_maze) p_need_maze := fun _ _ _ _ _ _ us hl => match us, hl with | [_, _], _ => rfl
abbrev a_need_door (K : PySem.W.Frag) : Addr := He.fAd K ("need_door", none)
theorem f_need_door : ∃ fd, FunD K "need_door" "need_door" (defArgs s_need_door) (defBody s_need_door) (defScope s_need_door) [] [] (a_need_door K) fd := T.c.def_ 8 (d := d_need_door) rfl
theorem z_need_door : FnScope n_need_door p_need_door (defScope s_need_door) := ⟨rfl, rfl, rfl, by decide +kernel, rfl, by decide +kernel, by decide +kernel⟩
theorem b_need_door : BindsBy "need_door" "need_door" (defArgs s_need_door) (defBody s_need_door) (defScope s_need_door) p_need_door := fun _ _ _ _ _ _ us hl => match us, hl with | [_, _, _], _ => rfl
abbrev a_need_kind (K : PySem.W.Frag) : Addr := He.fAd K ("need_kind", none)
theorem f_need_kind : ∃ fd, FunD K "need_kind" "need_kind" (defArgs s_need_kind) (defBody s_need_kind) (defScope s_need_kind) [] [] (a_need_kind K) fd := T.c.def_ 9 (d := d_need_kind) rfl
theorem z_need_kind : FnScope n_need_kind p_need_kind (defScope s_need_kind) := ⟨rfl, rfl, rfl, by decide +kernel, rfl, by decide +kernel, by decide +kernel⟩
theorem b_need_kind : BindsBy "need_kind" "need_kind" (defArgs s_need_kind) (defBody s_need_kind) (defScope s_need_kind) p_need_kind := fun _ _ _ _ _ _ us hl => match us, hl with | [_, _], _ => rfl
abbrev a_Worths_init (K : PySem.W.Frag) : Addr := He.fAd K ("Worths", some "__init__")
theorem f_Worths_init : ∃ fd, FunD K "__init__" "Worths.__init__" (defArgs s_Worths_init) (defBody s_Worths_init) (defScope s_Worths_init) [] [] (a_Worths_init K) fd := T.c.def_ 10 (d := d_Worths_init) rfl
theorem z_Worths_init : FnScope n_Worths_init p_Worths_init (defScope s_Worths_init) := ⟨rfl, rfl, rfl, by decide +kernel, rfl, by decide +kernel, by decide +kernel⟩
theorem b_Worths_init : BindsBy "__init__" "Worths.__init__" (defArgs s_Worths_init) (defBody s_Worths_init) (defScope s_Worths_init) p_Worths_init := fun _ _ _ _ _ _ us hl => match us, hl with | [_, _, _], _ => rfl
abbrev a_Worths_none (K : PySem.W.Frag) : Addr := He.fAd K ("Worths", some "none")
theorem f_Worths_none : ∃ fd, FunD K "none" "Worths.none" (defArgs s_Worths_none) (defBody s_Worths_none) (defScope s_Worths_none) [] [] (a_Worths_none K) fd := T.c.def_ 11 (d := d_Worths_none) rfl
theorem z_Worths_none : FnScope n_Worths_none p_Worths_none (defScope s_Worths_none) := ⟨rfl, rfl, rfl, by decide +kernel, rfl, by decide +kernel, by decide +kernel⟩
theorem b_Worths_none : BindsBy "none" "Worths.none" (defArgs s_Worths_none) (defBody s_Worths_none) (defScope s_Worths_none) p_Worths_none := fun _ _ _ _ _ _ us hl => match us, hl with | [_], _ => rfl
abbrev a_Worths_empty (K : PySem.W.Frag) : Addr := He.fAd K ("Worths", some "empty")
theorem f_Worths_empty : ∃ fd, FunD K "empty" "Worths.empty" (defArgs s_Worths_empty) (defBody s_Worths_empty) (defScope s_Worths_empty) [] [] (a_Worths_empty K) fd := T.c.def_ 12 (d := d_Worths_empty) rfl
theorem z_Worths_empty : FnScope n_Worths_empty p_Worths_empty (defScope s_Worths_empty) := ⟨rfl, rfl, rfl, by decide +kernel, rfl, by decide +kernel, by decide +kernel⟩
theorem b_Worths_empty : BindsBy "empty" "Worths.empty" (defArgs s_Worths_empty) (defBody s_Worths_empty) (defScope s_Worths_empty) p_Worths_empty := fun _ _ _ _ _ _ us hl => match us, hl with | [_], _ => rfl
abbrev a_Worths_passage (K : PySem.W.Frag) : Addr := He.fAd K ("Worths", some "passage")
theorem f_Worths_passage : ∃ fd, FunD K "passage" "Worths.passage" (defArgs s_Worths_passage) (defBody s_Worths_passage) (defScope s_Worths_passage) [] [] (a_Worths_passage K) fd := T.c.def_ 13 (d := d_Worths_passage) rfl
theorem z_Worths_passage : FnScope n_Worths_passage p_Worths_passage (defScope s_Worths_passage) := ⟨rfl, rfl, rfl, by decide +kernel, rfl, by decide +kernel, by decide +kernel⟩
theorem b_Worths_passage : BindsBy "passage" "Worths.passage" (defArgs s_Worths_passage) (defBody s_Worths_passage) (defScope s_Worths_passage) p_Worths_passage := fun _ _ _ _ _ _ us hl => match us, hl with | [_, _, _], _ => rfl
abbrev a_Worths_add (K : PySem.W.Frag) : Addr := He.fAd K ("Worths", some "add")
theorem f_Worths_add : ∃ fd, FunD K "add" "Worths.add" (defArgs s_Worths_add) (defBody s_Worths_add) (defScope s_Worths_add) [] [] (a_Worths_add K) fd := T.c.def_ 14 (d := d_Worths_add) rfl
theorem z_Worths_add : FnScope n_Worths_add p_Worths_add (defScope s_Worths_add) := ⟨rfl, rfl, rfl, by decide +kernel, rfl, by decide +kernel, by decide +kernel⟩
theorem b_Worths_add : BindsBy "add" "Worths.add" (defArgs s_Worths_add) (defBody s_Worths_add) (defScope s_Worths_add) p_Worths_add := fun _ _ _ _ _ _ us hl => match us, hl with | [_, _, _], _ => rfl
abbrev a_Worths_times (K : PySem.W.Frag) : Addr := He.fAd K ("Worths", some "times")
theorem f_Worths_times : ∃ fd, FunD K "times" "Worths.times" (defArgs s_Worths_times) (defBody s_Worths_times) (defScope s_Worths_times) [] [] (a_Worths_times K) fd := T.c.def_ 15 (d := d_Worths_times) rfl
theorem z_Worths_times : FnScope n_Worths_times p_Worths_times (defScope s_Worths_times) := ⟨rfl, rfl, rfl, by decide +kernel, rfl, by decide +kernel, by decide +kernel⟩
theorem b_Worths_times : BindsBy "times" "Worths.times" (defArgs s_Worths_times) (defBody s_Worths_times) (defScope s_Worths_times) p_Worths_times := fun _ _ _ _ _ _ us hl => match us, hl with | [_, _, _], _ => rfl
abbrev a_Worths_again (K : PySem.W.Frag) : Addr := He.fAd K ("Worths", some "again")
theorem f_Worths_again : ∃ fd, FunD K "again" "Worths.again" (defArgs s_Worths_again) (defBody s_Worths_again) (defScope s_Worths_again) [] [] (a_Worths_again K) fd := T.c.def_ 16 (d := d_Worths_again) rfl
theorem z_Worths_again : FnScope n_Worths_again p_Worths_again (defScope s_Worths_again) := ⟨rfl, rfl, rfl, by decide +kernel, rfl, by decide +kernel, by decide +kernel⟩
theorem b_Worths_again : BindsBy "again" "Worths.again" (defArgs s_Worths_again) (defBody s_Worths_again) (defScope s_Worths_again) p_Worths_again := fun _ _ _ _ _ _ us hl => match us, hl with | [_, _], _ => rfl
abbrev a_Part_init (K : PySem.W.Frag) : Addr := He.fAd K ("Part", some "__init__")
theorem f_Part_init : ∃ fd, FunD K "__init__" "Part.__init__" (defArgs s_Part_init) (defBody s_Part_init) (defScope s_Part_init) [] [] (a_Part_init K) fd := T.c.def_ 17 (d := d_Part_init) rfl
theorem z_Part_init : FnScope n_Part_init p_Part_init (defScope s_Part_init) := ⟨rfl, rfl, rfl, by decide +kernel, rfl, by decide +kernel, by decide +kernel⟩
theorem b_Part_init : BindsBy "__init__" "Part.__init__" (defArgs s_Part_init) (defBody s_Part_init) (defScope s_Part_init) p_Part_init := fun _ _ _ _ _ _ us hl => match us, hl with | [_, _, _, _], _ => rfl
abbrev a_Part_without (K : PySem.W.Frag) : Addr := He.fAd K ("Part", some "without")
theorem f_Part_without : ∃ fd, FunD K "without" "Part.without" (defArgs s_Part_without) (defBody s_Part_without) (defScope s_Part_without) [] [] (a_Part_without K) fd := T.c.def_ 18 (d := d_Part_without) rfl
theorem z_Part_without : FnScope n_Part_without p_Part_without (defScope s_Part_without) := ⟨rfl, rfl, rfl, by decide +kernel, rfl, by decide +kernel, by decide +kernel⟩
theorem b_Part_without : BindsBy "without" "Part.without" (defArgs s_Part_without) (defBody s_Part_without) (defScope s_Part_without) p_Part_without := fun _ _ _ _ _ _ us hl => match us, hl with | [_, _], _ => rfl
abbrev a_Part_hidden (K : PySem.W.Frag) : Addr := He.fAd K ("Part", some "hidden")
theorem f_Part_hidden : ∃ fd, FunD K "hidden" "Part.hidden" (defArgs s_Part_hidden) (defBody s_Part_hidden) (defScope s_Part_hidden) [] [] (a_Part_hidden K) fd := T.c.def_ 19 (d := d_Part_hidden) rfl
theorem z_Part_hidden : FnScope n_Part_hidden p_Part_hidden (defScope s_Part_hidden) := ⟨rfl, rfl, rfl, by decide +kernel, rfl, by decide +kernel, by decide +kernel⟩
theorem b_Part_hidden : BindsBy "hidden" "Part.hidden" (defArgs s_Part_hidden) (defBody s_Part_hidden) (defScope s_Part_hidden) p_Part_hidden := fun _ _ _ _ _ _ us hl => match us, hl with | [_, _], _ => rfl
abbrev a_Part_glued (K : PySem.W.Frag) : Addr := He.fAd K ("Part", some "glued")
theorem f_Part_glued : ∃ fd, FunD K "glued" "Part.glued" (defArgs s_Part_glued) (defBody s_Part_glued) (defScope s_Part_glued) [] [] (a_Part_glued K) fd := T.c.def_ 20 (d := d_Part_glued) rfl
theorem z_Part_glued : FnScope n_Part_glued p_Part_glued (defScope s_Part_glued) := ⟨rfl, rfl, rfl, by decide +kernel, rfl, by decide +kernel, by decide +kernel⟩
theorem b_Part_glued : BindsBy "glued" "Part.glued" (defArgs s_Part_glued) (defBody s_Part_glued) (defScope s_Part_glued) p_Part_glued := fun _ _ _ _ _ _ us hl => match us, hl with | [_, _, _], _ => rfl
abbrev a_Part_beside (K : PySem.W.Frag) : Addr := He.fAd K ("Part", some "beside")
theorem f_Part_beside : ∃ fd, FunD K "beside" "Part.beside" (defArgs s_Part_beside) (defBody s_Part_beside) (defScope s_Part_beside) [] [] (a_Part_beside K) fd := T.c.def_ 21 (d := d_Part_beside) rfl
theorem z_Part_beside : FnScope n_Part_beside p_Part_beside (defScope s_Part_beside) := ⟨rfl, rfl, rfl, by decide +kernel, rfl, by decide +kernel, by decide +kernel⟩
theorem b_Part_beside : BindsBy "beside" "Part.beside" (defArgs s_Part_beside) (defBody s_Part_beside) (defScope s_Part_beside) p_Part_beside := fun _ _ _ _ _ _ us hl => match us, hl with | [_, _], _ => rfl
abbrev a_Part_told (K : PySem.W.Frag) : Addr := He.fAd K ("Part", some "told")
theorem f_Part_told : ∃ fd, FunD K "told" "Part.told" (defArgs s_Part_told) (defBody s_Part_told) (defScope s_Part_told) [] [] (a_Part_told K) fd := T.c.def_ 22 (d := d_Part_told) rfl
theorem z_Part_told : FnScope n_Part_told p_Part_told (defScope s_Part_told) := ⟨rfl, rfl, rfl, by decide +kernel, rfl, by decide +kernel, by decide +kernel⟩
theorem b_Part_told : BindsBy "told" "Part.told" (defArgs s_Part_told) (defBody s_Part_told) (defScope s_Part_told) p_Part_told := fun _ _ _ _ _ _ us hl => match us, hl with | [_], _ => rfl
abbrev a_Part_closed (K : PySem.W.Frag) : Addr := He.fAd K ("Part", some "closed")
theorem f_Part_closed : ∃ fd, FunD K "closed" "Part.closed" (defArgs s_Part_closed) (defBody s_Part_closed) (defScope s_Part_closed) [] [] (a_Part_closed K) fd := T.c.def_ 23 (d := d_Part_closed) rfl
theorem z_Part_closed : FnScope n_Part_closed p_Part_closed (defScope s_Part_closed) := ⟨rfl, rfl, rfl, by decide +kernel, rfl, by decide +kernel, by decide +kernel⟩
theorem b_Part_closed : BindsBy "closed" "Part.closed" (defArgs s_Part_closed) (defBody s_Part_closed) (defScope s_Part_closed) p_Part_closed := fun _ _ _ _ _ _ us hl => match us, hl with | [_], _ => rfl
abbrev a_Part_table (K : PySem.W.Frag) : Addr := He.fAd K ("Part", some "table")
theorem f_Part_table : ∃ fd, FunD K "table" "Part.table" (defArgs s_Part_table) (defBody s_Part_table) (defScope s_Part_table) [] [] (a_Part_table K) fd := T.c.def_ 24 (d := d_Part_table) rfl
theorem z_Part_table : FnScope n_Part_table p_Part_table (defScope s_Part_table) := ⟨rfl, rfl, rfl, by decide +kernel, rfl, by decide +kernel, by decide +kernel⟩
theorem b_Part_table : BindsBy "table" "Part.table" (defArgs s_Part_table) (defBody s_Part_table) (defScope s_Part_table) p_Part_table := fun _ _ _ _ _ _ us hl => match us, hl with | [_], _ => rfl
abbrev a_ordered (K : PySem.W.Frag) : Addr := He.fAd K ("ordered", none)
theorem f_ordered : ∃ fd, FunD K "ordered" "ordered" (defArgs s_ordered) (defBody s_ordered) (defScope s_ordered) [] [] (a_ordered K) fd := T.c.def_ 25 (d := d_ordered) rfl
theorem z_ordered : FnScope n_ordered p_ordered (defScope s_ordered) := ⟨rfl, rfl, rfl, by decide +kernel, rfl, by decide +kernel, by decide +kernel⟩
theorem b_ordered : BindsBy "ordered" "ordered" (defArgs s_ordered) (defBody s_ordered) (defScope s_ordered) p_ordered := fun _ _ _ _ _ _ us hl => match us, hl with | [_, _, _], _ => rfl
abbrev a_part (K : PySem.W.Frag) : Addr := He.fAd K ("part", none)
theorem f_part : ∃ fd, FunD K "part" "part" (defArgs s_part) (defBody s_part) (defScope s_part) [] [] (a_part K) fd := T.c.def_ 26 (d := d_part) rfl
theorem z_part : FnScope n_part p_part (defScope s_part) := ⟨rfl, rfl, rfl, by decide +kernel, rfl, by decide +kernel, by decide +kernel⟩
theorem b_part : BindsBy "part" "part" (defArgs s_part) (defBody s_part) (defScope s_part) p_part := fun _ _ _ _ _ _ us hl => match us, hl with | [_, _, _], _ => rfl
abbrev a_part_by (K : PySem.W.Frag) : Addr := He.fAd K ("part_by", none)
theorem f_part_by : ∃ fd, FunD K "part_by" "part_by" (defArgs s_part_by) (defBody s_part_by) (defScope s_part_by) [] [] (a_part_by K) fd := T.c.def_ 27 (d := d_part_by) rfl
theorem z_part_by : FnScope n_part_by p_part_by (defScope s_part_by) := ⟨rfl, rfl, rfl, by decide +kernel, rfl, by decide +kernel, by decide +kernel⟩
theorem b_part_by : BindsBy "part_by" "part_by" (defArgs s_part_by) (defBody s_part_by) (defScope s_part_by) p_part_by := fun _ _ _ _ _ _ us hl => match us, hl with | [_, _], _ => rfl
abbrev a_part_of (K : PySem.W.Frag) : Addr := He.fAd K ("part_of", none)
theorem f_part_of : ∃ fd, FunD K "part_of" "part_of" (defArgs s_part_of) (defBody s_part_of) (defScope s_part_of) [] [] (a_part_of K) fd := T.c.def_ 28 (d := d_part_of) rfl
theorem z_part_of : FnScope n_part_of p_part_of (defScope s_part_of) := ⟨rfl, rfl, rfl, by decide +kernel, rfl, by decide +kernel, by decide +kernel⟩
theorem b_part_of : BindsBy "part_of" "part_of" (defArgs s_part_of) (defBody s_part_of) (defScope s_part_of) p_part_of := fun _ _ _ _ _ _ us hl => match us, hl with | [_, _, _], _ => rfl
abbrev a_table_of (K : PySem.W.Frag) : Addr := He.fAd K ("table_of", none)
theorem f_table_of : ∃ fd, FunD K "table_of" "table_of" (defArgs s_table_of) (defBody s_table_of) (defScope s_table_of) [] [] (a_table_of K) fd := T.c.def_ 29 (d := d_table_of) rfl
theorem z_table_of : FnScope n_table_of p_table_of (defScope s_table_of) := ⟨rfl, rfl, rfl, by decide +kernel, rfl, by decide +kernel, by decide +kernel⟩
theorem b_table_of : BindsBy "table_of" "table_of" (defArgs s_table_of) (defBody s_table_of) (defScope s_table_of) p_table_of := fun _ _ _ _ _ _ us hl => match us, hl with | [_, _, _], _ => rfl
abbrev a_part_over (K : PySem.W.Frag) : Addr := He.fAd K ("part_over", none)
theorem f_part_over : ∃ fd, FunD K "part_over" "part_over" (defArgs s_part_over) (defBody s_part_over) (defScope s_part_over) [] [] (a_part_over K) fd := T.c.def_ 30 (d := d_part_over) rfl
theorem z_part_over : FnScope n_part_over p_part_over (defScope s_part_over) := ⟨rfl, rfl, rfl, by decide +kernel, rfl, by decide +kernel, by decide +kernel⟩
theorem b_part_over : BindsBy "part_over" "part_over" (defArgs s_part_over) (defBody s_part_over) (defScope s_part_over) p_part_over := fun _ _ _ _ _ _ us hl => match us, hl with | [_, _, _], _ => rfl
abbrev a_side_by_side (K : PySem.W.Frag) : Addr := He.fAd K ("side_by_side", none)
theorem f_side_by_side : ∃ fd, FunD K "side_by_side" "side_by_side" (defArgs s_side_by_side) (defBody s_side_by_side) (defScope s_side_by_side) [] [] (a_side_by_side K) fd := T.c.def_ 31 (d := d_side_by_side) rfl
theorem z_side_by_side : FnScope n_side_by_side p_side_by_side (defScope s_side_by_side) := ⟨rfl, rfl, rfl, by decide +kernel, rfl, by decide +kernel, by decide +kernel⟩
theorem b_side_by_side : BindsBy "side_by_side" "side_by_side" (defArgs s_side_by_side) (defBody s_side_by_side) (defScope s_side_by_side) p_side_by_side := fun _ _ _ _ _ _ us hl => match us, hl with | [_, _], _ => rfl
abbrev a_room_behind (K : PySem.W.Frag) : Addr := He.fAd K ("room_behind", none)
theorem f_room_behind : ∃ fd, FunD K "room_behind" "room_behind" (defArgs s_room_behind) (defBody s_room_behind) (defScope s_room_behind) [] [] (a_room_behind K) fd := T.c.def_ 32 (d := d_room_behind) rfl
theorem z_room_behind : FnScope n_room_behind p_room_behind (defScope s_room_behind) := ⟨rfl, rfl, rfl, by decide +kernel, rfl, by decide +kernel, by decide +kernel⟩
theorem b_room_behind : BindsBy "room_behind" "room_behind" (defArgs s_room_behind) (defBody s_room_behind) (defScope s_room_behind) p_room_behind := fun _ _ _ _ _ _ us hl => match us, hl with | [_, _, _], _ => rfl
abbrev a_rooms_glued (K : PySem.W.Frag) : Addr := He.fAd K ("rooms_glued", none)
theorem f_rooms_glued : ∃ fd, FunD K "rooms_glued" "rooms_glued" (defArgs s_rooms_glued) (defBody s_rooms_glued) (defScope s_rooms_glued) [] [] (a_rooms_glued K) fd := T.c.def_ 33 (d := d_rooms_glued) rfl
theorem z_rooms_glued : FnScope n_rooms_glued p_rooms_glued (defScope s_rooms_glued) := ⟨rfl, rfl, rfl, by decide +kernel, rfl, by decide +kernel, by decide +kernel⟩
theorem b_rooms_glued : BindsBy "rooms_glued" "rooms_glued" (defArgs s_rooms_glued) (defBody s_rooms_glued) (defScope s_rooms_glued) p_rooms_glued := fun _ _ _ _ _ _ us hl => match us, hl with | [_, _, _], _ => rfl
abbrev a_joined (K : PySem.W.Frag) : Addr := He.fAd K ("joined", none)
theorem f_joined : ∃ fd, FunD K "joined" "joined" (defArgs s_joined) (defBody s_joined) (defScope s_joined) [] [] (a_joined K) fd := T.c.def_ 34 (d := d_joined) rfl
theorem z_joined : FnScope n_joined p_joined (defScope s_joined) := ⟨rfl, rfl, rfl, by decide +kernel, rfl, by decide +kernel, by decide +kernel⟩
theorem b_joined : BindsBy "joined" "joined" (defArgs s_joined) (defBody s_joined) (defScope s_joined) p_joined := fun _ _ _ _ _ _ us hl => match us, hl with | [_, _, _], _ => rfl
abbrev a_need_two (K : PySem.W.Frag) : Addr := He.fAd K ("need_two", none)
theorem f_need_two : ∃ fd, FunD K "need_two" "need_two" (defArgs s_need_two) (defBody s_need_two) (defScope s_need_two) [] [] (a_need_two K) fd := T.c.def_ 35 (d := d_need_two) rfl
theorem z_need_two : FnScope n_need_two p_need_two (defScope s_need_two) := ⟨rfl, rfl, rfl, by decide +kernel, rfl, by decide +kernel, by decide +kernel⟩
theorem b_need_two : BindsBy "need_two" "need_two" (defArgs s_need_two) (defBody s_need_two) (defScope s_need_two) p_need_two := fun _ _ _ _ _ _ us hl => match us, hl with | [_, _, _, _], _ => rfl
abbrev a_are_alike (K : PySem.W.Frag) : Addr := He.fAd K ("are_alike", none)
theorem f_are_alike : ∃ fd, FunD K "are_alike" "are_alike" (defArgs s_are_alike) (defBody s_are_alike) (defScope s_are_alike) [] [] (a_are_alike K) fd := T.c.def_ 36 (d := d_are_alike) rfl
theorem z_are_alike : FnScope n_are_alike p_are_alike (defScope s_are_alike) := ⟨rfl, rfl, rfl, by decide +kernel, rfl, by decide +kernel, by decide +kernel⟩
theorem b_are_alike : BindsBy "are_alike" "are_alike" (defArgs s_are_alike) (defBody s_are_alike) (defScope s_are_alike) p_are_alike := fun _ _ _ _ _ _ us hl => match us, hl with | [_, _, _, _], _ => rfl
abbrev a_unlike (K : PySem.W.Frag) : Addr := He.fAd K ("unlike", none)
theorem f_unlike : ∃ fd, FunD K "unlike" "unlike" (defArgs s_unlike) (defBody s_unlike) (defScope s_unlike) [] [] (a_unlike K) fd := T.c.def_ 37 (d := d_unlike) rfl
theorem z_unlike : FnScope n_unlike p_unlike (defScope s_unlike) := ⟨rfl, rfl, rfl, by decide +kernel, rfl, by decide +kernel, by decide +kernel⟩
theorem b_unlike : BindsBy "unlike" "unlike" (defArgs s_unlike) (defBody s_unlike) (defScope s_unlike) p_unlike := fun _ _ _ _ _ _ us hl => match us, hl with | [_, _, _], _ => rfl
abbrev a_without (K : PySem.W.Frag) : Addr := He.fAd K ("without", none)
theorem f_without : ∃ fd, FunD K "without" "without" (defArgs s_without) (defBody s_without) (defScope s_without) [] [] (a_without K) fd := T.c.def_ 38 (d := d_without) rfl
theorem z_without : FnScope n_without p_without (defScope s_without) := ⟨rfl, rfl, rfl, by decide +kernel, rfl, by decide +kernel, by decide +kernel⟩
theorem b_without : BindsBy "without" "without" (defArgs s_without) (defBody s_without) (defScope s_without) p_without := fun _ _ _ _ _ _ us hl => match us, hl with | [_, _], _ => rfl
abbrev a_thin (K : PySem.W.Frag) : Addr := He.fAd K ("thin", none)
theorem f_thin : ∃ fd, FunD K "thin" "thin" (defArgs s_thin) (defBody s_thin) (defScope s_thin) [] [] (a_thin K) fd := T.c.def_ 39 (d := d_thin) rfl
theorem z_thin : FnScope n_thin p_thin (defScope s_thin) := ⟨rfl, rfl, rfl, by decide +kernel, rfl, by decide +kernel, by decide +kernel⟩
theorem b_thin : BindsBy "thin" "thin" (defArgs s_thin) (defBody s_thin) (defScope s_thin) p_thin := fun _ _ _ _ _ _ us hl => match us, hl with | [_, _, _], _ => rfl
abbrev a_Reader_init (K : PySem.W.Frag) : Addr := He.fAd K ("Reader", some "__init__")
theorem f_Reader_init : ∃ fd, FunD K "__init__" "Reader.__init__" (defArgs s_Reader_init) (defBody s_Reader_init) (defScope s_Reader_init) [] [] (a_Reader_init K) fd := T.c.def_ 40 (d := d_Reader_init) rfl
theorem z_Reader_init : FnScope n_Reader_init p_Reader_init (defScope s_Reader_init) := ⟨rfl, rfl, rfl, by decide +kernel, rfl, by decide +kernel, by decide +kernel⟩
theorem b_Reader_init : BindsBy "__init__" "Reader.__init__" (defArgs s_Reader_init) (defBody s_Reader_init) (defScope s_Reader_init) p_Reader_init := fun _ _ _ _ _ _ us hl => match us, hl with | [_, _], _ => rfl
abbrev a_Reader_sign (K : PySem.W.Frag) : Addr := He.fAd K ("Reader", some "sign")
theorem f_Reader_sign : ∃ fd, FunD K "sign" "Reader.sign" (defArgs s_Reader_sign) (defBody s_Reader_sign) (defScope s_Reader_sign) [] [] (a_Reader_sign K) fd := T.c.def_ 41 (d := d_Reader_sign) rfl
theorem z_Reader_sign : FnScope n_Reader_sign p_Reader_sign (defScope s_Reader_sign) := ⟨rfl, rfl, rfl, by decide +kernel, rfl, by decide +kernel, by decide +kernel⟩
theorem b_Reader_sign : BindsBy "sign" "Reader.sign" (defArgs s_Reader_sign) (defBody s_Reader_sign) (defScope s_Reader_sign) p_Reader_sign := fun _ _ _ _ _ _ us hl => match us, hl with | [_], _ => rfl
abbrev a_Reader_refuse (K : PySem.W.Frag) : Addr := He.fAd K ("Reader", some "refuse")
theorem f_Reader_refuse : ∃ fd, FunD K "refuse" "Reader.refuse" (defArgs s_Reader_refuse) (defBody s_Reader_refuse) (defScope s_Reader_refuse) [] [] (a_Reader_refuse K) fd := T.c.def_ 42 (d := d_Reader_refuse) rfl
theorem z_Reader_refuse : FnScope n_Reader_refuse p_Reader_refuse (defScope s_Reader_refuse) := ⟨rfl, rfl, rfl, by decide +kernel, rfl, by decide +kernel, by decide +kernel⟩
theorem b_Reader_refuse : BindsBy "refuse" "Reader.refuse" (defArgs s_Reader_refuse) (defBody s_Reader_refuse) (defScope s_Reader_refuse) p_Reader_refuse := fun _ _ _ _ _ _ us hl => match us, hl with | [_, _], _ => rfl
abbrev a_Reader_is_next (K : PySem.W.Frag) : Addr := He.fAd K ("Reader", some "is_next")
theorem f_Reader_is_next : ∃ fd, FunD K "is_next" "Reader.is_next" (defArgs s_Reader_is_next) (defBody s_Reader_is_next) (defScope s_Reader_is_next) [] [] (a_Reader_is_next K) fd := T.c.def_ 43 (d := d_Reader_is_next) rfl
theorem z_Reader_is_next : FnScope n_Reader_is_next p_Reader_is_next (defScope s_Reader_is_next) := ⟨rfl, rfl, rfl, by decide +kernel, rfl, by decide +kernel, by decide +kernel⟩
theorem b_Reader_is_next : BindsBy "is_next" "Reader.is_next" (defArgs s_Reader_is_next) (defBody s_Reader_is_next) (defScope s_Reader_is_next) p_Reader_is_next := fun _ _ _ _ _ _ us hl => match us, hl with | [_, _], _ => rfl
abbrev a_Reader_digit (K : PySem.W.Frag) : Addr := He.fAd K ("Reader", some "digit")
theorem f_Reader_digit : ∃ fd, FunD K "digit" "Reader.digit" (defArgs s_Reader_digit) (defBody s_Reader_digit) (defScope s_Reader_digit) [] [] (a_Reader_digit K) fd := T.c.def_ 44 (d := d_Reader_digit) rfl
theorem z_Reader_digit : FnScope n_Reader_digit p_Reader_digit (defScope s_Reader_digit) := ⟨rfl, rfl, rfl, by decide +kernel, rfl, by decide +kernel, by decide +kernel⟩
theorem b_Reader_digit : BindsBy "digit" "Reader.digit" (defArgs s_Reader_digit) (defBody s_Reader_digit) (defScope s_Reader_digit) p_Reader_digit := fun _ _ _ _ _ _ us hl => match us, hl with | [_], _ => rfl
abbrev a_Reader_nest (K : PySem.W.Frag) : Addr := He.fAd K ("Reader", some "nest")
theorem f_Reader_nest : ∃ fd, FunD K "nest" "Reader.nest" (defArgs s_Reader_nest) (defBody s_Reader_nest) (defScope s_Reader_nest) [] [] (a_Reader_nest K) fd := T.c.def_ 45 (d := d_Reader_nest) rfl
theorem z_Reader_nest : FnScope n_Reader_nest p_Reader_nest (defScope s_Reader_nest) := ⟨rfl, rfl, rfl, by decide +kernel, rfl, by decide +kernel, by decide +kernel⟩
theorem b_Reader_nest : BindsBy "nest" "Reader.nest" (defArgs s_Reader_nest) (defBody s_Reader_nest) (defScope s_Reader_nest) p_Reader_nest := fun _ _ _ _ _ _ us hl => match us, hl with | [_], _ => rfl
abbrev a_Reader_item (K : PySem.W.Frag) : Addr := He.fAd K ("Reader", some "item")
theorem f_Reader_item : ∃ fd, FunD K "item" "Reader.item" (defArgs s_Reader_item) (defBody s_Reader_item) (defScope s_Reader_item) [] [] (a_Reader_item K) fd := T.c.def_ 46 (d := d_Reader_item) rfl
theorem z_Reader_item : FnScope n_Reader_item p_Reader_item (defScope s_Reader_item) := ⟨rfl, rfl, rfl, by decide +kernel, rfl, by decide +kernel, by decide +kernel⟩
theorem b_Reader_item : BindsBy "item" "Reader.item" (defArgs s_Reader_item) (defBody s_Reader_item) (defScope s_Reader_item) p_Reader_item := fun _ _ _ _ _ _ us hl => match us, hl with | [_], _ => rfl
abbrev a_Reader_atom (K : PySem.W.Frag) : Addr := He.fAd K ("Reader", some "atom")
theorem f_Reader_atom : ∃ fd, FunD K "atom" "Reader.atom" (defArgs s_Reader_atom) (defBody s_Reader_atom) (defScope s_Reader_atom) [] [] (a_Reader_atom K) fd := T.c.def_ 47 (d := d_Reader_atom) rfl
theorem z_Reader_atom : FnScope n_Reader_atom p_Reader_atom (defScope s_Reader_atom) := ⟨rfl, rfl, rfl, by decide +kernel, rfl, by decide +kernel, by decide +kernel⟩
theorem b_Reader_atom : BindsBy "atom" "Reader.atom" (defArgs s_Reader_atom) (defBody s_Reader_atom) (defScope s_Reader_atom) p_Reader_atom := fun _ _ _ _ _ _ us hl => match us, hl with | [_], _ => rfl
abbrev a_Reader_ground (K : PySem.W.Frag) : Addr := He.fAd K ("Reader", some "ground")
theorem f_Reader_ground : ∃ fd, FunD K "ground" "Reader.ground" (defArgs s_Reader_ground) (defBody s_Reader_ground) (defScope s_Reader_ground) [] [] (a_Reader_ground K) fd := T.c.def_ 48 (d := d_Reader_ground) rfl
theorem z_Reader_ground : FnScope n_Reader_ground p_Reader_ground (defScope s_Reader_ground) := ⟨rfl, rfl, rfl, by decide +kernel, rfl, by decide +kernel, by decide +kernel⟩
theorem b_Reader_ground : BindsBy "ground" "Reader.ground" (defArgs s_Reader_ground) (defBody s_Reader_ground) (defScope s_Reader_ground) p_Reader_ground := fun _ _ _ _ _ _ us hl => match us, hl with | [_], _ => rfl
abbrev a_is_text (K : PySem.W.Frag) : Addr := He.fAd K ("is_text", none)
theorem f_is_text : ∃ fd, FunD K "is_text" "is_text" (defArgs s_is_text) (defBody s_is_text) (defScope s_is_text) [] [] (a_is_text K) fd := T.c.def_ 49 (d := d_is_text) rfl
theorem z_is_text : FnScope n_is_text p_is_text (defScope s_is_text) := ⟨rfl, rfl, rfl, by decide +kernel, rfl, by decide +kernel, by decide +kernel⟩
theorem b_is_text : BindsBy "is_text" "is_text" (defArgs s_is_text) (defBody s_is_text) (defScope s_is_text) p_is_text := fun _ _ _ _ _ _ us hl => match us, hl with | [_], _ => rfl
abbrev a_tree_of (K : PySem.W.Frag) : Addr := He.fAd K ("tree_of", none)
theorem f_tree_of : ∃ fd, FunD K "tree_of" "tree_of" (defArgs s_tree_of) (defBody s_tree_of) (defScope s_tree_of) [] [] (a_tree_of K) fd := T.c.def_ 50 (d := d_tree_of) rfl
theorem z_tree_of : FnScope n_tree_of p_tree_of (defScope s_tree_of) := ⟨rfl, rfl, rfl, by decide +kernel, rfl, by decide +kernel, by decide +kernel⟩
theorem b_tree_of : BindsBy "tree_of" "tree_of" (defArgs s_tree_of) (defBody s_tree_of) (defScope s_tree_of) p_tree_of := fun _ _ _ _ _ _ us hl => match us, hl with | [_], _ => rfl
abbrev a_flaw (K : PySem.W.Frag) : Addr := He.fAd K ("flaw", none)
theorem f_flaw : ∃ fd, FunD K "flaw" "flaw" (defArgs s_flaw) (defBody s_flaw) (defScope s_flaw) [] [] (a_flaw K) fd := T.c.def_ 51 (d := d_flaw) rfl
theorem z_flaw : FnScope n_flaw p_flaw (defScope s_flaw) := ⟨rfl, rfl, rfl, by decide +kernel, rfl, by decide +kernel, by decide +kernel⟩
theorem b_flaw : BindsBy "flaw" "flaw" (defArgs s_flaw) (defBody s_flaw) (defScope s_flaw) p_flaw := fun _ _ _ _ _ _ us hl => match us, hl with | [_], _ => rfl
abbrev a_Node_init (K : PySem.W.Frag) : Addr := He.fAd K ("Node", some "__init__")
theorem f_Node_init : ∃ fd, FunD K "__init__" "Node.__init__" (defArgs s_Node_init) (defBody s_Node_init) (defScope s_Node_init) [] [] (a_Node_init K) fd := T.c.def_ 52 (d := d_Node_init) rfl
theorem z_Node_init : FnScope n_Node_init p_Node_init (defScope s_Node_init) := ⟨rfl, rfl, rfl, by decide +kernel, rfl, by decide +kernel, by decide +kernel⟩
theorem b_Node_init : BindsBy "__init__" "Node.__init__" (defArgs s_Node_init) (defBody s_Node_init) (defScope s_Node_init) p_Node_init := fun _ _ _ _ _ _ us hl => match us, hl with | [_, _, _, _], _ => rfl
abbrev a_nodes_of (K : PySem.W.Frag) : Addr := He.fAd K ("nodes_of", none)
theorem f_nodes_of : ∃ fd, FunD K "nodes_of" "nodes_of" (defArgs s_nodes_of) (defBody s_nodes_of) (defScope s_nodes_of) [] [] (a_nodes_of K) fd := T.c.def_ 53 (d := d_nodes_of) rfl
theorem z_nodes_of : FnScope n_nodes_of p_nodes_of (defScope s_nodes_of) := ⟨rfl, rfl, rfl, by decide +kernel, rfl, by decide +kernel, by decide +kernel⟩
theorem b_nodes_of : BindsBy "nodes_of" "nodes_of" (defArgs s_nodes_of) (defBody s_nodes_of) (defScope s_nodes_of) p_nodes_of := fun _ _ _ _ _ _ us hl => match us, hl with | [_], _ => rfl
abbrev a_doors_at (K : PySem.W.Frag) : Addr := He.fAd K ("doors_at", none)
theorem f_doors_at : ∃ fd, FunD K "doors_at" "doors_at" (defArgs s_doors_at) (defBody s_doors_at) (defScope s_doors_at) [] [] (a_doors_at K) fd := T.c.def_ 54 (d := d_doors_at) rfl
theorem z_doors_at : FnScope n_doors_at p_doors_at (defScope s_doors_at) := ⟨rfl, rfl, rfl, by decide +kernel, rfl, by decide +kernel, by decide +kernel⟩
theorem b_doors_at : BindsBy "doors_at" "doors_at" (defArgs s_doors_at) (defBody s_doors_at) (defScope s_doors_at) p_doors_at := fun _ _ _ _ _ _ us hl => match us, hl with | [_, _], _ => rfl
abbrev a_Nest_init (K : PySem.W.Frag) : Addr := He.fAd K ("Nest", some "__init__")
theorem f_Nest_init : ∃ fd, FunD K "__init__" "Nest.__init__" (defArgs s_Nest_init) (defBody s_Nest_init) (defScope s_Nest_init) [] [] (a_Nest_init K) fd := T.c.def_ 55 (d := d_Nest_init) rfl
theorem z_Nest_init : FnScope n_Nest_init p_Nest_init (defScope s_Nest_init) := ⟨rfl, rfl, rfl, by decide +kernel, rfl, by decide +kernel, by decide +kernel⟩
theorem b_Nest_init : BindsBy "__init__" "Nest.__init__" (defArgs s_Nest_init) (defBody s_Nest_init) (defScope s_Nest_init) p_Nest_init := fun _ _ _ _ _ _ us hl => match us, hl with | [_, _, _, _, _], _ => rfl
abbrev a_Nest_open_maze (K : PySem.W.Frag) : Addr := He.fAd K ("Nest", some "open_maze")
theorem f_Nest_open_maze : ∃ fd, FunD K "open_maze" "Nest.open_maze" (defArgs s_Nest_open_maze) (defBody s_Nest_open_maze) (defScope s_Nest_open_maze) [] [] (a_Nest_open_maze K) fd := T.c.def_ 56 (d := d_Nest_open_maze) rfl
theorem z_Nest_open_maze : FnScope n_Nest_open_maze p_Nest_open_maze (defScope s_Nest_open_maze) := ⟨rfl, rfl, rfl, by decide +kernel, rfl, by decide +kernel, by decide +kernel⟩
theorem b_Nest_open_maze : BindsBy "open_maze" "Nest.open_maze" (defArgs s_Nest_open_maze) (defBody s_Nest_open_maze) (defScope s_Nest_open_maze) p_Nest_open_maze := fun _ _ _ _ _ _ us hl => match us, hl with | [_, _], _ => rfl
abbrev a_Nest_reckon (K : PySem.W.Frag) : Addr := He.fAd K ("Nest", some "reckon")
theorem f_Nest_reckon : ∃ fd, FunD K "reckon" "Nest.reckon" (defArgs s_Nest_reckon) (defBody s_Nest_reckon) (defScope s_Nest_reckon) [] [] (a_Nest_reckon K) fd := T.c.def_ 57 (d := d_Nest_reckon) rfl
theorem z_Nest_reckon : FnScope n_Nest_reckon p_Nest_reckon (defScope s_Nest_reckon) := ⟨rfl, rfl, rfl, by decide +kernel, rfl, by decide +kernel, by decide +kernel⟩
theorem b_Nest_reckon : BindsBy "reckon" "Nest.reckon" (defArgs s_Nest_reckon) (defBody s_Nest_reckon) (defScope s_Nest_reckon) p_Nest_reckon := fun _ _ _ _ _ _ us hl => match us, hl with | [_, _], _ => rfl
abbrev a_Nest_follow (K : PySem.W.Frag) : Addr := He.fAd K ("Nest", some "follow")
theorem f_Nest_follow : ∃ fd, FunD K "follow" "Nest.follow" (defArgs s_Nest_follow) (defBody s_Nest_follow) (defScope s_Nest_follow) [] [] (a_Nest_follow K) fd := T.c.def_ 58 (d := d_Nest_follow) rfl
theorem z_Nest_follow : FnScope n_Nest_follow p_Nest_follow (defScope s_Nest_follow) := ⟨rfl, rfl, rfl, by decide +kernel, rfl, by decide +kernel, by decide +kernel⟩
theorem b_Nest_follow : BindsBy "follow" "Nest.follow" (defArgs s_Nest_follow) (defBody s_Nest_follow) (defScope s_Nest_follow) p_Nest_follow := fun _ _ _ _ _ _ us hl => match us, hl with | [_, _], _ => rfl
abbrev a_Nest_lay (K : PySem.W.Frag) : Addr := He.fAd K ("Nest", some "lay")
theorem f_Nest_lay : ∃ fd, FunD K "lay" "Nest.lay" (defArgs s_Nest_lay) (defBody s_Nest_lay) (defScope s_Nest_lay) [] [] (a_Nest_lay K) fd := T.c.def_ 59 (d := d_Nest_lay) rfl
theorem z_Nest_lay : FnScope n_Nest_lay p_Nest_lay (defScope s_Nest_lay) := ⟨rfl, rfl, rfl, by decide +kernel, rfl, by decide +kernel, by decide +kernel⟩
theorem b_Nest_lay : BindsBy "lay" "Nest.lay" (defArgs s_Nest_lay) (defBody s_Nest_lay) (defScope s_Nest_lay) p_Nest_lay := fun _ _ _ _ _ _ us hl => match us, hl with | [_, _, _, _], _ => rfl
abbrev a_Nest_need_place (K : PySem.W.Frag) : Addr := He.fAd K ("Nest", some "need_place")
theorem f_Nest_need_place : ∃ fd, FunD K "need_place" "Nest.need_place" (defArgs s_Nest_need_place) (defBody s_Nest_need_place) (defScope s_Nest_need_place) [] [] (a_Nest_need_place K) fd := T.c.def_ 60 (d := d_Nest_need_place) rfl
theorem z_Nest_need_place : FnScope n_Nest_need_place p_Nest_need_place (defScope s_Nest_need_place) := ⟨rfl, rfl, rfl, by decide +kernel, rfl, by decide +kernel, by decide +kernel⟩
theorem b_Nest_need_place : BindsBy "need_place" "Nest.need_place" (defArgs s_Nest_need_place) (defBody s_Nest_need_place) (defScope s_Nest_need_place) p_Nest_need_place := fun _ _ _ _ _ _ us hl => match us, hl with | [_, _, _], _ => rfl
abbrev a_Nest_change (K : PySem.W.Frag) : Addr := He.fAd K ("Nest", some "change")
theorem f_Nest_change : ∃ fd, FunD K "change" "Nest.change" (defArgs s_Nest_change) (defBody s_Nest_change) (defScope s_Nest_change) [] [] (a_Nest_change K) fd := T.c.def_ 61 (d := d_Nest_change) rfl
theorem z_Nest_change : FnScope n_Nest_change p_Nest_change (defScope s_Nest_change) := ⟨rfl, rfl, rfl, by decide +kernel, rfl, by decide +kernel, by decide +kernel⟩
theorem b_Nest_change : BindsBy "change" "Nest.change" (defArgs s_Nest_change) (defBody s_Nest_change) (defScope s_Nest_change) p_Nest_change := fun _ _ _ _ _ _ us hl => match us, hl with | [_, _, _, _], _ => rfl
abbrev a_Nest_shut (K : PySem.W.Frag) : Addr := He.fAd K ("Nest", some "shut")
theorem f_Nest_shut : ∃ fd, FunD K "shut" "Nest.shut" (defArgs s_Nest_shut) (defBody s_Nest_shut) (defScope s_Nest_shut) [] [] (a_Nest_shut K) fd := T.c.def_ 62 (d := d_Nest_shut) rfl
theorem z_Nest_shut : FnScope n_Nest_shut p_Nest_shut (defScope s_Nest_shut) := ⟨rfl, rfl, rfl, by decide +kernel, rfl, by decide +kernel, by decide +kernel⟩
theorem b_Nest_shut : BindsBy "shut" "Nest.shut" (defArgs s_Nest_shut) (defBody s_Nest_shut) (defScope s_Nest_shut) p_Nest_shut := fun _ _ _ _ _ _ us hl => match us, hl with | [_, _, _], _ => rfl
abbrev a_Nest_unshut (K : PySem.W.Frag) : Addr := He.fAd K ("Nest", some "unshut")
theorem f_Nest_unshut : ∃ fd, FunD K "unshut" "Nest.unshut" (defArgs s_Nest_unshut) (defBody s_Nest_unshut) (defScope s_Nest_unshut) [] [] (a_Nest_unshut K) fd := T.c.def_ 63 (d := d_Nest_unshut) rfl
theorem z_Nest_unshut : FnScope n_Nest_unshut p_Nest_unshut (defScope s_Nest_unshut) := ⟨rfl, rfl, rfl, by decide +kernel, rfl, by decide +kernel, by decide +kernel⟩
theorem b_Nest_unshut : BindsBy "unshut" "Nest.unshut" (defArgs s_Nest_unshut) (defBody s_Nest_unshut) (defScope s_Nest_unshut) p_Nest_unshut := fun _ _ _ _ _ _ us hl => match us, hl with | [_, _, _], _ => rfl
abbrev a_Nest_alter (K : PySem.W.Frag) : Addr := He.fAd K ("Nest", some "alter")
theorem f_Nest_alter : ∃ fd, FunD K "alter" "Nest.alter" (defArgs s_Nest_alter) (defBody s_Nest_alter) (defScope s_Nest_alter) [] [] (a_Nest_alter K) fd := T.c.def_ 64 (d := d_Nest_alter) rfl
theorem z_Nest_alter : FnScope n_Nest_alter p_Nest_alter (defScope s_Nest_alter) := ⟨rfl, rfl, rfl, by decide +kernel, rfl, by decide +kernel, by decide +kernel⟩
theorem b_Nest_alter : BindsBy "alter" "Nest.alter" (defArgs s_Nest_alter) (defBody s_Nest_alter) (defScope s_Nest_alter) p_Nest_alter := fun _ _ _ _ _ _ us hl => match us, hl with | [_, _, _, _, _], _ => rfl
abbrev a_Nest_undo (K : PySem.W.Frag) : Addr := He.fAd K ("Nest", some "undo")
theorem f_Nest_undo : ∃ fd, FunD K "undo" "Nest.undo" (defArgs s_Nest_undo) (defBody s_Nest_undo) (defScope s_Nest_undo) [] [] (a_Nest_undo K) fd := T.c.def_ 65 (d := d_Nest_undo) rfl
theorem z_Nest_undo : FnScope n_Nest_undo p_Nest_undo (defScope s_Nest_undo) := ⟨rfl, rfl, rfl, by decide +kernel, rfl, by decide +kernel, by decide +kernel⟩
theorem b_Nest_undo : BindsBy "undo" "Nest.undo" (defArgs s_Nest_undo) (defBody s_Nest_undo) (defScope s_Nest_undo) p_Nest_undo := fun _ _ _ _ _ _ us hl => match us, hl with | [_], _ => rfl
abbrev a_Nest_redo (K : PySem.W.Frag) : Addr := He.fAd K ("Nest", some "redo")
theorem f_Nest_redo : ∃ fd, FunD K "redo" "Nest.redo" (defArgs s_Nest_redo) (defBody s_Nest_redo) (defScope s_Nest_redo) [] [] (a_Nest_redo K) fd := T.c.def_ 66 (d := d_Nest_redo) rfl
theorem z_Nest_redo : FnScope n_Nest_redo p_Nest_redo (defScope s_Nest_redo) := ⟨rfl, rfl, rfl, by decide +kernel, rfl, by decide +kernel, by decide +kernel⟩
theorem b_Nest_redo : BindsBy "redo" "Nest.redo" (defArgs s_Nest_redo) (defBody s_Nest_redo) (defScope s_Nest_redo) p_Nest_redo := fun _ _ _ _ _ _ us hl => match us, hl with | [_], _ => rfl
abbrev a_Nest_table (K : PySem.W.Frag) : Addr := He.fAd K ("Nest", some "table")
theorem f_Nest_table : ∃ fd, FunD K "table" "Nest.table" (defArgs s_Nest_table) (defBody s_Nest_table) (defScope s_Nest_table) [] [] (a_Nest_table K) fd := T.c.def_ 67 (d := d_Nest_table) rfl
theorem z_Nest_table : FnScope n_Nest_table p_Nest_table (defScope s_Nest_table) := ⟨rfl, rfl, rfl, by decide +kernel, rfl, by decide +kernel, by decide +kernel⟩
theorem b_Nest_table : BindsBy "table" "Nest.table" (defArgs s_Nest_table) (defBody s_Nest_table) (defScope s_Nest_table) p_Nest_table := fun _ _ _ _ _ _ us hl => match us, hl with | [_], _ => rfl
abbrev a_Nest_reckoned (K : PySem.W.Frag) : Addr := He.fAd K ("Nest", some "reckoned")
theorem f_Nest_reckoned : ∃ fd, FunD K "reckoned" "Nest.reckoned" (defArgs s_Nest_reckoned) (defBody s_Nest_reckoned) (defScope s_Nest_reckoned) [] [] (a_Nest_reckoned K) fd := T.c.def_ 68 (d := d_Nest_reckoned) rfl
theorem z_Nest_reckoned : FnScope n_Nest_reckoned p_Nest_reckoned (defScope s_Nest_reckoned) := ⟨rfl, rfl, rfl, by decide +kernel, rfl, by decide +kernel, by decide +kernel⟩
theorem b_Nest_reckoned : BindsBy "reckoned" "Nest.reckoned" (defArgs s_Nest_reckoned) (defBody s_Nest_reckoned) (defScope s_Nest_reckoned) p_Nest_reckoned := fun _ _ _ _ _ _ us hl => match us, hl with | [_], _ => rfl
abbrev a_Nest_leaf_maze (K : PySem.W.Frag) : Addr := He.fAd K ("Nest", some "leaf_maze")
theorem f_Nest_leaf_maze : ∃ fd, FunD K "leaf_maze" "Nest.leaf_maze" (defArgs s_Nest_leaf_maze) (defBody s_Nest_leaf_maze) (defScope s_Nest_leaf_maze) [] [] (a_Nest_leaf_maze K) fd := T.c.def_ 69 (d := d_Nest_leaf_maze) rfl
theorem z_Nest_leaf_maze : FnScope n_Nest_leaf_maze p_Nest_leaf_maze (defScope s_Nest_leaf_maze) := ⟨rfl, rfl, rfl, by decide +kernel, rfl, by decide +kernel, by decide +kernel⟩
theorem b_Nest_leaf_maze : BindsBy "leaf_maze" "Nest.leaf_maze" (defArgs s_Nest_leaf_maze) (defBody s_Nest_leaf_maze) (defScope s_Nest_leaf_maze) p_Nest_leaf_maze := fun _ _ _ _ _ _ us hl => match us, hl with | [_, _], _ => rfl
abbrev a_Nest_whole (K : PySem.W.Frag) : Addr := He.fAd K ("Nest", some "whole")
theorem f_Nest_whole : ∃ fd, FunD K "whole" "Nest.whole" (defArgs s_Nest_whole) (defBody s_Nest_whole) (defScope s_Nest_whole) [] [] (a_Nest_whole K) fd := T.c.def_ 70 (d := d_Nest_whole) rfl
theorem z_Nest_whole : FnScope n_Nest_whole p_Nest_whole (defScope s_Nest_whole) := ⟨rfl, rfl, rfl, by decide +kernel, rfl, by decide +kernel, by decide +kernel⟩
theorem b_Nest_whole : BindsBy "whole" "Nest.whole" (defArgs s_Nest_whole) (defBody s_Nest_whole) (defScope s_Nest_whole) p_Nest_whole := fun _ _ _ _ _ _ us hl => match us, hl with | [_], _ => rfl
abbrev a_Nest_joined_at (K : PySem.W.Frag) : Addr := He.fAd K ("Nest", some "joined_at")
theorem f_Nest_joined_at : ∃ fd, FunD K "joined_at" "Nest.joined_at" (defArgs s_Nest_joined_at) (defBody s_Nest_joined_at) (defScope s_Nest_joined_at) [] [] (a_Nest_joined_at K) fd := T.c.def_ 71 (d := d_Nest_joined_at) rfl
theorem z_Nest_joined_at : FnScope n_Nest_joined_at p_Nest_joined_at (defScope s_Nest_joined_at) := ⟨rfl, rfl, rfl, by decide +kernel, rfl, by decide +kernel, by decide +kernel⟩
theorem b_Nest_joined_at : BindsBy "joined_at" "Nest.joined_at" (defArgs s_Nest_joined_at) (defBody s_Nest_joined_at) (defScope s_Nest_joined_at) p_Nest_joined_at := fun _ _ _ _ _ _ us hl => match us, hl with | [_, _], _ => rfl
abbrev a_need_doors (K : PySem.W.Frag) : Addr := He.fAd K ("need_doors", none)
theorem f_need_doors : ∃ fd, FunD K "need_doors" "need_doors" (defArgs s_need_doors) (defBody s_need_doors) (defScope s_need_doors) [] [] (a_need_doors K) fd := T.c.def_ 72 (d := d_need_doors) rfl
theorem z_need_doors : FnScope n_need_doors p_need_doors (defScope s_need_doors) := ⟨rfl, rfl, rfl, by decide +kernel, rfl, by decide +kernel, by decide +kernel⟩
theorem b_need_doors : BindsBy "need_doors" "need_doors" (defArgs s_need_doors) (defBody s_need_doors) (defScope s_need_doors) p_need_doors := fun _ _ _ _ _ _ us hl => match us, hl with | [_, _, _], _ => rfl
abbrev a_least_ways (K : PySem.W.Frag) : Addr := He.fAd K ("least_ways", none)
theorem f_least_ways : ∃ fd, FunD K "least_ways" "least_ways" (defArgs s_least_ways) (defBody s_least_ways) (defScope s_least_ways) [] [] (a_least_ways K) fd := T.c.def_ 73 (d := d_least_ways) rfl
theorem z_least_ways : FnScope n_least_ways p_least_ways (defScope s_least_ways) := ⟨rfl, rfl, rfl, by decide +kernel, rfl, by decide +kernel, by decide +kernel⟩
theorem b_least_ways : BindsBy "least_ways" "least_ways" (defArgs s_least_ways) (defBody s_least_ways) (defScope s_least_ways) p_least_ways := fun _ _ _ _ _ _ us hl => match us, hl with | [_, _], _ => rfl
abbrev a_widest (K : PySem.W.Frag) : Addr := He.fAd K ("widest", none)
theorem f_widest : ∃ fd, FunD K "widest" "widest" (defArgs s_widest) (defBody s_widest) (defScope s_widest) [] [] (a_widest K) fd := T.c.def_ 74 (d := d_widest) rfl
theorem z_widest : FnScope n_widest p_widest (defScope s_widest) := ⟨rfl, rfl, rfl, by decide +kernel, rfl, by decide +kernel, by decide +kernel⟩
theorem b_widest : BindsBy "widest" "widest" (defArgs s_widest) (defBody s_widest) (defScope s_widest) p_widest := fun _ _ _ _ _ _ us hl => match us, hl with | [_, _], _ => rfl
abbrev a_first_way (K : PySem.W.Frag) : Addr := He.fAd K ("first_way", none)
theorem f_first_way : ∃ fd, FunD K "first_way" "first_way" (defArgs s_first_way) (defBody s_first_way) (defScope s_first_way) [] [] (a_first_way K) fd := T.c.def_ 75 (d := d_first_way) rfl
theorem z_first_way : FnScope n_first_way p_first_way (defScope s_first_way) := ⟨rfl, rfl, rfl, by decide +kernel, rfl, by decide +kernel, by decide +kernel⟩
theorem b_first_way : BindsBy "first_way" "first_way" (defArgs s_first_way) (defBody s_first_way) (defScope s_first_way) p_first_way := fun _ _ _ _ _ _ us hl => match us, hl with | [_, _, _], _ => rfl
abbrev a_least_way (K : PySem.W.Frag) : Addr := He.fAd K ("least_way", none)
theorem f_least_way : ∃ fd, FunD K "least_way" "least_way" (defArgs s_least_way) (defBody s_least_way) (defScope s_least_way) [] [] (a_least_way K) fd := T.c.def_ 76 (d := d_least_way) rfl
theorem z_least_way : FnScope n_least_way p_least_way (defScope s_least_way) := ⟨rfl, rfl, rfl, by decide +kernel, rfl, by decide +kernel, by decide +kernel⟩
theorem b_least_way : BindsBy "least_way" "least_way" (defArgs s_least_way) (defBody s_least_way) (defScope s_least_way) p_least_way := fun _ _ _ _ _ _ us hl => match us, hl with | [_, _, _], _ => rfl
abbrev a_wide_way (K : PySem.W.Frag) : Addr := He.fAd K ("wide_way", none)
theorem f_wide_way : ∃ fd, FunD K "wide_way" "wide_way" (defArgs s_wide_way) (defBody s_wide_way) (defScope s_wide_way) [] [] (a_wide_way K) fd := T.c.def_ 77 (d := d_wide_way) rfl
theorem z_wide_way : FnScope n_wide_way p_wide_way (defScope s_wide_way) := ⟨rfl, rfl, rfl, by decide +kernel, rfl, by decide +kernel, by decide +kernel⟩
theorem b_wide_way : BindsBy "wide_way" "wide_way" (defArgs s_wide_way) (defBody s_wide_way) (defScope s_wide_way) p_wide_way := fun _ _ _ _ _ _ us hl => match us, hl with | [_, _, _], _ => rfl
abbrev a_is_way (K : PySem.W.Frag) : Addr := He.fAd K ("is_way", none)
theorem f_is_way : ∃ fd, FunD K "is_way" "is_way" (defArgs s_is_way) (defBody s_is_way) (defScope s_is_way) [] [] (a_is_way K) fd := T.c.def_ 78 (d := d_is_way) rfl
theorem z_is_way : FnScope n_is_way p_is_way (defScope s_is_way) := ⟨rfl, rfl, rfl, by decide +kernel, rfl, by decide +kernel, by decide +kernel⟩
theorem b_is_way : BindsBy "is_way" "is_way" (defArgs s_is_way) (defBody s_is_way) (defScope s_is_way) p_is_way := fun _ _ _ _ _ _ us hl => match us, hl with | [_, _, _, _], _ => rfl
abbrev a_bound (K : PySem.W.Frag) : Addr := He.fAd K ("bound", none)
theorem f_bound : ∃ fd, FunD K "bound" "bound" (defArgs s_bound) (defBody s_bound) (defScope s_bound) [] [] (a_bound K) fd := T.c.def_ 79 (d := d_bound) rfl
theorem z_bound : FnScope n_bound p_bound (defScope s_bound) := ⟨rfl, rfl, rfl, by decide +kernel, rfl, by decide +kernel, by decide +kernel⟩
theorem b_bound : BindsBy "bound" "bound" (defArgs s_bound) (defBody s_bound) (defScope s_bound) p_bound := fun _ _ _ _ _ _ us hl => match us, hl with | [_, _], _ => rfl
abbrev a_is_bound (K : PySem.W.Frag) : Addr := He.fAd K ("is_bound", none)
theorem f_is_bound : ∃ fd, FunD K "is_bound" "is_bound" (defArgs s_is_bound) (defBody s_is_bound) (defScope s_is_bound) [] [] (a_is_bound K) fd := T.c.def_ 80 (d := d_is_bound) rfl
theorem z_is_bound : FnScope n_is_bound p_is_bound (defScope s_is_bound) := ⟨rfl, rfl, rfl, by decide +kernel, rfl, by decide +kernel, by decide +kernel⟩
theorem b_is_bound : BindsBy "is_bound" "is_bound" (defArgs s_is_bound) (defBody s_is_bound) (defScope s_is_bound) p_is_bound := fun _ _ _ _ _ _ us hl => match us, hl with | [_, _, _, _, _], _ => rfl
abbrev a_cut (K : PySem.W.Frag) : Addr := He.fAd K ("cut", none)
theorem f_cut : ∃ fd, FunD K "cut" "cut" (defArgs s_cut) (defBody s_cut) (defScope s_cut) [] [] (a_cut K) fd := T.c.def_ 81 (d := d_cut) rfl
theorem z_cut : FnScope n_cut p_cut (defScope s_cut) := ⟨rfl, rfl, rfl, by decide +kernel, rfl, by decide +kernel, by decide +kernel⟩
theorem b_cut : BindsBy "cut" "cut" (defArgs s_cut) (defBody s_cut) (defScope s_cut) p_cut := fun _ _ _ _ _ _ us hl => match us, hl with | [_, _, _, _], _ => rfl
abbrev a_is_cut (K : PySem.W.Frag) : Addr := He.fAd K ("is_cut", none)
theorem f_is_cut : ∃ fd, FunD K "is_cut" "is_cut" (defArgs s_is_cut) (defBody s_is_cut) (defScope s_is_cut) [] [] (a_is_cut K) fd := T.c.def_ 82 (d := d_is_cut) rfl
theorem z_is_cut : FnScope n_is_cut p_is_cut (defScope s_is_cut) := ⟨rfl, rfl, rfl, by decide +kernel, rfl, by decide +kernel, by decide +kernel⟩
theorem b_is_cut : BindsBy "is_cut" "is_cut" (defArgs s_is_cut) (defBody s_is_cut) (defScope s_is_cut) p_is_cut := fun _ _ _ _ _ _ us hl => match us, hl with | [_, _, _, _, _], _ => rfl
abbrev a__law_taken (K : PySem.W.Frag) : Addr := He.fAd K ("_law_taken", none)
theorem f__law_taken : ∃ fd, FunD K "_law_taken" "_law_taken" (defArgs s__law_taken) (defBody s__law_taken) (defScope s__law_taken) [] [] (a__law_taken K) fd := T.c.def_ 83 (d := d__law_taken) rfl
theorem z__law_taken : FnScope n__law_taken p__law_taken (defScope s__law_taken) := ⟨rfl, rfl, rfl, by decide +kernel, rfl, by decide +kernel, by decide +kernel⟩
theorem b__law_taken : BindsBy "_law_taken" "_law_taken" (defArgs s__law_taken) (defBody s__law_taken) (defScope s__law_taken) p__law_taken := fun _ _ _ _ _ _ us hl => match us, hl with | [_, _], _ => rfl
abbrev a__law_pick (K : PySem.W.Frag) : Addr := He.fAd K ("_law_pick", none)
theorem f__law_pick : ∃ fd, FunD K "_law_pick" "_law_pick" (defArgs s__law_pick) (defBody s__law_pick) (defScope s__law_pick) [] [] (a__law_pick K) fd := T.c.def_ 84 (d := d__law_pick) rfl
theorem z__law_pick : FnScope n__law_pick p__law_pick (defScope s__law_pick) := ⟨rfl, rfl, rfl, by decide +kernel, rfl, by decide +kernel, by decide +kernel⟩
theorem b__law_pick : BindsBy "_law_pick" "_law_pick" (defArgs s__law_pick) (defBody s__law_pick) (defScope s__law_pick) p__law_pick := fun _ _ _ _ _ _ us hl => match us, hl with | [_, _], _ => rfl
abbrev a__law_refused (K : PySem.W.Frag) : Addr := He.fAd K ("_law_refused", none)
theorem f__law_refused : ∃ fd, FunD K "_law_refused" "_law_refused" (defArgs s__law_refused) (defBody s__law_refused) (defScope s__law_refused) [] [] (a__law_refused K) fd := T.c.def_ 85 (d := d__law_refused) rfl
theorem z__law_refused : FnScope n__law_refused p__law_refused (defScope s__law_refused) := ⟨rfl, rfl, rfl, by decide +kernel, rfl, by decide +kernel, by decide +kernel⟩
theorem b__law_refused : BindsBy "_law_refused" "_law_refused" (defArgs s__law_refused) (defBody s__law_refused) (defScope s__law_refused) p__law_refused := fun _ _ _ _ _ _ us hl => match us, hl with | [_], _ => rfl
abbrev a__law_alike (K : PySem.W.Frag) : Addr := He.fAd K ("_law_alike", none)
theorem f__law_alike : ∃ fd, FunD K "_law_alike" "_law_alike" (defArgs s__law_alike) (defBody s__law_alike) (defScope s__law_alike) [] [] (a__law_alike K) fd := T.c.def_ 86 (d := d__law_alike) rfl
theorem z__law_alike : FnScope n__law_alike p__law_alike (defScope s__law_alike) := ⟨rfl, rfl, rfl, by decide +kernel, rfl, by decide +kernel, by decide +kernel⟩
theorem b__law_alike : BindsBy "_law_alike" "_law_alike" (defArgs s__law_alike) (defBody s__law_alike) (defScope s__law_alike) p__law_alike := fun _ _ _ _ _ _ us hl => match us, hl with | [_, _], _ => rfl
abbrev a__law_maze (K : PySem.W.Frag) : Addr := He.fAd K ("_law_maze", none)
theorem f__law_maze : ∃ fd, FunD K "_law_maze" "_law_maze" (defArgs s__law_maze) (defBody s__law_maze) (defScope s__law_maze) [] [] (a__law_maze K) fd := T.c.def_ 87 (d := d__law_maze) rfl
theorem z__law_maze : FnScope n__law_maze p__law_maze (defScope s__law_maze) := ⟨rfl, rfl, rfl, by decide +kernel, rfl, by decide +kernel, by decide +kernel⟩
theorem b__law_maze : BindsBy "_law_maze" "_law_maze" (defArgs s__law_maze) (defBody s__law_maze) (defScope s__law_maze) p__law_maze := fun _ _ _ _ _ _ us hl => match us, hl with | [_, _, _, _], _ => rfl
abbrev a__law_kind (K : PySem.W.Frag) : Addr := He.fAd K ("_law_kind", none)
theorem f__law_kind : ∃ fd, FunD K "_law_kind" "_law_kind" (defArgs s__law_kind) (defBody s__law_kind) (defScope s__law_kind) [] [] (a__law_kind K) fd := T.c.def_ 88 (d := d__law_kind) rfl
theorem z__law_kind : FnScope n__law_kind p__law_kind (defScope s__law_kind) := ⟨rfl, rfl, rfl, by decide +kernel, rfl, by decide +kernel, by decide +kernel⟩
theorem b__law_kind : BindsBy "_law_kind" "_law_kind" (defArgs s__law_kind) (defBody s__law_kind) (defScope s__law_kind) p__law_kind := fun _ _ _ _ _ _ us hl => match us, hl with | [_], _ => rfl
abbrev a__law_pair (K : PySem.W.Frag) : Addr := He.fAd K ("_law_pair", none)
theorem f__law_pair : ∃ fd, FunD K "_law_pair" "_law_pair" (defArgs s__law_pair) (defBody s__law_pair) (defScope s__law_pair) [] [] (a__law_pair K) fd := T.c.def_ 89 (d := d__law_pair) rfl
theorem z__law_pair : FnScope n__law_pair p__law_pair (defScope s__law_pair) := ⟨rfl, rfl, rfl, by decide +kernel, rfl, by decide +kernel, by decide +kernel⟩
theorem b__law_pair : BindsBy "_law_pair" "_law_pair" (defArgs s__law_pair) (defBody s__law_pair) (defScope s__law_pair) p__law_pair := fun _ _ _ _ _ _ us hl => match us, hl with | [_, _, _, _], _ => rfl
abbrev a__law_narrow (K : PySem.W.Frag) : Addr := He.fAd K ("_law_narrow", none)
theorem f__law_narrow : ∃ fd, FunD K "_law_narrow" "_law_narrow" (defArgs s__law_narrow) (defBody s__law_narrow) (defScope s__law_narrow) [] [] (a__law_narrow K) fd := T.c.def_ 90 (d := d__law_narrow) rfl
theorem z__law_narrow : FnScope n__law_narrow p__law_narrow (defScope s__law_narrow) := ⟨rfl, rfl, rfl, by decide +kernel, rfl, by decide +kernel, by decide +kernel⟩
theorem b__law_narrow : BindsBy "_law_narrow" "_law_narrow" (defArgs s__law_narrow) (defBody s__law_narrow) (defScope s__law_narrow) p__law_narrow := fun _ _ _ _ _ _ us hl => match us, hl with | [_, _, _], _ => rfl
abbrev a__law_parts (K : PySem.W.Frag) : Addr := He.fAd K ("_law_parts", none)
theorem f__law_parts : ∃ fd, FunD K "_law_parts" "_law_parts" (defArgs s__law_parts) (defBody s__law_parts) (defScope s__law_parts) [] [] (a__law_parts K) fd := T.c.def_ 91 (d := d__law_parts) rfl
theorem z__law_parts : FnScope n__law_parts p__law_parts (defScope s__law_parts) := ⟨rfl, rfl, rfl, by decide +kernel, rfl, by decide +kernel, by decide +kernel⟩
theorem b__law_parts : BindsBy "_law_parts" "_law_parts" (defArgs s__law_parts) (defBody s__law_parts) (defScope s__law_parts) p__law_parts := fun _ _ _ _ _ _ us hl => match us, hl with | [_, _], _ => rfl
abbrev a_law (K : PySem.W.Frag) : Addr := He.fAd K ("law", none)
theorem f_law : ∃ fd, FunD K "law" "law" (defArgs s_law) (defBody s_law) (defScope s_law) [] [] (a_law K) fd := T.c.def_ 92 (d := d_law) rfl
theorem z_law : FnScope n_law p_law (defScope s_law) := ⟨rfl, rfl, rfl, by decide +kernel, rfl, by decide +kernel, by decide +kernel⟩
theorem b_law : BindsBy "law" "law" (defArgs s_law) (defBody s_law) (defScope s_law) p_law := fun _ _ _ _ _ _ us hl => match us, hl with | [_], _ => rfl
theorem g__wall : mg "_wall" = some (.ref (He.ga K "_wall")) := let ⟨_, a, b⟩ := T.at_; He.glo_ok a b (T.c.fact 0 (f := .glo "_wall") rfl)
theorem g_is_whole : mg "is_whole" = some (.ref (He.ga K "is_whole")) := let ⟨_, a, b⟩ := T.at_; He.glo_ok a b (T.c.fact 1 (f := .glo "is_whole") rfl)
theorem g_is_passage : mg "is_passage" = some (.ref (He.ga K "is_passage")) := let ⟨_, a, b⟩ := T.at_; He.glo_ok a b (T.c.fact 2 (f := .glo "is_passage") rfl)
theorem g_is_maze : mg "is_maze" = some (.ref (He.ga K "is_maze")) := let ⟨_, a, b⟩ := T.at_; He.glo_ok a b (T.c.fact 3 (f := .glo "is_maze") rfl)
theorem g_need : mg "need" = some (.ref (He.ga K "need")) := let ⟨_, a, b⟩ := T.at_; He.glo_ok a b (T.c.fact 4 (f := .glo "need") rfl)
theorem g_need_maze : mg "need_maze" = some (.ref (He.ga K "need_maze")) := let ⟨_, a, b⟩ := T.at_; He.glo_ok a b (T.c.fact 5 (f := .glo "need_maze") rfl)
theorem g_need_door : mg "need_door" = some (.ref (He.ga K "need_door")) := let ⟨_, a, b⟩ := T.at_; He.glo_ok a b (T.c.fact 6 (f := .glo "need_door") rfl)
theorem g_need_kind : mg "need_kind" = some (.ref (He.ga K "need_kind")) := let ⟨_, a, b⟩ := T.at_; He.glo_ok a b (T.c.fact 7 (f := .glo "need_kind") rfl)
theorem g_ordered : mg "ordered" = some (.ref (He.ga K "ordered")) := let ⟨_, a, b⟩ := T.at_; He.glo_ok a b (T.c.fact 8 (f := .glo "ordered") rfl)
theorem g_part : mg "part" = some (.ref (He.ga K "part")) := let ⟨_, a, b⟩ := T.at_; He.glo_ok a b (T.c.fact 9 (f := .glo "part") rfl)
theorem g_part_by : mg "part_by" = some (.ref (He.ga K "part_by")) := let ⟨_, a, b⟩ := T.at_; He.glo_ok a b (T.c.fact 10 (f := .glo "part_by") rfl)
theorem g_part_of : mg "part_of" = some (.ref (He.ga K "part_of")) := let ⟨_, a, b⟩ := T.at_; He.glo_ok a b (T.c.fact 11 (f := .glo "part_of") rfl)
theorem g_table_of : mg "table_of" = some (.ref (He.ga K "table_of")) := let ⟨_, a, b⟩ := T.at_; He.glo_ok a b (T.c.fact 12 (f := .glo "table_of") rfl)
theorem g_part_over : mg "part_over" = some (.ref (He.ga K "part_over")) := let ⟨_, a, b⟩ := T.at_; He.glo_ok a b (T.c.fact 13 (f := .glo "part_over") rfl)
theorem g_side_by_side : mg "side_by_side" = some (.ref (He.ga K "side_by_side")) := let ⟨_, a, b⟩ := T.at_; He.glo_ok a b (T.c.fact 14 (f := .glo "side_by_side") rfl)
theorem g_room_behind : mg "room_behind" = some (.ref (He.ga K "room_behind")) := let ⟨_, a, b⟩ := T.at_; He.glo_ok a b (T.c.fact 15 (f := .glo "room_behind") rfl)
theorem g_rooms_glued : mg "rooms_glued" = some (.ref (He.ga K "rooms_glued")) := let ⟨_, a, b⟩ := T.at_; He.glo_ok a b (T.c.fact 16 (f := .glo "rooms_glued") rfl)
theorem g_joined : mg "joined" = some (.ref (He.ga K "joined")) := let ⟨_, a, b⟩ := T.at_; He.glo_ok a b (T.c.fact 17 (f := .glo "joined") rfl)
theorem g_need_two : mg "need_two" = some (.ref (He.ga K "need_two")) := let ⟨_, a, b⟩ := T.at_; He.glo_ok a b (T.c.fact 18 (f := .glo "need_two") rfl)
theorem g_are_alike : mg "are_alike" = some (.ref (He.ga K "are_alike")) := let ⟨_, a, b⟩ := T.at_; He.glo_ok a b (T.c.fact 19 (f := .glo "are_alike") rfl)
theorem g_unlike : mg "unlike" = some (.ref (He.ga K "unlike")) := let ⟨_, a, b⟩ := T.at_; He.glo_ok a b (T.c.fact 20 (f := .glo "unlike") rfl)
theorem g_without : mg "without" = some (.ref (He.ga K "without")) := let ⟨_, a, b⟩ := T.at_; He.glo_ok a b (T.c.fact 21 (f := .glo "without") rfl)
theorem g_thin : mg "thin" = some (.ref (He.ga K "thin")) := let ⟨_, a, b⟩ := T.at_; He.glo_ok a b (T.c.fact 22 (f := .glo "thin") rfl)
theorem g_is_text : mg "is_text" = some (.ref (He.ga K "is_text")) := let ⟨_, a, b⟩ := T.at_; He.glo_ok a b (T.c.fact 23 (f := .glo "is_text") rfl)
theorem g_tree_of : mg "tree_of" = some (.ref (He.ga K "tree_of")) := let ⟨_, a, b⟩ := T.at_; He.glo_ok a b (T.c.fact 24 (f := .glo "tree_of") rfl)
theorem g_flaw : mg "flaw" = some (.ref (He.ga K "flaw")) := let ⟨_, a, b⟩ := T.at_; He.glo_ok a b (T.c.fact 25 (f := .glo "flaw") rfl)
theorem g_nodes_of : mg "nodes_of" = some (.ref (He.ga K "nodes_of")) := let ⟨_, a, b⟩ := T.at_; He.glo_ok a b (T.c.fact 26 (f := .glo "nodes_of") rfl)
theorem g_doors_at : mg "doors_at" = some (.ref (He.ga K "doors_at")) := let ⟨_, a, b⟩ := T.at_; He.glo_ok a b (T.c.fact 27 (f := .glo "doors_at") rfl)
theorem g_need_doors : mg "need_doors" = some (.ref (He.ga K "need_doors")) := let ⟨_, a, b⟩ := T.at_; He.glo_ok a b (T.c.fact 28 (f := .glo "need_doors") rfl)
theorem g_least_ways : mg "least_ways" = some (.ref (He.ga K "least_ways")) := let ⟨_, a, b⟩ := T.at_; He.glo_ok a b (T.c.fact 29 (f := .glo "least_ways") rfl)
theorem g_widest : mg "widest" = some (.ref (He.ga K "widest")) := let ⟨_, a, b⟩ := T.at_; He.glo_ok a b (T.c.fact 30 (f := .glo "widest") rfl)
theorem g_first_way : mg "first_way" = some (.ref (He.ga K "first_way")) := let ⟨_, a, b⟩ := T.at_; He.glo_ok a b (T.c.fact 31 (f := .glo "first_way") rfl)
theorem g_least_way : mg "least_way" = some (.ref (He.ga K "least_way")) := let ⟨_, a, b⟩ := T.at_; He.glo_ok a b (T.c.fact 32 (f := .glo "least_way") rfl)
theorem g_wide_way : mg "wide_way" = some (.ref (He.ga K "wide_way")) := let ⟨_, a, b⟩ := T.at_; He.glo_ok a b (T.c.fact 33 (f := .glo "wide_way") rfl)
theorem g_is_way : mg "is_way" = some (.ref (He.ga K "is_way")) := let ⟨_, a, b⟩ := T.at_; He.glo_ok a b (T.c.fact 34 (f := .glo "is_way") rfl)
theorem g_bound : mg "bound" = some (.ref (He.ga K "bound")) := let ⟨_, a, b⟩ := T.at_; He.glo_ok a b (T.c.fact 35 (f := .glo "bound") rfl)
theorem g_is_bound : mg "is_bound" = some (.ref (He.ga K "is_bound")) := let ⟨_, a, b⟩ := T.at_; He.glo_ok a b (T.c.fact 36 (f := .glo "is_bound") rfl)
theorem g_cut : mg "cut" = some (.ref (He.ga K "cut")) := let ⟨_, a, b⟩ := T.at_; He.glo_ok a b (T.c.fact 37 (f := .glo "cut") rfl)
theorem g_is_cut : mg "is_cut" = some (.ref (He.ga K "is_cut")) := let ⟨_, a, b⟩ := T.at_; He.glo_ok a b (T.c.fact 38 (f := .glo "is_cut") rfl)
theorem g__law_taken : mg "_law_taken" = some (.ref (He.ga K "_law_taken")) := let ⟨_, a, b⟩ := T.at_; He.glo_ok a b (T.c.fact 39 (f := .glo "_law_taken") rfl)
theorem g__law_pick : mg "_law_pick" = some (.ref (He.ga K "_law_pick")) := let ⟨_, a, b⟩ := T.at_; He.glo_ok a b (T.c.fact 40 (f := .glo "_law_pick") rfl)
theorem g__law_refused : mg "_law_refused" = some (.ref (He.ga K "_law_refused")) := let ⟨_, a, b⟩ := T.at_; He.glo_ok a b (T.c.fact 41 (f := .glo "_law_refused") rfl)
theorem g__law_alike : mg "_law_alike" = some (.ref (He.ga K "_law_alike")) := let ⟨_, a, b⟩ := T.at_; He.glo_ok a b (T.c.fact 42 (f := .glo "_law_alike") rfl)
theorem g__law_maze : mg "_law_maze" = some (.ref (He.ga K "_law_maze")) := let ⟨_, a, b⟩ := T.at_; He.glo_ok a b (T.c.fact 43 (f := .glo "_law_maze") rfl)
theorem g__law_kind : mg "_law_kind" = some (.ref (He.ga K "_law_kind")) := let ⟨_, a, b⟩ := T.at_; He.glo_ok a b (T.c.fact 44 (f := .glo "_law_kind") rfl)
theorem g__law_pair : mg "_law_pair" = some (.ref (He.ga K "_law_pair")) := let ⟨_, a, b⟩ := T.at_; He.glo_ok a b (T.c.fact 45 (f := .glo "_law_pair") rfl)
theorem g__law_narrow : mg "_law_narrow" = some (.ref (He.ga K "_law_narrow")) := let ⟨_, a, b⟩ := T.at_; He.glo_ok a b (T.c.fact 46 (f := .glo "_law_narrow") rfl)
theorem g__law_parts : mg "_law_parts" = some (.ref (He.ga K "_law_parts")) := let ⟨_, a, b⟩ := T.at_; He.glo_ok a b (T.c.fact 47 (f := .glo "_law_parts") rfl)
theorem g_law : mg "law" = some (.ref (He.ga K "law")) := let ⟨_, a, b⟩ := T.at_; He.glo_ok a b (T.c.fact 48 (f := .glo "law") rfl)
theorem g_BadArgument : mg "BadArgument" = some (.ref (He.ga K "BadArgument")) := let ⟨_, a, b⟩ := T.at_; He.glo_ok a b (T.c.fact 49 (f := .glo "BadArgument") rfl)
theorem n_BadArgument_name : NoAttr K (He.ga K "BadArgument") "name" := He.noat_ok (T.c.fact 51 (f := .noat "BadArgument" "name") rfl)
theorem g_Flaw : mg "Flaw" = some (.ref (He.ga K "Flaw")) := let ⟨_, a, b⟩ := T.at_; He.glo_ok a b (T.c.fact 52 (f := .glo "Flaw") rfl)
theorem n_Flaw_place : NoAttr K (He.ga K "Flaw") "place" := He.noat_ok (T.c.fact 54 (f := .noat "Flaw" "place") rfl)
theorem n_Flaw_message : NoAttr K (He.ga K "Flaw") "message" := He.noat_ok (T.c.fact 55 (f := .noat "Flaw" "message") rfl)
theorem g_Worths : mg "Worths" = some (.ref (He.ga K "Worths")) := let ⟨_, a, b⟩ := T.at_; He.glo_ok a b (T.c.fact 56 (f := .glo "Worths") rfl)
theorem c_Worths : Cls K (He.ga K "Worths") := He.cls_ok (T.c.fact 57 (f := .cls "Worths") rfl)
theorem k_Worths : Mk K (He.ga K "Worths") (a_Worths_init K) := He.mkr_ok (T.c.fact 58 (f := .mkr "Worths") rfl)
theorem n_Worths_kind : NoAttr K (He.ga K "Worths") "kind" := He.noat_ok (T.c.fact 59 (f := .noat "Worths" "kind") rfl)
theorem n_Worths_most : NoAttr K (He.ga K "Worths") "most" := He.noat_ok (T.c.fact 60 (f := .noat "Worths" "most") rfl)
theorem m_Worths_none : Meth K (He.ga K "Worths") "none" (a_Worths_none K) := He.meth_ok (T.c.fact 61 (f := .meth "Worths" "none") rfl)
theorem m_Worths_empty : Meth K (He.ga K "Worths") "empty" (a_Worths_empty K) := He.meth_ok (T.c.fact 62 (f := .meth "Worths" "empty") rfl)
theorem m_Worths_passage : Meth K (He.ga K "Worths") "passage" (a_Worths_passage K) := He.meth_ok (T.c.fact 63 (f := .meth "Worths" "passage") rfl)
theorem m_Worths_add : Meth K (He.ga K "Worths") "add" (a_Worths_add K) := He.meth_ok (T.c.fact 64 (f := .meth "Worths" "add") rfl)
theorem m_Worths_times : Meth K (He.ga K "Worths") "times" (a_Worths_times K) := He.meth_ok (T.c.fact 65 (f := .meth "Worths" "times") rfl)
theorem m_Worths_again : Meth K (He.ga K "Worths") "again" (a_Worths_again K) := He.meth_ok (T.c.fact 66 (f := .meth "Worths" "again") rfl)
theorem g_Part : mg "Part" = some (.ref (He.ga K "Part")) := let ⟨_, a, b⟩ := T.at_; He.glo_ok a b (T.c.fact 67 (f := .glo "Part") rfl)
theorem c_Part : Cls K (He.ga K "Part") := He.cls_ok (T.c.fact 68 (f := .cls "Part") rfl)
theorem k_Part : Mk K (He.ga K "Part") (a_Part_init K) := He.mkr_ok (T.c.fact 69 (f := .mkr "Part") rfl)
theorem n_Part_worths : NoAttr K (He.ga K "Part") "worths" := He.noat_ok (T.c.fact 70 (f := .noat "Part" "worths") rfl)
theorem n_Part_spots : NoAttr K (He.ga K "Part") "spots" := He.noat_ok (T.c.fact 71 (f := .noat "Part" "spots") rfl)
theorem n_Part_rows : NoAttr K (He.ga K "Part") "rows" := He.noat_ok (T.c.fact 72 (f := .noat "Part" "rows") rfl)
theorem m_Part_without : Meth K (He.ga K "Part") "without" (a_Part_without K) := He.meth_ok (T.c.fact 73 (f := .meth "Part" "without") rfl)
theorem m_Part_hidden : Meth K (He.ga K "Part") "hidden" (a_Part_hidden K) := He.meth_ok (T.c.fact 74 (f := .meth "Part" "hidden") rfl)
theorem m_Part_glued : Meth K (He.ga K "Part") "glued" (a_Part_glued K) := He.meth_ok (T.c.fact 75 (f := .meth "Part" "glued") rfl)
theorem m_Part_beside : Meth K (He.ga K "Part") "beside" (a_Part_beside K) := He.meth_ok (T.c.fact 76 (f := .meth "Part" "beside") rfl)
theorem m_Part_told : Meth K (He.ga K "Part") "told" (a_Part_told K) := He.meth_ok (T.c.fact 77 (f := .meth "Part" "told") rfl)
theorem m_Part_closed : Meth K (He.ga K "Part") "closed" (a_Part_closed K) := He.meth_ok (T.c.fact 78 (f := .meth "Part" "closed") rfl)
theorem m_Part_table : Meth K (He.ga K "Part") "table" (a_Part_table K) := He.meth_ok (T.c.fact 79 (f := .meth "Part" "table") rfl)
theorem g_Reader : mg "Reader" = some (.ref (He.ga K "Reader")) := let ⟨_, a, b⟩ := T.at_; He.glo_ok a b (T.c.fact 80 (f := .glo "Reader") rfl)
theorem c_Reader : Cls K (He.ga K "Reader") := He.cls_ok (T.c.fact 81 (f := .cls "Reader") rfl)
theorem k_Reader : Mk K (He.ga K "Reader") (a_Reader_init K) := He.mkr_ok (T.c.fact 82 (f := .mkr "Reader") rfl)
theorem n_Reader_signs : NoAttr K (He.ga K "Reader") "signs" := He.noat_ok (T.c.fact 83 (f := .noat "Reader" "signs") rfl)
theorem n_Reader_size : NoAttr K (He.ga K "Reader") "size" := He.noat_ok (T.c.fact 84 (f := .noat "Reader" "size") rfl)
theorem n_Reader_at : NoAttr K (He.ga K "Reader") "at" := He.noat_ok (T.c.fact 85 (f := .noat "Reader" "at") rfl)
theorem n_Reader_deep : NoAttr K (He.ga K "Reader") "deep" := He.noat_ok (T.c.fact 86 (f := .noat "Reader" "deep") rfl)
theorem m_Reader_sign : Meth K (He.ga K "Reader") "sign" (a_Reader_sign K) := He.meth_ok (T.c.fact 87 (f := .meth "Reader" "sign") rfl)
theorem m_Reader_refuse : Meth K (He.ga K "Reader") "refuse" (a_Reader_refuse K) := He.meth_ok (T.c.fact 88 (f := .meth "Reader" "refuse") rfl)
theorem m_Reader_is_next : Meth K (He.ga K "Reader") "is_next" (a_Reader_is_next K) := He.meth_ok (T.c.fact 89 (f := .meth "Reader" "is_next") rfl)
theorem m_Reader_digit : Meth K (He.ga K "Reader") "digit" (a_Reader_digit K) := He.meth_ok (T.c.fact 90 (f := .meth "Reader" "digit") rfl)
theorem m_Reader_nest : Meth K (He.ga K "Reader") "nest" (a_Reader_nest K) := He.meth_ok (T.c.fact 91 (f := .meth "Reader" "nest") rfl)
theorem m_Reader_item : Meth K (He.ga K "Reader") "item" (a_Reader_item K) := He.meth_ok (T.c.fact 92 (f := .meth "Reader" "item") rfl)
theorem m_Reader_atom : Meth K (He.ga K "Reader") "atom" (a_Reader_atom K) := He.meth_ok (T.c.fact 93 (f := .meth "Reader" "atom") rfl)
theorem m_Reader_ground : Meth K (He.ga K "Reader") "ground" (a_Reader_ground K) := He.meth_ok (T.c.fact 94 (f := .meth "Reader" "ground") rfl)
theorem g_Node : mg "Node" = some (.ref (He.ga K "Node")) := let ⟨_, a, b⟩ := T.at_; He.glo_ok a b (T.c.fact 95 (f := .glo "Node") rfl)
theorem c_Node : Cls K (He.ga K "Node") := He.cls_ok (T.c.fact 96 (f := .cls "Node") rfl)
theorem k_Node : Mk K (He.ga K "Node") (a_Node_init K) := He.mkr_ok (T.c.fact 97 (f := .mkr "Node") rfl)
theorem n_Node_word : NoAttr K (He.ga K "Node") "word" := He.noat_ok (T.c.fact 98 (f := .noat "Node" "word") rfl)
theorem n_Node_numbers : NoAttr K (He.ga K "Node") "numbers" := He.noat_ok (T.c.fact 99 (f := .noat "Node" "numbers") rfl)
theorem n_Node_below : NoAttr K (He.ga K "Node") "below" := He.noat_ok (T.c.fact 100 (f := .noat "Node" "below") rfl)
theorem n_Node_above : NoAttr K (He.ga K "Node") "above" := He.noat_ok (T.c.fact 101 (f := .noat "Node" "above") rfl)
theorem n_Node_part : NoAttr K (He.ga K "Node") "part" := He.noat_ok (T.c.fact 102 (f := .noat "Node" "part") rfl)
theorem g_Nest : mg "Nest" = some (.ref (He.ga K "Nest")) := let ⟨_, a, b⟩ := T.at_; He.glo_ok a b (T.c.fact 103 (f := .glo "Nest") rfl)
theorem c_Nest : Cls K (He.ga K "Nest") := He.cls_ok (T.c.fact 104 (f := .cls "Nest") rfl)
theorem k_Nest : Mk K (He.ga K "Nest") (a_Nest_init K) := He.mkr_ok (T.c.fact 105 (f := .mkr "Nest") rfl)
theorem n_Nest_nodes : NoAttr K (He.ga K "Nest") "nodes" := He.noat_ok (T.c.fact 106 (f := .noat "Nest" "nodes") rfl)
theorem n_Nest_kind : NoAttr K (He.ga K "Nest") "kind" := He.noat_ok (T.c.fact 107 (f := .noat "Nest" "kind") rfl)
theorem n_Nest_most : NoAttr K (He.ga K "Nest") "most" := He.noat_ok (T.c.fact 108 (f := .noat "Nest" "most") rfl)
theorem n_Nest_leaves : NoAttr K (He.ga K "Nest") "leaves" := He.noat_ok (T.c.fact 109 (f := .noat "Nest" "leaves") rfl)
theorem n_Nest_mazes : NoAttr K (He.ga K "Nest") "mazes" := He.noat_ok (T.c.fact 110 (f := .noat "Nest" "mazes") rfl)
theorem n_Nest_shut_ones : NoAttr K (He.ga K "Nest") "shut_ones" := He.noat_ok (T.c.fact 111 (f := .noat "Nest" "shut_ones") rfl)
theorem n_Nest_pasts : NoAttr K (He.ga K "Nest") "pasts" := He.noat_ok (T.c.fact 112 (f := .noat "Nest" "pasts") rfl)
theorem n_Nest_futures : NoAttr K (He.ga K "Nest") "futures" := He.noat_ok (T.c.fact 113 (f := .noat "Nest" "futures") rfl)
theorem n_Nest_count : NoAttr K (He.ga K "Nest") "count" := He.noat_ok (T.c.fact 114 (f := .noat "Nest" "count") rfl)
theorem m_Nest_open_maze : Meth K (He.ga K "Nest") "open_maze" (a_Nest_open_maze K) := He.meth_ok (T.c.fact 115 (f := .meth "Nest" "open_maze") rfl)
theorem m_Nest_reckon : Meth K (He.ga K "Nest") "reckon" (a_Nest_reckon K) := He.meth_ok (T.c.fact 116 (f := .meth "Nest" "reckon") rfl)
theorem m_Nest_follow : Meth K (He.ga K "Nest") "follow" (a_Nest_follow K) := He.meth_ok (T.c.fact 117 (f := .meth "Nest" "follow") rfl)
theorem m_Nest_lay : Meth K (He.ga K "Nest") "lay" (a_Nest_lay K) := He.meth_ok (T.c.fact 118 (f := .meth "Nest" "lay") rfl)
theorem m_Nest_need_place : Meth K (He.ga K "Nest") "need_place" (a_Nest_need_place K) := He.meth_ok (T.c.fact 119 (f := .meth "Nest" "need_place") rfl)
theorem m_Nest_change : Meth K (He.ga K "Nest") "change" (a_Nest_change K) := He.meth_ok (T.c.fact 120 (f := .meth "Nest" "change") rfl)
theorem m_Nest_shut : Meth K (He.ga K "Nest") "shut" (a_Nest_shut K) := He.meth_ok (T.c.fact 121 (f := .meth "Nest" "shut") rfl)
theorem m_Nest_unshut : Meth K (He.ga K "Nest") "unshut" (a_Nest_unshut K) := He.meth_ok (T.c.fact 122 (f := .meth "Nest" "unshut") rfl)
theorem m_Nest_alter : Meth K (He.ga K "Nest") "alter" (a_Nest_alter K) := He.meth_ok (T.c.fact 123 (f := .meth "Nest" "alter") rfl)
theorem m_Nest_undo : Meth K (He.ga K "Nest") "undo" (a_Nest_undo K) := He.meth_ok (T.c.fact 124 (f := .meth "Nest" "undo") rfl)
theorem m_Nest_redo : Meth K (He.ga K "Nest") "redo" (a_Nest_redo K) := He.meth_ok (T.c.fact 125 (f := .meth "Nest" "redo") rfl)
theorem m_Nest_table : Meth K (He.ga K "Nest") "table" (a_Nest_table K) := He.meth_ok (T.c.fact 126 (f := .meth "Nest" "table") rfl)
theorem m_Nest_reckoned : Meth K (He.ga K "Nest") "reckoned" (a_Nest_reckoned K) := He.meth_ok (T.c.fact 127 (f := .meth "Nest" "reckoned") rfl)
theorem m_Nest_leaf_maze : Meth K (He.ga K "Nest") "leaf_maze" (a_Nest_leaf_maze K) := He.meth_ok (T.c.fact 128 (f := .meth "Nest" "leaf_maze") rfl)
theorem m_Nest_whole : Meth K (He.ga K "Nest") "whole" (a_Nest_whole K) := He.meth_ok (T.c.fact 129 (f := .meth "Nest" "whole") rfl)
theorem m_Nest_joined_at : Meth K (He.ga K "Nest") "joined_at" (a_Nest_joined_at K) := He.meth_ok (T.c.fact 130 (f := .meth "Nest" "joined_at") rfl)
theorem i_MOST_ROOMS : ∃ t, mg "MOST_ROOMS" = some (.int 40 t) := let ⟨_, a, b⟩ := T.at_; He.int_ok a b (T.c.fact 131 (f := .int "MOST_ROOMS" 40) rfl)
theorem i_MOST_PASSAGES : ∃ t, mg "MOST_PASSAGES" = some (.int 120 t) := let ⟨_, a, b⟩ := T.at_; He.int_ok a b (T.c.fact 132 (f := .int "MOST_PASSAGES" 120) rfl)
theorem i_MOST_DOORS : ∃ t, mg "MOST_DOORS" = some (.int 12 t) := let ⟨_, a, b⟩ := T.at_; He.int_ok a b (T.c.fact 133 (f := .int "MOST_DOORS" 12) rfl)
theorem i_MOST_LENGTH : ∃ t, mg "MOST_LENGTH" = some (.int 50 t) := let ⟨_, a, b⟩ := T.at_; He.int_ok a b (T.c.fact 134 (f := .int "MOST_LENGTH" 50) rfl)
theorem i_MOST_WIDTH : ∃ t, mg "MOST_WIDTH" = some (.int 99 t) := let ⟨_, a, b⟩ := T.at_; He.int_ok a b (T.c.fact 135 (f := .int "MOST_WIDTH" 99) rfl)
theorem i_MOST_LEVEL : ∃ t, mg "MOST_LEVEL" = some (.int 12 t) := let ⟨_, a, b⟩ := T.at_; He.int_ok a b (T.c.fact 136 (f := .int "MOST_LEVEL" 12) rfl)
theorem i_CAN : ∃ t, mg "CAN" = some (.str "can" t) := let ⟨_, a, b⟩ := T.at_; He.str_ok a b (T.c.fact 137 (f := .str "CAN" "can") rfl)
theorem i_LEAST : ∃ t, mg "LEAST" = some (.str "least" t) := let ⟨_, a, b⟩ := T.at_; He.str_ok a b (T.c.fact 138 (f := .str "LEAST" "least") rfl)
theorem i_WIDE : ∃ t, mg "WIDE" = some (.str "wide" t) := let ⟨_, a, b⟩ := T.at_; He.str_ok a b (T.c.fact 139 (f := .str "WIDE" "wide") rfl)
theorem i_COUNT : ∃ t, mg "COUNT" = some (.str "count" t) := let ⟨_, a, b⟩ := T.at_; He.str_ok a b (T.c.fact 140 (f := .str "COUNT" "count") rfl)
theorem g_KINDS : mg "KINDS" = some (.ref (He.ga K "KINDS")) := let ⟨_, a, b⟩ := T.at_; He.glo_ok a b (T.c.fact 141 (f := .glo "KINDS") rfl)
theorem i_ENDLESS : ∃ t, mg "ENDLESS" = some (.int 1000 t) := let ⟨_, a, b⟩ := T.at_; He.int_ok a b (T.c.fact 142 (f := .int "ENDLESS" 1000) rfl)
theorem i_LETTERS : ∃ t, mg "LETTERS" = some (.str "abcdef" t) := let ⟨_, a, b⟩ := T.at_; He.str_ok a b (T.c.fact 143 (f := .str "LETTERS" "abcdef") rfl)
theorem i_DIGITS : ∃ t, mg "DIGITS" = some (.str "0123456789" t) := let ⟨_, a, b⟩ := T.at_; He.str_ok a b (T.c.fact 144 (f := .str "DIGITS" "0123456789") rfl)
theorem i_MOST_TEXT : ∃ t, mg "MOST_TEXT" = some (.int 200 t) := let ⟨_, a, b⟩ := T.at_; He.int_ok a b (T.c.fact 145 (f := .int "MOST_TEXT" 200) rfl)
theorem i_MOST_DEEP : ∃ t, mg "MOST_DEEP" = some (.int 20 t) := let ⟨_, a, b⟩ := T.at_; He.int_ok a b (T.c.fact 146 (f := .int "MOST_DEEP" 20) rfl)
theorem i_FAR : ∃ t, mg "FAR" = some (.int 1000000 t) := let ⟨_, a, b⟩ := T.at_; He.int_ok a b (T.c.fact 147 (f := .int "FAR" 1000000) rfl)
theorem l_ValueError : mg "ValueError" = none := let ⟨_, a, b⟩ := T.at_; He.free_ok a b (T.c.fact 148 (f := .free "ValueError") rfl)
theorem l_all : mg "all" = none := let ⟨_, a, b⟩ := T.at_; He.free_ok a b (T.c.fact 149 (f := .free "all") rfl)
theorem l_bool : mg "bool" = none := let ⟨_, a, b⟩ := T.at_; He.free_ok a b (T.c.fact 150 (f := .free "bool") rfl)
theorem l_enumerate : mg "enumerate" = none := let ⟨_, a, b⟩ := T.at_; He.free_ok a b (T.c.fact 151 (f := .free "enumerate") rfl)
theorem l_int : mg "int" = none := let ⟨_, a, b⟩ := T.at_; He.free_ok a b (T.c.fact 152 (f := .free "int") rfl)
theorem l_isinstance : mg "isinstance" = none := let ⟨_, a, b⟩ := T.at_; He.free_ok a b (T.c.fact 153 (f := .free "isinstance") rfl)
theorem l_len : mg "len" = none := let ⟨_, a, b⟩ := T.at_; He.free_ok a b (T.c.fact 154 (f := .free "len") rfl)
theorem l_list : mg "list" = none := let ⟨_, a, b⟩ := T.at_; He.free_ok a b (T.c.fact 155 (f := .free "list") rfl)
theorem l_max : mg "max" = none := let ⟨_, a, b⟩ := T.at_; He.free_ok a b (T.c.fact 156 (f := .free "max") rfl)
theorem l_min : mg "min" = none := let ⟨_, a, b⟩ := T.at_; He.free_ok a b (T.c.fact 157 (f := .free "min") rfl)
theorem l_range : mg "range" = none := let ⟨_, a, b⟩ := T.at_; He.free_ok a b (T.c.fact 158 (f := .free "range") rfl)
theorem l_set : mg "set" = none := let ⟨_, a, b⟩ := T.at_; He.free_ok a b (T.c.fact 159 (f := .free "set") rfl)
theorem l_sorted : mg "sorted" = none := let ⟨_, a, b⟩ := T.at_; He.free_ok a b (T.c.fact 160 (f := .free "sorted") rfl)
theorem l_str : mg "str" = none := let ⟨_, a, b⟩ := T.at_; He.free_ok a b (T.c.fact 161 (f := .free "str") rfl)
theorem l_sum : mg "sum" = none := let ⟨_, a, b⟩ := T.at_; He.free_ok a b (T.c.fact 162 (f := .free "sum") rfl)
theorem l_tuple : mg "tuple" = none := let ⟨_, a, b⟩ := T.at_; He.free_ok a b (T.c.fact 163 (f := .free "tuple") rfl)
theorem l_zip : mg "zip" = none := let ⟨_, a, b⟩ := T.at_; He.free_ok a b (T.c.fact 164 (f := .free "zip") rfl)
theorem exAll : (oexB K (He.ga K "BadArgument") = true ∧ xfB K (He.ga K "BadArgument") = true ∧ initB K (He.ga K "BadArgument") = true) ∧ (oexB K (He.ga K "Flaw") = true ∧ xfB K (He.ga K "Flaw") = true ∧ initB K (He.ga K "Flaw") = true) ∧ tupB K (He.ga K "KINDS") ["can", "least", "wide", "count"] = true := by
  have h := T.ex
  unfold exF at h
  simp only [Bool.and_eq_true, and_assoc] at h
  simp only [and_assoc]
  exact h
theorem t_KINDS (H : Hp) : SqT K H (He.ga K "KINDS") ((["can", "least", "wide", "count"] : List Str).map V.str) := tupB_ok (exAll T).2.2 H
theorem x_BadArgument : OexC K (He.ga K "BadArgument") ∧ PySem.W.exmOne K (.ref (He.ga K "BadArgument")) (.ref (He.ga K "BadArgument")) = some true := oexB_ok (exAll T).1.1
theorem xf_BadArgument : XfC K (He.ga K "BadArgument") := xfB_ok (exAll T).1.2.1
theorem xi_BadArgument : PySem.W.findIn K (.ref (He.ga K "BadArgument")) "__init__" = some (some (.ref (a_BadArgument_init K))) ∧ PySem.W.typeIn K (.ref (a_BadArgument_init K)) = some (.type "function") := initB_ok (exAll T).1.2.2
theorem x_Flaw : OexC K (He.ga K "Flaw") ∧ PySem.W.exmOne K (.ref (He.ga K "Flaw")) (.ref (He.ga K "Flaw")) = some true := oexB_ok (exAll T).2.1.1
theorem xf_Flaw : XfC K (He.ga K "Flaw") := xfB_ok (exAll T).2.1.2.1
theorem xi_Flaw : PySem.W.findIn K (.ref (He.ga K "Flaw")) "__init__" = some (some (.ref (a_Flaw_init K))) ∧ PySem.W.typeIn K (.ref (a_Flaw_init K)) = some (.type "function") := initB_ok (exAll T).2.1.2.2
end
end K09
/-! Own exceptions with one or two fields: their __init__, their making; a call that is refused. -/
namespace Sl
open PySem PySem.Spec
open PyProof.Rows L2
/-- __init__ of one field -/
def spX1 (K : PySem.W.Frag) (C : Addr) (f : Str) : Sp := fun vs H Q _ => ∃ (a : Addr) (y : V), vs = [.ref a, y] ∧ OexC K C ∧ PySem.W.findIn K (.ref C) f = some none ∧ H a = some (exo a C none) ∧
  ∀ dx, H dx = none → dx ≠ a → Q .non (upd (upd H dx (exd dx [(f, y)])) a (exo a C (some dx)))
/-- of two -/
def spX2 (K : PySem.W.Frag) (C : Addr) (f g : Str) : Sp := fun vs H Q _ => ∃ (a : Addr) (y z : V), vs = [.ref a, y, z] ∧ OexC K C ∧ PySem.W.findIn K (.ref C) f = some none ∧ PySem.W.findIn K (.ref C) g = some none ∧ H a = some (exo a C none) ∧
  ∀ dx, H dx = none → dx ≠ a → Q .non (upd (upd (upd H dx (exd dx [(f, y)])) a (exo a C (some dx))) dx (exd dx [(g, z), (f, y)]))
section
variable {K : PySem.W.Frag} {C : Addr} {f g : Str} {y z : V} {H : Hp} {Q : XK}
theorem mkx1 (T : OexC K C) (hf : PySem.W.findIn K (.ref C) f = some none) (k : ∀ d H', Ex H H' → H d = none → H' d = some (.xd [(f, y)]) → Q (.ref C) (some d) H') :
    [y].length ≤ 1000 ∧ ∀ a, H a = none → spX1 K C f (.ref a :: ([y] ++ [])) (upd H a (exo a C none))
      (fun v H2 => v = .non ∧ ∃ (d : Addr) (fs : List (Str × V)), H2 a = some (exo a C (some d)) ∧ H2 d = some (exd d fs) ∧ H d = none ∧ Q (.ref C) (some d) (upd (del H2 a) d (.xd fs))) (fun _ _ _ => False) := by
  refine ⟨by show 1 ≤ 1000; decide, fun a ha => ⟨a, y, rfl, T, hf, upd_same, fun dx hd hne => ⟨rfl, dx, [(f, y)], upd_same, ?_, ?_, ?_⟩⟩⟩
  · rw [upd_ne hne, upd_same]
  · rw [upd_ne hne] at hd
    exact hd
  · rw [upd_ne hne] at hd
    refine k dx _ (fun b o e => ?_) hd upd_same
    have n1 : b ≠ dx := ne_of_none e hd
    have n2 : b ≠ a := ne_of_none e ha
    rw [upd_ne n1, del_ne n2, upd_ne n2, upd_ne n1, upd_ne n2]
    exact e
theorem mkx2 (T : OexC K C) (hf : PySem.W.findIn K (.ref C) f = some none) (hg : PySem.W.findIn K (.ref C) g = some none) (k : ∀ d H', Ex H H' → H d = none → H' d = some (.xd [(g, z), (f, y)]) → Q (.ref C) (some d) H') :
    [y, z].length ≤ 1000 ∧ ∀ a, H a = none → spX2 K C f g (.ref a :: ([y, z] ++ [])) (upd H a (exo a C none))
      (fun v H2 => v = .non ∧ ∃ (d : Addr) (fs : List (Str × V)), H2 a = some (exo a C (some d)) ∧ H2 d = some (exd d fs) ∧ H d = none ∧ Q (.ref C) (some d) (upd (del H2 a) d (.xd fs))) (fun _ _ _ => False) := by
  refine ⟨by show 2 ≤ 1000; decide, fun a ha => ⟨a, y, z, rfl, T, hf, hg, upd_same, fun dx hd hne => ⟨rfl, dx, _, ?_, upd_same, ?_, ?_⟩⟩⟩
  · rw [upd_ne (Ne.symm hne), upd_same]
  · rw [upd_ne hne] at hd
    exact hd
  · rw [upd_ne hne] at hd
    refine k dx _ (fun b o e => ?_) hd upd_same
    have n1 : b ≠ dx := ne_of_none e hd
    have n2 : b ≠ a := ne_of_none e ha
    rw [upd_ne n1, del_ne n2, upd_ne n1, upd_ne n2, upd_ne n1, upd_ne n2]
    exact e
end
section
variable {P : Program} {w : World} {K : PySem.W.Frag} {mg : Str → Option Value} {base : Heap} {f C : Addr} {a b c : Str} {x qual : Str} {params : Arguments} {scope : Scope} {p1 p2 p3 p4 q1 q2 q3 q4 : Pos}
theorem has_x1 (F : ∃ fd, FunD K x qual params [.Assign [.Attribute (.Name a p1) b p2] (.Name b p3) p4] scope [] [] f fd) (S : FnScope [a, b] [a, b] scope)
    (hb : BindsBy x qual params [.Assign [.Attribute (.Name a p1) b p2] (.Name b p3) p4] scope [a, b]) (v1 : Vis scope a) (v2 : Vis scope b) (d1 : (a == ("__debug__" : Str)) = false) (d2 : (b == ("__debug__" : Str)) = false) (e1 : (a == ("__classdict__" : Str)) = false) (e2 : (b == ("__classdict__" : Str)) = false)
    (sw : ∀ X : Cx, X.env.scope = scope → swapsWith (.Name b p3) (some (.Attribute (.Name a p1) b p2)) p4.line X.env = pure false) : Has P w K mg base 1 f [a, b] (spX1 K C b) := by
  refine has_of F S hb (fun vs H Q E h => by obtain ⟨_, _, rfl, _⟩ := h; rfl) (fun cdv A outer s H vs Q E hr h => ?_)
  obtain ⟨o, y, rfl, T, hf, ho, k⟩ := h
  refine ⟨_, pss_one (ps_ost (pe_var (i := 0) rfl v1 d1 e1) (pe_var (i := 1) rfl v2 d2 e2) (sw _ rfl)), ?_⟩
  exact ⟨_, rfl, _, rfl, o, C, rfl, T, hf, .inl ⟨ho, k⟩⟩
end
end Sl
namespace Sl
open PySem PySem.Spec
open PyProof.Rows L2
theorem tk_of {P : Program} {w : World} {K : PySem.W.Frag} {mg : Str → Option Value} {base : Heap} {N : List Str} {qual : Str} {sc : Scope} {f : Addr} {cd : Value} {A : Around} {outer : List Env} {s : Shared} {H : Hp} {E : XK} :
    Takes (cxOf (L2.CX P w) P w K mg base N qual sc f cd A outer s H E) (fun cls d _ H => E cls d H) := takes_of rfl rfl rfl rfl
theorem px_of {P : Program} {w : World} {K : PySem.W.Frag} {mg : Str → Option Value} {base : Heap} {N : List Str} {qual : Str} {sc : Scope} {f : Addr} {cd : Value} {A : Around} {outer : List Env} {s : Shared} {H : Hp} {E : XK} :
    Passes (L2.CX P w) (cxOf (L2.CX P w) P w K mg base N qual sc f cd A outer s H E) E := passes_call tk_of fun _ _ _ _ h => h
theorem exb_put {H : Hp} {p : Addr} {o : HO} : ExB [p] H (upd H p o) := fun a u na e => by
  rw [upd_ne (by simpa using na)]
  exact e
theorem SH.upd1 {K : PySem.W.Frag} {H0 H H' : Hp} {M : List Addr} {LO LB LO' : List As} {p : Addr} {o o' : HO} (S : SH K H0 M LO LB H) (q : Pick LO (pt p o) LO') (e : ExB [p] H H') (t : TEx H H') (h : H' p = some o') : SH K H0 M (pt p o' :: LO') LB H' :=
  S.step q fun fp hp _ _ => by
    obtain ⟨rfl, _⟩ := hp
    exact ⟨e, t, [p], ⟨rfl, h⟩, by simp, fun a ha => .inl ha⟩
theorem start1 {K : PySem.W.Frag} {H : Hp} {p l : Addr} {o : HO} {ds : List D} {xs : List V} (h : H p = some o) (hl : H l = some (.lst xs)) (r : RDs K H ds xs) (n : o ≠ .lst xs) : SH K H [p] [pt p o] [ls K l ds] H :=
  ⟨ExB.refl _ _, TEx.refl _, [[p]], [[l]], .cons ⟨rfl, h⟩ .nil, .cons ⟨rfl, xs, hl, r⟩ .nil, by simp, fun a ha => by
    have e : a = p := by simpa using ha
    subst e
    refine ⟨.inr (by simp), ?_⟩
    have ne : a ≠ l := ne_of h hl n
    simpa using ne⟩
end Sl
namespace Sl
open PySem PySem.Spec
open PyProof.Rows L2
/-- a module's constant -/
theorem pgi {X : Cx} {x : Str} {p : Pos} {v : Int} (hm : ∃ t, X.mg x = some (.int v t)) (hg : Gl X x := by rfl) (hdb : (x == ("__debug__" : Str)) = false := by decide) : PE X (.Name x p) (tC (.int v)) := by
  obtain ⟨t, h⟩ := hm
  exact pe_glob hg h ⟨t, rfl⟩ hdb
theorem pgs {X : Cx} {x : Str} {p : Pos} {v : Str} (hm : ∃ t, X.mg x = some (.str v t)) (hg : Gl X x := by rfl) (hdb : (x == ("__debug__" : Str)) = false := by decide) : PE X (.Name x p) (tC (.str v)) := by
  obtain ⟨t, h⟩ := hm
  exact pe_glob hg h ⟨t, rfl⟩ hdb
end Sl
/-! ### the rules with the written part told: for use within comprehensions -/
namespace Sl
open PySem PySem.Spec
open PyProof.Rows L2
section
variable {X : Cx} {K : PySem.W.Frag}
theorem fldK (K : PySem.W.Frag) {e : Expr} {f : Str} {pos : Pos} {ta : TE} (he : PE X e ta) (hK : X.K = K := by rfl) (hb : attributeBase e f X.env (eval e X.env) = eval e X.env := by rfl) : PE X (.Attribute e f pos) (tFld K ta f) := by
  subst hK
  exact pe_fld he hb
theorem tupK (K : PySem.W.Frag) {es : List Expr} {k : Nat} {pos : Pos} {t : TGs} {n : Nat} (h : PGs X es t) (hc : X.calm = true := by rfl) (hK : X.K = K := by rfl)
    (hn : (assignEach es X.env).length = n := by rfl) (hst : (assignEach es X.env).findIdx? (·.1) = none := by rfl) : PG X (.Tuple es k pos) (gTup K n t) := by
  subst hK
  exact pg_tup hc h hn hst
theorem inK (K : PySem.W.Frag) (hK : X.K = K := by rfl) : OpR X (compareOp .In) (rIn K false) := by subst hK; exact op_in_seq
theorem niK (K : PySem.W.Frag) (hK : X.K = K := by rfl) : OpR X (compareOp .NotIn) (rIn K true) := by subst hK; exact op_notIn_seq
theorem ixL (K : PySem.W.Frag) (hK : X.K = K := by rfl) : IxR X (rIxL K) := by subst hK; exact ix_list
theorem ixT (K : PySem.W.Frag) (hK : X.K = K := by rfl) : IxR X (rIxT K) := by subst hK; exact ix_tup
theorem slL (K : PySem.W.Frag) (hK : X.K = K := by rfl) : SlR X (rSlL K) := by subst hK; exact sl_list
theorem slT (K : PySem.W.Frag) (hK : X.K = K := by rfl) : SlR X (rSlA K) := by subst hK; exact sl_tupA
theorem catT (K : PySem.W.Frag) (hK : X.K = K := by rfl) : OpR X (binaryOp .Add) (rCatA K) := by subst hK; exact op_catA
theorem eqDK (K : PySem.W.Frag) (hu : X.A.units + 64 < cLine) (hK : X.K = K := by rfl) : OpR X (compareOp .Eq) (rEqD K) := by subst hK; exact op_eqD hu
theorem neDK (K : PySem.W.Frag) (hu : X.A.units + 64 < cLine) (hK : X.K = K := by rfl) : OpR X (compareOp .NotEq) (rNeD K) := by subst hK; exact op_neD hu
def rLenQ (K : PySem.W.Frag) : List V → Hp → VK → Prop := fun xs H Q => ∃ p ys, xs = [.ref p] ∧ (SqL K H p ys ∨ SqT K H p ys) ∧ Q (.int ys.length) H
theorem lenK (K : PySem.W.Frag) (hK : X.K = K := by rfl) : CallR X (.builtin "len") (rLenQ K) := by subst hK; exact call_len_seq
def rListQ (K : PySem.W.Frag) : List V → Hp → VK → Prop := fun xs H Q => ∃ p ys, xs = [.ref p] ∧ (SqL K H p ys ∨ SqT K H p ys) ∧ ∀ l, H l = none → Q (.ref l) (upd H l (.lst ys))
theorem listK (K : PySem.W.Frag) (hK : X.K = K := by rfl) : CallR X (.type "list") (rListQ K) := by subst hK; exact call_list_of
def rTupQ (K : PySem.W.Frag) : List V → Hp → VK → Prop := fun xs H Q => ∃ p ys, xs = [.ref p] ∧ ((SqL K H p ys ∧ ∀ l, H l = none → Q (.ref l) (upd H l (.tup ys))) ∨ (SqT K H p ys ∧ Q (.ref p) H))
theorem tupleK (K : PySem.W.Frag) (hK : X.K = K := by rfl) : CallR X (.type "tuple") (rTupQ K) := by subst hK; exact call_tuple_of
theorem isiK (K : PySem.W.Frag) (hK : X.K = K := by rfl) : CallR X (.builtin "isinstance") (rIsi K) := by subst hK; exact call_isi
theorem listW (K : PySem.W.Frag) {tg l : Expr} {tl : TE} (h : PE X l tl) (hK : X.K = K := by rfl) : PI X tg l (iList K tl) := by subst hK; exact pi_list h
theorem tupW (K : PySem.W.Frag) {tg l : Expr} {tl : TE} (h : PE X l tl) (hK : X.K = K := by rfl) : PI X tg l (iTup K tl) := by subst hK; exact pi_tup h
theorem bmK (K : PySem.W.Frag) {T id : String} {r : V → List V → Hp → VK → Prop} {o e : Expr} {es : List Expr} {to : TE} {t : TA} {name : Str} {apos cpos : Pos} (pa : PlainAttrs T) (slot : Slot T name id) (hty : typeOf (.builtin id) = pure (.type "method_descriptor")) (hm : MtR X id r) (ho : PE X o to) (ha : PA X (e :: es) t)
    (hK : X.K = K := by rfl) (hbase : attributeBase o name X.env (eval o X.env) = eval o X.env := by rfl)
    (hfew : ((backTo cpos (starEach (e :: es) X.env)).all (fun x => !x.1) && (backToKw cpos (keywordEach [] X.env)).all (fun x => x.1.isSome) && decide ((e :: es).length + ([] : List Keyword).length + (if ([] : List Keyword).isEmpty then 0 else 1) < 30)) = true := by rfl)
    (hline : (apos.endLine == cpos.line) = true := by rfl) (hs : starEach (e :: es) X.env = (false, eval e X.env) :: starEach es X.env := by rfl) (hplain : (backTo cpos (starEach es X.env)).any (·.1) = false := by rfl) :
    PE X (.Call (.Attribute o name apos) (e :: es) [] cpos) (tBM K T r to t) := by
  subst hK
  exact pe_bm pa slot hty hm ho ha hbase hfew hline hs hplain
def tTru (K : PySem.W.Frag) (ta : TE) : TT := fun σ H Q => ta σ H fun x H' => ∃ k, TruV K x H' k ∧ Q k H'
theorem truK (K : PySem.W.Frag) {a : Expr} {ta : TE} (ha : PE X a ta) (hK : X.K = K := by rfl) (he : ∀ whole, isTrue a X.env whole = (do let v ← whole; standAt a.pos; holding [v] (truthy v)) := by intro _; rfl) : PT X a (tTru K ta) := by
  subst hK
  exact pt_truth ha he
end
end Sl
/-! list of a text; a def handed a lambda that tells what was refused. -/
namespace Sl
open PySem PySem.Spec
open PyProof.Rows L2
def sgV (z : Str) : List V := z.cps.toList.map fun c => V.str ⟨#[c]⟩
theorem call_list_sg {X : Cx} (hc : X.calm = true := by rfl) : CallR X (.type "list") (fun xs H Q => ∃ z, xs = [.str z] ∧ z.length ≤ sizeLine ∧ ∀ l, H l = none → Q (.ref l) (upd H l (.lst (sgV z)))) := by
  intro pins s σ H xs us Q I r h
  obtain ⟨z, rfl, hz, q⟩ := h
  obtain ⟨u, rfl, t, rfl⟩ := vals1 r
  have hs : s.heap.objs.size ≤ s.heap.objs.size := Nat.le_refl _
  refine call_list_str (I.ok.hd hc) z t (fun h' tk acc c' kp e it => ?_) hz
  refine ⟨.ref s.heap.objs.size, _, I.laid (t' := tk) kp hs (show ObjOk X.prog X.w _ h' _ (.lst (sgV z)) from ⟨?_, acc.toList, c', ?_, ?_⟩), rfl, q _ (I.hok.fresh hs)⟩
  · show (z.cps.toList.map _).length ≤ _
    rw [List.length_map]
    exact hz
  · refine vals_of_idx _ _ ?_ fun j u hu => ?_
    · rw [Array.length_toList, it.1]
      show _ = (z.cps.toList.map _).length
      rw [List.length_map, Array.length_toList]
    · obtain ⟨c, t', e1, rfl⟩ := it.2 j u (by simpa using hu)
      refine ⟨.str ⟨#[c]⟩, ?_, t', rfl⟩
      show (z.cps.toList.map _)[j]? = _
      rw [List.getElem?_map, Array.getElem?_toList, e1] <;> rfl
  · rw [Array.toArray_toList]
    exact e
/-- f(k = e), k the one parameter -/
theorem kw1 {K : PySem.W.Frag} {x qual pn : Str} {params : Arguments} {body : List Stmt} {scope : Scope} {f : Addr} {fd : FuncData} (F : FunD K x qual params body scope [] [] f fd)
    (h : ∀ (kV doc pm : Value) (an : Option Addr) (cdv ct u : Value), bindArgs (PySem.W.fnOf x qual params body scope .none kV doc pm an cdv ct) ⟨[], [(pn, u)]⟩ = pure [(pn, u)]) : KBn K fd [pn] 0 [pn] (fun _ ws => ws) (fun _ zs => zs) := by
  obtain ⟨oc, od, dV, kV, doc, pm, an, cdv, ct, osl, rfl, lk, hcd, hD, hK⟩ := F.ex
  rcases hD with ⟨_, rfl⟩ | ⟨e, _⟩
  · refine ⟨fun s us ws X h1 h2 => ?_, fun _ r => r⟩
    match us, ws, h1, h2 with
    | [], [u], _, _ => exact .of_eq (h kV doc pm an cdv ct u)
  · exact absurd rfl e
theorem pcallK1 {X : Cx} {k : Nat} {f : Addr} {fd : FuncData} {sp : Sp} {E : XK} {x pn : Str} {p pos kpos : Pos} {e : Expr} {te : TE} (F : FnOk X.prog X.w X.K X.mg X.base (L2.CX X.prog X.w) k f fd [pn] sp) (hb : KBn X.K fd [pn] 0 [pn] (fun _ ws => ws) (fun _ zs => zs)) (kp : PySem.W.keepIn X.K (.ref f) = true)
    (hr : Room k X.A) (hm : X.mg x = some (.ref f)) (hx : Passes (L2.CX X.prog X.w) X E) (he : PE X e te) (hg : Gl X x := by rfl) (hdb : (x == ("__debug__" : Str)) = false := by decide) : PE X (.Call (.Name x p) [] [⟨some pn, e, kpos⟩] pos) (tCall sp [] E (tCons te tNil)) := by
  refine ⟨fun pins s σ H Q I h => ?_⟩
  refine wpAny_Call_Name_kw (ld_glob I hg hm ?_ hdb)
  refine PySem.W.callWith_KW0 (h₀ := X.base) I.ok.mod.kin kp (by rfl) ?_ (by rfl)
  refine thn ((pk_cons he pk_nil).run pos pins s σ H _ I h) fun ws s2 ⟨zs, H2, I2, rz, q2⟩ => ⟨I2.kIn, ?_⟩
  have hl : zs.length = 1 := by
    have q3 : sp (zs ++ []) H2 Q E := q2
    rw [List.append_nil] at q3
    exact F.len _ _ _ _ q3
  have q3 : sp zs H2 Q E := by
    have q3 : sp (zs ++ []) H2 Q E := q2
    rwa [List.append_nil] at q3
  exact run_fnN (us := []) (vs := []) F hr hb hx I2 .nil rz rfl hl q3
theorem tkl {X : Cx} {A : Around} {outer : List Env} {s : Shared} {H : Hp} {E : XK} {scope : Scope} {f c' : Addr} : Takes (LamX.lamCx X A outer s H E scope f c') (fun cls d _ H => E cls d H) := takes_of rfl rfl rfl rfl
theorem pxl {X : Cx} {A : Around} {outer : List Env} {s : Shared} {H : Hp} {E : XK} {scope : Scope} {f c' : Addr} : Passes (L2.CX X.prog X.w) (LamX.lamCx X A outer s H E scope f c') E := passes_call tkl fun _ _ _ _ h => h
/-- told: try: a() / except x as n: return n.f; then return "" -/
def TTname (K : PySem.W.Frag) (CS : Addr) (fl : Str) : (XK → Hp → VK → Prop) → Hp → VK → Prop := fun tl H Q =>
  tl (fun cls d H' => cls = .ref CS ∧ ∃ dx nm, d = some dx ∧ H' dx = some (.xd [(fl, .str nm)]) ∧ Q (.str nm) H') H (fun _ H' => Q (.str "") H')
end Sl
namespace LamX
open PySem PySem.Spec
open PyProof.Rows L2 Sl
section
variable {X : Cx}
theorem takesLen {W : WX} (t : Takes X W) : Takes X (fun cls d σ H => σ.length = X.N.length → W cls d σ H) := fun u s' ⟨a, B, sI, pins, σ, H, cls, d, e, I, nb, up, sky, na, os, ag, w⟩ =>
  t u s' ⟨a, B, sI, pins, σ, H, cls, d, e, I, nb, up, sky, na, os, ag, w I.len⟩
theorem named_gives {x a e n fl q : Str} {sg : Scope} {g CS : Addr} {cdg : Value} {j : Nat} {p1 p2 p3 p4 p5 p6 p7 p8 p9 p10 p11 : Pos} (hge : sg.names.lookup e = some .globalImplicit) (hme : X.mg e = some (.ref CS)) (hde : (e == ("__debug__" : Str)) = false)
    (nd : [a, n].Nodup) (hln : sg.names.lookup n = some .local) (hx : XfC X.K CS) (hf : PySem.W.findIn X.K (.ref CS) fl = some none) (hm : PySem.W.exmOne X.K (.ref CS) (.ref CS) = some true)
    (hd : (n == ("__debug__" : Str)) = false) (hcd : (n == ("__classdict__" : Str)) = false) :
    GivesTo X [a, n] x sg g cdg [.Try [.Expr (.Call (.Name a p1) [] [] p2) p3] [.ExceptHandler (some (.Name e p4)) (some n) [.Return (some (.Attribute (.Name n p5) fl p6)) p7] p8] [] [] p9, .Return (some (.Constant (.str "") j p10)) p11] a q (TTname X.K CS fl) := by
  intro f c' s H Q tl act hc h
  have hgl : Gl (cxOf C8.CX0 X.prog X.w X.K X.mg X.base [a, n] x sg g cdg X.A X.stack s H C8.E0).nox e := hge
  refine ⟨_, pss_cons (ps_try_as (X := (cxOf C8.CX0 X.prog X.w X.K X.mg X.base [a, n] x sg g cdg X.A X.stack s H C8.E0).nox) (c := .ref CS) (i := 1)
      (tb := fun W D σ H => ∃ Ech : XK, (∀ cls d σ' H', σ'.length = 2 → Ech cls d H' → W cls d σ' H') ∧ σ[0]? = some (some (.ref f)) ∧ H c' = some (CodeO c' q) ∧ tl Ech H fun _ H' => D.nx σ H')
      (ts := fun a cls d => tRet (tXf a cls d CS fl (tVar 1)))
      rfl rfl nd rfl hln ⟨hgl, hde, .inl hme⟩ takes0 (fun W pn xe tk _ => ?_) (fun a oe cls d pn hz hf' => pss_one (ps_ret (pe_xf hx hf hz hf' (pe_var (i := 1) rfl (.inl hln) hd hcd))))) (pss_one (ps_ret pe_str)), ?_⟩
  · refine ⟨fun pins s' σ H' D I h' => ?_⟩
    obtain ⟨Ech, hW, h1, h2, h3⟩ := h'
    have hp := act _ pn xe Ech p1 p2 (takesLen tk) (fun cls d σ' H' e l => hW cls d σ' H' l e)
    have hq := pss_one (ps_expr (pos := p3) hp)
    exact hq.run pins s' σ H' D I ⟨h1, h2, h3⟩
  · refine ⟨fun cls d H' => cls = .ref CS ∧ ∃ dx nm, d = some dx ∧ H' dx = some (.xd [(fl, .str nm)]) ∧ Q (.str nm) H', fun cls d σ' H' hl hh => ?_, rfl, hc, h⟩
    obtain ⟨rfl, dx, nm, rfl, h1, h2⟩ := hh
    refine ⟨true, hm, fun _ a ha => ?_, fun z => by cases z⟩
    exact ⟨_, by rw [List.getElem?_set_self (by omega)], rfl, rfl, dx, _, _, rfl, h1, by simp [List.lookup], h2⟩
/-- the lambda's body x(y), y a captured name -/
theorem lam_call1 {A : Around} {outer : List Env} {s : Shared} {H : Hp} {E : XK} {sc : Scope} {f c' g : Addr} {k i : Nat} {ps : List Str} {sp : Sp} {x y : Str} {p q pos : Pos} (h : Has X.prog X.w X.K X.mg X.base k g ps sp)
    (hr : Room k (A.deeper (lamEnv X sc s.heap.objs.size f c'))) (hm : X.mg x = some (.ref g)) (hN : X.N[i]? = some y) (hv : Vis sc y) (hgl : sc.names.lookup x = some .globalImplicit) (hdb : (x == ("__debug__" : Str)) = false) (hd : (y == ("__debug__" : Str)) = false) (hcd : (y == ("__classdict__" : Str)) = false) :
    PE (lamCx X A outer s H E sc f c') (.Call (.Name x p) [.Name y q] [] pos) (tCall sp [] E (tCons (tVar i) tNil)) :=
  pcallX (X := lamCx X A outer s H E sc f c') h hr hm (pxl (X := X) (A := A) (outer := outer) (s := s) (H := H) (E := E) (scope := sc) (f := f) (c' := c')) (pa_cons (pe_var (X := lamCx X A outer s H E sc f c') hN hv hd hcd) pa_nil) hgl hdb
end
end LamX
/-! tuple * 1, tuple * 0; a list's item changed by op=. -/
namespace L2
open PySem PySem.Spec
open PyProof.Rows
theorem tuple_mul1 (l : Addr) (items : Array Value) (n : Nat) (dd : Option Addr) (sl : Array (Option Value)) (u : Tok) :
    Meets (Builtin.«tuple.__mul__» ⟨[.ref l, .int 1 u], []⟩) (fun _ R s => s.heap.get? l = some { cls := .type "tuple", dict := dd, data := .seq items n, slots := sl } ∧
      R (.ok (.ret (Value.ref l))) s) :=
  .of_wp fun prog w A R s h => by
    obtain ⟨hp, g, d, tk, os⟩ := s
    obtain ⟨hl, h⟩ := h
    have f1 := AutoSeq1.idx_int
    have c1 : (items.isEmpty || (1 : Int) == 1) = true := by simp
    wp_walk using wpAny_loadPart' hl
    exact ⟨_, rfl, h⟩
theorem tuple_mul0 (l : Addr) (items : Array Value) (n : Nat) (dd : Option Addr) (sl : Array (Option Value)) (u : Tok) (hne : items.isEmpty = false) :
    Meets (Builtin.«tuple.__mul__» ⟨[.ref l, .int 0 u], []⟩) (fun _ R s => s.heap.get? l = some { cls := .type "tuple", dict := dd, data := .seq items n, slots := sl } ∧
      R (.ok (.ret (Value.ref s.heap.objs.size))) { s with heap := s.heap.push { cls := Value.type "tuple", data := Data.seq #[] }, toks := s.toks }) :=
  .of_wp fun prog w A R s h => by
    obtain ⟨hp, g, d, tk, os⟩ := s
    obtain ⟨hl, h⟩ := h
    have f1 := AutoSeq1.idx_int
    wp_walk using wpAny_loadPart' hl
    exact ⟨_, rfl, h⟩
def rRepA (K : PySem.W.Frag) : R2 := fun x y H Q => ∃ l k xs, x = .ref l ∧ y = .int k ∧ SqT K H l xs ∧ xs ≠ [] ∧ 0 ≤ k ∧ k ≤ 1000 ∧ xs.length ≤ 1000 ∧ (k = 1 → Q (.ref l) H) ∧ (k ≠ 1 → ∀ p, H p = none → Q (.ref p) (upd H p (.tup (List.replicate k.toNat xs).flatten)))
section
variable {X : Cx}
theorem op_repA : OpR X (binaryOp .Mult) (rRepA X.K) := by
  intro pins s σ H x y v u Q I rx ry h
  obtain ⟨l, k, xs, rfl, rfl, hT, hne, h1, h2, hz, q1, q⟩ := h
  by_cases hk : 2 ≤ k
  · exact op_repT pins s σ H _ _ v u Q I rx ry ⟨l, k, xs, rfl, rfl, hT, hne, hk, h2, hz, q (by omega)⟩
  cases rx
  obtain ⟨t, rfl⟩ := ry
  obtain ⟨its, r, ⟨⟨cls, dd, data, sl⟩, ho, hc, n, hd⟩, hs⟩ := I.tuple hT
  simp only at hc hd
  subst hc hd
  have hle : its.length = xs.length := r.length.symm
  have hi : its.toArray.isEmpty = false := by
    cases its with
    | nil => exact absurd (List.eq_nil_of_length_eq_zero hle.symm) hne
    | cons a b => rfl
  by_cases hk1 : k = 1
  · subst hk1
    refine wpAny_binaryOp_repeat_ref (T := "tuple") (U := "int") (by decide) ⟨_, ho, rfl⟩ (fun s' => typeIs_int s' 1 t) noFill_tuple_mul F.fills_int_mul F.slot_int_rmul repeat_tuple F.slot_int_index.lookup
      (call_meets F.slot_int_rmul (typeIs_int s 1 t) F.entry_int_rmul (F.args_int_rmul_2 _ _) (int_rmul_tuple 1 t l its.toArray n dd sl)
        ⟨ho, rfl, ⟨_, ho, rfl⟩, call_meets F.slot_tuple_mul ⟨_, ho, rfl⟩ F.entry_tuple_mul (F.args_tuple_mul_2 _ _) (tuple_mul1 l its.toArray n dd sl t) ⟨ho, ?_⟩⟩)
    exact ⟨.ref l, H, I, rfl, q1 rfl⟩
  · have hk0 : k = 0 := by omega
    subst hk0
    refine wpAny_binaryOp_repeat_ref (T := "tuple") (U := "int") (by decide) ⟨_, ho, rfl⟩ (fun s' => typeIs_int s' 0 t) noFill_tuple_mul F.fills_int_mul F.slot_int_rmul repeat_tuple F.slot_int_index.lookup
      (call_meets F.slot_int_rmul (typeIs_int s 0 t) F.entry_int_rmul (F.args_int_rmul_2 _ _) (int_rmul_tuple 0 t l its.toArray n dd sl)
        ⟨ho, rfl, ⟨_, ho, rfl⟩, call_meets F.slot_tuple_mul ⟨_, ho, rfl⟩ F.entry_tuple_mul (F.args_tuple_mul_2 _ _) (tuple_mul0 l its.toArray n dd sl t hi) ⟨ho, ?_⟩⟩)
    refine ⟨.ref s.heap.objs.size, _, I.laid (t' := s.toks) (o := .tup []) (fun b ob q => Heap.get?_push_of_some _ q) (Nat.le_refl _) ?_, rfl, q (by decide) _ (I.hok.fresh (Nat.le_refl _))⟩
    exact ⟨Nat.zero_le _, [], .nil, IsTup.new _ _⟩
/-- a list's item, to be changed -/
def rGetL (K : PySem.W.Frag) : V → V → Hp → VK → Prop := fun x y H Q => ∃ p xs i v, x = .ref p ∧ y = .int i ∧ SqL K H p xs ∧ 0 ≤ i ∧ atI xs i = some v ∧ Q v H
theorem get_list : PGet X (rGetL X.K) := by
  intro pins s σ H x y v u Q I rx ry h
  obtain ⟨p, xs, i, z, rfl, rfl, hq, h0, he, q⟩ := h
  cases rx
  obtain ⟨t, rfl⟩ := ry
  obtain ⟨its, r, pl, hz⟩ := I.list hq
  obtain ⟨j, h1, h2, h3, h4, h5⟩ := atI_get he
  obtain ⟨w, ew, rw'⟩ := r.get h2
  have hl := r.length
  have hn := line63
  have hj : i.toNat = j := by
    rw [seqIndex_of h0 h5] at h1
    exact Option.some.inj h1
  exact wpAny_getItem_list pl.isList h0 (by omega) (by rw [hj]; simpa using ew) ⟨z, H, I, rw', q⟩
theorem repK (K : PySem.W.Frag) (hK : X.K = K := by rfl) : OpR X (binaryOp .Mult) (rRepA K) := by subst hK; exact op_repA
theorem getK (K : PySem.W.Frag) (hK : X.K = K := by rfl) : PGet X (rGetL K) := by subst hK; exact get_list
def rMulW : R2 := fun x y H Q => ∃ i j, x = .int i ∧ y = .int j ∧ CMulW i j ∧ Q (.int (i * j)) H
theorem oMulW : OpR X (binaryOp .Mult) rMulW := op_mulW
end
end L2
/-! Short words for readings, in all laws. -/
namespace Sl
open PySem PySem.Spec
open PyProof.Rows L2
theorem sz4 {n : Nat} (h : n ≤ 1000) : n ≤ sizeLine := Nat.le_trans h (by decide)
theorem sz5 {n : Nat} (h : n ≤ 1000) : n < sizeLine := Nat.lt_of_le_of_lt h (by decide)
theorem sz6 {n : Nat} (h : n ≤ 1000000) : n < sizeLine := Nat.lt_of_le_of_lt h (by decide)
theorem one_sz (a : V) : [a].length ≤ sizeLine := by show 1 ≤ sizeLine; decide
theorem two_sz (a b : V) : [a, b].length ≤ sizeLine := by show 2 ≤ sizeLine; decide
theorem three_sz (a b c : V) : [a, b, c].length ≤ sizeLine := by show 3 ≤ sizeLine; decide
theorem four_sz (a b c e : V) : [a, b, c, e].length ≤ sizeLine := by show 4 ≤ sizeLine; decide
theorem ifBH {A B : Prop} {b : Bool} (h1 : b = true → A) (h2 : b = false → B) : if b = true then A else B := by
  cases b with
  | true => exact iteT (h1 rfl)
  | false => exact iteF (h2 rfl)
theorem iteT' {A B : Prop} {b : Bool} (h : b = true) (a : A) : if b = true then A else B := by rw [if_pos h]; exact a
theorem iteF' {A B : Prop} {b : Bool} (h : b = false) (a : B) : if b = true then A else B := by subst h; exact iteF a
theorem hand {te : TE} {σ : L2.St} {H : Hp} {R : VK} (G : VK) (h1 : ∀ R' : VK, (∀ v H', G v H' → R' v H') → te σ H R') (h2 : ∀ v H', G v H' → R v H') : te σ H R := h1 R h2
theorem handT {tt : TT} {σ : L2.St} {H : Hp} {R : Bool → Hp → Prop} (G : Bool → Hp → Prop) (h1 : ∀ R' : Bool → Hp → Prop, (∀ v H', G v H' → R' v H') → tt σ H R') (h2 : ∀ v H', G v H' → R v H') : tt σ H R := h1 R h2
theorem handS {ts : TS} {D : Ends} {σ : L2.St} {H : Hp} (G : L2.St → Hp → Prop) (h1 : ∀ D' : Ends, (∀ σ' H', G σ' H' → D'.nx σ' H') → ts D' σ H) (h2 : ∀ σ' H', G σ' H' → D.nx σ' H') : ts D σ H := h1 D h2
/-- a name is set by what a part of a reading leaves -/
theorem handA {te : TE} {g : TG} {ts : TS} {D : Ends} {σ : L2.St} {H : Hp} (G : V → Hp → Prop) (h1 : ∀ R' : VK, (∀ v H', G v H' → R' v H') → te σ H R') (h2 : ∀ v H', G v H' → g v σ H' (ts D)) : tSeq (tAsg te g) ts D σ H := h1 _ h2
theorem vdec (v : V) : V.bl (decide (v = v)) = .bl true := by rw [decide_eq_true rfl]
theorem kdec {Q : VK} {H : Hp} (v : V) (h : Q (.bl true) H) : Q (.bl (decide (v = v))) H := by
  rw [decide_eq_true rfl]
  exact h
theorem ndec {v u : V} (h : v ≠ u) : V.bl (decide (v = u)) = .bl false := by rw [decide_eq_false h]
theorem ndecN {v u : V} (h : v = u) : V.bl (!decide (v = u)) = .bl false := by rw [decide_eq_true h] <;> rfl
theorem vdecN {v u : V} (h : v ≠ u) : V.bl (!decide (v = u)) = .bl true := by rw [decide_eq_false h] <;> rfl
theorem intE {a b : Int} : V.bl (decide (V.int a = V.int b)) = V.bl (decide (a = b)) := congrArg V.bl (decide_eq_decide.mpr ⟨V.int.inj, congrArg V.int⟩)
theorem intN {a b : Int} : V.bl (!decide (V.int a = V.int b)) = V.bl (!decide (a = b)) := by rw [V.bl.inj intE]
theorem ex_new2 {H : Hp} {p : Addr} {a b : HO} (h : H p = none) : Ex H (upd (upd H p a) p b) := fun x o e => by
  rw [upd_ne (ne_of_none e h), upd_ne (ne_of_none e h)]
  exact e
/-- one's own is written -/
theorem ex_own {H H' : Hp} {l : Addr} {o : HO} (e : Ex H H') (h : H l = none) : Ex H (upd H' l o) := fun b u q => by
  rw [upd_ne (ne_of_none q h)]
  exact e b u q
theorem tl_list {K : PySem.W.Frag} {H : Hp} {l : Addr} {xs : List V} (h : H l = some (.lst xs)) : tyV K "list" (.ref l) H := .inl ⟨rfl, xs, SqL.of h⟩
theorem tyT {K : PySem.W.Frag} {H : Hp} {a : Addr} {xs : List V} (h : SqT K H a xs) : TyX K H (.ref a) (.type "tuple") := by
  rcases h with (h | ⟨o, h⟩) | ⟨o, its, n, h, hc, _⟩
  · exact .base (.tup h)
  · exact .fTuple h
  · exact .kTuple h hc
section
variable {K : PySem.W.Frag} {H : Hp} {a b c e : D} {v : V}
theorem slots2 (h : RD K H (.tup [a, b]) v) : ∃ p x y, v = .ref p ∧ SqT K H p [x, y] ∧ RD K H a x ∧ RD K H b y := by
  obtain ⟨p, xs, rfl, hp, r⟩ := h.ofTup
  obtain ⟨x, w, rfl, r1, r⟩ := r.ofCons
  obtain ⟨y, w, rfl, r2, r⟩ := r.ofCons
  obtain rfl := r.ofNil
  exact ⟨p, x, y, rfl, hp, r1, r2⟩
theorem slots3 (h : RD K H (.tup [a, b, c]) v) : ∃ p x y z, v = .ref p ∧ SqT K H p [x, y, z] ∧ RD K H a x ∧ RD K H b y ∧ RD K H c z := by
  obtain ⟨p, xs, rfl, hp, r⟩ := h.ofTup
  obtain ⟨x, w, rfl, r1, r⟩ := r.ofCons
  obtain ⟨y, w, rfl, r2, r⟩ := r.ofCons
  obtain ⟨z, w, rfl, r3, r⟩ := r.ofCons
  obtain rfl := r.ofNil
  exact ⟨p, x, y, z, rfl, hp, r1, r2, r3⟩
theorem slots4 (h : RD K H (.tup [a, b, c, e]) v) : ∃ p x y z w, v = .ref p ∧ SqT K H p [x, y, z, w] ∧ RD K H a x ∧ RD K H b y ∧ RD K H c z ∧ RD K H e w := by
  obtain ⟨p, xs, rfl, hp, r⟩ := h.ofTup
  obtain ⟨x, w, rfl, r1, r⟩ := r.ofCons
  obtain ⟨y, w, rfl, r2, r⟩ := r.ofCons
  obtain ⟨z, w, rfl, r3, r⟩ := r.ofCons
  obtain ⟨u, w, rfl, r4, r⟩ := r.ofCons
  obtain rfl := r.ofNil
  exact ⟨p, x, y, z, u, rfl, hp, r1, r2, r3, r4⟩
theorem slotsI {ns : List Int} (h : RD K H (.tup (ns.map D.int)) v) : ∃ p, v = .ref p ∧ SqT K H p (ns.map V.int) := by
  obtain ⟨p, xs, rfl, hp, r⟩ := h.ofTup
  rw [r.ints] at hp
  exact ⟨p, rfl, hp⟩
end
/-- a new tuple of data -/
theorem rd_new {K : PySem.W.Frag} {H : Hp} {p : Addr} {ds : List D} {xs : List V} (h : H p = none) (r : RDs K H ds xs) : RD K (upd H p (.tup xs)) (.tup ds) (.ref p) := .tup (.inl (.inl upd_same)) (r.mono (ex_new h).t)
/-! ### lists of things that are told -/
/-- each value is as its descriptor says -/
def LP {α : Type} (VP : Hp → α → V → Prop) (H : Hp) (as : List α) (xs : List V) : Prop := xs.length = as.length ∧ ∀ (j : Nat) (a : α), as[j]? = some a → ∃ v, xs[j]? = some v ∧ VP H a v
def Mono {α : Type} (VP : Hp → α → V → Prop) : Prop := ∀ H H' a v, Ex H H' → VP H a v → VP H' a v
section
variable {α : Type} {VP : Hp → α → V → Prop} {H H' : Hp} {as bs : List α} {xs ys : List V}
theorem LP.nil : LP VP H [] [] := ⟨rfl, fun j a h => by simp at h⟩
theorem LP.mono (m : Mono VP) (e : Ex H H') (h : LP VP H as xs) : LP VP H' as xs := ⟨h.1, fun j a ha => by
  obtain ⟨v, h1, h2⟩ := h.2 j a ha
  exact ⟨v, h1, m _ _ _ _ e h2⟩⟩
theorem LP.app (h : LP VP H as xs) (k : LP VP H bs ys) : LP VP H (as ++ bs) (xs ++ ys) := by
  refine ⟨by rw [List.length_append, List.length_append, h.1, k.1], fun j a ha => ?_⟩
  by_cases c : j < as.length
  · rw [List.getElem?_append_left c] at ha
    rw [List.getElem?_append_left (by rw [h.1]; exact c)]
    exact h.2 j a ha
  · rw [List.getElem?_append_right (by omega)] at ha
    rw [List.getElem?_append_right (by rw [h.1]; omega), h.1]
    exact k.2 _ a ha
theorem LP.one {a : α} {v : V} (h : VP H a v) : LP VP H [a] [v] := ⟨rfl, fun j b hb => by
  have : j = 0 := by
    have := (List.getElem?_eq_some_iff.mp hb).1
    simp at this
    exact this
  subst this
  cases hb
  exact ⟨v, rfl, h⟩⟩
theorem LP.snoc {a : α} {v : V} (h : LP VP H as xs) (k : VP H a v) : LP VP H (as ++ [a]) (xs ++ [v]) := h.app (.one k)
theorem LP.getV {i : Nat} {v : V} (h : LP VP H as xs) (e : xs[i]? = some v) : ∃ a, as[i]? = some a ∧ VP H a v := by
  have hi := (List.getElem?_eq_some_iff.mp e).1
  rw [h.1] at hi
  obtain ⟨w, h1, h2⟩ := h.2 i as[i] (List.getElem?_eq_getElem hi)
  rw [e] at h1
  cases h1
  exact ⟨_, List.getElem?_eq_getElem hi, h2⟩
theorem LP.cons {a : α} {v : V} (h : VP H a v) (k : LP VP H as xs) : LP VP H (a :: as) (v :: xs) := (LP.one h).app k
theorem LP.set {i : Nat} {a : α} {v : V} (h : LP VP H as xs) (k : VP H a v) : LP VP H (as.set i a) (xs.set i v) := by
  refine ⟨by rw [List.length_set, List.length_set, h.1], fun j b hb => ?_⟩
  by_cases c : i = j
  · subst c
    have hi : i < as.length := by
      have := (List.getElem?_eq_some_iff.mp hb).1
      rwa [List.length_set] at this
    rw [List.getElem?_set_self hi] at hb
    cases hb
    exact ⟨v, List.getElem?_set_self (by rw [h.1]; exact hi), k⟩
  · rw [List.getElem?_set_ne c] at hb ⊢
    exact h.2 j b hb
theorem LP.imp {VP' : Hp → α → V → Prop} (m : ∀ a v, VP H a v → VP' H' a v) (h : LP VP H as xs) : LP VP' H' as xs := ⟨h.1, fun j a ha => by
  obtain ⟨v, h1, h2⟩ := h.2 j a ha
  exact ⟨v, h1, m _ _ h2⟩⟩
end
theorem rd_mono {K : PySem.W.Frag} : Mono (RD K) := fun _ _ _ _ e h => h.mono e.t
theorem LP.rds {K : PySem.W.Frag} {H : Hp} : ∀ {ds : List D} {xs : List V}, LP (RD K) H ds xs → RDs K H ds xs
  | [], [], _ => .nil
  | [], _ :: _, h => by cases h.1
  | d :: ds, xs, h => by
    obtain ⟨v, h1, h2⟩ := h.2 0 d rfl
    cases xs with
    | nil => cases h1
    | cons x xs =>
      cases h1
      refine .cons h2 (LP.rds ⟨by have := h.1; simpa using this, fun j a ha => ?_⟩)
      exact h.2 (j + 1) a ha
theorem RDs.lp {K : PySem.W.Frag} {H : Hp} {ds : List D} {xs : List V} (r : RDs K H ds xs) : LP (RD K) H ds xs := ⟨r.len, fun j a ha => r.get ha⟩
theorem upd_id {H : Hp} {D : Addr} {o : HO} (h : H D = some o) : L2.upd H D o = H := funext fun a => by
  by_cases e : a = D
  · subst e; rw [upd_same, h]
  · rw [upd_ne e]
theorem ex_upd {H H' : Hp} (e : Ex H H') (D : Addr) (o : HO) : Ex (L2.upd H D o) (L2.upd H' D o) := fun a u h => by
  by_cases z : a = D
  · subst z; rw [upd_same] at h ⊢; exact h
  · rw [upd_ne z] at h ⊢; exact e _ _ h
theorem upd_upd {H : Hp} {D : Addr} {o o' : HO} : L2.upd (L2.upd H D o) D o' = L2.upd H D o' := funext fun a => by
  by_cases e : a = D
  · subst e; rw [upd_same, upd_same]
  · rw [upd_ne e, upd_ne e, upd_ne e]
/-- a comprehension whose things are told one by one -/
theorem lcP {α : Type} {VP : Hp → α → V → Prop} {J : It} {n : Nat} {G : Hp → Prop} {Y : Nat → Hp → V → Hp → Prop} (m : Mono VP) {g : TG} {tt : TT} {te : TE} {vs : List Nat} {σ : L2.St} {H1 : Hp} {D : Addr} {Qd : Hp → Prop} (hD : H1 D = none) (w : Walk J n G Y) (as : Nat → List α) (h0 : as 0 = [])
    (hG : ∀ H, Ex H1 H → G H) (hz : ∀ i, i < n → (as i).length ≤ 1000000)
    (hs : ∀ i x H H', i < n → Ex H1 H → (∃ zs, H D = some (.lst zs)) → Y i H x H' → ∀ (R : VK) (N : Hp → Prop), (∀ y H4 a, Ex H H4 → (∀ zs : List V, VP (L2.upd H4 D (.lst zs)) a y) → as (i + 1) = as i ++ [a] → R y H4) → (∀ H3, Ex H H3 → as (i + 1) = as i → N H3) →
      g x (wipe σ vs) H' fun σ2 H2 => wipe σ2 vs = wipe σ vs ∧ tt σ2 H2 fun b H3 => if b = true then te σ2 H3 R else N H3)
    (hd : ∀ H xs, Ex H1 H → H D = some (.lst xs) → LP VP H (as n) xs → Qd H) :
    ∃ W : Nat → Nat → Hp → Prop, (∃ m, W 0 m (L2.upd H1 D (.lst []))) ∧ ∀ i m H, W i m H →
      (J.stop i H ∧ Qd H) ∨ (J.go i H ∧ ∃ Nx : Hp → Prop, (∀ H', Nx H' → ∃ m', m' < m ∧ W (i + 1) m' H') ∧ ∀ x H', J.yld i H x H' → g x (wipe σ vs) H' fun σ2 H2 => wipe σ2 vs = wipe σ vs ∧ tt σ2 H2 fun b H3 =>
        if b = true then te σ2 H3 fun y H4 => ∃ acc, H4 D = some (.lst acc) ∧ acc.length < sizeLine ∧ Nx (L2.upd H4 D (.lst (acc ++ [y]))) else Nx H3) := by
  refine lc_it w (fun i H' => Ex H1 H' ∧ ∃ xs, H' D = some (.lst xs) ∧ ∀ zs : List V, LP VP (L2.upd H' D (.lst zs)) (as i) xs) ⟨ex_new hD, [], upd_same, fun zs => by rw [h0]; exact .nil⟩ (fun i H _ h => hG H h.1) ?_ ?_
  · rintro i x H H' hi ⟨e, xs, hx, l⟩ hy
    refine hs i x H H' hi e ⟨xs, hx⟩ hy _ _ (fun y H4 a e4 hv hA => ?_) (fun H3 e3 hA => ?_)
    · refine ⟨xs, e4 _ _ hx, ?_, ex_own (e.trans e4) hD, _, upd_same, fun zs => ?_⟩
      · rw [(l []).1]; exact sz6 (hz i hi)
      · rw [hA, upd_upd]
        exact ((l zs).mono m (ex_upd e4 D _)).snoc (hv zs)
    · exact ⟨e.trans e3, xs, e3 _ _ hx, fun zs => by rw [hA]; exact (l zs).mono m (ex_upd e3 D _)⟩
  · rintro H ⟨e, xs, hx, l⟩
    have := l xs
    rw [upd_id hx] at this
    exact hd H xs e hx this
/-- .. that are data -/
theorem lcD {K : PySem.W.Frag} {J : It} {n : Nat} {G : Hp → Prop} {Y : Nat → Hp → V → Hp → Prop} {g : TG} {tt : TT} {te : TE} {vs : List Nat} {σ : L2.St} {H1 : Hp} {D : Addr} {Qd : Hp → Prop} (hD : H1 D = none) (w : Walk J n G Y) (ds : Nat → List Sl.D) (h0 : ds 0 = [])
    (hG : ∀ H, Ex H1 H → G H) (hz : ∀ i, i < n → (ds i).length ≤ 1000000)
    (hs : ∀ i x H H', i < n → Ex H1 H → Y i H x H' → ∀ (R : VK) (N : Hp → Prop), (∀ y H4 d, Ex H H4 → RD K H4 d y → ds (i + 1) = ds i ++ [d] → R y H4) → (∀ H3, Ex H H3 → ds (i + 1) = ds i → N H3) →
      g x (wipe σ vs) H' fun σ2 H2 => wipe σ2 vs = wipe σ vs ∧ tt σ2 H2 fun b H3 => if b = true then te σ2 H3 R else N H3)
    (hd : ∀ H xs, Ex H1 H → H D = some (.lst xs) → RDs K H (ds n) xs → Qd H) :
    ∃ W : Nat → Nat → Hp → Prop, (∃ m, W 0 m (L2.upd H1 D (.lst []))) ∧ ∀ i m H, W i m H →
      (J.stop i H ∧ Qd H) ∨ (J.go i H ∧ ∃ Nx : Hp → Prop, (∀ H', Nx H' → ∃ m', m' < m ∧ W (i + 1) m' H') ∧ ∀ x H', J.yld i H x H' → g x (wipe σ vs) H' fun σ2 H2 => wipe σ2 vs = wipe σ vs ∧ tt σ2 H2 fun b H3 =>
        if b = true then te σ2 H3 fun y H4 => ∃ acc, H4 D = some (.lst acc) ∧ acc.length < sizeLine ∧ Nx (L2.upd H4 D (.lst (acc ++ [y]))) else Nx H3) :=
  lcP (rd_mono (K := K)) hD w ds h0 hG hz (fun i x H H' hi e ⟨zs0, hz0⟩ hy R N kR kN => hs i x H H' hi e hy R N (fun y H4 d e4 r hA => kR y H4 d e4 (fun zs => r.mono (tex_put (e4 _ _ hz0) (by intro xs z; cases z) (by intro a b z; cases z))) hA) kN)
    fun H xs e hx l => hd H xs e hx l.rds
theorem trues {K : PySem.W.Frag} {H : Hp} : ∀ {n : Nat} {xs : List V}, RDs K H (List.replicate n (.bl true)) xs → xs = (List.replicate n true).map V.bl
  | 0, _, r => r.ofNil
  | n + 1, _, r => by
    obtain ⟨v, ws, rfl, h1, h2⟩ := RDs.ofCons (show RDs K H (.bl true :: List.replicate n (.bl true)) _ from r)
    rw [h1.ofBl, trues h2]
    rfl
theorem all_trues (n : Nat) : (List.replicate n true).all id = true := by
  rw [List.all_eq_true]
  intro b hb
  exact List.eq_of_mem_replicate hb
theorem rep_succ {α : Type} (n : Nat) (a : α) : List.replicate (n + 1) a = List.replicate n a ++ [a] := List.replicate_succ'
theorem walk_zipT {K : PySem.W.Frag} {a b : Addr} {xs ys : List V} {n : Nat} (hn : n = min xs.length ys.length) : Walk (RZ.ItzT K a b) n (fun H => SqT K H a xs ∧ SqT K H b ys) (YPair (fun i => xs[i]?) (fun i => ys[i]?)) := by
  subst hn
  refine ⟨fun i _ hi q => ?_, fun _ q => ⟨xs, ys, q.1, q.2, by omega⟩, fun i H v H' _ q y => ?_⟩
  · have h1 : i < xs.length := by omega
    have h2 : i < ys.length := by omega
    exact ⟨xs, ys, xs[i], ys[i], q.1, q.2, by simp [h1], by simp [h2]⟩
  · obtain ⟨T, x, z, h1, h2, h3, h4, h5⟩ := y
    exact ⟨T, x, z, h1, h2, h3, h4 xs q.1, h5 ys q.2⟩
theorem zipK {X : Cx} (K : PySem.W.Frag) {e e2 : Expr} {ta : TA} {p pos tpos : Pos} {elts : List Expr} {kk : Nat} (hg : Gl X "zip") (hm : X.mg "zip" = none) (ha : PA X [e, e2] ta) (hK : X.K = K := by rfl)
    (hs : starEach [e, e2] X.env = (false, eval e X.env) :: starEach [e2] X.env := by rfl) (hpl : (backTo pos (starEach [e2] X.env)).any (·.1) = false := by rfl) :
    PI X (.Tuple elts kk tpos) (.Call (.Name "zip" p) [e, e2] [] pos) (RZ.iZipA K ta) := by
  subst hK
  exact RZ.pi_zipA hg hm ha hs hpl
theorem ixN_nat {n j : Nat} (h : j < n) : ixN n (j : Int) = some j := by
  unfold ixN
  rw [if_pos (by omega), if_pos (by omega)]
  exact congrArg some (Int.toNat_natCast _)
def TMono {α : Type} (VP : Hp → α → V → Prop) : Prop := ∀ H H' a v, TEx H H' → VP H a v → VP H' a v
theorem TMono.m {α : Type} {VP : Hp → α → V → Prop} (h : TMono VP) : Mono VP := fun H H' a v e => h H H' a v e.t
/-- a comprehension whose things lean on tuples alone -/
theorem lcT {α : Type} {VP : Hp → α → V → Prop} {J : It} {n : Nat} {G : Hp → Prop} {Y : Nat → Hp → V → Hp → Prop} (m : TMono VP) {g : TG} {tt : TT} {te : TE} {vs : List Nat} {σ : L2.St} {H1 : Hp} {D : Addr} {Qd : Hp → Prop} (hD : H1 D = none) (w : Walk J n G Y) (as : Nat → List α) (h0 : as 0 = [])
    (hG : ∀ H, Ex H1 H → G H) (hz : ∀ i, i < n → (as i).length ≤ 1000000)
    (hs : ∀ i x H H', i < n → Ex H1 H → Y i H x H' → ∀ (R : VK) (N : Hp → Prop), (∀ y H4 a, Ex H H4 → VP H4 a y → as (i + 1) = as i ++ [a] → R y H4) → (∀ H3, Ex H H3 → as (i + 1) = as i → N H3) →
      g x (wipe σ vs) H' fun σ2 H2 => wipe σ2 vs = wipe σ vs ∧ tt σ2 H2 fun b H3 => if b = true then te σ2 H3 R else N H3)
    (hd : ∀ H xs, Ex H1 H → H D = some (.lst xs) → LP VP H (as n) xs → Qd H) :
    ∃ W : Nat → Nat → Hp → Prop, (∃ m, W 0 m (L2.upd H1 D (.lst []))) ∧ ∀ i m H, W i m H →
      (J.stop i H ∧ Qd H) ∨ (J.go i H ∧ ∃ Nx : Hp → Prop, (∀ H', Nx H' → ∃ m', m' < m ∧ W (i + 1) m' H') ∧ ∀ x H', J.yld i H x H' → g x (wipe σ vs) H' fun σ2 H2 => wipe σ2 vs = wipe σ vs ∧ tt σ2 H2 fun b H3 =>
        if b = true then te σ2 H3 fun y H4 => ∃ acc, H4 D = some (.lst acc) ∧ acc.length < sizeLine ∧ Nx (L2.upd H4 D (.lst (acc ++ [y]))) else Nx H3) :=
  lcP m.m hD w as h0 hG hz (fun i x H H' hi e ⟨zs0, hz0⟩ hy R N kR kN => hs i x H H' hi e hy R N (fun y H4 a e4 r hA => kR y H4 a e4 (fun zs => m _ _ _ _ (tex_put (e4 _ _ hz0) (by intro xs z; cases z) (by intro a b z; cases z)) r) hA) kN) hd
/-! ### lists of one's own lists -/
structure OL {α : Type} (VP : Hp → α → V → Prop) (H1 H : Hp) (D : Addr) (qs : List Addr) (rows : List (List α)) : Prop where
  l : H D = some (.lst (qs.map V.ref))
  nd : qs.Nodup
  fr : ∀ q ∈ qs, H1 q = none
  fD : H1 D = none
  nD : D ∉ qs
  len : qs.length = rows.length
  rw_ : ∀ (i : Nat) (as : List α), rows[i]? = some as → ∃ q xs, qs[i]? = some q ∧ H q = some (.lst xs) ∧ LP VP H as xs
section
variable {α : Type} {VP : Hp → α → V → Prop} {H0 H1 H H' : Hp} {D : Addr} {qs : List Addr} {rows : List (List α)}
theorem OL.ex (m : TMono VP) (h : OL VP H1 H D qs rows) (e : Ex H H') : OL VP H1 H' D qs rows :=
  ⟨e _ _ h.l, h.nd, h.fr, h.fD, h.nD, h.len, fun i as hi => by
    obtain ⟨q, xs, a, b, c⟩ := h.rw_ i as hi
    exact ⟨q, xs, a, e _ _ b, c.mono m.m e⟩⟩
/-- .. with regard to an earlier heap -/
theorem OL.back (h : OL VP H1 H D qs rows) (e : Ex H0 H1) : OL VP H0 H D qs rows :=
  have back : ∀ a, H1 a = none → H0 a = none := fun a ha => by
    cases z : H0 a with
    | none => rfl
    | some o => rw [e _ _ z] at ha; cases ha
  ⟨h.l, h.nd, fun q hq => back q (h.fr q hq), back D h.fD, h.nD, h.len, h.rw_⟩
theorem OL.tex (h : OL VP H1 H D qs rows) {q : Addr} (hq : q ∈ qs) (o : HO) : TEx H (L2.upd H q o) := by
  obtain ⟨i, hi, e⟩ := List.getElem_of_mem hq
  have hr : rows[i]? = some (rows[i]'(by rw [← h.len]; exact hi)) := List.getElem?_eq_getElem _
  obtain ⟨q', xs, h1, h2, _⟩ := h.rw_ i _ hr
  rw [List.getElem?_eq_getElem hi, e] at h1
  cases h1
  exact tex_put h2 (by intro xs z; cases z) (by intro a b z; cases z)
/-- something else is written -/
theorem OL.other (m : TMono VP) (h : OL VP H1 H D qs rows) {a : Addr} {o : HO} (hD : a ≠ D) (hq : a ∉ qs) (t : TEx H (L2.upd H a o)) : OL VP H1 (L2.upd H a o) D qs rows :=
  ⟨by rw [upd_ne hD.symm]; exact h.l, h.nd, h.fr, h.fD, h.nD, h.len, fun i as hi => by
    obtain ⟨q, xs, b, c, d⟩ := h.rw_ i as hi
    have : q ≠ a := fun z => hq (z ▸ List.mem_of_getElem? b)
    exact ⟨q, xs, b, by rw [upd_ne this]; exact c, d.imp fun _ _ y => m _ _ _ _ t y⟩⟩
/-- a row becomes another -/
theorem OL.put (m : TMono VP) (h : OL VP H1 H D qs rows) {i : Nat} {q : Addr} {as : List α} {xs : List V} (hi : qs[i]? = some q) (l : LP VP H as xs) : OL VP H1 (L2.upd H q (.lst xs)) D qs (rows.set i as) := by
  have hq := List.mem_of_getElem? hi
  have t := h.tex hq (.lst xs)
  have hil : i < rows.length := by
    have := (List.getElem?_eq_some_iff.mp hi).1
    rw [h.len] at this
    exact this
  refine ⟨?_, h.nd, h.fr, h.fD, h.nD, by rw [List.length_set]; exact h.len, fun j bs hj => ?_⟩
  · rw [upd_ne (show D ≠ q from fun z => h.nD (by rw [z]; exact hq))]
    exact h.l
  · by_cases e : i = j
    · subst e
      rw [List.getElem?_set_self hil] at hj
      cases hj
      exact ⟨q, xs, hi, upd_same, l.imp fun _ _ y => m _ _ _ _ t y⟩
    · rw [List.getElem?_set_ne e] at hj
      obtain ⟨q', ys, b, c, d⟩ := h.rw_ j bs hj
      have hne : q' ≠ q := fun z => by
        subst z
        exact e ((List.getElem?_inj (List.getElem?_eq_some_iff.mp hi).1 h.nd).mp (hi.trans b.symm))
      exact ⟨q', ys, b, by rw [upd_ne hne]; exact c, d.imp fun _ _ y => m _ _ _ _ t y⟩
theorem OL.frame (h : OL VP H1 H D qs rows) (e : Ex H1 H) {q : Addr} (hq : q ∈ qs) (o : HO) : Ex H1 (L2.upd H q o) := ex_own e (h.fr q hq)
end
/-- a comprehension of new lists -/
theorem lcO {α : Type} {VP : Hp → α → V → Prop} {J : It} {n : Nat} {G : Hp → Prop} {Y : Nat → Hp → V → Hp → Prop} (m : TMono VP) {g : TG} {tt : TT} {te : TE} {vs : List Nat} {σ : L2.St} {H1 : Hp} {D : Addr} {Qd : Hp → Prop} (hD : H1 D = none) (w : Walk J n G Y) (rows : Nat → List (List α)) (h0 : rows 0 = [])
    (hG : ∀ H, Ex H1 H → G H) (hz : ∀ i, i < n → (rows i).length ≤ 1000000)
    (hs : ∀ i x H H', i < n → Ex H1 H → Y i H x H' → ∀ (R : VK) (N : Hp → Prop), (∀ q H4 xs as, Ex H H4 → H q = none → H4 q = some (.lst xs) → LP VP H4 as xs → rows (i + 1) = rows i ++ [as] → R (.ref q) H4) → (∀ H3, Ex H H3 → rows (i + 1) = rows i → N H3) →
      g x (wipe σ vs) H' fun σ2 H2 => wipe σ2 vs = wipe σ vs ∧ tt σ2 H2 fun b H3 => if b = true then te σ2 H3 R else N H3)
    (hd : ∀ H qs, Ex H1 H → OL VP H1 H D qs (rows n) → Qd H) :
    ∃ W : Nat → Nat → Hp → Prop, (∃ m, W 0 m (L2.upd H1 D (.lst []))) ∧ ∀ i m H, W i m H →
      (J.stop i H ∧ Qd H) ∨ (J.go i H ∧ ∃ Nx : Hp → Prop, (∀ H', Nx H' → ∃ m', m' < m ∧ W (i + 1) m' H') ∧ ∀ x H', J.yld i H x H' → g x (wipe σ vs) H' fun σ2 H2 => wipe σ2 vs = wipe σ vs ∧ tt σ2 H2 fun b H3 =>
        if b = true then te σ2 H3 fun y H4 => ∃ acc, H4 D = some (.lst acc) ∧ acc.length < sizeLine ∧ Nx (L2.upd H4 D (.lst (acc ++ [y]))) else Nx H3) := by
  refine lc_it w (fun i H' => Ex H1 H' ∧ ∃ qs, OL VP H1 H' D qs (rows i)) ⟨ex_new hD, [], upd_same, by simp, by simp, hD, by simp, by rw [h0]; rfl, fun i as hi => by rw [h0] at hi; simp at hi⟩ (fun i H _ h => hG H h.1) ?_ ?_
  · rintro i x H H' hi ⟨e, qs, o⟩ hy
    refine hs i x H H' hi e hy _ _ (fun q H4 xs as e4 hq hq4 l hA => ?_) (fun H3 e3 hA => ?_)
    · have nq : q ∉ qs := fun z => by
        obtain ⟨j, hj, ej⟩ := List.getElem_of_mem z
        obtain ⟨q', ys, h1, h2, _⟩ := o.rw_ j _ (List.getElem?_eq_getElem (by rw [← o.len]; exact hj))
        rw [List.getElem?_eq_getElem hj, ej] at h1
        cases h1
        rw [h2] at hq; cases hq
      have nqD : q ≠ D := fun z => by rw [z, o.l] at hq; cases hq
      have hq1 : H1 q = none := by
        cases z : H1 q with
        | none => rfl
        | some u => rw [e _ _ z] at hq; cases hq
      have oD := e4 _ _ o.l
      have t : TEx H4 (L2.upd H4 D (.lst (qs.map V.ref ++ [.ref q]))) := tex_put oD (by intro xs z; cases z) (by intro a b z; cases z)
      refine ⟨_, oD, ?_, ex_own (e.trans e4) hD, qs ++ [q], by rw [upd_same, List.map_append]; rfl, ?_, ?_, hD, ?_, by rw [hA, List.length_append, List.length_append, o.len]; rfl, fun j bs hj => ?_⟩
      · rw [List.length_map, o.len]; exact sz6 (hz i hi)
      · rw [List.nodup_append]
        exact ⟨o.nd, by simp, fun a ha b hb => by rw [List.mem_singleton.mp hb]; exact fun z => nq (z ▸ ha)⟩
      · intro a ha
        rcases List.mem_append.mp ha with z | z
        · exact o.fr a z
        · rw [List.mem_singleton.mp z]; exact hq1
      · intro z
        rcases List.mem_append.mp z with z | z
        · exact o.nD z
        · exact nqD (List.mem_singleton.mp z).symm
      · rw [hA] at hj
        by_cases c : j < (rows i).length
        · rw [List.getElem?_append_left c] at hj
          obtain ⟨q', ys, h1, h2, h3⟩ := o.rw_ j bs hj
          have hne : q' ≠ D := fun z => o.nD (z ▸ List.mem_of_getElem? h1)
          exact ⟨q', ys, by rw [List.getElem?_append_left (by rw [o.len]; exact c)]; exact h1, by rw [upd_ne hne]; exact e4 _ _ h2, (h3.mono m.m e4).imp fun _ _ y => m _ _ _ _ t y⟩
        · rw [List.getElem?_append_right (by omega)] at hj
          have hj0 : j - (rows i).length = 0 := by
            have := (List.getElem?_eq_some_iff.mp hj).1
            simp at this
            omega
          rw [hj0] at hj
          cases hj
          exact ⟨q, xs, by rw [List.getElem?_append_right (by rw [o.len]; omega), o.len, hj0]; rfl, by rw [upd_ne nqD]; exact hq4, l.imp fun _ _ y => m _ _ _ _ t y⟩
    · exact ⟨e.trans e3, qs, by rw [hA]; exact o.ex m e3⟩
  · rintro H ⟨e, qs, o⟩
    exact hd H qs e o
/-! ### numbers in lists -/
theorem flat_ints (l : List Int) : (l.map V.int).all flatV = true := by
  rw [List.all_eq_true]
  intro v hv
  obtain ⟨i, _, rfl⟩ := List.mem_map.mp hv
  rfl
theorem eqV_int (a b : Int) : eqV (.int a) (.int b) = decide (a = b) := by
  show (a == b) = decide (a = b)
  rw [Bool.eq_iff_iff]
  simp
theorem inV_int (a : Int) (l : List Int) : inV (.int a) (l.map V.int) = decide (a ∈ l) := by
  rw [Bool.eq_iff_iff]
  simp only [inV, List.any_map, List.any_eq_true, Function.comp, eqV_int, decide_eq_true_eq]
  exact ⟨fun ⟨x, h1, h2⟩ => h2 ▸ h1, fun h => ⟨a, h, rfl⟩⟩
theorem idxMK {X : Cx} (K : PySem.W.Frag) (hK : X.K = K := by rfl) : MtR X "list.index" (rIndex K) := by subst hK; exact mt_index
theorem walk_range0 {n : Nat} : Walk (Itr 0 n) n (fun _ => True) (YFn fun i => .int ((i : Nat) : Int)) := by
  have h := walk_range (lo := 0) (n := n)
  have e : (fun i : Nat => V.int (0 + (i : Int))) = fun i : Nat => V.int ((i : Nat) : Int) := funext fun i => by rw [Int.zero_add]
  rw [e] at h
  exact h
theorem LP.rep {α : Type} {VP : Hp → α → V → Prop} {H : Hp} {a : α} {v : V} (h : VP H a v) : ∀ n, LP VP H (List.replicate n a) (List.replicate n v)
  | 0 => .nil
  | n + 1 => .cons h (LP.rep h n)
theorem erase_map {α β : Type} (f : α → β) : ∀ (l : List α) (j : Nat), (l.map f).eraseIdx j = (l.eraseIdx j).map f
  | [], _ => rfl
  | _ :: _, 0 => rfl
  | a :: l, j + 1 => by
    rw [List.map_cons, List.eraseIdx_cons_succ, List.eraseIdx_cons_succ, List.map_cons, erase_map f l j]
end Sl
/-! Series over a semiring; systems of equations with series; their solving by elimination. -/
namespace Pm
class Cs (S : Type) extends Add S, Mul S, Zero S, One S where
  aas : ∀ a b c : S, a + b + c = a + (b + c)
  aco : ∀ a b : S, a + b = b + a
  zad : ∀ a : S, 0 + a = a
  mas : ∀ a b c : S, a * b * c = a * (b * c)
  mco : ∀ a b : S, a * b = b * a
  omu : ∀ a : S, 1 * a = a
  zmu : ∀ a : S, 0 * a = 0
  dis : ∀ a b c : S, a * (b + c) = a * b + a * c
open Cs
section
variable {S : Type} [Cs S]
theorem adz (a : S) : a + 0 = a := by rw [aco, zad]
theorem muo (a : S) : a * 1 = a := by rw [mco, omu]
theorem muz (a : S) : a * 0 = 0 := by rw [mco, zmu]
theorem dis2 (a b c : S) : (a + b) * c = a * c + b * c := by rw [mco, dis, mco c a, mco c b]
theorem alc (a b c : S) : a + (b + c) = b + (a + c) := by rw [← aas, aco a b, aas]
theorem a4 (a b c d : S) : (a + b) + (c + d) = (a + c) + (b + d) := by rw [aas, alc b c d, ← aas]
theorem mlc (a b c : S) : a * (b * c) = b * (a * c) := by rw [← mas, mco a b, mas]
end
/-! ### series -/
structure Ps (S : Type) where
  c : Nat → S
@[ext] theorem Ps.ext' {S : Type} {a b : Ps S} (h : ∀ n, a.c n = b.c n) : a = b := by
  cases a; cases b
  congr 1
  exact funext h
section
variable {S : Type} [Cs S]
/-- product, as of streams -/
def mulC : (Nat → S) → (Nat → S) → Nat → S
  | a, b, 0 => a 0 * b 0
  | a, b, n + 1 => a 0 * b (n + 1) + mulC (fun i => a (i + 1)) b n
instance : Zero (Ps S) := ⟨⟨fun _ => 0⟩⟩
instance : One (Ps S) := ⟨⟨fun n => if n = 0 then 1 else 0⟩⟩
instance : Add (Ps S) := ⟨fun a b => ⟨fun n => a.c n + b.c n⟩⟩
instance : Mul (Ps S) := ⟨fun a b => ⟨mulC a.c b.c⟩⟩
theorem c_add (a b : Ps S) (n : Nat) : (a + b).c n = a.c n + b.c n := rfl
theorem c_zero (n : Nat) : (0 : Ps S).c n = 0 := rfl
theorem c_mul (a b : Ps S) (n : Nat) : (a * b).c n = mulC a.c b.c n := rfl
theorem c_one0 : (1 : Ps S).c 0 = 1 := rfl
theorem c_one (n : Nat) : (1 : Ps S).c (n + 1) = 0 := rfl
theorem mulC_zero : ∀ (n : Nat) (b : Nat → S), mulC (fun _ => 0) b n = 0
  | 0, b => zmu _
  | n + 1, b => by rw [mulC, mulC_zero n, zmu, zad]
theorem mulC_addR : ∀ (n : Nat) (a b c : Nat → S), mulC a (fun i => b i + c i) n = mulC a b n + mulC a c n
  | 0, a, b, c => dis _ _ _
  | n + 1, a, b, c => by rw [mulC, mulC, mulC, mulC_addR n, dis, a4]
theorem mulC_addL : ∀ (n : Nat) (a b c : Nat → S), mulC (fun i => a i + b i) c n = mulC a c n + mulC b c n
  | 0, a, b, c => dis2 _ _ _
  | n + 1, a, b, c => by
    rw [mulC, mulC, mulC]
    have := mulC_addL n (fun i => a (i + 1)) (fun i => b (i + 1)) c
    rw [this, dis2, a4]
theorem mulC_sL : ∀ (n : Nat) (s : S) (a b : Nat → S), mulC (fun i => s * a i) b n = s * mulC a b n
  | 0, s, a, b => mas _ _ _
  | n + 1, s, a, b => by
    rw [mulC, mulC]
    have := mulC_sL n s (fun i => a (i + 1)) b
    rw [this, mas, dis]
/-- from the other side -/
theorem mulC_r : ∀ (n : Nat) (a b : Nat → S), mulC a b (n + 1) = b 0 * a (n + 1) + mulC a (fun i => b (i + 1)) n
  | 0, a, b => by
    show a 0 * b 1 + a 1 * b 0 = b 0 * a 1 + a 0 * b 1
    rw [aco, mco (a 1)]
  | n + 1, a, b => by
    rw [mulC, mulC_r n (fun i => a (i + 1)) b, mulC, alc]
theorem mulC_co : ∀ (n : Nat) (a b : Nat → S), mulC a b n = mulC b a n
  | 0, a, b => mco _ _
  | n + 1, a, b => by rw [mulC_r, mulC, mulC_co n]
theorem mulC_as : ∀ (n : Nat) (a b c : Nat → S), mulC (mulC a b) c n = mulC a (mulC b c) n
  | 0, a, b, c => mas _ _ _
  | n + 1, a, b, c => by
    rw [mulC, mulC]
    show a 0 * b 0 * c (n + 1) + mulC (fun i => a 0 * b (i + 1) + mulC (fun i => a (i + 1)) b i) c n = a 0 * (b 0 * c (n + 1) + mulC (fun i => b (i + 1)) c n) + _
    rw [mulC_addL n (fun i => a 0 * b (i + 1)) (mulC (fun i => a (i + 1)) b) c, mulC_sL, mulC_as n, dis, mas, aas]
theorem one_tail : (fun i => (1 : Ps S).c (i + 1)) = fun _ => (0 : S) := funext fun i => rfl
instance : Cs (Ps S) where
  aas a b c := Ps.ext' fun n => aas _ _ _
  aco a b := Ps.ext' fun n => aco _ _
  zad a := Ps.ext' fun n => zad _
  mas a b c := Ps.ext' fun n => mulC_as n _ _ _
  mco a b := Ps.ext' fun n => mulC_co n _ _
  omu a := Ps.ext' fun n => by
    cases n with
    | zero => exact omu _
    | succ n =>
      show (1 : S) * a.c (n + 1) + mulC (fun i => (1 : Ps S).c (i + 1)) a.c n = a.c (n + 1)
      rw [one_tail, mulC_zero, omu, adz]
  zmu a := Ps.ext' fun n => mulC_zero n _
  dis a b c := Ps.ext' fun n => mulC_addR n _ _ _
/-- no constant -/
def Nc (a : Ps S) : Prop := a.c 0 = 0
theorem Nc.zero : Nc (0 : Ps S) := rfl
theorem Nc.add {a b : Ps S} (h : Nc a) (k : Nc b) : Nc (a + b) := by
  show a.c 0 + b.c 0 = 0
  rw [h, k, zad]
theorem Nc.mulL {a b : Ps S} (h : Nc a) : Nc (a * b) := by
  show a.c 0 * b.c 0 = 0
  rw [h, zmu]
theorem Nc.mulR {a b : Ps S} (h : Nc b) : Nc (a * b) := by
  show a.c 0 * b.c 0 = 0
  rw [h, muz]
theorem mulC_congr : ∀ (n : Nat) (a b b' : Nat → S), (∀ i, i ≤ n → b i = b' i) → mulC a b n = mulC a b' n
  | 0, a, b, b', h => by rw [mulC, mulC, h 0 (Nat.le_refl _)]
  | n + 1, a, b, b', h => by rw [mulC, mulC, h (n + 1) (Nat.le_refl _), mulC_congr n _ b b' fun i hi => h i (Nat.le_succ_of_le hi)]
theorem mulC_congr0 {n : Nat} {a b b' : Nat → S} (h0 : a 0 = 0) (h : ∀ i, i < n → b i = b' i) : mulC a b n = mulC a b' n := by
  cases n with
  | zero => rw [mulC, mulC, h0, zmu, zmu]
  | succ n => rw [mulC, mulC, h0, zmu, zmu, mulC_congr n _ b b' fun i hi => h i (Nat.lt_succ_of_le hi)]
/-- 1 + a (1 + a (..)), so often -/
def ap (a : Ps S) : Nat → Ps S
  | 0 => 1
  | k + 1 => 1 + a * ap a k
theorem ap_st {a : Ps S} (h : Nc a) : ∀ (n k k' : Nat), n ≤ k → n ≤ k' → (ap a k).c n = (ap a k').c n := by
  intro n
  induction n using Nat.strongRecOn with
  | ind n ih =>
    intro k k' h1 h2
    have z : ∀ k, n ≤ k → (ap a k).c n = (1 : Ps S).c n + mulC a.c (ap a n).c n := fun k hk => by
      cases k with
      | zero =>
        have : n = 0 := by omega
        subst this
        show (1 : S) = 1 + a.c 0 * _
        rw [h, zmu, adz]
      | succ k =>
        show (1 : Ps S).c n + mulC a.c (ap a k).c n = _
        rw [mulC_congr0 h fun i hi => ih i hi k n (by omega) (by omega)]
    rw [z k h1, z k' h2]
/-- any number of times -/
def st (a : Ps S) : Ps S := ⟨fun n => (ap a n).c n⟩
theorem st_ap {a : Ps S} (h : Nc a) {n k : Nat} (hk : n ≤ k) : (st a).c n = (ap a k).c n := ap_st h n n k (Nat.le_refl _) hk
theorem st_eq {a : Ps S} (h : Nc a) : st a = 1 + a * st a := Ps.ext' fun n => by
  rw [st_ap h (Nat.le_succ n)]
  show (1 : Ps S).c n + mulC a.c (ap a n).c n = (1 : Ps S).c n + mulC a.c (st a).c n
  rw [mulC_congr0 h fun i hi => (st_ap h (Nat.le_of_lt hi)).symm]
theorem fix1 {a b x y : Ps S} (h : Nc a) (hx : x = b + a * x) (hy : y = b + a * y) : x = y := Ps.ext' fun n => by
  induction n using Nat.strongRecOn with
  | ind n ih =>
    have e1 : x.c n = b.c n + mulC a.c x.c n := congrFun (congrArg Ps.c hx) n
    have e2 : y.c n = b.c n + mulC a.c y.c n := congrFun (congrArg Ps.c hy) n
    rw [e1, e2, mulC_congr0 h ih]
theorem fix_st {a b x : Ps S} (h : Nc a) (hx : x = b + a * x) : x = st a * b := by
  refine fix1 h hx ?_
  have := st_eq h
  calc st a * b = (1 + a * st a) * b := by rw [← this]
    _ = b + a * (st a * b) := by rw [dis2, omu, mas]
theorem st_fix {a : Ps S} (b : Ps S) (h : Nc a) : st a * b = b + a * (st a * b) := by
  calc st a * b = (1 + a * st a) * b := by rw [← st_eq h]
    _ = b + a * (st a * b) := by rw [dis2, omu, mas]
end
/-! ### sums -/
section
variable {R : Type} [Cs R]
def sm (l : List Nat) (f : Nat → R) : R := l.foldr (fun k s => f k + s) 0
theorem sm_nil (f : Nat → R) : sm [] f = 0 := rfl
theorem sm_cons (k : Nat) (l : List Nat) (f : Nat → R) : sm (k :: l) f = f k + sm l f := rfl
theorem sm_congr {l : List Nat} {f g : Nat → R} (h : ∀ k ∈ l, f k = g k) : sm l f = sm l g := by
  induction l with
  | nil => rfl
  | cons k l ih => rw [sm_cons, sm_cons, h k List.mem_cons_self, ih fun j hj => h j (List.mem_cons_of_mem _ hj)]
theorem sm_add (l : List Nat) (f g : Nat → R) : sm l (fun k => f k + g k) = sm l f + sm l g := by
  induction l with
  | nil => exact (zad _).symm
  | cons k l ih => rw [sm_cons, sm_cons, sm_cons, ih, a4]
theorem sm_mul (l : List Nat) (a : R) (f : Nat → R) : sm l (fun k => a * f k) = a * sm l f := by
  induction l with
  | nil => exact (muz a).symm
  | cons k l ih => rw [sm_cons, sm_cons, ih, dis]
theorem sm_zero (l : List Nat) : sm l (fun _ => (0 : R)) = 0 := by
  induction l with
  | nil => rfl
  | cons k l ih => rw [sm_cons, ih, zad]
theorem sm_app (l l' : List Nat) (f : Nat → R) : sm (l ++ l') f = sm l f + sm l' f := by
  induction l with
  | nil => exact (zad _).symm
  | cons k l ih => rw [List.cons_append, sm_cons, sm_cons, ih, aas]
theorem sm_swap (l l' : List Nat) (f : Nat → Nat → R) : sm l (fun i => sm l' (f i)) = sm l' (fun j => sm l (fun i => f i j)) := by
  induction l with
  | nil => exact (sm_zero l').symm
  | cons k l ih => rw [sm_cons, ih, ← sm_add]; rfl
/-- without k -/
def wo (l : List Nat) (k : Nat) : List Nat := l.filter (fun j => j != k)
theorem wo_mem {l : List Nat} {k j : Nat} : j ∈ wo l k ↔ j ∈ l ∧ j ≠ k := by simp [wo]
theorem wo_nodup {l : List Nat} {k : Nat} (h : l.Nodup) : (wo l k).Nodup := h.filter _
theorem wo_not {l : List Nat} {k : Nat} (h : k ∉ l) : wo l k = l := by
  unfold wo
  rw [List.filter_eq_self]
  intro a ha
  simp only [bne_iff_ne, ne_eq]
  exact fun z => h (z ▸ ha)
theorem sm_wo {l : List Nat} {k : Nat} (nd : l.Nodup) (hk : k ∈ l) (f : Nat → R) : sm l f = f k + sm (wo l k) f := by
  induction l with
  | nil => cases hk
  | cons j l ih =>
    obtain ⟨h1, h2⟩ := List.nodup_cons.mp nd
    rw [sm_cons]
    by_cases e : j = k
    · subst e
      have : wo (j :: l) j = wo l j := by simp [wo]
      rw [this, wo_not h1]
    · have hk' : k ∈ l := (List.mem_cons.mp hk).resolve_left fun z => e z.symm
      have : wo (j :: l) k = j :: wo l k := by simp [wo, e]
      rw [this, sm_cons, ih h2 hk', alc]
theorem sm_one {l : List Nat} {k : Nat} (nd : l.Nodup) (hk : k ∈ l) (f : Nat → R) (h : ∀ j ∈ l, j ≠ k → f j = 0) : sm l f = f k := by
  rw [sm_wo nd hk, sm_congr (g := fun _ => 0) fun j hj => h j (wo_mem.mp hj).1 (wo_mem.mp hj).2, sm_zero, adz]
theorem sm_perm {l l' : List Nat} (h : l.Perm l') (f : Nat → R) : sm l f = sm l' f := by
  induction h with
  | nil => rfl
  | cons x _ ih => rw [sm_cons, sm_cons, ih]
  | swap x y l => rw [sm_cons, sm_cons, sm_cons, sm_cons, alc]
  | trans _ _ i1 i2 => rw [i1, i2]
theorem sm_map (l : List Nat) (g : Nat → Nat) (f : Nat → R) : sm (l.map g) f = sm l (fun k => f (g k)) := by
  induction l with
  | nil => rfl
  | cons k l ih => rw [List.map_cons, sm_cons, sm_cons, ih]
end
/-! ### systems -/
section
variable {S : Type} [Cs S]
abbrev Mx (S : Type) := Nat → Nat → Ps S
def Sys (l : List Nat) (M : Mx S) (b x : Nat → Ps S) : Prop := ∀ i ∈ l, x i = b i + sm l fun k => M i k * x k
/-- k is taken out -/
def el (M : Mx S) (k : Nat) : Mx S := fun i j => M i j + M i k * st (M k k) * M k j
def elb (M : Mx S) (k : Nat) (b : Nat → Ps S) : Nat → Ps S := fun i => b i + M i k * st (M k k) * b k
variable {l : List Nat} {M : Mx S} {b x y : Nat → Ps S} {k : Nat}
theorem el_nc (h : ∀ i j, Nc (M i j)) (i j : Nat) : Nc (el M k i j) := (h i j).add (h k j).mulR
/-- a row's equation, when k is taken out -/
theorem row_elim {i : Nat} (nd : l.Nodup) (hk : k ∈ l) (nc : Nc (M k k)) (ek : x k = b k + sm l fun j => M k j * x j) (ei : x i = b i + sm l fun j => M i j * x j) : x i = elb M k b i + sm (wo l k) fun j => el M k i j * x j := by
  have e1 : x k = (b k + sm (wo l k) fun j => M k j * x j) + M k k * x k := by
    calc x k = b k + sm l fun j => M k j * x j := ek
      _ = _ := by rw [sm_wo nd hk, aco (M k k * x k), aas]
  have e2 := fix_st nc e1
  have e3 : (sm (wo l k) fun j => el M k i j * x j) = (sm (wo l k) fun j => M i j * x j) + M i k * st (M k k) * sm (wo l k) fun j => M k j * x j := by
    rw [← sm_mul, ← sm_add]
    exact sm_congr fun j _ => by show (M i j + M i k * st (M k k) * M k j) * x j = _; rw [dis2, mas (M i k * st (M k k))]
  rw [e3]
  conv => lhs; rw [ei, sm_wo nd hk]; rhs; lhs; rw [e2]
  show _ = b i + M i k * st (M k k) * b k + _
  rw [dis, dis, ← mas, ← mas]
  simp only [aas]
  rw [aco (M i k * st (M k k) * sm (wo l k) fun j => M k j * x j)]
theorem Sys.elim (h : Sys l M b x) (nd : l.Nodup) (hk : k ∈ l) (nc : Nc (M k k)) : Sys (wo l k) (el M k) (elb M k b) x := fun i hi => row_elim nd hk nc (h k hk) (h i (wo_mem.mp hi).1)
theorem Sys.uniq : ∀ (n : Nat) {l : List Nat} {M : Mx S} {b x y : Nat → Ps S}, l.length = n → l.Nodup → (∀ i j, Nc (M i j)) → Sys l M b x → Sys l M b y → ∀ i ∈ l, x i = y i
  | 0, l, M, b, x, y, hn, nd, nc, hx, hy => by
    have : l = [] := List.length_eq_zero_iff.mp hn
    subst this
    intro i hi
    cases hi
  | n + 1, l, M, b, x, y, hn, nd, nc, hx, hy => by
    cases l with
    | nil => simp at hn
    | cons k l =>
      have nk := (List.nodup_cons.mp nd).1
      have ew : wo (k :: l) k = l := by
        have : wo (k :: l) k = wo l k := by simp [wo]
        rw [this, wo_not nk]
      have h1 := hx.elim nd List.mem_cons_self (nc k k)
      have h2 := hy.elim nd List.mem_cons_self (nc k k)
      rw [ew] at h1 h2
      have ih := Sys.uniq n (by simpa using hn) (List.nodup_cons.mp nd).2 (el_nc nc) h1 h2
      intro i hi
      rcases List.mem_cons.mp hi with rfl | hi
      · have e1 := hx i List.mem_cons_self
        have e2 := hy i List.mem_cons_self
        rw [sm_cons] at e1 e2
        have e3 : (sm l fun k => M i k * x k) = sm l fun k => M i k * y k := sm_congr fun j hj => by rw [ih j hj]
        refine fix1 (nc i i) (b := b i + sm l fun k => M i k * x k) ?_ ?_
        · calc x i = b i + (M i i * x i + sm l fun k => M i k * x k) := e1
            _ = _ := by rw [aco (M i i * x i), aas]
        · calc y i = b i + (M i i * y i + sm l fun k => M i k * y k) := e2
            _ = _ := by rw [aco (M i i * y i), aas, e3]
      · exact ih i hi
/-- some solution: by steps -/
def stp (l : List Nat) (M : Mx S) (b : Nat → Ps S) : Nat → Nat → Ps S
  | 0 => fun _ => 0
  | n + 1 => fun i => b i + sm l fun k => M i k * stp l M b n k
theorem c_sm (l : List Nat) (f : Nat → Ps S) (n : Nat) : (sm l f).c n = sm l fun k => (f k).c n := by
  induction l with
  | nil => rfl
  | cons k l ih => rw [sm_cons, sm_cons, c_add, ih]
theorem stp_st (nc : ∀ i j, Nc (M i j)) : ∀ (n m m' : Nat), n < m → n < m' → ∀ i, (stp l M b m i).c n = (stp l M b m' i).c n := by
  intro n
  induction n using Nat.strongRecOn with
  | ind n ih =>
    intro m m' h1 h2 i
    obtain ⟨m, rfl⟩ : ∃ p, m = p + 1 := ⟨m - 1, by omega⟩
    obtain ⟨m', rfl⟩ : ∃ p, m' = p + 1 := ⟨m' - 1, by omega⟩
    show (b i).c n + (sm l fun k => M i k * stp l M b m k).c n = (b i).c n + (sm l fun k => M i k * stp l M b m' k).c n
    rw [c_sm, c_sm]
    congr 1
    exact sm_congr fun k _ => mulC_congr0 (nc i k) fun j hj => ih j hj m m' (by omega) (by omega) k
def sol (l : List Nat) (M : Mx S) (b : Nat → Ps S) : Nat → Ps S := fun i => ⟨fun n => (stp l M b (n + 1) i).c n⟩
theorem sol_eq (nc : ∀ i j, Nc (M i j)) (i : Nat) : sol l M b i = b i + sm l fun k => M i k * sol l M b k := Ps.ext' fun n => by
  show (b i).c n + (sm l fun k => M i k * stp l M b n k).c n = (b i).c n + (sm l fun k => M i k * sol l M b k).c n
  rw [c_sm, c_sm]
  congr 1
  exact sm_congr fun k _ => mulC_congr0 (nc i k) fun j hj => stp_st nc j n (j + 1) hj (Nat.lt_succ_self j) k
theorem sol_sys (nc : ∀ i j, Nc (M i j)) : Sys l M b (sol l M b) := fun i _ => sol_eq nc i
theorem Sys.sol (nd : l.Nodup) (nc : ∀ i j, Nc (M i j)) (h : Sys l M b x) : ∀ i ∈ l, x i = sol l M b i := Sys.uniq _ rfl nd nc h (sol_sys nc)
/-! ### the closing of a square, spot by spot -/
/-- a square with the spots P gone through: what it tells of a solution -/
def Thr (l P : List Nat) (R : Mx S) (d : Nat → Ps S) (j : Nat) (x : Nat → Ps S) : Prop := ∀ i ∈ l, x i = (d i + if j ∈ P then R i j else 0) + sm (l.filter fun k => decide (k ∉ P)) fun k => R i k * x k
def one (j : Nat) : Nat → Ps S := fun i => if i = j then 1 else 0
theorem Thr.step {P : List Nat} {R : Mx S} {s j : Nat} (nd : l.Nodup) (nc : Nc (R s s)) (hs : s ∈ l) (hP : s ∉ P) (hj : j ∈ l) (h : Thr l P R (one j) j x) : Thr l (s :: P) (el R s) (one j) j x := by
  intro i hi
  have nd2 : (l.filter fun k => decide (k ∉ P)).Nodup := nd.filter _
  have hs2 : s ∈ l.filter fun k => decide (k ∉ P) := by simp [hs, hP]
  have e := row_elim (M := R) (b := fun i => one j i + if j ∈ P then R i j else 0) (i := i) nd2 hs2 nc (h s hs) (h i hi)
  have ew : wo (l.filter fun k => decide (k ∉ P)) s = l.filter fun k => decide (k ∉ s :: P) := by
    unfold wo
    rw [List.filter_filter]
    refine List.filter_congr fun a _ => ?_
    rw [Bool.eq_iff_iff]
    simp [and_comm]
  rw [ew] at e
  rw [e]
  congr 1
  show one j i + (if j ∈ P then R i j else 0) + R i s * st (R s s) * (one j s + if j ∈ P then R s j else 0) = _
  by_cases hjs : j = s
  · subst hjs
    rw [if_neg hP, if_neg hP, if_pos List.mem_cons_self]
    have : (one j j : Ps S) = 1 := if_pos rfl
    rw [adz, adz, this, muo]
    show _ = one j i + (R i j + R i j * st (R j j) * R j j)
    congr 1
    have h1 := st_eq nc
    calc R i j * st (R j j) = R i j * (1 + R j j * st (R j j)) := by rw [← h1]
      _ = R i j + R i j * st (R j j) * R j j := by rw [dis, muo, mas, mco (R j j)]
  · have : (one j s : Ps S) = 0 := if_neg fun z => hjs z.symm
    rw [this, zad]
    by_cases hjP : j ∈ P
    · rw [if_pos hjP, if_pos hjP, if_pos (List.mem_cons_of_mem _ hjP)]
      show _ = one j i + (R i j + R i s * st (R s s) * R s j)
      rw [aas]
    · rw [if_neg hjP, if_neg hjP, if_neg (fun z => (List.mem_cons.mp z).elim hjs hjP), muz, adz]
theorem Thr.start {R : Mx S} {j : Nat} (h : Sys l R (one j) x) : Thr l [] R (one j) j x := fun i hi => by
  have e : (l.filter fun k => decide (k ∉ ([] : List Nat))) = l := List.filter_eq_self.mpr fun a _ => by simp
  rw [e, if_neg (by simp), adz]
  exact h i hi
theorem Thr.end_ {P : List Nat} {R : Mx S} {j : Nat} (hP : ∀ i ∈ l, i ∈ P) (hj : j ∈ l) (h : Thr l P R (one j) j x) : ∀ i ∈ l, x i = one j i + R i j := fun i hi => by
  have e := h i hi
  have : (l.filter fun k => decide (k ∉ P)) = [] := by
    rw [List.filter_eq_nil_iff]
    intro a ha
    simp [hP a ha]
  rw [this, sm_nil, adz, if_pos (hP j hj)] at e
  exact e
end
end Pm
/-! The one algebra above the four kinds: how many ways of a length, and whether there is one that is so wide. -/
namespace Pm
open Cs Sl
structure Un where
  n : Nat
  p : Nat → Prop
theorem Un.ext' {a b : Un} (h : a.n = b.n) (k : ∀ t, a.p t ↔ b.p t) : a = b := by
  obtain ⟨n, p⟩ := a
  obtain ⟨m, q⟩ := b
  have e1 : n = m := h
  have e2 : p = q := funext fun t => propext (k t)
  rw [e1, e2]
instance : Zero Un := ⟨⟨0, fun _ => False⟩⟩
instance : One Un := ⟨⟨1, fun _ => True⟩⟩
instance : Add Un := ⟨fun a b => ⟨a.n + b.n, fun t => a.p t ∨ b.p t⟩⟩
instance : Mul Un := ⟨fun a b => ⟨a.n * b.n, fun t => a.p t ∧ b.p t⟩⟩
theorem add_n (a b : Un) : (a + b).n = a.n + b.n := rfl
theorem add_p (a b : Un) (t : Nat) : (a + b).p t = (a.p t ∨ b.p t) := rfl
theorem mul_n (a b : Un) : (a * b).n = a.n * b.n := rfl
theorem mul_p (a b : Un) (t : Nat) : (a * b).p t = (a.p t ∧ b.p t) := rfl
theorem zero_n : (0 : Un).n = 0 := rfl
theorem zero_p (t : Nat) : (0 : Un).p t = False := rfl
theorem one_n : (1 : Un).n = 1 := rfl
theorem one_p (t : Nat) : (1 : Un).p t = True := rfl
instance : Cs Un where
  aas a b c := Un.ext' (Nat.add_assoc _ _ _) fun t => or_assoc
  aco a b := Un.ext' (Nat.add_comm _ _) fun t => or_comm
  zad a := Un.ext' (Nat.zero_add _) fun t => by show False ∨ _ ↔ _; simp
  mas a b c := Un.ext' (Nat.mul_assoc _ _ _) fun t => and_assoc
  mco a b := Un.ext' (Nat.mul_comm _ _) fun t => and_comm
  omu a := Un.ext' (Nat.one_mul _) fun t => by show True ∧ _ ↔ _; simp
  zmu a := Un.ext' (Nat.zero_mul _) fun t => by show False ∧ _ ↔ False; simp
  dis a b c := Un.ext' (Nat.mul_add _ _ _) fun t => and_or_left
abbrev Ps' := Ps Un
/-- what a product says -/
theorem mulC_p : ∀ (L : Nat) (a b : Nat → Un) (t : Nat), (mulC a b L).p t ↔ ∃ i j, i + j = L ∧ (a i).p t ∧ (b j).p t
  | 0, a, b, t => by
    show (a 0).p t ∧ (b 0).p t ↔ _
    constructor
    · exact fun h => ⟨0, 0, rfl, h⟩
    · rintro ⟨i, j, h, k⟩
      obtain ⟨rfl, rfl⟩ : i = 0 ∧ j = 0 := by omega
      exact k
  | L + 1, a, b, t => by
    show ((a 0).p t ∧ (b (L + 1)).p t) ∨ (mulC (fun i => a (i + 1)) b L).p t ↔ _
    rw [mulC_p L]
    constructor
    · rintro (h | ⟨i, j, h, k⟩)
      · exact ⟨0, L + 1, by omega, h⟩
      · exact ⟨i + 1, j, by omega, k⟩
    · rintro ⟨i, j, h, k⟩
      cases i with
      | zero =>
        have : j = L + 1 := by omega
        subst this
        exact .inl k
      | succ i => exact .inr ⟨i, j, by omega, k⟩
theorem c_mul_p (a b : Ps') (L t : Nat) : ((a * b).c L).p t ↔ ∃ i j, i + j = L ∧ (a.c i).p t ∧ (b.c j).p t := mulC_p L a.c b.c t
theorem c_add_p (a b : Ps') (L t : Nat) : ((a + b).c L).p t ↔ (a.c L).p t ∨ (b.c L).p t := Iff.rfl
theorem sm_p (l : List Nat) (f : Nat → Un) (t : Nat) : (sm l f).p t ↔ ∃ k ∈ l, (f k).p t := by
  induction l with
  | nil => simp [sm_nil, zero_p]
  | cons k l ih => rw [sm_cons, add_p, ih]; simp
theorem sm_n (l : List Nat) (f : Nat → Un) : (sm l f).n = (l.map fun k => (f k).n).sum := by
  induction l with
  | nil => rfl
  | cons k l ih => rw [sm_cons, add_n, ih]; rfl
/-- a number of ways goes with there being one -/
def Coh (a : Un) : Prop := 0 < a.n ↔ a.p 1
theorem Coh.zero : Coh 0 := by simp [Coh, zero_n, zero_p]
theorem Coh.one : Coh 1 := by simp [Coh, one_n, one_p]
theorem Coh.add {a b : Un} (h : Coh a) (k : Coh b) : Coh (a + b) := by
  unfold Coh at *
  rw [add_n, add_p, ← h, ← k]
  omega
theorem pos2 {a b : Nat} : 0 < a * b ↔ 0 < a ∧ 0 < b :=
  ⟨fun h => ⟨Nat.pos_of_ne_zero fun z => by rw [z, Nat.zero_mul] at h; exact absurd h (Nat.lt_irrefl _), Nat.pos_of_ne_zero fun z => by rw [z, Nat.mul_zero] at h; exact absurd h (Nat.lt_irrefl _)⟩, fun h => Nat.mul_pos h.1 h.2⟩
theorem Coh.mul {a b : Un} (h : Coh a) (k : Coh b) : Coh (a * b) := by
  unfold Coh at *
  rw [mul_n, mul_p, ← h, ← k]
  exact pos2
theorem coh_mulC : ∀ (n : Nat) (a b : Nat → Un), (∀ i, i ≤ n → Coh (a i)) → (∀ i, i ≤ n → Coh (b i)) → Coh (mulC a b n)
  | 0, a, b, h, k => (h 0 (Nat.le_refl _)).mul (k 0 (Nat.le_refl _))
  | n + 1, a, b, h, k => ((h 0 (Nat.zero_le _)).mul (k (n + 1) (Nat.le_refl _))).add (coh_mulC n _ b (fun i hi => h (i + 1) (by omega)) fun i hi => k i (by omega))
/-- a series of which that holds -/
def Ch (a : Ps') : Prop := ∀ L, Coh (a.c L)
theorem Ch.zero : Ch 0 := fun _ => Coh.zero
theorem Ch.one : Ch 1 := fun L => by
  cases L with
  | zero => exact Coh.one
  | succ L => exact Coh.zero
theorem Ch.add {a b : Ps'} (h : Ch a) (k : Ch b) : Ch (a + b) := fun L => (h L).add (k L)
theorem Ch.mul {a b : Ps'} (h : Ch a) (k : Ch b) : Ch (a * b) := fun L => coh_mulC L _ _ (fun i _ => h i) fun i _ => k i
theorem Ch.ap {a : Ps'} (h : Ch a) : ∀ k, Ch (ap a k)
  | 0 => Ch.one
  | k + 1 => Ch.one.add (h.mul (Ch.ap h k))
theorem Ch.st {a : Ps'} (h : Ch a) : Ch (st a) := fun L => h.ap L L
theorem Ch.el {M : Mx Un} {k : Nat} (h : ∀ i j, Ch (M i j)) (i j : Nat) : Ch (el M k i j) := (h i j).add (((h i k).mul (h k k).st).mul (h k j))
theorem coh_sm {l : List Nat} {f : Nat → Un} (h : ∀ k ∈ l, Coh (f k)) : Coh (sm l f) := by
  induction l with
  | nil => exact Coh.zero
  | cons k l ih => exact (h k List.mem_cons_self).add (ih fun j hj => h j (List.mem_cons_of_mem _ hj))
theorem Ch.sol {l : List Nat} {M : Mx Un} {b : Nat → Ps'} (nc : ∀ i j, Nc (M i j)) (hM : ∀ i j, Ch (M i j)) (hb : ∀ i, Ch (b i)) (i : Nat) : Ch (sol l M b i) := by
  intro L
  induction L using Nat.strongRecOn generalizing i with
  | ind L ih =>
    rw [sol_eq nc i, c_add, c_sm]
    refine (hb i L).add (coh_sm fun k _ => ?_)
    rw [c_mul]
    have e : mulC (M i k).c (Pm.sol l M b k).c L = mulC (M i k).c (fun j => if j < L then (Pm.sol l M b k).c j else 0) L := mulC_congr0 (nc i k) fun j hj => (if_pos hj).symm
    rw [e]
    refine coh_mulC L _ _ (fun j _ => hM i k j) fun j _ => ?_
    split
    · rename_i hj
      exact ih j hj k
    · exact Coh.zero
/-! ### sizes -/
def Bd (e : Nat) (a : Ps') : Prop := ∀ L, (a.c L).n ≤ 2 ^ (e * L)
theorem Bd.mono {e e' : Nat} {a : Ps'} (h : Bd e a) (k : e ≤ e') : Bd e' a := fun L => Nat.le_trans (h L) (Nat.pow_le_pow_right (by decide) (Nat.mul_le_mul_right _ k))
theorem Bd.zero {e : Nat} : Bd e 0 := fun L => Nat.zero_le _
theorem Bd.one {e : Nat} : Bd e 1 := fun L => by
  cases L with
  | zero => exact Nat.le_of_eq (show 1 = 2 ^ (e * 0) by rw [Nat.mul_zero, Nat.pow_zero])
  | succ L => exact Nat.zero_le _
theorem succ_le_pow (n : Nat) : n + 1 ≤ 2 ^ n := Nat.lt_two_pow_self
theorem mulC_bd : ∀ (n : Nat) (a b : Nat → Un) (B : Nat), (∀ i j, i + j = n → (a i).n * (b j).n ≤ B) → (mulC a b n).n ≤ (n + 1) * B
  | 0, a, b, B, h => by
    have := h 0 0 rfl
    rw [Nat.one_mul]
    exact this
  | n + 1, a, b, B, h => by
    have h1 := h 0 (n + 1) (by omega)
    have h2 := mulC_bd n (fun i => a (i + 1)) b B fun i j e => h (i + 1) j (by omega)
    show (a 0).n * (b (n + 1)).n + (mulC (fun i => a (i + 1)) b n).n ≤ (n + 1 + 1) * B
    rw [Nat.succ_mul (n + 1) B]
    omega
theorem Bd.mul {e : Nat} {a b : Ps'} (h : Bd e a) (k : Bd e b) : Bd (e + 1) (a * b) := fun L => by
  have h1 := mulC_bd L a.c b.c (2 ^ (e * L)) fun i j hij => by
    subst hij
    rw [Nat.mul_add, Nat.pow_add]
    exact Nat.mul_le_mul (h i) (k j)
  refine Nat.le_trans h1 ?_
  rw [Nat.add_mul e 1, Nat.one_mul, Nat.pow_add, Nat.mul_comm]
  exact Nat.mul_le_mul_left _ (succ_le_pow L)
theorem Bd.add {e : Nat} {a b : Ps'} (ha : Nc a) (h : Bd e a) (k : Bd e b) : Bd (e + 1) (a + b) := fun L => by
  show (a.c L).n + (b.c L).n ≤ _
  have h1 := h L
  have h2 := k L
  cases L with
  | zero =>
    have e0 : (a.c 0).n = 0 := by
      have : a.c 0 = 0 := ha
      rw [this]; rfl
    simp only [Nat.mul_zero] at *
    omega
  | succ L =>
    have : 2 ^ ((e + 1) * (L + 1)) = 2 ^ (e * (L + 1)) * 2 ^ (L + 1) := by rw [Nat.add_mul, Nat.one_mul, Nat.pow_add]
    have h3 : 2 ≤ 2 ^ (L + 1) := Nat.le_trans (by omega) (succ_le_pow (L + 1))
    have h4 := Nat.mul_le_mul_left (2 ^ (e * (L + 1))) h3
    omega
/-- sums of products that are ways put together: 2 ^ (L - 1) of them -/
theorem ap_bd {e : Nat} {a : Ps'} (ha : Nc a) (h : Bd e a) : ∀ k, Bd (e + 1) (ap a k)
  | 0 => Bd.one
  | k + 1 => fun L => by
    have ih := ap_bd ha h k
    cases L with
    | zero =>
      have e0 : ((ap a (k + 1)).c 0) = 1 := by
        show (1 : Un) + a.c 0 * (ap a k).c 0 = 1
        rw [show a.c 0 = 0 from ha, zmu, adz]
      rw [e0]
      exact Nat.le_of_eq (by rw [Nat.mul_zero, Nat.pow_zero]; rfl)
    | succ L =>
      show ((0 : Un) + mulC a.c (ap a k).c (L + 1)).n ≤ _
      rw [zad]
      have gen : ∀ (n : Nat) (c d : Nat → Un) (s : Nat), (∀ i, (c i).n ≤ 2 ^ (e * (i + 1 + s))) → (∀ i, (d i).n ≤ 2 ^ ((e + 1) * i)) → (mulC c d n).n ≤ 2 ^ (e * (n + 1 + s)) * (2 ^ (n + 1) - 1) := by
        intro n
        induction n with
        | zero =>
          intro c d s hc hd
          have h1 := hc 0
          have h2 := hd 0
          rw [Nat.mul_zero] at h2
          have := Nat.mul_le_mul h1 h2
          exact this
        | succ n ihn =>
          intro c d s hc hd
          have h1 := Nat.mul_le_mul (hc 0) (hd (n + 1))
          have h2 := ihn (fun i => c (i + 1)) d (s + 1) (fun i => by
            have := hc (i + 1)
            rwa [show i + 1 + 1 + s = i + 1 + (s + 1) by omega] at this) hd
          show (c 0).n * (d (n + 1)).n + (mulC (fun i => c (i + 1)) d n).n ≤ _
          have e1 : 2 ^ (e * (0 + 1 + s)) * 2 ^ ((e + 1) * (n + 1)) = 2 ^ (e * (n + 1 + 1 + s)) * 2 ^ (n + 1) := by
            rw [← Nat.pow_add, ← Nat.pow_add]
            congr 1
            rw [Nat.add_mul e 1, Nat.one_mul, ← Nat.add_assoc, ← Nat.mul_add]
            congr 2
            omega
          have e2 : n + 1 + (s + 1) = n + 1 + 1 + s := by omega
          rw [e1] at h1
          rw [e2] at h2
          have h3 := Nat.add_le_add h1 h2
          rw [← Nat.mul_add] at h3
          refine Nat.le_trans h3 (Nat.mul_le_mul_left _ ?_)
          have : 2 ^ (n + 1 + 1) = 2 ^ (n + 1) + 2 ^ (n + 1) := by rw [Nat.pow_succ]; omega
          omega
      show (a.c 0 * (ap a k).c (L + 1) + mulC (fun i => a.c (i + 1)) (ap a k).c L).n ≤ _
      rw [show a.c 0 = 0 from ha, zmu, zad]
      refine Nat.le_trans (gen L _ _ 0 (fun i => h (i + 1)) ih) ?_
      rw [Nat.add_zero, Nat.add_mul e 1, Nat.one_mul, Nat.pow_add 2 (e * (L + 1)) (L + 1)]
      exact Nat.mul_le_mul_left _ (Nat.sub_le _ _)
theorem st_bd {e : Nat} {a : Ps'} (ha : Nc a) (h : Bd e a) : Bd (e + 1) (st a) := fun L => ap_bd ha h L L
theorem el_bd {e : Nat} {M : Mx Un} {k : Nat} (nc : ∀ i j, Nc (M i j)) (h : ∀ i j, Bd e (M i j)) (i j : Nat) : Bd (e + 4) (el M k i j) := by
  have h1 := st_bd (nc k k) (h k k)
  have h2 : Bd (e + 2) (M i k * st (M k k)) := ((h i k).mono (Nat.le_succ e)).mul h1
  have h3 : Bd (e + 3) (M i k * st (M k k) * M k j) := h2.mul ((h k j).mono (by omega))
  exact Bd.add (nc i j) ((h i j).mono (by omega)) h3
/-! ### the four kinds -/
inductive Kd where
  | can | least | wide | count
  deriving DecidableEq
open PySem L2 Sl in
/-- a worth stands for a series -/
def rp (k : Kd) (m : Nat) (d : D) (a : Ps') : Prop := match k with
  | .can => (d = .int 1 ∧ ∃ L, (a.c L).p 1) ∨ (d = .int 0 ∧ ∀ L, ¬ (a.c L).p 1)
  | .least => (∃ L : Nat, d = .int (L : Int) ∧ (a.c L).p 1 ∧ ∀ L', L' < L → ¬ (a.c L').p 1) ∨ (d = .non ∧ ∀ L, ¬ (a.c L).p 1)
  | .wide => ∃ w : Nat, d = .int (w : Int) ∧ w ≤ 1000 ∧ ∀ t, 1 ≤ t → t ≤ 1000 → (t ≤ w ↔ ∃ L, (a.c L).p t)
  | .count => d = .tup ((List.range (m + 1)).map fun L => .int ((a.c L).n : Int))
open PySem L2 Sl in
/-- a worth is told by what it stands for -/
theorem rp_fun {k : Kd} {m : Nat} {d d' : D} {a : Ps'} (h : rp k m d a) (h' : rp k m d' a) : d = d' := by
  cases k with
  | can =>
    rcases h with ⟨rfl, L, h⟩ | ⟨rfl, h⟩ <;> rcases h' with ⟨rfl, L', h'⟩ | ⟨rfl, h'⟩
    · rfl
    · exact absurd h (h' L)
    · exact absurd h' (h L')
    · rfl
  | least =>
    rcases h with ⟨L, rfl, h1, h2⟩ | ⟨rfl, h⟩ <;> rcases h' with ⟨L', rfl, h1', h2'⟩ | ⟨rfl, h'⟩
    · rcases Nat.lt_trichotomy L L' with z | rfl | z
      · exact absurd h1 (h2' L z)
      · rfl
      · exact absurd h1' (h2 L' z)
    · exact absurd h1 (h' L)
    · exact absurd h1' (h L')
    · rfl
  | wide =>
    obtain ⟨w, rfl, h1, h2⟩ := h
    obtain ⟨w', rfl, h1', h2'⟩ := h'
    have : w = w' := by
      rcases Nat.lt_trichotomy w w' with z | z | z
      · have := (h2 w' (by omega) h1').mpr ((h2' w' (by omega) h1').mp (Nat.le_refl _))
        omega
      · exact z
      · have := (h2' w (by omega) h1).mpr ((h2 w (by omega) h1).mp (Nat.le_refl _))
        omega
    rw [this]
  | count =>
    have h1 : d = _ := h
    have h2 : d' = _ := h'
    rw [h1, h2]
end Pm
/-! What the four kinds' sums and products stand for. -/
namespace Pm
open Cs PySem L2 Sl
variable {k : Kd} {m : Nat} {a b : Ps'} {d d' : D}
/-! ### can, wide -/
theorem rp_int (hk : k = .can ∨ k = .wide) (h : rp k m d a) : ∃ x : Nat, d = .int (x : Int) ∧ x ≤ 1000 := by
  rcases hk with rfl | rfl
  · rcases h with ⟨rfl, _⟩ | ⟨rfl, _⟩
    · exact ⟨1, rfl, by decide⟩
    · exact ⟨0, rfl, by decide⟩
  · obtain ⟨w, rfl, h, _⟩ := h
    exact ⟨w, rfl, h⟩
theorem can_iff {x : Nat} : rp .can m (.int (x : Int)) a ↔ (x = 1 ∧ ∃ L, (a.c L).p 1) ∨ (x = 0 ∧ ∀ L, ¬ (a.c L).p 1) := by
  constructor
  · rintro (⟨h, k⟩ | ⟨h, k⟩)
    · exact .inl ⟨by injection h with h; omega, k⟩
    · exact .inr ⟨by injection h with h; omega, k⟩
  · rintro (⟨rfl, k⟩ | ⟨rfl, k⟩)
    · exact .inl ⟨rfl, k⟩
    · exact .inr ⟨rfl, k⟩
theorem wide_iff {x : Nat} : rp .wide m (.int (x : Int)) a ↔ x ≤ 1000 ∧ ∀ t, 1 ≤ t → t ≤ 1000 → (t ≤ x ↔ ∃ L, (a.c L).p t) := by
  constructor
  · rintro ⟨w, h, k⟩
    have : x = w := by injection h with h; omega
    rw [this]
    exact k
  · exact fun h => ⟨x, rfl, h⟩
theorem rp_max (hk : k = .can ∨ k = .wide) {x y : Nat} (h : rp k m (.int (x : Int)) a) (h' : rp k m (.int (y : Int)) b) : rp k m (.int ((max x y : Nat) : Int)) (a + b) := by
  rcases hk with rfl | rfl
  · rw [can_iff] at *
    rcases h with ⟨rfl, L, h⟩ | ⟨rfl, h⟩ <;> rcases h' with ⟨rfl, L', h'⟩ | ⟨rfl, h'⟩
    · exact .inl ⟨rfl, L, .inl h⟩
    · exact .inl ⟨rfl, L, .inl h⟩
    · exact .inl ⟨rfl, L', .inr h'⟩
    · exact .inr ⟨rfl, fun L z => z.elim (h L) (h' L)⟩
  · rw [wide_iff] at *
    refine ⟨by omega, fun t h1 h2 => ?_⟩
    have e1 := h.2 t h1 h2
    have e2 := h'.2 t h1 h2
    rw [show t ≤ max x y ↔ t ≤ x ∨ t ≤ y by omega, e1, e2]
    constructor
    · rintro (⟨L, z⟩ | ⟨L, z⟩)
      · exact ⟨L, .inl z⟩
      · exact ⟨L, .inr z⟩
    · rintro ⟨L, z | z⟩
      · exact .inl ⟨L, z⟩
      · exact .inr ⟨L, z⟩
theorem ex_mul {t : Nat} : (∃ L, ((a * b).c L).p t) ↔ (∃ L, (a.c L).p t) ∧ ∃ L, (b.c L).p t := by
  constructor
  · rintro ⟨L, h⟩
    obtain ⟨i, j, _, h1, h2⟩ := (c_mul_p a b L t).mp h
    exact ⟨⟨i, h1⟩, ⟨j, h2⟩⟩
  · rintro ⟨⟨i, h1⟩, ⟨j, h2⟩⟩
    exact ⟨i + j, (c_mul_p a b _ t).mpr ⟨i, j, rfl, h1, h2⟩⟩
theorem rp_min (hk : k = .can ∨ k = .wide) {x y : Nat} (h : rp k m (.int (x : Int)) a) (h' : rp k m (.int (y : Int)) b) : rp k m (.int ((min x y : Nat) : Int)) (a * b) := by
  rcases hk with rfl | rfl
  · rw [can_iff] at *
    rcases h with ⟨rfl, h⟩ | ⟨rfl, h⟩ <;> rcases h' with ⟨rfl, h'⟩ | ⟨rfl, h'⟩
    · exact .inl ⟨rfl, ex_mul.mpr ⟨h, h'⟩⟩
    · exact .inr ⟨rfl, fun L z => by obtain ⟨_, L', z⟩ := ex_mul.mp ⟨L, z⟩; exact h' L' z⟩
    · exact .inr ⟨rfl, fun L z => by obtain ⟨⟨L', z⟩, _⟩ := ex_mul.mp ⟨L, z⟩; exact h L' z⟩
    · exact .inr ⟨rfl, fun L z => by obtain ⟨⟨L', z⟩, _⟩ := ex_mul.mp ⟨L, z⟩; exact h L' z⟩
  · rw [wide_iff] at *
    refine ⟨by omega, fun t h1 h2 => ?_⟩
    rw [show t ≤ min x y ↔ t ≤ x ∧ t ≤ y by omega, h.2 t h1 h2, h'.2 t h1 h2, ex_mul]
/-! ### least -/
theorem least_none : rp .least m .non a ↔ ∀ L, ¬ (a.c L).p 1 := by
  constructor
  · rintro (⟨_, h, _⟩ | ⟨_, h⟩)
    · cases h
    · exact h
  · exact fun h => .inr ⟨rfl, h⟩
theorem least_int {x : Nat} : rp .least m (.int (x : Int)) a ↔ (a.c x).p 1 ∧ ∀ L, L < x → ¬ (a.c L).p 1 := by
  constructor
  · rintro (⟨L, h, k⟩ | ⟨h, _⟩)
    · have : x = L := by injection h with h; omega
      rw [this]; exact k
    · cases h
  · exact fun h => .inl ⟨x, rfl, h⟩
theorem least_cases (h : rp .least m d a) : d = .non ∨ ∃ x : Nat, d = .int (x : Int) := by
  rcases h with ⟨L, h, _⟩ | ⟨h, _⟩
  · exact .inr ⟨L, h⟩
  · exact .inl h
theorem ladd_nr (h : rp .least m .non a) (h' : rp .least m d b) : rp .least m d (a + b) := by
  rw [least_none] at h
  have e : ∀ L, ((a + b).c L).p 1 ↔ (b.c L).p 1 := fun L => ⟨fun z => z.resolve_left (h L), .inr⟩
  rcases h' with ⟨L, h1, h2, h3⟩ | ⟨h1, h2⟩
  · exact .inl ⟨L, h1, (e L).mpr h2, fun L' z y => h3 L' z ((e L').mp y)⟩
  · exact .inr ⟨h1, fun L z => h2 L ((e L).mp z)⟩
theorem ladd_nl (h : rp .least m d a) (h' : rp .least m .non b) : rp .least m d (a + b) := by
  rw [aco]
  exact ladd_nr h' h
theorem ladd {x y : Nat} (h : rp .least m (.int (x : Int)) a) (h' : rp .least m (.int (y : Int)) b) : rp .least m (.int ((min x y : Nat) : Int)) (a + b) := by
  rw [least_int] at *
  refine ⟨?_, fun L z w => ?_⟩
  · by_cases c : x ≤ y
    · rw [Nat.min_eq_left c]; exact .inl h.1
    · rw [Nat.min_eq_right (by omega)]; exact .inr h'.1
  · rcases w with w | w
    · exact h.2 L (by omega) w
    · exact h'.2 L (by omega) w
theorem lmul_nr (h : rp .least m .non a) : rp .least m .non (a * b) := by
  rw [least_none] at *
  intro L z
  obtain ⟨⟨L', z⟩, _⟩ := ex_mul.mp ⟨L, z⟩
  exact h L' z
theorem lmul_nl (h : rp .least m .non b) : rp .least m .non (a * b) := by
  rw [mco]
  exact lmul_nr h
theorem lmul {x y : Nat} (h : rp .least m (.int (x : Int)) a) (h' : rp .least m (.int (y : Int)) b) : rp .least m (.int ((x + y : Nat) : Int)) (a * b) := by
  rw [least_int] at *
  refine ⟨(c_mul_p a b _ 1).mpr ⟨x, y, rfl, h.1, h'.1⟩, fun L z w => ?_⟩
  obtain ⟨i, j, e, h1, h2⟩ := (c_mul_p a b L 1).mp w
  by_cases c : i < x
  · exact h.2 i c h1
  · exact h'.2 j (by omega) h2
/-! ### none, empty, any number of times -/
theorem none_cw (hk : k = .can ∨ k = .wide) : rp k m (.int 0) 0 := by
  rcases hk with rfl | rfl
  · exact .inr ⟨rfl, fun L z => z⟩
  · refine ⟨0, rfl, by decide, fun t h1 h2 => ⟨fun z => by omega, ?_⟩⟩
    rintro ⟨L, z⟩
    exact False.elim z
theorem none_l : rp .least m .non 0 := .inr ⟨rfl, fun L z => z⟩
theorem none_c : rp .count m (.tup (List.replicate (m + 1) (.int 0))) 0 := by
  show _ = _
  congr 1
  symm
  rw [List.eq_replicate_iff]
  refine ⟨by simp, fun d hd => ?_⟩
  obtain ⟨L, _, rfl⟩ := List.mem_map.mp hd
  rfl
theorem st0 : (st a).c 0 = 1 := rfl
theorem one0 : (1 : Ps').c 0 = 1 := rfl
/-- what has the empty way, and no other that matters -/
theorem emp_can (h : a.c 0 = 1) : rp .can m (.int 1) a := .inl ⟨rfl, 0, by rw [h]; trivial⟩
theorem emp_wide (h : a.c 0 = 1) : rp .wide m (.int 1000) a := ⟨1000, rfl, Nat.le_refl _, fun t h1 h2 => ⟨fun _ => ⟨0, by rw [h]; trivial⟩, fun _ => h2⟩⟩
theorem emp_least (h : a.c 0 = 1) : rp .least m (.int 0) a := .inl ⟨0, rfl, by rw [h]; trivial, fun L z => by omega⟩
theorem emp_c : rp .count m (.tup (.int 1 :: List.replicate m (.int 0))) 1 := by
  show _ = _
  congr 1
  rw [List.range_succ_eq_map, List.map_cons, List.map_map]
  congr 1
  symm
  rw [List.eq_replicate_iff]
  refine ⟨by simp, fun d hd => ?_⟩
  obtain ⟨L, _, rfl⟩ := List.mem_map.mp hd
  rfl
/-! ### a passage -/
def pas (len wid : Nat) : Ps' := ⟨fun L => if L = len then ⟨1, fun t => t ≤ wid⟩ else 0⟩
theorem pas_p {len wid L t : Nat} : ((pas len wid).c L).p t ↔ L = len ∧ t ≤ wid := by
  show (if L = len then (⟨1, fun t => t ≤ wid⟩ : Un) else 0).p t ↔ _
  by_cases h : L = len
  · rw [if_pos h]; exact ⟨fun z => ⟨h, z⟩, (·.2)⟩
  · rw [if_neg h]; exact ⟨fun z => z.elim, fun z => h z.1⟩
theorem pas_n {len wid L : Nat} : ((pas len wid).c L).n = if L = len then 1 else 0 := by
  show (if L = len then (⟨1, fun t => t ≤ wid⟩ : Un) else 0).n = _
  split <;> rfl
theorem pas_can {len wid : Nat} (h : 1 ≤ wid) : rp .can m (.int 1) (pas len wid) := .inl ⟨rfl, len, pas_p.mpr ⟨rfl, h⟩⟩
theorem pas_wide {len wid : Nat} (h : wid ≤ 1000) : rp .wide m (.int (wid : Int)) (pas len wid) := ⟨wid, rfl, h, fun t _ _ => ⟨fun z => ⟨len, pas_p.mpr ⟨rfl, z⟩⟩, fun ⟨_, z⟩ => (pas_p.mp z).2⟩⟩
theorem pas_least {len wid : Nat} (h : 1 ≤ wid) : rp .least m (.int (len : Int)) (pas len wid) := .inl ⟨len, rfl, pas_p.mpr ⟨rfl, h⟩, fun L z w => by have := (pas_p.mp w).1; omega⟩
theorem pas_nc {len wid : Nat} (h : 1 ≤ len) : Nc (pas len wid) := by
  show (if 0 = len then (⟨1, fun t => t ≤ wid⟩ : Un) else 0) = 0
  rw [if_neg (by omega)]
theorem pas_ch {len wid : Nat} (h : 1 ≤ wid) : Ch (pas len wid) := fun L => by
  unfold Coh
  rw [pas_n, pas_p]
  split <;> simp_all
theorem pas_bd {e len wid : Nat} : Bd e (pas len wid) := fun L => by
  rw [pas_n]
  split
  · exact Nat.one_le_two_pow
  · exact Nat.zero_le _
/-! ### counts -/
def cv : (Nat → Nat) → (Nat → Nat) → Nat → Nat
  | a, b, 0 => a 0 * b 0
  | a, b, n + 1 => a 0 * b (n + 1) + cv (fun i => a (i + 1)) b n
theorem mulC_n : ∀ (n : Nat) (a b : Nat → Un), (mulC a b n).n = cv (fun i => (a i).n) (fun i => (b i).n) n
  | 0, a, b => rfl
  | n + 1, a, b => by
    show (a 0).n * (b (n + 1)).n + (mulC (fun i => a (i + 1)) b n).n = _
    rw [mulC_n n]
    rfl
/-- the products of the first k alone -/
def pm (a b : Nat → Nat) : Nat → Nat → Nat
  | 0, _ => 0
  | k + 1, L => pm a b k L + if k ≤ L then a k * b (L - k) else 0
theorem pm_shift (a b : Nat → Nat) (L : Nat) : ∀ k, pm a b (k + 1) (L + 1) = a 0 * b (L + 1) + pm (fun i => a (i + 1)) b k L
  | 0 => by simp [pm]
  | k + 1 => by
    rw [pm, pm_shift a b L k]
    show _ = a 0 * b (L + 1) + (pm (fun i => a (i + 1)) b k L + if k ≤ L then a (k + 1) * b (L - k) else 0)
    rw [Nat.add_assoc]
    congr 2
    by_cases h : k ≤ L
    · rw [if_pos h, if_pos (by omega), show L + 1 - (k + 1) = L - k by omega]
    · rw [if_neg h, if_neg (by omega)]
theorem pm_cv : ∀ (L k : Nat) (a b : Nat → Nat), L < k → pm a b k L = cv a b L
  | 0, k, a, b, h => by
    obtain ⟨k, rfl⟩ : ∃ j, k = j + 1 := ⟨k - 1, by omega⟩
    have : ∀ k, pm a b (k + 1) 0 = a 0 * b 0 := fun k => by
      induction k with
      | zero => simp [pm]
      | succ k ih => rw [pm, ih]; simp
    exact this k
  | L + 1, k, a, b, h => by
    obtain ⟨k, rfl⟩ : ∃ j, k = j + 1 := ⟨k - 1, by omega⟩
    rw [pm_shift, pm_cv L k _ b (by omega)]
    rfl
def cn (a : Ps') : Nat → Nat := fun L => (a.c L).n
theorem cn_mul (L : Nat) : cn (a * b) L = cv (cn a) (cn b) L := mulC_n L a.c b.c
theorem count_iff : rp .count m d a ↔ d = .tup ((List.range (m + 1)).map fun L => .int (cn a L : Int)) := Iff.rfl
/-- a count is told by its first numbers -/
theorem count_congr (h : ∀ L, L ≤ m → cn a L = cn b L) (hd : rp .count m d a) : rp .count m d b := by
  rw [count_iff] at *
  rw [hd]
  congr 1
  refine List.map_congr_left fun L hL => ?_
  rw [h L (by have := List.mem_range.mp hL; omega)]
theorem cv_congr0 {n : Nat} {a b b' : Nat → Nat} (h0 : a 0 = 0) (h : ∀ i, i < n → b i = b' i) : cv a b n = cv a b' n := by
  have gen : ∀ (n : Nat) (a b b' : Nat → Nat), (∀ i, i ≤ n → b i = b' i) → cv a b n = cv a b' n := by
    intro n
    induction n with
    | zero => intro a b b' h; rw [cv, cv, h 0 (Nat.le_refl _)]
    | succ n ih => intro a b b' h; rw [cv, cv, h (n + 1) (Nat.le_refl _), ih _ b b' fun i hi => h i (Nat.le_succ_of_le hi)]
  cases n with
  | zero => rw [cv, cv, h0, Nat.zero_mul, Nat.zero_mul]
  | succ n => rw [cv, cv, h0, Nat.zero_mul, Nat.zero_mul, gen n _ b b' fun i hi => h i (Nat.lt_succ_of_le hi)]
theorem cn_st (h : Nc a) {L k : Nat} (hk : L ≤ k) : cn (st a) L = cn (ap a k) L := by
  unfold cn
  rw [st_ap h hk]
end Pm
/-! Mazes. -/
namespace Pm
open Cs PySem L2 Sl
structure Pg where
  s : Nat
  g : Nat
  l : Nat
  w : Nat
structure Mz where
  n : Nat
  ps : List Pg
  ds : List Nat
structure PgOk (n : Nat) (p : Pg) : Prop where
  s : p.s < n
  g : p.g < n
  l : 1 ≤ p.l ∧ p.l ≤ 50
  w : 1 ≤ p.w ∧ p.w ≤ 99
structure MzOk (z : Mz) : Prop where
  n : 1 ≤ z.n ∧ z.n ≤ 40
  pl : z.ps.length ≤ 120
  dl : z.ds.length ≤ 12
  p : ∀ p ∈ z.ps, PgOk z.n p
  d : ∀ d ∈ z.ds, d < z.n
def pgD (p : Pg) : D := .tup [.int (p.s : Int), .int (p.g : Int), .int (p.l : Int), .int (p.w : Int)]
def natD (n : Nat) : D := .int (n : Int)
def mzD (z : Mz) : D := .tup [.int (z.n : Int), .tup (z.ps.map pgD), .tup (z.ds.map natD)]
/-- the passages from one room to another -/
def mm (ps : List Pg) : Mx Un := fun i j => ps.foldr (fun p a => (if p.s = i ∧ p.g = j then pas p.l p.w else 0) + a) 0
theorem mm_nil (i j : Nat) : mm [] i j = 0 := rfl
theorem mm_cons (p : Pg) (ps : List Pg) (i j : Nat) : mm (p :: ps) i j = (if p.s = i ∧ p.g = j then pas p.l p.w else 0) + mm ps i j := rfl
theorem mm_app : ∀ (ps qs : List Pg) (i j : Nat), mm (ps ++ qs) i j = mm ps i j + mm qs i j
  | [], qs, i, j => by rw [List.nil_append, mm_nil, zad]
  | p :: ps, qs, i, j => by rw [List.cons_append, mm_cons, mm_cons, mm_app ps qs, aas]
theorem mm_snoc (ps : List Pg) (p : Pg) (i j : Nat) : mm (ps ++ [p]) i j = mm ps i j + if p.s = i ∧ p.g = j then pas p.l p.w else 0 := by
  rw [mm_app, mm_cons, mm_nil, adz]
theorem mm_nc {n : Nat} : ∀ {ps : List Pg}, (∀ p ∈ ps, PgOk n p) → ∀ i j, Nc (mm ps i j)
  | [], _, i, j => Nc.zero
  | p :: ps, h, i, j => by
    rw [mm_cons]
    refine Nc.add ?_ (mm_nc (fun q hq => h q (List.mem_cons_of_mem _ hq)) i j)
    split
    · exact pas_nc (h p List.mem_cons_self).l.1
    · exact Nc.zero
theorem mm_ch {n : Nat} : ∀ {ps : List Pg}, (∀ p ∈ ps, PgOk n p) → ∀ i j, Ch (mm ps i j)
  | [], _, i, j => Ch.zero
  | p :: ps, h, i, j => by
    rw [mm_cons]
    refine Ch.add ?_ (mm_ch (fun q hq => h q (List.mem_cons_of_mem _ hq)) i j)
    split
    · exact pas_ch (h p List.mem_cons_self).w.1
    · exact Ch.zero
theorem mm_cnt : ∀ (ps : List Pg) (i j L : Nat), ((mm ps i j).c L).n ≤ ps.length
  | [], i, j, L => Nat.le_refl _
  | p :: ps, i, j, L => by
    rw [mm_cons, c_add, add_n, List.length_cons]
    have h1 := mm_cnt ps i j L
    have h2 : ((if p.s = i ∧ p.g = j then pas p.l p.w else 0 : Ps').c L).n ≤ 1 := by
      split
      · rw [pas_n]; split <;> omega
      · exact Nat.zero_le _
    omega
theorem mm_bd {n : Nat} {ps : List Pg} (h : ∀ p ∈ ps, PgOk n p) (hl : ps.length ≤ 120) (i j : Nat) : Bd 7 (mm ps i j) := fun L => by
  cases L with
  | zero =>
    have : (mm ps i j).c 0 = 0 := mm_nc h i j
    rw [this]
    exact Nat.zero_le _
  | succ L =>
    refine Nat.le_trans (mm_cnt ps i j _) (Nat.le_trans hl ?_)
    have : 2 ^ 7 ≤ 2 ^ (7 * (L + 1)) := Nat.pow_le_pow_right (by decide) (by omega)
    omega
end Pm
namespace Pm
open Cs PySem L2 Sl
/-- a count's numbers -/
def cI (m : Nat) (a : Ps') : List Int := (List.range (m + 1)).map fun L => ((cn a L : Nat) : Int)
theorem cI_len (m : Nat) (a : Ps') : (cI m a).length = m + 1 := by simp [cI]
theorem cI_get {m L : Nat} {a : Ps'} (h : L ≤ m) : (cI m a)[L]? = some ((cn a L : Nat) : Int) := by
  unfold cI
  rw [List.getElem?_map, List.getElem?_range (by omega)]
  rfl
theorem count_cI {m : Nat} {d : D} {a : Ps'} : rp .count m d a ↔ d = .tup ((cI m a).map D.int) := by
  rw [count_iff]
  unfold cI
  rw [List.map_map]
  rfl
theorem cI_of {m : Nat} {a : Ps'} {ns : List Int} (h1 : ns.length = m + 1) (h2 : ∀ L, L ≤ m → ns[L]? = some ((cn a L : Nat) : Int)) : rp .count m (.tup (ns.map D.int)) a := by
  rw [count_cI]
  congr 2
  refine List.ext_getElem? fun L => ?_
  by_cases c : L ≤ m
  · rw [h2 L c, cI_get c]
  · rw [List.getElem?_eq_none (by omega), List.getElem?_eq_none (by rw [cI_len]; omega)]
theorem cn_add (a b : Ps') (L : Nat) : cn (a + b) L = cn a L + cn b L := rfl
theorem bd_lt {e : Nat} {a : Ps'} (h : Bd e a) (L : Nat) : ((cn a L : Nat) : Int).natAbs < 2 ^ (e * L + 1) := by
  have := h L
  have e1 : ((cn a L : Nat) : Int).natAbs = cn a L := Int.natAbs_natCast _
  rw [e1]
  unfold cn
  have e2 : 2 ^ (e * L + 1) = 2 ^ (e * L) * 2 := Nat.pow_succ ..
  have e3 : 1 ≤ 2 ^ (e * L) := Nat.one_le_two_pow
  omega
theorem mul_ok {e i j : Nat} {a b : Ps'} (ha : Bd e a) (hb : Bd e b) (he : e ≤ 10000) (hi : i ≤ 12) (hj : j ≤ 12) : CMulW ((cn a i : Nat) : Int) ((cn b j : Nat) : Int) := by
  refine wide_mul (bd_lt ha i) (bd_lt hb j) (Nat.succ_pos _) (Nat.succ_pos _) ?_
  have h1 : e * i ≤ 10000 * 12 := Nat.mul_le_mul he hi
  have h2 : e * j ≤ 10000 * 12 := Nat.mul_le_mul he hj
  omega
/-- a list of numbers -/
def fl (m : Nat) (f : Nat → Nat) : List Int := (List.range (m + 1)).map fun L => ((f L : Nat) : Int)
theorem fl_len (m : Nat) (f : Nat → Nat) : (fl m f).length = m + 1 := by simp [fl]
theorem fl_get {m L : Nat} {f : Nat → Nat} (h : L ≤ m) : (fl m f)[L]? = some ((f L : Nat) : Int) := by
  unfold fl
  rw [List.getElem?_map, List.getElem?_range (by omega)]
  rfl
theorem fl_set {m t : Nat} {f g : Nat → Nat} {x : Int} (ht : t ≤ m) (h1 : ∀ L, L ≤ m → L ≠ t → f L = g L) (h2 : x = ((g t : Nat) : Int)) : (fl m f).set t x = fl m g := by
  refine List.ext_getElem? fun L => ?_
  by_cases c : L ≤ m
  · rw [fl_get c]
    by_cases e : t = L
    · subst e
      rw [List.getElem?_set_self (by rw [fl_len]; omega), h2]
    · rw [List.getElem?_set_ne e, fl_get c, h1 L c (fun z => e z.symm)]
  · rw [List.getElem?_eq_none (by rw [List.length_set, fl_len]; omega), List.getElem?_eq_none (by rw [fl_len]; omega)]
theorem fl_congr {m : Nat} {f g : Nat → Nat} (h : ∀ L, L ≤ m → f L = g L) : fl m f = fl m g := by
  refine List.ext_getElem? fun L => ?_
  by_cases c : L ≤ m
  · rw [fl_get c, fl_get c, h L c]
  · rw [List.getElem?_eq_none (by rw [fl_len]; omega), List.getElem?_eq_none (by rw [fl_len]; omega)]
def pm2 (a b : Nat → Nat) (i j L : Nat) : Nat := pm a b i L + if i ≤ L ∧ L - i < j then a i * b (L - i) else 0
theorem pm2_0 (a b : Nat → Nat) (i L : Nat) : pm2 a b i 0 L = pm a b i L := by
  unfold pm2
  rw [if_neg (by omega)]
  rfl
theorem pm2_end {a b : Nat → Nat} {i j m L : Nat} (hL : L ≤ m) (hj : j + i = m + 1) : pm2 a b i j L = pm a b (i + 1) L := by
  unfold pm2
  rw [pm]
  congr 1
  by_cases c : i ≤ L
  · rw [if_pos ⟨c, by omega⟩, if_pos c]
  · rw [if_neg (by omega), if_neg c]
theorem pm_zero {a b : Nat → Nat} {i : Nat} (h : a i = 0) (L : Nat) : pm a b (i + 1) L = pm a b i L := by
  rw [pm, h]
  split <;> omega
theorem pm2_succ_ne {a b : Nat → Nat} {i j L : Nat} (h : L ≠ i + j) : pm2 a b i j L = pm2 a b i (j + 1) L := by
  unfold pm2
  congr 1
  by_cases c : i ≤ L ∧ L - i < j
  · rw [if_pos c, if_pos ⟨c.1, by omega⟩]
  · rw [if_neg c, if_neg (by omega)]
theorem pm2_succ_eq {a b : Nat → Nat} {i j : Nat} : pm2 a b i (j + 1) (i + j) = pm2 a b i j (i + j) + a i * b j := by
  unfold pm2
  rw [if_pos ⟨by omega, by omega⟩, if_neg (by omega), show i + j - i = j by omega]
  omega
theorem rp_emp {k : Kd} {m : Nat} {d : D} {a : Ps'} (hk : k ≠ .count) (h : rp k m d 1) (h0 : a.c 0 = 1) : rp k m d a := by
  cases k with
  | can => rw [rp_fun h (emp_can (a := 1) rfl)]; exact emp_can h0
  | least => rw [rp_fun h (emp_least (a := 1) rfl)]; exact emp_least h0
  | wide => rw [rp_fun h (emp_wide (a := 1) rfl)]; exact emp_wide h0
  | count => exact absurd rfl hk
end Pm
namespace Pm
open Cs
/-- the numbers but s -/
def sk (s i : Nat) : Nat := if i < s then i else i + 1
theorem sk_ne (s i : Nat) : sk s i ≠ s := by unfold sk; split <;> omega
theorem sk_lt {s i n : Nat} (h : i + 1 < n + 0 ∨ i < n - 1) (hs : s < n) : sk s i < n := by unfold sk; split <;> omega
theorem range_sk (s : Nat) : ∀ n, (List.range n).filter (fun x => x != s) = if s < n then (List.range (n - 1)).map (sk s) else List.range n
  | 0 => by simp
  | n + 1 => by
    rw [List.range_succ, List.filter_append, range_sk s n]
    by_cases h : s < n
    · rw [if_pos h, if_pos (by omega), Nat.add_sub_cancel]
      have : n ≠ s := by omega
      rw [List.filter_cons, if_pos (by simpa using this), List.filter_nil]
      obtain ⟨k, rfl⟩ : ∃ k, n = k + 1 := ⟨n - 1, by omega⟩
      rw [Nat.add_sub_cancel, List.range_succ, List.map_append]
      congr 1
      simp only [List.map_cons, List.map_nil]
      unfold sk
      rw [if_neg (by omega)]
    · rw [if_neg h]
      by_cases e : n = s
      · subst e
        rw [List.filter_cons, if_neg (by simp), List.filter_nil, if_pos (by omega), Nat.add_sub_cancel, List.append_nil]
        symm
        rw [List.map_congr_left (g := id), List.map_id]
        intro a ha
        have := List.mem_range.mp ha
        unfold sk
        rw [if_pos this]
        rfl
      · rw [List.filter_cons, if_pos (by simpa using e), List.filter_nil, if_neg (by omega)]
/-- a square without one of its places -/
def wm (M : Mx Un) (s : Nat) : Mx Un := fun i j => el M s (sk s i) (sk s j)
/-- the first places of things -/
def dd (l : List Nat) : List Nat := l.foldl (fun o x => if x ∈ o then o else o ++ [x]) []
theorem dd_fold_mem : ∀ (l o : List Nat) (x : Nat), x ∈ l.foldl (fun o x => if x ∈ o then o else o ++ [x]) o ↔ x ∈ o ∨ x ∈ l
  | [], o, x => by simp
  | a :: l, o, x => by
    rw [List.foldl_cons, dd_fold_mem l]
    by_cases h : a ∈ o
    · rw [if_pos h]
      constructor
      · rintro (z | z)
        · exact .inl z
        · exact .inr (List.mem_cons_of_mem _ z)
      · rintro (z | z)
        · exact .inl z
        · rcases List.mem_cons.mp z with rfl | z
          · exact .inl h
          · exact .inr z
    · rw [if_neg h]
      simp only [List.mem_append, List.mem_cons, List.not_mem_nil, or_false]
      constructor
      · rintro ((z | z) | z)
        · exact .inl z
        · exact .inr (.inl z)
        · exact .inr (.inr z)
      · rintro (z | z | z)
        · exact .inl (.inl z)
        · exact .inl (.inr z)
        · exact .inr z
theorem dd_mem {l : List Nat} {x : Nat} : x ∈ dd l ↔ x ∈ l := by
  unfold dd
  rw [dd_fold_mem]
  simp
theorem dd_fold_nodup : ∀ (l o : List Nat), o.Nodup → (l.foldl (fun o x => if x ∈ o then o else o ++ [x]) o).Nodup
  | [], o, h => h
  | a :: l, o, h => by
    rw [List.foldl_cons]
    refine dd_fold_nodup l _ ?_
    split
    · exact h
    · rename_i hn
      rw [List.nodup_append]
      exact ⟨h, by simp, fun x hx y hy => by rw [List.mem_singleton.mp hy]; exact fun z => hn (z ▸ hx)⟩
theorem dd_nodup (l : List Nat) : (dd l).Nodup := dd_fold_nodup l [] (by simp)
theorem dd_snoc (l : List Nat) (x : Nat) : dd (l ++ [x]) = if x ∈ dd l then dd l else dd l ++ [x] := by
  unfold dd
  rw [List.foldl_append]
  rfl
theorem dd_len (l : List Nat) : (dd l).length ≤ l.length := by
  have : ∀ (l o : List Nat), (l.foldl (fun o x => if x ∈ o then o else o ++ [x]) o).length ≤ o.length + l.length := by
    intro l
    induction l with
    | nil => intro o; simp
    | cons a l ih =>
      intro o
      rw [List.foldl_cons]
      refine Nat.le_trans (ih _) ?_
      split
      · simp only [List.length_cons]; omega
      · simp only [List.length_cons, List.length_append, List.length_nil]; omega
  have := this l []
  simpa [dd] using this
/-- a square in another order -/
def rm (M : Mx Un) (o : List Nat) : Mx Un := fun i j => M (o.getD i 0) (o.getD j 0)
theorem wm_nc {M : Mx Un} {s : Nat} (h : ∀ i j, Nc (M i j)) (i j : Nat) : Nc (wm M s i j) := el_nc h _ _
theorem wm_bd {M : Mx Un} {s e : Nat} (nc : ∀ i j, Nc (M i j)) (h : ∀ i j, Bd e (M i j)) (i j : Nat) : Bd (e + 4) (wm M s i j) := el_bd nc h _ _
theorem natD_int (l : List Nat) : l.map natD = (l.map fun x => ((x : Nat) : Int)).map Sl.D.int := by rw [List.map_map]; rfl
def rowsOf (F : Mx Un) (n : Nat) : List (List Ps') := (List.range n).map fun i => (List.range n).map (F i)
theorem rowsOf_get {F : Mx Un} {n i : Nat} (h : i < n) : (rowsOf F n)[i]? = some ((List.range n).map (F i)) := by
  unfold rowsOf
  rw [List.getElem?_map, List.getElem?_range h]
  rfl
theorem rowsOf_len (F : Mx Un) (n : Nat) : (rowsOf F n).length = n := by simp [rowsOf]
theorem rowsOf_congr {F G : Mx Un} {n : Nat} (h : ∀ i j, i < n → j < n → F i j = G i j) : rowsOf F n = rowsOf G n :=
  List.map_congr_left fun i hi => List.map_congr_left fun j hj => h i j (List.mem_range.mp hi) (List.mem_range.mp hj)
def setM (F : Mx Un) (i j : Nat) (a : Ps') : Mx Un := fun x y => if x = i ∧ y = j then a else F x y
theorem rowsOf_set {F : Mx Un} {n i j : Nat} {a : Ps'} : rowsOf (setM F i j a) n = (rowsOf F n).set i ((List.range n).map (setM F i j a i)) := by
  refine List.ext_getElem? fun x => ?_
  by_cases hx : x < n
  · rw [rowsOf_get hx]
    by_cases e : i = x
    · subst e
      rw [List.getElem?_set_self (by rw [rowsOf_len]; exact hx)]
    · rw [List.getElem?_set_ne e, rowsOf_get hx]
      congr 2
      funext y
      unfold setM
      rw [if_neg (fun z => e z.1.symm)]
  · rw [List.getElem?_eq_none (by rw [rowsOf_len]; omega), List.getElem?_eq_none (by rw [List.length_set, rowsOf_len]; omega)]
theorem row_set {F : Mx Un} {n i j : Nat} {a : Ps'} : (List.range n).map (setM F i j a i) = ((List.range n).map (F i)).set j a := by
  refine List.ext_getElem? fun y => ?_
  by_cases hy : y < n
  · rw [List.getElem?_map, List.getElem?_range hy]
    by_cases e : j = y
    · subst e
      rw [List.getElem?_set_self (by simp; exact hy)]
      show some (setM F i j a i j) = _
      unfold setM
      rw [if_pos ⟨rfl, rfl⟩]
    · rw [List.getElem?_set_ne e, List.getElem?_map, List.getElem?_range hy]
      show some (setM F i j a i y) = some (F i y)
      unfold setM
      rw [if_neg (fun z => e z.2.symm)]
  · rw [List.getElem?_eq_none (by simp; omega), List.getElem?_eq_none (by simp; omega)]
/-- the closing, spot by spot -/
def cl (M : Mx Un) : Nat → Mx Un
  | 0 => M
  | k + 1 => el (cl M k) k
def clo (M : Mx Un) (n : Nat) : Mx Un := fun i j => if i = j then cl M n i j + 1 else cl M n i j
theorem cl_nc {M : Mx Un} (h : ∀ i j, Nc (M i j)) : ∀ k i j, Nc (cl M k i j)
  | 0, i, j => h i j
  | k + 1, i, j => el_nc (cl_nc h k) i j
theorem cl_bd {M : Mx Un} {e : Nat} (nc : ∀ i j, Nc (M i j)) (h : ∀ i j, Bd e (M i j)) : ∀ k i j, Bd (e + 4 * k) (cl M k i j)
  | 0, i, j => h i j
  | k + 1, i, j => (el_bd (cl_nc nc k) (cl_bd nc h k) i j).mono (by omega)
/-- half gone through -/
def fmx (R : Mx Un) (k i j : Nat) : Mx Un := fun x y => if x < i ∨ (x = i ∧ y < j) then el R k x y else R x y
theorem fmx_0 (R : Mx Un) (k : Nat) : fmx R k 0 0 = R := by
  funext x y
  unfold fmx
  rw [if_neg (by omega)]
theorem fmx_set (R : Mx Un) (k i j : Nat) : setM (fmx R k i j) i j (el R k i j) = fmx R k i (j + 1) := by
  funext x y
  unfold setM fmx
  by_cases h : x = i ∧ y = j
  · rw [if_pos h, if_pos (by omega), h.1, h.2]
  · rw [if_neg h]
    by_cases h2 : x < i ∨ (x = i ∧ y < j)
    · rw [if_pos h2, if_pos (by omega)]
    · rw [if_neg h2, if_neg (by omega)]
theorem fmx_next {R : Mx Un} {k i n : Nat} : rowsOf (fmx R k i n) n = rowsOf (fmx R k (i + 1) 0) n := rowsOf_congr fun x y hx hy => by
  unfold fmx
  by_cases h : x < i ∨ (x = i ∧ y < n)
  · rw [if_pos h, if_pos (by omega)]
  · rw [if_neg h, if_neg (by omega)]
theorem fmx_end {R : Mx Un} {k n : Nat} : rowsOf (fmx R k n 0) n = rowsOf (el R k) n := rowsOf_congr fun x y hx hy => by
  unfold fmx
  rw [if_pos (by omega)]
/-- .. the empty ways -/
def gmx (R : Mx Un) (i : Nat) : Mx Un := fun x y => if x = y ∧ x < i then R x y + 1 else R x y
theorem gmx_0 (R : Mx Un) : gmx R 0 = R := by
  funext x y
  unfold gmx
  rw [if_neg (by omega)]
theorem gmx_set (R : Mx Un) (i : Nat) : setM (gmx R i) i i (R i i + 1) = gmx R (i + 1) := by
  funext x y
  unfold setM gmx
  by_cases h : x = i ∧ y = i
  · rw [if_pos h, if_pos (by omega), h.1, h.2]
  · rw [if_neg h]
    by_cases h2 : x = y ∧ x < i
    · rw [if_pos h2, if_pos (by omega)]
    · rw [if_neg h2, if_neg (by omega)]
theorem gmx_at (R : Mx Un) (i : Nat) : gmx R i i i = R i i := by
  unfold gmx
  rw [if_neg (by omega)]
theorem gmx_end {M : Mx Un} {n : Nat} : rowsOf (gmx (cl M n) n) n = rowsOf (clo M n) n := rowsOf_congr fun x y hx hy => by
  unfold gmx clo
  by_cases h : x = y
  · rw [if_pos ⟨h, hx⟩, if_pos h]
  · rw [if_neg (fun z => h z.1), if_neg h]
/-- rows of tuples of worths -/
def TD (k : Kd) (m : Nat) (rows : List Sl.D) (n n' : Nat) (F : Mx Un) : Prop := rows.length = n ∧ ∀ i, i < n → ∃ ds, rows[i]? = some (.tup ds) ∧ ds.length = n' ∧ ∀ j, j < n' → ∃ d, ds[j]? = some d ∧ rp k m d (F i j)
theorem TD_fun {k : Kd} {m n n' : Nat} {rows rows' : List Sl.D} {F F' : Mx Un} (h : TD k m rows n n' F) (h' : TD k m rows' n n' F') (e : ∀ i j, i < n → j < n' → F i j = F' i j) : rows = rows' := by
  refine List.ext_getElem? fun i => ?_
  by_cases hi : i < n
  · obtain ⟨ds, h1, h2, h3⟩ := h.2 i hi
    obtain ⟨ds', h1', h2', h3'⟩ := h'.2 i hi
    rw [h1, h1']
    congr 2
    refine List.ext_getElem? fun j => ?_
    by_cases hj : j < n'
    · obtain ⟨d, g1, g2⟩ := h3 j hj
      obtain ⟨d', g1', g2'⟩ := h3' j hj
      rw [g1, g1', rp_fun g2 (by rw [e i j hi hj]; exact g2')]
    · rw [List.getElem?_eq_none (by omega), List.getElem?_eq_none (by omega)]
  · rw [List.getElem?_eq_none (by have := h.1; omega), List.getElem?_eq_none (by have := h'.1; omega)]
end Pm
/-! The part of a maze: what is left, room by room. -/
namespace Pm
open Cs
def lef (ds : List Nat) (n : Nat) : Nat → List Nat
  | 0 => List.range n
  | r + 1 => if r ∈ ds then lef ds n r else wo (lef ds n r) r
def lab (ds : List Nat) (M : Mx Un) : Nat → Mx Un
  | 0 => M
  | r + 1 => if r ∈ ds then lab ds M r else el (lab ds M r) r
theorem lef_nodup (ds : List Nat) (n : Nat) : ∀ r, (lef ds n r).Nodup
  | 0 => List.nodup_range
  | r + 1 => by
    rw [lef]
    split
    · exact lef_nodup ds n r
    · exact wo_nodup (lef_nodup ds n r)
theorem lef_mem {ds : List Nat} {n x : Nat} : ∀ {r}, x ∈ lef ds n r ↔ x < n ∧ (r ≤ x ∨ x ∈ ds)
  | 0 => by simp [lef]
  | r + 1 => by
    rw [lef]
    split
    · rename_i h
      rw [lef_mem]
      constructor
      · rintro ⟨h1, h2⟩
        refine ⟨h1, ?_⟩
        by_cases e : x = r
        · subst e; exact .inr h
        · rcases h2 with h2 | h2
          · exact .inl (by omega)
          · exact .inr h2
      · rintro ⟨h1, h2⟩
        exact ⟨h1, h2.imp (fun z => by omega) id⟩
    · rename_i h
      rw [wo_mem, lef_mem]
      constructor
      · rintro ⟨⟨h1, h2⟩, h3⟩
        refine ⟨h1, ?_⟩
        rcases h2 with h2 | h2
        · exact .inl (by omega)
        · exact .inr h2
      · rintro ⟨h1, h2⟩
        refine ⟨⟨h1, h2.imp (fun z => by omega) id⟩, fun z => ?_⟩
        subst z
        rcases h2 with h2 | h2
        · omega
        · exact h h2
theorem lab_nc {ds : List Nat} {M : Mx Un} (h : ∀ i j, Nc (M i j)) : ∀ r i j, Nc (lab ds M r i j)
  | 0, i, j => h i j
  | r + 1, i, j => by
    rw [lab]
    split
    · exact lab_nc h r i j
    · exact el_nc (lab_nc h r) i j
theorem lab_ch {ds : List Nat} {M : Mx Un} (h : ∀ i j, Ch (M i j)) : ∀ r i j, Ch (lab ds M r i j)
  | 0, i, j => h i j
  | r + 1, i, j => by
    rw [lab]
    split
    · exact lab_ch h r i j
    · exact Ch.el (lab_ch h r) i j
theorem lab_bd {ds : List Nat} {M : Mx Un} {e : Nat} (nc : ∀ i j, Nc (M i j)) (h : ∀ i j, Bd e (M i j)) : ∀ r i j, Bd (e + 4 * r) (lab ds M r i j)
  | 0, i, j => h i j
  | r + 1, i, j => by
    rw [lab]
    split
    · exact (lab_bd nc h r i j).mono (by omega)
    · exact (el_bd (lab_nc nc r) (lab_bd nc h r) i j).mono (by omega)
theorem idxc {a k : Nat} {l : List Nat} (e : a ≠ k) : (a :: l).idxOf k = l.idxOf k + 1 := by
  rw [List.idxOf_cons, show (a == k) = false from by simpa using e]
  rfl
theorem erase_wo : ∀ {l : List Nat} {k : Nat}, l.Nodup → k ∈ l → l.eraseIdx (l.idxOf k) = wo l k
  | [], k, _, h => by cases h
  | a :: l, k, nd, h => by
    obtain ⟨h1, h2⟩ := List.nodup_cons.mp nd
    by_cases e : a = k
    · subst e
      rw [List.idxOf_cons_self, List.eraseIdx_cons_zero]
      have : wo (a :: l) a = wo l a := by simp [wo]
      rw [this, wo_not h1]
    · have hk : k ∈ l := (List.mem_cons.mp h).resolve_left fun z => e z.symm
      rw [idxc e, List.eraseIdx_cons_succ, erase_wo h2 hk]
      have : wo (a :: l) k = a :: wo l k := by simp [wo, e]
      rw [this]
theorem wo_get {l : List Nat} {k i : Nat} (nd : l.Nodup) (hk : k ∈ l) : (wo l k).getD i 0 = l.getD (sk (l.idxOf k) i) 0 := by
  rw [← erase_wo nd hk, List.getD_eq_getElem?_getD, List.getD_eq_getElem?_getD, List.getElem?_eraseIdx]
  unfold sk
  split <;> rfl
theorem wo_len {l : List Nat} {k : Nat} (nd : l.Nodup) (hk : k ∈ l) : (wo l k).length = l.length - 1 := by
  rw [← erase_wo nd hk, List.length_eraseIdx_of_lt (List.idxOf_lt_length_of_mem hk)]
theorem nodup_le : ∀ (n : Nat) (l : List Nat), l.Nodup → (∀ x ∈ l, x < n) → l.length ≤ n
  | 0, l, _, h => by
    cases l with
    | nil => exact Nat.le_refl _
    | cons a l => exact absurd (h a List.mem_cons_self) (Nat.not_lt_zero _)
  | n + 1, l, nd, h => by
    by_cases hn : n ∈ l
    · have h1 := nodup_le n (wo l n) (wo_nodup nd) fun x hx => by
        have := h x (wo_mem.mp hx).1
        have := (wo_mem.mp hx).2
        omega
      have h2 := wo_len nd hn
      omega
    · exact Nat.le_succ_of_le (nodup_le n l nd fun x hx => by
        have := h x hx
        have : x ≠ n := fun z => hn (z ▸ hx)
        omega)
theorem lef_len (ds : List Nat) (n r : Nat) : (lef ds n r).length ≤ n := nodup_le n _ (lef_nodup ds n r) fun x hx => (lef_mem.mp hx).1
theorem getD_idx {l : List Nat} {k : Nat} (hk : k ∈ l) : l.getD (l.idxOf k) 0 = k := by
  have := List.idxOf_lt_length_of_mem hk
  rw [List.getD_eq_getElem?_getD, List.getElem?_eq_getElem this, Option.getD_some, List.getElem_idxOf]
theorem wm_rm {L : Mx Un} {l : List Nat} {k : Nat} (nd : l.Nodup) (hk : k ∈ l) (i j : Nat) : wm (rm L l) (l.idxOf k) i j = rm (el L k) (wo l k) i j := by
  unfold wm rm
  unfold el
  dsimp only
  rw [wo_get nd hk, wo_get nd hk, getD_idx hk]
/-- spots by way of what is left -/
theorem idx_inj {l : List Nat} {x y : Nat} (hx : x ∈ l) (hy : y ∈ l) (h : l.idxOf x = l.idxOf y) : x = y := by
  have h1 := getD_idx hx
  have h2 := getD_idx hy
  rw [h] at h1
  exact h1.symm.trans h2
theorem dd_map {f : Nat → Nat} {l : List Nat} (inj : ∀ x ∈ l, ∀ y ∈ l, f x = f y → x = y) : dd (l.map f) = (dd l).map f := by
  have gen : ∀ (l2 l1 : List Nat), l = l1 ++ l2 → ((l2.map f).foldl (fun o x => if x ∈ o then o else o ++ [x]) ((dd l1).map f)) = (dd (l1 ++ l2)).map f := by
    intro l2
    induction l2 with
    | nil => intro l1 _; rw [List.append_nil]; rfl
    | cons a l2 ih =>
      intro l1 hl
      rw [List.map_cons, List.foldl_cons]
      have ha : a ∈ l := by rw [hl]; simp
      have hm : f a ∈ (dd l1).map f ↔ a ∈ dd l1 := by
        constructor
        · intro z
          obtain ⟨b, hb, e⟩ := List.mem_map.mp z
          have hbl : b ∈ l := by rw [hl]; exact List.mem_append_left _ (dd_mem.mp hb)
          rw [inj a ha b hbl e.symm]
          exact hb
        · exact fun z => List.mem_map_of_mem z
      have e1 : (if f a ∈ (dd l1).map f then (dd l1).map f else (dd l1).map f ++ [f a]) = (dd (l1 ++ [a])).map f := by
        rw [dd_snoc]
        by_cases c : a ∈ dd l1
        · rw [if_pos (hm.mpr c), if_pos c]
        · rw [if_neg (fun z => c (hm.mp z)), if_neg c, List.map_append]
          rfl
      rw [e1, ih (l1 ++ [a]) (by rw [hl]; simp)]
      simp
  exact gen l [] rfl
theorem idx_map {f : Nat → Nat} : ∀ {l : List Nat} {x : Nat}, (∀ y ∈ l, f y = f x → y = x) → (l.map f).idxOf (f x) = l.idxOf x
  | [], x, _ => rfl
  | a :: l, x, inj => by
    rw [List.map_cons]
    by_cases e : a = x
    · subst e
      rw [List.idxOf_cons_self, List.idxOf_cons_self]
    · rw [idxc (fun z => e (inj a List.mem_cons_self z)), idxc e, idx_map fun y hy => inj y (List.mem_cons_of_mem _ hy)]
/-- a maze's part -/
def pM (z : Mz) : Mx Un := rm (lab z.ds (mm z.ps) z.n) (dd z.ds)
def pS (z : Mz) : List Nat := z.ds.map fun d => (dd z.ds).idxOf d
theorem part_spots {z : Mz} (ok : MzOk z) : (z.ds.map fun d => (lef z.ds z.n z.n).idxOf d).map (fun x => (dd (z.ds.map fun d => (lef z.ds z.n z.n).idxOf d)).idxOf x) = pS z ∧ (dd (z.ds.map fun d => (lef z.ds z.n z.n).idxOf d)).length = (dd z.ds).length ∧
    ∀ i j, i < (dd z.ds).length → j < (dd z.ds).length → rm (rm (lab z.ds (mm z.ps) z.n) (lef z.ds z.n z.n)) (dd (z.ds.map fun d => (lef z.ds z.n z.n).idxOf d)) i j = pM z i j := by
  have hin : ∀ x ∈ z.ds, x ∈ lef z.ds z.n z.n := fun x hx => lef_mem.mpr ⟨ok.d x hx, .inr hx⟩
  have inj : ∀ x ∈ z.ds, ∀ y ∈ z.ds, (lef z.ds z.n z.n).idxOf x = (lef z.ds z.n z.n).idxOf y → x = y := fun x hx y hy h => idx_inj (hin x hx) (hin y hy) h
  have e := dd_map inj
  refine ⟨?_, by rw [e, List.length_map], fun i j hi hj => ?_⟩
  · rw [e, List.map_map]
    unfold pS
    refine List.map_congr_left fun d hd => ?_
    show ((dd z.ds).map _).idxOf ((lef z.ds z.n z.n).idxOf d) = _
    exact idx_map (f := fun d => (lef z.ds z.n z.n).idxOf d) fun y hy h => inj y (dd_mem.mp hy) d hd h
  · rw [e]
    have g : ∀ i, i < (dd z.ds).length → (lef z.ds z.n z.n).getD (((dd z.ds).map fun d => (lef z.ds z.n z.n).idxOf d).getD i 0) 0 = (dd z.ds).getD i 0 := fun i hi => by
      have hm : (dd z.ds)[i] ∈ z.ds := dd_mem.mp (List.getElem_mem hi)
      have e1 : ((dd z.ds).map fun d => (lef z.ds z.n z.n).idxOf d).getD i 0 = (lef z.ds z.n z.n).idxOf (dd z.ds)[i] := by
        rw [List.getD_eq_getElem?_getD, List.getElem?_map, List.getElem?_eq_getElem hi]
        rfl
      have e2 : (dd z.ds).getD i 0 = (dd z.ds)[i] := by
        rw [List.getD_eq_getElem?_getD, List.getElem?_eq_getElem hi]
        rfl
      rw [e1, e2]
      exact getD_idx (hin _ hm)
    show lab z.ds (mm z.ps) z.n _ _ = lab z.ds (mm z.ps) z.n _ _
    rw [g i hi, g j hj]
end Pm
/-! A maze's table tells its closure. -/
namespace Pm
open Cs
/-- all ways from a room to another -/
def clos (z : Mz) : Mx Un := fun i j => sol (List.range z.n) (mm z.ps) (one j) i
def dr (z : Mz) (i : Nat) : Nat := z.ds.getD i 0
section
variable {R : Type} [Cs R]
theorem sm_mem : ∀ {l l' : List Nat} {f : Nat → R}, l.Nodup → l'.Nodup → (∀ x, x ∈ l ↔ x ∈ l') → sm l f = sm l' f
  | [], l', f, _, _, h => by
    have : l' = [] := by
      cases l' with
      | nil => rfl
      | cons a l' => exact absurd ((h a).mpr List.mem_cons_self) (by simp)
    rw [this]
  | a :: l, l', f, nd, nd', h => by
    have ha : a ∈ l' := (h a).mp List.mem_cons_self
    obtain ⟨n1, n2⟩ := List.nodup_cons.mp nd
    rw [sm_cons, sm_wo nd' ha, sm_mem n2 (wo_nodup nd') fun x => ?_]
    rw [wo_mem, ← h x]
    constructor
    · intro z
      exact ⟨List.mem_cons_of_mem _ z, fun e => n1 (e ▸ z)⟩
    · rintro ⟨z, e⟩
      exact (List.mem_cons.mp z).resolve_left e
end
theorem Sys.congrB {l : List Nat} {M : Mx Un} {b b' x : Nat → Ps'} (h : Sys l M b x) (e : ∀ i ∈ l, b i = b' i) : Sys l M b' x := fun i hi => by rw [← e i hi]; exact h i hi
theorem lab_sys {z : Mz} (ok : MzOk z) {j : Nat} (hj : j ∈ z.ds) : ∀ r, r ≤ z.n → Sys (lef z.ds z.n r) (lab z.ds (mm z.ps) r) (one j) (fun i => clos z i j)
  | 0, _ => sol_sys (mm_nc ok.p)
  | r + 1, hr => by
    have ih := lab_sys ok hj r (by omega)
    rw [lef, lab]
    by_cases hin : r ∈ z.ds
    · rw [if_pos hin, if_pos hin]
      exact ih
    · rw [if_neg hin, if_neg hin]
      have hm : r ∈ lef z.ds z.n r := lef_mem.mpr ⟨by omega, .inl (Nat.le_refl _)⟩
      refine (ih.elim (lef_nodup _ _ _) hm (lab_nc (mm_nc ok.p) r r r)).congrB fun i _ => ?_
      have : (one j r : Ps') = 0 := by
        unfold one
        refine if_neg fun e => hin ?_
        rw [e]; exact hj
      show one j i + _ * one j r = one j i
      rw [this, muz, adz]
theorem range_getD (l : List Nat) : (List.range l.length).map (fun i => l.getD i 0) = l := by
  refine List.ext_getElem? fun i => ?_
  by_cases h : i < l.length
  · rw [List.getElem?_map, List.getElem?_range h, List.getElem?_eq_getElem h]
    show some (l.getD i 0) = _
    rw [List.getD_eq_getElem?_getD, List.getElem?_eq_getElem h]
    rfl
  · rw [List.getElem?_eq_none (by simp; omega), List.getElem?_eq_none (by omega)]
theorem getD_mem {l : List Nat} {i : Nat} (h : i < l.length) : l.getD i 0 ∈ l := by
  rw [List.getD_eq_getElem?_getD, List.getElem?_eq_getElem h]
  exact List.getElem_mem h
theorem getD_inj {l : List Nat} {i j : Nat} (nd : l.Nodup) (hi : i < l.length) (hj : j < l.length) (h : l.getD i 0 = l.getD j 0) : i = j := by
  rw [List.getD_eq_getElem?_getD, List.getD_eq_getElem?_getD, List.getElem?_eq_getElem hi, List.getElem?_eq_getElem hj] at h
  have h2 : l[i]? = l[j]? := by rw [List.getElem?_eq_getElem hi, List.getElem?_eq_getElem hj]; exact congrArg some h
  exact (List.getElem?_inj hi nd).mp h2
theorem part_sys {z : Mz} (ok : MzOk z) {b : Nat} (hb : b < (dd z.ds).length) : Sys (List.range (dd z.ds).length) (pM z) (one b) (fun a => clos z ((dd z.ds).getD a 0) ((dd z.ds).getD b 0)) := by
  intro a ha
  have ha := List.mem_range.mp ha
  have nd := dd_nodup z.ds
  have hbm := dd_mem.mp (getD_mem hb)
  have ham := dd_mem.mp (getD_mem ha)
  have h := lab_sys ok hbm z.n (Nat.le_refl _) _ (lef_mem.mpr ⟨ok.d _ ham, .inr ham⟩)
  refine Eq.trans h ?_
  congr 1
  · unfold one
    by_cases e : a = b
    · rw [if_pos e, if_pos (by rw [e])]
    · rw [if_neg e, if_neg fun q => e (getD_inj nd ha hb q)]
  · rw [sm_mem (lef_nodup z.ds z.n z.n) nd fun x => ?_]
    · have e : (sm (dd z.ds) fun k => lab z.ds (mm z.ps) z.n ((dd z.ds).getD a 0) k * clos z k ((dd z.ds).getD b 0)) = sm ((List.range (dd z.ds).length).map fun i => (dd z.ds).getD i 0) fun k => lab z.ds (mm z.ps) z.n ((dd z.ds).getD a 0) k * clos z k ((dd z.ds).getD b 0) := by rw [range_getD]
      rw [e, sm_map]
      rfl
    · rw [lef_mem, dd_mem]
      constructor
      · rintro ⟨h1, h2⟩
        rcases h2 with h2 | h2
        · omega
        · exact h2
      · exact fun h => ⟨ok.d x h, .inr h⟩
def gone : Nat → List Nat
  | 0 => []
  | k + 1 => k :: gone k
theorem gone_mem {x : Nat} : ∀ {k}, x ∈ gone k ↔ x < k
  | 0 => by simp [gone]
  | k + 1 => by
    rw [gone, List.mem_cons, gone_mem]
    omega
/-- the closing tells the solution -/
theorem clo_sys {n : Nat} {M : Mx Un} {x : Nat → Ps'} {j : Nat} (nc : ∀ i j, Nc (M i j)) (hj : j < n) (h : Sys (List.range n) M (one j) x) : ∀ i, i < n → x i = clo M n i j := by
  have hj2 : j ∈ List.range n := List.mem_range.mpr hj
  have step : ∀ k, k ≤ n → Thr (List.range n) (gone k) (cl M k) (one j) j x := by
    intro k
    induction k with
    | zero => exact fun _ => Thr.start h
    | succ k ih =>
      intro hk
      exact Thr.step List.nodup_range (cl_nc nc k k k) (List.mem_range.mpr (by omega)) (fun q => by have := gone_mem.mp q; omega) hj2 (ih (by omega))
  intro i hi
  have e := Thr.end_ (fun i hi => gone_mem.mpr (List.mem_range.mp hi)) hj2 (step n (Nat.le_refl _)) i (List.mem_range.mpr hi)
  rw [e]
  unfold clo one
  by_cases q : i = j
  · rw [if_pos q, if_pos q, aco]
  · rw [if_neg q, if_neg q, zad]
theorem pM_nc {z : Mz} (ok : MzOk z) (i j : Nat) : Nc (pM z i j) := lab_nc (mm_nc ok.p) _ _ _
theorem pM_ch {z : Mz} (ok : MzOk z) (i j : Nat) : Ch (pM z i j) := lab_ch (mm_ch ok.p) _ _ _
/-- a maze's table -/
theorem table_clos {z : Mz} (ok : MzOk z) {i j : Nat} (hi : i < z.ds.length) (hj : j < z.ds.length) : rm (clo (pM z) (dd z.ds).length) (pS z) i j = clos z (dr z i) (dr z j) := by
  have key : ∀ i, i < z.ds.length → ∃ a, a < (dd z.ds).length ∧ (pS z).getD i 0 = a ∧ (dd z.ds).getD a 0 = dr z i := fun i hi => by
    have hm : z.ds[i] ∈ dd z.ds := dd_mem.mpr (List.getElem_mem hi)
    refine ⟨(dd z.ds).idxOf z.ds[i], List.idxOf_lt_length_of_mem hm, ?_, ?_⟩
    · unfold pS
      rw [List.getD_eq_getElem?_getD, List.getElem?_map, List.getElem?_eq_getElem hi]
      rfl
    · rw [getD_idx hm]
      unfold dr
      rw [List.getD_eq_getElem?_getD, List.getElem?_eq_getElem hi]
      rfl
  obtain ⟨a, ha, h1, h2⟩ := key i hi
  obtain ⟨b, hb, h3, h4⟩ := key j hj
  unfold rm
  rw [h1, h3, ← clo_sys (pM_nc ok) hb (part_sys ok hb) a ha, h2, h4]
end Pm
/-! Texts of nests, plainly. -/
namespace Ps
open PySem L2 Sl
abbrev Sg := List (Nat × Nat)
def cAt (ss : Sg) (i : Nat) : Option Nat := (ss[i]?).map (·.1)
def pAt (ss : Sg) (n i : Nat) : Nat := ((ss[i]?).map (·.2)).getD n
def sgD (p : Nat × Nat) : D := .tup [.str ⟨#[p.1]⟩, .int (p.2 : Int)]
def isDg (c : Nat) : Bool := decide (48 ≤ c ∧ c ≤ 57)
def isLt (c : Nat) : Bool := decide (97 ≤ c ∧ c ≤ 102)
inductive Rz where
  | bad (p : Nat) (m : Str) | ok (t : D) (i : Nat)
/-- a digit's value, none where it is none -/
def dgV (ss : Sg) (i : Nat) : Option Nat := match cAt ss i with
  | some c => if isDg c then some (c - 48) else none
  | none => none
mutual
def nestP (ss : Sg) (n : Nat) : Nat → Nat → Nat → Option Rz
  | 0, _, _ => none
  | f + 1, d, i => match itemP ss n f d i with
    | some (.ok t j) => nestL ss n f d t j
    | r => r
def nestL (ss : Sg) (n : Nat) : Nat → Nat → D → Nat → Option Rz
  | 0, _, _, _ => none
  | f + 1, d, t, i => if cAt ss i = some 43 then (match itemP ss n f d (i + 1) with
      | some (.ok u j) => nestL ss n f d (.tup [.str "beside", t, u]) j
      | r => r) else some (.ok t i)
def itemP (ss : Sg) (n : Nat) : Nat → Nat → Nat → Option Rz
  | 0, _, _ => none
  | f + 1, d, i => match atomP ss n f d i with
    | some (.ok t j) => itemL ss n f d t j
    | r => r
def itemL (ss : Sg) (n : Nat) : Nat → Nat → D → Nat → Option Rz
  | 0, _, _, _ => none
  | f + 1, d, t, i => if cAt ss i = some 47 then (match dgV ss (i + 1) with
      | none => some (.bad (pAt ss n (i + 1)) "expected a digit")
      | some v => match atomP ss n f d (i + 2) with
        | some (.ok u j) => itemL ss n f d (.tup [.str "over", .int (v : Int), t, u]) j
        | r => r) else some (.ok t i)
def atomP (ss : Sg) (n : Nat) : Nat → Nat → Nat → Option Rz
  | 0, _, _ => none
  | f + 1, d, i => match groundP ss n f d i with
    | some (.ok t j) => atomL ss n f d t j
    | r => r
def atomL (ss : Sg) (n : Nat) : Nat → Nat → D → Nat → Option Rz
  | 0, _, _, _ => none
  | f + 1, d, t, i => if cAt ss i = some 91 then (match dgV ss (i + 1) with
      | none => some (.bad (pAt ss n (i + 1)) "expected a digit")
      | some v => if cAt ss (i + 2) = some 61 then (match dgV ss (i + 3) with
          | none => some (.bad (pAt ss n (i + 3)) "expected a digit")
          | some u => if cAt ss (i + 4) = some 93 then atomL ss n f d (.tup [.str "glue", .int (v : Int), .int (u : Int), t]) (i + 5) else some (.bad (pAt ss n (i + 4)) "expected ]"))
        else if cAt ss (i + 2) = some 93 then atomL ss n f d (.tup [.str "hide", .int (v : Int), t]) (i + 3) else some (.bad (pAt ss n (i + 2)) "expected = or ]"))
    else some (.ok t i)
def groundP (ss : Sg) (n : Nat) : Nat → Nat → Nat → Option Rz
  | 0, _, _ => none
  | f + 1, d, i => if cAt ss i = some 40 then (if d = 20 then some (.bad (pAt ss n i) "this is too deep") else match nestP ss n f (d + 1) (i + 1) with
      | some (.ok t j) => if cAt ss j = some 41 then some (.ok t (j + 1)) else some (.bad (pAt ss n j) "expected )")
      | r => r)
    else match cAt ss i with
      | some c => if isLt c then some (.ok (.tup [.str "maze", .str ⟨#[c]⟩]) (i + 1)) else some (.bad (pAt ss n i) "expected a maze")
      | none => some (.bad (pAt ss n i) "expected a maze")
end
/-- signs that a text may have, but blanks -/
def okSg (c : Nat) : Bool := isLt c || isDg c || c == 43 || c == 47 || c == 40 || c == 41 || c == 91 || c == 93 || c == 61
def signsOf (t : List Nat) : Sg := t.zipIdx.filter fun p => p.1 != 32
/-- the first sign that cannot stand there -/
def badSg (ss : Sg) : Option Nat := (ss.find? fun p => !okSg p.1).map (·.2)
def fuel (t : List Nat) : Nat := 4 * t.length + 4
def treeOf (t : List Nat) : Except (Nat × Str) D := match badSg (signsOf t) with
  | some pl => .error (pl, "this sign cannot stand here")
  | none => match nestP (signsOf t) t.length (fuel t) 0 0 with
    | some (.bad pl m) => .error (pl, m)
    | some (.ok d j) => if cAt (signsOf t) j = none then .ok d else .error (pAt (signsOf t) t.length j, "expected the end")
    | none => .error (0, "")
theorem enough (ss : Sg) (n : Nat) : ∀ f : Nat,
    (∀ d i, 4 * (ss.length - i) + 4 ≤ f → ∃ r, nestP ss n f d i = some r ∧ ∀ t j, r = .ok t j → i < j) ∧
    (∀ d t i, 4 * (ss.length - i) + 1 ≤ f → ∃ r, nestL ss n f d t i = some r ∧ ∀ t j, r = .ok t j → i ≤ j) ∧
    (∀ d i, 4 * (ss.length - i) + 3 ≤ f → ∃ r, itemP ss n f d i = some r ∧ ∀ t j, r = .ok t j → i < j) ∧
    (∀ d t i, 4 * (ss.length - i) + 1 ≤ f → ∃ r, itemL ss n f d t i = some r ∧ ∀ t j, r = .ok t j → i ≤ j) ∧
    (∀ d i, 4 * (ss.length - i) + 2 ≤ f → ∃ r, atomP ss n f d i = some r ∧ ∀ t j, r = .ok t j → i < j) ∧
    (∀ d t i, 4 * (ss.length - i) + 1 ≤ f → ∃ r, atomL ss n f d t i = some r ∧ ∀ t j, r = .ok t j → i ≤ j) ∧
    (∀ d i, 4 * (ss.length - i) + 1 ≤ f → ∃ r, groundP ss n f d i = some r ∧ ∀ t j, r = .ok t j → i < j) := by
  have lt : ∀ {i c : Nat}, cAt ss i = some c → i < ss.length := fun {i c} h => by
    unfold cAt at h
    cases q : ss[i]? with
    | none => rw [q] at h; cases h
    | some p => exact (List.getElem?_eq_some_iff.mp q).1
  have dlt : ∀ {i v : Nat}, dgV ss i = some v → i < ss.length := fun {i v} h => by
    unfold dgV at h
    cases q : cAt ss i with
    | none => rw [q] at h; cases h
    | some c => exact lt q
  intro f
  induction f with
  | zero => refine ⟨?_, ?_, ?_, ?_, ?_, ?_, ?_⟩ <;> (intros; omega)
  | succ f ih =>
    obtain ⟨hN, hNL, hI, hIL, hA, hAL, hG⟩ := ih
    refine ⟨?_, ?_, ?_, ?_, ?_, ?_, ?_⟩
    · intro d i h
      obtain ⟨r, e, m⟩ := hI d i (by omega)
      simp only [nestP, e]
      cases r with
      | bad p q => exact ⟨_, rfl, fun t j z => by cases z⟩
      | ok t j =>
        have hj := m t j rfl
        obtain ⟨r2, e2, m2⟩ := hNL d t j (by omega)
        exact ⟨r2, e2, fun t' j' z => by have := m2 t' j' z; omega⟩
    · intro d t i h
      simp only [nestL]
      by_cases c : cAt ss i = some 43
      · have hi := lt c
        rw [if_pos c]
        obtain ⟨r, e, m⟩ := hI d (i + 1) (by omega)
        rw [e]
        cases r with
        | bad p q => exact ⟨_, rfl, fun t j z => by cases z⟩
        | ok u j =>
          have hj := m u j rfl
          obtain ⟨r2, e2, m2⟩ := hNL d (.tup [.str "beside", t, u]) j (by omega)
          exact ⟨r2, e2, fun t' j' z => by have := m2 t' j' z; omega⟩
      · rw [if_neg c]
        exact ⟨_, rfl, fun t' j' z => by cases z; exact Nat.le_refl _⟩
    · intro d i h
      obtain ⟨r, e, m⟩ := hA d i (by omega)
      simp only [itemP, e]
      cases r with
      | bad p q => exact ⟨_, rfl, fun t j z => by cases z⟩
      | ok t j =>
        have hj := m t j rfl
        obtain ⟨r2, e2, m2⟩ := hIL d t j (by omega)
        exact ⟨r2, e2, fun t' j' z => by have := m2 t' j' z; omega⟩
    · intro d t i h
      simp only [itemL]
      by_cases c : cAt ss i = some 47
      · have hi := lt c
        rw [if_pos c]
        cases q : dgV ss (i + 1) with
        | none => exact ⟨_, rfl, fun t j z => by cases z⟩
        | some v =>
          have hi2 := dlt q
          obtain ⟨r, e, m⟩ := hA d (i + 2) (by omega)
          simp only [e]
          cases r with
          | bad p q => exact ⟨_, rfl, fun t j z => by cases z⟩
          | ok u j =>
            have hj := m u j rfl
            obtain ⟨r2, e2, m2⟩ := hIL d (.tup [.str "over", .int (v : Int), t, u]) j (by omega)
            exact ⟨r2, e2, fun t' j' z => by have := m2 t' j' z; omega⟩
      · rw [if_neg c]
        exact ⟨_, rfl, fun t' j' z => by cases z; exact Nat.le_refl _⟩
    · intro d i h
      obtain ⟨r, e, m⟩ := hG d i (by omega)
      simp only [atomP, e]
      cases r with
      | bad p q => exact ⟨_, rfl, fun t j z => by cases z⟩
      | ok t j =>
        have hj := m t j rfl
        obtain ⟨r2, e2, m2⟩ := hAL d t j (by omega)
        exact ⟨r2, e2, fun t' j' z => by have := m2 t' j' z; omega⟩
    · intro d t i h
      simp only [atomL]
      by_cases c : cAt ss i = some 91
      · have hi := lt c
        rw [if_pos c]
        cases q : dgV ss (i + 1) with
        | none => exact ⟨_, rfl, fun t j z => by cases z⟩
        | some v =>
          have hi2 := dlt q
          simp only []
          by_cases c2 : cAt ss (i + 2) = some 61
          · have hi3 := lt c2
            rw [if_pos c2]
            cases q2 : dgV ss (i + 3) with
            | none => exact ⟨_, rfl, fun t j z => by cases z⟩
            | some u =>
              have hi4 := dlt q2
              simp only []
              by_cases c3 : cAt ss (i + 4) = some 93
              · rw [if_pos c3]
                obtain ⟨r2, e2, m2⟩ := hAL d (.tup [.str "glue", .int (v : Int), .int (u : Int), t]) (i + 5) (by omega)
                exact ⟨r2, e2, fun t' j' z => by have := m2 t' j' z; omega⟩
              · rw [if_neg c3]
                exact ⟨_, rfl, fun t j z => by cases z⟩
          · rw [if_neg c2]
            by_cases c3 : cAt ss (i + 2) = some 93
            · rw [if_pos c3]
              obtain ⟨r2, e2, m2⟩ := hAL d (.tup [.str "hide", .int (v : Int), t]) (i + 3) (by omega)
              exact ⟨r2, e2, fun t' j' z => by have := m2 t' j' z; omega⟩
            · rw [if_neg c3]
              exact ⟨_, rfl, fun t j z => by cases z⟩
      · rw [if_neg c]
        exact ⟨_, rfl, fun t' j' z => by cases z; exact Nat.le_refl _⟩
    · intro d i h
      simp only [groundP]
      by_cases c : cAt ss i = some 40
      · have hi := lt c
        rw [if_pos c]
        by_cases d20 : d = 20
        · rw [if_pos d20]
          exact ⟨_, rfl, fun t j z => by cases z⟩
        · rw [if_neg d20]
          obtain ⟨r, e, m⟩ := hN (d + 1) (i + 1) (by omega)
          rw [e]
          cases r with
          | bad p q => exact ⟨_, rfl, fun t j z => by cases z⟩
          | ok t j =>
            have hj := m t j rfl
            simp only []
            by_cases c2 : cAt ss j = some 41
            · rw [if_pos c2]
              exact ⟨_, rfl, fun t' j' z => by cases z; omega⟩
            · rw [if_neg c2]
              exact ⟨_, rfl, fun t j z => by cases z⟩
      · rw [if_neg c]
        cases q : cAt ss i with
        | none => exact ⟨_, rfl, fun t j z => by cases z⟩
        | some a =>
          simp only []
          cases isLt a with
          | true => exact ⟨_, rfl, fun t' j' z => by cases z; omega⟩
          | false => exact ⟨_, rfl, fun t j z => by cases z⟩
theorem len_signs (t : List Nat) : (signsOf t).length ≤ t.length := by
  unfold signsOf
  exact Nat.le_trans (List.length_filter_le _ _) (by simp)
abbrev sg (l : List Nat) : Str := ⟨l.toArray⟩
theorem sg_len (l : List Nat) : (sg l).length = l.length := by simp [Str.length]
theorem sg_app (a b : List Nat) : sg a ++ sg b = sg (a ++ b) := congrArg Str.mk (show a.toArray ++ b.toArray = (a ++ b).toArray by simp)
theorem bad_none {ss : Sg} (h : ∀ q ∈ ss, okSg q.1 = true) : badSg ss = none := by
  unfold badSg
  have : (ss.find? fun p => !okSg p.1) = none := List.find?_eq_none.mpr fun q hq => by simp [h q hq]
  rw [this] <;> rfl
theorem bad_some {ss : Sg} {i : Nat} {q : Nat × Nat} (h : ∀ q ∈ ss.take i, okSg q.1 = true) (e : ss[i]? = some q) (hq : okSg q.1 = false) : badSg ss = some q.2 := by
  obtain ⟨hi, e2⟩ := List.getElem?_eq_some_iff.mp e
  have e3 : ss = ss.take i ++ q :: ss.drop (i + 1) := by
    rw [← e2, ← List.drop_eq_getElem_cons hi, List.take_append_drop]
  have e4 : (ss.find? fun p => !okSg p.1) = some q := by
    rw [e3, List.find?_append, List.find?_eq_none.mpr (fun p hp => by simp [h p hp])]
    simp [List.find?_cons, hq]
  unfold badSg
  rw [e4] <;> rfl
end Ps
/-! How arguments are looked at. -/
namespace K09
open PySem PySem.Spec
open PyProof.Rows L2 Sl Pm
section
variable {P : Program} {w : World} {K : PySem.W.Frag} {mg : Str → Option Value} {base : Heap} {H H1 H2 : Hp} {E : XK} {Q : VK}
abbrev cB (K : PySem.W.Frag) : Addr := He.ga K "BadArgument"
theorem ok_Badinit (T : Tx K mg) : Has P w K mg base 1 (a_BadArgument_init K) p_BadArgument_init (spX1 K (cB K) "name") := by
  refine has_of (f_BadArgument_init T) (z_BadArgument_init T) (b_BadArgument_init T) (fun vs H Q E h => by obtain ⟨_, _, rfl, _⟩ := h; rfl) (fun cdv A outer s H vs Q E hr h => ?_)
  obtain ⟨o, y, rfl, T1, hf, ho, k⟩ := h
  refine ⟨_, pss_one (ps_ost (pv 0) (pv 1)), ?_⟩
  exact ⟨_, rfl, _, rfl, o, _, rfl, T1, hf, .inl ⟨ho, k⟩⟩
/-- an argument is refused -/
abbrev Bd_ (K : PySem.W.Frag) (H : Hp) (E : XK) (nm : Str) : Prop := ∀ d H', Ex H H' → H d = none → H' d = some (.xd [("name", .str nm)]) → E (.ref (cB K)) (some d) H'
def spNeed (K : PySem.W.Frag) : Sp := fun vs H Q E => ∃ (b : Bool) (nm : Str), vs = [.bl b, .str nm] ∧ (b = true → Q .non H) ∧ (b = false → Bd_ K H E nm)
theorem ok_need (T : Tx K mg) : Has P w K mg base 3 (a_need K) p_need (spNeed K) := by
  refine has_of (f_need T) (z_need T) (b_need T) (fun vs H Q E h => by obtain ⟨_, _, rfl, _⟩ := h; rfl) (fun cdv A outer s H vs Q E hr h => ?_)
  obtain ⟨b, nm, rfl, k1, k2⟩ := h
  have h_BadArgument_init := ok_Badinit (P := P) (w := w) (base := base) T
  refine ⟨_, (pss_one (ps_if (pt_not (pt_val (pv 0))) (pss_one (praise h_BadArgument_init rfl tk_of (x_BadArgument T).1 (xi_BadArgument T).1 (xi_BadArgument T).2 (hr.mono (by omega)) (g_BadArgument T) (pa_cons (pv 1) pa_nil))) pss_nil)), ?_⟩
  refine ⟨_, rfl, _, rfl, ?_⟩
  cases b with
  | true => exact k1 rfl
  | false => exact ⟨_, rfl, mkx1 (x_BadArgument T).1 (n_BadArgument_name T) (k2 rfl)⟩
def spWhole : Sp := fun vs H Q _ => ∃ (x lo hi : Int), vs = [.int x, .int lo, .int hi] ∧ Q (.bl (decide (lo ≤ x ∧ x ≤ hi))) H
theorem ok_whole (T : Tx K mg) : Has P w K mg base 1 (a_is_whole K) p_is_whole spWhole := by
  refine has_of (f_is_whole T) (z_is_whole T) (b_is_whole T) (fun vs H Q E h => by obtain ⟨_, _, _, rfl, _⟩ := h; rfl) (fun cdv A outer s H vs Q E hr h => ?_)
  obtain ⟨x, lo, hi, rfl, k⟩ := h
  refine ⟨_, (pss_one (ps_ret (pe_and (pe_callB (isiK K) (by rfl) (l_isinstance T) (by decide +kernel) (pa_cons (pv 0) (pa_cons (pe_bltn (v := .ty "int") (u := .type "int") rfl (l_int T) (by decide +kernel) rfl) pa_nil))) (pe_and (pe_not (pe_callB (isiK K) (by rfl) (l_isinstance T) (by decide +kernel) (pa_cons (pv 0) (pa_cons (pe_bltn (v := .ty "bool") (u := .type "bool") rfl (l_bool T) (by decide +kernel) rfl) pa_nil)))) (pe_one (pe_chain oLeI oLeI (pv 1) (pv 0) (pv 2))))))), ?_⟩
  refine ⟨_, rfl, _, _, _, _, true, rfl, .ty _, .base (.int _), kit_ty (by decide +kernel), true, rfl, ?_⟩
  refine ⟨_, rfl, _, _, _, _, false, rfl, .ty _, .base (.int _), kit_ty (by decide +kernel), false, rfl, true, rfl, ?_⟩
  refine ⟨_, rfl, _, rfl, _, _, rfl, rfl, decide (lo ≤ x), rfl, ifBH (fun h => ?_) (fun h => ?_)⟩
  · refine ⟨_, rfl, _, _, rfl, rfl, ?_⟩
    have e : decide (lo ≤ x ∧ x ≤ hi) = decide (x ≤ hi) := decide_eq_decide.mpr ⟨fun z => z.2, fun z => ⟨of_decide_eq_true h, z⟩⟩
    rw [e] at k
    exact k
  · have e : decide (lo ≤ x ∧ x ≤ hi) = false := decide_eq_false fun z => of_decide_eq_false h z.1
    rw [e] at k
    exact k
theorem wh {x lo hi : Int} (h1 : lo ≤ x) (h2 : x ≤ hi) : V.bl (decide (lo ≤ x ∧ x ≤ hi)) = .bl true := by rw [decide_eq_true ⟨h1, h2⟩]
def spPassage (K : PySem.W.Frag) : Sp := fun vs H Q _ => ∃ (p : Pg) (n : Nat) (v : V), vs = [v, .int (n : Int)] ∧ RD K H (pgD p) v ∧ PgOk n p ∧ Q (.bl true) H
theorem ok_passage (T : Tx K mg) : Has P w K mg base 2 (a_is_passage K) p_is_passage (spPassage K) := by
  refine has_of (f_is_passage T) (z_is_passage T) (b_is_passage T) (fun vs H Q E h => by obtain ⟨_, _, _, rfl, _⟩ := h; rfl) (fun cdv A outer s H vs Q E hr h => ?_)
  obtain ⟨p, n, v, rfl, rv, ok, k⟩ := h
  have h_is_whole := ok_whole (P := P) (w := w) (base := base) T
  obtain ⟨a, x1, x2, x3, x4, rfl, ha, r1, r2, r3, r4⟩ := slots4 rv
  obtain rfl := r1.ofInt
  obtain rfl := r2.ofInt
  obtain rfl := r3.ofInt
  obtain rfl := r4.ofInt
  have o1 := ok.s
  have o2 := ok.g
  have o3 := ok.l
  have o4 := ok.w
  refine ⟨_, (pss_cons (ps_if (PW.pt (pw_or (pt_not (pt_val (pe_callB (isiK K) (by rfl) (l_isinstance T) (by decide +kernel) (pa_cons (pv 0) (pa_cons (pe_bltn (v := .ty "tuple") (u := .type "tuple") rfl (l_tuple T) (by decide +kernel) rfl) pa_nil))))) (pw_or1 (pt_cmpR op_ne (pe_callB (lenK K) (by rfl) (l_len T) (by decide +kernel) (pa_cons (pv 0) pa_nil)) pe_int (nomark _))))) (pss_one (ps_ret pe_bl)) pss_nil)
  (pss_cons (ps_if (PW.pt (pw_or (pt_not (pt_val (pcall h_is_whole (hr.mono (by omega)) (g_is_whole T) (pa_cons (pe_ix (ixT K) (pv 0) pe_int (fun _ _ => rfl)) (pa_cons pe_int (pa_cons (pe_op oSubI (pv 1) pe_int) pa_nil)))))) (pw_or1 (pt_not (pt_val (pcall h_is_whole (hr.mono (by omega)) (g_is_whole T) (pa_cons (pe_ix (ixT K) (pv 0) pe_int (fun _ _ => rfl)) (pa_cons pe_int (pa_cons (pe_op oSubI (pv 1) pe_int) pa_nil))))))))) (pss_one (ps_ret pe_bl)) pss_nil)
  (pss_one (ps_ret (pe_and (pcall h_is_whole (hr.mono (by omega)) (g_is_whole T) (pa_cons (pe_ix (ixT K) (pv 0) pe_int (fun _ _ => rfl)) (pa_cons pe_int (pa_cons (pgi (i_MOST_LENGTH T)) pa_nil)))) (pe_one (pcall h_is_whole (hr.mono (by omega)) (g_is_whole T) (pa_cons (pe_ix (ixT K) (pv 0) pe_int (fun _ _ => rfl)) (pa_cons pe_int (pa_cons (pgi (i_MOST_WIDTH T)) pa_nil)))))))))), ?_⟩
  refine ⟨_, rfl, _, _, _, _, true, rfl, .ty _, tyT ha, kit_ty (by decide +kernel), true, rfl, ?_⟩
  refine ⟨_, rfl, a, _, rfl, .inr ha, rfl, false, ndecN rfl, ?_⟩
  refine ⟨_, rfl, a, _, _, _, rfl, rfl, ha, rfl, _, rfl, _, _, rfl, rfl, _, _, _, rfl, true, wh (by omega) (by omega), ?_⟩
  refine ⟨_, rfl, a, _, _, _, rfl, rfl, ha, rfl, _, rfl, _, _, rfl, rfl, _, _, _, rfl, true, wh (by omega) (by omega), ?_⟩
  refine ⟨_, rfl, a, _, _, _, rfl, rfl, ha, rfl, _, _, _, rfl, true, wh (by omega) (by omega), ?_⟩
  refine ⟨_, rfl, a, _, _, _, rfl, rfl, ha, rfl, _, _, _, rfl, ?_⟩
  rw [wh (by omega) (by omega)]
  exact k
def spMaze (K : PySem.W.Frag) : Sp := fun vs H Q _ => ∃ (z : Mz) (v : V), vs = [v] ∧ RD K H (mzD z) v ∧ MzOk z ∧ ∀ H', Ex H H' → Q (.bl true) H'
theorem ok_isMaze (T : Tx K mg) : Has P w K mg base 3 (a_is_maze K) p_is_maze (spMaze K) := by
  refine has_of (f_is_maze T) (z_is_maze T) (b_is_maze T) (fun vs H Q E h => by obtain ⟨_, _, rfl, _⟩ := h; rfl) (fun cdv A outer s H vs Q E hr h => ?_)
  obtain ⟨z, v, rfl, rv, ok, k⟩ := h
  have h_is_whole := ok_whole (P := P) (w := w) (base := base) T
  have h_is_passage := ok_passage (P := P) (w := w) (base := base) T
  obtain ⟨a, x1, x2, x3, rfl, ha, r1, r2, r3⟩ := slots3 rv
  obtain rfl := r1.ofInt
  obtain ⟨b, xs, rfl, hb, rb⟩ := r2.ofTup
  obtain ⟨c, ys, rfl, hc, rc⟩ := r3.ofTup
  have o1 := ok.n
  have o2 := ok.pl
  have o3 := ok.dl
  have lx := rb.len
  have ly := rc.len
  rw [List.length_map] at lx ly
  refine ⟨_, (pss_cons (ps_if (PW.pt (pw_or (pt_not (pt_val (pe_callB (isiK K) (by rfl) (l_isinstance T) (by decide +kernel) (pa_cons (pv 0) (pa_cons (pe_bltn (v := .ty "tuple") (u := .type "tuple") rfl (l_tuple T) (by decide +kernel) rfl) pa_nil))))) (pw_or (pt_cmpR op_ne (pe_callB (lenK K) (by rfl) (l_len T) (by decide +kernel) (pa_cons (pv 0) pa_nil)) pe_int (nomark _)) (pw_or1 (pt_not (pt_val (pcall h_is_whole (hr.mono (by omega)) (g_is_whole T) (pa_cons (pe_ix (ixT K) (pv 0) pe_int (fun _ _ => rfl)) (pa_cons pe_int (pa_cons (pgi (i_MOST_ROOMS T)) pa_nil)))))))))) (pss_one (ps_ret pe_bl)) pss_nil)
  (pss_cons (ps_asg (pv 0) (tupK K (n := 3) (pgs_cons (pg_name (i := 1) (z_is_maze T).nd rfl (Or.inr rfl)) (pgs_cons (pg_name (i := 2) (z_is_maze T).nd rfl (Or.inl rfl)) (pgs_cons (pg_name (i := 3) (z_is_maze T).nd rfl (Or.inl rfl)) pgs_nil)))))
  (pss_cons (ps_if (PW.pt (pw_or (pt_not (pt_val (pe_callB (isiK K) (by rfl) (l_isinstance T) (by decide +kernel) (pa_cons (pv 2) (pa_cons (pe_bltn (v := .ty "tuple") (u := .type "tuple") rfl (l_tuple T) (by decide +kernel) rfl) pa_nil))))) (pw_or1 (pt_cmpR oGtI (pe_callB (lenK K) (by rfl) (l_len T) (by decide +kernel) (pa_cons (pv 2) pa_nil)) (pgi (i_MOST_PASSAGES T)) (nomark _))))) (pss_one (ps_ret pe_bl)) pss_nil)
  (pss_cons (ps_if (PW.pt (pw_or (pt_not (pt_val (pe_callB (isiK K) (by rfl) (l_isinstance T) (by decide +kernel) (pa_cons (pv 3) (pa_cons (pe_bltn (v := .ty "tuple") (u := .type "tuple") rfl (l_tuple T) (by decide +kernel) rfl) pa_nil))))) (pw_or1 (pt_cmpR oGtI (pe_callB (lenK K) (by rfl) (l_len T) (by decide +kernel) (pa_cons (pv 3) pa_nil)) (pgi (i_MOST_DOORS T)) (nomark _))))) (pss_one (ps_ret pe_bl)) pss_nil)
  (pss_one (ps_ret (pe_and (pe_callB (cr_all rfl) (by rfl) (l_all T) (by decide +kernel) (pa_cons (pe_lc (own := [("own", 4)]) rfl (z_is_maze T).nd (tupW K (pv 2)) (blkOk_by (N := n_is_maze) (sc := defScope s_is_maze) (by decide +kernel)) (fun _ _ _ _ _ => by exact (pg_name (i := 4) (z_is_maze T).nd rfl (Or.inl rfl))) (fun _ _ _ _ _ => by exact pts_nil) (fun _ _ _ _ _ => by exact (pcall h_is_passage (hr.mono (by omega)) (g_is_passage T) (pa_cons (pv 4) (pa_cons (pv 1) pa_nil))))) pa_nil)) (pe_one (pe_callB (cr_all rfl) (by rfl) (l_all T) (by decide +kernel) (pa_cons (pe_lc (own := [("own", 4)]) rfl (z_is_maze T).nd (tupW K (pv 3)) (blkOk_by (N := n_is_maze) (sc := defScope s_is_maze) (by decide +kernel)) (fun _ _ _ _ _ => by exact (pg_name (i := 4) (z_is_maze T).nd rfl (Or.inl rfl))) (fun _ _ _ _ _ => by exact pts_nil) (fun _ _ _ _ _ => by exact (pcall h_is_whole (hr.mono (by omega)) (g_is_whole T) (pa_cons (pv 4) (pa_cons pe_int (pa_cons (pe_op oSubI (pv 1) pe_int) pa_nil)))))) pa_nil)))))))))), ?_⟩
  refine ⟨_, rfl, _, _, _, _, true, rfl, .ty _, tyT ha, kit_ty (by decide +kernel), true, rfl, ?_⟩
  refine ⟨_, rfl, a, _, rfl, .inr ha, rfl, false, ndecN rfl, ?_⟩
  refine ⟨_, rfl, a, _, _, _, rfl, rfl, ha, rfl, _, _, _, rfl, true, wh (by omega) (by omega), ?_⟩
  refine ⟨_, rfl, a, _, rfl, ha, rfl, _, _, rfl, _, _, rfl, _, _, rfl, rfl, ?_⟩
  refine ⟨_, rfl, _, _, _, _, true, rfl, .ty _, tyT hb, kit_ty (by decide +kernel), true, rfl, ?_⟩
  refine ⟨_, rfl, b, _, rfl, .inr hb, _, _, rfl, rfl, false, by rw [decide_eq_false (by omega)], ?_⟩
  refine ⟨_, rfl, _, _, _, _, true, rfl, .ty _, tyT hc, kit_ty (by decide +kernel), true, rfl, ?_⟩
  refine ⟨_, rfl, c, _, rfl, .inr hc, _, _, rfl, rfl, false, by rw [decide_eq_false (by omega)], ?_⟩
  refine ⟨_, rfl, b, rfl, ⟨xs, hb⟩, fun l hl => lcD (K := K) hl (walk_tup (xs := xs)) (fun i => List.replicate i (.bl true)) rfl (fun H' e => e.t.sq hb) (fun i hi => by rw [List.length_replicate]; omega) (fun i x H1 H1' hi e y R N kR kN => ?_) (fun H2 zs e hz r => ?_)⟩
  · obtain ⟨rfl, hx⟩ := y
    have hi2 : i < z.ps.length := by omega
    obtain ⟨d, g1, g2⟩ := rb.getV hx
    rw [List.getElem?_map, List.getElem?_eq_getElem hi2] at g1
    cases g1
    exact ⟨rfl, _, rfl, _, rfl, z.ps[i], z.n, _, rfl, g2.mono e.t, ok.p _ (List.getElem_mem hi2), kR _ _ _ (Ex.refl _) (.bl _) (rep_succ _ _)⟩
  · obtain rfl := trues r
    refine ⟨_, _, rfl, SqL.of hz, true, by rw [all_trues], ?_⟩
    refine ⟨_, rfl, c, rfl, ⟨ys, e.t.sq hc⟩, fun l2 hl2 => lcD (K := K) hl2 (walk_tup (xs := ys)) (fun i => List.replicate i (.bl true)) rfl (fun H' e' => (e.trans e').t.sq hc) (fun i hi => by rw [List.length_replicate]; omega) (fun i x H3 H3' hi e3 y R N kR kN => ?_) (fun H4 zs e4 hz4 r => ?_)⟩
    · obtain ⟨rfl, hx⟩ := y
      have hi2 : i < z.ds.length := by omega
      obtain ⟨d, g1, g2⟩ := rc.getV hx
      rw [List.getElem?_map, List.getElem?_eq_getElem hi2] at g1
      cases g1
      obtain rfl := g2.ofInt
      have hd := ok.d _ (List.getElem_mem hi2)
      refine ⟨rfl, _, rfl, _, rfl, _, _, rfl, rfl, _, _, _, rfl, ?_⟩
      rw [wh (by omega) (by omega)]
      exact kR _ _ _ (Ex.refl _) (.bl _) (rep_succ _ _)
    · obtain rfl := trues r
      refine ⟨_, _, rfl, SqL.of hz4, ?_⟩
      rw [all_trues]
      exact k _ (e.trans e4)
def spNeedMaze (K : PySem.W.Frag) : Sp := fun vs H Q _ => ∃ (z : Mz) (v : V) (nm : Str), vs = [v, .str nm] ∧ RD K H (mzD z) v ∧ MzOk z ∧ ∀ H', Ex H H' → Q .non H'
theorem ok_needMaze (T : Tx K mg) : Has P w K mg base 4 (a_need_maze K) p_need_maze (spNeedMaze K) := by
  refine has_of (f_need_maze T) (z_need_maze T) (b_need_maze T) (fun vs H Q E h => by obtain ⟨_, _, _, rfl, _⟩ := h; rfl) (fun cdv A outer s H vs Q E hr h => ?_)
  obtain ⟨z, v, nm, rfl, rv, ok, k⟩ := h
  have h_is_maze := ok_isMaze (P := P) (w := w) (base := base) T
  have h_need := ok_need (P := P) (w := w) (base := base) T
  refine ⟨_, (pss_one (ps_expr (pcall h_need (hr.mono (by omega)) (g_need T) (pa_cons (pcall h_is_maze (hr.mono (by omega)) (g_is_maze T) (pa_cons (pv 0) pa_nil)) (pa_cons (pv 1) pa_nil))))), ?_⟩
  exact ⟨_, rfl, z, v, rfl, rv, ok, fun H' e => ⟨_, rfl, true, nm, rfl, fun _ => k _ e, fun z => (by cases z)⟩⟩
def spNeedDoor : Sp := fun vs H Q _ => ∃ (n d : Nat) (nm : Str), vs = [.int (n : Int), .int (d : Int), .str nm] ∧ d < n ∧ Q .non H
theorem ok_needDoor (T : Tx K mg) : Has P w K mg base 4 (a_need_door K) p_need_door spNeedDoor := by
  refine has_of (f_need_door T) (z_need_door T) (b_need_door T) (fun vs H Q E h => by obtain ⟨_, _, _, rfl, _⟩ := h; rfl) (fun cdv A outer s H vs Q E hr h => ?_)
  obtain ⟨n, d, nm, rfl, hd, k⟩ := h
  have h_is_whole := ok_whole (P := P) (w := w) (base := base) T
  have h_need := ok_need (P := P) (w := w) (base := base) T
  refine ⟨_, (pss_one (ps_expr (pcall h_need (hr.mono (by omega)) (g_need T) (pa_cons (pcall h_is_whole (hr.mono (by omega)) (g_is_whole T) (pa_cons (pv 1) (pa_cons pe_int (pa_cons (pe_op oSubI (pv 0) pe_int) pa_nil)))) (pa_cons (pv 2) pa_nil))))), ?_⟩
  refine ⟨_, rfl, _, rfl, _, _, rfl, rfl, _, _, _, rfl, ?_⟩
  rw [wh (by omega) (by omega)]
  exact ⟨_, rfl, true, nm, rfl, fun _ => k, fun z => (by cases z)⟩
def kdS : Kd → Str
  | .can => "can"
  | .least => "least"
  | .wide => "wide"
  | .count => "count"
def spNeedKind : Sp := fun vs H Q _ => ∃ (kd : Kd) (m : Nat), vs = [.str (kdS kd), .int (m : Int)] ∧ m ≤ 12 ∧ Q .non H
theorem ok_needKind (T : Tx K mg) : Has P w K mg base 4 (a_need_kind K) p_need_kind spNeedKind := by
  refine has_of (f_need_kind T) (z_need_kind T) (b_need_kind T) (fun vs H Q E h => by obtain ⟨_, _, rfl, _⟩ := h; rfl) (fun cdv A outer s H vs Q E hr h => ?_)
  obtain ⟨kd, m, rfl, hm, k⟩ := h
  have h_is_whole := ok_whole (P := P) (w := w) (base := base) T
  have h_need := ok_need (P := P) (w := w) (base := base) T
  refine ⟨_, (pss_cons (ps_expr (pcall h_need (hr.mono (by omega)) (g_need T) (pa_cons (pe_and (pe_callB (isiK K) (by rfl) (l_isinstance T) (by decide +kernel) (pa_cons (pv 0) (pa_cons (pe_bltn (v := .ty "str") (u := .type "str") rfl (l_str T) (by decide +kernel) rfl) pa_nil))) (pe_one (pe_cmpR (inK K) (pv 0) (pe_glob (v := .ref (He.ga K "KINDS")) rfl (g_KINDS T) rfl) rfl))) (pa_cons pe_str pa_nil))))
  (pss_one (ps_expr (pcall h_need (hr.mono (by omega)) (g_need T) (pa_cons (pcall h_is_whole (hr.mono (by omega)) (g_is_whole T) (pa_cons (pv 1) (pa_cons pe_int (pa_cons (pgi (i_MOST_LEVEL T)) pa_nil)))) (pa_cons pe_str pa_nil)))))), ?_⟩
  have hin : inV (.str (kdS kd)) ((["can", "least", "wide", "count"] : List Str).map V.str) = true := by cases kd <;> decide +kernel
  refine ⟨_, rfl, _, _, _, _, true, rfl, .ty _, .base (.str _), kit_ty (by decide +kernel), true, rfl, ?_⟩
  refine ⟨_, rfl, _, _, rfl, .inr (t_KINDS T H), rfl, by decide +kernel, ?_⟩
  refine ⟨true, _, by show [V.bl (inV (.str (kdS kd)) ((["can", "least", "wide", "count"] : List Str).map V.str)), _] = _; rw [hin], fun _ => ?_, fun z => (by cases z)⟩
  refine ⟨_, rfl, _, _, _, rfl, ?_⟩
  rw [wh (by omega) (by omega)]
  exact ⟨true, _, rfl, fun _ => k, fun z => (by cases z)⟩
end
end K09
/-! The algebra of worths, for each kind. -/
namespace K09
open PySem PySem.Spec
open PyProof.Rows L2 Sl Pm
section
variable {P : Program} {w : World} {K : PySem.W.Frag} {mg : Str → Option Value} {base : Heap} {H H1 H2 : Hp} {E : XK} {Q : VK}
abbrev cW (K : PySem.W.Frag) : Addr := He.ga K "Worths"
def wF (kd : Kd) (m : Nat) : List (Str × V) := [("kind", .str (kdS kd)), ("most", .int (m : Int))]
/-- an algebra of a kind stands at p -/
def WO (K : PySem.W.Frag) (H : Hp) (p : Addr) (kd : Kd) (m : Nat) : Prop := m ≤ 12 ∧ ∃ dx, H p = some (.ins (cW K) dx (wF kd m))
theorem WO.ex {p : Addr} {kd : Kd} {m : Nat} (h : WO K H p kd m) (e : Ex H H1) : WO K H1 p kd m := ⟨h.1, h.2.imp fun _ q => e _ _ q⟩
def spWInit (K : PySem.W.Frag) : Sp := fun vs H Q _ => ∃ (p dx : Addr) (kd : Kd) (m : Nat), vs = [.ref p, .str (kdS kd), .int (m : Int)] ∧ H p = some (.ins (cW K) dx []) ∧ ∀ H', (∀ b o, b ≠ p → H b = some o → H' b = some o) → H' p = some (.ins (cW K) dx (wF kd m)) → Q .non H'
theorem ok_wInit (T : Tx K mg) : Has P w K mg base 1 (a_Worths_init K) p_Worths_init (spWInit K) := by
  refine has_of (f_Worths_init T) (z_Worths_init T) (b_Worths_init T) (fun vs H Q E h => by obtain ⟨_, _, _, _, rfl, _⟩ := h; rfl) (fun cdv A outer s H vs Q E hr h => ?_)
  obtain ⟨p, dx, kd, m, rfl, hp, k⟩ := h
  refine ⟨_, (pss_cons (ps_fld (pv 0) (pv 1) rfl)
  (pss_one (ps_fld (pv 0) (pv 2) rfl))), ?_⟩
  refine ⟨_, rfl, _, rfl, p, _, dx, _, rfl, hp, c_Worths T, n_Worths_kind T, by show 0 < 1000; decide, ?_⟩
  refine ⟨_, rfl, _, rfl, p, _, dx, _, rfl, upd_same, c_Worths T, n_Worths_most T, by show 1 < 1000; decide, ?_⟩
  refine k _ (fun b o hb e => ?_) upd_same
  rw [upd_ne hb, upd_ne hb]
  exact e
def spWNone (K : PySem.W.Frag) : Sp := fun vs H Q _ => ∃ (p : Addr) (kd : Kd) (m : Nat), vs = [.ref p] ∧ WO K H p kd m ∧ ∀ d v H', Ex H H' → RD K H' d v → rp kd m d 0 → Q v H'
theorem ints_rep (n : Nat) (x : Int) : List.replicate n (V.int x) = (List.replicate n x).map V.int := by rw [List.map_replicate]
theorem intd_rep (n : Nat) (x : Int) : List.replicate n (D.int x) = (List.replicate n x).map D.int := by rw [List.map_replicate]
theorem rep_flat {α : Type} (n : Nat) (x : α) : (List.replicate n [x]).flatten = List.replicate n x := by
  induction n with
  | zero => rfl
  | succ n ih => rw [List.replicate_succ, List.flatten_cons, ih]; rfl
theorem rd_ints (H : Hp) {p : Addr} {ns : List Int} (h : SqT K H p (ns.map V.int)) : RD K H (.tup (ns.map D.int)) (.ref p) := .tup h (RDs.ofInts K H ns)
theorem ok_wNone (T : Tx K mg) : Has P w K mg base 1 (a_Worths_none K) p_Worths_none (spWNone K) := by
  refine has_of (f_Worths_none T) (z_Worths_none T) (b_Worths_none T) (fun vs H Q E h => by obtain ⟨_, _, _, rfl, _⟩ := h; rfl) (fun cdv A outer s H vs Q E hr h => ?_)
  obtain ⟨p, kd, m, rfl, ⟨hm, dx, ho⟩, k⟩ := h
  refine ⟨_, (pss_cons (ps_if (pt_cmpR op_eq (fldK K (pv 0)) (pgs (i_LEAST T)) (nomark _)) (pss_one (ps_ret pe_non)) pss_nil)
  (pss_one (ps_ret (pe_ifExp (pt_cmpR (inK K) (fldK K (pv 0)) (pe_tup (pa_cons (pgs (i_CAN T)) (pa_cons (pgs (i_WIDE T)) pa_nil))) rfl) pe_int (pe_op (repK K) (pe_tup (pa_cons pe_int pa_nil)) (pe_op oAddI (fldK K (pv 0)) pe_int)))))), ?_⟩
  cases kd with
  | least =>
    refine ⟨_, rfl, p, _, dx, _, _, rfl, ho, c_Worths T, n_Worths_kind T, rfl, rfl, true, vdec _, ?_⟩
    exact k _ _ _ (Ex.refl _) .non none_l
  | can =>
    refine ⟨_, rfl, p, _, dx, _, _, rfl, ho, c_Worths T, n_Worths_kind T, rfl, rfl, false, ndec (by decide +kernel), ?_⟩
    refine ⟨_, rfl, p, _, dx, _, _, rfl, ho, c_Worths T, n_Worths_kind T, rfl, two_sz _ _, fun q hq => ⟨q, _, rfl, .inr (.inl (.inl upd_same)), rfl, rfl, true, congrArg V.bl (by decide +kernel), ?_⟩⟩
    exact k _ _ _ (ex_new hq) (.int _) (none_cw (.inl rfl))
  | wide =>
    refine ⟨_, rfl, p, _, dx, _, _, rfl, ho, c_Worths T, n_Worths_kind T, rfl, rfl, false, ndec (by decide +kernel), ?_⟩
    refine ⟨_, rfl, p, _, dx, _, _, rfl, ho, c_Worths T, n_Worths_kind T, rfl, two_sz _ _, fun q hq => ⟨q, _, rfl, .inr (.inl (.inl upd_same)), rfl, rfl, true, congrArg V.bl (by decide +kernel), ?_⟩⟩
    exact k _ _ _ (ex_new hq) (.int _) (none_cw (.inr rfl))
  | count =>
    refine ⟨_, rfl, p, _, dx, _, _, rfl, ho, c_Worths T, n_Worths_kind T, rfl, rfl, false, ndec (by decide +kernel), ?_⟩
    refine ⟨_, rfl, p, _, dx, _, _, rfl, ho, c_Worths T, n_Worths_kind T, rfl, two_sz _ _, fun q hq => ⟨q, _, rfl, .inr (.inl (.inl upd_same)), rfl, rfl, false, congrArg V.bl (by decide +kernel), ?_⟩⟩
    have ho := ex_new hq (o := .tup [.str "can", .str "wide"]) _ _ ho
    refine ⟨one_sz _, fun t ht => ?_⟩
    have ho2 := ex_new ht (o := .tup [.int 0]) _ _ ho
    have e1 := (ex_new hq (o := .tup [.str "can", .str "wide"])).trans (ex_new ht (o := .tup [.int 0]))
    refine ⟨_, rfl, p, _, dx, _, _, rfl, ho2, c_Worths T, n_Worths_most T, rfl, _, _, rfl, rfl, t, _, _, rfl, rfl, .inl (.inl upd_same), by simp, by omega, by omega, by show 1 ≤ 1000; decide, fun h1 => ?_, fun h1 u hu => ?_⟩
    · have hm0 : m = 0 := by omega
      subst hm0
      exact k _ _ _ e1 (rd_ints (ns := [0]) _ (.inl (.inl upd_same))) none_c
    · rw [show ((m : Int) + 1).toNat = m + 1 by omega, rep_flat, ints_rep]
      refine k _ _ _ (e1.trans (ex_new hu)) (rd_ints (ns := List.replicate (m + 1) 0) _ (.inl (.inl upd_same))) ?_
      rw [← intd_rep]
      exact none_c
def spWEmpty (K : PySem.W.Frag) : Sp := fun vs H Q _ => ∃ (p : Addr) (kd : Kd) (m : Nat), vs = [.ref p] ∧ WO K H p kd m ∧ ∀ d v H', Ex H H' → RD K H' d v → rp kd m d 1 → Q v H'
theorem ok_wEmpty (T : Tx K mg) : Has P w K mg base 1 (a_Worths_empty K) p_Worths_empty (spWEmpty K) := by
  refine has_of (f_Worths_empty T) (z_Worths_empty T) (b_Worths_empty T) (fun vs H Q E h => by obtain ⟨_, _, _, rfl, _⟩ := h; rfl) (fun cdv A outer s H vs Q E hr h => ?_)
  obtain ⟨p, kd, m, rfl, ⟨hm, dx, ho⟩, k⟩ := h
  refine ⟨_, (pss_cons (ps_if (pt_cmpR op_eq (fldK K (pv 0)) (pgs (i_LEAST T)) (nomark _)) (pss_one (ps_ret pe_int)) pss_nil)
  (pss_cons (ps_if (pt_cmpR op_eq (fldK K (pv 0)) (pgs (i_CAN T)) (nomark _)) (pss_one (ps_ret pe_int)) pss_nil)
  (pss_one (ps_ret (pe_ifExp (pt_cmpR op_eq (fldK K (pv 0)) (pgs (i_WIDE T)) (nomark _)) (pgi (i_ENDLESS T)) (pe_op (catT K) (pe_tup (pa_cons pe_int pa_nil)) (pe_op (repK K) (pe_tup (pa_cons pe_int pa_nil)) (fldK K (pv 0))))))))), ?_⟩
  cases kd with
  | least =>
    refine ⟨_, rfl, p, _, dx, _, _, rfl, ho, c_Worths T, n_Worths_kind T, rfl, rfl, true, vdec _, ?_⟩
    exact k _ _ _ (Ex.refl _) (.int _) (emp_least rfl)
  | can =>
    refine ⟨_, rfl, p, _, dx, _, _, rfl, ho, c_Worths T, n_Worths_kind T, rfl, rfl, false, ndec (by decide +kernel), ?_⟩
    refine ⟨_, rfl, p, _, dx, _, _, rfl, ho, c_Worths T, n_Worths_kind T, rfl, rfl, true, vdec _, ?_⟩
    exact k _ _ _ (Ex.refl _) (.int _) (emp_can rfl)
  | wide =>
    refine ⟨_, rfl, p, _, dx, _, _, rfl, ho, c_Worths T, n_Worths_kind T, rfl, rfl, false, ndec (by decide +kernel), ?_⟩
    refine ⟨_, rfl, p, _, dx, _, _, rfl, ho, c_Worths T, n_Worths_kind T, rfl, rfl, false, ndec (by decide +kernel), ?_⟩
    refine ⟨_, rfl, p, _, dx, _, _, rfl, ho, c_Worths T, n_Worths_kind T, rfl, rfl, true, vdec _, ?_⟩
    exact k _ _ _ (Ex.refl _) (.int _) (emp_wide rfl)
  | count =>
    refine ⟨_, rfl, p, _, dx, _, _, rfl, ho, c_Worths T, n_Worths_kind T, rfl, rfl, false, ndec (by decide +kernel), ?_⟩
    refine ⟨_, rfl, p, _, dx, _, _, rfl, ho, c_Worths T, n_Worths_kind T, rfl, rfl, false, ndec (by decide +kernel), ?_⟩
    refine ⟨_, rfl, p, _, dx, _, _, rfl, ho, c_Worths T, n_Worths_kind T, rfl, rfl, false, ndec (by decide +kernel), ?_⟩
    refine ⟨one_sz _, fun q hq => ⟨one_sz _, fun t ht => ?_⟩⟩
    have f1 := ex_new hq (o := .tup [.int 1])
    have f2 := ex_new ht (o := .tup [.int 0])
    have ho2 := f2 _ _ (f1 _ _ ho)
    have hq2 := f2 _ _ (upd_same (H := H) (a := q) (o := .tup [.int 1]))
    have e1 := f1.trans f2
    refine ⟨_, rfl, p, _, dx, _, _, rfl, ho2, c_Worths T, n_Worths_most T, rfl, t, _, _, rfl, rfl, .inl (.inl upd_same), by simp, by omega, by omega, by show 1 ≤ 1000; decide, fun h1 => ?_, fun h1 u hu => ?_⟩
    · have hm1 : m = 1 := by omega
      subst hm1
      refine ⟨q, t, _, _, rfl, rfl, .inl (.inl hq2), .inl (.inl upd_same), by show 1 + 1 ≤ sizeLine; decide, fun z => (by cases z), fun _ z => (by cases z), fun _ _ v hv => ?_⟩
      exact k _ _ _ (e1.trans (ex_new hv)) (rd_ints (ns := [1, 0]) _ (.inl (.inl upd_same))) emp_c
    · rw [show ((m : Int)).toNat = m by omega, rep_flat, ints_rep]
      have hq3 := ex_new hu (o := .tup ((List.replicate m 0).map V.int)) _ _ hq2
      refine ⟨q, u, _, _, rfl, rfl, .inl (.inl hq3), .inl (.inl upd_same), ?_, fun z => (by cases z), fun _ z => ?_, fun _ _ v hv => ?_⟩
      · rw [List.length_map, List.length_replicate]
        exact sz4 (show 1 + m ≤ 1000 by omega)
      · have hm0 : m = 0 := by
          have := congrArg List.length z
          simpa using this
        subst hm0
        exact k _ _ _ (e1.trans (ex_new hu)) (rd_ints (ns := [1]) _ (.inl (.inl hq3))) emp_c
      · refine k _ _ _ ((e1.trans (ex_new hu)).trans (ex_new hv)) (rd_ints (ns := 1 :: List.replicate m 0) _ (.inl (.inl upd_same))) ?_
        rw [List.map_cons, ← intd_rep]
        exact emp_c
def spWPass (K : PySem.W.Frag) : Sp := fun vs H Q _ => ∃ (p : Addr) (kd : Kd) (m l wd : Nat), vs = [.ref p, .int (l : Int), .int (wd : Int)] ∧ WO K H p kd m ∧ 1 ≤ wd ∧ wd ≤ 1000 ∧ ∀ d v H', Ex H H' → RD K H' d v → rp kd m d (pas l wd) → Q v H'
theorem ok_wPass (T : Tx K mg) : Has P w K mg base 1 (a_Worths_passage K) p_Worths_passage (spWPass K) := by
  refine has_of (f_Worths_passage T) (z_Worths_passage T) (b_Worths_passage T) (fun vs H Q E h => by obtain ⟨_, _, _, _, _, rfl, _⟩ := h; rfl) (fun cdv A outer s H vs Q E hr h => ?_)
  obtain ⟨p, kd, m, l, wd, rfl, ⟨hm, dx, ho⟩, h1, h2, k⟩ := h
  refine ⟨_, (pss_cons (ps_if (pt_cmpR op_eq (fldK K (pv 0)) (pgs (i_LEAST T)) (nomark _)) (pss_one (ps_ret (pv 1))) pss_nil)
  (pss_cons (ps_if (pt_cmpR op_eq (fldK K (pv 0)) (pgs (i_CAN T)) (nomark _)) (pss_one (ps_ret pe_int)) pss_nil)
  (pss_cons (ps_if (pt_cmpR op_eq (fldK K (pv 0)) (pgs (i_WIDE T)) (nomark _)) (pss_one (ps_ret (pv 2))) pss_nil)
  (pss_one (ps_ret (pe_callTy (tupleK K) (by rfl) (l_tuple T) (by decide +kernel) (pa_cons (pe_lc (own := [("at", 3)]) rfl (z_Worths_passage T).nd (pi_range1 (by rfl) (l_range T) (pa_cons (pe_op oAddI (fldK K (pv 0)) pe_int) pa_nil)) (blkOk_by (N := n_Worths_passage) (sc := defScope s_Worths_passage) (by decide +kernel)) (fun _ _ _ _ _ => by exact (pg_name (i := 3) (z_Worths_passage T).nd rfl (Or.inl rfl))) (fun _ _ _ _ _ => by exact pts_nil) (fun _ _ _ _ _ => by exact (pe_ifExp (pt_cmpR op_eq (pv 3) (pv 1) (nomark _)) pe_int pe_int))) pa_nil))))))), ?_⟩
  cases kd with
  | least =>
    refine ⟨_, rfl, p, _, dx, _, _, rfl, ho, c_Worths T, n_Worths_kind T, rfl, rfl, true, vdec _, ?_⟩
    exact ⟨_, rfl, k _ _ _ (Ex.refl _) (.int _) (pas_least h1)⟩
  | can =>
    refine ⟨_, rfl, p, _, dx, _, _, rfl, ho, c_Worths T, n_Worths_kind T, rfl, rfl, false, ndec (by decide +kernel), ?_⟩
    refine ⟨_, rfl, p, _, dx, _, _, rfl, ho, c_Worths T, n_Worths_kind T, rfl, rfl, true, vdec _, ?_⟩
    exact k _ _ _ (Ex.refl _) (.int _) (pas_can h1)
  | wide =>
    refine ⟨_, rfl, p, _, dx, _, _, rfl, ho, c_Worths T, n_Worths_kind T, rfl, rfl, false, ndec (by decide +kernel), ?_⟩
    refine ⟨_, rfl, p, _, dx, _, _, rfl, ho, c_Worths T, n_Worths_kind T, rfl, rfl, false, ndec (by decide +kernel), ?_⟩
    refine ⟨_, rfl, p, _, dx, _, _, rfl, ho, c_Worths T, n_Worths_kind T, rfl, rfl, true, vdec _, ?_⟩
    exact ⟨_, rfl, k _ _ _ (Ex.refl _) (.int _) (pas_wide h2)⟩
  | count =>
    refine ⟨_, rfl, p, _, dx, _, _, rfl, ho, c_Worths T, n_Worths_kind T, rfl, rfl, false, ndec (by decide +kernel), ?_⟩
    refine ⟨_, rfl, p, _, dx, _, _, rfl, ho, c_Worths T, n_Worths_kind T, rfl, rfl, false, ndec (by decide +kernel), ?_⟩
    refine ⟨_, rfl, p, _, dx, _, _, rfl, ho, c_Worths T, n_Worths_kind T, rfl, rfl, false, ndec (by decide +kernel), ?_⟩
    refine ⟨_, rfl, p, _, dx, _, _, rfl, ho, c_Worths T, n_Worths_most T, rfl, _, _, rfl, rfl, _, rfl, by omega, by omega, fun t ht => lcD (K := K) ht (walk_range (lo := 0) (n := ((m : Int) + 1).toNat)) (fun i => (List.range i).map fun L => .int ((cn (pas l wd) L : Nat) : Int)) rfl (fun _ _ => trivial) (fun i hi => by rw [List.length_map, List.length_range]; omega) (fun i x H1 H1' hi e y R N kR kN => ?_) (fun H2 xs e hx r => ?_)⟩
    · obtain ⟨rfl, rfl⟩ := y
      have hc : ((cn (pas l wd) i : Nat) : Int) = if i = l then 1 else 0 := by
        unfold cn
        rw [pas_n]
        split <;> rfl
      refine ⟨rfl, _, rfl, _, rfl, rfl, decide (i = l), ?_, ifBH (fun hb => ?_) (fun hb => ?_)⟩
      · rw [intE]
        congr 1
        exact decide_eq_decide.mpr (by omega)
      · refine kR _ _ (.int 1) (Ex.refl _) (.int _) ?_
        rw [List.range_succ, List.map_append, List.map_cons, hc, if_pos (of_decide_eq_true hb)]
        rfl
      · refine kR _ _ (.int 0) (Ex.refl _) (.int _) ?_
        rw [List.range_succ, List.map_append, List.map_cons, hc, if_neg (of_decide_eq_false hb)]
        rfl
    · refine ⟨t, _, rfl, .inl ⟨SqL.of hx, fun q hq => ?_⟩⟩
      refine k _ _ _ (e.trans (ex_new hq)) (rd_new hq r) ?_
      rw [show ((m : Int) + 1).toNat = m + 1 by omega]
      exact rfl
def spWAdd (K : PySem.W.Frag) : Sp := fun vs H Q _ => ∃ (p : Addr) (kd : Kd) (m : Nat) (d1 d2 : D) (v1 v2 : V) (a b : Ps'), vs = [.ref p, v1, v2] ∧ WO K H p kd m ∧ RD K H d1 v1 ∧ RD K H d2 v2 ∧ rp kd m d1 a ∧ rp kd m d2 b ∧ ∀ d v H', Ex H H' → RD K H' d v → rp kd m d (a + b) → Q v H'
theorem max_int {x y : Nat} : (if (y : Int) > (x : Int) then (y : Int) else (x : Int)) = ((max x y : Nat) : Int) := by
  split <;> omega
theorem min_int {x y : Nat} : (if (y : Int) < (x : Int) then (y : Int) else (x : Int)) = ((min x y : Nat) : Int) := by
  split <;> omega
theorem ok_wAdd (T : Tx K mg) : Has P w K mg base 1 (a_Worths_add K) p_Worths_add (spWAdd K) := by
  refine has_of (f_Worths_add T) (z_Worths_add T) (b_Worths_add T) (fun vs H Q E h => by obtain ⟨_, _, _, _, _, _, _, _, _, rfl, _⟩ := h; rfl) (fun cdv A outer s H vs Q E hr h => ?_)
  obtain ⟨p, kd, m, d1, d2, v1, v2, a, b, rfl, ⟨hm, dx, ho⟩, r1, r2, q1, q2, k⟩ := h
  refine ⟨_, (pss_cons (ps_if (pt_cmpR op_eq (fldK K (pv 0)) (pgs (i_LEAST T)) (nomark _)) (pss_one (ps_ret (pe_ifExp (pt_cmpR oIsNo (pv 1) pe_non (nomark _)) (pv 2) (pe_ifExp (pt_cmpR oIsNo (pv 2) pe_non (nomark _)) (pv 1) (pe_callB (call_min2 rfl) (by rfl) (l_min T) (by decide +kernel) (pa_cons (pv 1) (pa_cons (pv 2) pa_nil))))))) pss_nil)
  (pss_cons (ps_if (pt_cmpR (inK K) (fldK K (pv 0)) (pe_tup (pa_cons (pgs (i_CAN T)) (pa_cons (pgs (i_WIDE T)) pa_nil))) rfl) (pss_one (ps_ret (pe_callB (call_max2 rfl) (by rfl) (l_max T) (by decide +kernel) (pa_cons (pv 1) (pa_cons (pv 2) pa_nil))))) pss_nil)
  (pss_one (ps_ret (pe_callTy (tupleK K) (by rfl) (l_tuple T) (by decide +kernel) (pa_cons (pe_lc (own := [("a", 3), ("b", 4)]) rfl (z_Worths_add T).nd (zipK K (by rfl) (l_zip T) (pa_cons (pv 1) (pa_cons (pv 2) pa_nil))) (blkOk_by (N := n_Worths_add) (sc := defScope s_Worths_add) (by decide +kernel)) (fun _ _ _ _ _ => by exact (tupK K (n := 2) (pgs_cons (pg_name (i := 3) (z_Worths_add T).nd rfl (Or.inl rfl)) (pgs_cons (pg_name (i := 4) (z_Worths_add T).nd rfl (Or.inl rfl)) pgs_nil)))) (fun _ _ _ _ _ => by exact pts_nil) (fun _ _ _ _ _ => by exact (pe_op oAddI (pv 3) (pv 4)))) pa_nil)))))), ?_⟩
  cases kd with
  | least =>
    refine ⟨_, rfl, p, _, dx, _, _, rfl, ho, c_Worths T, n_Worths_kind T, rfl, rfl, true, vdec _, ?_⟩
    rcases least_cases q1 with rfl | ⟨x, rfl⟩
    · obtain rfl := r1.ofNon
      refine ⟨_, rfl, rfl, true, rfl, ?_⟩
      exact ⟨_, rfl, k _ _ _ (Ex.refl _) r2 (ladd_nr q1 q2)⟩
    · obtain rfl := r1.ofInt
      refine ⟨_, rfl, rfl, false, rfl, ?_⟩
      rcases least_cases q2 with rfl | ⟨y, rfl⟩
      · obtain rfl := r2.ofNon
        refine ⟨_, rfl, rfl, true, rfl, ?_⟩
        exact ⟨_, rfl, k _ _ _ (Ex.refl _) (.int _) (ladd_nl q1 q2)⟩
      · obtain rfl := r2.ofInt
        refine ⟨_, rfl, rfl, false, rfl, ?_⟩
        refine ⟨_, rfl, _, rfl, _, _, rfl, ?_⟩
        rw [min_int]
        exact k _ _ _ (Ex.refl _) (.int _) (ladd q1 q2)
  | can =>
    obtain ⟨x, rfl, hx⟩ := rp_int (.inl rfl) q1
    obtain ⟨y, rfl, hy⟩ := rp_int (.inl rfl) q2
    obtain rfl := r1.ofInt
    obtain rfl := r2.ofInt
    refine ⟨_, rfl, p, _, dx, _, _, rfl, ho, c_Worths T, n_Worths_kind T, rfl, rfl, false, ndec (by decide +kernel), ?_⟩
    refine ⟨_, rfl, p, _, dx, _, _, rfl, ho, c_Worths T, n_Worths_kind T, rfl, two_sz _ _, fun q hq => ⟨q, _, rfl, .inr (.inl (.inl upd_same)), rfl, rfl, true, congrArg V.bl (by decide +kernel), ?_⟩⟩
    refine ⟨_, rfl, _, rfl, _, _, rfl, ?_⟩
    rw [max_int]
    exact k _ _ _ (ex_new hq) (.int _) (rp_max (.inl rfl) q1 q2)
  | wide =>
    obtain ⟨x, rfl, hx⟩ := rp_int (.inr rfl) q1
    obtain ⟨y, rfl, hy⟩ := rp_int (.inr rfl) q2
    obtain rfl := r1.ofInt
    obtain rfl := r2.ofInt
    refine ⟨_, rfl, p, _, dx, _, _, rfl, ho, c_Worths T, n_Worths_kind T, rfl, rfl, false, ndec (by decide +kernel), ?_⟩
    refine ⟨_, rfl, p, _, dx, _, _, rfl, ho, c_Worths T, n_Worths_kind T, rfl, two_sz _ _, fun q hq => ⟨q, _, rfl, .inr (.inl (.inl upd_same)), rfl, rfl, true, congrArg V.bl (by decide +kernel), ?_⟩⟩
    refine ⟨_, rfl, _, rfl, _, _, rfl, ?_⟩
    rw [max_int]
    exact k _ _ _ (ex_new hq) (.int _) (rp_max (.inr rfl) q1 q2)
  | count =>
    rw [count_cI] at q1 q2
    subst q1 q2
    obtain ⟨a1, rfl, ha1⟩ := slotsI r1
    obtain ⟨a2, rfl, ha2⟩ := slotsI r2
    refine ⟨_, rfl, p, _, dx, _, _, rfl, ho, c_Worths T, n_Worths_kind T, rfl, rfl, false, ndec (by decide +kernel), ?_⟩
    refine ⟨_, rfl, p, _, dx, _, _, rfl, ho, c_Worths T, n_Worths_kind T, rfl, two_sz _ _, fun q hq => ⟨q, _, rfl, .inr (.inl (.inl upd_same)), rfl, rfl, false, congrArg V.bl (by decide +kernel), ?_⟩⟩
    have e0 := ex_new hq (o := .tup [.str "can", .str "wide"])
    have ha1 := e0.t.sq ha1
    have ha2 := e0.t.sq ha2
    refine ⟨_, rfl, _, rfl, a1, a2, _, _, rfl, .inr ⟨ha1, ha2, fun t ht => lcD (K := K) ht (walk_zipT (n := m + 1) (by rw [List.length_map, List.length_map, cI_len, cI_len]; omega)) (fun i => (List.range i).map fun L => .int ((cn (a + b) L : Nat) : Int)) rfl (fun H' e => ⟨e.t.sq ha1, e.t.sq ha2⟩) (fun i hi => by rw [List.length_map, List.length_range]; omega) (fun i x H1 H1' hi e y R N kR kN => ?_) (fun H2 xs e hx r => ?_)⟩⟩
    · obtain ⟨u, x1, x2, rfl, hu, rfl, g1, g2⟩ := y
      have g1 : (List.map V.int (cI m a))[i]? = some x1 := g1
      have g2 : (List.map V.int (cI m b))[i]? = some x2 := g2
      rw [List.getElem?_map, cI_get (by omega)] at g1 g2
      cases g1
      cases g2
      refine ⟨u, _, rfl, .inl (.inl upd_same), rfl, _, _, rfl, _, _, rfl, rfl, rfl, _, rfl, _, rfl, _, _, rfl, rfl, ?_⟩
      refine kR _ _ (.int ((cn (a + b) i : Nat) : Int)) (ex_new hu) ?_ (by rw [List.range_succ, List.map_append]; rfl)
      rw [cn_add]
      exact .int _
    · refine ⟨t, _, rfl, .inl ⟨SqL.of hx, fun u hu => ?_⟩⟩
      exact k _ _ _ ((e0.trans e).trans (ex_new hu)) (rd_new hu r) rfl
def spWTimes (K : PySem.W.Frag) : Sp := fun vs H Q _ => ∃ (p : Addr) (kd : Kd) (m e : Nat) (d1 d2 : D) (v1 v2 : V) (a b : Ps'), vs = [.ref p, v1, v2] ∧ WO K H p kd m ∧ RD K H d1 v1 ∧ RD K H d2 v2 ∧ rp kd m d1 a ∧ rp kd m d2 b ∧ Bd e a ∧ Bd e b ∧ e ≤ 10000 ∧ ∀ d v H', Ex H H' → RD K H' d v → rp kd m d (a * b) → Q v H'
theorem ok_wTimes (T : Tx K mg) : Has P w K mg base 1 (a_Worths_times K) p_Worths_times (spWTimes K) := by
  refine has_of (f_Worths_times T) (z_Worths_times T) (b_Worths_times T) (fun vs H Q E h => by obtain ⟨_, _, _, _, _, _, _, _, _, _, rfl, _⟩ := h; rfl) (fun cdv A outer s H vs Q E hr h => ?_)
  obtain ⟨p, kd, m, e, d1, d2, v1, v2, a, b, rfl, ⟨hm, dx, ho⟩, r1, r2, q1, q2, hba, hbb, he, k⟩ := h
  refine ⟨_, (pss_cons (ps_if (pt_cmpR op_eq (fldK K (pv 0)) (pgs (i_LEAST T)) (nomark _)) (pss_one (ps_ret (pe_ifExp (PW.pt (pw_or (pt_cmpR oIsNo (pv 1) pe_non (nomark _)) (pw_or1 (pt_cmpR oIsNo (pv 2) pe_non (nomark _))))) pe_non (pe_op oAddI (pv 1) (pv 2))))) pss_nil)
  (pss_cons (ps_if (pt_cmpR (inK K) (fldK K (pv 0)) (pe_tup (pa_cons (pgs (i_CAN T)) (pa_cons (pgs (i_WIDE T)) pa_nil))) rfl) (pss_one (ps_ret (pe_callB (call_min2 rfl) (by rfl) (l_min T) (by decide +kernel) (pa_cons (pv 1) (pa_cons (pv 2) pa_nil))))) pss_nil)
  (pss_cons (ps_set (i := 3) (z_Worths_times T).nd rfl (Or.inl rfl) (pe_op op_rep (pe_lst (pa_cons pe_int pa_nil)) (pe_op oAddI (fldK K (pv 0)) pe_int)))
  (pss_cons (ps_for (passes_of rfl) rfl (pi_enumT (by rfl) (l_enumerate T) (pa_cons (pv 1) pa_nil)) (tupK K (n := 2) (pgs_cons (pg_name (i := 4) (z_Worths_times T).nd rfl (Or.inl rfl)) (pgs_cons (pg_name (i := 5) (z_Worths_times T).nd rfl (Or.inl rfl)) pgs_nil))) (pss_one (ps_if (pt_cmpR op_ne (pv 5) pe_int (nomark _)) (pss_one (ps_for (passes_of rfl) rfl (pi_range1 (by rfl) (l_range T) (pa_cons (pe_op oSubI (pe_op oAddI (fldK K (pv 0)) pe_int) (pv 4)) pa_nil)) (pg_name (i := 6) (z_Worths_times T).nd rfl (Or.inl rfl)) (pss_one (ps_augS (pv 3) (pe_op oAddI (pv 4) (pv 6)) (getK K) (pe_op oMulW (pv 5) (pe_ix (ixT K) (pv 2) (pv 6) (fun _ _ => rfl))) ip_add set_list)))) pss_nil)))
  (pss_one (ps_ret (pe_callTy (tupleK K) (by rfl) (l_tuple T) (by decide +kernel) (pa_cons (pv 3) pa_nil)))))))), ?_⟩
  cases kd with
  | least =>
    refine ⟨_, rfl, p, _, dx, _, _, rfl, ho, c_Worths T, n_Worths_kind T, rfl, rfl, true, vdec _, ?_⟩
    rcases least_cases q1 with rfl | ⟨x, rfl⟩
    · obtain rfl := r1.ofNon
      refine ⟨_, rfl, rfl, true, rfl, ?_⟩
      exact k _ _ _ (Ex.refl _) .non (lmul_nr q1)
    · obtain rfl := r1.ofInt
      refine ⟨_, rfl, rfl, false, rfl, ?_⟩
      rcases least_cases q2 with rfl | ⟨y, rfl⟩
      · obtain rfl := r2.ofNon
        refine ⟨_, rfl, rfl, true, rfl, ?_⟩
        exact k _ _ _ (Ex.refl _) .non (lmul_nl q2)
      · obtain rfl := r2.ofInt
        refine ⟨_, rfl, rfl, false, rfl, ?_⟩
        refine ⟨_, rfl, _, rfl, _, _, rfl, rfl, ?_⟩
        rw [show (x : Int) + (y : Int) = ((x + y : Nat) : Int) by omega]
        exact k _ _ _ (Ex.refl _) (.int _) (lmul q1 q2)
  | can =>
    obtain ⟨x, rfl, hx⟩ := rp_int (.inl rfl) q1
    obtain ⟨y, rfl, hy⟩ := rp_int (.inl rfl) q2
    obtain rfl := r1.ofInt
    obtain rfl := r2.ofInt
    refine ⟨_, rfl, p, _, dx, _, _, rfl, ho, c_Worths T, n_Worths_kind T, rfl, rfl, false, ndec (by decide +kernel), ?_⟩
    refine ⟨_, rfl, p, _, dx, _, _, rfl, ho, c_Worths T, n_Worths_kind T, rfl, two_sz _ _, fun q hq => ⟨q, _, rfl, .inr (.inl (.inl upd_same)), rfl, rfl, true, congrArg V.bl (by decide +kernel), ?_⟩⟩
    refine ⟨_, rfl, _, rfl, _, _, rfl, ?_⟩
    rw [min_int]
    exact k _ _ _ (ex_new hq) (.int _) (rp_min (.inl rfl) q1 q2)
  | wide =>
    obtain ⟨x, rfl, hx⟩ := rp_int (.inr rfl) q1
    obtain ⟨y, rfl, hy⟩ := rp_int (.inr rfl) q2
    obtain rfl := r1.ofInt
    obtain rfl := r2.ofInt
    refine ⟨_, rfl, p, _, dx, _, _, rfl, ho, c_Worths T, n_Worths_kind T, rfl, rfl, false, ndec (by decide +kernel), ?_⟩
    refine ⟨_, rfl, p, _, dx, _, _, rfl, ho, c_Worths T, n_Worths_kind T, rfl, two_sz _ _, fun q hq => ⟨q, _, rfl, .inr (.inl (.inl upd_same)), rfl, rfl, true, congrArg V.bl (by decide +kernel), ?_⟩⟩
    refine ⟨_, rfl, _, rfl, _, _, rfl, ?_⟩
    rw [min_int]
    exact k _ _ _ (ex_new hq) (.int _) (rp_min (.inr rfl) q1 q2)
  | count =>
    rw [count_cI] at q1 q2
    subst q1 q2
    obtain ⟨a1, rfl, ha1⟩ := slotsI r1
    obtain ⟨a2, rfl, ha2⟩ := slotsI r2
    refine ⟨_, rfl, p, _, dx, _, _, rfl, ho, c_Worths T, n_Worths_kind T, rfl, rfl, false, ndec (by decide +kernel), ?_⟩
    refine ⟨_, rfl, p, _, dx, _, _, rfl, ho, c_Worths T, n_Worths_kind T, rfl, two_sz _ _, fun q hq => ⟨q, _, rfl, .inr (.inl (.inl upd_same)), rfl, rfl, false, congrArg V.bl (by decide +kernel), ?_⟩⟩
    have e0 := ex_new hq (o := .tup [.str "can", .str "wide"])
    refine ⟨one_sz _, fun l hl => ?_⟩
    have e1 := e0.trans (ex_new hl (o := .lst [.int 0]))
    have ho2 := e1 _ _ ho
    refine ⟨_, rfl, p, _, dx, _, _, rfl, ho2, c_Worths T, n_Worths_most T, rfl, _, _, rfl, rfl, l, _, _, rfl, rfl, upd_same, by omega, by omega, sz4 (show 1 * _ ≤ 1000 by omega), fun f hf => ?_⟩
    rw [show ((m : Int) + 1).toNat = m + 1 by omega, rep_flat, ints_rep]
    have hf0 : H f = none := by
      cases z : H f with
      | none => rfl
      | some o => rw [e1 _ _ z] at hf; cases hf
    have e2 := e1.trans (ex_new hf (o := .lst ((List.replicate (m + 1) 0).map V.int)))
    have hz : (List.replicate (m + 1) (0 : Int)) = fl m (pm (cn a) (cn b) 0) := by
      unfold fl
      symm
      rw [List.eq_replicate_iff]
      exact ⟨by simp, fun x hx => by obtain ⟨L, _, rfl⟩ := List.mem_map.mp hx; rfl⟩
    refine ⟨_, rfl, a1, _, rfl, e2.t.sq ha1, ?_⟩
    have wlk := walk_Q (K := K) (a := a1) (xs := (cI m a).map V.int)
    rw [List.length_map, cI_len] at wlk
    refine for_it wlk (fun i σ H' => Ex H H' ∧ (∃ x4 x5 x6, σ = [some (.ref p), some (.ref a1), some (.ref a2), some (.ref f), x4, x5, x6]) ∧ H' f = some (.lst ((fl m (pm (cn a) (cn b) i)).map V.int))) ?_ (fun i σ H' _ h => h.1.t.sq ha1) ?_ ?_
    · exact ⟨e2, ⟨none, none, none, rfl⟩, by rw [upd_same, hz]⟩
    · rintro i x σ H1 H1' hi ⟨ex, ⟨x4, x5, x6, rfl⟩, hfl⟩ ⟨t, x', rfl, ht, rfl, hx⟩
      rw [List.getElem?_map, cI_get (by omega)] at hx
      cases hx
      refine ⟨t, _, rfl, .inl (.inl upd_same), rfl, _, _, rfl, _, _, rfl, rfl, ?_⟩
      have e3 := ex.trans (ex_new ht (o := .tup [.int (i : Nat), .int ((cn a i : Nat) : Int)]))
      have hfl2 := (ex_new ht (o := .tup [.int (i : Nat), .int ((cn a i : Nat) : Int)])) _ _ hfl
      generalize L2.upd H1 t (.tup [.int (i : Nat), .int ((cn a i : Nat) : Int)]) = H2 at e3 hfl2 ⊢
      refine ⟨_, rfl, rfl, !decide (cn a i = 0), ?_, ifBH (fun hb => ?_) (fun hb => ?_)⟩
      · rw [intN]
        congr 2
        exact decide_eq_decide.mpr (by omega)
      · have ho2 := e3 _ _ ho
        refine ⟨_, rfl, p, _, dx, _, _, rfl, ho2, c_Worths T, n_Worths_most T, rfl, _, _, rfl, rfl, _, rfl, _, _, rfl, rfl, _, rfl, by omega, by omega, ?_⟩
        refine for_it (walk_range (lo := 0) (n := ((m : Int) + 1 - (i : Nat)).toNat)) (fun j σ H' => Ex H H' ∧ (∃ x6, σ = [some (.ref p), some (.ref a1), some (.ref a2), some (.ref f), some (.int (i : Nat)), some (.int ((cn a i : Nat) : Int)), x6]) ∧ H' f = some (.lst ((fl m (pm2 (cn a) (cn b) i j)).map V.int))) ?_ (fun _ _ _ _ _ => trivial) ?_ ?_
        · refine ⟨e3, ⟨x6, rfl⟩, ?_⟩
          rw [hfl2, fl_congr fun L _ => (pm2_0 (cn a) (cn b) i L).symm]
        · rintro j y σ H3' H3 hj ⟨e4, ⟨x6, rfl⟩, hfl3⟩ ⟨rfl, rfl⟩
          have hjm : j ≤ m := by omega
          have hij : i + j ≤ m := by omega
          have ez : (i : Int) + (0 + (j : Int)) = ((i + j : Nat) : Int) := by omega
          have ej : (0 : Int) + (j : Int) = ((j : Nat) : Int) := by omega
          refine ⟨_, rfl, _, rfl, _, rfl, _, _, rfl, rfl, ?_⟩
          refine ⟨f, _, _, .int ((pm2 (cn a) (cn b) i j (i + j) : Nat) : Int), rfl, rfl, SqL.of hfl3, by omega, ?_, ?_⟩
          · rw [ez]
            refine atI_nat ?_
            rw [List.getElem?_map, fl_get hij]
            rfl
          refine ⟨_, rfl, _, rfl, _, rfl, a2, _, _, .int ((cn b j : Nat) : Int), rfl, rfl, e4.t.sq ha2, ?_, _, _, rfl, rfl, mul_ok hba hbb he (by omega) (by omega), ?_⟩
          · rw [ej]
            refine atI_nat ?_
            rw [List.getElem?_map, cI_get hjm]
            rfl
          refine ⟨_, _, rfl, rfl, f, _, _, i + j, rfl, rfl, hfl3, ?_, ?_⟩
          · rw [ez]
            unfold ixN
            rw [if_pos (by omega), if_pos (by rw [List.length_map, fl_len]; omega)]
            exact congrArg some (Int.toNat_natCast _)
          · refine ⟨ex_own e4 hf0, ⟨_, rfl⟩, ?_⟩
            rw [upd_same]
            have es := fl_set (m := m) (t := i + j) (f := pm2 (cn a) (cn b) i j) (g := pm2 (cn a) (cn b) i (j + 1)) (x := ((pm2 (cn a) (cn b) i j (i + j) : Nat) : Int) + ((cn a i : Nat) : Int) * ((cn b j : Nat) : Int)) hij (fun L _ hL => pm2_succ_ne hL) (by rw [pm2_succ_eq]; push_cast; rfl)
            rw [← es, List.map_set]
        · rintro σ H3 ⟨e4, ⟨x6, rfl⟩, hfl3⟩
          refine ⟨e4, ⟨_, _, _, rfl⟩, ?_⟩
          rw [hfl3, fl_congr fun L hL => pm2_end hL (by omega)]
      · refine ⟨e3, ⟨_, _, _, rfl⟩, ?_⟩
        have h0 : cn a i = 0 := by simpa using hb
        rw [hfl2, fl_congr fun L _ => (pm_zero h0 L).symm]
    · rintro σ H1 ⟨ex, ⟨x4, x5, x6, rfl⟩, hfl⟩
      refine ⟨_, rfl, f, _, rfl, .inl ⟨SqL.of hfl, fun u hu => ?_⟩⟩
      refine k _ _ _ (ex.trans (ex_new hu)) (rd_ints _ (.inl (.inl upd_same))) ?_
      refine cI_of (fl_len _ _) fun L hL => ?_
      rw [fl_get hL, pm_cv L (m + 1) _ _ (by omega), cn_mul]
def spWAgain (K : PySem.W.Frag) : Sp := fun vs H Q _ => ∃ (p : Addr) (kd : Kd) (m e : Nat) (d1 : D) (v1 : V) (a : Ps'), vs = [.ref p, v1] ∧ WO K H p kd m ∧ RD K H d1 v1 ∧ rp kd m d1 a ∧ Nc a ∧ Bd e a ∧ e ≤ 9999 ∧ ∀ d v H', Ex H H' → RD K H' d v → rp kd m d (st a) → Q v H'
theorem ok_wAgain (T : Tx K mg) : Has P w K mg base 2 (a_Worths_again K) p_Worths_again (spWAgain K) := by
  refine has_of (f_Worths_again T) (z_Worths_again T) (b_Worths_again T) (fun vs H Q E h => by obtain ⟨_, _, _, _, _, _, _, rfl, _⟩ := h; rfl) (fun cdv A outer s H vs Q E hr h => ?_)
  obtain ⟨p, kd, m, e, d1, v1, a, rfl, hw, r1, q1, hnc, hb, he, k⟩ := h
  have h_Worths_empty := ok_wEmpty (P := P) (w := w) (base := base) T
  have h_Worths_add := ok_wAdd (P := P) (w := w) (base := base) T
  have h_Worths_times := ok_wTimes (P := P) (w := w) (base := base) T
  obtain ⟨hm, dx, ho⟩ := id hw
  refine ⟨_, (pss_cons (ps_set (i := 2) (z_Worths_again T).nd rfl (Or.inl rfl) (pmeth0 h_Worths_empty (c_Worths T) (m_Worths_empty T) (hr.mono (by omega)) passL (pv 0)))
  (pss_cons (ps_if (pt_cmpR (inK K) (fldK K (pv 0)) (pe_tup (pa_cons (pgs (i_CAN T)) (pa_cons (pgs (i_LEAST T)) (pa_cons (pgs (i_WIDE T)) pa_nil)))) rfl) (pss_one (ps_ret (pv 2))) pss_nil)
  (pss_cons (ps_for (passes_of rfl) rfl (pi_range1 (by rfl) (l_range T) (pa_cons (fldK K (pv 0)) pa_nil)) (pg_name (i := 3) (z_Worths_again T).nd rfl (Or.inl rfl)) (pss_one (ps_set (i := 2) (z_Worths_again T).nd rfl (Or.inl rfl) (pmeth h_Worths_add (c_Worths T) (m_Worths_add T) (hr.mono (by omega)) passL (pv 0) (pa_cons (pmeth0 h_Worths_empty (c_Worths T) (m_Worths_empty T) (hr.mono (by omega)) passL (pv 0)) (pa_cons (pmeth h_Worths_times (c_Worths T) (m_Worths_times T) (hr.mono (by omega)) passL (pv 0) (pa_cons (pv 1) (pa_cons (pv 2) pa_nil))) pa_nil))))))
  (pss_one (ps_ret (pv 2)))))), ?_⟩
  refine ⟨_, rfl, p, dx, _, rfl, ho, rfl, p, kd, m, rfl, hw, fun d2 v2 H2 e2 r2 q2 => ?_⟩
  have ho2 := e2 _ _ ho
  refine ⟨_, rfl, p, _, dx, _, _, rfl, ho2, c_Worths T, n_Worths_kind T, rfl, three_sz _ _ _, fun q hq => ⟨q, _, rfl, .inr (.inl (.inl upd_same)), rfl, rfl, decide (kd ≠ .count), by cases kd <;> exact congrArg V.bl (by decide +kernel), ?_⟩⟩
  have e3 := e2.trans (ex_new hq (o := .tup [.str "can", .str "least", .str "wide"]))
  have r3 := r2.mono (ex_new hq (o := .tup [.str "can", .str "least", .str "wide"])).t
  refine ifBH (fun hk => ?_) (fun hk => ?_)
  · exact ⟨_, rfl, k _ _ _ e3 r3 (rp_emp (of_decide_eq_true hk) q2 st0)⟩
  · have hkc : kd = .count := by simpa using hk
    subst hkc
    have ho2 := e3 _ _ ho
    refine ⟨_, rfl, p, _, dx, _, _, rfl, ho2, c_Worths T, n_Worths_most T, rfl, _, rfl, by omega, by omega, for_it (walk_range (lo := 0) (n := ((m : Int)).toNat)) (fun i σ H' => Ex H H' ∧ ∃ d v x3, σ = [some (.ref p), some v1, some v, x3] ∧ RD K H' d v ∧ rp .count m d (ap a i)) ⟨e3, d2, v2, none, rfl, r3, q2⟩ (fun _ _ _ _ _ => trivial) ?_ ?_⟩
    · rintro i x σ H4' H4 hi ⟨e4, d, v, x3, rfl, rv, qv⟩ ⟨rfl, rfl⟩
      have ho4 := e4 _ _ ho
      have hw4 := hw.ex e4
      refine ⟨_, rfl, p, dx, _, rfl, ho4, rfl, _, rfl, p, dx, _, rfl, ho4, rfl, p, .count, m, rfl, hw4, fun d5 v5 H5 e5 r5 q5 => ?_⟩
      refine ⟨_, rfl, p, dx, _, rfl, e5 _ _ ho4, rfl, _, rfl, _, rfl, p, .count, m, e + 1, d1, d, v1, v, a, ap a i, rfl, hw4.ex e5, r1.mono (e4.trans e5).t, rv.mono e5.t, q1, qv, hb.mono (Nat.le_succ e), ap_bd hnc hb i, by omega, fun d6 v6 H6 e6 r6 q6 => ?_⟩
      refine ⟨p, .count, m, d5, d6, v5, v6, _, _, rfl, (hw4.ex e5).ex e6, r5.mono e6.t, r6, q5, q6, fun d7 v7 H7 e7 r7 q7 => ?_⟩
      exact ⟨((e4.trans e5).trans e6).trans e7, d7, v7, _, rfl, r7, q7⟩
    · rintro σ H4 ⟨e4, d, v, x3, rfl, rv, qv⟩
      refine ⟨_, rfl, k _ _ _ e4 rv (count_congr (fun L hL => ?_) qv)⟩
      exact (cn_st hnc (by omega)).symm
end
end K09
/-! Parts: rows of worths, spots. -/
namespace K09
open PySem PySem.Spec
open PyProof.Rows L2 Sl Pm
section
variable {P : Program} {w : World} {K : PySem.W.Frag} {mg : Str → Option Value} {base : Heap} {H H1 H2 : Hp} {E : XK} {Q : VK} {kd : Kd} {m n e : Nat} {M : Mx Un} {r : Addr} {σ : L2.St}
abbrev cP (K : PySem.W.Frag) : Addr := He.ga K "Part"
/-- a worth -/
def WV (K : PySem.W.Frag) (kd : Kd) (m : Nat) : Hp → Ps' → V → Prop := fun H a v => ∃ d, RD K H d v ∧ rp kd m d a
theorem WV.t : TMono (WV K kd m) := fun _ _ _ _ e ⟨d, r, q⟩ => ⟨d, r.mono e, q⟩
/-- a row of worths, with all that is new since B -/
def RV (K : PySem.W.Frag) (B : Hp) (kd : Kd) (m n : Nat) : Hp → (Nat → Ps') → V → Prop := fun H f v => ∃ q xs, v = .ref q ∧ H q = some (.lst xs) ∧ B q = none ∧ LP (WV K kd m) H ((List.range n).map f) xs
theorem RV.mn {B : Hp} : Mono (RV K B kd m n) := fun H H' f v e ⟨q, xs, h1, h2, hb, h3⟩ => ⟨q, xs, h1, e _ _ h2, hb, h3.mono WV.t.m e⟩
/-- rows of worths -/
def RW (K : PySem.W.Frag) (B H : Hp) (r : Addr) (kd : Kd) (m n : Nat) (M : Mx Un) : Prop := B r = none ∧ ∃ rs, H r = some (.lst rs) ∧ LP (RV K B kd m n) H ((List.range n).map M) rs
theorem RW.ex {B : Hp} (h : RW K B H r kd m n M) (e : Ex H H1) : RW K B H1 r kd m n M := by
  obtain ⟨hb, rs, h1, h2⟩ := h
  exact ⟨hb, rs, e _ _ h1, h2.mono RV.mn e⟩
theorem RW.back {B B' : Hp} (h : RW K B H r kd m n M) (e : Ex B' B) : RW K B' H r kd m n M := by
  have bk : ∀ a, B a = none → B' a = none := fun a ha => by
    cases z : B' a with
    | none => rfl
    | some o => rw [e _ _ z] at ha; cases ha
  obtain ⟨hb, rs, h1, h2⟩ := h
  exact ⟨bk _ hb, rs, h1, h2.imp fun f v ⟨q, xs, g1, g2, g3, g4⟩ => ⟨q, xs, g1, g2, bk _ g3, g4⟩⟩
/-- what was there before is written -/
theorem RW.put {B : Hp} {a : Addr} {o : HO} (h : RW K B H r kd m n M) (ha : B a ≠ none) (t : TEx H (L2.upd H a o)) : RW K B (L2.upd H a o) r kd m n M := by
  have ne : ∀ q, B q = none → q ≠ a := fun q hq z => ha (z ▸ hq)
  obtain ⟨hb, rs, h1, h2⟩ := h
  exact ⟨hb, rs, by rw [upd_ne (ne _ hb)]; exact h1, h2.imp fun f v ⟨q, xs, g1, g2, g3, g4⟩ => ⟨q, xs, g1, by rw [upd_ne (ne _ g3)]; exact g2, g3, g4.imp fun _ _ z => WV.t _ _ _ _ t z⟩⟩
theorem RW.congr {B : Hp} {M' : Mx Un} (h : RW K B H r kd m n M) (e : ∀ i j, i < n → j < n → M i j = M' i j) : RW K B H r kd m n M' := by
  obtain ⟨hb, rs, h1, h2⟩ := h
  refine ⟨hb, rs, h1, by rw [h2.1]; simp, fun j f hj => ?_⟩
  have hjn : j < n := by
    have := (List.getElem?_eq_some_iff.mp hj).1
    simpa using this
  have e1 : ((List.range n).map M)[j]? = some (M j) := by rw [List.getElem?_map, List.getElem?_range hjn]; rfl
  have e2 : ((List.range n).map M')[j]? = some (M' j) := by rw [List.getElem?_map, List.getElem?_range hjn]; rfl
  rw [e2] at hj
  cases hj
  obtain ⟨v, g1, q, xs, rfl, g2, g3, g4⟩ := h2.2 j (M j) e1
  refine ⟨_, g1, q, xs, rfl, g2, g3, ?_⟩
  have : (List.range n).map (M' j) = (List.range n).map (M j) := List.map_congr_left fun y hy => (e j y hjn (List.mem_range.mp hy)).symm
  rw [this]
  exact g4
theorem RW.len {B : Hp} (h : RW K B H r kd m n M) : ∃ rs, H r = some (.lst rs) ∧ rs.length = n := by
  obtain ⟨_, rs, h1, h2⟩ := h
  exact ⟨rs, h1, by rw [h2.1]; simp⟩
theorem map_at {α : Type} {n j : Nat} {f : Nat → α} (h : j < n) : ((List.range n).map f)[j]? = some (f j) := by
  rw [List.getElem?_map, List.getElem?_range h]
  rfl
theorem RW.row {B : Hp} {i : Nat} (h : RW K B H r kd m n M) (hi : i < n) : ∃ rs q xs, H r = some (.lst rs) ∧ rs[i]? = some (.ref q) ∧ H q = some (.lst xs) ∧ LP (WV K kd m) H ((List.range n).map (M i)) xs := by
  obtain ⟨_, rs, h1, h2⟩ := h
  obtain ⟨v, h3, q, xs, rfl, h4, _, h5⟩ := h2.2 i (M i) (map_at hi)
  exact ⟨rs, q, xs, h1, h3, h4, h5⟩
theorem rij {B : Hp} {a i j : Nat} {x y : Nat} {xi yi : Int} (hr : σ[a]? = some (some (.ref r))) (hi : σ[i]? = some (some (.int xi))) (hj : σ[j]? = some (some (.int yi))) (ex : xi = (x : Int)) (ey : yi = (y : Int)) (R : RW K B H r kd m n M) (hx : x < n) (hy : y < n)
    (k : ∀ v d, RD K H d v → rp kd m d (M x y) → Q v H) : tOp (rIxL K) (tOp (rIxL K) (tVar a) (tVar i)) (tVar j) σ H Q := by
  subst ex ey
  obtain ⟨rs, q, xs, h1, h2, h3, h4⟩ := R.row hx
  obtain ⟨v, h5, d, h6, h7⟩ := h4.2 y (M x y) (map_at hy)
  exact ⟨_, hr, _, hi, r, rs, _, _, rfl, rfl, SqL.of h1, atI_nat h2, _, hj, q, xs, _, v, rfl, rfl, SqL.of h3, atI_nat h5, k v d h6 h7⟩
def pF (w s r : Addr) : List (Str × V) := [("worths", .ref w), ("spots", .ref s), ("rows", .ref r)]
/-- a part stands at p, new since B -/
structure PA (K : PySem.W.Frag) (B H : Hp) (p : Addr) (kd : Kd) (m e : Nat) (sp : List Nat) (n : Nat) (M : Mx Un) : Prop where
  o : ∃ dx w s r, H p = some (.ins (cP K) dx (pF w s r)) ∧ WO K H w kd m ∧ H s = some (.lst ((sp.map fun x => ((x : Nat) : Int)).map V.int)) ∧ RW K B H r kd m n M ∧ B p = none ∧ B w = none ∧ B s = none
  nc : ∀ i j, Nc (M i j)
  bd : ∀ i j, Bd e (M i j)
  sp : ∀ x ∈ sp, x < n
theorem PA.ex {B : Hp} {p : Addr} {sp : List Nat} (h : PA K B H p kd m e sp n M) (x : Ex H H1) : PA K B H1 p kd m e sp n M := by
  obtain ⟨dx, w, s, r, h1, h2, h3, h4, hb⟩ := h.o
  exact ⟨⟨dx, w, s, r, x _ _ h1, h2.ex x, x _ _ h3, h4.ex x, hb⟩, h.nc, h.bd, h.sp⟩
theorem PA.back {B B' : Hp} {p : Addr} {sp : List Nat} (h : PA K B H p kd m e sp n M) (x : Ex B' B) : PA K B' H p kd m e sp n M := by
  have bk : ∀ a, B a = none → B' a = none := fun a ha => by
    cases z : B' a with
    | none => rfl
    | some o => rw [x _ _ z] at ha; cases ha
  obtain ⟨dx, w, s, r, h1, h2, h3, h4, b1, b2, b3⟩ := h.o
  exact ⟨⟨dx, w, s, r, h1, h2, h3, h4.back x, bk _ b1, bk _ b2, bk _ b3⟩, h.nc, h.bd, h.sp⟩
theorem PA.put {B : Hp} {p a : Addr} {o : HO} {sp : List Nat} (h : PA K B H p kd m e sp n M) (ha : B a ≠ none) (t : TEx H (L2.upd H a o)) : PA K B (L2.upd H a o) p kd m e sp n M := by
  have ne : ∀ q, B q = none → q ≠ a := fun q hq z => ha (z ▸ hq)
  obtain ⟨dx, w, s, r, h1, ⟨hm, dxw, h2⟩, h3, h4, b1, b2, b3⟩ := h.o
  exact ⟨⟨dx, w, s, r, by rw [upd_ne (ne _ b1)]; exact h1, ⟨hm, dxw, by rw [upd_ne (ne _ b2)]; exact h2⟩, by rw [upd_ne (ne _ b3)]; exact h3, h4.put ha t, b1, b2, b3⟩, h.nc, h.bd, h.sp⟩
def spPInit (K : PySem.W.Frag) : Sp := fun vs H Q _ => ∃ (p dx w s r : Addr), vs = [.ref p, .ref w, .ref s, .ref r] ∧ H p = some (.ins (cP K) dx []) ∧ ∀ H', (∀ b o, b ≠ p → H b = some o → H' b = some o) → H' p = some (.ins (cP K) dx (pF w s r)) → Q .non H'
theorem ok_pInit (T : Tx K mg) : Has P w K mg base 1 (a_Part_init K) p_Part_init (spPInit K) := by
  refine has_of (f_Part_init T) (z_Part_init T) (b_Part_init T) (fun vs H Q E h => by obtain ⟨_, _, _, _, _, rfl, _⟩ := h; rfl) (fun cdv A outer s H vs Q E hr h => ?_)
  obtain ⟨p, dx, w, s, r, rfl, hp, k⟩ := h
  refine ⟨_, (pss_cons (ps_fld (pv 0) (pv 1) rfl)
  (pss_cons (ps_fld (pv 0) (pv 2) rfl)
  (pss_one (ps_fld (pv 0) (pv 3) rfl)))), ?_⟩
  refine ⟨_, rfl, _, rfl, p, _, dx, _, rfl, hp, c_Part T, n_Part_worths T, by show 0 < 1000; decide, ?_⟩
  refine ⟨_, rfl, _, rfl, p, _, dx, _, rfl, upd_same, c_Part T, n_Part_spots T, by show 1 < 1000; decide, ?_⟩
  refine ⟨_, rfl, _, rfl, p, _, dx, _, rfl, upd_same, c_Part T, n_Part_rows T, by show 2 < 1000; decide, ?_⟩
  refine k _ (fun b o hb e => ?_) upd_same
  rw [upd_ne hb, upd_ne hb, upd_ne hb]
  exact e
/-- making a part -/
theorem mkPart {Q' : Addr → Hp → Prop} {w s r : Addr} (k : ∀ p dx H', Ex H H' → H p = none → H' p = some (.ins (cP K) dx (pF w s r)) → Q' p H') {E : XK} : ∀ p dx : Addr, H p = none → H dx = none → dx ≠ p → spPInit K [.ref p, .ref w, .ref s, .ref r] (L2.upd (L2.upd H dx (.own p)) p (.ins (cP K) dx [])) (fun v H' => v = .non ∧ Q' p H') E := fun p dx hp hd hne =>
  ⟨p, dx, w, s, r, rfl, upd_same, fun H' h1 h2 => ⟨rfl, k p dx H' (fun b o q => h1 b o (ne_of_none q hp) (by rw [upd_ne (ne_of_none q hp), upd_ne (ne_of_none q hd)]; exact q)) hp h2⟩⟩
theorem rd0 {i : Nat} : RD K H (natD i) (V.int (0 + (i : Nat))) := by
  rw [Int.zero_add]
  exact .int _
theorem back' {a : Addr} (e : Ex H H1) (h : H1 a = none) : H a = none := by
  cases z : H a with
  | none => rfl
  | some o => rw [e _ _ z] at h; cases h
def spWithout (K : PySem.W.Frag) : Sp := fun vs H Q _ => ∃ (B : Hp) (p : Addr) (kd : Kd) (m e n s : Nat) (sp : List Nat) (M : Mx Un), vs = [.ref p, .int (s : Int)] ∧ PA K B H p kd m e sp n M ∧ s < n ∧ n ≤ 1000 ∧ e ≤ 9000 ∧ ∀ r H', Ex H H' → RW K H H' r kd m (n - 1) (wm M s) → Q (.ref r) H'
theorem ok_without (T : Tx K mg) : Has P w K mg base 3 (a_Part_without K) p_Part_without (spWithout K) := by
  refine has_of (f_Part_without T) (z_Part_without T) (b_Part_without T) (fun vs H Q E h => by obtain ⟨_, _, _, _, _, _, _, _, _, rfl, _⟩ := h; rfl) (fun cdv A outer s H vs Q E hr h => ?_)
  obtain ⟨B, p, kd, m, e, n, s, sp, M, rfl, hp, hs, hn, he, k⟩ := h
  have h_Worths_again := ok_wAgain (P := P) (w := w) (base := base) T
  have h_Worths_add := ok_wAdd (P := P) (w := w) (base := base) T
  have h_Worths_times := ok_wTimes (P := P) (w := w) (base := base) T
  obtain ⟨dx, w, s', r, ho, hw, hsp, hR, _⟩ := hp.o
  have hnc := hp.nc
  have hbd := hp.bd
  refine ⟨_, (pss_cons (ps_asg (pe_tup (pa_cons (fldK K (pv 0)) (pa_cons (fldK K (pv 0)) pa_nil))) (tupK K (n := 2) (pgs_cons (pg_name (i := 2) (z_Part_without T).nd rfl (Or.inr rfl)) (pgs_cons (pg_name (i := 3) (z_Part_without T).nd rfl (Or.inr rfl)) pgs_nil))))
  (pss_cons (ps_set (i := 4) (z_Part_without T).nd rfl (Or.inl rfl) (pmeth h_Worths_again (c_Worths T) (m_Worths_again T) (hr.mono (by omega)) passL (pv 2) (pa_cons (pe_ix (ixL K) (pe_ix (ixL K) (pv 3) (pv 1) (fun _ _ => rfl)) (pv 1) (fun _ _ => rfl)) pa_nil)))
  (pss_cons (ps_setLc (i := 5) (own := [("at", 6)]) rfl (z_Part_without T).nd rfl rfl (sw_true rfl rfl rfl (by decide +kernel)) (pi_range1 (by rfl) (l_range T) (pa_cons (pe_callB (lenK K) (by rfl) (l_len T) (by decide +kernel) (pa_cons (pv 3) pa_nil)) pa_nil)) (blkOk_by (N := n_Part_without) (sc := defScope s_Part_without) (by decide +kernel)) (fun _ _ _ _ _ => by exact (pg_name (i := 6) (z_Part_without T).nd rfl (Or.inl rfl))) (fun _ _ _ _ _ => by exact (pts_one (pt_cmpR op_ne (pv 6) (pv 1) (nomark _)))) (fun _ _ _ _ _ => by exact (pv 6)))
  (pss_cons (ps_set (i := 7) (z_Part_without T).nd rfl (Or.inl rfl) (pe_lst pa_nil))
  (pss_cons (ps_for (passes_of rfl) rfl (listW K (pv 5)) (pg_name (i := 8) (z_Part_without T).nd rfl (Or.inr rfl)) (pss_cons (ps_set (i := 9) (z_Part_without T).nd rfl (Or.inr rfl) (pmeth h_Worths_times (c_Worths T) (m_Worths_times T) (hr.mono (by omega)) passL (pv 2) (pa_cons (pe_ix (ixL K) (pe_ix (ixL K) (pv 3) (pv 8) (fun _ _ => rfl)) (pv 1) (fun _ _ => rfl)) (pa_cons (pv 4) pa_nil))))
  (pss_one (ps_expr (bmK K PySem.F.plainAttrs_list PySem.F.slot_list_append PySem.F.type_list_append mt_append (pv 7) (pa_cons (pe_lc (own := [("own", 10)]) rfl (z_Part_without T).nd (listW K (pv 5)) (blkOk_by (N := n_Part_without) (sc := defScope s_Part_without) (by decide +kernel)) (fun _ _ _ _ _ => by exact (pg_name (i := 10) (z_Part_without T).nd rfl (Or.inl rfl))) (fun _ _ _ _ _ => by exact pts_nil) (fun _ _ _ _ _ => by exact (pmeth h_Worths_add (c_Worths T) (m_Worths_add T) (hr.mono (by omega)) passL (pv 2) (pa_cons (pe_ix (ixL K) (pe_ix (ixL K) (pv 3) (pv 8) (fun _ _ => rfl)) (pv 10) (fun _ _ => rfl)) (pa_cons (pmeth h_Worths_times (c_Worths T) (m_Worths_times T) (hr.mono (by omega)) passL (pv 2) (pa_cons (pv 9) (pa_cons (pe_ix (ixL K) (pe_ix (ixL K) (pv 3) (pv 1) (fun _ _ => rfl)) (pv 10) (fun _ _ => rfl)) pa_nil))) pa_nil))))) pa_nil))))))
  (pss_one (ps_ret (pv 7)))))))), ?_⟩
  refine ⟨_, rfl, p, _, dx, _, _, rfl, ho, c_Part T, n_Part_worths T, rfl, _, rfl, p, _, dx, _, _, rfl, ho, c_Part T, n_Part_rows T, rfl, two_sz _ _, fun t ht => ⟨t, _, rfl, .inl (.inl upd_same), rfl, _, _, rfl, _, _, rfl, rfl, ?_⟩⟩
  have e1 := ex_new ht (o := .tup [.ref w, .ref r])
  generalize L2.upd H t (.tup [.ref w, .ref r]) = H1 at e1 ⊢
  have hw1 := hw.ex e1
  obtain ⟨hm, dxw, how⟩ := id hw1
  refine ⟨_, rfl, w, dxw, _, rfl, how, rfl, rij rfl rfl rfl rfl rfl (hR.ex e1) hs hs (fun v d rv qv => ?_)⟩
  refine ⟨w, kd, m, e, d, v, M s s, rfl, hw1, rv, qv, hnc s s, hbd s s, by omega, fun dl vl H2 e2 rl ql => ?_⟩
  have e12 := e1.trans e2
  obtain ⟨rs, hrs, hrl⟩ := (hR.ex e12).len
  refine ⟨_, rfl, r, rs, rfl, .inl (SqL.of hrs), _, rfl, by omega, by omega, fun lo hlo => lcD (K := K) hlo (walk_range (lo := 0) (n := rs.length)) (fun i => ((List.range i).filter (fun x => x != s)).map natD) rfl (fun _ _ => trivial) (fun i hi => ?_) (fun i x H3' H3 hi e3 y R N kR kN => ?_) (fun H4 xs e4 hx rx => ?_)⟩
  · rw [List.length_map]
    refine Nat.le_trans (List.length_filter_le _ _) ?_
    rw [List.length_range]
    omega
  · obtain ⟨rfl, rfl⟩ := y
    refine ⟨rfl, _, rfl, _, rfl, rfl, !decide (i = s), ?_, ifBH (fun hb => ?_) (fun hb => ?_)⟩
    · rw [intN]
      congr 2
      exact decide_eq_decide.mpr (by omega)
    · refine ⟨_, rfl, kR _ _ (natD i) (Ex.refl _) rd0 ?_⟩
      rw [List.range_succ, List.filter_append, List.map_append, List.filter_cons, if_pos (by simpa using hb)]
      rfl
    · refine kN _ (Ex.refl _) ?_
      rw [List.range_succ, List.filter_append, List.map_append, List.filter_cons, if_neg (by simpa using hb)]
      exact List.append_nil _
  have e14 := e12.trans e4
  rw [hrl, range_sk, if_pos hs, natD_int] at rx
  obtain rfl := rx.ints
  refine ⟨by show 0 ≤ sizeLine; decide, fun f hf => ?_⟩
  have hfH : H1 f = none := by
    cases z : H1 f with
    | none => rfl
    | some o => rw [e4 _ _ (e2 _ _ z)] at hf; cases hf
  have hf2 : H2 f = none := by
    cases z : H2 f with
    | none => rfl
    | some o => rw [e4 _ _ z] at hf; cases hf
  have hnef : lo ≠ f := ne_of_none hx hf
  have e15 := e14.trans (ex_new hf (o := .lst []))
  have e45 := e4.trans (ex_new hf (o := .lst []))
  have hx5 := ex_new hf (o := .lst []) _ _ hx
  have hwl := walk_list (K := K) (a := lo) (xs := (((List.range (n - 1)).map (sk s)).map fun x => ((x : Nat) : Int)).map V.int)
  rw [List.length_map, List.length_map, List.length_map, List.length_range] at hwl
  refine ⟨_, rfl, lo, rfl, ⟨_, SqL.of hx5⟩, for_it hwl (fun i σ H' => Ex H2 H' ∧ H' lo = some (.lst ((((List.range (n - 1)).map (sk s)).map fun x => ((x : Nat) : Int)).map V.int)) ∧ (∃ x6 x8 x9 x10, σ = [some (.ref p), some (.int (s : Int)), some (.ref w), some (.ref r), some vl, some (.ref lo), x6, some (.ref f), x8, x9, x10]) ∧ ∃ rs', H' f = some (.lst rs') ∧ ∀ zs : List V, LP (RV K H kd m (n - 1)) (L2.upd H' f (.lst zs)) ((List.range i).map (wm M s)) rs') ?_ (fun i σ H' _ h => SqL.of h.2.1) ?_ ?_⟩
  · exact ⟨e45, hx5, ⟨none, none, none, none, rfl⟩, [], upd_same, fun zs => .nil⟩
  · rintro i x σ H6' H6 hi ⟨e6, hlo6, ⟨x6, x8, x9, x10, rfl⟩, rs', hf6, l6⟩ ⟨rfl, hxi⟩
    rw [List.getElem?_map, List.getElem?_map, map_at hi] at hxi
    cases hxi
    have e16 := e12.trans e6
    have hw6 := hw.ex e16
    obtain ⟨hm, dxw, how6⟩ := id hw6
    have hR6 := hR.ex e16
    have hsk := sk_lt (s := s) (i := i) (n := n) (.inr hi) hs
    refine ⟨_, rfl, w, dxw, _, rfl, how6, rfl, rij rfl rfl rfl rfl rfl hR6 hsk hs (fun v1 d1 rv1 qv1 => ?_)⟩
    refine ⟨_, rfl, w, kd, m, e + 1, d1, dl, v1, vl, _, _, rfl, hw6, rv1, rl.mono e6.t, qv1, ql, (hbd _ _).mono (by omega), st_bd (hnc s s) (hbd s s), by omega, fun d2 v2 H7 e7 r7 q7 => ?_⟩
    have hf7 := e7 _ _ hf6
    have hlo7 := e7 _ _ hlo6
    have b2 : Bd (e + 2) (M (sk s i) s * st (M s s)) := ((hbd (sk s i) s).mono (Nat.le_succ e)).mul (st_bd (hnc s s) (hbd s s))
    refine ⟨_, rfl, tl_list hf7, _, rfl, lo, rfl, ⟨_, SqL.of hlo7⟩, fun l hl => lcT (α := Ps') (VP := WV K kd m) WV.t hl hwl (fun j => (List.range j).map (wm M s i)) rfl (fun H' e' => SqL.of (e' _ _ hlo7)) (fun j hj => by rw [List.length_map, List.length_range]; omega) (fun j x H8' H8 hj e8 y R N kR kN => ?_) (fun H9 xs e9 hx9 l9 => ?_)⟩
    · obtain ⟨rfl, hxj⟩ := y
      rw [List.getElem?_map, List.getElem?_map, map_at hj] at hxj
      cases hxj
      have e78 := e7.trans e8
      have hw8 := hw6.ex e78
      obtain ⟨_, _, how8⟩ := id hw8
      have hR8 := hR6.ex e78
      have hskj := sk_lt (s := s) (i := j) (n := n) (.inr hj) hs
      refine ⟨rfl, _, rfl, w, _, _, rfl, how8, rfl, rij rfl rfl rfl rfl rfl hR8 hsk hskj (fun v3 d3 rv3 qv3 => ?_)⟩
      refine ⟨_, rfl, w, _, _, rfl, how8, rfl, _, rfl, rij rfl rfl rfl rfl rfl hR8 hs hskj (fun v4 d4 rv4 qv4 => ?_)⟩
      refine ⟨w, kd, m, e + 2, d2, d4, v2, v4, _, _, rfl, hw8, r7.mono e8.t, rv4, q7, qv4, b2, (hbd _ _).mono (by omega), by omega, fun d5 v5 H9 e9 r9 q9 => ?_⟩
      refine ⟨w, kd, m, d3, d5, v3, v5, _, _, rfl, hw8.ex e9, rv3.mono e9.t, r9, qv3, q9, fun d6 v6 H10 e10 r10 q10 => ?_⟩
      exact kR _ _ _ (e9.trans e10) ⟨d6, r10, q10⟩ (by rw [List.range_succ, List.map_append]; rfl)
    · have hf9 := e9 _ _ hf7
      have hlf : l ≠ f := (ne_of_none hf7 hl).symm
      refine ⟨f, rs', _, rfl, rfl, hf9, ?_, ex_own (e6.trans (e7.trans e9)) hf2, ?_, ⟨_, _, _, _, rfl⟩, _, upd_same, fun zs => ?_⟩
      · rw [(l6 []).1, List.length_map, List.length_range]; exact sz5 (by omega)
      · rw [upd_ne hnef]; exact e9 _ _ hlo7
      · rw [Sl.upd_upd, List.range_succ, List.map_append]
        refine ((l6 zs).mono RV.mn (ex_upd (e7.trans e9) f _)).snoc ⟨l, xs, rfl, by rw [upd_ne hlf]; exact hx9, back' (e1.trans (e2.trans (e6.trans e7))) hl, ?_⟩
        exact l9.imp fun a v h => WV.t _ _ _ _ (tex_put hf9 (by intro xs z; cases z) (by intro a b z; cases z)) h
  · rintro σ H6 ⟨e6, hlo6, ⟨x6, x8, x9, x10, rfl⟩, rs', hf6, l6⟩
    have := l6 rs'
    rw [upd_id hf6] at this
    exact ⟨_, rfl, k f _ (e12.trans e6) ⟨back' e1 hfH, rs', hf6, this⟩⟩
end
end K09
/-! Parts in order, told. -/
namespace K09
open PySem PySem.Spec
open PyProof.Rows L2 Sl Pm
section
variable {P : Program} {w : World} {K : PySem.W.Frag} {mg : Str → Option Value} {base : Heap} {H H1 H2 : Hp} {E : XK} {Q : VK} {kd : Kd} {m n e : Nat} {M : Mx Un} {r : Addr} {σ : L2.St}
/-- numbers as values -/
abbrev nV (l : List Nat) : List V := (l.map fun x => ((x : Nat) : Int)).map V.int
theorem nV_len (l : List Nat) : (nV l).length = l.length := by simp [nV]
theorem nV_get {l : List Nat} {i x : Nat} (h : l[i]? = some x) : (nV l)[i]? = some (.int (x : Int)) := by
  unfold nV
  rw [List.getElem?_map, List.getElem?_map, h]
  rfl
theorem nV_at {l : List Nat} {i : Nat} {v : V} (h : (nV l)[i]? = some v) : ∃ x, l[i]? = some x ∧ v = .int (x : Int) := by
  unfold nV at h
  rw [List.getElem?_map, List.getElem?_map] at h
  cases q : l[i]? with
  | none => rw [q] at h; cases h
  | some x => rw [q] at h; cases h; exact ⟨x, rfl, rfl⟩
theorem inV_nat (x : Nat) (l : List Nat) : inV (.int (x : Int)) (nV l) = decide (x ∈ l) := by
  rw [inV_int]
  refine decide_eq_decide.mpr ?_
  rw [List.mem_map]
  constructor
  · rintro ⟨y, h1, h2⟩
    have : y = x := by omega
    rw [← this]; exact h1
  · exact fun h => ⟨x, h, rfl⟩
theorem nV_snoc (l : List Nat) (x : Nat) : nV l ++ [V.int (x : Int)] = nV (l ++ [x]) := by simp [nV]
/-- list.index, of a number that is there -/
theorem idx_ok {l : List Nat} {x : Nat} (h : x ∈ l) : (nV l)[l.idxOf x]? = some (.int (x : Int)) ∧ ∀ (j : Nat) (z : V), j < l.idxOf x → (nV l)[j]? = some z → eqV z (.int (x : Int)) = false := by
  have hl : l.idxOf x < l.length := List.idxOf_lt_length_of_mem h
  refine ⟨nV_get (by rw [List.getElem?_eq_getElem hl, List.getElem_idxOf]), fun j z hj hz => ?_⟩
  obtain ⟨y, h1, rfl⟩ := nV_at hz
  rw [eqV_int]
  refine decide_eq_false fun q => ?_
  have : y = x := by omega
  subst this
  have hj2 := List.not_of_lt_findIdx (p := (· == y)) (xs := l) hj
  have := (List.getElem?_eq_some_iff.mp h1).2
  simp [this] at hj2
def spOrdered (K : PySem.W.Frag) : Sp := fun vs H Q _ => ∃ (B B' : Hp) (w s r : Addr) (kd : Kd) (m e n : Nat) (sp : List Nat) (M : Mx Un), vs = [.ref w, .ref s, .ref r] ∧ WO K H w kd m ∧ H s = some (.lst (nV sp)) ∧ RW K B H r kd m n M ∧ (∀ i j, Nc (M i j)) ∧ (∀ i j, Bd e (M i j)) ∧ (∀ x ∈ sp, x < n) ∧ n ≤ 1000 ∧ sp.length ≤ 1000 ∧
  Ex B' H ∧ B' w = none ∧ ∀ p H', Ex H H' → PA K B' H' p kd m e (sp.map fun x => (dd sp).idxOf x) (dd sp).length (rm M (dd sp)) → Q (.ref p) H'
theorem ok_ordered (T : Tx K mg) : Has P w K mg base 3 (a_ordered K) p_ordered (spOrdered K) := by
  refine has_of (f_ordered T) (z_ordered T) (b_ordered T) (fun vs H Q E h => by obtain ⟨_, _, _, _, _, _, _, _, _, _, _, rfl, _⟩ := h; rfl) (fun cdv A outer s H vs Q E hr h => ?_)
  obtain ⟨B, B', wa, sa, r, kd, m, e, n, sp, M, rfl, hw, hs, hR, hnc, hbd, hsp, hn, hsl, hB, hBw, k⟩ := h
  have h_Part_init := ok_pInit (P := P) (w := w) (base := base) T
  refine ⟨_, (pss_cons (ps_set (i := 3) (z_ordered T).nd rfl (Or.inr rfl) (pe_lst pa_nil))
  (pss_cons (ps_for (passes_of rfl) rfl (listW K (pv 1)) (pg_name (i := 4) (z_ordered T).nd rfl (Or.inl rfl)) (pss_one (ps_if (pt_cmpR (niK K) (pv 4) (pv 3) rfl) (pss_one (ps_expr (bmK K PySem.F.plainAttrs_list PySem.F.slot_list_append PySem.F.type_list_append mt_append (pv 3) (pa_cons (pv 4) pa_nil)))) pss_nil)))
  (pss_one (ps_ret (pmake h_Part_init (k_Part T) (hr.mono (by omega)) (g_Part T) passL (pa_cons (pv 0) (pa_cons (pe_lc (own := [("own", 4)]) rfl (z_ordered T).nd (listW K (pv 1)) (blkOk_by (N := n_ordered) (sc := defScope s_ordered) (by decide +kernel)) (fun _ _ _ _ _ => by exact (pg_name (i := 4) (z_ordered T).nd rfl (Or.inl rfl))) (fun _ _ _ _ _ => by exact pts_nil) (fun _ _ _ _ _ => by exact (bmK K PySem.F.plainAttrs_list PySem.F.slot_list_index PySem.F.type_list_index (idxMK K) (pv 3) (pa_cons (pv 4) pa_nil)))) (pa_cons (pe_lc (own := [("one", 6)]) rfl (z_ordered T).nd (listW K (pv 3)) (blkOk_by (N := n_ordered) (sc := defScope s_ordered) (by decide +kernel)) (fun _ _ _ _ _ => by exact (pg_name (i := 6) (z_ordered T).nd rfl (Or.inr rfl))) (fun _ _ _ _ _ => by exact pts_nil) (fun _ _ _ _ _ => by exact (pe_lc (own := [("other", 5)]) rfl (z_ordered T).nd (listW K (pv 3)) (blkOk_by (by kernel_rfl)) (fun _ _ _ _ _ => by exact (pg_name (i := 5) (z_ordered T).nd rfl (Or.inl rfl))) (fun _ _ _ _ _ => by exact pts_nil) (fun _ _ _ _ _ => by exact (pe_ix (ixL K) (pe_ix (ixL K) (pv 2) (pv 6) (fun _ _ => rfl)) (pv 5) (fun _ _ => rfl)))))) pa_nil)))))))), ?_⟩
  obtain ⟨rs, hrs, hrl⟩ := hR.len
  refine ⟨by show 0 ≤ sizeLine; decide, fun o ho => ?_⟩
  have e1 := ex_new (o := .lst []) ho
  have hs1 := e1 _ _ hs
  have hwl := walk_list (K := K) (a := sa) (xs := nV sp)
  rw [nV_len] at hwl
  refine ⟨_, rfl, sa, rfl, ⟨_, SqL.of hs1⟩, for_it hwl (fun i σ H' => Ex H H' ∧ (∃ x4 x5 x6, σ = [some (.ref wa), some (.ref sa), some (.ref r), some (.ref o), x4, x5, x6]) ∧ H' o = some (.lst (nV (dd (sp.take i))))) ?_ (fun i σ H' _ h => SqL.of (h.1 _ _ hs)) ?_ ?_⟩
  · exact ⟨e1, ⟨none, none, none, rfl⟩, upd_same⟩
  · rintro i x σ H2' H2 hi ⟨e2, ⟨x4, x5, x6, rfl⟩, ho2⟩ ⟨rfl, hx⟩
    obtain ⟨y, hy, rfl⟩ := nV_at hx
    have ht : sp.take (i + 1) = sp.take i ++ [y] := by rw [List.take_add_one, hy]; rfl
    refine ⟨_, rfl, _, rfl, o, _, rfl, .inl (SqL.of ho2), rfl, flat_ints _, !decide (y ∈ dd (sp.take i)), by show V.bl (!inV _ _) = _; rw [inV_nat], ifBH (fun hb => ?_) (fun hb => ?_)⟩
    · refine ⟨_, rfl, tl_list ho2, _, rfl, o, _, _, rfl, rfl, ho2, ?_, ex_own e2 ho, ⟨_, _, _, rfl⟩, ?_⟩
      · rw [nV_len]
        have := dd_len (sp.take i)
        rw [List.length_take] at this
        exact sz5 (by omega)
      · rw [upd_same, ht, dd_snoc, if_neg (by simpa using hb), nV_snoc]
    · refine ⟨e2, ⟨_, _, _, rfl⟩, ?_⟩
      rw [ho2, ht, dd_snoc, if_pos (by simpa using hb)]
  · rintro σ H2 ⟨e2, ⟨x4, x5, x6, rfl⟩, ho2⟩
    rw [List.take_of_length_le (Nat.le_refl _)] at ho2
    have hol : (dd sp).length ≤ 1000 := Nat.le_trans (dd_len sp) hsl
    have hdn : ∀ x ∈ dd sp, x < n := fun x hx => hsp x (dd_mem.mp hx)
    refine ⟨_, rfl, _, rfl, sa, rfl, ⟨_, SqL.of (e2 _ _ hs)⟩, fun l hl => lcD (K := K) hl hwl (fun i => ((sp.take i).map fun x => (dd sp).idxOf x).map natD) rfl (fun H' e' => SqL.of (e' _ _ (e2 _ _ hs))) (fun i hi => by rw [List.length_map, List.length_map, List.length_take]; omega) (fun i x H3' H3 hi e3 y R N kR kN => ?_) (fun H4 xs e4 hl4 rx => ?_)⟩
    · obtain ⟨rfl, hx⟩ := y
      obtain ⟨y, hy, rfl⟩ := nV_at hx
      have hmem : y ∈ dd sp := dd_mem.mpr (List.mem_of_getElem? hy)
      obtain ⟨g1, g2⟩ := idx_ok hmem
      refine ⟨rfl, _, rfl, tl_list (e3 _ _ ho2), _, rfl, o, _, _, _, _, rfl, rfl, SqL.of (e3 _ _ ho2), rfl, flat_ints _, g1, by rw [eqV_int]; exact decide_eq_true rfl, g2, ?_⟩
      refine kR _ _ (natD ((dd sp).idxOf y)) (Ex.refl _) (.int _) ?_
      rw [List.take_add_one, hy]
      simp
    · rw [List.take_of_length_le (Nat.le_refl _), natD_int] at rx
      obtain rfl := rx.ints
      have e24 := e2.trans e4
      have ho4 := e4 _ _ ho2
      have hwo := walk_list (K := K) (a := o) (xs := nV (dd sp))
      rw [nV_len] at hwo
      refine ⟨_, rfl, o, rfl, ⟨_, SqL.of ho4⟩, fun q hq => lcP (α := Nat → Ps') (VP := RV K H kd m (dd sp).length) RV.mn hq hwo (fun i => (List.range i).map (rm M (dd sp))) rfl (fun H' e' => SqL.of (e' _ _ ho4)) (fun i hi => by rw [List.length_map, List.length_range]; omega) (fun i x H5' H5 hi e5 hD y R N kR kN => ?_) (fun H6 ys e6 hq6 l6 => ?_)⟩
      · obtain ⟨rfl, hx⟩ := y
        obtain ⟨y, hy, rfl⟩ := nV_at hx
        have ho5 := e5 _ _ ho4
        obtain ⟨zs0, hz0⟩ := hD
        have hyn := hdn y (List.mem_of_getElem? hy)
        refine ⟨rfl, _, rfl, o, rfl, ⟨_, SqL.of ho5⟩, fun q2 hq2 => lcT (α := Ps') (VP := WV K kd m) WV.t hq2 hwo (fun j => (List.range j).map (rm M (dd sp) i)) rfl (fun H' e' => SqL.of (e' _ _ ho5)) (fun j hj => by rw [List.length_map, List.length_range]; omega) (fun j x H7' H7 hj e7 y2 R2 N2 kR2 kN2 => ?_) (fun H8 zs e8 hq8 l8 => ?_)⟩
        · obtain ⟨rfl, hx2⟩ := y2
          obtain ⟨y2, hy2, rfl⟩ := nV_at hx2
          have hy2n := hdn y2 (List.mem_of_getElem? hy2)
          refine ⟨rfl, rij rfl rfl rfl rfl rfl (hR.ex ((e24.trans e5).trans e7)) hyn hy2n (fun v d rv qv => ?_)⟩
          refine kR2 _ _ (rm M (dd sp) i j) (Ex.refl _) ⟨d, rv, ?_⟩ (by rw [List.range_succ, List.map_append]; rfl)
          unfold rm
          rw [List.getD_eq_getElem?_getD, List.getD_eq_getElem?_getD, hy, hy2]
          exact qv
        · have hne : q2 ≠ q := (ne_of_none hz0 hq2).symm
          refine kR _ _ (rm M (dd sp) i) e8 (fun zs' => ⟨q2, zs, rfl, by rw [upd_ne hne]; exact hq8, back' (e24.trans e5) hq2, ?_⟩) (by rw [List.range_succ, List.map_append]; rfl)
          exact l8.imp fun a v h => WV.t _ _ _ _ (tex_put (e8 _ _ hz0) (by intro xs z; cases z) (by intro a b z; cases z)) h
      · have e26 := e24.trans e6
        refine mkPart fun p dx H7 e7 hp6 hp7 => ?_
        refine k p _ (e26.trans e7) ⟨⟨dx, wa, l, q, hp7, hw.ex (e26.trans e7), e7 _ _ (e6 _ _ hl4), ?_, back' (hB.trans e26) hp6, hBw, back' (hB.trans e2) hl⟩, fun i j => hnc _ _, fun i j => hbd _ _, fun x hx => ?_⟩
        · exact RW.ex (RW.back ⟨back' e24 hq, ys, hq6, l6⟩ hB) e7
        · obtain ⟨y, hy, rfl⟩ := List.mem_map.mp hx
          exact List.idxOf_lt_length_of_mem (dd_mem.mpr hy)
end
end K09
/-! Parts as values, closed, their tables. -/
namespace K09
open PySem PySem.Spec
open PyProof.Rows L2 Sl Pm
section
variable {P : Program} {w : World} {K : PySem.W.Frag} {mg : Str → Option Value} {base : Heap} {H H0 H1 H2 : Hp} {E : XK} {Q : VK} {kd : Kd} {m n e : Nat} {M F : Mx Un} {r : Addr} {σ : L2.St}
theorem OL.rw' {qs : List Addr} (o : OL (WV K kd m) H1 H r qs (rowsOf F n)) : RW K H1 H r kd m n F := by
  refine ⟨o.fD, qs.map V.ref, o.l, by rw [List.length_map, o.len, rowsOf_len, List.length_map, List.length_range], fun j f hj => ?_⟩
  have hjn : j < n := by
    have := (List.getElem?_eq_some_iff.mp hj).1
    simpa using this
  rw [map_at hjn] at hj
  cases hj
  obtain ⟨q, xs, h1, h2, h3⟩ := o.rw_ j _ (rowsOf_get hjn)
  exact ⟨.ref q, by rw [List.getElem?_map, h1]; rfl, q, xs, rfl, h2, o.fr q (List.mem_of_getElem? h1), h3⟩
theorem OL.entry {qs : List Addr} {i j : Nat} {a : Ps'} {v : V} (o : OL (WV K kd m) H1 H r qs (rowsOf F n)) (hi : i < n) (hj : j < n) (hv : WV K kd m H a v) : ∃ q xs, qs[i]? = some q ∧ H q = some (.lst xs) ∧ xs.length = n ∧ OL (WV K kd m) H1 (L2.upd H q (.lst (xs.set j v))) r qs (rowsOf (setM F i j a) n) := by
  obtain ⟨q, xs, h1, h2, h3⟩ := o.rw_ i _ (rowsOf_get hi)
  refine ⟨q, xs, h1, h2, by rw [h3.1]; simp, ?_⟩
  rw [rowsOf_set]
  refine o.put WV.t h1 ?_
  rw [row_set]
  exact h3.set hv
theorem OL.row' {qs : List Addr} {i : Nat} (o : OL (WV K kd m) H1 H r qs (rowsOf F n)) (hi : i < n) : ∃ q xs, qs[i]? = some q ∧ H q = some (.lst xs) ∧ LP (WV K kd m) H ((List.range n).map (F i)) xs := o.rw_ i _ (rowsOf_get hi)
/-- a row of values as data -/
theorem LP.wv : ∀ {as : List Ps'} {xs : List V}, LP (WV K kd m) H as xs → ∃ ds, RDs K H ds xs ∧ ds.length = as.length ∧ ∀ (j : Nat) (a : Ps'), as[j]? = some a → ∃ d, ds[j]? = some d ∧ rp kd m d a
  | [], [], _ => ⟨[], .nil, rfl, fun j a h => by simp at h⟩
  | [], _ :: _, h => absurd h.1 (by simp)
  | _ :: _, [], h => absurd h.1 (by simp)
  | a :: as, x :: xs, h => by
    obtain ⟨v, h1, d, h2, h3⟩ := h.2 0 a rfl
    cases h1
    obtain ⟨ds, r1, r2, r3⟩ := LP.wv (as := as) (xs := xs) ⟨by have := h.1; simpa using this, fun j b hb => h.2 (j + 1) b hb⟩
    refine ⟨d :: ds, .cons h2 r1, by rw [List.length_cons, List.length_cons, r2], fun j b hb => ?_⟩
    cases j with
    | zero => cases hb; exact ⟨d, rfl, h3⟩
    | succ j => exact r3 j b hb
/-- a tuple of worths -/
def TV (K : PySem.W.Frag) (kd : Kd) (m n : Nat) : Hp → (Nat → Ps') → V → Prop := fun H f v => ∃ ds, RD K H (.tup ds) v ∧ ds.length = n ∧ ∀ j, j < n → ∃ d, ds[j]? = some d ∧ rp kd m d (f j)
theorem TV.t : TMono (TV K kd m n) := fun _ _ _ _ e ⟨ds, r, q⟩ => ⟨ds, r.mono e, q⟩
theorem TV.of {f : Nat → Ps'} {u : Addr} {xs : List V} (l : LP (WV K kd m) H ((List.range n).map f) xs) (hu : H u = none) : TV K kd m n (L2.upd H u (.tup xs)) f (.ref u) := by
  obtain ⟨ds, h1, h2, h3⟩ := LP.wv l
  refine ⟨ds, rd_new hu h1, by rw [h2]; simp, fun j hj => h3 j (f j) (map_at hj)⟩
theorem TV.td : ∀ {fs : List (Nat → Ps')} {xs : List V}, LP (TV K kd m n) H fs xs → ∃ rows, RDs K H rows xs ∧ rows.length = fs.length ∧ ∀ (i : Nat) (f : Nat → Ps'), fs[i]? = some f → ∃ ds, rows[i]? = some (.tup ds) ∧ ds.length = n ∧ ∀ j, j < n → ∃ d, ds[j]? = some d ∧ rp kd m d (f j)
  | [], [], _ => ⟨[], .nil, rfl, fun j a h => by simp at h⟩
  | [], _ :: _, h => absurd h.1 (by simp)
  | _ :: _, [], h => absurd h.1 (by simp)
  | f :: fs, x :: xs, h => by
    obtain ⟨v, h1, ds, h2, h3, h4⟩ := h.2 0 f rfl
    cases h1
    obtain ⟨rows, r1, r2, r3⟩ := TV.td (fs := fs) (xs := xs) ⟨by have := h.1; simpa using this, fun j b hb => h.2 (j + 1) b hb⟩
    refine ⟨.tup ds :: rows, .cons h2 r1, by rw [List.length_cons, List.length_cons, r2], fun j b hb => ?_⟩
    cases j with
    | zero => cases hb; exact ⟨ds, rfl, h3, h4⟩
    | succ j => exact r3 j b hb
theorem TV.tab {G : Nat → Nat → Ps'} {k : Nat} {xs : List V} (l : LP (TV K kd m n) H ((List.range k).map G) xs) : ∃ rows, RDs K H rows xs ∧ TD kd m rows k n G := by
  obtain ⟨rows, h1, h2, h3⟩ := TV.td l
  exact ⟨rows, h1, by rw [h2]; simp, fun i hi => h3 i (G i) (map_at hi)⟩
def spTold (K : PySem.W.Frag) : Sp := fun vs H Q _ => ∃ (B : Hp) (p : Addr) (kd : Kd) (m e n : Nat) (sp : List Nat) (M : Mx Un), vs = [.ref p] ∧ PA K B H p kd m e sp n M ∧ n ≤ 1000 ∧ ∀ rows v H', Ex H H' → TD kd m rows n n M → RD K H' (.tup [.tup (sp.map natD), .tup rows]) v → Q v H'
theorem ok_told (T : Tx K mg) : Has P w K mg base 1 (a_Part_told K) p_Part_told (spTold K) := by
  refine has_of (f_Part_told T) (z_Part_told T) (b_Part_told T) (fun vs H Q E h => by obtain ⟨_, _, _, _, _, _, _, _, rfl, _⟩ := h; rfl) (fun cdv A outer s H vs Q E hr h => ?_)
  obtain ⟨B, p, kd, m, e, n, sp, M, rfl, hp, hn, k⟩ := h
  obtain ⟨dx, wa, sa, r, ho, hw, hs, hR, _⟩ := hp.o
  obtain ⟨_, rs, hrs, hrl⟩ := id hR
  have hrn : rs.length = n := by rw [hrl.1]; simp
  refine ⟨_, (pss_one (ps_ret (pe_tup (pa_cons (pe_callTy (tupleK K) (by rfl) (l_tuple T) (by decide +kernel) (pa_cons (fldK K (pv 0)) pa_nil)) (pa_cons (pe_callTy (tupleK K) (by rfl) (l_tuple T) (by decide +kernel) (pa_cons (pe_lc (own := [("row", 1)]) rfl (z_Part_told T).nd (listW K (fldK K (pv 0))) (blkOk_by (N := n_Part_told) (sc := defScope s_Part_told) (by decide +kernel)) (fun _ _ _ _ _ => by exact (pg_name (i := 1) (z_Part_told T).nd rfl (Or.inl rfl))) (fun _ _ _ _ _ => by exact pts_nil) (fun _ _ _ _ _ => by exact (pe_callTy (tupleK K) (by rfl) (l_tuple T) (by decide +kernel) (pa_cons (pv 1) pa_nil)))) pa_nil)) pa_nil))))), ?_⟩
  refine ⟨_, rfl, p, _, dx, _, _, rfl, ho, c_Part T, n_Part_spots T, rfl, sa, _, rfl, .inl ⟨SqL.of hs, fun t ht => ?_⟩⟩
  have e1 := ex_new ht (o := .tup (nV sp))
  have ho := e1 _ _ ho
  have hwl := walk_list (K := K) (a := r) (xs := rs)
  rw [hrn] at hwl
  refine ⟨_, rfl, p, _, dx, _, _, rfl, ho, c_Part T, n_Part_rows T, rfl, r, rfl, ⟨_, SqL.of (e1 _ _ hrs)⟩, fun l hl => lcT (α := Nat → Ps') (VP := TV K kd m n) TV.t hl hwl (fun i => (List.range i).map M) rfl (fun H' e' => SqL.of (e' _ _ (e1 _ _ hrs))) (fun i hi => by rw [List.length_map, List.length_range]; omega) (fun i x H3' H3 hi e3 y R N kR kN => ?_) (fun H4 xs e4 hl4 l4 => ?_)⟩
  · obtain ⟨rfl, hx⟩ := y
    obtain ⟨v, h1, q, xs, rfl, h2, _, h3⟩ := hrl.2 i (M i) (map_at hi)
    rw [hx] at h1
    cases h1
    have e13 := e1.trans e3
    refine ⟨rfl, _, rfl, q, xs, rfl, .inl ⟨SqL.of (e13 _ _ h2), fun u hu => ?_⟩⟩
    exact kR _ _ (M i) (ex_new hu) (TV.of (h3.mono WV.t.m e13) hu) (by rw [List.range_succ, List.map_append]; rfl)
  · obtain ⟨rows, r1, r2⟩ := TV.tab l4
    refine ⟨l, _, rfl, .inl ⟨SqL.of hl4, fun u hu => ⟨two_sz _ _, fun v hv => ?_⟩⟩⟩
    refine k rows _ _ (((e1.trans e4).trans (ex_new hu)).trans (ex_new hv)) r2 ?_
    refine rd_new hv (.cons ?_ (.cons (rd_new hu r1) .nil))
    rw [natD_int]
    exact (rd_ints _ (.inl (.inl ((e4.trans (ex_new hu)) _ _ upd_same))))
end
end K09
/-! Parts closed, their tables. -/
namespace K09
open PySem PySem.Spec
open PyProof.Rows L2 Sl Pm
section
variable {P : Program} {w : World} {K : PySem.W.Frag} {mg : Str → Option Value} {base : Heap} {H H0 H1 H2 : Hp} {E : XK} {Q : VK} {kd : Kd} {m n e : Nat} {M F : Mx Un} {r : Addr} {σ : L2.St}
theorem back {a : Addr} (e : Ex H0 H1) (h : H1 a = none) : H0 a = none := by
  cases z : H0 a with
  | none => rfl
  | some o => rw [e _ _ z] at h; cases h
theorem OL.mem_there {α : Type} {VP : Hp → α → V → Prop} {qs : List Addr} {rows : List (List α)} {D q : Addr} (o : OL VP H1 H D qs rows) (h : q ∈ qs) : ∃ xs, H q = some (.lst xs) := by
  obtain ⟨i, hi, e⟩ := List.getElem_of_mem h
  obtain ⟨q', xs, h1, h2, _⟩ := o.rw_ i _ (List.getElem?_eq_getElem (by rw [← o.len]; exact hi))
  rw [List.getElem?_eq_getElem hi, e] at h1
  cases h1
  exact ⟨xs, h2⟩
def spClosed (K : PySem.W.Frag) : Sp := fun vs H Q _ => ∃ (B : Hp) (p : Addr) (kd : Kd) (m e n : Nat) (sp : List Nat) (M : Mx Un), vs = [.ref p] ∧ PA K B H p kd m e sp n M ∧ n ≤ 100 ∧ e ≤ 8000 ∧ ∀ r H', Ex H H' → RW K H H' r kd m n (clo M n) → Q (.ref r) H'
theorem ok_closed (T : Tx K mg) : Has P w K mg base 3 (a_Part_closed K) p_Part_closed (spClosed K) := by
  refine has_of (f_Part_closed T) (z_Part_closed T) (b_Part_closed T) (fun vs H Q E h => by obtain ⟨_, _, _, _, _, _, _, _, rfl, _⟩ := h; rfl) (fun cdv A outer s H vs Q E hr h => ?_)
  obtain ⟨B, p, kd, m, e, n, sp, M, rfl, hp, hn, he, k⟩ := h
  have h_Worths_again := ok_wAgain (P := P) (w := w) (base := base) T
  have h_Worths_add := ok_wAdd (P := P) (w := w) (base := base) T
  have h_Worths_times := ok_wTimes (P := P) (w := w) (base := base) T
  have h_Worths_empty := ok_wEmpty (P := P) (w := w) (base := base) T
  obtain ⟨dx, wa, sa, r0, ho, hw, hs, hR, _⟩ := hp.o
  obtain ⟨_, rs, hrs, hrl⟩ := id hR
  have hnc := hp.nc
  have hbd := hp.bd
  have hrn : rs.length = n := by rw [hrl.1]; simp
  have cn := cl_nc hnc
  have cb : ∀ k, k ≤ n → ∀ i j, Bd (e + 400) (cl M k i j) := fun k hk i j => (cl_bd hnc hbd k i j).mono (by omega)
  refine ⟨_, (pss_cons (ps_par (i := 1) (j := 2) rfl (z_Part_closed T).nd rfl rfl (by decide) rfl rfl (pa_cons (fldK K (pv 0)) (pa_cons (pe_lc (own := [("row", 3)]) rfl (z_Part_closed T).nd (listW K (fldK K (pv 0))) (blkOk_by (N := n_Part_closed) (sc := defScope s_Part_closed) (by decide +kernel)) (fun _ _ _ _ _ => by exact (pg_name (i := 3) (z_Part_closed T).nd rfl (Or.inl rfl))) (fun _ _ _ _ _ => by exact pts_nil) (fun _ _ _ _ _ => by exact (pe_callTy (listK K) (by rfl) (l_list T) (by decide +kernel) (pa_cons (pv 3) pa_nil)))) pa_nil)) rfl)
  (pss_cons (ps_for (passes_of rfl) rfl (pi_range1 (by rfl) (l_range T) (pa_cons (pe_callB (lenK K) (by rfl) (l_len T) (by decide +kernel) (pa_cons (pv 2) pa_nil)) pa_nil)) (pg_name (i := 4) (z_Part_closed T).nd rfl (Or.inl rfl)) (pss_cons (ps_set (i := 5) (z_Part_closed T).nd rfl (Or.inl rfl) (pmeth h_Worths_again (c_Worths T) (m_Worths_again T) (hr.mono (by omega)) passL (pv 1) (pa_cons (pe_ix (ixL K) (pe_ix (ixL K) (pv 2) (pv 4) (fun _ _ => rfl)) (pv 4) (fun _ _ => rfl)) pa_nil)))
  (pss_cons (ps_setLc (i := 6) (own := [("row", 3)]) rfl (z_Part_closed T).nd rfl rfl (sw_true rfl rfl rfl (by decide +kernel)) (listW K (pv 2)) (blkOk_by (N := n_Part_closed) (sc := defScope s_Part_closed) (by decide +kernel)) (fun _ _ _ _ _ => by exact (pg_name (i := 3) (z_Part_closed T).nd rfl (Or.inl rfl))) (fun _ _ _ _ _ => by exact pts_nil) (fun _ _ _ _ _ => by exact (pe_callTy (listK K) (by rfl) (l_list T) (by decide +kernel) (pa_cons (pv 3) pa_nil))))
  (pss_one (ps_for (passes_of rfl) rfl (pi_range1 (by rfl) (l_range T) (pa_cons (pe_callB (lenK K) (by rfl) (l_len T) (by decide +kernel) (pa_cons (pv 2) pa_nil)) pa_nil)) (pg_name (i := 7) (z_Part_closed T).nd rfl (Or.inl rfl)) (pss_cons (ps_set (i := 8) (z_Part_closed T).nd rfl (Or.inl rfl) (pmeth h_Worths_times (c_Worths T) (m_Worths_times T) (hr.mono (by omega)) passL (pv 1) (pa_cons (pe_ix (ixL K) (pe_ix (ixL K) (pv 6) (pv 7) (fun _ _ => rfl)) (pv 4) (fun _ _ => rfl)) (pa_cons (pv 5) pa_nil))))
  (pss_one (ps_for (passes_of rfl) rfl (pi_range1 (by rfl) (l_range T) (pa_cons (pe_callB (lenK K) (by rfl) (l_len T) (by decide +kernel) (pa_cons (pv 2) pa_nil)) pa_nil)) (pg_name (i := 9) (z_Part_closed T).nd rfl (Or.inl rfl)) (pss_cons (ps_set (i := 3) (z_Part_closed T).nd rfl (Or.inl rfl) (pe_ix (ixL K) (pv 2) (pv 7) (fun _ _ => rfl)))
  (pss_one (ps_asg (pmeth h_Worths_add (c_Worths T) (m_Worths_add T) (hr.mono (by omega)) passL (pv 1) (pa_cons (pe_ix (ixL K) (pe_ix (ixL K) (pv 6) (pv 7) (fun _ _ => rfl)) (pv 9) (fun _ _ => rfl)) (pa_cons (pmeth h_Worths_times (c_Worths T) (m_Worths_times T) (hr.mono (by omega)) passL (pv 1) (pa_cons (pv 8) (pa_cons (pe_ix (ixL K) (pe_ix (ixL K) (pv 6) (pv 4) (fun _ _ => rfl)) (pv 9) (fun _ _ => rfl)) pa_nil))) pa_nil))) (pg_sub (pv 3) (pv 9) set_list))))))))))))
  (pss_cons (ps_for (passes_of rfl) rfl (pi_enum (by rfl) (l_enumerate T) (pa_cons (pv 2) pa_nil)) (tupK K (n := 2) (pgs_cons (pg_name (i := 4) (z_Part_closed T).nd rfl (Or.inl rfl)) (pgs_cons (pg_name (i := 3) (z_Part_closed T).nd rfl (Or.inl rfl)) pgs_nil))) (pss_one (ps_asg (pmeth h_Worths_add (c_Worths T) (m_Worths_add T) (hr.mono (by omega)) passL (pv 1) (pa_cons (pe_ix (ixL K) (pv 3) (pv 4) (fun _ _ => rfl)) (pa_cons (pmeth0 h_Worths_empty (c_Worths T) (m_Worths_empty T) (hr.mono (by omega)) passL (pv 1)) pa_nil))) (pg_sub (pv 3) (pv 4) set_list))))
  (pss_one (ps_ret (pv 2)))))), ?_⟩
  have hwl := walk_list (K := K) (a := r0) (xs := rs)
  rw [hrn] at hwl
  refine ⟨_, rfl, p, _, dx, _, _, rfl, ho, c_Part T, n_Part_worths T, rfl, _, rfl, p, _, dx, _, _, rfl, ho, c_Part T, n_Part_rows T, rfl, r0, rfl, ⟨_, SqL.of hrs⟩, fun r hr => lcO (α := Ps') (VP := WV K kd m) WV.t hr hwl (fun i => (List.range i).map fun a => (List.range n).map (M a)) rfl (fun H' e' => SqL.of (e' _ _ hrs)) (fun i hi => by rw [List.length_map, List.length_range]; omega) (fun i x H3' H3 hi e3 y R N kR kN => ?_) (fun H4 qs e4 o4 => ?_)⟩
  · obtain ⟨rfl, hx⟩ := y
    obtain ⟨v, h1, q, xs, rfl, h2, _, h3⟩ := hrl.2 i (M i) (map_at hi)
    rw [hx] at h1
    cases h1
    refine ⟨rfl, _, rfl, q, xs, rfl, .inl (SqL.of (e3 _ _ h2)), fun l hl => ?_⟩
    exact kR l _ xs _ (ex_new hl) hl upd_same (h3.mono WV.t.m (e3.trans (ex_new hl))) (by rw [List.range_succ, List.map_append]; rfl)
  refine ⟨_, _, rfl, ?_⟩
  have hqn : qs.length = n := by rw [o4.len]; simp
  have o4 : OL (WV K kd m) H H4 r qs (rowsOf (cl M 0) n) := o4
  have hlq : (qs.map V.ref).length = n := by rw [List.length_map, hqn]
  refine ⟨_, rfl, r, _, rfl, .inl (SqL.of o4.l), _, rfl, by omega, by omega, ?_⟩
  rw [hlq]
  refine for_it (walk_range (lo := 0) (n := n)) (fun i σ H' => Ex H H' ∧ (∃ x3 x4 x5 x6 x7 x8 x9, σ = [some (.ref p), some (.ref wa), some (.ref r), x3, x4, x5, x6, x7, x8, x9]) ∧ OL (WV K kd m) H H' r qs (rowsOf (cl M i) n)) ?_ (fun _ _ _ _ _ => trivial) ?_ ?_
  · exact ⟨e4, ⟨_, _, _, _, _, _, _, rfl⟩, o4⟩
  · rintro kk x σ H5' H5 hk ⟨e5, ⟨x3, x4, x5, x6, x7, x8, x9, rfl⟩, o5⟩ ⟨rfl, rfl⟩
    have ek : (0 : Int) + (kk : Int) = ((kk : Nat) : Int) := by omega
    have hw5 := hw.ex e5
    obtain ⟨hm, dxw, how⟩ := id hw5
    have hck := cb kk (by omega)
    refine ⟨_, rfl, wa, dxw, _, rfl, how, rfl, rij rfl rfl rfl ek ek (OL.rw' o5) hk hk (fun v d rv qv => ?_)⟩
    refine ⟨wa, kd, m, e + 400, d, v, cl M kk kk kk, rfl, hw5, rv, qv, cn kk kk kk, hck kk kk, by omega, fun dl vl H6 e6 rl ql => ?_⟩
    have o6 := o5.ex WV.t e6
    have e56 := e5.trans e6
    have hwq := walk_list (K := K) (a := r) (xs := qs.map V.ref)
    rw [hlq] at hwq
    refine ⟨_, rfl, r, rfl, ⟨_, SqL.of o6.l⟩, fun b hb => lcO (α := Ps') (VP := WV K kd m) WV.t hb hwq (fun i => (List.range i).map fun a => (List.range n).map (cl M kk a)) rfl (fun H' e' => SqL.of (e' _ _ o6.l)) (fun i hi => by rw [List.length_map, List.length_range]; omega) (fun i x H7' H7 hi e7 y R N kR kN => ?_) (fun H8 bs e8 o8 => ?_)⟩
    · obtain ⟨rfl, hx⟩ := y
      obtain ⟨q, xs, h1, h2, h3⟩ := OL.row' o6 hi
      rw [List.getElem?_map, h1] at hx
      cases hx
      refine ⟨rfl, _, rfl, q, xs, rfl, .inl (SqL.of (e7 _ _ h2)), fun l hl => ?_⟩
      exact kR l _ xs _ (ex_new hl) hl upd_same (h3.mono WV.t.m (e7.trans (ex_new hl))) (by rw [List.range_succ, List.map_append]; rfl)
    have o8 : OL (WV K kd m) H6 H8 b bs (rowsOf (cl M kk) n) := o8
    have o9 := o6.ex WV.t e8
    have e58 := e56.trans e8
    have rl8 := rl.mono e8.t
    -- the copies are apart
    have apB : ∀ q ∈ qs, q ≠ b := fun q hq z => by
      obtain ⟨xs, hx⟩ := OL.mem_there o6 hq
      rw [z, hb] at hx; cases hx
    have apS : ∀ q ∈ qs, q ∉ bs := fun q hq z => by
      obtain ⟨xs, hx⟩ := OL.mem_there o6 hq
      rw [o8.fr q z] at hx; cases hx
    refine ⟨_, rfl, r, _, rfl, .inl (SqL.of o9.l), _, rfl, by omega, by omega, ?_⟩
    rw [hlq]
    refine for_it (walk_range (lo := 0) (n := n)) (fun i σ H' => Ex H H' ∧ (∃ x3 x7 x8 x9, σ = [some (.ref p), some (.ref wa), some (.ref r), x3, some (.int (0 + (kk : Int))), some vl, some (.ref b), x7, x8, x9]) ∧ OL (WV K kd m) H H' r qs (rowsOf (fmx (cl M kk) kk i 0) n) ∧ OL (WV K kd m) H6 H' b bs (rowsOf (cl M kk) n) ∧ RD K H' dl vl) ?_ (fun _ _ _ _ _ => trivial) ?_ ?_
    · exact ⟨e58, ⟨_, _, _, _, rfl⟩, by rw [fmx_0]; exact o9, o8, rl8⟩
    · rintro i x σ H9' H9 hi ⟨e9, ⟨x3, x7, x8, x9, rfl⟩, o10, ob, rl9⟩ ⟨rfl, rfl⟩
      have ei : (0 : Int) + (i : Int) = ((i : Nat) : Int) := by omega
      have hw9 := hw.ex e9
      obtain ⟨_, dxw, how9⟩ := id hw9
      refine ⟨_, rfl, wa, dxw, _, rfl, how9, rfl, rij rfl rfl rfl ei ek (OL.rw' ob) hi hk (fun v1 d1 rv1 qv1 => ?_)⟩
      refine ⟨_, rfl, wa, kd, m, e + 401, d1, dl, v1, vl, _, _, rfl, hw9, rv1, rl9, qv1, ql, (hck i kk).mono (by omega), st_bd (cn kk kk kk) (hck kk kk), by omega, fun d2 v2 H10 e10 r2 q2 => ?_⟩
      have o11 := o10.ex WV.t e10
      have ob11 := ob.ex WV.t e10
      have e911 := e9.trans e10
      have b2 : Bd (e + 402) (cl M kk i kk * st (cl M kk kk kk)) := ((hck i kk).mono (Nat.le_succ _)).mul (st_bd (cn kk kk kk) (hck kk kk))
      refine ⟨_, rfl, r, _, rfl, .inl (SqL.of o11.l), _, rfl, by omega, by omega, ?_⟩
      rw [hlq]
      refine for_it (walk_range (lo := 0) (n := n)) (fun j σ H' => Ex H H' ∧ (∃ x3 x9, σ = [some (.ref p), some (.ref wa), some (.ref r), x3, some (.int (0 + (kk : Int))), some vl, some (.ref b), some (.int (0 + (i : Int))), some v2, x9]) ∧ OL (WV K kd m) H H' r qs (rowsOf (fmx (cl M kk) kk i j) n) ∧ OL (WV K kd m) H6 H' b bs (rowsOf (cl M kk) n) ∧ RD K H' dl vl ∧ RD K H' d2 v2) ?_ (fun _ _ _ _ _ => trivial) ?_ ?_
      · exact ⟨e911, ⟨_, _, rfl⟩, o11, ob11, rl9.mono e10.t, r2⟩
      · rintro j x σ H12' H12 hj ⟨e12, ⟨x3, x9, rfl⟩, o12, ob12, rl12, r12⟩ ⟨rfl, rfl⟩
        have ej : (0 : Int) + (j : Int) = ((j : Nat) : Int) := by omega
        obtain ⟨q, xs, g1, g2, _⟩ := OL.row' o12 hi
        refine ⟨_, rfl, _, rfl, r, _, _, .ref q, rfl, rfl, SqL.of o12.l, by rw [ei]; exact atI_nat (by rw [List.getElem?_map, g1]; rfl), ?_⟩
        have hw12 := hw.ex e12
        obtain ⟨_, dxw, how12⟩ := id hw12
        refine ⟨_, rfl, wa, dxw, _, rfl, how12, rfl, rij rfl rfl rfl ei ej (OL.rw' ob12) hi hj (fun v3 d3 rv3 qv3 => ?_)⟩
        refine ⟨_, rfl, wa, dxw, _, rfl, how12, rfl, _, rfl, rij rfl rfl rfl ek ej (OL.rw' ob12) hk hj (fun v4 d4 rv4 qv4 => ?_)⟩
        refine ⟨wa, kd, m, e + 402, d2, d4, v2, v4, _, _, rfl, hw12, r12, rv4, q2, qv4, b2, (hck kk j).mono (by omega), by omega, fun d5 v5 H13 e13 r13 q13 => ?_⟩
        refine ⟨wa, kd, m, d3, d5, v3, v5, _, _, rfl, hw12.ex e13, rv3.mono e13.t, r13, qv3, q13, fun d6 v6 H14 e14 r14 q14 => ?_⟩
        have o14 := o12.ex WV.t (e13.trans e14)
        have ob14 := ob12.ex WV.t (e13.trans e14)
        have e12' := e12.trans (e13.trans e14)
        obtain ⟨q', xs', g1', g2', g3', o15⟩ := OL.entry o14 hi hj (a := el (cl M kk) kk i j) (v := v6) ⟨d6, r14, q14⟩
        rw [g1] at g1'
        cases g1'
        have hqm := List.mem_of_getElem? g1
        have t := o14.tex hqm (.lst (xs'.set j v6))
        rw [fmx_set] at o15
        refine ⟨_, rfl, _, rfl, q, xs', _, j, rfl, rfl, g2', ?_, o14.frame e12' hqm _, ⟨_, _, rfl⟩, o15, ob14.other WV.t (apB q hqm) (apS q hqm) t, rl12.mono ((e13.trans e14).t.trans t), r12.mono ((e13.trans e14).t.trans t)⟩
        rw [ej]
        exact ixN_nat (by rw [g3']; exact hj)
      · rintro σ H12 ⟨e12, ⟨x3, x9, rfl⟩, o12, ob12, rl12, r12⟩
        rw [fmx_next] at o12
        exact ⟨e12, ⟨_, _, _, _, rfl⟩, o12, ob12, rl12⟩
    · rintro σ H9 ⟨e9, ⟨x3, x7, x8, x9, rfl⟩, o10, ob, rl9⟩
      rw [fmx_end] at o10
      exact ⟨e9, ⟨_, _, _, _, _, _, _, rfl⟩, o10⟩
  · rintro σ H5 ⟨e5, ⟨x3, x4, x5, x6, x7, x8, x9, rfl⟩, o5⟩
    have hwe := walk_enum (K := K) (a := r) (xs := qs.map V.ref)
    rw [hlq] at hwe
    refine ⟨_, rfl, r, _, rfl, SqL.of o5.l, for_it hwe (fun i σ H' => Ex H H' ∧ (∃ x3 x4 x5 x6 x7 x8 x9, σ = [some (.ref p), some (.ref wa), some (.ref r), x3, x4, x5, x6, x7, x8, x9]) ∧ OL (WV K kd m) H H' r qs (rowsOf (gmx (cl M n) i) n)) ?_ (fun i σ H' _ h => SqL.of h.2.2.l) ?_ ?_⟩
    · exact ⟨e5, ⟨_, _, _, _, _, _, _, rfl⟩, by rw [gmx_0]; exact o5⟩
    · rintro i x σ H6 H6' hi ⟨e6, ⟨x3, x4, x5, x6, x7, x8, x9, rfl⟩, o6⟩ ⟨t, x, y, rfl, ht, rfl, hx, hy⟩
      cases hx
      obtain ⟨q, xs, g1, g2, g3⟩ := OL.row' o6 hi
      have hy : (qs.map V.ref)[i]? = some y := hy
      rw [List.getElem?_map, g1] at hy
      cases hy
      refine ⟨t, _, rfl, .inl (.inl upd_same), rfl, _, _, rfl, _, _, rfl, rfl, ?_⟩
      have f7 := ex_new ht (o := .tup [.int (i : Nat), .ref q])
      have e7 := e6.trans f7
      have o7 := o6.ex WV.t f7
      have g2 := f7 _ _ g2
      have g3 := g3.mono WV.t.m f7
      generalize L2.upd H6 t (.tup [.int (i : Nat), .ref q]) = H7 at e7 o7 g2 g3 ⊢
      have hw7 := hw.ex e7
      obtain ⟨_, dxw, how7⟩ := id hw7
      obtain ⟨v, h5, d, h6, h7⟩ := g3.2 i _ (map_at hi)
      rw [gmx_at] at h7
      refine ⟨_, rfl, wa, dxw, _, rfl, how7, rfl, _, rfl, _, rfl, q, xs, _, v, rfl, rfl, SqL.of g2, atI_nat h5, ?_⟩
      refine ⟨_, rfl, wa, dxw, _, rfl, how7, rfl, wa, kd, m, rfl, hw7, fun d1 v1 H8 e8 r8 q8 => ?_⟩
      refine ⟨wa, kd, m, d, d1, v, v1, _, _, rfl, hw7.ex e8, h6.mono e8.t, r8, h7, q8, fun d2 v2 H9 e9 r9 q9 => ?_⟩
      have o9 := o7.ex WV.t (e8.trans e9)
      obtain ⟨q', xs', g1', g2', g3', o10⟩ := OL.entry o9 hi hi (a := cl M n i i + 1) (v := v2) ⟨d2, r9, q9⟩
      rw [g1] at g1'
      cases g1'
      rw [gmx_set] at o10
      exact ⟨_, rfl, _, rfl, q, xs', _, i, rfl, rfl, g2', ixN_nat (by rw [g3']; exact hi), o9.frame (e7.trans (e8.trans e9)) (List.mem_of_getElem? g1) _, ⟨_, _, _, _, _, _, _, rfl⟩, o10⟩
    · rintro σ H6 ⟨e6, ⟨x3, x4, x5, x6, x7, x8, x9, rfl⟩, o6⟩
      rw [gmx_end] at o6
      exact ⟨_, rfl, k r _ e6 (OL.rw' o6)⟩
def spTable (K : PySem.W.Frag) : Sp := fun vs H Q _ => ∃ (B : Hp) (p : Addr) (kd : Kd) (m e n : Nat) (sp : List Nat) (M : Mx Un), vs = [.ref p] ∧ PA K B H p kd m e sp n M ∧ n ≤ 100 ∧ sp.length ≤ 1000 ∧ e ≤ 8000 ∧ ∀ rows v H', Ex H H' → TD kd m rows sp.length sp.length (rm (clo M n) sp) → RD K H' (.tup rows) v → Q v H'
theorem ok_table (T : Tx K mg) : Has P w K mg base 4 (a_Part_table K) p_Part_table (spTable K) := by
  refine has_of (f_Part_table T) (z_Part_table T) (b_Part_table T) (fun vs H Q E h => by obtain ⟨_, _, _, _, _, _, _, _, rfl, _⟩ := h; rfl) (fun cdv A outer s H vs Q E hr h => ?_)
  obtain ⟨B, p, kd, m, e, n, sp, M, rfl, hp, hn, hsl, he, k⟩ := h
  have h_Part_closed := ok_closed (P := P) (w := w) (base := base) T
  obtain ⟨dx, wa, sa, r0, ho, hw, hs, hR, _⟩ := hp.o
  refine ⟨_, (pss_cons (ps_set (i := 1) (z_Part_table T).nd rfl (Or.inr rfl) (pmeth0 h_Part_closed (c_Part T) (m_Part_closed T) (hr.mono (by omega)) passL (pv 0)))
  (pss_one (ps_ret (pe_callTy (tupleK K) (by rfl) (l_tuple T) (by decide +kernel) (pa_cons (pe_lc (own := [("one", 3)]) rfl (z_Part_table T).nd (listW K (fldK K (pv 0))) (blkOk_by (N := n_Part_table) (sc := defScope s_Part_table) (by decide +kernel)) (fun _ _ _ _ _ => by exact (pg_name (i := 3) (z_Part_table T).nd rfl (Or.inr rfl))) (fun _ _ _ _ _ => by exact pts_nil) (fun _ _ _ _ _ => by exact (pe_callTy (tupleK K) (by rfl) (l_tuple T) (by decide +kernel) (pa_cons (pe_lc (own := [("other", 2)]) rfl (z_Part_table T).nd (listW K (fldK K (pv 0))) (blkOk_by (by kernel_rfl)) (fun _ _ _ _ _ => by exact (pg_name (i := 2) (z_Part_table T).nd rfl (Or.inl rfl))) (fun _ _ _ _ _ => by exact pts_nil) (fun _ _ _ _ _ => by exact (pe_ix (ixL K) (pe_ix (ixL K) (pv 1) (pv 3) (fun _ _ => rfl)) (pv 2) (fun _ _ => rfl)))) pa_nil)))) pa_nil))))), ?_⟩
  refine ⟨_, rfl, p, dx, _, rfl, ho, rfl, B, p, kd, m, e, n, sp, M, rfl, hp, hn, he, fun r H1 e1 hR1 => ?_⟩
  have hs1 := e1 _ _ hs
  have ho1 := e1 _ _ ho
  have hwl := walk_list (K := K) (a := sa) (xs := nV sp)
  rw [nV_len] at hwl
  refine ⟨_, rfl, p, _, dx, _, _, rfl, ho1, c_Part T, n_Part_spots T, rfl, sa, rfl, ⟨_, SqL.of hs1⟩, fun l hl => lcT (α := Nat → Ps') (VP := TV K kd m sp.length) TV.t hl hwl (fun i => (List.range i).map (rm (clo M n) sp)) rfl (fun H' e' => SqL.of (e' _ _ hs1)) (fun i hi => by rw [List.length_map, List.length_range]; omega) (fun i x H3' H3 hi e3 y R N kR kN => ?_) (fun H4 xs e4 hl4 l4 => ?_)⟩
  · obtain ⟨rfl, hx⟩ := y
    obtain ⟨y, hy, rfl⟩ := nV_at hx
    have hyn := hp.sp y (List.mem_of_getElem? hy)
    have hs3 := e3 _ _ hs1
    have ho3 := e3 _ _ ho1
    refine ⟨rfl, _, rfl, p, _, dx, _, _, rfl, ho3, c_Part T, n_Part_spots T, rfl, sa, rfl, ⟨_, SqL.of hs3⟩, fun l2 hl2 => lcT (α := Ps') (VP := WV K kd m) WV.t hl2 hwl (fun j => (List.range j).map (rm (clo M n) sp i)) rfl (fun H' e' => SqL.of (e' _ _ hs3)) (fun j hj => by rw [List.length_map, List.length_range]; omega) (fun j x H5' H5 hj e5 y2 R2 N2 kR2 kN2 => ?_) (fun H6 zs e6 hl6 l6 => ?_)⟩
    · obtain ⟨rfl, hx2⟩ := y2
      obtain ⟨y2, hy2, rfl⟩ := nV_at hx2
      have hy2n := hp.sp y2 (List.mem_of_getElem? hy2)
      refine ⟨rfl, rij rfl rfl rfl rfl rfl (hR1.ex (e3.trans e5)) hyn hy2n (fun v d rv qv => ?_)⟩
      refine kR2 _ _ (rm (clo M n) sp i j) (Ex.refl _) ⟨d, rv, ?_⟩ (by rw [List.range_succ, List.map_append]; rfl)
      unfold rm
      rw [List.getD_eq_getElem?_getD, List.getD_eq_getElem?_getD, hy, hy2]
      exact qv
    · refine ⟨l2, _, rfl, .inl ⟨SqL.of hl6, fun u hu => ?_⟩⟩
      exact kR _ _ (rm (clo M n) sp i) (e6.trans (ex_new hu)) (TV.of l6 hu) (by rw [List.range_succ, List.map_append]; rfl)
  · obtain ⟨rows, r1, r2⟩ := TV.tab l4
    refine ⟨l, _, rfl, .inl ⟨SqL.of hl4, fun u hu => ?_⟩⟩
    exact k rows _ _ ((e1.trans e4).trans (ex_new hu)) r2 (rd_new hu r1)
end
end K09
/-! The part of a maze. -/
namespace K09
open PySem PySem.Spec
open PyProof.Rows L2 Sl Pm
section
variable {P : Program} {w : World} {K : PySem.W.Frag} {mg : Str → Option Value} {base : Heap} {H H0 H1 H2 : Hp} {E : XK} {Q : VK} {kd : Kd} {m n e : Nat} {M F : Mx Un} {r : Addr} {σ : L2.St}
theorem PA.congr {B : Hp} {p : Addr} {sp : List Nat} {M' : Mx Un} (h : PA K B H p kd m e sp n M) (x : ∀ i j, i < n → j < n → M i j = M' i j) (nc : ∀ i j, Nc (M' i j)) (bd : ∀ i j, Bd e (M' i j)) : PA K B H p kd m e sp n M' := by
  obtain ⟨dx, w, s, r, h1, h2, h3, h4, hb⟩ := h.o
  exact ⟨⟨dx, w, s, r, h1, h2, h3, h4.congr x, hb⟩, nc, bd, h.sp⟩
theorem mm_set {ps : List Pg} {p : Pg} : setM (mm ps) p.s p.g (mm ps p.s p.g + pas p.l p.w) = mm (ps ++ [p]) := by
  funext x y
  rw [mm_snoc]
  unfold setM
  by_cases h : x = p.s ∧ y = p.g
  · rw [if_pos h, if_pos ⟨h.1.symm, h.2.symm⟩, h.1, h.2]
  · rw [if_neg h, if_neg (fun z => h ⟨z.1.symm, z.2.symm⟩), adz]
def spPartBy (K : PySem.W.Frag) : Sp := fun vs H Q _ => ∃ (B : Hp) (wa : Addr) (kd : Kd) (m : Nat) (z : Mz) (v : V), vs = [v, .ref wa] ∧ RD K H (mzD z) v ∧ MzOk z ∧ WO K H wa kd m ∧ Ex B H ∧ B wa = none ∧
  ∀ p H', Ex H H' → PA K B H' p kd m 167 (pS z) (dd z.ds).length (pM z) → Q (.ref p) H'
theorem ok_partBy (T : Tx K mg) : Has P w K mg base 4 (a_part_by K) p_part_by (spPartBy K) := by
  refine has_of (f_part_by T) (z_part_by T) (b_part_by T) (fun vs H Q E h => by obtain ⟨_, _, _, _, _, _, rfl, _⟩ := h; rfl) (fun cdv A outer s H vs Q E hr h => ?_)
  obtain ⟨B, wa, kd, m, z, v, rfl, rv, ok, hw, hB, hBw, k⟩ := h
  have h_Worths_add := ok_wAdd (P := P) (w := w) (base := base) T
  have h_Worths_none := ok_wNone (P := P) (w := w) (base := base) T
  have h_Worths_passage := ok_wPass (P := P) (w := w) (base := base) T
  have h_Part_init := ok_pInit (P := P) (w := w) (base := base) T
  have h_Part_without := ok_without (P := P) (w := w) (base := base) T
  have h_ordered := ok_ordered (P := P) (w := w) (base := base) T
  obtain ⟨a, x1, x2, x3, rfl, ha, r1, r2, r3⟩ := slots3 rv
  obtain rfl := r1.ofInt
  obtain ⟨b, xs, rfl, hb, rb⟩ := r2.ofTup
  obtain ⟨c, ys, rfl, hc, rc⟩ := r3.ofTup
  have lx := rb.len
  rw [List.length_map] at lx
  rw [natD_int] at rc
  obtain rfl := rc.ints
  have hc : SqT K H c (nV z.ds) := hc
  have o1 := ok.n
  have o2 := ok.pl
  have o3 := ok.dl
  have mnc := mm_nc ok.p
  have mbd := mm_bd ok.p ok.pl
  have lnc := lab_nc (ds := z.ds) mnc
  have lbd : ∀ r, r ≤ z.n → ∀ i j, Bd 167 (lab z.ds (mm z.ps) r i j) := fun r hr i j => (lab_bd mnc mbd r i j).mono (by omega)
  refine ⟨_, (pss_cons (ps_asg (pv 0) (tupK K (n := 3) (pgs_cons (pg_name (i := 2) (z_part_by T).nd rfl (Or.inr rfl)) (pgs_cons (pg_name (i := 3) (z_part_by T).nd rfl (Or.inl rfl)) (pgs_cons (pg_name (i := 4) (z_part_by T).nd rfl (Or.inl rfl)) pgs_nil)))))
  (pss_cons (ps_setLc (i := 5) (own := [("room", 6)]) rfl (z_part_by T).nd rfl rfl (sw_true rfl rfl rfl (by decide +kernel)) (pi_range1 (by rfl) (l_range T) (pa_cons (pv 2) pa_nil)) (blkOk_by (N := n_part_by) (sc := defScope s_part_by) (by decide +kernel)) (fun _ _ _ _ _ => by exact (pg_name (i := 6) (z_part_by T).nd rfl (Or.inl rfl))) (fun _ _ _ _ _ => by exact pts_nil) (fun _ _ _ _ _ => by exact (pe_op op_rep (pe_lst (pa_cons (pmeth0 h_Worths_none (c_Worths T) (m_Worths_none T) (hr.mono (by omega)) passL (pv 1)) pa_nil)) (pv 2))))
  (pss_cons (ps_for (passes_of rfl) rfl (tupW K (pv 3)) (tupK K (n := 4) (pgs_cons (pg_name (i := 7) (z_part_by T).nd rfl (Or.inl rfl)) (pgs_cons (pg_name (i := 8) (z_part_by T).nd rfl (Or.inl rfl)) (pgs_cons (pg_name (i := 9) (z_part_by T).nd rfl (Or.inl rfl)) (pgs_cons (pg_name (i := 10) (z_part_by T).nd rfl (Or.inl rfl)) pgs_nil))))) (pss_cons (ps_set (i := 11) (z_part_by T).nd rfl (Or.inl rfl) (pe_ix (ixL K) (pv 5) (pv 7) (fun _ _ => rfl)))
  (pss_one (ps_asg (pmeth h_Worths_add (c_Worths T) (m_Worths_add T) (hr.mono (by omega)) passL (pv 1) (pa_cons (pe_ix (ixL K) (pv 11) (pv 8) (fun _ _ => rfl)) (pa_cons (pmeth h_Worths_passage (c_Worths T) (m_Worths_passage T) (hr.mono (by omega)) passL (pv 1) (pa_cons (pv 9) (pa_cons (pv 10) pa_nil))) pa_nil))) (pg_sub (pv 11) (pv 8) set_list)))))
  (pss_cons (ps_asg (pe_tup (pa_cons (pmake h_Part_init (k_Part T) (hr.mono (by omega)) (g_Part T) passL (pa_cons (pv 1) (pa_cons (pe_lst pa_nil) (pa_cons (pv 5) pa_nil)))) (pa_cons (pe_listRg rfl (by rfl) (l_list T) (prg_1 (by rfl) (l_range T) (pv 2))) pa_nil))) (tupK K (n := 2) (pgs_cons (pg_name (i := 12) (z_part_by T).nd rfl (Or.inl rfl)) (pgs_cons (pg_name (i := 13) (z_part_by T).nd rfl (Or.inr rfl)) pgs_nil))))
  (pss_cons (ps_for (passes_of rfl) rfl (pi_range1 (by rfl) (l_range T) (pa_cons (pv 2) pa_nil)) (pg_name (i := 6) (z_part_by T).nd rfl (Or.inl rfl)) (pss_one (ps_if (pt_cmpR (niK K) (pv 6) (pv 4) rfl) (pss_cons (ps_set (i := 12) (z_part_by T).nd rfl (Or.inl rfl) (pmake h_Part_init (k_Part T) (hr.mono (by omega)) (g_Part T) passL (pa_cons (pv 1) (pa_cons (pe_lst pa_nil) (pa_cons (pmeth h_Part_without (c_Part T) (m_Part_without T) (hr.mono (by omega)) passL (pv 12) (pa_cons (bmK K PySem.F.plainAttrs_list PySem.F.slot_list_index PySem.F.type_list_index (idxMK K) (pv 13) (pa_cons (pv 6) pa_nil)) pa_nil)) pa_nil)))))
  (pss_one (ps_expr (bmK K PySem.F.plainAttrs_list PySem.F.slot_list_remove PySem.F.type_list_remove mt_remove (pv 13) (pa_cons (pv 6) pa_nil))))) pss_nil)))
  (pss_one (ps_ret (pcall h_ordered (hr.mono (by omega)) (g_ordered T) (pa_cons (pv 1) (pa_cons (pe_lc (own := [("room", 6)]) rfl (z_part_by T).nd (tupW K (pv 4)) (blkOk_by (N := n_part_by) (sc := defScope s_part_by) (by decide +kernel)) (fun _ _ _ _ _ => by exact (pg_name (i := 6) (z_part_by T).nd rfl (Or.inl rfl))) (fun _ _ _ _ _ => by exact pts_nil) (fun _ _ _ _ _ => by exact (bmK K PySem.F.plainAttrs_list PySem.F.slot_list_index PySem.F.type_list_index (idxMK K) (pv 13) (pa_cons (pv 6) pa_nil)))) (pa_cons (fldK K (pv 12)) pa_nil))))))))))), ?_⟩
  refine ⟨_, rfl, a, _, rfl, ha, rfl, _, _, rfl, _, _, rfl, _, _, rfl, rfl, ?_⟩
  refine ⟨_, rfl, _, rfl, by omega, by omega, fun r hr => lcO (α := Ps') (VP := WV K kd m) WV.t hr (walk_range0 (n := z.n)) (fun i => (List.range i).map fun a => (List.range z.n).map (mm [] a)) rfl (fun _ _ => trivial) (fun i hi => by rw [List.length_map, List.length_range]; omega) (fun i x H3' H3 hi e3 y R N kR kN => ?_) (fun H4 qs e4 o4 => ?_)⟩
  · obtain ⟨rfl, rfl⟩ := y
    have hw3 := hw.ex e3
    obtain ⟨_, dxw, how⟩ := id hw3
    refine ⟨rfl, _, rfl, wa, dxw, _, rfl, how, rfl, wa, kd, m, rfl, hw3, fun d v H5 e5 r5 q5 => ⟨one_sz _, fun l hl => ⟨_, rfl, l, _, _, rfl, rfl, upd_same, by omega, by omega, ?_, fun q hq => ?_⟩⟩⟩
    · show 1 * _ ≤ _
      exact sz4 (by omega)
    · rw [show ((z.n : Int)).toNat = z.n by omega, rep_flat]
      have e6 := e5.trans (ex_new hl (o := .lst [v]))
      refine kR q _ _ ((List.range z.n).map (mm [] i)) (e6.trans (ex_new hq)) (back e6 hq) upd_same ?_ (by rw [List.range_succ, List.map_append]; rfl)
      have hm0 : (List.range z.n).map (mm [] i) = List.replicate z.n 0 := by
        rw [List.eq_replicate_iff]
        exact ⟨by simp, fun x hx => by obtain ⟨y, _, rfl⟩ := List.mem_map.mp hx; rfl⟩
      rw [hm0]
      exact LP.rep ⟨d, r5.mono ((ex_new hl (o := .lst [v])).trans (ex_new hq)).t, q5⟩ _
  have o4 : OL (WV K kd m) H H4 r qs (rowsOf (mm (z.ps.take 0)) z.n) := o4
  have hwt := walk_tup (K := K) (a := b) (xs := xs)
  rw [lx] at hwt
  refine ⟨_, rfl, b, rfl, ⟨_, e4.t.sq hb⟩, for_it hwt (fun i σ H' => Ex H H' ∧ (∃ x6 x7 x8 x9 x10 x11 x12 x13, σ = [some (.ref a), some (.ref wa), some (.int (z.n : Int)), some (.ref b), some (.ref c), some (.ref r), x6, x7, x8, x9, x10, x11, x12, x13]) ∧ OL (WV K kd m) H H' r qs (rowsOf (mm (z.ps.take i)) z.n)) ?_ (fun i σ H' _ h => h.1.t.sq hb) ?_ ?_⟩
  · exact ⟨e4, ⟨_, _, _, _, _, _, _, _, rfl⟩, o4⟩
  · rintro i x σ H5' H5 hi ⟨e5, ⟨x6, x7, x8, x9, x10, x11, x12, x13, rfl⟩, o5⟩ ⟨rfl, hx⟩
    obtain ⟨d, g1, g2⟩ := rb.getV hx
    rw [List.getElem?_map, List.getElem?_eq_getElem hi] at g1
    cases g1
    have okp := ok.p _ (List.getElem_mem hi)
    have htk : z.ps.take (i + 1) = z.ps.take i ++ [z.ps[i]] := by rw [List.take_add_one, List.getElem?_eq_getElem hi]; rfl
    generalize z.ps[i] = pg at g2 okp htk
    obtain ⟨t, y1, y2, y3, y4, rfl, ht, s1, s2, s3, s4⟩ := slots4 (g2.mono e5.t)
    obtain rfl := s1.ofInt
    obtain rfl := s2.ofInt
    obtain rfl := s3.ofInt
    obtain rfl := s4.ofInt
    refine ⟨t, _, rfl, ht, rfl, _, _, rfl, _, _, rfl, _, _, rfl, _, _, rfl, rfl, ?_⟩
    obtain ⟨q, zs, h1, h2, h3⟩ := OL.row' o5 okp.s
    refine ⟨_, rfl, _, rfl, r, _, _, .ref q, rfl, rfl, SqL.of o5.l, atI_nat (by rw [List.getElem?_map, h1]; rfl), ?_⟩
    have hw5 := hw.ex e5
    obtain ⟨_, dxw, how⟩ := id hw5
    obtain ⟨v1, h5, d1, h6, h7⟩ := h3.2 pg.g _ (map_at okp.g)
    refine ⟨_, rfl, wa, dxw, _, rfl, how, rfl, _, rfl, _, rfl, q, zs, _, v1, rfl, rfl, SqL.of h2, atI_nat h5, ?_⟩
    refine ⟨_, rfl, wa, dxw, _, rfl, how, rfl, _, rfl, _, rfl, wa, kd, m, pg.l, pg.w, rfl, hw5, okp.w.1, by have := okp.w.2; omega, fun d2 v2 H6 e6 r6 q6 => ?_⟩
    refine ⟨wa, kd, m, d1, d2, v1, v2, _, _, rfl, hw5.ex e6, h6.mono e6.t, r6, h7, q6, fun d3 v3 H7 e7 r7 q7 => ?_⟩
    have o7 := o5.ex WV.t (e6.trans e7)
    obtain ⟨q', zs', h1', h2', h3', o8⟩ := OL.entry o7 okp.s okp.g (a := mm (z.ps.take i) pg.s pg.g + pas pg.l pg.w) (v := v3) ⟨d3, r7, q7⟩
    rw [h1] at h1'
    cases h1'
    rw [mm_set, ← htk] at o8
    exact ⟨_, rfl, _, rfl, q, zs', _, pg.g, rfl, rfl, h2', ixN_nat (by rw [h3']; exact okp.g), o7.frame (e5.trans (e6.trans e7)) (List.mem_of_getElem? h1) _, ⟨_, _, _, _, _, _, _, _, rfl⟩, o8⟩
  · rintro σ H5 ⟨e5, ⟨x6, x7, x8, x9, x10, x11, x12, x13, rfl⟩, o5⟩
    rw [List.take_of_length_le (Nat.le_refl _)] at o5
    refine ⟨_, rfl, by show 0 ≤ sizeLine; decide, fun s0 hs0 => ⟨_, rfl, mkPart fun p dx H7 e7 hp hp7 => ?_⟩⟩
    have f6 := ex_new hs0 (o := .lst [])
    have e57 := f6.trans e7
    have hR7 := ((OL.rw' o5).back hB).ex e57
    have pa7 : PA K B H7 p kd m 167 [] (lef z.ds z.n 0).length (rm (lab z.ds (mm z.ps) 0) (lef z.ds z.n 0)) := by
      have hl0 : (lef z.ds z.n 0).length = z.n := by simp [lef]
      rw [hl0]
      refine ⟨⟨dx, wa, s0, r, hp7, hw.ex (e5.trans e57), e7 _ _ upd_same, hR7.congr fun i j hi hj => ?_, back (hB.trans (e5.trans f6)) hp, hBw, back (hB.trans e5) hs0⟩, fun i j => lnc 0 _ _, fun i j => lbd 0 (Nat.zero_le _) _ _, by simp⟩
      unfold rm lef lab
      rw [List.getD_eq_getElem?_getD, List.getD_eq_getElem?_getD, List.getElem?_range hi, List.getElem?_range hj]
      rfl
    refine ⟨_, rfl, _, rfl, ⟨by omega, by omega, by omega, by omega, by omega⟩, fun lf hlf => ⟨two_sz _ _, fun t ht => ⟨t, _, rfl, .inl (.inl upd_same), rfl, _, _, rfl, _, _, rfl, rfl, ?_⟩⟩⟩
    have e07 := e5.trans e57
    have hlfH := back e07 hlf
    have hrg : rgV 0 (z.n : Int) = nV (lef z.ds z.n 0) := by
      unfold rgV lef nV
      rw [List.map_map, show ((z.n : Int) - 0).toNat = z.n by omega]
      refine List.map_congr_left fun x _ => ?_
      show V.int (0 + (x : Int)) = V.int (x : Int)
      rw [Int.zero_add]
    rw [hrg] at ht ⊢
    have f8 := ex_new hlf (o := .lst (nV (lef z.ds z.n 0)))
    have f9 := ex_new ht (o := .tup [.ref p, .ref lf])
    have hlf9 := f9 _ _ (upd_same (H := H7) (a := lf) (o := .lst (nV (lef z.ds z.n 0))))
    refine ⟨_, rfl, _, rfl, by omega, by omega, for_it (walk_range0 (n := z.n)) (fun i σ H' => Ex H H' ∧ (∃ x6 x7 x8 x9 x10 x11 f, σ = [some (.ref a), some (.ref wa), some (.int (z.n : Int)), some (.ref b), some (.ref c), some (.ref r), x6, x7, x8, x9, x10, x11, some (.ref f), some (.ref lf)] ∧
      ∀ zs : List V, PA K B (L2.upd H' lf (.lst zs)) f kd m 167 [] (lef z.ds z.n i).length (rm (lab z.ds (mm z.ps) i) (lef z.ds z.n i))) ∧ H' lf = some (.lst (nV (lef z.ds z.n i)))) ?_ (fun _ _ _ _ _ => trivial) ?_ ?_⟩
    · exact ⟨e07.trans (f8.trans f9), ⟨_, _, _, _, _, _, p, rfl, fun zs => pa7.ex (ex_own (f8.trans f9) hlf)⟩, hlf9⟩
    · rintro i x σ H8' H8 hi ⟨e8, ⟨x6, x7, x8, x9, x10, x11, f, rfl, pa⟩, hl8⟩ ⟨rfl, rfl⟩
      refine ⟨_, rfl, _, rfl, c, _, rfl, .inr (e8.t.sq hc), rfl, flat_ints _, !decide (i ∈ z.ds), by show V.bl (!inV _ _) = _; rw [inV_nat], ifBH (fun hbb => ?_) (fun hbb => ?_)⟩
      · have hni : i ∉ z.ds := by simpa using hbb
        have hmem : i ∈ lef z.ds z.n i := lef_mem.mpr ⟨hi, .inl (Nat.le_refl _)⟩
        have hnd := lef_nodup z.ds z.n i
        have hll := lef_len z.ds z.n i
        have pa8 : PA K B H8 f kd m 167 [] (lef z.ds z.n i).length (rm (lab z.ds (mm z.ps) i) (lef z.ds z.n i)) := by
          have := pa (nV (lef z.ds z.n i))
          rwa [upd_id hl8] at this
        refine ⟨_, rfl, by show 0 ≤ sizeLine; decide, fun s1 hs1 => ?_⟩
        have f9 := ex_new hs1 (o := .lst [])
        have pa9 := pa8.ex f9
        have hl9 := f9 _ _ hl8
        obtain ⟨dxf, wf, sf, rf, hf9, _⟩ := pa9.o
        obtain ⟨g1, g2⟩ := idx_ok hmem
        refine ⟨_, rfl, f, dxf, _, rfl, hf9, rfl, _, rfl, tl_list hl9, _, rfl, lf, _, _, _, _, rfl, rfl, SqL.of hl9, rfl, flat_ints _, g1, by rw [eqV_int]; exact decide_eq_true rfl, g2, ?_⟩
        refine ⟨B, f, kd, m, 167, _, (lef z.ds z.n i).idxOf i, [], _, rfl, pa9, List.idxOf_lt_length_of_mem hmem, by omega, by omega, fun r' H10 e10 hR10 => ?_⟩
        refine mkPart fun p' dx' H11 e11 hp' hp11 => ?_
        have e811 := f9.trans (e10.trans e11)
        have hl11 := e811 _ _ hl8
        have hlt : H8 lf ≠ none := by rw [hl8]; exact fun z => by cases z
        have hRn : RW K H8 H11 r' kd m (lef z.ds z.n (i + 1)).length (rm (lab z.ds (mm z.ps) (i + 1)) (lef z.ds z.n (i + 1))) := by
          have h1 := (hR10.back f9).ex e11
          have e1 : lef z.ds z.n (i + 1) = wo (lef z.ds z.n i) i := by rw [lef, if_neg hni]
          have e2 : lab z.ds (mm z.ps) (i + 1) = el (lab z.ds (mm z.ps) i) i := by rw [lab, if_neg hni]
          rw [e1, e2, wo_len hnd hmem]
          exact h1.congr fun x y _ _ => wm_rm hnd hmem x y
        refine ⟨_, rfl, tl_list hl11, _, rfl, lf, (lef z.ds z.n i).map fun x => ((x : Nat) : Int), _, (lef z.ds z.n i).idxOf i, rfl, rfl, hl11, ?_, fun j hj => ?_, ?_⟩
        · rw [List.getElem?_map, List.getElem?_eq_getElem (List.idxOf_lt_length_of_mem hmem), List.getElem_idxOf]
          rfl
        · intro zz
          have h1 := g2 j (.int (i : Int)) hj (by show (nV _)[j]? = _; unfold nV; rw [List.getElem?_map, zz]; rfl)
          rw [eqV_int, decide_eq_true rfl] at h1
          cases h1
        · refine ⟨ex_own (e8.trans e811) hlfH, ⟨_, _, _, _, _, _, p', rfl, fun zs => ?_⟩, ?_⟩
          · rw [Sl.upd_upd]
            have t := tex_put (o' := .lst zs) hl11 (by intro xs z; cases z) (by intro a b z; cases z)
            have np : p' ≠ lf := fun z => by have := back (f9.trans e10) hp'; rw [z, hl8] at this; cases this
            have ns : s1 ≠ lf := fun z => by rw [z, hl8] at hs1; cases hs1
            obtain ⟨hm, dxw, how⟩ := hw.ex (e8.trans e811)
            have nw : wa ≠ lf := ne_of how hl11 (by intro z; cases z)
            have hs11 := (e10.trans e11) _ _ (upd_same (H := H8) (a := s1) (o := .lst []))
            refine ⟨⟨dx', wa, s1, r', by rw [upd_ne np]; exact hp11, ⟨hm, dxw, by rw [upd_ne nw]; exact how⟩, by rw [upd_ne ns]; exact hs11, (hRn.put hlt t).back (hB.trans e8), back (hB.trans (e8.trans (f9.trans e10))) hp', hBw, back (hB.trans e8) hs1⟩, fun x y => lnc _ _ _, fun x y => lbd _ (by omega) _ _, by simp⟩
          · rw [upd_same, lef, if_neg hni, erase_map, erase_wo hnd hmem]
      · have hin : i ∈ z.ds := by simpa using hbb
        have e1 : lef z.ds z.n (i + 1) = lef z.ds z.n i := by rw [lef, if_pos hin]
        have e2 : lab z.ds (mm z.ps) (i + 1) = lab z.ds (mm z.ps) i := by rw [lab, if_pos hin]
        rw [e1, e2]
        exact ⟨e8, ⟨_, _, _, _, _, _, f, rfl, pa⟩, hl8⟩
    · rintro σ H8 ⟨e8, ⟨x6, x7, x8, x9, x10, x11, f, rfl, pa⟩, hl8⟩
      have pa8 : PA K B H8 f kd m 167 [] (lef z.ds z.n z.n).length (rm (lab z.ds (mm z.ps) z.n) (lef z.ds z.n z.n)) := by
        have := pa (nV (lef z.ds z.n z.n))
        rwa [upd_id hl8] at this
      have hwd := walk_tup (K := K) (a := c) (xs := nV z.ds)
      rw [nV_len] at hwd
      have hmem : ∀ d ∈ z.ds, d ∈ lef z.ds z.n z.n := fun d hd => lef_mem.mpr ⟨ok.d d hd, .inr hd⟩
      refine ⟨_, rfl, _, rfl, c, rfl, ⟨_, e8.t.sq hc⟩, fun l hl => lcD (K := K) hl hwd (fun i => ((z.ds.take i).map fun d => (lef z.ds z.n z.n).idxOf d).map natD) rfl (fun H' e' => (e8.trans e').t.sq hc) (fun i hi => by rw [List.length_map, List.length_map, List.length_take]; omega) (fun i x H9' H9 hi e9 y R N kR kN => ?_) (fun H10 zs e10 hl10 rx => ?_)⟩
      · obtain ⟨rfl, hx⟩ := y
        obtain ⟨y, hy, rfl⟩ := nV_at hx
        obtain ⟨g1, g2⟩ := idx_ok (hmem y (List.mem_of_getElem? hy))
        have hl9 := e9 _ _ hl8
        refine ⟨rfl, _, rfl, tl_list hl9, _, rfl, lf, _, _, _, _, rfl, rfl, SqL.of hl9, rfl, flat_ints _, g1, by rw [eqV_int]; exact decide_eq_true rfl, g2, ?_⟩
        refine kR _ _ (natD ((lef z.ds z.n z.n).idxOf y)) (Ex.refl _) (.int _) ?_
        rw [List.take_add_one, hy]
        simp
      · rw [List.take_of_length_le (Nat.le_refl _), natD_int] at rx
        obtain rfl := rx.ints
        have pa10 := pa8.ex e10
        obtain ⟨dxf, wf, sf, rf, hf, _, _, hRf, _⟩ := pa10.o
        obtain ⟨s1, s2, s3⟩ := part_spots ok
        have hll := lef_len z.ds z.n z.n
        refine ⟨_, rfl, f, _, dxf, _, _, rfl, hf, c_Part T, n_Part_rows T, rfl, ?_⟩
        refine ⟨B, B, wa, l, rf, kd, m, 167, _, (z.ds.map fun d => (lef z.ds z.n z.n).idxOf d), _, rfl, hw.ex (e8.trans e10), hl10, hRf, pa10.nc, pa10.bd, fun x hx => ?_, by omega, by rw [List.length_map]; omega, hB.trans (e8.trans e10), hBw, fun p H11 e11 pa11 => ?_⟩
        · obtain ⟨d, hd, rfl⟩ := List.mem_map.mp hx
          exact List.idxOf_lt_length_of_mem (hmem d hd)
        · rw [s1, s2] at pa11
          exact k p _ ((e8.trans e10).trans e11) (pa11.congr s3 (fun i j => lnc _ _ _) fun i j => lbd _ (Nat.le_refl _) _ _)
/-- making an algebra -/
theorem mkWorths {Q' : Addr → Hp → Prop} (hm : m ≤ 12) (k : ∀ p H', Ex H H' → H p = none → WO K H' p kd m → Q' p H') {E : XK} : ∀ p dx : Addr, H p = none → H dx = none → dx ≠ p → spWInit K [.ref p, .str (kdS kd), .int (m : Int)] (L2.upd (L2.upd H dx (.own p)) p (.ins (cW K) dx [])) (fun v H' => v = .non ∧ Q' p H') E := fun p dx hp hd hne =>
  ⟨p, dx, kd, m, rfl, upd_same, fun H' h1 h2 => ⟨rfl, k p H' (fun b o q => h1 b o (ne_of_none q hp) (by rw [upd_ne (ne_of_none q hp), upd_ne (ne_of_none q hd)]; exact q)) hp ⟨hm, dx, h2⟩⟩⟩
def spPart (K : PySem.W.Frag) : Sp := fun vs H Q _ => ∃ (kd : Kd) (m : Nat) (z : Mz) (v : V), vs = [v, .str (kdS kd), .int (m : Int)] ∧ RD K H (mzD z) v ∧ MzOk z ∧ m ≤ 12 ∧
  ∀ p H', Ex H H' → PA K H H' p kd m 167 (pS z) (dd z.ds).length (pM z) → Q (.ref p) H'
theorem ok_part (T : Tx K mg) : Has P w K mg base 5 (a_part K) p_part (spPart K) := by
  refine has_of (f_part T) (z_part T) (b_part T) (fun vs H Q E h => by obtain ⟨_, _, _, _, rfl, _⟩ := h; rfl) (fun cdv A outer s H vs Q E hr h => ?_)
  obtain ⟨kd, m, z, v, rfl, rv, ok, hm, k⟩ := h
  have h_part_by := ok_partBy (P := P) (w := w) (base := base) T
  have h_Worths_init := ok_wInit (P := P) (w := w) (base := base) T
  refine ⟨_, (pss_one (ps_ret (pcall h_part_by (hr.mono (by omega)) (g_part_by T) (pa_cons (pv 0) (pa_cons (pmake h_Worths_init (k_Worths T) (hr.mono (by omega)) (g_Worths T) passL (pa_cons (pv 1) (pa_cons (pv 2) pa_nil))) pa_nil))))), ?_⟩
  refine ⟨_, rfl, _, rfl, _, rfl, mkWorths hm fun wa H1 e1 hwa hw => ?_⟩
  exact ⟨H, wa, kd, m, z, v, rfl, rv.mono e1.t, ok, hw, e1, hwa, fun p H2 e2 pa => k p H2 (e1.trans e2) pa⟩
theorem pS_len (z : Mz) : (pS z).length = z.ds.length := by simp [pS]
theorem dd_le {z : Mz} (ok : MzOk z) : (dd z.ds).length ≤ 12 := Nat.le_trans (dd_len _) ok.dl
/-- what a table is -/
def TabOk (z : Mz) (kd : Kd) (m : Nat) (t : D) : Prop := ∃ rows, t = .tup rows ∧ TD kd m rows z.ds.length z.ds.length (fun i j => clos z (dr z i) (dr z j))
theorem TabOk.fun_ {z : Mz} {t t' : D} (h : TabOk z kd m t) (h' : TabOk z kd m t') : t = t' := by
  obtain ⟨rows, rfl, h⟩ := h
  obtain ⟨rows', rfl, h'⟩ := h'
  rw [TD_fun h h' fun _ _ _ _ => rfl]
/-- the table of a part of a maze -/
theorem tab_call {z : Mz} {p : Addr} {B : Hp} (ok : MzOk z) (pa : PA K B H p kd m 167 (pS z) (dd z.ds).length (pM z)) (k : ∀ t v H', Ex H H' → TabOk z kd m t → RD K H' t v → Q v H') : spTable K [.ref p] H Q E := by
  refine ⟨B, p, kd, m, 167, (dd z.ds).length, pS z, pM z, rfl, pa, by have := dd_le ok; omega, by rw [pS_len]; have := ok.dl; omega, by omega, fun rows v H' e td r => k _ v H' e ⟨rows, rfl, ?_⟩ r⟩
  rw [pS_len] at td
  refine ⟨td.1, fun i hi => ?_⟩
  obtain ⟨ds, h1, h2, h3⟩ := td.2 i hi
  refine ⟨ds, h1, h2, fun j hj => ?_⟩
  obtain ⟨d, h4, h5⟩ := h3 j hj
  rw [table_clos ok hi hj] at h5
  exact ⟨d, h4, h5⟩
def spTableOf (K : PySem.W.Frag) : Sp := fun vs H Q _ => ∃ (kd : Kd) (m : Nat) (z : Mz) (v : V), vs = [v, .str (kdS kd), .int (m : Int)] ∧ RD K H (mzD z) v ∧ MzOk z ∧ m ≤ 12 ∧ ∀ t v H', Ex H H' → TabOk z kd m t → RD K H' t v → Q v H'
theorem ok_tableOf (T : Tx K mg) : Has P w K mg base 6 (a_table_of K) p_table_of (spTableOf K) := by
  refine has_of (f_table_of T) (z_table_of T) (b_table_of T) (fun vs H Q E h => by obtain ⟨_, _, _, _, rfl, _⟩ := h; rfl) (fun cdv A outer s H vs Q E hr h => ?_)
  obtain ⟨kd, m, z, v, rfl, rv, ok, hm, k⟩ := h
  have h_need_maze := ok_needMaze (P := P) (w := w) (base := base) T
  have h_need_kind := ok_needKind (P := P) (w := w) (base := base) T
  have h_part := ok_part (P := P) (w := w) (base := base) T
  have h_Part_table := ok_table (P := P) (w := w) (base := base) T
  refine ⟨_, (pss_cons (ps_expr (pcall h_need_maze (hr.mono (by omega)) (g_need_maze T) (pa_cons (pv 0) (pa_cons pe_str pa_nil))))
  (pss_cons (ps_expr (pcall h_need_kind (hr.mono (by omega)) (g_need_kind T) (pa_cons (pv 1) (pa_cons (pv 2) pa_nil))))
  (pss_one (ps_ret (pmeth0 h_Part_table (c_Part T) (m_Part_table T) (hr.mono (by omega)) passL (pcall h_part (hr.mono (by omega)) (g_part T) (pa_cons (pv 0) (pa_cons (pv 1) (pa_cons (pv 2) pa_nil))))))))), ?_⟩
  refine ⟨_, rfl, z, v, _, rfl, rv, ok, fun H1 e1 => ?_⟩
  refine ⟨_, rfl, _, rfl, kd, m, rfl, hm, ?_⟩
  refine ⟨_, rfl, _, rfl, _, rfl, kd, m, z, v, rfl, rv.mono e1.t, ok, hm, fun p H2 e2 pa => ?_⟩
  obtain ⟨dx, wa, sa, r, hp, _⟩ := pa.o
  exact ⟨p, dx, _, rfl, hp, rfl, tab_call (E := E) ok pa fun t v H3 e3 ht r => k t v H3 ((e1.trans e2).trans e3) ht r⟩
/-- what a told part is -/
def PtOk (z : Mz) (kd : Kd) (m : Nat) (t : D) : Prop := ∃ rows, t = .tup [.tup ((pS z).map natD), .tup rows] ∧ TD kd m rows (dd z.ds).length (dd z.ds).length (pM z)
def spPartOf (K : PySem.W.Frag) : Sp := fun vs H Q _ => ∃ (kd : Kd) (m : Nat) (z : Mz) (v : V), vs = [v, .str (kdS kd), .int (m : Int)] ∧ RD K H (mzD z) v ∧ MzOk z ∧ m ≤ 12 ∧ ∀ t v H', Ex H H' → PtOk z kd m t → RD K H' t v → Q v H'
theorem ok_partOf (T : Tx K mg) : Has P w K mg base 6 (a_part_of K) p_part_of (spPartOf K) := by
  refine has_of (f_part_of T) (z_part_of T) (b_part_of T) (fun vs H Q E h => by obtain ⟨_, _, _, _, rfl, _⟩ := h; rfl) (fun cdv A outer s H vs Q E hr h => ?_)
  obtain ⟨kd, m, z, v, rfl, rv, ok, hm, k⟩ := h
  have h_need_maze := ok_needMaze (P := P) (w := w) (base := base) T
  have h_need_kind := ok_needKind (P := P) (w := w) (base := base) T
  have h_part := ok_part (P := P) (w := w) (base := base) T
  have h_Part_told := ok_told (P := P) (w := w) (base := base) T
  refine ⟨_, (pss_cons (ps_expr (pcall h_need_maze (hr.mono (by omega)) (g_need_maze T) (pa_cons (pv 0) (pa_cons pe_str pa_nil))))
  (pss_cons (ps_expr (pcall h_need_kind (hr.mono (by omega)) (g_need_kind T) (pa_cons (pv 1) (pa_cons (pv 2) pa_nil))))
  (pss_one (ps_ret (pmeth0 h_Part_told (c_Part T) (m_Part_told T) (hr.mono (by omega)) passL (pcall h_part (hr.mono (by omega)) (g_part T) (pa_cons (pv 0) (pa_cons (pv 1) (pa_cons (pv 2) pa_nil))))))))), ?_⟩
  refine ⟨_, rfl, z, v, _, rfl, rv, ok, fun H1 e1 => ?_⟩
  refine ⟨_, rfl, _, rfl, kd, m, rfl, hm, ?_⟩
  refine ⟨_, rfl, _, rfl, _, rfl, kd, m, z, v, rfl, rv.mono e1.t, ok, hm, fun p H2 e2 pa => ?_⟩
  obtain ⟨dx, wa, sa, r, hp, _⟩ := pa.o
  exact ⟨p, dx, _, rfl, hp, rfl, H1, p, kd, m, 167, _, _, _, rfl, pa, by have := dd_le ok; omega, fun rows v H3 e3 td r => k _ v H3 ((e1.trans e2).trans e3) ⟨rows, rfl, td⟩ r⟩
end
end K09
/-! Data without bools, compared. -/
namespace Sl
open PySem PySem.Spec
open PyProof.Rows L2
mutual
def dP : D → PyData
  | .non => .none
  | .bl b => .bool b
  | .int i => .int i
  | .str x => .str x
  | .tup ds => .tuple (dPs ds)
def dPs : List D → List PyData
  | [] => []
  | d :: ds => dP d :: dPs ds
end
/-- no bools, no deeper than that -/
def Nb : Nat → D → Prop
  | _, .non => True
  | _, .int _ => True
  | _, .str x => PyData.strOk x = true
  | _, .bl _ => False
  | 0, .tup _ => False
  | k + 1, .tup ds => ∀ d ∈ ds, Nb k d
mutual
theorem RD.dp {K : PySem.W.Frag} {H : Hp} : ∀ {d : D} {v : V}, RD K H d v → Dp K H v (dP d)
  | .non, _, h => by rw [h.ofNon]; exact .non
  | .bl b, _, h => by rw [h.ofBl]; exact .bl b
  | .int i, _, h => by rw [h.ofInt]; exact .int i
  | .str x, _, h => by rw [h.ofStr]; exact .str x
  | .tup ds, _, h => by
    obtain ⟨a, xs, rfl, ha, r⟩ := h.ofTup
    exact .tup ha (RDs.dp r)
theorem RDs.dp {K : PySem.W.Frag} {H : Hp} : ∀ {ds : List D} {vs : List V}, RDs K H ds vs → DpAll K H vs (dPs ds)
  | [], _, h => by rw [h.ofNil]; exact .nil
  | d :: ds, _, h => by
    obtain ⟨x, w, rfl, h1, h2⟩ := h.ofCons
    exact .cons (RD.dp h1) (RDs.dp h2)
end
theorem Nb.shape : ∀ {k : Nat} {d : D}, Nb k d → PyData.canLay0 (dP d) = true ∧ PyData.depth (dP d) ≤ k
  | k, .non, _ => ⟨by simp [dP, PyData.canLay0], by simp [dP, PyData.depth]⟩
  | k, .int _, _ => ⟨by simp [dP, PyData.canLay0], by simp [dP, PyData.depth]⟩
  | k, .str x, h => by
    have h : PyData.strOk x = true := by cases k <;> exact h
    exact ⟨by simp [dP, PyData.canLay0, h], by simp [dP, PyData.depth]⟩
  | k, .bl _, h => by cases k <;> exact h.elim
  | 0, .tup _, h => h.elim
  | k + 1, .tup ds, h => by
    have h : ∀ d ∈ ds, Nb k d := h
    have key : ∀ l : List D, (∀ d ∈ l, Nb k d) → PyData.canLayAll0 (dPs l) = true ∧ PyData.depthAll (dPs l) ≤ k := fun l => by
      induction l with
      | nil => exact fun _ => ⟨by simp [dPs, PyData.canLayAll0], by simp [dPs, PyData.depthAll]⟩
      | cons a l ih =>
        intro q
        obtain ⟨a1, a2⟩ := Nb.shape (q a List.mem_cons_self)
        obtain ⟨b1, b2⟩ := ih fun d hd => q d (List.mem_cons_of_mem _ hd)
        exact ⟨by simp [dPs, PyData.canLayAll0, a1, b1], by simp [dPs, PyData.depthAll]; omega⟩
    obtain ⟨b1, b2⟩ := key ds h
    exact ⟨by simp [dP, PyData.canLay0, b1], by simp [dP, PyData.depth]; omega⟩
theorem Nb.eqv : ∀ {k : Nat} {d e : D}, Nb k d → Nb k e → (PyData.eqv (dP d) (dP e) = true ↔ d = e)
  | k, .bl _, _, h, _ => by cases k <;> exact h.elim
  | k, _, .bl _, _, h => by cases k <;> exact h.elim
  | k, .non, .non, _, _ => by simp [dP, PyData.eqv]
  | k, .non, .int _, _, _ => by simp [dP, PyData.eqv]
  | k, .non, .str _, _, _ => by simp [dP, PyData.eqv]
  | k, .non, .tup _, _, _ => by simp [dP, PyData.eqv]
  | k, .int _, .non, _, _ => by simp [dP, PyData.eqv]
  | k, .int _, .int _, _, _ => by simp [dP, PyData.eqv]
  | k, .int _, .str _, _, _ => by simp [dP, PyData.eqv]
  | k, .int _, .tup _, _, _ => by simp [dP, PyData.eqv]
  | k, .str _, .non, _, _ => by simp [dP, PyData.eqv]
  | k, .str _, .int _, _, _ => by simp [dP, PyData.eqv]
  | k, .str _, .str _, _, _ => by simp [dP, PyData.eqv]
  | k, .str _, .tup _, _, _ => by simp [dP, PyData.eqv]
  | k, .tup _, .non, _, _ => by simp [dP, PyData.eqv]
  | k, .tup _, .int _, _, _ => by simp [dP, PyData.eqv]
  | k, .tup _, .str _, _, _ => by simp [dP, PyData.eqv]
  | 0, .tup _, .tup _, h, _ => h.elim
  | k + 1, .tup ds, .tup es, h, h' => by
    have h : ∀ d ∈ ds, Nb k d := h
    have h' : ∀ d ∈ es, Nb k d := h'
    have key : ∀ l m : List D, (∀ d ∈ l, Nb k d) → (∀ d ∈ m, Nb k d) → (PyData.eqvAll (dPs l) (dPs m) = true ↔ l = m) := fun l => by
      induction l with
      | nil =>
        intro m _ _
        cases m <;> simp [dPs, PyData.eqvAll]
      | cons a l ih =>
        intro m q q'
        cases m with
        | nil => simp [dPs, PyData.eqvAll]
        | cons b m =>
          have e1 := Nb.eqv (q a List.mem_cons_self) (q' b List.mem_cons_self)
          have e2 := ih m (fun d hd => q d (List.mem_cons_of_mem _ hd)) fun d hd => q' d (List.mem_cons_of_mem _ hd)
          simp [dPs, PyData.eqvAll, e1, e2]
    show PyData.eqvAll (dPs ds) (dPs es) = true ↔ _
    rw [key ds es h h']
    exact ⟨fun z => by rw [z], fun z => by injection z⟩
theorem eqvF {k : Nat} {d e : D} (h : Nb k d) (h' : Nb k e) (n : d ≠ e) : PyData.eqv (dP d) (dP e) = false := by
  cases z : PyData.eqv (dP d) (dP e) with
  | false => rfl
  | true => exact absurd ((h.eqv h').mp z) n
section
variable {K : PySem.W.Frag} {H : Hp} {Q : VK} {d e : D} {v u : V}
theorem eqD_use (k : Nat) (hd : Nb k d) (he : Nb k e) (hk : k ≤ 64) (r : RD K H d v) (r' : RD K H e u) (h1 : d = e → Q (.bl true) H) (h2 : d ≠ e → Q (.bl false) H) : rEqD K v u H Q := by
  obtain ⟨a1, a2⟩ := hd.shape
  obtain ⟨b1, b2⟩ := he.shape
  refine ⟨_, _, RD.dp r, RD.dp r', by simp [SeqAt.shaped, a1]; omega, by simp [SeqAt.shaped, b1]; omega, ?_⟩
  by_cases c : d = e
  · rw [(hd.eqv he).mpr c]
    exact h1 c
  · rw [eqvF hd he c]
    exact h2 c
theorem neD_use (k : Nat) (hd : Nb k d) (he : Nb k e) (hk : k ≤ 64) (r : RD K H d v) (r' : RD K H e u) (h1 : d = e → Q (.bl false) H) (h2 : d ≠ e → Q (.bl true) H) : rNeD K v u H Q := by
  obtain ⟨a1, a2⟩ := hd.shape
  obtain ⟨b1, b2⟩ := he.shape
  refine ⟨_, _, RD.dp r, RD.dp r', by simp [SeqAt.shaped, a1]; omega, by simp [SeqAt.shaped, b1]; omega, ?_⟩
  by_cases c : d = e
  · rw [(hd.eqv he).mpr c]
    exact h1 c
  · rw [eqvF hd he c]
    exact h2 c
end
theorem Nb.mono : ∀ {k j : Nat} {d : D}, Nb k d → k ≤ j → Nb j d
  | k, j, .non, _, _ => by cases j <;> trivial
  | k, j, .int _, _, _ => by cases j <;> trivial
  | k, j, .str x, h, _ => by cases j <;> cases k <;> exact h
  | k, j, .bl _, h, _ => by cases k <;> exact h.elim
  | 0, j, .tup _, h, _ => h.elim
  | k + 1, 0, .tup _, h, z => absurd z (by omega)
  | k + 1, j + 1, .tup ds, h, z => fun d hd => Nb.mono (h d hd) (by omega)
theorem Nb.int {k : Nat} (i : Int) : Nb k (.int i) := by cases k <;> trivial
end Sl
namespace Pm
open Sl
theorem rp_nb {kd : Kd} {m : Nat} {d : D} {a : Ps'} (h : rp kd m d a) : Nb 1 d := by
  cases kd with
  | can => rcases h with ⟨rfl, _⟩ | ⟨rfl, _⟩ <;> trivial
  | least => rcases h with ⟨_, rfl, _⟩ | ⟨rfl, _⟩ <;> trivial
  | wide => obtain ⟨_, rfl, _⟩ := h; trivial
  | count =>
    have h : d = _ := h
    rw [h]
    intro e he
    obtain ⟨_, _, rfl⟩ := List.mem_map.mp he
    trivial
theorem TD_nb {k : Kd} {m n n' : Nat} {rows : List D} {F : Mx Un} (h : TD k m rows n n' F) : Nb 3 (.tup rows) := by
  intro d hd
  obtain ⟨i, hi, e⟩ := List.getElem_of_mem hd
  rw [h.1] at hi
  obtain ⟨ds, h1, h2, h3⟩ := h.2 i hi
  rw [List.getElem?_eq_getElem (by rw [h.1]; exact hi), e] at h1
  cases h1
  intro d2 hd2
  obtain ⟨j, hj, e2⟩ := List.getElem_of_mem hd2
  rw [h2] at hj
  obtain ⟨d3, h4, h5⟩ := h3 j hj
  rw [List.getElem?_eq_getElem (by rw [h2]; exact hj), e2] at h4
  cases h4
  exact rp_nb h5
end Pm
/-! Told tuples cut and joined. -/
namespace Sl
open PySem PySem.Spec
open PyProof.Rows L2
section
variable {K : PySem.W.Frag} {H : Hp} {Q : VK} {ds es : List D} {v u : V}
theorem RDs.app : ∀ {ds es : List D} {xs ys : List V}, RDs K H ds xs → RDs K H es ys → RDs K H (ds ++ es) (xs ++ ys)
  | [], _, _, _, h, k => by rw [h.ofNil]; exact k
  | d :: ds, _, _, _, h, k => by
    obtain ⟨x, w, rfl, h1, h2⟩ := h.ofCons
    exact .cons h1 (RDs.app h2 k)
/-- t[:i] -/
theorem slTo {jj : Int} (r : RD K H (.tup ds) v) (i : Nat) (hj : jj = (i : Int)) (k : ∀ u H', Ex H H' → RD K H' (.tup (ds.take i)) u → Q u H') : rSlA K v none (some jj) H Q := by
  subst hj
  obtain ⟨a, xs, rfl, ha, rr⟩ := r.ofTup
  have hl := rr.len
  refine ⟨a, xs, rfl, ha, fun z => ?_, fun _ p hp => ?_⟩
  · rw [HT.sIx_nat] at z
    refine k _ _ (Ex.refl _) ?_
    rw [List.take_of_length_le (by omega)]
    exact .tup ha rr
  · refine k _ _ (ex_new hp) ?_
    have e : cutV xs none (some (i : Int)) = xs.take i := by
      unfold cutV
      rw [HT.sIx_none, HT.sIx_nat, List.drop_zero, Nat.sub_zero]
      by_cases h : i ≤ xs.length
      · rw [Nat.min_eq_left h]
      · rw [Nat.min_eq_right (by omega), List.take_of_length_le (Nat.le_refl _), List.take_of_length_le (by omega)]
    rw [e]
    exact rd_new hp (rr.take i)
/-- t[i:] -/
theorem slFrom {jj : Int} (r : RD K H (.tup ds) v) (i : Nat) (hj : jj = (i : Int)) (k : ∀ u H', Ex H H' → RD K H' (.tup (ds.drop i)) u → Q u H') : rSlA K v (some jj) none H Q := by
  subst hj
  obtain ⟨a, xs, rfl, ha, rr⟩ := r.ofTup
  have hl := rr.len
  refine ⟨a, xs, rfl, ha, fun z => ?_, fun _ p hp => ?_⟩
  · rw [HT.sIx_nat] at z
    refine k _ _ (Ex.refl _) ?_
    by_cases h : i = 0
    · subst h
      exact .tup ha rr
    · have : xs = [] := List.length_eq_zero_iff.mp (by omega)
      subst this
      obtain rfl : ds = [] := List.length_eq_zero_iff.mp hl.symm
      rw [List.drop_nil]
      exact .tup ha .nil
  · refine k _ _ (ex_new hp) ?_
    have e : cutV xs (some (i : Int)) none = xs.drop i := by
      unfold cutV
      rw [HT.sIx_none, HT.sIx_nat]
      by_cases h : i ≤ xs.length
      · rw [Nat.min_eq_left h, List.take_of_length_le (by rw [List.length_drop]; omega)]
      · rw [Nat.min_eq_right (by omega), List.drop_of_length_le (Nat.le_refl _), List.drop_of_length_le (by omega), List.take_nil]
    rw [e]
    exact rd_new hp (rr.drop i)
/-- t + u -/
theorem catRD (r : RD K H (.tup ds) v) (r' : RD K H (.tup es) u) (hz : ds.length + es.length ≤ 1000) (k : ∀ w H', Ex H H' → RD K H' (.tup (ds ++ es)) w → Q w H') : rCatA K v u H Q := by
  obtain ⟨a, xs, rfl, ha, rr⟩ := r.ofTup
  obtain ⟨b, ys, rfl, hb, rs⟩ := r'.ofTup
  have hl := rr.len
  have hm := rs.len
  refine ⟨a, b, xs, ys, rfl, rfl, ha, hb, by rw [hl, hm]; exact sz4 hz, fun z => ?_, fun _ z => ?_, fun _ _ p hp => k _ _ (ex_new hp) (rd_new hp (rr.app rs))⟩
  · subst z
    obtain rfl : ds = [] := List.length_eq_zero_iff.mp hl.symm
    exact k _ _ (Ex.refl _) (.tup hb rs)
  · subst z
    obtain rfl : es = [] := List.length_eq_zero_iff.mp hm.symm
    rw [List.append_nil] at k
    exact k _ _ (Ex.refl _) (.tup ha rr)
/-- (a, b, c) -/
theorem tup3 {d1 d2 d3 : D} {a b c : V} (r1 : RD K H d1 a) (r2 : RD K H d2 b) (r3 : RD K H d3 c) {p : Addr} (hp : H p = none) : RD K (upd H p (.tup [a, b, c])) (.tup [d1, d2, d3]) (.ref p) := rd_new hp (.cons r1 (.cons r2 (.cons r3 .nil)))
end
end Sl
/-! Mazes that are alike. -/
namespace K09
open PySem PySem.Spec
open PyProof.Rows L2 Sl Pm
section
variable {P : Program} {w : World} {K : PySem.W.Frag} {mg : Str → Option Value} {base : Heap} {H H0 H1 H2 : Hp} {E : XK} {Q : VK} {kd : Kd} {m n e : Nat} {M F : Mx Un} {r : Addr} {σ : L2.St}
theorem TabOk.nb {z : Mz} {t : D} (h : TabOk z kd m t) : Nb 3 t := by
  obtain ⟨rows, rfl, h⟩ := h
  exact TD_nb h
/-- alike mazes -/
def Alk (z y : Mz) (kd : Kd) (m : Nat) : Prop := ∃ t, TabOk z kd m t ∧ TabOk y kd m t
theorem Alk.ne {z y : Mz} {t t' : D} (h : TabOk z kd m t) (h' : TabOk y kd m t') (n : t ≠ t') : ¬ Alk z y kd m := fun ⟨s, h1, h2⟩ => n ((h.fun_ h1).trans (h2.fun_ h'))
theorem Alk.trans {x y z : Mz} (h : Alk x y kd m) (k : Alk y z kd m) : Alk x z kd m := by
  obtain ⟨t, h1, h2⟩ := h
  obtain ⟨s, k1, k2⟩ := k
  exact ⟨t, h1, by rw [h2.fun_ k1]; exact k2⟩
theorem Alk.symm {x y : Mz} (h : Alk x y kd m) : Alk y x kd m := ⟨h.choose, h.choose_spec.2, h.choose_spec.1⟩
def spNeedTwo (K : PySem.W.Frag) : Sp := fun vs H Q _ => ∃ (z y : Mz) (v u : V) (kd : Kd) (m : Nat), vs = [v, u, .str (kdS kd), .int (m : Int)] ∧ RD K H (mzD z) v ∧ RD K H (mzD y) u ∧ MzOk z ∧ MzOk y ∧ y.ds.length = z.ds.length ∧ m ≤ 12 ∧ ∀ H', Ex H H' → Q .non H'
theorem ok_needTwo (T : Tx K mg) : Has P w K mg base 5 (a_need_two K) p_need_two (spNeedTwo K) := by
  refine has_of (f_need_two T) (z_need_two T) (b_need_two T) (fun vs H Q E h => by obtain ⟨_, _, _, _, _, _, rfl, _⟩ := h; rfl) (fun cdv A outer s H vs Q E hr h => ?_)
  obtain ⟨z, y, v, u, kd, m, rfl, rv, ru, okz, oky, hl, hm, k⟩ := h
  have h_need_maze := ok_needMaze (P := P) (w := w) (base := base) T
  have h_need := ok_need (P := P) (w := w) (base := base) T
  have h_need_kind := ok_needKind (P := P) (w := w) (base := base) T
  refine ⟨_, (pss_cons (ps_expr (pcall h_need_maze (hr.mono (by omega)) (g_need_maze T) (pa_cons (pv 0) (pa_cons pe_str pa_nil))))
  (pss_cons (ps_expr (pcall h_need_maze (hr.mono (by omega)) (g_need_maze T) (pa_cons (pv 1) (pa_cons pe_str pa_nil))))
  (pss_cons (ps_expr (pcall h_need (hr.mono (by omega)) (g_need T) (pa_cons (pe_cmpR op_eq (pe_callB (lenK K) (by rfl) (l_len T) (by decide +kernel) (pa_cons (pe_ix (ixT K) (pv 1) pe_int (fun _ _ => rfl)) pa_nil)) (pe_callB (lenK K) (by rfl) (l_len T) (by decide +kernel) (pa_cons (pe_ix (ixT K) (pv 0) pe_int (fun _ _ => rfl)) pa_nil)) (nomark _)) (pa_cons pe_str pa_nil))))
  (pss_one (ps_expr (pcall h_need_kind (hr.mono (by omega)) (g_need_kind T) (pa_cons (pv 2) (pa_cons (pv 3) pa_nil)))))))), ?_⟩
  refine ⟨_, rfl, z, v, _, rfl, rv, okz, fun H1 e1 => ?_⟩
  refine ⟨_, rfl, y, u, _, rfl, ru.mono e1.t, oky, fun H2 e2 => ?_⟩
  have e12 := e1.trans e2
  obtain ⟨a, x1, x2, x3, rfl, ha, r1, r2, r3⟩ := slots3 (ru.mono e12.t)
  obtain ⟨b, y1, y2, y3, rfl, hb, q1, q2, q3⟩ := slots3 (rv.mono e12.t)
  obtain ⟨c, xs, rfl, hc, rc⟩ := r3.ofTup
  obtain ⟨d, ys, rfl, hd, rd⟩ := q3.ofTup
  refine ⟨_, rfl, a, _, _, _, rfl, rfl, ha, rfl, c, _, rfl, .inr hc, ?_⟩
  refine ⟨_, rfl, b, _, _, _, rfl, rfl, hb, rfl, d, _, rfl, .inr hd, rfl, ?_⟩
  have : xs.length = ys.length := by rw [rc.len, rd.len, List.length_map, List.length_map, hl]
  exact ⟨true, "other", by rw [this, vdec]; rfl, fun _ => ⟨_, rfl, _, rfl, kd, m, rfl, hm, k _ e12⟩, fun z => (by cases z)⟩
def spAlike (K : PySem.W.Frag) : Sp := fun vs H Q _ => ∃ (z y : Mz) (v u : V) (kd : Kd) (m : Nat), vs = [v, u, .str (kdS kd), .int (m : Int)] ∧ RD K H (mzD z) v ∧ RD K H (mzD y) u ∧ MzOk z ∧ MzOk y ∧ y.ds.length = z.ds.length ∧ m ≤ 12 ∧
  (∀ H', Ex H H' → Alk z y kd m → Q (.bl true) H') ∧ (∀ H', Ex H H' → ¬ Alk z y kd m → Q (.bl false) H')
theorem ok_alike (T : Tx K mg) : Has P w K mg base 6 (a_are_alike K) p_are_alike (spAlike K) := by
  refine has_of (f_are_alike T) (z_are_alike T) (b_are_alike T) (fun vs H Q E h => by obtain ⟨_, _, _, _, _, _, rfl, _⟩ := h; rfl) (fun cdv A outer s H vs Q E hr h => ?_)
  obtain ⟨z, y, v, u, kd, m, rfl, rv, ru, okz, oky, hl, hm, k1, k2⟩ := h
  have h_need_two := ok_needTwo (P := P) (w := w) (base := base) T
  have h_part := ok_part (P := P) (w := w) (base := base) T
  have h_Part_table := ok_table (P := P) (w := w) (base := base) T
  refine ⟨_, (pss_cons (ps_expr (pcall h_need_two (hr.mono (by omega)) (g_need_two T) (pa_cons (pv 0) (pa_cons (pv 1) (pa_cons (pv 2) (pa_cons (pv 3) pa_nil))))))
  (pss_one (ps_ret (pe_cmpR (eqDK K hr.units) (pmeth0 h_Part_table (c_Part T) (m_Part_table T) (hr.mono (by omega)) passL (pcall h_part (hr.mono (by omega)) (g_part T) (pa_cons (pv 0) (pa_cons (pv 2) (pa_cons (pv 3) pa_nil))))) (pmeth0 h_Part_table (c_Part T) (m_Part_table T) (hr.mono (by omega)) passL (pcall h_part (hr.mono (by omega)) (g_part T) (pa_cons (pv 1) (pa_cons (pv 2) (pa_cons (pv 3) pa_nil))))) (nomark _))))), ?_⟩
  refine ⟨_, rfl, _, rfl, _, rfl, _, rfl, z, y, v, u, kd, m, rfl, rv, ru, okz, oky, hl, hm, fun H1 e1 => ?_⟩
  refine ⟨_, rfl, _, rfl, _, rfl, kd, m, z, v, rfl, rv.mono e1.t, okz, hm, fun p H2 e2 pa => ?_⟩
  obtain ⟨dx, _, _, _, hp, _⟩ := pa.o
  refine ⟨p, dx, _, rfl, hp, rfl, tab_call (E := E0) okz pa fun t tv H3 e3 ht rt => ?_⟩
  have e13 := (e1.trans e2).trans e3
  refine ⟨_, rfl, _, rfl, _, rfl, kd, m, y, u, rfl, ru.mono e13.t, oky, hm, fun p' H4 e4 pa' => ?_⟩
  obtain ⟨dx', _, _, _, hp', _⟩ := pa'.o
  refine ⟨p', dx', _, rfl, hp', rfl, tab_call (E := E0) oky pa' fun t' tv' H5 e5 ht' rt' => ?_⟩
  have e15 := (e13.trans e4).trans e5
  exact eqD_use 3 ht.nb ht'.nb (by decide) (rt.mono (e4.trans e5).t) rt' (fun e => k1 _ e15 ⟨t, ht, e ▸ ht'⟩) fun n => k2 _ e15 (Alk.ne ht ht' n)
/-- a maze without a passage -/
def _root_.Pm.Mz.del (z : Mz) (i : Nat) : Mz := ⟨z.n, z.ps.eraseIdx i, z.ds⟩
theorem _root_.Pm.MzOk.del {z : Mz} (h : MzOk z) (i : Nat) : MzOk (z.del i) := ⟨h.n, by have := h.pl; have := List.length_eraseIdx_le z.ps i; show (z.ps.eraseIdx i).length ≤ 120; omega, h.dl, fun p hp => h.p p (List.mem_of_mem_eraseIdx hp), h.d⟩
def spWith (K : PySem.W.Frag) : Sp := fun vs H Q _ => ∃ (z : Mz) (v : V) (i : Nat), vs = [v, .int (i : Int)] ∧ RD K H (mzD z) v ∧ MzOk z ∧ ∀ u H', Ex H H' → RD K H' (mzD (z.del i)) u → Q u H'
theorem ok_mwithout (T : Tx K mg) : Has P w K mg base 1 (a_without K) p_without (spWith K) := by
  refine has_of (f_without T) (z_without T) (b_without T) (fun vs H Q E h => by obtain ⟨_, _, _, rfl, _⟩ := h; rfl) (fun cdv A outer s H vs Q E hr h => ?_)
  obtain ⟨z, v, i, rfl, rv, ok, k⟩ := h
  refine ⟨_, (pss_one (ps_ret (pe_tup (pa_cons (pe_ix (ixT K) (pv 0) pe_int (fun _ _ => rfl)) (pa_cons (pe_op (catT K) (pe_slice (slT K) (pe_ix (ixT K) (pv 0) pe_int (fun _ _ => rfl)) po_none (po_some (pv 1))) (pe_slice (slT K) (pe_ix (ixT K) (pv 0) pe_int (fun _ _ => rfl)) (po_some (pe_op oAddI (pv 1) pe_int)) po_none)) (pa_cons (pe_ix (ixT K) (pv 0) pe_int (fun _ _ => rfl)) pa_nil)))))), ?_⟩
  obtain ⟨a, x1, x2, x3, rfl, ha, r1, r2, r3⟩ := slots3 rv
  have hpl := ok.pl
  refine ⟨_, rfl, a, _, _, _, rfl, rfl, ha, rfl, ?_⟩
  refine ⟨_, rfl, a, _, _, _, rfl, rfl, ha, rfl, ?_⟩
  refine ⟨_, rfl, _, rfl, ?_⟩
  refine slTo r2 i rfl fun u1 H1 e1 q1 => ?_
  refine ⟨_, rfl, a, _, _, _, rfl, rfl, e1.t.sq ha, rfl, ?_⟩
  refine ⟨_, rfl, _, _, rfl, rfl, _, rfl, ?_⟩
  dsimp only [tNoPart]
  refine slFrom (jj := (i : Int) + 1) (r2.mono e1.t) (i + 1) (by omega) fun u2 H2 e2 q2 => ?_
  refine catRD (q1.mono e2.t) q2 (by rw [List.length_take, List.length_drop, List.length_map]; omega) fun u3 H3 e3 q3 => ?_
  have e13 := (e1.trans e2).trans e3
  refine ⟨_, rfl, a, _, _, _, rfl, rfl, e13.t.sq ha, rfl, three_sz _ _ _, fun p hp => ?_⟩
  refine k _ _ (e13.trans (ex_new hp)) ?_
  have q := tup3 (r1.mono e13.t) q3 (r3.mono e13.t) hp
  have e : (z.ps.map pgD).take i ++ (z.ps.map pgD).drop (i + 1) = (z.ps.eraseIdx i).map pgD := by
    rw [List.eraseIdx_eq_take_drop_succ, List.map_append, List.map_take, List.map_drop]
  rw [e] at q
  exact q
def spThin (K : PySem.W.Frag) : Sp := fun vs H Q _ => ∃ (z : Mz) (v : V) (kd : Kd) (m : Nat), vs = [v, .str (kdS kd), .int (m : Int)] ∧ RD K H (mzD z) v ∧ MzOk z ∧ m ≤ 12 ∧
  ∀ y u H', Ex H H' → RD K H' (mzD y) u → MzOk y → y.n = z.n → y.ds = z.ds → y.ps.length ≤ z.ps.length → Alk z y kd m → Q u H'
theorem ok_thin (T : Tx K mg) : Has P w K mg base 6 (a_thin K) p_thin (spThin K) := by
  refine has_of (f_thin T) (z_thin T) (b_thin T) (fun vs H Q E h => by obtain ⟨_, _, _, _, rfl, _⟩ := h; rfl) (fun cdv A outer s H vs Q E hr h => ?_)
  obtain ⟨z, v, kd, m, rfl, rv, ok, hm, k⟩ := h
  have h_need_maze := ok_needMaze (P := P) (w := w) (base := base) T
  have h_need_kind := ok_needKind (P := P) (w := w) (base := base) T
  have h_part := ok_part (P := P) (w := w) (base := base) T
  have h_Part_table := ok_table (P := P) (w := w) (base := base) T
  have h_without := ok_mwithout (P := P) (w := w) (base := base) T
  refine ⟨_, (pss_cons (ps_expr (pcall h_need_maze (hr.mono (by omega)) (g_need_maze T) (pa_cons (pv 0) (pa_cons pe_str pa_nil))))
  (pss_cons (ps_expr (pcall h_need_kind (hr.mono (by omega)) (g_need_kind T) (pa_cons (pv 1) (pa_cons (pv 2) pa_nil))))
  (pss_cons (ps_par (i := 3) (j := 4) rfl (z_thin T).nd rfl rfl (by decide) rfl rfl (pa_cons (pmeth0 h_Part_table (c_Part T) (m_Part_table T) (hr.mono (by omega)) passL (pcall h_part (hr.mono (by omega)) (g_part T) (pa_cons (pv 0) (pa_cons (pv 1) (pa_cons (pv 2) pa_nil))))) (pa_cons pe_int pa_nil)) rfl)
  (pss_cons (ps_while (passes_of rfl) (pt_cmpR oLtI (pv 4) (pe_callB (lenK K) (by rfl) (l_len T) (by decide +kernel) (pa_cons (pe_ix (ixT K) (pv 0) pe_int (fun _ _ => rfl)) pa_nil)) (nomark _)) (pss_cons (ps_set (i := 5) (z_thin T).nd rfl (Or.inl rfl) (pcall h_without (hr.mono (by omega)) (g_without T) (pa_cons (pv 0) (pa_cons (pv 4) pa_nil))))
  (pss_one (ps_if (pt_cmpR (eqDK K hr.units) (pmeth0 h_Part_table (c_Part T) (m_Part_table T) (hr.mono (by omega)) passL (pcall h_part (hr.mono (by omega)) (g_part T) (pa_cons (pv 5) (pa_cons (pv 1) (pa_cons (pv 2) pa_nil))))) (pv 3) (nomark _)) (pss_one (ps_set (i := 0) (z_thin T).nd rfl (Or.inl rfl) (pv 5))) (pss_one (ps_aug (i := 4) (z_thin T).nd rfl (Or.inl rfl) pe_int ip_add))))))
  (pss_one (ps_ret (pv 0))))))), ?_⟩
  refine ⟨_, rfl, z, v, _, rfl, rv, ok, fun H1 e1 => ?_⟩
  refine ⟨_, rfl, _, rfl, kd, m, rfl, hm, ?_⟩
  refine ⟨_, rfl, _, rfl, _, rfl, kd, m, z, v, rfl, rv.mono e1.t, ok, hm, fun p H2 e2 pa => ?_⟩
  obtain ⟨dx, _, _, _, hp, _⟩ := pa.o
  refine ⟨p, dx, _, rfl, hp, rfl, tab_call (E := E0) ok pa fun t tv H3 e3 ht rt => ?_⟩
  have e13 := (e1.trans e2).trans e3
  refine ⟨_, _, rfl, ?_⟩
  refine ⟨fun k σ H' => ∃ (y : Mz) (u : V) (i : Nat) (x5 : Option V), Ex H H' ∧ σ = [some u, some (.str (kdS kd)), some (.int (m : Int)), some tv, some (.int (i : Int)), x5] ∧ RD K H' (mzD y) u ∧ MzOk y ∧ y.n = z.n ∧ y.ds = z.ds ∧ y.ps.length ≤ z.ps.length ∧ TabOk y kd m t ∧ RD K H' t tv ∧ k = y.ps.length - i, ⟨_, z, v, 0, _, e13, rfl, rv.mono e13.t, ok, rfl, rfl, Nat.le_refl _, ht, rt, rfl⟩, ?_⟩
  rintro mm σ H4 ⟨y, u, i, x5, e4, rfl, ru, oky, hn, hds, hpl, hty, rt4, rfl⟩
  obtain ⟨a, x1, x2, x3, rfl, ha, r1, r2, r3⟩ := slots3 ru
  obtain ⟨b, xs, rfl, hb, rb⟩ := r2.ofTup
  have hlen : xs.length = y.ps.length := by rw [rb.len, List.length_map]
  refine ⟨_, rfl, _, rfl, a, _, _, _, rfl, rfl, ha, rfl, b, _, rfl, .inr hb, _, _, rfl, rfl, _, rfl, ifBH (fun c => ?_) (fun c => ?_)⟩
  · have c : i < y.ps.length := by have := of_decide_eq_true c; omega
    refine ⟨_, fun _ _ h => h, ?_⟩
    · refine ⟨_, rfl, _, rfl, y, _, i, rfl, ru, oky, fun u' H5 e5 ru' => ?_⟩
      refine ⟨_, rfl, _, rfl, _, rfl, kd, m, y.del i, u', rfl, ru', oky.del i, hm, fun p' H6 e6 pa' => ?_⟩
      obtain ⟨dx', _, _, _, hp', _⟩ := pa'.o
      refine ⟨p', dx', _, rfl, hp', rfl, tab_call (E := E0) (oky.del i) pa' fun t' tv' H7 e7 ht' rt' => ?_⟩
      have e57 := (e5.trans e6).trans e7
      have e47 := e4.trans e57
      have dl : (y.del i).ps.length = y.ps.length - 1 := List.length_eraseIdx_of_lt c
      refine ⟨_, rfl, eqD_use 3 ht'.nb hty.nb (by decide) rt' (rt4.mono e57.t) (fun eq => ?_) (fun ne => ?_)⟩
      · exact ⟨_, rfl, iteT ⟨_, rfl, _, by omega, y.del i, u', i, _, e47, rfl, ru'.mono (e6.trans e7).t, oky.del i, hn, hds, by omega, eq ▸ ht', rt4.mono e57.t, rfl⟩⟩
      · exact ⟨_, rfl, iteF ⟨_, rfl, _, _, rfl, rfl, _, by omega, y, _, i + 1, _, e47, rfl, ru.mono e57.t, oky, hn, hds, hpl, hty, rt4.mono e57.t, rfl⟩⟩
  · exact ⟨_, rfl, k y _ _ e4 ru oky hn hds hpl ⟨t, ht, hty⟩⟩
/-- the kinds -/
def kds : List Kd := [.can, .least, .wide, .count]
theorem kds_mem (k : Kd) : k ∈ kds := by cases k <;> simp [kds]
theorem kds_at {i : Nat} {x : V} (h : ((["can", "least", "wide", "count"] : List Str).map V.str)[i]? = some x) : ∃ kd, kds[i]? = some kd ∧ x = .str (kdS kd) := by
  match i, h with
  | 0, h => cases h; exact ⟨.can, rfl, rfl⟩
  | 1, h => cases h; exact ⟨.least, rfl, rfl⟩
  | 2, h => cases h; exact ⟨.wide, rfl, rfl⟩
  | 3, h => cases h; exact ⟨.count, rfl, rfl⟩
  | i + 4, h => simp at h
noncomputable def unl (z y : Mz) (m : Nat) : List Kd := kds.filter fun kd => @decide (¬ Alk z y kd m) (Classical.propDecidable _)
theorem unl_mem {z y : Mz} : kd ∈ unl z y m ↔ ¬ Alk z y kd m := by
  unfold unl
  rw [List.mem_filter]
  simp [kds_mem]
def spUnlike (K : PySem.W.Frag) : Sp := fun vs H Q _ => ∃ (z y : Mz) (v u : V) (m : Nat), vs = [v, u, .int (m : Int)] ∧ RD K H (mzD z) v ∧ RD K H (mzD y) u ∧ MzOk z ∧ MzOk y ∧ y.ds.length = z.ds.length ∧ m ≤ 12 ∧
  ∀ t H', Ex H H' → RD K H' (.tup ((unl z y m).map fun kd => .str (kdS kd))) t → Q t H'
theorem ok_unlike (T : Tx K mg) : Has P w K mg base 7 (a_unlike K) p_unlike (spUnlike K) := by
  refine has_of (f_unlike T) (z_unlike T) (b_unlike T) (fun vs H Q E h => by obtain ⟨_, _, _, _, _, rfl, _⟩ := h; rfl) (fun cdv A outer s H vs Q E hr h => ?_)
  obtain ⟨z, y, v, u, m, rfl, rv, ru, okz, oky, hl, hm, k⟩ := h
  have h_need_two := ok_needTwo (P := P) (w := w) (base := base) T
  have h_are_alike := ok_alike (P := P) (w := w) (base := base) T
  refine ⟨_, (pss_cons (ps_expr (pcall h_need_two (hr.mono (by omega)) (g_need_two T) (pa_cons (pv 0) (pa_cons (pv 1) (pa_cons (pe_ix (ixT K) (pe_glob (v := .ref (He.ga K "KINDS")) rfl (g_KINDS T) rfl) pe_int (fun _ _ => rfl)) (pa_cons (pv 2) pa_nil))))))
  (pss_one (ps_ret (pe_callTy (tupleK K) (by rfl) (l_tuple T) (by decide +kernel) (pa_cons (pe_lc (own := [("kind", 3)]) rfl (z_unlike T).nd (tupW K (pe_glob (v := .ref (He.ga K "KINDS")) rfl (g_KINDS T) rfl)) (blkOk_by (N := n_unlike) (sc := defScope s_unlike) (by decide +kernel)) (fun _ _ _ _ _ => by exact (pg_name (i := 3) (z_unlike T).nd rfl (Or.inl rfl))) (fun _ _ _ _ _ => by exact (pts_one (pt_not (pt_val (pcall h_are_alike (hr.mono (by omega)) (g_are_alike T) (pa_cons (pv 0) (pa_cons (pv 1) (pa_cons (pv 3) (pa_cons (pv 2) pa_nil))))))))) (fun _ _ _ _ _ => by exact (pv 3))) pa_nil))))), ?_⟩
  refine ⟨_, rfl, _, rfl, He.ga K "KINDS", _, _, _, rfl, rfl, t_KINDS T H, rfl, _, rfl, z, y, v, u, .can, m, rfl, rv, ru, okz, oky, hl, hm, fun H1 e1 => ?_⟩
  refine ⟨He.ga K "KINDS", rfl, ⟨_, t_KINDS T H1⟩, fun l hl1 => lcD (K := K) hl1 (walk_tup (K := K)) (fun i => ((kds.take i).filter fun kd => @decide (¬ Alk z y kd m) (Classical.propDecidable _)).map fun kd => .str (kdS kd)) rfl (fun H' e' => t_KINDS T H') (fun i hi => ?_) (fun i x H2' H2 hi e2 yy R N kR kN => ?_) (fun H3 zs e3 hz r => ?_)⟩
  · rw [List.length_map]
    exact Nat.le_trans (List.length_filter_le _ _) (by rw [List.length_take]; exact Nat.le_trans (Nat.min_le_right _ _) (by decide))
  · obtain ⟨rfl, hx⟩ := yy
    obtain ⟨kd, hk, rfl⟩ := kds_at hx
    have e12 := e1.trans e2
    have ht : kds.take (i + 1) = kds.take i ++ [kd] := by rw [List.take_add_one, hk]; rfl
    refine ⟨rfl, _, rfl, _, rfl, _, rfl, _, rfl, z, y, v, u, kd, m, rfl, rv.mono e12.t, ru.mono e12.t, okz, oky, hl, hm, fun H4 e4 al => ?_, fun H4 e4 al => ?_⟩
    · refine ⟨_, rfl, iteF (kN _ e4 ?_)⟩
      rw [ht, List.filter_append, List.map_append]
      simp [al]
    · refine ⟨_, rfl, iteT ⟨_, rfl, kR _ _ _ e4 (.str _) ?_⟩⟩
      rw [ht, List.filter_append, List.map_append]
      simp [al]
  · refine ⟨l, _, rfl, .inl ⟨SqL.of hz, fun t ht => ?_⟩⟩
    refine k _ _ ((e1.trans e3).trans (ex_new ht)) (rd_new ht r)
end
end K09
/-! Walks through mazes. -/
namespace Pm
open Cs
/-- a walk along passages that are so wide: its length, and how many passages it has -/
inductive Wk (ps : List Pg) (t : Nat) : Nat → Nat → Nat → Nat → Prop
  | nil (i : Nat) : Wk ps t i i 0 0
  | cons {p : Pg} {j L c : Nat} : p ∈ ps → t ≤ p.w → Wk ps t p.g j L c → Wk ps t p.s j (p.l + L) (c + 1)
section
variable {ps : List Pg} {t i j k L L' c c' n : Nat}
theorem Wk.app (h : Wk ps t i j L c) (h' : Wk ps t j k L' c') : Wk ps t i k (L + L') (c + c') := by
  induction h with
  | nil i => rw [Nat.zero_add, Nat.zero_add]; exact h'
  | cons hp hw _ ih =>
    have := Wk.cons hp hw (ih h')
    rw [Nat.add_assoc, Nat.add_right_comm]
    exact this
theorem Wk.one {p : Pg} (hp : p ∈ ps) (hw : t ≤ p.w) : Wk ps t p.s p.g p.l 1 := .cons hp hw (.nil _)
theorem Wk.snoc {p : Pg} (h : Wk ps t i p.s L c) (hp : p ∈ ps) (hw : t ≤ p.w) : Wk ps t i p.g (L + p.l) (c + 1) := h.app (.one hp hw)
theorem Wk.mono {t' : Nat} (h : Wk ps t i j L c) (z : t' ≤ t) : Wk ps t' i j L c := by
  induction h with
  | nil i => exact .nil i
  | cons hp hw _ ih => exact .cons hp (Nat.le_trans z hw) ih
theorem Wk.imp {qs : List Pg} {u : Nat} (h : Wk ps t i j L c) (z : ∀ p ∈ ps, t ≤ p.w → p ∈ qs ∧ u ≤ p.w) : Wk qs u i j L c := by
  induction h with
  | nil i => exact .nil i
  | cons hp hw _ ih => exact .cons (z _ hp hw).1 (z _ hp hw).2 ih
/-- turned round -/
def rv (p : Pg) : Pg := ⟨p.g, p.s, p.l, p.w⟩
theorem Wk.rev (h : Wk ps t i j L c) : Wk (ps.map rv) t j i L c := by
  induction h with
  | nil i => exact .nil i
  | @cons p j L c hp hw _ ih =>
    have := Wk.snoc (p := rv p) ih (List.mem_map_of_mem hp) hw
    rw [Nat.add_comm p.l]
    exact this
theorem rv_rv (ps : List Pg) : (ps.map rv).map rv = ps := by rw [List.map_map]; exact List.map_id' ps
theorem wk_rev : Wk (ps.map rv) t j i L c ↔ Wk ps t i j L c := ⟨fun h => by have := h.rev; rwa [rv_rv] at this, Wk.rev⟩
/-! ### .. without a room twice -/
inductive Sv (ps : List Pg) (t : Nat) : Nat → Nat → Nat → Nat → List Nat → Prop
  | nil (i : Nat) : Sv ps t i i 0 0 [i]
  | cons {p : Pg} {j L c : Nat} {vs : List Nat} : p ∈ ps → t ≤ p.w → Sv ps t p.g j L c vs → Sv ps t p.s j (p.l + L) (c + 1) (p.s :: vs)
theorem Sv.wk {vs : List Nat} (h : Sv ps t i j L c vs) : Wk ps t i j L c := by
  induction h with
  | nil i => exact .nil i
  | cons hp hw _ ih => exact .cons hp hw ih
theorem Sv.len {vs : List Nat} (h : Sv ps t i j L c vs) : vs.length = c + 1 := by
  induction h with
  | nil i => rfl
  | cons hp hw _ ih => rw [List.length_cons, ih]
theorem Sv.lt {vs : List Nat} (hn : ∀ p ∈ ps, p.s < n) (hj : j < n) (h : Sv ps t i j L c vs) : ∀ v ∈ vs, v < n := by
  induction h with
  | nil i => intro v hv; rw [List.mem_singleton.mp hv]; exact hj
  | cons hp hw _ ih =>
    intro v hv
    rcases List.mem_cons.mp hv with rfl | hv
    · exact hn _ hp
    · exact ih hj v hv
theorem Sv.suf {vs : List Nat} {x : Nat} (h : Sv ps t i j L c vs) (nd : vs.Nodup) (hx : x ∈ vs) : ∃ L' c' vs', L' ≤ L ∧ c' ≤ c ∧ vs'.Nodup ∧ Sv ps t x j L' c' vs' := by
  induction h with
  | nil i =>
    rw [List.mem_singleton.mp hx]
    exact ⟨0, 0, _, Nat.le_refl _, Nat.le_refl _, nd, .nil i⟩
  | cons hp hw h ih =>
    rcases List.mem_cons.mp hx with rfl | hx
    · exact ⟨_, _, _, Nat.le_refl _, Nat.le_refl _, nd, .cons hp hw h⟩
    · obtain ⟨L', c', vs', h1, h2, h3, h4⟩ := ih (List.nodup_cons.mp nd).2 hx
      exact ⟨L', c', vs', by omega, by omega, h3, h4⟩
theorem Wk.sv (h : Wk ps t i j L c) : ∃ L' c' vs, L' ≤ L ∧ c' ≤ c ∧ vs.Nodup ∧ Sv ps t i j L' c' vs := by
  induction h with
  | nil i => exact ⟨0, 0, _, Nat.le_refl _, Nat.le_refl _, by simp, .nil i⟩
  | @cons p j L c hp hw _ ih =>
    obtain ⟨L', c', vs, h1, h2, h3, h4⟩ := ih
    by_cases q : p.s ∈ vs
    · obtain ⟨L2, c2, vs2, g1, g2, g3, g4⟩ := h4.suf h3 q
      exact ⟨L2, c2, vs2, by omega, by omega, g3, g4⟩
    · exact ⟨_, _, _, by omega, by omega, List.nodup_cons.mpr ⟨q, h3⟩, .cons hp hw h4⟩
/-- a walk with fewer passages than rooms, that is no longer -/
theorem Wk.short (hn : ∀ p ∈ ps, p.s < n) (hj : j < n) (h : Wk ps t i j L c) : ∃ L' c', L' ≤ L ∧ c' ≤ c ∧ c' < n ∧ Wk ps t i j L' c' := by
  obtain ⟨L', c', vs, h1, h2, h3, h4⟩ := h.sv
  have := nodup_le n vs h3 (h4.lt hn hj)
  rw [h4.len] at this
  exact ⟨L', c', h1, h2, this, h4.wk⟩
end
/-! ### what all ways together say of them -/
theorem one_c {L t : Nat} : ((1 : Ps').c L).p t ↔ L = 0 := by
  cases L with
  | zero => exact ⟨fun _ => rfl, fun _ => trivial⟩
  | succ L => exact ⟨fun z => False.elim z, fun z => absurd z (by omega)⟩
theorem one_p' {i j L t : Nat} : ((one j i : Ps').c L).p t ↔ i = j ∧ L = 0 := by
  unfold one
  by_cases e : i = j
  · rw [if_pos e, one_c]
    exact ⟨fun z => ⟨e, z⟩, (·.2)⟩
  · rw [if_neg e]
    exact ⟨fun z => False.elim z, fun z => absurd z.1 e⟩
theorem mm_p {i j L t : Nat} : ∀ {ps : List Pg}, ((mm ps i j).c L).p t ↔ ∃ p ∈ ps, p.s = i ∧ p.g = j ∧ p.l = L ∧ t ≤ p.w
  | [] => ⟨fun z => False.elim z, fun ⟨_, h, _⟩ => by cases h⟩
  | p :: ps => by
    rw [mm_cons, c_add_p, mm_p]
    constructor
    · rintro (h | ⟨q, h1, h2⟩)
      · split at h
        · rename_i e
          obtain ⟨h1, h2⟩ := pas_p.mp h
          exact ⟨p, List.mem_cons_self, e.1, e.2, h1.symm, h2⟩
        · exact False.elim h
      · exact ⟨q, List.mem_cons_of_mem _ h1, h2⟩
    · rintro ⟨q, h1, h2, h3, h4, h5⟩
      rcases List.mem_cons.mp h1 with rfl | h1
      · left
        rw [if_pos ⟨h2, h3⟩]
        exact pas_p.mpr ⟨h4.symm, h5⟩
      · exact .inr ⟨q, h1, h2, h3, h4, h5⟩
theorem clos_eq {z : Mz} (ok : MzOk z) (i j : Nat) : clos z i j = one j i + sm (List.range z.n) fun k => mm z.ps i k * clos z k j := sol_eq (mm_nc ok.p) i
theorem c_sm_p (l : List Nat) (f : Nat → Ps') (L t : Nat) : ((sm l f).c L).p t ↔ ∃ k ∈ l, ((f k).c L).p t := by
  rw [c_sm, sm_p]
theorem clos_p {z : Mz} (ok : MzOk z) {j t : Nat} : ∀ (L i : Nat), ((clos z i j).c L).p t ↔ ∃ c, Wk z.ps t i j L c := by
  intro L
  induction L using Nat.strongRecOn with
  | ind L ih =>
    intro i
    rw [clos_eq ok, c_add_p, one_p', c_sm_p]
    constructor
    · rintro (⟨rfl, rfl⟩ | ⟨k, _, h⟩)
      · exact ⟨0, .nil i⟩
      · obtain ⟨a, b, e, h1, h2⟩ := (c_mul_p _ _ L t).mp h
        obtain ⟨p, hp, rfl, rfl, rfl, hw⟩ := mm_p.mp h1
        have := (ok.p p hp).l.1
        obtain ⟨c, h3⟩ := (ih b (by omega) p.g).mp h2
        rw [← e]
        exact ⟨c + 1, .cons hp hw h3⟩
    · rintro ⟨c, h⟩
      cases h with
      | nil => exact .inl ⟨rfl, rfl⟩
      | @cons p _ L c hp hw h =>
        have := (ok.p p hp).l.1
        exact .inr ⟨p.g, List.mem_range.mpr (ok.p p hp).g, (c_mul_p _ _ _ t).mpr ⟨p.l, L, rfl, mm_p.mpr ⟨p, hp, rfl, rfl, rfl, hw⟩, (ih L (by omega) p.g).mpr ⟨c, h⟩⟩⟩
theorem clos_ch {z : Mz} (ok : MzOk z) (i j : Nat) : Ch (clos z i j) := Ch.sol (mm_nc ok.p) (mm_ch ok.p) (fun i => by
  unfold one
  split
  · exact Ch.one
  · exact Ch.zero) i
end Pm
/-! Least ways and widest ways, round by round. -/
namespace Pm
abbrev Bs := Nat → Option (Nat × Nat)
def ltQ (a b : Nat × Nat) : Prop := a.1 < b.1 ∨ a.1 = b.1 ∧ a.2 < b.2
def leQ (a b : Nat × Nat) : Prop := a.1 < b.1 ∨ a.1 = b.1 ∧ a.2 ≤ b.2
instance (a b : Nat × Nat) : Decidable (ltQ a b) := by unfold ltQ; infer_instance
theorem leQ_refl (a : Nat × Nat) : leQ a a := .inr ⟨rfl, Nat.le_refl _⟩
theorem leQ_trans {a b c : Nat × Nat} (h : leQ a b) (k : leQ b c) : leQ a c := by unfold leQ at *; omega
theorem leQ_of_not {a b : Nat × Nat} (h : ¬ ltQ a b) : leQ b a := by unfold ltQ leQ at *; omega
theorem leQ_lt {a b : Nat × Nat} (h : ltQ a b) : leQ a b := by unfold ltQ leQ at *; omega
theorem leQ_anti {a b : Nat × Nat} (h : leQ a b) (k : leQ b a) : a = b := by
  unfold leQ at *
  exact Prod.ext (by omega) (by omega)
theorem leQ_add {a b : Nat × Nat} (l : Nat) (h : leQ a b) : leQ (a.1 + l, a.2 + 1) (b.1 + l, b.2 + 1) := by
  unfold leQ at *
  simp only
  omega
def ub (f : Nat → α) (i : Nat) (v : α) : Nat → α := fun x => if x = i then v else f x
theorem ub_same {α : Type} {f : Nat → α} {i : Nat} {v : α} : ub f i v i = v := if_pos rfl
theorem ub_ne {α : Type} {f : Nat → α} {i x : Nat} {v : α} (h : x ≠ i) : ub f i v x = f x := if_neg h
theorem ub_set {α : Type} (f : Nat → α) (i n : Nat) (v : α) : ((List.range n).map f).set i v = (List.range n).map (ub f i v) := by
  refine List.ext_getElem? fun j => ?_
  by_cases hj : j < n
  · by_cases e : i = j
    · subst e
      rw [List.getElem?_set_self (by simpa using hj), List.getElem?_map, List.getElem?_range hj]
      show _ = some (ub f i v i)
      rw [ub_same]
    · rw [List.getElem?_set_ne e, List.getElem?_map, List.getElem?_map, List.getElem?_range hj]
      show some (f j) = some (ub f i v j)
      rw [ub_ne (Ne.symm e)]
  · rw [List.getElem?_eq_none (by simp; omega), List.getElem?_eq_none (by simp; omega)]
/-- one passage is looked at -/
def rlx (f : Bs) (p : Pg) : Bs := match f p.g with
  | none => f
  | some v => match f p.s with
    | none => ub f p.s (some (v.1 + p.l, v.2 + 1))
    | some u => if ltQ (v.1 + p.l, v.2 + 1) u then ub f p.s (some (v.1 + p.l, v.2 + 1)) else f
def bf (ps : List Pg) (room : Nat) : Nat → Bs
  | 0 => ub (fun _ => none) room (some (0, 0))
  | k + 1 => ps.foldl rlx (bf ps room k)
/-- at most that -/
def LE (f : Bs) (x : Nat) (w : Nat × Nat) : Prop := ∃ v, f x = some v ∧ leQ v w
section
variable {ps : List Pg} {f : Bs} {p : Pg} {x room n : Nat} {w : Nat × Nat}
theorem rlx_le (h : LE f x w) : LE (rlx f p) x w := by
  obtain ⟨v, h1, h2⟩ := h
  unfold rlx
  cases hg : f p.g with
  | none => exact ⟨v, h1, h2⟩
  | some v' =>
    dsimp only
    cases hs : f p.s with
    | none =>
      dsimp only
      by_cases e : x = p.s
      · rw [e, hs] at h1; cases h1
      · exact ⟨v, by rw [ub_ne e]; exact h1, h2⟩
    | some u =>
      dsimp only
      by_cases q : ltQ (v'.1 + p.l, v'.2 + 1) u
      · rw [if_pos q]
        by_cases e : x = p.s
        · rw [e, hs] at h1
          cases h1
          exact ⟨_, by rw [e, ub_same], leQ_trans (leQ_lt q) h2⟩
        · exact ⟨v, by rw [ub_ne e]; exact h1, h2⟩
      · rw [if_neg q]
        exact ⟨v, h1, h2⟩
theorem rlx_step (h : LE f p.g w) : LE (rlx f p) p.s (w.1 + p.l, w.2 + 1) := by
  obtain ⟨v, h1, h2⟩ := h
  have h3 := leQ_add p.l h2
  unfold rlx
  rw [h1]
  dsimp only
  cases hs : f p.s with
  | none => exact ⟨_, by dsimp only; rw [ub_same], h3⟩
  | some u =>
    dsimp only
    by_cases q : ltQ (v.1 + p.l, v.2 + 1) u
    · rw [if_pos q]
      exact ⟨_, ub_same, h3⟩
    · rw [if_neg q]
      exact ⟨u, hs, leQ_trans (leQ_of_not q) h3⟩
theorem fold_le : ∀ {ps : List Pg} {f : Bs}, LE f x w → LE (ps.foldl rlx f) x w
  | [], _, h => h
  | p :: ps, _, h => fold_le (ps := ps) (rlx_le (p := p) h)
theorem fold_step : ∀ {ps : List Pg} {f : Bs}, p ∈ ps → LE f p.g w → LE (ps.foldl rlx f) p.s (w.1 + p.l, w.2 + 1)
  | q :: ps, f, hp, h => by
    rcases List.mem_cons.mp hp with rfl | hp
    · exact fold_le (ps := ps) (rlx_step h)
    · exact fold_step (ps := ps) hp (rlx_le h)
def Snd (ps : List Pg) (room : Nat) (f : Bs) : Prop := ∀ x v, f x = some v → Wk ps 0 x room v.1 v.2
theorem rlx_snd (hp : p ∈ ps) (h : Snd ps room f) : Snd ps room (rlx f p) := by
  unfold rlx
  cases hg : f p.g with
  | none => exact h
  | some v =>
    have hw : Wk ps 0 p.s room (v.1 + p.l) (v.2 + 1) := by
      rw [Nat.add_comm]
      exact .cons hp (Nat.zero_le _) (h _ _ hg)
    have key : Snd ps room (ub f p.s (some (v.1 + p.l, v.2 + 1))) := fun x u hx => by
      by_cases e : x = p.s
      · rw [e, ub_same] at hx
        cases hx
        rw [e]
        exact hw
      · rw [ub_ne e] at hx
        exact h x u hx
    dsimp only
    cases hs : f p.s with
    | none => exact key
    | some u =>
      dsimp only
      split
      · exact key
      · exact h
theorem fold_snd : ∀ {qs : List Pg} {f : Bs}, (∀ p ∈ qs, p ∈ ps) → Snd ps room f → Snd ps room (qs.foldl rlx f)
  | [], _, _, h => h
  | q :: qs, _, hq, h => fold_snd (qs := qs) (fun p hp => hq p (List.mem_cons_of_mem _ hp)) (rlx_snd (hq q List.mem_cons_self) h)
theorem bf_snd : ∀ k, Snd ps room (bf ps room k)
  | 0 => fun x v h => by
    unfold bf at h
    by_cases e : x = room
    · rw [e, ub_same] at h
      cases h
      rw [e]
      exact .nil _
    · rw [ub_ne e] at h; cases h
  | k + 1 => fold_snd (fun _ h => h) (bf_snd k)
theorem bf_com : ∀ (k : Nat) {x L c : Nat}, Wk ps 0 x room L c → c ≤ k → LE (bf ps room k) x (L, c)
  | 0, x, L, c, h, hc => by
    cases h with
    | nil => exact ⟨(0, 0), ub_same, leQ_refl _⟩
    | cons => omega
  | k + 1, x, L, c, h, hc => by
    cases h with
    | nil => exact fold_le (bf_com k (.nil _) (Nat.zero_le _))
    | @cons p _ L c hp _ h =>
      have := fold_step (f := bf ps room k) hp (bf_com k h (by omega))
      rw [Nat.add_comm p.l]
      exact this
/-- the best there is from each room -/
structure Best (ps : List Pg) (room : Nat) (f : Bs) : Prop where
  snd : Snd ps room f
  com : ∀ x L c, Wk ps 0 x room L c → LE f x (L, c)
theorem bf_best (hn : ∀ p ∈ ps, p.s < n) (hr : room < n) : Best ps room (bf ps room n) := ⟨bf_snd n, fun x L c h => by
  obtain ⟨L', c', h1, h2, h3, h4⟩ := h.short hn hr
  obtain ⟨v, g1, g2⟩ := bf_com n h4 (Nat.le_of_lt h3)
  refine ⟨v, g1, leQ_trans g2 ?_⟩
  unfold leQ
  simp only
  omega⟩
theorem Best.at_room (B : Best ps room f) : f room = some (0, 0) := by
  obtain ⟨v, h1, h2⟩ := B.com room 0 0 (.nil _)
  rw [h1]
  unfold leQ at h2
  exact congrArg some (Prod.ext (by simp only at *; omega) (by simp only at *; omega))
theorem Best.none (B : Best ps room f) : f x = none ↔ ∀ L c, ¬ Wk ps 0 x room L c := by
  constructor
  · intro h L c k
    obtain ⟨v, h1, _⟩ := B.com x L c k
    rw [h] at h1; cases h1
  · intro h
    cases e : f x with
    | none => rfl
    | some v => exact absurd (B.snd x v e) (h _ _)
theorem Best.end_ {a : Nat} (B : Best ps room f) (h : f x = some (a, 0)) : x = room ∧ a = 0 := by
  have hw := B.snd _ _ h
  have : ∀ {L c}, Wk ps 0 x room L c → c = 0 → x = room ∧ L = 0 := fun h hc => by
    cases h with
    | nil => exact ⟨rfl, rfl⟩
    | cons => omega
  exact this hw rfl
theorem Best.step {a b : Nat} (B : Best ps room f) (h : f x = some (a, b + 1)) : ∃ p ∈ ps, p.s = x ∧ ∃ a', f p.g = some (a', b) ∧ a' + p.l = a := by
  have hw := B.snd _ _ h
  have key : ∀ {L c}, Wk ps 0 x room L c → f x = some (L, c) → c = b + 1 → L = a → ∃ p ∈ ps, p.s = x ∧ ∃ a', f p.g = some (a', b) ∧ a' + p.l = a := fun hk hf hc hL => by
    cases hk with
    | nil => omega
    | @cons p _ L c hp _ hk =>
      obtain ⟨v, h1, h2⟩ := B.com p.g L c hk
      have hs := B.snd _ _ h1
      obtain ⟨u, h3, h4⟩ := B.com p.s (p.l + v.1) (v.2 + 1) (.cons hp (Nat.zero_le _) hs)
      rw [hf] at h3
      cases h3
      have : v = (L, c) := by
        unfold leQ at h2 h4
        simp only at h2 h4
        exact Prod.ext (by simp only; omega) (by simp only; omega)
      rw [this] at h1
      exact ⟨p, hp, rfl, L, by rw [h1]; exact congrArg some (Prod.ext rfl (by simp only; omega)), by omega⟩
  exact key hw h rfl rfl
theorem Best.relaxed {v : Nat × Nat} (B : Best ps room f) (hp : p ∈ ps) (h : f p.g = some v) : LE f p.s (v.1 + p.l, v.2 + 1) := by
  have := B.com p.s (p.l + v.1) (v.2 + 1) (.cons hp (Nat.zero_le _) (B.snd _ _ h))
  rwa [Nat.add_comm] at this
end
/-! ### widest ways -/
def rlw (g : Nat → Nat) (p : Pg) : Nat → Nat := ub g p.s (max (g p.s) (min (g p.g) p.w))
def wf (ps : List Pg) (room : Nat) : Nat → Nat → Nat
  | 0 => ub (fun _ => 0) room 1000
  | k + 1 => ps.foldl rlw (wf ps room k)
section
variable {ps : List Pg} {g : Nat → Nat} {p : Pg} {x room n t : Nat}
theorem rlw_le (h : t ≤ g x) : t ≤ rlw g p x := by
  unfold rlw
  by_cases e : x = p.s
  · subst e; rw [ub_same]; omega
  · rw [ub_ne e]; exact h
theorem rlw_step (h : t ≤ g p.g) (hw : t ≤ p.w) : t ≤ rlw g p p.s := by
  unfold rlw
  rw [ub_same]
  omega
theorem foldw_le : ∀ {ps : List Pg} {g : Nat → Nat}, t ≤ g x → t ≤ ps.foldl rlw g x
  | [], _, h => h
  | p :: ps, _, h => foldw_le (ps := ps) (rlw_le (p := p) h)
theorem foldw_step : ∀ {ps : List Pg} {g : Nat → Nat}, p ∈ ps → t ≤ g p.g → t ≤ p.w → t ≤ ps.foldl rlw g p.s
  | q :: ps, g, hp, h, hw => by
    rcases List.mem_cons.mp hp with rfl | hp
    · exact foldw_le (ps := ps) (rlw_step h hw)
    · exact foldw_step (ps := ps) hp (rlw_le h) hw
def SndW (ps : List Pg) (room t : Nat) (g : Nat → Nat) : Prop := ∀ x, t ≤ g x → ∃ L c, Wk ps t x room L c
theorem rlw_snd (hp : p ∈ ps) (h : SndW ps room t g) : SndW ps room t (rlw g p) := fun x hx => by
  unfold rlw at hx
  by_cases e : x = p.s
  · subst e
    rw [ub_same] at hx
    by_cases q : t ≤ g p.s
    · exact h _ q
    · obtain ⟨L, c, k⟩ := h p.g (by omega)
      exact ⟨_, _, .cons hp (by omega) k⟩
  · rw [ub_ne e] at hx
    exact h x hx
theorem foldw_snd : ∀ {qs : List Pg} {g : Nat → Nat}, (∀ p ∈ qs, p ∈ ps) → SndW ps room t g → SndW ps room t (qs.foldl rlw g)
  | [], _, _, h => h
  | q :: qs, _, hq, h => foldw_snd (qs := qs) (fun p hp => hq p (List.mem_cons_of_mem _ hp)) (rlw_snd (hq q List.mem_cons_self) h)
theorem wf_snd (ht : 1 ≤ t) : ∀ k, SndW ps room t (wf ps room k)
  | 0 => fun x h => by
    unfold wf at h
    by_cases e : x = room
    · rw [e]; exact ⟨0, 0, .nil _⟩
    · rw [ub_ne e] at h; omega
  | k + 1 => foldw_snd (fun _ h => h) (wf_snd ht k)
theorem wf_com (ht : t ≤ 1000) : ∀ (k : Nat) {x L c : Nat}, Wk ps t x room L c → c ≤ k → t ≤ wf ps room k x
  | 0, x, L, c, h, hc => by
    cases h with
    | nil => unfold wf; rw [ub_same]; exact ht
    | cons => omega
  | k + 1, x, L, c, h, hc => by
    cases h with
    | nil => exact foldw_le (wf_com ht k (.nil _) (Nat.zero_le _))
    | @cons p _ L c hp hw h => exact foldw_step hp (wf_com ht k h (by omega)) hw
theorem rlw_top (h : ∀ x, g x ≤ 1000) (x : Nat) : rlw g p x ≤ 1000 := by
  unfold rlw
  by_cases e : x = p.s
  · rw [e, ub_same]
    have := h p.s
    have := h p.g
    omega
  · rw [ub_ne e]; exact h x
theorem foldw_top : ∀ {ps : List Pg} {g : Nat → Nat}, (∀ x, g x ≤ 1000) → ∀ x, ps.foldl rlw g x ≤ 1000
  | [], _, h => h
  | p :: ps, _, h => foldw_top (ps := ps) (rlw_top (p := p) h)
theorem wf_top : ∀ k x, wf ps room k x ≤ 1000
  | 0, x => by
    unfold wf ub
    split
    · omega
    · exact Nat.zero_le _
  | k + 1, x => foldw_top (wf_top k) x
theorem wf_iff (hn : ∀ p ∈ ps, p.s < n) (hr : room < n) (h1 : 1 ≤ t) (h2 : t ≤ 1000) : t ≤ wf ps room n x ↔ ∃ L c, Wk ps t x room L c :=
  ⟨wf_snd h1 n x, fun ⟨L, c, h⟩ => by
    obtain ⟨L', c', _, _, h3, h4⟩ := h.short hn hr
    exact wf_com h2 n h4 (Nat.le_of_lt h3)⟩
end
/-! ### ways as places -/
def Way (ps : List Pg) : Nat → Nat → List Nat → Prop
  | i, j, [] => i = j
  | i, j, a :: as => ∃ p, ps[a]? = some p ∧ p.s = i ∧ Way ps p.g j as
def lenW (ps : List Pg) (as : List Nat) : Nat := (as.map fun a => (ps[a]?.map (·.l)).getD 0).sum
section
variable {ps : List Pg} {i j k a : Nat} {as bs : List Nat}
theorem Way.app : ∀ {as : List Nat} {i : Nat}, Way ps i j as → Way ps j k bs → Way ps i k (as ++ bs)
  | [], _, h, h' => by rw [show _ = _ from h]; exact h'
  | a :: as, _, ⟨p, h1, h2, h3⟩, h' => ⟨p, h1, h2, Way.app h3 h'⟩
theorem Way.snoc {p : Pg} (h : Way ps i j as) (hp : ps[a]? = some p) (hs : p.s = j) : Way ps i p.g (as ++ [a]) := h.app ⟨p, hp, hs, rfl⟩
theorem lenW_snoc {p : Pg} (hp : ps[a]? = some p) : lenW ps (as ++ [a]) = lenW ps as + p.l := by
  unfold lenW
  rw [List.map_append, List.sum_append]
  simp [hp]
theorem Way.lt : ∀ {as : List Nat} {i : Nat}, Way ps i j as → ∀ a ∈ as, a < ps.length
  | [], _, _, a, h => by cases h
  | b :: as, _, ⟨p, h1, h2, h3⟩, a, h => by
    rcases List.mem_cons.mp h with rfl | h
    · exact (List.getElem?_eq_some_iff.mp h1).1
    · exact Way.lt h3 a h
/-- a way whose passages are so wide is a walk -/
theorem Way.wk {t : Nat} : ∀ {as : List Nat} {i : Nat}, Way ps i j as → (∀ a ∈ as, ∀ p, ps[a]? = some p → t ≤ p.w) → Wk ps t i j (lenW ps as) as.length
  | [], _, h, _ => by rw [show _ = _ from h]; exact .nil _
  | a :: as, _, ⟨p, h1, h2, h3⟩, hw => by
    have := Wk.cons (List.mem_of_getElem? h1) (hw a List.mem_cons_self p h1) (Way.wk h3 fun b hb => hw b (List.mem_cons_of_mem _ hb))
    rw [h2] at this
    have e : lenW ps (a :: as) = p.l + lenW ps as := by
      unfold lenW
      simp [h1]
    rw [e]
    exact this
end
end Pm
/-! What the four kinds say of a pair of rooms. -/
namespace Pm
open Cs Sl
/-- the lengths that have ways -/
def som (a : Ps') (k : Nat) : List Nat := (List.range k).filter fun L => decide (0 < cn a L)
theorem som_succ (a : Ps') (k : Nat) : som a (k + 1) = if 0 < cn a k then som a k ++ [k] else som a k := by
  unfold som
  rw [List.range_succ, List.filter_append]
  by_cases h : 0 < cn a k <;> simp [h]
theorem som_len (a : Ps') (k : Nat) : (som a k).length ≤ k := by
  unfold som
  exact Nat.le_trans (List.length_filter_le _ _) (by simp)
theorem cn_pos {a : Ps'} (h : Ch a) (L : Nat) : 0 < cn a L ↔ (a.c L).p 1 := h L
theorem som_none {a : Ps'} (h : Ch a) (hn : ∀ L, ¬ (a.c L).p 1) (k : Nat) : som a k = [] := by
  unfold som
  rw [List.filter_eq_nil_iff]
  intro L _
  simpa using fun z => hn L ((cn_pos h L).mp z)
theorem som_low {a : Ps'} (h : Ch a) {L0 : Nat} (h2 : ∀ L, L < L0 → ¬ (a.c L).p 1) : ∀ k, k ≤ L0 → som a k = []
  | 0, _ => rfl
  | k + 1, hk => by rw [som_succ, som_low h h2 k (by omega), if_neg (fun z => h2 k (by omega) ((cn_pos h k).mp z))]
theorem som_head {a : Ps'} (h : Ch a) {L0 : Nat} (h1 : (a.c L0).p 1) (h2 : ∀ L, L < L0 → ¬ (a.c L).p 1) : ∀ k, L0 < k → ∃ r, som a k = L0 :: r
  | 0, hk => by omega
  | k + 1, hk => by
    rw [som_succ]
    by_cases e : k = L0
    · subst e
      rw [som_low h h2 k (Nat.le_refl _), if_pos ((cn_pos h k).mpr h1)]
      exact ⟨[], rfl⟩
    · obtain ⟨r, hr⟩ := som_head h h1 h2 k (by omega)
      rw [hr]
      split
      · exact ⟨r ++ [k], rfl⟩
      · exact ⟨r, rfl⟩
section
variable {z : Mz} {x y : Nat}
theorem wk01 (ok : MzOk z) {L c : Nat} (h : Wk z.ps 0 x y L c) : Wk z.ps 1 x y L c := h.imp fun p hp _ => ⟨hp, (ok.p p hp).w.1⟩
theorem no_wk (ok : MzOk z) (h : ∀ L, ¬ ((clos z x y).c L).p 1) (L c : Nat) : ¬ Wk z.ps 0 x y L c := fun k => h L ((clos_p ok L x).mpr ⟨c, wk01 ok k⟩)
theorem no_wk1 (ok : MzOk z) (h : ∀ L, ¬ ((clos z x y).c L).p 1) (L c : Nat) : ¬ Wk z.ps 1 x y L c := fun k => h L ((clos_p ok L x).mpr ⟨c, k⟩)
/-- the least way has the least length -/
theorem least_len (ok : MzOk z) {L0 : Nat} {as : List Nat} (h1 : ((clos z x y).c L0).p 1) (h2 : ∀ L, L < L0 → ¬ ((clos z x y).c L).p 1) (hw : Way z.ps x y as) (hm : ∀ L c, Wk z.ps 0 x y L c → lenW z.ps as ≤ L) : lenW z.ps as = L0 := by
  have hk : Wk z.ps 1 x y (lenW z.ps as) as.length := hw.wk fun a _ p hp => (ok.p p (List.mem_of_getElem? hp)).w.1
  obtain ⟨c, h3⟩ := (clos_p ok L0 x).mp h1
  have a1 := hm _ _ (h3.mono (Nat.zero_le _))
  have a2 : ¬ lenW z.ps as < L0 := fun q => h2 _ q ((clos_p ok _ x).mpr ⟨_, hk⟩)
  omega
theorem wk_len {ps : List Pg} {t i j L c : Nat} (hl : ∀ p ∈ ps, p.l ≤ 50) (h : Wk ps t i j L c) : L ≤ 50 * c := by
  induction h with
  | nil => exact Nat.le_refl _
  | cons hp _ _ ih =>
    have := hl _ hp
    omega
theorem least_small (ok : MzOk z) {L0 : Nat} (hy : y < z.n) (h1 : ((clos z x y).c L0).p 1) (h2 : ∀ L, L < L0 → ¬ ((clos z x y).c L).p 1) : L0 ≤ 2000 := by
  obtain ⟨c, h3⟩ := (clos_p ok L0 x).mp h1
  obtain ⟨L', c', g1, g2, g3, g4⟩ := h3.short (fun p hp => (ok.p p hp).s) hy
  have a1 : ¬ L' < L0 := fun q => h2 _ q ((clos_p ok _ x).mpr ⟨_, g4⟩)
  have a2 := wk_len (fun p hp => (ok.p p hp).l.2) g4
  have := ok.n
  omega
/-- the width of a widest way -/
theorem wide_min (ok : MzOk z) {W t mw : Nat} {as ws : List Nat} (hW : W ≤ 1000) (hW1 : 1 ≤ W) (hw : ∀ t, 1 ≤ t → t ≤ 1000 → (t ≤ W ↔ ∃ L, ((clos z x y).c L).p t)) (ht : ∀ t', 1 ≤ t' → t' ≤ 1000 → ∀ L c, Wk z.ps t' x y L c → t' ≤ t)
    (hway : Way z.ps x y as) (hwd : ∀ a ∈ as, ∀ p, z.ps[a]? = some p → t ≤ p.w) (hws : ws = as.map fun a => (z.ps[a]?.map (·.w)).getD 0) (hm : mw ∈ 1000 :: ws) (hmin : ∀ v ∈ 1000 :: ws, mw ≤ v) : mw = W := by
  obtain ⟨L, h1⟩ := (hw W hW1 hW).mp (Nat.le_refl _)
  obtain ⟨c, h2⟩ := (clos_p ok L x).mp h1
  have hWt := ht W hW1 hW L c h2
  have hget : ∀ a ∈ as, ∃ p, z.ps[a]? = some p := fun a ha => ⟨_, List.getElem?_eq_getElem (hway.lt a ha)⟩
  have a1 : W ≤ mw := by
    rcases List.mem_cons.mp hm with rfl | hm
    · exact hW
    · rw [hws] at hm
      obtain ⟨a, ha, rfl⟩ := List.mem_map.mp hm
      obtain ⟨p, hp⟩ := hget a ha
      have := hwd a ha p hp
      rw [hp]
      show W ≤ p.w
      omega
  have a2 : mw ≤ 1000 := hmin 1000 List.mem_cons_self
  have hk : Wk z.ps mw x y (lenW z.ps as) as.length := hway.wk fun a ha p hp => by
    have := hmin p.w (List.mem_cons_of_mem _ (by rw [hws]; exact List.mem_map.mpr ⟨a, ha, by rw [hp]; rfl⟩))
    exact this
  have := (hw mw (by omega) a2).mpr ⟨_, (clos_p ok _ x).mpr ⟨_, hk⟩⟩
  omega
end
end Pm
/-! Rules with the written part told: sets of ints, sorting, order of tuples. -/
namespace Sl
open PySem PySem.Spec
open PyProof.Rows L2
section
variable {X : Cx}
theorem ltTK (K : PySem.W.Frag) (hu : X.A.units + 64 < cLine) (hK : X.K = K := by rfl) : OpR X (compareOp .Lt) (rLtT K) := by subst hK; exact op_ltT (by omega)
/-- set(t) of ints -/
def rSetTI (K : PySem.W.Frag) (w : World) : List V → Hp → VK → Prop := fun vs H Q => ∃ (p : Addr) (ns : List Int), vs = [.ref p] ∧ SqT K H p (ns.map V.int) ∧ ns.length ≤ 1000 ∧
  ∀ (a : Addr) (c : Nat), c ≤ ns.length → H a = none → Q (.ref a) (upd H a (SetO w a (fun j => decide (j ∈ ns)) c))
theorem setTI (K : PySem.W.Frag) (hc : X.calm = true := by rfl) (hK : X.K = K := by rfl) : CallR X (.type "set") (rSetTI K X.w) := by
  subst hK
  intro pins s σ H vs us Q I r h
  obtain ⟨p0, ns, rfl, hq, hl, q⟩ := h
  obtain ⟨its, rv, pt, hz⟩ := I.tuple hq
  have hi : IntsAre its.toArray.toList ns := ints_of_vals rv
  have hd := I.ok.hd hc
  rw [Vals.ref1 r]
  refine call_set_tupI ns hd (show s.heap.IsTuple p0 its.toArray from pt) hi (by unfold scanBound; omega) fun h' tk c R1 hcn k => ?_
  exact ⟨.ref _, upd H s.heap.objs.size (SetO X.w s.heap.objs.size (fun j => decide (j ∈ ns)) c), I.laid (t' := tk) k (Nat.le_refl _) (setO_new R1), rfl, q _ c hcn (I.hok.fresh (Nat.le_refl _))⟩
theorem sortSetK (hc : X.calm = true := by rfl) : CallR X (.builtin "sorted") (rSortedSet X.w) := cr_sortedSet hc
theorem sortK (K : PySem.W.Frag) (hK : X.K = K := by rfl) : CallR X (.builtin "sorted") (rSortedI K) := by subst hK; exact cr_sortedI
theorem listDK (hc : X.calm = true := by rfl) : CallR X (.type "list") (fun xs H Q => ∃ (a : Addr) (kvs : List (Key × V)), xs = [.ref a] ∧ Rd H a (.dK kvs) ∧ ∀ p, H p = none → Q (.ref p) (upd H p (.lst (kvs.map fun kv => kV kv.1)))) := call_listD hc
end
end Sl
/-! Least ways and widest ways. -/
namespace K09
open PySem PySem.Spec
open PyProof.Rows L2 Sl Pm
section
variable {P : Program} {w : World} {K : PySem.W.Frag} {mg : Str → Option Value} {base : Heap} {H H0 H1 H2 : Hp} {E : XK} {Q : VK} {m n e : Nat} {σ : L2.St}
theorem none_of {a : Addr} (e : Ex H0 H1) (h : H1 a = none) : H0 a = none := by
  cases z : H0 a with
  | none => rfl
  | some o => rw [e _ _ z] at h; cases h
/-- a list of data -/
def DL (K : PySem.W.Frag) (H : Hp) (F : Addr) (ds : List D) : Prop := ∃ xs, H F = some (.lst xs) ∧ RDs K H ds xs
theorem DL.ex {F : Addr} {ds : List D} (h : DL K H F ds) (e : Ex H H1) : DL K H1 F ds := by
  obtain ⟨xs, h1, h2⟩ := h
  exact ⟨xs, e _ _ h1, h2.mono e.t⟩
theorem DL.at {F : Addr} {g : Nat → D} {i : Nat} (h : DL K H F ((List.range n).map g)) (hi : i < n) : ∃ xs v, H F = some (.lst xs) ∧ xs[i]? = some v ∧ RD K H (g i) v := by
  obtain ⟨xs, h1, h2⟩ := h
  obtain ⟨v, h3, h4⟩ := h2.get (map_at hi)
  exact ⟨xs, v, h1, h3, h4⟩
theorem map_at' {α : Type} {g : Nat → α} {i : Nat} (hi : i < n) : ((List.range n).map g)[i]? = some (g i) := by
  rw [List.getElem?_map, List.getElem?_range hi]
  rfl
theorem DL.put {F : Addr} {g : Nat → D} {i : Nat} {d : D} {v : V} (h : DL K H F ((List.range n).map g)) (hi : i < n) (hv : RD K H d v) : ∃ xs, H F = some (.lst xs) ∧ xs.length = n ∧ DL K (upd H F (.lst (xs.set i v))) F ((List.range n).map (ub g i d)) := by
  obtain ⟨xs, h1, h2⟩ := h
  have hl := h2.len
  rw [List.length_map, List.length_range] at hl
  have t : TEx H (upd H F (.lst (xs.set i v))) := tex_put h1 (by intro xs z; cases z) (by intro a b z; cases z)
  refine ⟨xs, h1, hl, _, upd_same, ?_⟩
  rw [← ub_set]
  exact ((RDs.lp h2).set (i := i) hv).rds.mono t
def oD : Option (Nat × Nat) → D
  | none => .non
  | some v => .tup [natD v.1, natD v.2]
theorem oD_ub (f : Bs) (i : Nat) (v : Option (Nat × Nat)) : ub (fun x => oD (f x)) i (oD v) = fun x => oD (ub f i v x) := funext fun x => by
  by_cases e : x = i
  · rw [e, ub_same, ub_same]
  · rw [ub_ne e, ub_ne e]
theorem lex2 (a b c d : Nat) : HT.lexLt [(a : Int), (b : Int)] [(c : Int), (d : Int)] = decide (ltQ (a, b) (c, d)) := by
  rw [HT.lexLt_cons, HT.lexLt_cons, HT.lexLt_nil_nil]
  unfold ltQ
  simp only
  by_cases h : a = c
  · subst h
    rw [if_pos rfl]
    by_cases h2 : b = d
    · subst h2
      rw [if_pos rfl]
      exact (decide_eq_false (by omega)).symm
    · rw [if_neg (by omega)]
      exact decide_eq_decide.mpr (by omega)
  · rw [if_neg (by omega)]
    exact decide_eq_decide.mpr (by omega)
def spDoors (K : PySem.W.Frag) : Sp := fun vs H Q _ => ∃ (z : Mz) (v : V) (i j : Nat), vs = [v, .int (i : Int), .int (j : Int)] ∧ RD K H (mzD z) v ∧ MzOk z ∧ i < z.ds.length ∧ j < z.ds.length ∧ ∀ H', Ex H H' → Q .non H'
theorem ok_needDoors (T : Tx K mg) : Has P w K mg base 5 (a_need_doors K) p_need_doors (spDoors K) := by
  refine has_of (f_need_doors T) (z_need_doors T) (b_need_doors T) (fun vs H Q E h => by obtain ⟨_, _, _, _, rfl, _⟩ := h; rfl) (fun cdv A outer s H vs Q E hr h => ?_)
  obtain ⟨z, v, i, j, rfl, rv, ok, hi, hj, k⟩ := h
  have h_need_maze := ok_needMaze (P := P) (w := w) (base := base) T
  have h_need_door := ok_needDoor (P := P) (w := w) (base := base) T
  refine ⟨_, (pss_cons (ps_expr (pcall h_need_maze (hr.mono (by omega)) (g_need_maze T) (pa_cons (pv 0) (pa_cons pe_str pa_nil))))
  (pss_cons (ps_expr (pcall h_need_door (hr.mono (by omega)) (g_need_door T) (pa_cons (pe_callB (lenK K) (by rfl) (l_len T) (by decide +kernel) (pa_cons (pe_ix (ixT K) (pv 0) pe_int (fun _ _ => rfl)) pa_nil)) (pa_cons (pv 1) (pa_cons pe_str pa_nil)))))
  (pss_one (ps_expr (pcall h_need_door (hr.mono (by omega)) (g_need_door T) (pa_cons (pe_callB (lenK K) (by rfl) (l_len T) (by decide +kernel) (pa_cons (pe_ix (ixT K) (pv 0) pe_int (fun _ _ => rfl)) pa_nil)) (pa_cons (pv 2) (pa_cons pe_str pa_nil)))))))), ?_⟩
  refine ⟨_, rfl, z, v, _, rfl, rv, ok, fun H1 e1 => ?_⟩
  obtain ⟨a, x1, x2, x3, rfl, ha, r1, r2, r3⟩ := slots3 (rv.mono e1.t)
  obtain ⟨b, xs, rfl, hb, rb⟩ := r3.ofTup
  have hl := rb.len
  rw [List.length_map] at hl
  refine ⟨_, rfl, a, _, _, _, rfl, rfl, ha, rfl, b, _, rfl, .inr hb, _, rfl, z.ds.length, i, _, by rw [hl]; rfl, hi, ?_⟩
  exact ⟨_, rfl, a, _, _, _, rfl, rfl, ha, rfl, b, _, rfl, .inr hb, _, rfl, z.ds.length, j, _, by rw [hl]; rfl, hj, k _ e1⟩
def spLeast (K : PySem.W.Frag) : Sp := fun vs H Q _ => ∃ (z : Mz) (v : V) (r : Nat), vs = [v, .int (r : Int)] ∧ RD K H (mzD z) v ∧ MzOk z ∧ r < z.n ∧ ∀ F H', Ex H H' → H F = none → DL K H' F ((List.range z.n).map fun x => oD (bf z.ps r z.n x)) → Q (.ref F) H'
theorem ok_leastWays (T : Tx K mg) : Has P w K mg base 1 (a_least_ways K) p_least_ways (spLeast K) := by
  refine has_of (f_least_ways T) (z_least_ways T) (b_least_ways T) (fun vs H Q E h => by obtain ⟨_, _, _, rfl, _⟩ := h; rfl) (fun cdv A outer s H vs Q E hr h => ?_)
  obtain ⟨z, v, r, rfl, rv, ok, hr0, k⟩ := h
  obtain ⟨a, x1, x2, x3, rfl, ha, r1, r2, r3⟩ := slots3 rv
  obtain rfl := r1.ofInt
  obtain ⟨b, xs, rfl, hb, rb⟩ := r2.ofTup
  have lx := rb.len
  rw [List.length_map] at lx
  have o1 := ok.n
  refine ⟨_, (pss_cons (ps_set (i := 2) (z_least_ways T).nd rfl (Or.inl rfl) (pe_op op_rep (pe_lst (pa_cons pe_non pa_nil)) (pe_ix (ixT K) (pv 0) pe_int (fun _ _ => rfl))))
  (pss_cons (ps_asg (pe_tup (pa_cons pe_int (pa_cons pe_int pa_nil))) (pg_sub (pv 2) (pv 1) set_list))
  (pss_cons (ps_for (passes_of rfl) rfl (pi_range1 (by rfl) (l_range T) (pa_cons (pe_ix (ixT K) (pv 0) pe_int (fun _ _ => rfl)) pa_nil)) (pg_name (i := 3) (z_least_ways T).nd rfl (Or.inl rfl)) (pss_one (ps_for (passes_of rfl) rfl (tupW K (pe_ix (ixT K) (pv 0) pe_int (fun _ _ => rfl))) (tupK K (n := 4) (pgs_cons (pg_name (i := 4) (z_least_ways T).nd rfl (Or.inl rfl)) (pgs_cons (pg_name (i := 5) (z_least_ways T).nd rfl (Or.inl rfl)) (pgs_cons (pg_name (i := 6) (z_least_ways T).nd rfl (Or.inl rfl)) (pgs_cons (pg_name (i := 7) (z_least_ways T).nd rfl (Or.inl rfl)) pgs_nil))))) (pss_one (ps_if (pt_cmpR oNoNo (pe_ix (ixL K) (pv 2) (pv 5) (fun _ _ => rfl)) pe_non (nomark _)) (pss_cons (ps_set (i := 8) (z_least_ways T).nd rfl (Or.inl rfl) (pe_tup (pa_cons (pe_op oAddI (pe_ix (ixT K) (pe_ix (ixL K) (pv 2) (pv 5) (fun _ _ => rfl)) pe_int (fun _ _ => rfl)) (pv 6)) (pa_cons (pe_op oAddI (pe_ix (ixT K) (pe_ix (ixL K) (pv 2) (pv 5) (fun _ _ => rfl)) pe_int (fun _ _ => rfl)) pe_int) pa_nil))))
  (pss_one (ps_if (PW.pt (pw_or (pt_cmpR oIsNo (pe_ix (ixL K) (pv 2) (pv 4) (fun _ _ => rfl)) pe_non (nomark _)) (pw_or1 (pt_cmpR (ltTK K hr.units) (pv 8) (pe_ix (ixL K) (pv 2) (pv 4) (fun _ _ => rfl)) (nomark _))))) (pss_one (ps_asg (pv 8) (pg_sub (pv 2) (pv 4) set_list))) pss_nil))) pss_nil)))))
  (pss_one (ps_ret (pv 2)))))), ?_⟩
  refine ⟨one_sz _, fun l hl => ⟨_, rfl, a, _, _, _, rfl, rfl, (ex_new hl).t.sq ha, rfl, l, _, _, rfl, rfl, upd_same, by omega, by omega, ?_, fun F hF => ?_⟩⟩
  · show 1 * _ ≤ _
    exact sz4 (by omega)
  rw [show ((z.n : Int)).toNat = z.n by omega, rep_flat]
  have e2 := (ex_new hl (o := .lst [.non])).trans (ex_new hF (o := .lst (List.replicate z.n .non)))
  have hF0 : H F = none := back (ex_new hl) hF
  have d2 : DL K (upd (upd H l (.lst [.non])) F (.lst (List.replicate z.n .non))) F ((List.range z.n).map fun x => oD ((fun _ => none : Bs) x)) := by
    refine ⟨_, upd_same, ?_⟩
    have : ((List.range z.n).map fun x => oD ((fun _ => none : Bs) x)) = List.replicate z.n .non := by
      rw [List.eq_replicate_iff]
      exact ⟨by simp, fun x hx => by obtain ⟨y, _, rfl⟩ := List.mem_map.mp hx; rfl⟩
    rw [this]
    exact (LP.rep (VP := RD K) .non _).rds
  generalize upd (upd H l (.lst [.non])) F (.lst (List.replicate z.n .non)) = H2 at e2 d2 ⊢
  refine ⟨two_sz _ _, fun u hu => ?_⟩
  have e3 := e2.trans (ex_new hu (o := .tup [.int 0, .int 0]))
  obtain ⟨ys, h1, h2, h3⟩ := (d2.ex (ex_new hu (o := .tup [.int 0, .int 0]))).put hr0 (d := oD (some (0, 0))) (rd_new hu (.cons (.int 0) (.cons (.int 0) .nil)))
  refine ⟨_, rfl, _, rfl, F, ys, _, r, rfl, rfl, h1, ixN_nat (by rw [h2]; exact hr0), ?_⟩
  have e4 := ex_own e3 hF0 (o := .lst (ys.set r (.ref u)))
  rw [oD_ub] at h3
  have d4 : DL K _ F ((List.range z.n).map fun x => oD (bf z.ps r 0 x)) := h3
  generalize upd (upd H2 u (.tup [.int 0, .int 0])) F (.lst (ys.set r (.ref u))) = H4 at e4 d4 ⊢
  refine ⟨_, rfl, a, _, _, _, rfl, rfl, e4.t.sq ha, rfl, _, rfl, by omega, by omega, ?_⟩
  refine for_it (walk_range (lo := 0) (n := z.n)) (fun i σ H' => Ex H H' ∧ (∃ x3 x4 x5 x6 x7 x8, σ = [some (.ref a), some (.int (r : Int)), some (.ref F), x3, x4, x5, x6, x7, x8]) ∧ DL K H' F ((List.range z.n).map fun x => oD (bf z.ps r i x))) ?_ (fun _ _ _ _ _ => trivial) ?_ ?_
  · exact ⟨e4, ⟨_, _, _, _, _, _, rfl⟩, d4⟩
  · rintro kk x σ H5' H5 hk ⟨e5, ⟨x3, x4, x5, x6, x7, x8, rfl⟩, d5⟩ ⟨rfl, rfl⟩
    have hwt := walk_tup (K := K) (a := b) (xs := xs)
    rw [lx] at hwt
    refine ⟨_, rfl, a, _, _, _, rfl, rfl, e5.t.sq ha, rfl, b, rfl, ⟨_, e5.t.sq hb⟩, for_it hwt (fun i σ H' => Ex H H' ∧ (∃ x4 x5 x6 x7 x8, σ = [some (.ref a), some (.int (r : Int)), some (.ref F), some (.int (0 + (kk : Int))), x4, x5, x6, x7, x8]) ∧ DL K H' F ((List.range z.n).map fun x => oD ((z.ps.take i).foldl rlx (bf z.ps r kk) x))) ?_ (fun i σ H' _ h => h.1.t.sq hb) ?_ ?_⟩
    · exact ⟨e5, ⟨_, _, _, _, _, rfl⟩, d5⟩
    · rintro i x σ H6' H6 hi ⟨e6, ⟨x4, x5, x6, x7, x8, rfl⟩, d6⟩ ⟨rfl, hx⟩
      obtain ⟨d, g1, g2⟩ := rb.getV hx
      rw [List.getElem?_map, List.getElem?_eq_getElem hi] at g1
      cases g1
      have okp := ok.p _ (List.getElem_mem hi)
      have htk : (z.ps.take (i + 1)).foldl rlx (bf z.ps r kk) = rlx ((z.ps.take i).foldl rlx (bf z.ps r kk)) z.ps[i] := by rw [List.take_add_one, List.getElem?_eq_getElem hi]; show (z.ps.take i ++ [z.ps[i]]).foldl rlx _ = _; rw [List.foldl_append]; rfl
      rw [htk]
      generalize z.ps[i] = pg at g2 okp
      generalize (z.ps.take i).foldl rlx (bf z.ps r kk) = f at d6 ⊢
      obtain ⟨t, y1, y2, y3, y4, rfl, ht, s1, s2, s3, s4⟩ := slots4 (g2.mono e6.t)
      obtain rfl := s1.ofInt
      obtain rfl := s2.ofInt
      obtain rfl := s3.ofInt
      obtain rfl := s4.ofInt
      refine ⟨t, _, rfl, ht, rfl, _, _, rfl, _, _, rfl, _, _, rfl, _, _, rfl, rfl, ?_⟩
      obtain ⟨zs, v, h1, h2, h3⟩ := d6.at okp.g
      refine ⟨_, rfl, _, rfl, F, zs, _, v, rfl, rfl, SqL.of h1, atI_nat h2, rfl, _, rfl, ?_⟩
      cases hg : f pg.g with
      | none =>
        rw [hg] at h3
        obtain rfl := RD.ofNon h3
        refine iteF' (by simp) ?_
        have : rlx f pg = f := by unfold rlx; rw [hg]
        rw [this]
        exact ⟨e6, ⟨_, _, _, _, _, rfl⟩, d6⟩
      | some vv =>
        rw [hg] at h3
        obtain ⟨q, q1, q2, rfl, hq, t1, t2⟩ := slots2 h3
        obtain rfl := t1.ofInt
        obtain rfl := t2.ofInt
        refine iteT' (by simp) ?_
        refine ⟨_, rfl, _, rfl, F, zs, _, _, rfl, rfl, SqL.of h1, atI_nat h2, q, _, _, _, rfl, rfl, hq, rfl, _, rfl, _, _, rfl, rfl, ?_⟩
        refine ⟨_, rfl, _, rfl, F, zs, _, _, rfl, rfl, SqL.of h1, atI_nat h2, q, _, _, _, rfl, rfl, hq, rfl, _, _, rfl, rfl, two_sz _ _, fun o ho => ?_⟩
        have f7 := ex_new ho (o := .tup [.int ((vv.1 : Int) + (pg.l : Int)), .int ((vv.2 : Int) + 1)])
        have r7 : RD K (upd H6 o (.tup [.int ((vv.1 : Int) + (pg.l : Int)), .int ((vv.2 : Int) + 1)])) (oD (some (vv.1 + pg.l, vv.2 + 1))) (.ref o) := rd_new ho (.cons (.int _) (.cons (.int _) .nil))
        have sq7 : SqT K (upd H6 o (.tup [.int ((vv.1 : Int) + (pg.l : Int)), .int ((vv.2 : Int) + 1)])) o ([((vv.1 + pg.l : Nat) : Int), ((vv.2 + 1 : Nat) : Int)].map V.int) := .inl (.inl upd_same)
        have e7 := e6.trans f7
        have d7 := d6.ex f7
        generalize upd H6 o (.tup [.int ((vv.1 : Int) + (pg.l : Int)), .int ((vv.2 : Int) + 1)]) = H7 at f7 r7 sq7 e7 d7 ⊢
        obtain ⟨zs', v', k1, k2, k3⟩ := d7.at okp.s
        refine ⟨_, rfl, _, rfl, F, zs', _, v', rfl, rfl, SqL.of k1, atI_nat k2, rfl, _, rfl, ?_⟩
        cases hs : f pg.s with
        | none =>
          rw [hs] at k3
          obtain rfl := RD.ofNon k3
          refine iteT' (by simp) (iteT ?_)
          have hrl : rlx f pg = ub f pg.s (some (vv.1 + pg.l, vv.2 + 1)) := by unfold rlx; rw [hg]; dsimp only; rw [hs]
          rw [hrl]
          obtain ⟨ws, j1, j2, j3⟩ := d7.put okp.s r7
          rw [oD_ub] at j3
          exact ⟨_, rfl, _, rfl, _, rfl, F, ws, _, pg.s, rfl, rfl, j1, ixN_nat (by rw [j2]; exact okp.s), ex_own e7 hF0, ⟨_, _, _, _, _, rfl⟩, j3⟩
        | some uu =>
          rw [hs] at k3
          obtain ⟨q', q1', q2', rfl, hq', t1, t2⟩ := slots2 k3
          obtain rfl := t1.ofInt
          obtain rfl := t2.ofInt
          refine iteF' (by simp) ?_
          refine ⟨_, rfl, _, rfl, _, rfl, F, zs', _, _, rfl, rfl, SqL.of k1, atI_nat k2, o, q', _, [(uu.1 : Int), (uu.2 : Int)], rfl, rfl, sq7, hq', _, rfl, ?_⟩
          rw [lex2]
          refine ifBH (fun c => ?_) (fun c => ?_)
          · have c := of_decide_eq_true c
            have hrl : rlx f pg = ub f pg.s (some (vv.1 + pg.l, vv.2 + 1)) := by unfold rlx; rw [hg]; dsimp only; rw [hs]; dsimp only; rw [if_pos c]
            rw [hrl]
            obtain ⟨ws, j1, j2, j3⟩ := d7.put okp.s r7
            rw [oD_ub] at j3
            exact ⟨_, rfl, _, rfl, _, rfl, F, ws, _, pg.s, rfl, rfl, j1, ixN_nat (by rw [j2]; exact okp.s), ex_own e7 hF0, ⟨_, _, _, _, _, rfl⟩, j3⟩
          · have c := of_decide_eq_false c
            have hrl : rlx f pg = f := by unfold rlx; rw [hg]; dsimp only; rw [hs]; dsimp only; rw [if_neg c]
            rw [hrl]
            exact ⟨e7, ⟨_, _, _, _, _, rfl⟩, d7⟩
    · rintro σ H6 ⟨e6, ⟨x4, x5, x6, x7, x8, rfl⟩, d6⟩
      rw [List.take_of_length_le (Nat.le_refl _)] at d6
      exact ⟨e6, ⟨_, _, _, _, _, _, rfl⟩, d6⟩
  · rintro σ H5 ⟨e5, ⟨x3, x4, x5, x6, x7, x8, rfl⟩, d5⟩
    exact ⟨_, rfl, k F _ e5 hF0 d5⟩
end
end K09
/-! Widest ways, the first way. -/
namespace K09
open PySem PySem.Spec
open PyProof.Rows L2 Sl Pm
section
variable {P : Program} {w : World} {K : PySem.W.Frag} {mg : Str → Option Value} {base : Heap} {H H0 H1 H2 : Hp} {E : XK} {Q : VK} {m n e : Nat} {σ : L2.St}
theorem natD_ub (f : Nat → Nat) (i v : Nat) : ub (fun x => natD (f x)) i (natD v) = fun x => natD (ub f i v x) := funext fun x => by
  by_cases e : x = i
  · rw [e, ub_same, ub_same]
  · rw [ub_ne e, ub_ne e]
def spWidest (K : PySem.W.Frag) : Sp := fun vs H Q _ => ∃ (z : Mz) (v : V) (r : Nat), vs = [v, .int (r : Int)] ∧ RD K H (mzD z) v ∧ MzOk z ∧ r < z.n ∧ ∀ F H', Ex H H' → H F = none → DL K H' F ((List.range z.n).map fun x => natD (wf z.ps r z.n x)) → Q (.ref F) H'
theorem ok_widest (T : Tx K mg) : Has P w K mg base 1 (a_widest K) p_widest (spWidest K) := by
  refine has_of (f_widest T) (z_widest T) (b_widest T) (fun vs H Q E h => by obtain ⟨_, _, _, rfl, _⟩ := h; rfl) (fun cdv A outer s H vs Q E hr h => ?_)
  obtain ⟨z, v, r, rfl, rv, ok, hr0, k⟩ := h
  obtain ⟨a, x1, x2, x3, rfl, ha, r1, r2, r3⟩ := slots3 rv
  obtain rfl := r1.ofInt
  obtain ⟨b, xs, rfl, hb, rb⟩ := r2.ofTup
  have lx := rb.len
  rw [List.length_map] at lx
  have o1 := ok.n
  refine ⟨_, (pss_cons (ps_set (i := 2) (z_widest T).nd rfl (Or.inl rfl) (pe_op op_rep (pe_lst (pa_cons pe_int pa_nil)) (pe_ix (ixT K) (pv 0) pe_int (fun _ _ => rfl))))
  (pss_cons (ps_asg (pgi (i_ENDLESS T)) (pg_sub (pv 2) (pv 1) set_list))
  (pss_cons (ps_for (passes_of rfl) rfl (pi_range1 (by rfl) (l_range T) (pa_cons (pe_ix (ixT K) (pv 0) pe_int (fun _ _ => rfl)) pa_nil)) (pg_name (i := 3) (z_widest T).nd rfl (Or.inl rfl)) (pss_one (ps_for (passes_of rfl) rfl (tupW K (pe_ix (ixT K) (pv 0) pe_int (fun _ _ => rfl))) (tupK K (n := 4) (pgs_cons (pg_name (i := 4) (z_widest T).nd rfl (Or.inl rfl)) (pgs_cons (pg_name (i := 5) (z_widest T).nd rfl (Or.inl rfl)) (pgs_cons (pg_name (i := 6) (z_widest T).nd rfl (Or.inl rfl)) (pgs_cons (pg_name (i := 7) (z_widest T).nd rfl (Or.inl rfl)) pgs_nil))))) (pss_one (ps_asg (pe_callB (call_max2 rfl) (by rfl) (l_max T) (by decide +kernel) (pa_cons (pe_ix (ixL K) (pv 2) (pv 4) (fun _ _ => rfl)) (pa_cons (pe_callB (call_min2 rfl) (by rfl) (l_min T) (by decide +kernel) (pa_cons (pe_ix (ixL K) (pv 2) (pv 5) (fun _ _ => rfl)) (pa_cons (pv 7) pa_nil))) pa_nil))) (pg_sub (pv 2) (pv 4) set_list))))))
  (pss_one (ps_ret (pv 2)))))), ?_⟩
  refine ⟨one_sz _, fun l hl => ⟨_, rfl, a, _, _, _, rfl, rfl, (ex_new hl).t.sq ha, rfl, l, _, _, rfl, rfl, upd_same, by omega, by omega, ?_, fun F hF => ?_⟩⟩
  · show 1 * _ ≤ _
    exact sz4 (by omega)
  rw [show ((z.n : Int)).toNat = z.n by omega, rep_flat]
  have e2 := (ex_new hl (o := .lst [.int 0])).trans (ex_new hF (o := .lst (List.replicate z.n (.int 0))))
  have hF0 : H F = none := back (ex_new hl) hF
  have d2 : DL K (upd (upd H l (.lst [.int 0])) F (.lst (List.replicate z.n (.int 0)))) F ((List.range z.n).map fun x => natD ((fun _ => 0) x)) := by
    refine ⟨_, upd_same, ?_⟩
    have : ((List.range z.n).map fun x => natD ((fun _ => 0) x)) = List.replicate z.n (.int 0) := by
      rw [List.eq_replicate_iff]
      exact ⟨by simp, fun x hx => by obtain ⟨y, _, rfl⟩ := List.mem_map.mp hx; rfl⟩
    rw [this]
    exact (LP.rep (VP := RD K) (.int 0) _).rds
  generalize upd (upd H l (.lst [.int 0])) F (.lst (List.replicate z.n (.int 0))) = H2 at e2 d2 ⊢
  obtain ⟨ys, h1, h2, h3⟩ := d2.put hr0 (d := natD 1000) (v := .int 1000) (.int 1000)
  refine ⟨_, rfl, _, rfl, F, ys, _, r, rfl, rfl, h1, ixN_nat (by rw [h2]; exact hr0), ?_⟩
  have e4 := ex_own e2 hF0 (o := .lst (ys.set r (.int 1000)))
  rw [natD_ub] at h3
  have d4 : DL K _ F ((List.range z.n).map fun x => natD (wf z.ps r 0 x)) := h3
  generalize upd H2 F (.lst (ys.set r (.int 1000))) = H4 at e4 d4 ⊢
  refine ⟨_, rfl, a, _, _, _, rfl, rfl, e4.t.sq ha, rfl, _, rfl, by omega, by omega, ?_⟩
  refine for_it (walk_range (lo := 0) (n := z.n)) (fun i σ H' => Ex H H' ∧ (∃ x3 x4 x5 x6 x7, σ = [some (.ref a), some (.int (r : Int)), some (.ref F), x3, x4, x5, x6, x7]) ∧ DL K H' F ((List.range z.n).map fun x => natD (wf z.ps r i x))) ?_ (fun _ _ _ _ _ => trivial) ?_ ?_
  · exact ⟨e4, ⟨_, _, _, _, _, rfl⟩, d4⟩
  · rintro kk x σ H5' H5 hk ⟨e5, ⟨x3, x4, x5, x6, x7, rfl⟩, d5⟩ ⟨rfl, rfl⟩
    have hwt := walk_tup (K := K) (a := b) (xs := xs)
    rw [lx] at hwt
    refine ⟨_, rfl, a, _, _, _, rfl, rfl, e5.t.sq ha, rfl, b, rfl, ⟨_, e5.t.sq hb⟩, for_it hwt (fun i σ H' => Ex H H' ∧ (∃ x4 x5 x6 x7, σ = [some (.ref a), some (.int (r : Int)), some (.ref F), some (.int (0 + (kk : Int))), x4, x5, x6, x7]) ∧ DL K H' F ((List.range z.n).map fun x => natD ((z.ps.take i).foldl rlw (wf z.ps r kk) x))) ?_ (fun i σ H' _ h => h.1.t.sq hb) ?_ ?_⟩
    · exact ⟨e5, ⟨_, _, _, _, rfl⟩, d5⟩
    · rintro i x σ H6' H6 hi ⟨e6, ⟨x4, x5, x6, x7, rfl⟩, d6⟩ ⟨rfl, hx⟩
      obtain ⟨d, g1, g2⟩ := rb.getV hx
      rw [List.getElem?_map, List.getElem?_eq_getElem hi] at g1
      cases g1
      have okp := ok.p _ (List.getElem_mem hi)
      have htk : (z.ps.take (i + 1)).foldl rlw (wf z.ps r kk) = rlw ((z.ps.take i).foldl rlw (wf z.ps r kk)) z.ps[i] := by rw [List.take_add_one, List.getElem?_eq_getElem hi]; show (z.ps.take i ++ [z.ps[i]]).foldl rlw _ = _; rw [List.foldl_append]; rfl
      rw [htk]
      generalize z.ps[i] = pg at g2 okp
      generalize (z.ps.take i).foldl rlw (wf z.ps r kk) = f at d6 ⊢
      obtain ⟨t, y1, y2, y3, y4, rfl, ht, s1, s2, s3, s4⟩ := slots4 (g2.mono e6.t)
      obtain rfl := s1.ofInt
      obtain rfl := s2.ofInt
      obtain rfl := s3.ofInt
      obtain rfl := s4.ofInt
      refine ⟨t, _, rfl, ht, rfl, _, _, rfl, _, _, rfl, _, _, rfl, _, _, rfl, rfl, ?_⟩
      obtain ⟨zs, v, h1, h2, h3⟩ := d6.at okp.s
      obtain rfl := RD.ofInt h3
      obtain ⟨zs', v', k1, k2, k3⟩ := d6.at okp.g
      obtain rfl := RD.ofInt k3
      rw [h1] at k1
      cases k1
      refine ⟨_, rfl, _, rfl, F, zs, _, _, rfl, rfl, SqL.of h1, atI_nat h2, ?_⟩
      refine ⟨_, rfl, _, rfl, F, zs, _, _, rfl, rfl, SqL.of h1, atI_nat k2, _, rfl, _, _, rfl, ?_⟩
      rw [min_int]
      refine ⟨_, _, rfl, ?_⟩
      rw [max_int]
      obtain ⟨ws, j1, j2, j3⟩ := d6.put okp.s (d := natD (max (f pg.s) (min (f pg.g) pg.w))) (.int _)
      rw [natD_ub] at j3
      exact ⟨_, rfl, _, rfl, F, ws, _, pg.s, rfl, rfl, j1, ixN_nat (by rw [j2]; exact okp.s), ex_own e6 hF0, ⟨_, _, _, _, rfl⟩, j3⟩
    · rintro σ H6 ⟨e6, ⟨x4, x5, x6, x7, rfl⟩, d6⟩
      rw [List.take_of_length_le (Nat.le_refl _)] at d6
      exact ⟨e6, ⟨_, _, _, _, _, rfl⟩, d6⟩
  · rintro σ H5 ⟨e5, ⟨x3, x4, x5, x6, x7, rfl⟩, d5⟩
    exact ⟨_, rfl, k F _ e5 hF0 d5⟩
theorem oD_ne {v : Nat × Nat} {x : V} (h : RD K H (oD (some v)) x) : ∃ q, x = .ref q ∧ SqT K H q [.int (v.1 : Int), .int (v.2 : Int)] := by
  obtain ⟨q, q1, q2, rfl, hq, t1, t2⟩ := slots2 h
  obtain rfl := t1.ofInt
  obtain rfl := t2.ofInt
  exact ⟨q, rfl, hq⟩
def spFirst (K : PySem.W.Frag) : Sp := fun vs H Q _ => ∃ (z : Mz) (v : V) (x g : Nat), vs = [v, .int (x : Int), .int (g : Int)] ∧ RD K H (mzD z) v ∧ MzOk z ∧ x < z.n ∧ g < z.n ∧
  (∀ H', Ex H H' → (∀ L c, ¬ Wk z.ps 0 x g L c) → Q .non H') ∧
  (∀ as u H', Ex H H' → Way z.ps x g as → (∀ L c, Wk z.ps 0 x g L c → lenW z.ps as ≤ L) → as.length ≤ z.n → RD K H' (.tup (as.map natD)) u → Q u H')
theorem ok_firstWay (T : Tx K mg) : Has P w K mg base 2 (a_first_way K) p_first_way (spFirst K) := by
  refine has_of (f_first_way T) (z_first_way T) (b_first_way T) (fun vs H Q E h => by obtain ⟨_, _, _, _, rfl, _⟩ := h; rfl) (fun cdv A outer s H vs Q E hr h => ?_)
  obtain ⟨z, v, x, g, rfl, rv, ok, hx, hg, kN, kW⟩ := h
  have h_least_ways := ok_leastWays (P := P) (w := w) (base := base) T
  have o1 := ok.n
  have o2 := ok.pl
  have B := bf_best (fun p hp => (ok.p p hp).s) hg
  refine ⟨_, (pss_cons (ps_par (i := 3) (j := 4) rfl (z_first_way T).nd rfl rfl (by decide) rfl rfl (pa_cons (pcall h_least_ways (hr.mono (by omega)) (g_least_ways T) (pa_cons (pv 0) (pa_cons (pv 2) pa_nil))) (pa_cons (pe_lst pa_nil) pa_nil)) rfl)
  (pss_cons (ps_if (pt_cmpR oIsNo (pe_ix (ixL K) (pv 3) (pv 1) (fun _ _ => rfl)) pe_non (nomark _)) (pss_one (ps_ret pe_non)) pss_nil)
  (pss_cons (ps_while (passes_of rfl) (pt_cmpR oGtI (pe_ix (ixT K) (pe_ix (ixL K) (pv 3) (pv 1) (fun _ _ => rfl)) pe_int (fun _ _ => rfl)) pe_int (nomark _)) (pss_one (ps_for (passes_of rfl) rfl (pi_enumT (by rfl) (l_enumerate T) (pa_cons (pe_ix (ixT K) (pv 0) pe_int (fun _ _ => rfl)) pa_nil)) (tupK K (n := 2) (pgs_cons (pg_name (i := 5) (z_first_way T).nd rfl (Or.inl rfl)) (pgs_cons (pg_name (i := 6) (z_first_way T).nd rfl (Or.inl rfl)) pgs_nil))) (pss_cons (ps_asg (pv 6) (tupK K (n := 4) (pgs_cons (pg_name (i := 7) (z_first_way T).nd rfl (Or.inl rfl)) (pgs_cons (pg_name (i := 8) (z_first_way T).nd rfl (Or.inl rfl)) (pgs_cons (pg_name (i := 9) (z_first_way T).nd rfl (Or.inl rfl)) (pgs_cons (pg_name (i := 10) (z_first_way T).nd rfl (Or.inl rfl)) pgs_nil))))))
  (pss_one (ps_if (PW.pt (pw_and (pt_cmpR op_eq (pv 7) (pv 1) (nomark _)) (pw_and (pt_cmpR oNoNo (pe_ix (ixL K) (pv 3) (pv 8) (fun _ _ => rfl)) pe_non (nomark _)) (pw_and1 (pt_cmpR (eqDK K hr.units) (pe_tup (pa_cons (pe_op oAddI (pe_ix (ixT K) (pe_ix (ixL K) (pv 3) (pv 8) (fun _ _ => rfl)) pe_int (fun _ _ => rfl)) (pv 9)) (pa_cons (pe_op oAddI (pe_ix (ixT K) (pe_ix (ixL K) (pv 3) (pv 8) (fun _ _ => rfl)) pe_int (fun _ _ => rfl)) pe_int) pa_nil))) (pe_ix (ixL K) (pv 3) (pv 1) (fun _ _ => rfl)) (nomark _)))))) (pss_cons (ps_expr (bmK K PySem.F.plainAttrs_list PySem.F.slot_list_append PySem.F.type_list_append mt_append (pv 4) (pa_cons (pv 5) pa_nil)))
  (pss_cons (ps_set (i := 1) (z_first_way T).nd rfl (Or.inl rfl) (pv 8))
  (pss_one ps_break))) pss_nil))))))
  (pss_one (ps_ret (pe_callTy (tupleK K) (by rfl) (l_tuple T) (by decide +kernel) (pa_cons (pv 4) pa_nil))))))), ?_⟩
  refine ⟨_, rfl, _, rfl, z, v, g, rfl, rv, ok, hg, fun F H1 e1 hF d1 => ?_⟩
  refine ⟨by show 0 ≤ sizeLine; decide, fun W hW => ⟨_, _, rfl, ?_⟩⟩
  have e2 := e1.trans (ex_new hW (o := .lst []))
  have hW0 : H W = none := back e1 hW
  have d2 := d1.ex (ex_new hW (o := .lst []))
  have hWl : upd H1 W (.lst []) W = some (.lst (nV [])) := upd_same
  have hFW : F ≠ W := by
    obtain ⟨xs, q, _⟩ := d1
    exact ne_of_none q hW
  generalize upd H1 W (.lst []) = H2 at e2 d2 hWl ⊢
  generalize bf z.ps g z.n = f at B d2
  obtain ⟨zs, v1, h1, h2, h3⟩ := d2.at hx
  refine ⟨_, rfl, _, rfl, F, zs, _, v1, rfl, rfl, SqL.of h1, atI_nat h2, rfl, _, rfl, ?_⟩
  cases hf : f x with
  | none =>
    rw [hf] at h3
    obtain rfl := RD.ofNon h3
    exact iteT' (by simp) (kN _ e2 (B.none.mp hf))
  | some v0 =>
    rw [hf] at h3
    obtain ⟨q, rfl, hq⟩ := oD_ne h3
    refine iteF' (by simp) ?_
    refine ⟨fun kk σ H' => ∃ (here : Nat) (ab : Nat × Nat) (as : List Nat) (x5 x6 x7 x8 x9 x10 : Option V), σ = [some v, some (.int (here : Int)), some (.int (g : Int)), some (.ref F), some (.ref W), x5, x6, x7, x8, x9, x10] ∧ Ex H H' ∧ DL K H' F ((List.range z.n).map fun x => oD (f x)) ∧ H' W = some (.lst (nV as)) ∧ Way z.ps x here as ∧ here < z.n ∧ f here = some ab ∧ lenW z.ps as + ab.1 = v0.1 ∧ as.length + ab.2 = v0.2 ∧ kk = ab.2, ⟨_, x, v0, [], _, _, _, _, _, _, rfl, e2, d2, hWl, rfl, hx, hf, by simp [lenW], by simp, rfl⟩, ?_⟩
    rintro mm σ H3 ⟨here, ab, as, x5, x6, x7, x8, x9, x10, rfl, e3, d3, hW3, hway, hh, hfh, hlen, hcnt, rfl⟩
    have hb0 : v0.2 < z.n := by
      obtain ⟨L', c', g1, g2, g3, g4⟩ := (B.snd _ _ hf).short (fun p hp => (ok.p p hp).s) hg
      obtain ⟨u, j1, j2⟩ := B.com _ _ _ g4
      rw [hf] at j1
      cases j1
      unfold leQ at j2
      simp only at j2
      omega
    obtain ⟨zs, v1, h1, h2, h3⟩ := d3.at hh
    rw [hfh] at h3
    obtain ⟨q, rfl, hq⟩ := oD_ne h3
    refine ⟨_, rfl, _, rfl, F, zs, _, _, rfl, rfl, SqL.of h1, atI_nat h2, q, _, _, _, rfl, rfl, hq, rfl, _, _, rfl, rfl, _, rfl, ifBH (fun c => ?_) (fun c => ?_)⟩
    · obtain ⟨b, hb⟩ : ∃ b, ab = (ab.1, b + 1) := ⟨ab.2 - 1, by have := of_decide_eq_true c; exact Prod.ext rfl (by simp only; omega)⟩
      obtain ⟨a, x1, x2, x3, hv, ha, r1, r2, r3⟩ := slots3 (rv.mono e3.t)
      subst hv
      obtain ⟨c', xs, rfl, hc', rb⟩ := r2.ofTup
      have lx := rb.len
      rw [List.length_map] at lx
      have hwq := walk_Q (K := K) (a := c') (xs := xs)
      rw [lx] at hwq
      refine ⟨_, fun _ _ h => h, ?_⟩
      refine ⟨_, rfl, a, _, _, _, rfl, rfl, ha, rfl, c', xs, rfl, hc', for_it hwq (fun i σ H' => Ex H3 H' ∧ (∃ x5 x6 x7 x8 x9 x10, σ = [some (.ref a), some (.int (here : Int)), some (.int (g : Int)), some (.ref F), some (.ref W), x5, x6, x7, x8, x9, x10]) ∧ ∀ p ∈ z.ps.take i, p.s = here → ∀ u, f p.g = some u → (u.1 + p.l, u.2 + 1) ≠ ab) ?_ (fun i σ H' _ h => h.1.t.sq hc') ?_ ?_⟩
      · exact ⟨Ex.refl _, ⟨_, _, _, _, _, _, rfl⟩, fun p hp => by simp at hp⟩
      · rintro i y σ H4' H4 hi ⟨e4, ⟨x5, x6, x7, x8, x9, x10, rfl⟩, hno⟩ ⟨t, y', rfl, ht, rfl, hy⟩
        obtain ⟨d, g1, g2⟩ := rb.getV hy
        rw [List.getElem?_map, List.getElem?_eq_getElem hi] at g1
        cases g1
        have okp := ok.p _ (List.getElem_mem hi)
        have hpi : z.ps[i]? = some z.ps[i] := List.getElem?_eq_getElem hi
        have htk : z.ps.take (i + 1) = z.ps.take i ++ [z.ps[i]] := by rw [List.take_add_one, hpi]; rfl
        rw [htk]
        generalize z.ps[i] = pg at g2 okp hpi
        refine ⟨t, _, rfl, .inl (.inl upd_same), rfl, _, _, rfl, _, _, rfl, rfl, ?_⟩
        have f4 := ex_new ht (o := .tup [.int (i : Nat), y'])
        have e4 := e4.trans f4
        generalize upd H4' t (.tup [.int (i : Nat), y']) = H4 at e4 ⊢
        obtain ⟨u, y1, y2, y3, y4, rfl, hu, s1, s2, s3, s4⟩ := slots4 (g2.mono e4.t)
        obtain rfl := s1.ofInt
        obtain rfl := s2.ofInt
        obtain rfl := s3.ofInt
        obtain rfl := s4.ofInt
        refine ⟨_, rfl, u, _, rfl, hu, rfl, _, _, rfl, _, _, rfl, _, _, rfl, _, _, rfl, rfl, ?_⟩
        have d4 := d3.ex e4
        have go : (∀ u, pg.s = here → f pg.g = some u → (u.1 + pg.l, u.2 + 1) ≠ ab) → ∀ p ∈ z.ps.take i ++ [pg], p.s = here → ∀ u, f p.g = some u → (u.1 + p.l, u.2 + 1) ≠ ab := fun h p hp hs u hu => by
          rcases List.mem_append.mp hp with hp | hp
          · exact hno p hp hs u hu
          · rw [List.mem_singleton.mp hp] at hs hu ⊢
            exact h u hs hu
        refine ⟨_, rfl, _, rfl, rfl, _, rfl, ?_⟩
        by_cases c1 : pg.s = here
        · refine iteT' (by rw [c1]; simp) ?_
          obtain ⟨zs', v', j1, j2, j3⟩ := d4.at okp.g
          refine ⟨_, rfl, _, rfl, F, zs', _, v', rfl, rfl, SqL.of j1, atI_nat j2, rfl, _, rfl, ?_⟩
          cases hfg : f pg.g with
          | none =>
            rw [hfg] at j3
            obtain rfl := RD.ofNon j3
            refine iteF' (by simp) (iteF ?_)
            exact ⟨e4, ⟨_, _, _, _, _, _, rfl⟩, go fun u _ hu => by rw [hfg] at hu; cases hu⟩
          | some vv =>
            rw [hfg] at j3
            obtain ⟨q', rfl, hq'⟩ := oD_ne j3
            refine iteT' (by simp) ?_
            refine ⟨_, rfl, _, rfl, F, zs', _, _, rfl, rfl, SqL.of j1, atI_nat j2, q', _, _, _, rfl, rfl, hq', rfl, _, rfl, _, _, rfl, rfl, ?_⟩
            refine ⟨_, rfl, _, rfl, F, zs', _, _, rfl, rfl, SqL.of j1, atI_nat j2, q', _, _, _, rfl, rfl, hq', rfl, _, _, rfl, rfl, two_sz _ _, fun o ho => ?_⟩
            have f5 := ex_new ho (o := .tup [.int ((vv.1 : Int) + (pg.l : Int)), .int ((vv.2 : Int) + 1)])
            have r5 : RD K (upd H4 o (.tup [.int ((vv.1 : Int) + (pg.l : Int)), .int ((vv.2 : Int) + 1)])) (oD (some (vv.1 + pg.l, vv.2 + 1))) (.ref o) := rd_new ho (.cons (.int _) (.cons (.int _) .nil))
            have e5 := e4.trans f5
            generalize upd H4 o (.tup [.int ((vv.1 : Int) + (pg.l : Int)), .int ((vv.2 : Int) + 1)]) = H5 at f5 r5 e5 ⊢
            obtain ⟨zs2, v2, l1, l2, l3⟩ := (d3.ex e5).at hh
            rw [hfh] at l3
            refine ⟨_, rfl, _, rfl, F, zs2, _, v2, rfl, rfl, SqL.of l1, atI_nat l2, eqD_use 1 ?_ ?_ (by decide) r5 l3 (fun eq => ?_) (fun ne => ?_)⟩
            · intro d hd
              rcases (by simpa using hd : d = natD (vv.1 + pg.l) ∨ d = natD (vv.2 + 1)) with rfl | rfl <;> trivial
            · intro d hd
              rcases (by simpa using hd : d = natD ab.1 ∨ d = natD ab.2) with rfl | rfl <;> trivial
            · refine ⟨_, rfl, iteT ?_⟩
              have eq : (vv.1 + pg.l, vv.2 + 1) = ab := by
                have eq := D.tup.inj eq
                simp [natD] at eq
                exact Prod.ext (by simp only; omega) (by simp only; omega)
              have hW5 := e5 _ _ hW3
              refine ⟨_, rfl, tl_list hW5, _, rfl, W, _, _, rfl, rfl, hW5, ?_, ?_⟩
              · rw [nV_len]; exact sz6 (by omega)
              refine ⟨_, rfl, ?_⟩
              have t := tex_put (o' := .lst (nV as ++ [.int (i : Int)])) hW5 (by intro xs z; cases z) (by intro a b z; cases z)
              refine ⟨vv.2, by rw [← eq]; exact Nat.lt_succ_self _, pg.g, vv, as ++ [i], _, _, _, _, _, _, rfl, ex_own (e3.trans e5) hW0, ?_, ?_, hway.snoc hpi c1, okp.g, hfg, ?_, ?_, rfl⟩
              · obtain ⟨ws, w1, w2⟩ := d3.ex e5
                exact ⟨ws, by rw [upd_ne hFW]; exact w1, w2.mono t⟩
              · rw [upd_same, nV_snoc]
              · rw [lenW_snoc hpi, ← hlen, ← eq]; simp only; omega
              · rw [List.length_append, ← hcnt, ← eq]; simp only [List.length_cons, List.length_nil]; omega
            · refine ⟨_, rfl, iteF ?_⟩
              refine ⟨e5, ⟨_, _, _, _, _, _, rfl⟩, go fun u _ hu => ?_⟩
              rw [hfg] at hu
              cases hu
              exact fun z => ne (by rw [← z])
        · refine iteF' (by rw [decide_eq_false]; intro z; injection z with z; omega) (iteF ?_)
          exact ⟨e4, ⟨_, _, _, _, _, _, rfl⟩, go fun u hs => absurd hs c1⟩
      · rintro σ H4 ⟨e4, ⟨x5, x6, x7, x8, x9, x10, rfl⟩, hno⟩
        rw [hb] at hfh
        obtain ⟨p, hp, hs, a', g1, g2⟩ := B.step hfh
        rw [List.take_of_length_le (Nat.le_refl _)] at hno
        exact absurd (by rw [hb, ← g2]) (hno p hp hs (a', b) g1)
    · have c : ab.2 = 0 := by have := of_decide_eq_false c; omega
      have hab : ab = (ab.1, 0) := Prod.ext rfl c
      rw [hab] at hfh
      obtain ⟨rfl, h0⟩ := B.end_ hfh
      refine ⟨_, rfl, W, _, rfl, .inl ⟨SqL.of hW3, fun u hu => ?_⟩⟩
      refine kW as _ _ (e3.trans (ex_new hu)) hway (fun L c h => ?_) (by omega) (rd_new hu ?_)
      · obtain ⟨u, j1, j2⟩ := B.com _ _ _ h
        rw [hf] at j1
        cases j1
        unfold leQ at j2
        simp only at j2
        omega
      · rw [natD_int]; exact RDs.ofInts _ _ _
end
end K09
/-! Ways told, and looked at. -/
namespace K09
open PySem PySem.Spec
open PyProof.Rows L2 Sl Pm
section
variable {P : Program} {w : World} {K : PySem.W.Frag} {mg : Str → Option Value} {base : Heap} {H H0 H1 H2 : Hp} {E : XK} {Q : VK} {m n e : Nat} {σ : L2.St}
theorem dr_at {z : Mz} {i : Nat} (h : i < z.ds.length) : (nV z.ds)[i]? = some (.int (dr z i : Int)) := by
  refine nV_get ?_
  unfold dr
  rw [List.getD_eq_getElem?_getD, List.getElem?_eq_getElem h]
  rfl
theorem dr_lt {z : Mz} (ok : MzOk z) {i : Nat} (h : i < z.ds.length) : dr z i < z.n := ok.d _ (getD_mem h)
/-- a maze's slots -/
theorem mzS {z : Mz} {v : V} (h : RD K H (mzD z) v) : ∃ a b c xs, v = .ref a ∧ SqT K H a [.int (z.n : Int), .ref b, .ref c] ∧ SqT K H b xs ∧ RDs K H (z.ps.map pgD) xs ∧ xs.length = z.ps.length ∧ SqT K H c (nV z.ds) := by
  obtain ⟨a, x1, x2, x3, rfl, ha, r1, r2, r3⟩ := slots3 h
  obtain rfl := r1.ofInt
  obtain ⟨b, xs, rfl, hb, rb⟩ := r2.ofTup
  obtain ⟨c, ys, rfl, hc, rc⟩ := r3.ofTup
  have lx := rb.len
  rw [List.length_map] at lx
  rw [natD_int] at rc
  obtain rfl := rc.ints
  exact ⟨a, b, c, xs, rfl, ha, hb, rb, lx, hc⟩
/-- a maze's passage -/
theorem pgS {z : Mz} {xs : List V} {i : Nat} {p : Pg} (h : RDs K H (z.ps.map pgD) xs) (hp : z.ps[i]? = some p) : ∃ t, xs[i]? = some (.ref t) ∧ SqT K H t [.int (p.s : Int), .int (p.g : Int), .int (p.l : Int), .int (p.w : Int)] := by
  obtain ⟨v, h1, h2⟩ := h.get (show (z.ps.map pgD)[i]? = some (pgD p) by rw [List.getElem?_map, hp]; rfl)
  obtain ⟨t, y1, y2, y3, y4, rfl, ht, s1, s2, s3, s4⟩ := slots4 h2
  obtain rfl := s1.ofInt
  obtain rfl := s2.ofInt
  obtain rfl := s3.ofInt
  obtain rfl := s4.ofInt
  exact ⟨t, h1, ht⟩
def spLeastWay (K : PySem.W.Frag) : Sp := fun vs H Q _ => ∃ (z : Mz) (v : V) (i j : Nat), vs = [v, .int (i : Int), .int (j : Int)] ∧ RD K H (mzD z) v ∧ MzOk z ∧ i < z.ds.length ∧ j < z.ds.length ∧
  (∀ H', Ex H H' → (∀ L c, ¬ Wk z.ps 0 (dr z i) (dr z j) L c) → Q .non H') ∧
  (∀ as u H', Ex H H' → Way z.ps (dr z i) (dr z j) as → (∀ L c, Wk z.ps 0 (dr z i) (dr z j) L c → lenW z.ps as ≤ L) → as.length ≤ z.n → RD K H' (.tup (as.map natD)) u → Q u H')
theorem ok_leastWay (T : Tx K mg) : Has P w K mg base 6 (a_least_way K) p_least_way (spLeastWay K) := by
  refine has_of (f_least_way T) (z_least_way T) (b_least_way T) (fun vs H Q E h => by obtain ⟨_, _, _, _, rfl, _⟩ := h; rfl) (fun cdv A outer s H vs Q E hr h => ?_)
  obtain ⟨z, v, i, j, rfl, rv, ok, hi, hj, kN, kW⟩ := h
  have h_need_doors := ok_needDoors (P := P) (w := w) (base := base) T
  have h_first_way := ok_firstWay (P := P) (w := w) (base := base) T
  refine ⟨_, (pss_cons (ps_expr (pcall h_need_doors (hr.mono (by omega)) (g_need_doors T) (pa_cons (pv 0) (pa_cons (pv 1) (pa_cons (pv 2) pa_nil)))))
  (pss_one (ps_ret (pcall h_first_way (hr.mono (by omega)) (g_first_way T) (pa_cons (pv 0) (pa_cons (pe_ix (ixT K) (pe_ix (ixT K) (pv 0) pe_int (fun _ _ => rfl)) (pv 1) (fun _ _ => rfl)) (pa_cons (pe_ix (ixT K) (pe_ix (ixT K) (pv 0) pe_int (fun _ _ => rfl)) (pv 2) (fun _ _ => rfl)) pa_nil))))))), ?_⟩
  refine ⟨_, rfl, _, rfl, _, rfl, z, v, i, j, rfl, rv, ok, hi, hj, fun H1 e1 => ?_⟩
  obtain ⟨a, b, c, xs, rfl, ha, hb, rb, lx, hc⟩ := mzS (rv.mono e1.t)
  refine ⟨_, rfl, _, rfl, a, _, _, _, rfl, rfl, ha, rfl, _, rfl, c, _, _, _, rfl, rfl, hc, atI_nat (dr_at hi), ?_⟩
  refine ⟨_, rfl, a, _, _, _, rfl, rfl, ha, rfl, _, rfl, c, _, _, _, rfl, rfl, hc, atI_nat (dr_at hj), ?_⟩
  exact ⟨z, _, dr z i, dr z j, rfl, rv.mono e1.t, ok, dr_lt ok hi, dr_lt ok hj, fun H' e' h => kN _ (e1.trans e') h, fun as u H' e' h1 h2 h3 r => kW as u _ (e1.trans e') h1 h2 h3 r⟩
/-- the places of passages so wide -/
def plc (ps : List Pg) (t : Nat) : Nat → List Nat
  | 0 => []
  | k + 1 => if t ≤ (ps[k]?.map (·.w)).getD 0 then plc ps t k ++ [k] else plc ps t k
theorem plc_len (ps : List Pg) (t : Nat) : ∀ k, (plc ps t k).length ≤ k
  | 0 => Nat.le_refl _
  | k + 1 => by
    have := plc_len ps t k
    unfold plc
    split
    · rw [List.length_append]; simp; omega
    · omega
theorem plc_mem {ps : List Pg} {t a : Nat} : ∀ {k}, a ∈ plc ps t k ↔ a < k ∧ t ≤ (ps[a]?.map (·.w)).getD 0
  | 0 => by simp [plc]
  | k + 1 => by
    unfold plc
    split
    · rename_i h
      rw [List.mem_append, plc_mem, List.mem_singleton]
      constructor
      · rintro (h1 | rfl)
        · exact ⟨by omega, h1.2⟩
        · exact ⟨by omega, h⟩
      · rintro ⟨h1, h2⟩
        by_cases e : a = k
        · exact .inr e
        · exact .inl ⟨by omega, h2⟩
    · rename_i h
      rw [plc_mem]
      constructor
      · exact fun ⟨h1, h2⟩ => ⟨by omega, h2⟩
      · rintro ⟨h1, h2⟩
        refine ⟨?_, h2⟩
        by_cases e : a = k
        · subst e; exact absurd h2 h
        · omega
def flt (ps : List Pg) (t : Nat) : List Pg := (plc ps t ps.length).map fun a => ⟨(ps[a]?.map (·.s)).getD 0, (ps[a]?.map (·.g)).getD 0, 1, 1⟩
theorem flt_at {ps : List Pg} {t a : Nat} {q : Pg} (h : (flt ps t)[a]? = some q) : ∃ b p, (plc ps t ps.length)[a]? = some b ∧ ps[b]? = some p ∧ t ≤ p.w ∧ q = ⟨p.s, p.g, 1, 1⟩ := by
  unfold flt at h
  rw [List.getElem?_map] at h
  cases hb : (plc ps t ps.length)[a]? with
  | none => rw [hb] at h; cases h
  | some b =>
    rw [hb] at h
    obtain ⟨h1, h2⟩ := plc_mem.mp (List.mem_of_getElem? hb)
    have e : ps[b]? = some ps[b] := List.getElem?_eq_getElem h1
    rw [e] at h2
    refine ⟨b, ps[b], rfl, e, h2, ?_⟩
    have h : some _ = some q := h
    injection h with h
    rw [← h]
    dsimp only
    rw [e]
    rfl
theorem flt_way {ps : List Pg} {t j : Nat} : ∀ {as : List Nat} {i : Nat}, Way (flt ps t) i j as → Way ps i j (as.map fun a => (plc ps t ps.length).getD a 0) ∧ ∀ b ∈ as.map fun a => (plc ps t ps.length).getD a 0, ∀ p, ps[b]? = some p → t ≤ p.w
  | [], _, h => ⟨h, fun b hb => by cases hb⟩
  | a :: as, i, ⟨q, h1, h2, h3⟩ => by
    obtain ⟨b, p, g1, g2, g3, rfl⟩ := flt_at h1
    obtain ⟨k1, k2⟩ := flt_way h3
    have e : (plc ps t ps.length).getD a 0 = b := by rw [List.getD_eq_getElem?_getD, g1]; rfl
    refine ⟨⟨p, by dsimp only; rw [e]; exact g2, h2, k1⟩, fun c hc p' hp' => ?_⟩
    rcases List.mem_cons.mp hc with rfl | hc
    · dsimp only at hp'
      rw [e, g2] at hp'
      cases hp'
      exact g3
    · exact k2 c hc p' hp'
theorem flt_wk {ps : List Pg} {t i j L c : Nat} (h : Wk ps t i j L c) : Wk (flt ps t) 0 i j c c := by
  induction h with
  | nil i => exact .nil i
  | @cons p j L c hp hw _ ih =>
    obtain ⟨a, ha, e⟩ := List.getElem_of_mem hp
    have ha' : ps[a]? = some p := by rw [List.getElem?_eq_getElem ha, e]
    have hm : (⟨p.s, p.g, 1, 1⟩ : Pg) ∈ flt ps t := List.mem_map.mpr ⟨a, plc_mem.mpr ⟨ha, by rw [ha']; exact hw⟩, by rw [ha']; rfl⟩
    have := Wk.cons hm (Nat.zero_le _) ih
    rw [Nat.add_comm] at this
    exact this
theorem flt_ok {z : Mz} (ok : MzOk z) (t : Nat) : MzOk ⟨z.n, flt z.ps t, z.ds⟩ := by
  refine ⟨ok.n, ?_, ok.dl, fun q hq => ?_, ok.d⟩
  · have := plc_len z.ps t z.ps.length
    have := ok.pl
    show (flt z.ps t).length ≤ 120
    unfold flt
    rw [List.length_map]
    omega
  · obtain ⟨a, ha, e⟩ := List.getElem_of_mem hq
    obtain ⟨b, p, _, g2, _, rfl⟩ := flt_at (show (flt z.ps t)[a]? = some q by rw [List.getElem?_eq_getElem ha, e])
    have := ok.p p (List.mem_of_getElem? g2)
    exact ⟨this.s, this.g, ⟨Nat.le_refl _, by show 1 ≤ 50; decide⟩, ⟨Nat.le_refl _, by show 1 ≤ 99; decide⟩⟩
def spWideWay (K : PySem.W.Frag) : Sp := fun vs H Q _ => ∃ (z : Mz) (v : V) (i j : Nat), vs = [v, .int (i : Int), .int (j : Int)] ∧ RD K H (mzD z) v ∧ MzOk z ∧ i < z.ds.length ∧ j < z.ds.length ∧
  (∀ H', Ex H H' → (∀ L c, ¬ Wk z.ps 1 (dr z i) (dr z j) L c) → Q .non H') ∧
  (∀ t as u H', Ex H H' → 1 ≤ t → (∀ t', 1 ≤ t' → t' ≤ 1000 → ∀ L c, Wk z.ps t' (dr z i) (dr z j) L c → t' ≤ t) → Way z.ps (dr z i) (dr z j) as → (∀ a ∈ as, ∀ p, z.ps[a]? = some p → t ≤ p.w) → as.length ≤ z.n → RD K H' (.tup (as.map natD)) u → Q u H')
theorem ok_wideWay (T : Tx K mg) : Has P w K mg base 6 (a_wide_way K) p_wide_way (spWideWay K) := by
  refine has_of (f_wide_way T) (z_wide_way T) (b_wide_way T) (fun vs H Q E h => by obtain ⟨_, _, _, _, rfl, _⟩ := h; rfl) (fun cdv A outer s H vs Q E hr h => ?_)
  obtain ⟨z, v, i, j, rfl, rv, ok, hi, hj, kN, kW⟩ := h
  have h_need_doors := ok_needDoors (P := P) (w := w) (base := base) T
  have h_first_way := ok_firstWay (P := P) (w := w) (base := base) T
  have h_widest := ok_widest (P := P) (w := w) (base := base) T
  refine ⟨_, (pss_cons (ps_expr (pcall h_need_doors (hr.mono (by omega)) (g_need_doors T) (pa_cons (pv 0) (pa_cons (pv 1) (pa_cons (pv 2) pa_nil)))))
  (pss_cons (ps_par (i := 3) (j := 4) rfl (z_wide_way T).nd rfl rfl (by decide) rfl rfl (pa_cons (pe_ix (ixT K) (pe_ix (ixT K) (pv 0) pe_int (fun _ _ => rfl)) (pv 1) (fun _ _ => rfl)) (pa_cons (pe_ix (ixT K) (pe_ix (ixT K) (pv 0) pe_int (fun _ _ => rfl)) (pv 2) (fun _ _ => rfl)) pa_nil)) rfl)
  (pss_cons (ps_set (i := 5) (z_wide_way T).nd rfl (Or.inr rfl) (pe_ix (ixL K) (pcall h_widest (hr.mono (by omega)) (g_widest T) (pa_cons (pv 0) (pa_cons (pv 4) pa_nil))) (pv 3) (fun _ _ => rfl)))
  (pss_cons (ps_if (pt_cmpR op_eq (pv 5) pe_int (nomark _)) (pss_one (ps_ret pe_non)) pss_nil)
  (pss_cons (ps_set (i := 6) (z_wide_way T).nd rfl (Or.inr rfl) (pe_lc (own := [("at", 7), ("own", 8)]) rfl (z_wide_way T).nd (pi_enumT (by rfl) (l_enumerate T) (pa_cons (pe_ix (ixT K) (pv 0) pe_int (fun _ _ => rfl)) pa_nil)) (blkOk_by (N := n_wide_way) (sc := defScope s_wide_way) (by decide +kernel)) (fun _ _ _ _ _ => by exact (tupK K (n := 2) (pgs_cons (pg_name (i := 7) (z_wide_way T).nd rfl (Or.inl rfl)) (pgs_cons (pg_name (i := 8) (z_wide_way T).nd rfl (Or.inl rfl)) pgs_nil)))) (fun _ _ _ _ _ => by exact (pts_one (pt_cmpR oGeI (pe_ix (ixT K) (pv 8) pe_int (fun _ _ => rfl)) (pv 5) (nomark _)))) (fun _ _ _ _ _ => by exact (pv 7))))
  (pss_cons (ps_setLc (i := 9) (own := [("at", 7)]) rfl (z_wide_way T).nd rfl rfl (sw_true rfl rfl rfl (by decide +kernel)) (listW K (pv 6)) (blkOk_by (N := n_wide_way) (sc := defScope s_wide_way) (by decide +kernel)) (fun _ _ _ _ _ => by exact (pg_name (i := 7) (z_wide_way T).nd rfl (Or.inl rfl))) (fun _ _ _ _ _ => by exact pts_nil) (fun _ _ _ _ _ => by exact (pe_op (catT K) (pe_slice (slT K) (pe_ix (ixT K) (pe_ix (ixT K) (pv 0) pe_int (fun _ _ => rfl)) (pv 7) (fun _ _ => rfl)) po_none (po_some pe_int)) (pe_tup (pa_cons pe_int (pa_cons pe_int pa_nil))))))
  (pss_one (ps_ret (pe_callTy (tupleK K) (by rfl) (l_tuple T) (by decide +kernel) (pa_cons (pe_lc (own := [("at", 7)]) rfl (z_wide_way T).nd (tupW K (pcall h_first_way (hr.mono (by omega)) (g_first_way T) (pa_cons (pe_tup (pa_cons (pe_ix (ixT K) (pv 0) pe_int (fun _ _ => rfl)) (pa_cons (pe_callTy (tupleK K) (by rfl) (l_tuple T) (by decide +kernel) (pa_cons (pv 9) pa_nil)) (pa_cons (pe_ix (ixT K) (pv 0) pe_int (fun _ _ => rfl)) pa_nil)))) (pa_cons (pv 3) (pa_cons (pv 4) pa_nil))))) (blkOk_by (N := n_wide_way) (sc := defScope s_wide_way) (by decide +kernel)) (fun _ _ _ _ _ => by exact (pg_name (i := 7) (z_wide_way T).nd rfl (Or.inl rfl))) (fun _ _ _ _ _ => by exact pts_nil) (fun _ _ _ _ _ => by exact (pe_ix (ixL K) (pv 6) (pv 7) (fun _ _ => rfl)))) pa_nil)))))))))), ?_⟩
  refine ⟨_, rfl, _, rfl, _, rfl, z, v, i, j, rfl, rv, ok, hi, hj, fun H1 e1 => ?_⟩
  obtain ⟨a, b, c, xs, rfl, ha, hb, rb, lx, hc⟩ := mzS (rv.mono e1.t)
  refine ⟨_, rfl, a, _, _, _, rfl, rfl, ha, rfl, _, rfl, c, _, _, _, rfl, rfl, hc, atI_nat (dr_at hi), ?_⟩
  refine ⟨_, rfl, a, _, _, _, rfl, rfl, ha, rfl, _, rfl, c, _, _, _, rfl, rfl, hc, atI_nat (dr_at hj), ?_⟩
  refine ⟨_, _, rfl, ?_⟩
  have hx := dr_lt ok hi
  have hg := dr_lt ok hj
  have opl := ok.pl
  refine ⟨_, rfl, _, rfl, z, _, dr z j, rfl, rv.mono e1.t, ok, hg, fun F H2 e2 hF d2 => ?_⟩
  obtain ⟨ys, u, h1, h2, h3⟩ := d2.at hx
  obtain rfl := RD.ofInt h3
  have hiff := fun t h1 h2 => wf_iff (t := t) (x := dr z i) (fun p hp => (ok.p p hp).s) hg h1 h2
  have htop := wf_top (ps := z.ps) (room := dr z j) z.n (dr z i)
  generalize wf z.ps (dr z j) z.n (dr z i) = t at h2 h3 hiff htop
  have e12 := e1.trans e2
  refine ⟨_, rfl, F, ys, _, _, rfl, rfl, SqL.of h1, atI_nat h2, ?_⟩
  refine ⟨_, rfl, rfl, _, rfl, ?_⟩
  by_cases ht : t = 0
  · refine iteT' (by rw [ht]; rfl) (kN _ e12 fun L c h => ?_)
    have := (hiff 1 (Nat.le_refl _) (by decide)).mpr ⟨L, c, h⟩
    omega
  · refine iteF' (by rw [decide_eq_false]; intro zz; injection zz with zz; omega) ?_
    have hb2 := e2.t.sq hb
    have ha2 := e2.t.sq ha
    have hc2 := e2.t.sq hc
    have rb2 := rb.mono e2.t
    have hwq := walk_Q (K := K) (a := b) (xs := xs)
    rw [lx] at hwq
    refine ⟨_, rfl, a, _, _, _, rfl, rfl, ha2, rfl, b, xs, rfl, hb2, fun l hl => lcD (K := K) hl hwq (fun k => (plc z.ps t k).map natD) rfl (fun H' e' => e'.t.sq hb2) (fun k hk => by rw [List.length_map]; have := plc_len z.ps t k; omega) (fun k y H3' H3 hk e3 yy R N kR kN' => ?_) (fun H4 ps e4 hl4 r4 => ?_)⟩
    · obtain ⟨tt, y', rfl, htt, rfl, hy⟩ := yy
      have hpk : z.ps[k]? = some z.ps[k] := List.getElem?_eq_getElem hk
      obtain ⟨q, q1, q2⟩ := pgS rb2 hpk
      rw [hy] at q1
      cases q1
      have f3 := ex_new htt (o := .tup [.int (k : Nat), .ref q])
      have q3 := (e3.trans f3).t.sq q2
      refine ⟨tt, _, rfl, .inl (.inl upd_same), rfl, _, _, rfl, _, _, rfl, rfl, rfl, ?_⟩
      refine ⟨_, rfl, q, _, _, _, rfl, rfl, q3, rfl, _, rfl, _, _, rfl, rfl, _, rfl, ifBH (fun cc => ?_) (fun cc => ?_)⟩
      · have cc : t ≤ z.ps[k].w := by have := of_decide_eq_true cc; omega
        refine ⟨_, rfl, kR _ _ (natD k) f3 (.int _) ?_⟩
        show (plc z.ps t (k + 1)).map natD = _
        rw [plc, if_pos (by rw [hpk]; exact cc), List.map_append]
        rfl
      · have cc : ¬ t ≤ z.ps[k].w := by have := of_decide_eq_false cc; omega
        refine kN' _ f3 ?_
        show (plc z.ps t (k + 1)).map natD = _
        rw [plc, if_neg (by rw [hpk]; exact cc)]
    · rw [natD_int] at r4
      obtain rfl := r4.ints
      have hl4 : H4 l = some (.lst (nV (plc z.ps t z.ps.length))) := hl4
      have hml := plc_len z.ps t z.ps.length
      have hwl := walk_list (K := K) (a := l) (xs := nV (plc z.ps t z.ps.length))
      rw [nV_len] at hwl
      have hpd : ∀ pp : List Nat, pp.length = pp.length := fun _ => rfl
      refine ⟨_, rfl, l, rfl, ⟨_, SqL.of hl4⟩, fun l2 hl2 => lcD (K := K) hl2 hwl (fun k => ((flt z.ps t).take k).map pgD) rfl (fun H' e' => SqL.of (e' _ _ hl4)) (fun k hk => by rw [List.length_map, List.length_take]; omega) (fun k y H5' H5 hk e5 yy R N kR kN' => ?_) (fun H6 zs e6 hl6 r6 => ?_)⟩
      · obtain ⟨rfl, hy⟩ := yy
        obtain ⟨x, hx', rfl⟩ := nV_at hy
        have hxp := plc_mem.mp (List.mem_of_getElem? hx')
        have hpk : z.ps[x]? = some z.ps[x] := List.getElem?_eq_getElem hxp.1
        obtain ⟨q, q1, q2⟩ := pgS rb2 hpk
        have e25 := e4.trans e5
        have q3 := e25.t.sq q2
        refine ⟨rfl, _, rfl, a, _, _, _, rfl, rfl, e25.t.sq ha2, rfl, _, rfl, b, _, _, _, rfl, rfl, e25.t.sq hb2, atI_nat q1, ?_⟩
        have rq : RD K H5 (.tup [natD z.ps[x].s, natD z.ps[x].g, natD z.ps[x].l, natD z.ps[x].w]) (.ref q) := .tup q3 (.cons (.int _) (.cons (.int _) (.cons (.int _) (.cons (.int _) .nil))))
        refine ⟨_, rfl, ?_⟩
        refine slTo (jj := 2) rq 2 rfl fun u1 H7 e7 r7 => ?_
        refine ⟨two_sz _ _, fun pq hpq => ?_⟩
        have f8 := ex_new hpq (o := .tup [.int 1, .int 1])
        refine catRD (r7.mono f8.t) (rd_new hpq (.cons (.int 1) (.cons (.int 1) .nil)) : RD K _ (.tup [.int 1, .int 1]) _) (by show 2 + 2 ≤ 1000; decide) fun u2 H9 e9 r9 => ?_
        refine kR _ _ (pgD ⟨z.ps[x].s, z.ps[x].g, 1, 1⟩) ((e7.trans f8).trans e9) r9 ?_
        have : (flt z.ps t)[k]? = some ⟨z.ps[x].s, z.ps[x].g, 1, 1⟩ := by
          unfold flt
          rw [List.getElem?_map, hx']
          show some (Pg.mk ((z.ps[x]?.map (·.s)).getD 0) ((z.ps[x]?.map (·.g)).getD 0) 1 1) = _
          rw [hpk]
          rfl
        rw [List.take_add_one, this, List.map_append]
        rfl
      · have r6 : RDs K H6 ((flt z.ps t).map pgD) zs := by
          have e : (flt z.ps t).take (plc z.ps t z.ps.length).length = flt z.ps t := List.take_of_length_le (by unfold flt; rw [List.length_map]; exact Nat.le_refl _)
          rw [e] at r6
          exact r6
        have e26 := e4.trans e6
        have ha6 := e26.t.sq ha2
        have rv6 := rv.mono ((e12.trans e26)).t
        refine ⟨_, rfl, a, _, _, _, rfl, rfl, ha6, rfl, ?_⟩
        refine ⟨_, rfl, l2, _, rfl, .inl ⟨SqL.of hl6, fun u2 hu2 => ?_⟩⟩
        have f7 := ex_new hu2 (o := .tup zs)
        have r7 := rd_new hu2 r6
        refine ⟨_, rfl, a, _, _, _, rfl, rfl, f7.t.sq ha6, rfl, three_sz _ _ _, fun mq hmq => ?_⟩
        have rc7 : RD K H6 (.tup (z.ds.map natD)) (.ref c) := by rw [natD_int]; exact rd_ints _ (e26.t.sq hc2)
        have r8 := tup3 (d1 := natD z.n) (.int _) r7 (rc7.mono f7.t) hmq
        have f8 := f7.trans (ex_new hmq (o := .tup [.int (z.n : Int), .ref u2, .ref c]))
        refine ⟨_, rfl, _, rfl, ⟨z.n, flt z.ps t, z.ds⟩, _, dr z i, dr z j, rfl, r8, flt_ok ok t, hx, hg, fun H' e' hno => ?_, fun as u H9 e9 hway _ hal ru => ?_⟩
        · obtain ⟨L, cc, hw⟩ := (hiff t (by omega) htop).mp (Nat.le_refl _)
          exact absurd (flt_wk hw) (hno _ _)
        · obtain ⟨aa, ws, rfl, haa, raa⟩ := ru.ofTup
          rw [natD_int] at raa
          obtain rfl := raa.ints
          have haa : SqT K H9 aa (nV as) := haa
          have hwt := walk_tup (K := K) (a := aa) (xs := nV as)
          rw [nV_len] at hwt
          have e69 := f8.trans e9
          have o1 := ok.n
          have hal : as.length ≤ z.n := hal
          refine ⟨aa, rfl, ⟨_, haa⟩, fun l3 hl3 => lcD (K := K) hl3 hwt (fun k => ((as.take k).map fun a => (plc z.ps t z.ps.length).getD a 0).map natD) rfl (fun H' e' => e'.t.sq haa) (fun k hk => by rw [List.length_map, List.length_map, List.length_take]; omega) (fun k y H5' H5 hk e5 yy R N kR kN' => ?_) (fun H10 ws e10 hl10 r10 => ?_)⟩
          · obtain ⟨rfl, hy⟩ := yy
            obtain ⟨x, hx', rfl⟩ := nV_at hy
            have hxl := hway.lt x (List.mem_of_getElem? hx')
            have hxl : x < (plc z.ps t z.ps.length).length := by
              have : (flt z.ps t).length = _ := List.length_map _
              exact this ▸ hxl
            have hl5 := (e6.trans (e69.trans e5)) _ _ hl4
            have hg2 : (nV (plc z.ps t z.ps.length))[x]? = some (.int ((plc z.ps t z.ps.length).getD x 0 : Int)) := by
              refine nV_get ?_
              rw [List.getD_eq_getElem?_getD, List.getElem?_eq_getElem hxl]
              rfl
            refine ⟨rfl, _, rfl, _, rfl, l, _, _, _, rfl, rfl, SqL.of hl5, atI_nat hg2, ?_⟩
            refine kR _ _ (natD ((plc z.ps t z.ps.length).getD x 0)) (Ex.refl _) (.int _) ?_
            rw [List.take_add_one, hx', List.map_append, List.map_append]
            rfl
          · rw [List.take_of_length_le (Nat.le_refl _)] at r10
            obtain ⟨k1, k2⟩ := flt_way hway
            refine ⟨l3, _, rfl, .inl ⟨SqL.of hl10, fun u3 hu3 => ?_⟩⟩
            refine kW t _ _ _ (((e12.trans e26).trans (e69.trans e10)).trans (ex_new hu3)) (by omega) (fun t' g1 g2 L cc hw => (hiff t' g1 g2).mpr ⟨L, cc, hw⟩) k1 k2 (by rw [List.length_map]; exact hal) (rd_new hu3 r10)
end
end K09
/-! Papers: ways and bounds looked at. -/
namespace K09
open PySem PySem.Spec
open PyProof.Rows L2 Sl Pm
section
variable {P : Program} {w : World} {K : PySem.W.Frag} {mg : Str → Option Value} {base : Heap} {H H0 H1 H2 : Hp} {E : XK} {Q : VK} {m n e : Nat} {σ : L2.St}
theorem tupN {as : List Nat} {u : V} (h : RD K H (.tup (as.map natD)) u) : ∃ a, u = .ref a ∧ SqT K H a (nV as) := by
  rw [natD_int] at h
  exact slotsI h
def spIsWay (K : PySem.W.Frag) : Sp := fun vs H Q _ => ∃ (z : Mz) (v u : V) (i j : Nat) (as : List Nat), vs = [v, .int (i : Int), .int (j : Int), u] ∧ RD K H (mzD z) v ∧ MzOk z ∧ i < z.ds.length ∧ j < z.ds.length ∧ RD K H (.tup (as.map natD)) u ∧ as.length ≤ 1000 ∧ Way z.ps (dr z i) (dr z j) as ∧ ∀ H', Ex H H' → Q (.bl true) H'
theorem ok_isWay (T : Tx K mg) : Has P w K mg base 6 (a_is_way K) p_is_way (spIsWay K) := by
  refine has_of (f_is_way T) (z_is_way T) (b_is_way T) (fun vs H Q E h => by obtain ⟨_, _, _, _, _, _, rfl, _⟩ := h; rfl) (fun cdv A outer s H vs Q E hr h => ?_)
  obtain ⟨z, v, u, i, j, as, rfl, rv, ok, hi, hj, ru, hal, hway, k⟩ := h
  have h_need_doors := ok_needDoors (P := P) (w := w) (base := base) T
  have h_is_whole := ok_whole (P := P) (w := w) (base := base) T
  refine ⟨_, (pss_cons (ps_expr (pcall h_need_doors (hr.mono (by omega)) (g_need_doors T) (pa_cons (pv 0) (pa_cons (pv 1) (pa_cons (pv 2) pa_nil)))))
  (pss_cons (ps_if (PW.pt (pw_or (pt_not (pt_val (pe_callB (isiK K) (by rfl) (l_isinstance T) (by decide +kernel) (pa_cons (pv 3) (pa_cons (pe_bltn (v := .ty "tuple") (u := .type "tuple") rfl (l_tuple T) (by decide +kernel) rfl) pa_nil))))) (pw_or1 (pt_not (pt_val (pe_callB (cr_all rfl) (by rfl) (l_all T) (by decide +kernel) (pa_cons (pe_lc (own := [("own", 4)]) rfl (z_is_way T).nd (tupW K (pv 3)) (blkOk_by (N := n_is_way) (sc := defScope s_is_way) (by decide +kernel)) (fun _ _ _ _ _ => by exact (pg_name (i := 4) (z_is_way T).nd rfl (Or.inl rfl))) (fun _ _ _ _ _ => by exact pts_nil) (fun _ _ _ _ _ => by exact (pcall h_is_whole (hr.mono (by omega)) (g_is_whole T) (pa_cons (pv 4) (pa_cons pe_int (pa_cons (pe_op oSubI (pe_callB (lenK K) (by rfl) (l_len T) (by decide +kernel) (pa_cons (pe_ix (ixT K) (pv 0) pe_int (fun _ _ => rfl)) pa_nil)) pe_int) pa_nil)))))) pa_nil))))))) (pss_one (ps_ret pe_bl)) pss_nil)
  (pss_cons (ps_set (i := 5) (z_is_way T).nd rfl (Or.inl rfl) (pe_ix (ixT K) (pe_ix (ixT K) (pv 0) pe_int (fun _ _ => rfl)) (pv 1) (fun _ _ => rfl)))
  (pss_cons (ps_for (passes_of rfl) rfl (tupW K (pv 3)) (pg_name (i := 4) (z_is_way T).nd rfl (Or.inl rfl)) (pss_cons (ps_if (pt_cmpR op_ne (pe_ix (ixT K) (pe_ix (ixT K) (pe_ix (ixT K) (pv 0) pe_int (fun _ _ => rfl)) (pv 4) (fun _ _ => rfl)) pe_int (fun _ _ => rfl)) (pv 5) (nomark _)) (pss_one (ps_ret pe_bl)) pss_nil)
  (pss_one (ps_set (i := 5) (z_is_way T).nd rfl (Or.inl rfl) (pe_ix (ixT K) (pe_ix (ixT K) (pe_ix (ixT K) (pv 0) pe_int (fun _ _ => rfl)) (pv 4) (fun _ _ => rfl)) pe_int (fun _ _ => rfl))))))
  (pss_one (ps_ret (pe_cmpR op_eq (pv 5) (pe_ix (ixT K) (pe_ix (ixT K) (pv 0) pe_int (fun _ _ => rfl)) (pv 2) (fun _ _ => rfl)) (nomark _)))))))), ?_⟩
  refine ⟨_, rfl, _, rfl, _, rfl, z, v, i, j, rfl, rv, ok, hi, hj, fun H1 e1 => ?_⟩
  obtain ⟨a, b, c, xs, rfl, ha, hb, rb, lx, hc⟩ := mzS (rv.mono e1.t)
  obtain ⟨uu, rfl, hu⟩ := tupN (ru.mono e1.t)
  have o2 := ok.pl
  refine ⟨_, rfl, _, _, _, _, true, rfl, .ty _, tyT hu, kit_ty (by decide +kernel), true, rfl, iteF ?_⟩
  have hwt := walk_tup (K := K) (a := uu) (xs := nV as)
  rw [nV_len] at hwt
  refine ⟨_, rfl, uu, rfl, ⟨_, hu⟩, fun l hl => lcD (K := K) hl hwt (fun i => List.replicate i (.bl true)) rfl (fun H' e' => e'.t.sq hu) (fun i hi => by rw [List.length_replicate]; omega) (fun q x H2' H2 hq e2 y R N kR kN => ?_) (fun H3 zs e3 hz r => ?_)⟩
  · obtain ⟨rfl, hx⟩ := y
    obtain ⟨y, hy, rfl⟩ := nV_at hx
    have hyl := hway.lt y (List.mem_of_getElem? hy)
    refine ⟨rfl, _, rfl, _, rfl, a, _, _, _, rfl, rfl, e2.t.sq ha, rfl, b, _, rfl, .inr (e2.t.sq hb), _, _, rfl, rfl, _, _, _, rfl, ?_⟩
    rw [lx, wh (by omega) (by omega)]
    exact kR _ _ _ (Ex.refl _) (.bl _) (rep_succ _ _)
  · obtain rfl := trues r
    refine ⟨_, _, rfl, SqL.of hz, true, by rw [all_trues], iteF ?_⟩
    have ha3 := e3.t.sq ha
    have hb3 := e3.t.sq hb
    have hc3 := e3.t.sq hc
    have hu3 := e3.t.sq hu
    have rb3 := rb.mono e3.t
    refine ⟨_, rfl, a, _, _, _, rfl, rfl, ha3, rfl, _, rfl, c, _, _, _, rfl, rfl, hc3, atI_nat (dr_at hi), ?_⟩
    refine ⟨_, rfl, uu, rfl, ⟨_, hu3⟩, for_it hwt (fun q σ H' => H' = H3 ∧ (∃ x4 r, σ = [some (.ref a), some (.int (i : Int)), some (.int (j : Int)), some (.ref uu), x4, some (.int ((r : Nat) : Int))] ∧ Way z.ps r (dr z j) (as.drop q))) ?_ (fun q σ H' _ h => by rw [h.1]; exact hu3) ?_ ?_⟩
    · exact ⟨rfl, _, dr z i, rfl, hway⟩
    · rintro q x σ H4' H4 hq ⟨rfl, x4, rr, rfl, hw⟩ ⟨rfl, hx⟩
      obtain ⟨y, hy, rfl⟩ := nV_at hx
      have hd : as.drop q = y :: as.drop (q + 1) := by
        rw [List.drop_eq_getElem_cons hq]
        rw [List.getElem?_eq_getElem hq] at hy
        cases hy
        rfl
      rw [hd] at hw
      obtain ⟨p, hp, hs, hw⟩ := hw
      obtain ⟨t, t1, t2⟩ := pgS rb3 hp
      refine ⟨_, rfl, a, _, _, _, rfl, rfl, ha3, rfl, _, rfl, b, _, _, _, rfl, rfl, hb3, atI_nat t1, t, _, _, _, rfl, rfl, t2, rfl, _, rfl, rfl, _, rfl, iteF' (by rw [hs]; simp) ?_⟩
      exact ⟨_, rfl, a, _, _, _, rfl, rfl, ha3, rfl, _, rfl, b, _, _, _, rfl, rfl, hb3, atI_nat t1, t, _, _, _, rfl, rfl, t2, rfl, rfl, _, p.g, rfl, hw⟩
    · rintro σ H4 ⟨rfl, x4, rr, rfl, hw⟩
      rw [List.drop_of_length_le (Nat.le_refl _)] at hw
      have hw : rr = dr z j := hw
      refine ⟨_, rfl, _, rfl, a, _, _, _, rfl, rfl, ha3, rfl, _, rfl, c, _, _, _, rfl, rfl, hc3, atI_nat (dr_at hj), rfl, ?_⟩
      rw [hw, vdec]
      exact k _ (e1.trans e3)
/-- lengths of least ways from a room -/
def bd (z : Mz) (r x : Nat) : Nat := match bf (z.ps.map rv) r z.n x with
  | none => 1000000
  | some v => v.1
theorem rv_ok {z : Mz} (ok : MzOk z) : MzOk ⟨z.n, z.ps.map rv, z.ds⟩ := by
  refine ⟨ok.n, ?_, ok.dl, fun q hq => ?_, ok.d⟩
  · show (z.ps.map rv).length ≤ 120
    rw [List.length_map]
    exact ok.pl
  · obtain ⟨p, hp, rfl⟩ := List.mem_map.mp hq
    have := ok.p p hp
    exact ⟨this.g, this.s, this.l, this.w⟩
def spBound (K : PySem.W.Frag) : Sp := fun vs H Q _ => ∃ (z : Mz) (v : V) (i : Nat), vs = [v, .int (i : Int)] ∧ RD K H (mzD z) v ∧ MzOk z ∧ i < z.ds.length ∧ ∀ u H', Ex H H' → RD K H' (.tup (((List.range z.n).map (bd z (dr z i))).map natD)) u → Q u H'
theorem ok_bound (T : Tx K mg) : Has P w K mg base 6 (a_bound K) p_bound (spBound K) := by
  refine has_of (f_bound T) (z_bound T) (b_bound T) (fun vs H Q E h => by obtain ⟨_, _, _, rfl, _⟩ := h; rfl) (fun cdv A outer s H vs Q E hr h => ?_)
  obtain ⟨z, v, i, rfl, rv, ok, hi, k⟩ := h
  have h_need_maze := ok_needMaze (P := P) (w := w) (base := base) T
  have h_need_door := ok_needDoor (P := P) (w := w) (base := base) T
  have h_least_ways := ok_leastWays (P := P) (w := w) (base := base) T
  refine ⟨_, (pss_cons (ps_expr (pcall h_need_maze (hr.mono (by omega)) (g_need_maze T) (pa_cons (pv 0) (pa_cons pe_str pa_nil))))
  (pss_cons (ps_expr (pcall h_need_door (hr.mono (by omega)) (g_need_door T) (pa_cons (pe_callB (lenK K) (by rfl) (l_len T) (by decide +kernel) (pa_cons (pe_ix (ixT K) (pv 0) pe_int (fun _ _ => rfl)) pa_nil)) (pa_cons (pv 1) (pa_cons pe_str pa_nil)))))
  (pss_cons (ps_set (i := 2) (z_bound T).nd rfl (Or.inl rfl) (pe_tup (pa_cons (pe_ix (ixT K) (pv 0) pe_int (fun _ _ => rfl)) (pa_cons (pe_callTy (tupleK K) (by rfl) (l_tuple T) (by decide +kernel) (pa_cons (pe_lc (own := [("start", 3), ("goal", 4), ("length", 5), ("width", 6)]) rfl (z_bound T).nd (tupW K (pe_ix (ixT K) (pv 0) pe_int (fun _ _ => rfl))) (blkOk_by (N := n_bound) (sc := defScope s_bound) (by decide +kernel)) (fun _ _ _ _ _ => by exact (tupK K (n := 4) (pgs_cons (pg_name (i := 3) (z_bound T).nd rfl (Or.inl rfl)) (pgs_cons (pg_name (i := 4) (z_bound T).nd rfl (Or.inl rfl)) (pgs_cons (pg_name (i := 5) (z_bound T).nd rfl (Or.inl rfl)) (pgs_cons (pg_name (i := 6) (z_bound T).nd rfl (Or.inl rfl)) pgs_nil)))))) (fun _ _ _ _ _ => by exact pts_nil) (fun _ _ _ _ _ => by exact (pe_tup (pa_cons (pv 4) (pa_cons (pv 3) (pa_cons (pv 5) (pa_cons (pv 6) pa_nil))))))) pa_nil)) (pa_cons (pe_ix (ixT K) (pv 0) pe_int (fun _ _ => rfl)) pa_nil)))))
  (pss_cons (ps_set (i := 7) (z_bound T).nd rfl (Or.inl rfl) (pcall h_least_ways (hr.mono (by omega)) (g_least_ways T) (pa_cons (pv 2) (pa_cons (pe_ix (ixT K) (pe_ix (ixT K) (pv 0) pe_int (fun _ _ => rfl)) (pv 1) (fun _ _ => rfl)) pa_nil))))
  (pss_one (ps_ret (pe_callTy (tupleK K) (by rfl) (l_tuple T) (by decide +kernel) (pa_cons (pe_lc (own := [("own", 8)]) rfl (z_bound T).nd (listW K (pv 7)) (blkOk_by (N := n_bound) (sc := defScope s_bound) (by decide +kernel)) (fun _ _ _ _ _ => by exact (pg_name (i := 8) (z_bound T).nd rfl (Or.inl rfl))) (fun _ _ _ _ _ => by exact pts_nil) (fun _ _ _ _ _ => by exact (pe_ifExp (pt_cmpR oIsNo (pv 8) pe_non (nomark _)) (pgi (i_FAR T)) (pe_ix (ixT K) (pv 8) pe_int (fun _ _ => rfl))))) pa_nil)))))))), ?_⟩
  refine ⟨_, rfl, z, v, _, rfl, rv, ok, fun H1 e1 => ?_⟩
  obtain ⟨a, b, c, xs, rfl, ha, hb, rb, lx, hc⟩ := mzS (rv.mono e1.t)
  have o1 := ok.n
  have o2 := ok.pl
  refine ⟨_, rfl, a, _, _, _, rfl, rfl, ha, rfl, c, _, rfl, .inr hc, _, rfl, z.ds.length, i, _, by rw [nV_len]; rfl, hi, ?_⟩
  have hwt := walk_tup (K := K) (a := b) (xs := xs)
  rw [lx] at hwt
  refine ⟨_, rfl, a, _, _, _, rfl, rfl, ha, rfl, ?_⟩
  refine ⟨_, rfl, a, _, _, _, rfl, rfl, ha, rfl, b, rfl, ⟨_, hb⟩, fun l hl => lcD (K := K) hl hwt (fun q => ((z.ps.take q).map Pm.rv).map pgD) rfl (fun H' e' => e'.t.sq hb) (fun q hq => by rw [List.length_map, List.length_map, List.length_take]; omega) (fun q x H2' H2 hq e2 y R N kR kN => ?_) (fun H3 zs e3 hz r3 => ?_)⟩
  · obtain ⟨rfl, hx⟩ := y
    have hpk : z.ps[q]? = some z.ps[q] := List.getElem?_eq_getElem hq
    obtain ⟨t, t1, t2⟩ := pgS (rb.mono e2.t) hpk
    rw [hx] at t1
    cases t1
    refine ⟨t, _, rfl, t2, rfl, _, _, rfl, _, _, rfl, _, _, rfl, _, _, rfl, rfl, rfl, ?_⟩
    refine ⟨_, rfl, _, rfl, _, rfl, _, rfl, four_sz _ _ _ _, fun p hp => ?_⟩
    refine kR _ _ (pgD (Pm.rv z.ps[q])) (ex_new hp) (rd_new hp (.cons (.int _) (.cons (.int _) (.cons (.int _) (.cons (.int _) .nil))))) ?_
    rw [List.take_add_one, hpk, List.map_append, List.map_append]
    rfl
  · rw [List.take_of_length_le (Nat.le_refl _)] at r3
    have ha3 := e3.t.sq ha
    have hc3 := e3.t.sq hc
    refine ⟨l, _, rfl, .inl ⟨SqL.of hz, fun u hu => ?_⟩⟩
    have f4 := ex_new hu (o := .tup zs)
    have r4 := rd_new hu r3
    refine ⟨_, rfl, a, _, _, _, rfl, rfl, f4.t.sq ha3, rfl, three_sz _ _ _, fun mq hmq => ?_⟩
    have rc4 : RD K H3 (.tup (z.ds.map natD)) (.ref c) := by rw [natD_int]; exact rd_ints _ hc3
    have r5 := tup3 (d1 := natD z.n) (.int _) r4 (rc4.mono f4.t) hmq
    have f5 := f4.trans (ex_new hmq (o := .tup [.int (z.n : Int), .ref u, .ref c]))
    generalize upd (upd H3 u (.tup zs)) mq (.tup [.int (z.n : Int), .ref u, .ref c]) = H5 at r5 f5 ⊢
    have ha5 := f5.t.sq ha3
    have hc5 := f5.t.sq hc3
    refine ⟨_, rfl, _, rfl, a, _, _, _, rfl, rfl, ha5, rfl, _, rfl, c, _, _, _, rfl, rfl, hc5, atI_nat (dr_at hi), ?_⟩
    refine ⟨⟨z.n, z.ps.map Pm.rv, z.ds⟩, _, dr z i, rfl, r5, rv_ok ok, dr_lt ok hi, fun F H6 e6 hF d6 => ?_⟩
    obtain ⟨ys, hy, ry⟩ := id d6
    have ly := ry.len
    rw [List.length_map, List.length_range] at ly
    have ly : ys.length = z.n := ly
    have hwl := walk_list (K := K) (a := F) (xs := ys)
    rw [ly] at hwl
    refine ⟨_, rfl, F, rfl, ⟨_, SqL.of hy⟩, fun l2 hl2 => lcD (K := K) hl2 hwl (fun q => ((List.range q).map (bd z (dr z i))).map natD) rfl (fun H' e' => SqL.of (e' _ _ hy)) (fun q hq => by rw [List.length_map, List.length_map, List.length_range]; omega) (fun q x H7' H7 hq e7 y R N kR kN => ?_) (fun H8 ws e8 hl8 r8 => ?_)⟩
    · obtain ⟨rfl, hx⟩ := y
      obtain ⟨ys', v', g1, g2, g3⟩ := d6.at hq
      rw [hy] at g1
      cases g1
      rw [hx] at g2
      cases g2
      have hsn : ∀ v : Nat, bd z (dr z i) q = v → ((List.range (q + 1)).map (bd z (dr z i))).map natD = ((List.range q).map (bd z (dr z i))).map natD ++ [natD v] := fun v hv => by
        rw [List.range_succ, List.map_append, List.map_append, ← hv]
        rfl
      refine ⟨rfl, _, rfl, rfl, _, rfl, ?_⟩
      cases hf : bf (z.ps.map Pm.rv) (dr z i) z.n q with
      | none =>
        have g3 := g3.mono e7.t
        simp only [hf] at g3
        obtain rfl := RD.ofNon g3
        refine iteT' (by simp) (kR _ _ (natD 1000000) (Ex.refl _) (.int _) (hsn _ ?_))
        unfold bd
        rw [hf]
      | some vv =>
        have g3 := g3.mono e7.t
        simp only [hf] at g3
        obtain ⟨qq, rfl, hqq⟩ := oD_ne g3
        refine iteF' (by simp) ⟨_, rfl, qq, _, _, _, rfl, rfl, hqq, rfl, kR _ _ (natD vv.1) (Ex.refl _) (.int _) (hsn _ ?_)⟩
        unfold bd
        rw [hf]
    · refine ⟨l2, _, rfl, .inl ⟨SqL.of hl8, fun u3 hu3 => ?_⟩⟩
      exact k _ _ ((((e1.trans e3).trans f5).trans (e6.trans e8)).trans (ex_new hu3)) (rd_new hu3 r8)
def spIsBound (K : PySem.W.Frag) : Sp := fun vs H Q _ => ∃ (z : Mz) (v u : V) (i j L : Nat) (g : Nat → Nat), vs = [v, .int (i : Int), .int (j : Int), .int (L : Int), u] ∧ RD K H (mzD z) v ∧ MzOk z ∧ i < z.ds.length ∧ j < z.ds.length ∧ RD K H (.tup (((List.range z.n).map g).map natD)) u ∧
  L ≤ 1000000 ∧ (∀ x, x < z.n → g x ≤ 1000000) ∧ g (dr z i) = 0 ∧ L ≤ g (dr z j) ∧ (∀ p ∈ z.ps, g p.g ≤ g p.s + p.l) ∧ ∀ H', Ex H H' → Q (.bl true) H'
theorem ok_isBound (T : Tx K mg) : Has P w K mg base 6 (a_is_bound K) p_is_bound (spIsBound K) := by
  refine has_of (f_is_bound T) (z_is_bound T) (b_is_bound T) (fun vs H Q E h => by obtain ⟨_, _, _, _, _, _, _, rfl, _⟩ := h; rfl) (fun cdv A outer s H vs Q E hr h => ?_)
  obtain ⟨z, v, u, i, j, L, g, rfl, rv, ok, hi, hj, ru, hL, hg, g0, gj, gp, k⟩ := h
  have h_need_doors := ok_needDoors (P := P) (w := w) (base := base) T
  have h_is_whole := ok_whole (P := P) (w := w) (base := base) T
  have h_need := ok_need (P := P) (w := w) (base := base) T
  refine ⟨_, (pss_cons (ps_expr (pcall h_need_doors (hr.mono (by omega)) (g_need_doors T) (pa_cons (pv 0) (pa_cons (pv 1) (pa_cons (pv 2) pa_nil)))))
  (pss_cons (ps_expr (pcall h_need (hr.mono (by omega)) (g_need T) (pa_cons (pcall h_is_whole (hr.mono (by omega)) (g_is_whole T) (pa_cons (pv 3) (pa_cons pe_int (pa_cons (pgi (i_FAR T)) pa_nil)))) (pa_cons pe_str pa_nil))))
  (pss_cons (ps_if (PW.pt (pw_or (pt_not (pt_val (pe_callB (isiK K) (by rfl) (l_isinstance T) (by decide +kernel) (pa_cons (pv 4) (pa_cons (pe_bltn (v := .ty "tuple") (u := .type "tuple") rfl (l_tuple T) (by decide +kernel) rfl) pa_nil))))) (pw_or (pt_cmpR op_ne (pe_callB (lenK K) (by rfl) (l_len T) (by decide +kernel) (pa_cons (pv 4) pa_nil)) (pe_ix (ixT K) (pv 0) pe_int (fun _ _ => rfl)) (nomark _)) (pw_or1 (pt_not (pt_val (pe_callB (cr_all rfl) (by rfl) (l_all T) (by decide +kernel) (pa_cons (pe_lc (own := [("own", 5)]) rfl (z_is_bound T).nd (tupW K (pv 4)) (blkOk_by (N := n_is_bound) (sc := defScope s_is_bound) (by decide +kernel)) (fun _ _ _ _ _ => by exact (pg_name (i := 5) (z_is_bound T).nd rfl (Or.inl rfl))) (fun _ _ _ _ _ => by exact pts_nil) (fun _ _ _ _ _ => by exact (pcall h_is_whole (hr.mono (by omega)) (g_is_whole T) (pa_cons (pv 5) (pa_cons pe_int (pa_cons (pgi (i_FAR T)) pa_nil)))))) pa_nil)))))))) (pss_one (ps_ret pe_bl)) pss_nil)
  (pss_cons (ps_if (PW.pt (pw_or (pt_cmpR op_ne (pe_ix (ixT K) (pv 4) (pe_ix (ixT K) (pe_ix (ixT K) (pv 0) pe_int (fun _ _ => rfl)) (pv 1) (fun _ _ => rfl)) (fun _ _ => rfl)) pe_int (nomark _)) (pw_or1 (pt_cmpR oLtI (pe_ix (ixT K) (pv 4) (pe_ix (ixT K) (pe_ix (ixT K) (pv 0) pe_int (fun _ _ => rfl)) (pv 2) (fun _ _ => rfl)) (fun _ _ => rfl)) (pv 3) (nomark _))))) (pss_one (ps_ret pe_bl)) pss_nil)
  (pss_one (ps_ret (pe_callB (cr_all rfl) (by rfl) (l_all T) (by decide +kernel) (pa_cons (pe_lc (own := [("start", 6), ("goal", 7), ("length", 8), ("width", 9)]) rfl (z_is_bound T).nd (tupW K (pe_ix (ixT K) (pv 0) pe_int (fun _ _ => rfl))) (blkOk_by (N := n_is_bound) (sc := defScope s_is_bound) (by decide +kernel)) (fun _ _ _ _ _ => by exact (tupK K (n := 4) (pgs_cons (pg_name (i := 6) (z_is_bound T).nd rfl (Or.inl rfl)) (pgs_cons (pg_name (i := 7) (z_is_bound T).nd rfl (Or.inl rfl)) (pgs_cons (pg_name (i := 8) (z_is_bound T).nd rfl (Or.inl rfl)) (pgs_cons (pg_name (i := 9) (z_is_bound T).nd rfl (Or.inl rfl)) pgs_nil)))))) (fun _ _ _ _ _ => by exact pts_nil) (fun _ _ _ _ _ => by exact (pe_cmpR oLeI (pe_ix (ixT K) (pv 4) (pv 7) (fun _ _ => rfl)) (pe_op oAddI (pe_ix (ixT K) (pv 4) (pv 6) (fun _ _ => rfl)) (pv 8)) (nomark _)))) pa_nil)))))))), ?_⟩
  refine ⟨_, rfl, _, rfl, _, rfl, z, v, i, j, rfl, rv, ok, hi, hj, fun H1 e1 => ?_⟩
  obtain ⟨a, b, c, xs, rfl, ha, hb, rb, lx, hc⟩ := mzS (rv.mono e1.t)
  obtain ⟨uu, rfl, hu⟩ := tupN (ru.mono e1.t)
  have o1 := ok.n
  have o2 := ok.pl
  have gat : ∀ x, x < z.n → (nV ((List.range z.n).map g))[x]? = some (.int (g x : Int)) := fun x hx => nV_get (map_at hx)
  refine ⟨_, rfl, _, _, _, rfl, true, _, by rw [wh (by omega) (by omega)]; rfl, fun _ => ?_, fun zz => (by cases zz)⟩
  refine ⟨_, rfl, _, _, _, _, true, rfl, .ty _, tyT hu, kit_ty (by decide +kernel), true, rfl, iteF ?_⟩
  refine ⟨_, rfl, uu, _, rfl, .inr hu, _, rfl, a, _, _, _, rfl, rfl, ha, rfl, rfl, _, rfl, iteF' ?_ ?_⟩
  · rw [nV_len, List.length_map, List.length_range]
    simp
  have hwt := walk_tup (K := K) (a := uu) (xs := nV ((List.range z.n).map g))
  rw [nV_len, List.length_map, List.length_range] at hwt
  refine ⟨_, rfl, uu, rfl, ⟨_, hu⟩, fun l hl => lcD (K := K) hl hwt (fun i => List.replicate i (.bl true)) rfl (fun H' e' => e'.t.sq hu) (fun i hi => by rw [List.length_replicate]; omega) (fun q x H2' H2 hq e2 y R N kR kN => ?_) (fun H3 zs e3 hz r => ?_)⟩
  · obtain ⟨rfl, hx⟩ := y
    rw [gat q hq] at hx
    cases hx
    have := hg q hq
    refine ⟨rfl, _, rfl, _, _, _, rfl, ?_⟩
    rw [wh (by omega) (by omega)]
    exact kR _ _ _ (Ex.refl _) (.bl _) (rep_succ _ _)
  · obtain rfl := trues r
    refine ⟨_, _, rfl, SqL.of hz, true, by rw [all_trues], iteF ?_⟩
    have ha3 := e3.t.sq ha
    have hb3 := e3.t.sq hb
    have hc3 := e3.t.sq hc
    have hu3 := e3.t.sq hu
    refine ⟨_, rfl, _, rfl, a, _, _, _, rfl, rfl, ha3, rfl, _, rfl, c, _, _, _, rfl, rfl, hc3, atI_nat (dr_at hi), uu, _, _, _, rfl, rfl, hu3, atI_nat (gat _ (dr_lt ok hi)), rfl, _, rfl, iteF' (by rw [g0]; rfl) ?_⟩
    refine ⟨_, rfl, _, rfl, a, _, _, _, rfl, rfl, ha3, rfl, _, rfl, c, _, _, _, rfl, rfl, hc3, atI_nat (dr_at hj), uu, _, _, _, rfl, rfl, hu3, atI_nat (gat _ (dr_lt ok hj)), _, rfl, _, _, rfl, rfl, _, rfl, iteF' (by rw [decide_eq_false]; omega) ?_⟩
    have hwb := walk_tup (K := K) (a := b) (xs := xs)
    rw [lx] at hwb
    refine ⟨_, rfl, a, _, _, _, rfl, rfl, ha3, rfl, b, rfl, ⟨_, hb3⟩, fun l2 hl2 => lcD (K := K) hl2 hwb (fun i => List.replicate i (.bl true)) rfl (fun H' e' => e'.t.sq hb3) (fun i hi => by rw [List.length_replicate]; omega) (fun q x H4' H4 hq e4 y R N kR kN => ?_) (fun H5 zs5 e5 hz5 r5 => ?_)⟩
    · obtain ⟨rfl, hx⟩ := y
      have hpk : z.ps[q]? = some z.ps[q] := List.getElem?_eq_getElem hq
      obtain ⟨t, t1, t2⟩ := pgS (rb.mono (e3.trans e4).t) hpk
      rw [hx] at t1
      cases t1
      have okp := ok.p _ (List.getElem_mem hq)
      have hgp := gp _ (List.getElem_mem hq)
      have hu4 := e4.t.sq hu3
      refine ⟨t, _, rfl, t2, rfl, _, _, rfl, _, _, rfl, _, _, rfl, _, _, rfl, rfl, rfl, ?_⟩
      refine ⟨_, rfl, _, rfl, uu, _, _, _, rfl, rfl, hu4, atI_nat (gat _ okp.g), _, rfl, _, rfl, uu, _, _, _, rfl, rfl, hu4, atI_nat (gat _ okp.s), _, rfl, _, _, rfl, rfl, _, _, rfl, rfl, ?_⟩
      rw [decide_eq_true (by omega)]
      exact kR _ _ _ (Ex.refl _) (.bl _) (rep_succ _ _)
    · obtain rfl := trues r5
      refine ⟨_, _, rfl, SqL.of hz5, ?_⟩
      rw [all_trues]
      exact k _ ((e1.trans e3).trans e5)
end
end K09
/-! Cuts. -/
namespace K09
open PySem PySem.Spec
open PyProof.Rows L2 Sl Pm
section
variable {P : Program} {w : World} {K : PySem.W.Frag} {mg : Str → Option Value} {base : Heap} {H H0 H1 H2 : Hp} {E : XK} {Q : VK} {m n e : Nat} {σ : L2.St}
def dk (S : List Nat) : List (Key × V) := S.map fun r : Nat => ((.inl ((r : Nat) : Int) : Key), V.bl true)
theorem dk_val (S : List Nat) (r : Nat) : (valV (dk S) (.inl (r : Int) : Key)).isSome = decide (r ∈ S) := by
  rw [← valV_any, Bool.eq_iff_iff]
  unfold dk
  simp
  constructor
  · rintro ⟨x, h1, h2⟩
    have : x = r := by omega
    exact this ▸ h1
  · exact fun h => ⟨r, h, rfl⟩
theorem dk_put {S : List Nat} {r : Nat} (h : r ∉ S) : putK (dk S) (.inl (r : Int) : Key) (.bl true) = dk (S ++ [r]) := by
  have : valV (dk S) (.inl (r : Int) : Key) = none := by
    have := dk_val S r
    rw [decide_eq_false h] at this
    cases z : valV (dk S) (.inl (r : Int) : Key) with
    | none => rfl
    | some v => rw [z] at this; cases this
  rw [putK_new _ this]
  unfold dk
  rw [List.map_append]
  rfl
theorem dk_keys (S : List Nat) : ((dk S).map fun kv => kV kv.1) = nV S := by
  unfold dk nV
  rw [List.map_map, List.map_map]
  rfl
/-- reached by passages wider than that -/
def Rc (z : Mz) (t x r : Nat) : Prop := ∃ L c, Wk z.ps (t + 1) x r L c
theorem Rc.step {z : Mz} {t x : Nat} {p : Pg} (h : Rc z t x p.s) (hp : p ∈ z.ps) (hw : t < p.w) : Rc z t x p.g := by
  obtain ⟨L, c, h⟩ := h
  exact ⟨_, _, h.snoc hp hw⟩
theorem Rc.lt {z : Mz} (ok : MzOk z) {t x r : Nat} (hx : x < z.n) (h : Rc z t x r) : r < z.n := by
  obtain ⟨L, c, h⟩ := h
  induction h with
  | nil i => exact hx
  | cons hp _ _ ih => exact ih (ok.p _ hp).g
theorem closed_all {z : Mz} {t x : Nat} {S : List Nat} (hx : x ∈ S) (hc : ∀ p ∈ z.ps, t < p.w → p.s ∈ S → p.g ∈ S) {r : Nat} (h : Rc z t x r) : r ∈ S := by
  obtain ⟨L, c, h⟩ := h
  induction h with
  | nil i => exact hx
  | cons hp hw _ ih => exact ih (hc _ hp hw hx)
/-- where the wider passages of a room lead -/
def nxt (ps : List Pg) (t r : Nat) : List Nat := (ps.filter fun p => decide (p.s = r) && decide (t < p.w)).map (·.g)
theorem nxt_mem {ps : List Pg} {t r g : Nat} : g ∈ nxt ps t r ↔ ∃ p ∈ ps, p.s = r ∧ t < p.w ∧ p.g = g := by
  unfold nxt
  rw [List.mem_map]
  constructor
  · rintro ⟨p, h1, h2⟩
    obtain ⟨h3, h4⟩ := List.mem_filter.mp h1
    simp at h4
    exact ⟨p, h3, h4.1, h4.2, h2⟩
  · rintro ⟨p, h1, h2, h3, h4⟩
    exact ⟨p, List.mem_filter.mpr ⟨h1, by simp [h2, h3]⟩, h4⟩
theorem nxt_len (ps : List Pg) (t r : Nat) : (nxt ps t r).length ≤ ps.length := by
  unfold nxt
  rw [List.length_map]
  exact List.length_filter_le _ _
theorem nxt_snoc (ps : List Pg) (p : Pg) (t r : Nat) : nxt (ps ++ [p]) t r = if p.s = r ∧ t < p.w then nxt ps t r ++ [p.g] else nxt ps t r := by
  unfold nxt
  rw [List.filter_append, List.map_append]
  by_cases h : p.s = r ∧ t < p.w
  · rw [if_pos h]
    simp [h.1, h.2]
  · rw [if_neg h]
    have : (decide (p.s = r) && decide (t < p.w)) = false := by
      by_cases h1 : p.s = r
      · simp [h1]; exact Nat.le_of_not_lt fun h2 => h ⟨h1, h2⟩
      · simp [h1]
    simp [List.filter_cons, this]
theorem nats_of {ns : List Int} (h : ∀ x ∈ ns, 0 ≤ x) : ns = (ns.map Int.toNat).map fun x => ((x : Nat) : Int) := by
  rw [List.map_map]
  have : ns.map id = ns.map ((fun x : Nat => ((x : Nat) : Int)) ∘ Int.toNat) := List.map_congr_left fun x hx => by
    have := h x hx
    show x = ((x.toNat : Nat) : Int)
    omega
  rw [List.map_id] at this
  exact this
/-- what is searched so far -/
structure Srch (z : Mz) (t x : Nat) (S ln : List Nat) : Prop where
  nd : S.Nodup
  s : ∀ r ∈ S, Rc z t x r
  l : ∀ r ∈ ln, Rc z t x r
  x : x ∈ S ∨ x ∈ ln
  c : ∀ p ∈ z.ps, t < p.w → p.s ∈ S → p.g ∈ S ∨ p.g ∈ ln
  len : ln.length ≤ 1 + 120 * S.length
def spCut (K : PySem.W.Frag) : Sp := fun vs H Q _ => ∃ (z : Mz) (v : V) (i j t : Nat), vs = [v, .int (i : Int), .int (j : Int), .int (t : Int)] ∧ RD K H (mzD z) v ∧ MzOk z ∧ i < z.ds.length ∧ j < z.ds.length ∧ t ≤ 1000 ∧
  (∀ H', Ex H H' → Rc z t (dr z i) (dr z j) → Q .non H') ∧
  (∀ (S : List Nat) u H', Ex H H' → ¬ Rc z t (dr z i) (dr z j) → S.Pairwise (· < ·) → (∀ r, r ∈ S ↔ Rc z t (dr z i) r) → RD K H' (.tup (S.map natD)) u → Q u H')
theorem ok_cut (T : Tx K mg) : Has P w K mg base 6 (a_cut K) p_cut (spCut K) := by
  refine has_of (f_cut T) (z_cut T) (b_cut T) (fun vs H Q E h => by obtain ⟨_, _, _, _, _, rfl, _⟩ := h; rfl) (fun cdv A outer s H vs Q E hr h => ?_)
  obtain ⟨z, v, i, j, t, rfl, rv, ok, hi, hj, ht, kN, kS⟩ := h
  have h_need_doors := ok_needDoors (P := P) (w := w) (base := base) T
  have h_is_whole := ok_whole (P := P) (w := w) (base := base) T
  have h_need := ok_need (P := P) (w := w) (base := base) T
  refine ⟨_, (pss_cons (ps_expr (pcall h_need_doors (hr.mono (by omega)) (g_need_doors T) (pa_cons (pv 0) (pa_cons (pv 1) (pa_cons (pv 2) pa_nil)))))
  (pss_cons (ps_expr (pcall h_need (hr.mono (by omega)) (g_need T) (pa_cons (pcall h_is_whole (hr.mono (by omega)) (g_is_whole T) (pa_cons (pv 3) (pa_cons pe_int (pa_cons pe_int pa_nil)))) (pa_cons pe_str pa_nil))))
  (pss_cons (ps_par (i := 4) (j := 5) rfl (z_cut T).nd rfl rfl (by decide) rfl rfl (pa_cons pe_dnewK (pa_cons (pe_lst (pa_cons (pe_ix (ixT K) (pe_ix (ixT K) (pv 0) pe_int (fun _ _ => rfl)) (pv 1) (fun _ _ => rfl)) pa_nil)) pa_nil)) rfl)
  (pss_cons (ps_while (passes_of rfl) (truK K (pv 5)) (pss_cons (ps_set (i := 6) (z_cut T).nd rfl (Or.inr rfl) (pe_bm0 PySem.F.plainAttrs_list PySem.F.slot_list_pop PySem.F.type_list_pop mt_pop (pv 5)))
  (pss_one (ps_if (pt_cmp (pc_dnotin (hu_of hr) (pv 6) (pv 4))) (pss_cons (ps_asg pe_bl (pg_sub (pv 4) (pv 6) (set_dict (hu_of hr))))
  (pss_one (ps_expr (bmK K PySem.F.plainAttrs_list PySem.F.slot_list_extend PySem.F.type_list_extend mt_extend (pv 5) (pa_cons (pe_lc (own := [("own", 7)]) rfl (z_cut T).nd (tupW K (pe_ix (ixT K) (pv 0) pe_int (fun _ _ => rfl))) (blkOk_by (N := n_cut) (sc := defScope s_cut) (by decide +kernel)) (fun _ _ _ _ _ => by exact (pg_name (i := 7) (z_cut T).nd rfl (Or.inl rfl))) (fun _ _ _ _ _ => by exact (pts_one (PW.pt (pw_and (pt_cmpR op_eq (pe_ix (ixT K) (pv 7) pe_int (fun _ _ => rfl)) (pv 6) (nomark _)) (pw_and1 (pt_cmpR oGtI (pe_ix (ixT K) (pv 7) pe_int (fun _ _ => rfl)) (pv 3) (nomark _))))))) (fun _ _ _ _ _ => by exact (pe_ix (ixT K) (pv 7) pe_int (fun _ _ => rfl)))) pa_nil))))) pss_nil))))
  (pss_one (ps_ret (pe_ifExp (pt_cmp (pc_din (hu_of hr) (pe_ix (ixT K) (pe_ix (ixT K) (pv 0) pe_int (fun _ _ => rfl)) (pv 2) (fun _ _ => rfl)) (pv 4))) pe_non (pe_callTy (tupleK K) (by rfl) (l_tuple T) (by decide +kernel) (pa_cons (pe_callB (sortK K) (by rfl) (l_sorted T) (by decide +kernel) (pa_cons (pe_callTy listDK (by rfl) (l_list T) (by decide +kernel) (pa_cons (pv 4) pa_nil)) pa_nil)) pa_nil))))))))), ?_⟩
  refine ⟨_, rfl, _, rfl, _, rfl, z, v, i, j, rfl, rv, ok, hi, hj, fun H1 e1 => ?_⟩
  obtain ⟨a, b, c, xs, rfl, ha, hb, rb, lx, hc⟩ := mzS (rv.mono e1.t)
  have o1 := ok.n
  have o2 := ok.pl
  have hx := dr_lt ok hi
  refine ⟨_, rfl, _, _, _, rfl, true, _, by rw [wh (by omega) (by omega)]; rfl, fun _ => ?_, fun zz => (by cases zz)⟩
  refine fun D hD => ?_
  have f2 := ex_new hD (o := .dK [])
  refine ⟨_, rfl, a, _, _, _, rfl, rfl, f2.t.sq ha, rfl, _, rfl, c, _, _, _, rfl, rfl, f2.t.sq hc, atI_nat (dr_at hi), one_sz _, fun Ln hLn => ⟨_, _, rfl, ?_⟩⟩
  have e3 := (e1.trans f2).trans (ex_new hLn (o := .lst [.int (dr z i : Int)]))
  have hD0 : H D = none := back e1 hD
  have hL0 : H Ln = none := back (e1.trans f2) hLn
  have hne : D ≠ Ln := fun zz => by rw [← zz, upd_same] at hLn; cases hLn
  have q1 : upd (upd H1 D (.dK [])) Ln (.lst [.int (dr z i : Int)]) D = some (.dK (dk [])) := by rw [upd_ne hne, upd_same]; rfl
  have q2 : upd (upd H1 D (.dK [])) Ln (.lst [.int (dr z i : Int)]) Ln = some (.lst (nV [dr z i])) := upd_same
  generalize upd (upd H1 D (.dK [])) Ln (.lst [.int (dr z i : Int)]) = H3 at e3 q1 q2 ⊢
  refine ⟨fun kk σ H' => ∃ (S ln : List Nat) (x6 x7 : Option V), σ = [some (.ref a), some (.int (i : Int)), some (.int (j : Int)), some (.int (t : Int)), some (.ref D), some (.ref Ln), x6, x7] ∧ Ex H H' ∧ H' D = some (.dK (dk S)) ∧ H' Ln = some (.lst (nV ln)) ∧ Srch z t (dr z i) S ln ∧ kk = (z.n - S.length) * 200 + ln.length, ⟨_, [], [dr z i], _, _, rfl, e3, q1, q2, ⟨by simp, by simp, fun r hr => by rw [List.mem_singleton.mp hr]; exact ⟨0, 0, .nil _⟩, .inr (by simp), fun p _ _ h => by simp at h, by simp⟩, rfl⟩, ?_⟩
  rintro mm σ H4 ⟨S, ln, x6, x7, rfl, e4, hDd, hLl, sr, rfl⟩
  have e14 : TEx H H4 := e4.t
  obtain ⟨a', b', c', xs', hv', ha4, hb4, rb4, lx4, hc4⟩ := mzS (rv.mono e4.t)
  cases hv'
  have hSn : S.length ≤ z.n := nodup_le z.n S sr.nd fun r hr => (sr.s r hr).lt ok hx
  have hlen := sr.len
  have hlb : ln.length ≤ 5000 := by omega
  refine ⟨_, rfl, !ln.isEmpty, .inl ⟨_, SqL.of hLl, by unfold nV; cases ln <;> rfl⟩, ifBH (fun cc => ?_) (fun cc => ?_)⟩
  · obtain ⟨ln', r, rfl⟩ : ∃ ln' r, ln = ln' ++ [r] := by
      refine ⟨ln.dropLast, ln.getLast (by rintro rfl; simp at cc), ?_⟩
      rw [List.dropLast_concat_getLast]
    refine ⟨_, fun _ _ h => h, ?_⟩
    have hpop : (nV (ln' ++ [r]))[(nV (ln' ++ [r])).length - 1]? = some (.int (r : Int)) := nV_get (by rw [nV_len, List.length_append]; simp)
    have hdl : (nV (ln' ++ [r])).dropLast = nV ln' := by
      rw [← nV_snoc, List.dropLast_concat]
    refine ⟨_, rfl, tl_list hLl, Ln, _, _, rfl, rfl, hLl, hpop, ?_⟩
    rw [hdl]
    have tt := tex_put (o' := .lst (nV ln')) hLl (by intro xs zz; cases zz) (by intro a b zz; cases zz)
    have e5 := ex_own e4 hL0 (o := .lst (nV ln'))
    have hDd5 : upd H4 Ln (.lst (nV ln')) D = some (.dK (dk S)) := by rw [upd_ne hne]; exact hDd
    have hLl5 : upd H4 Ln (.lst (nV ln')) Ln = some (.lst (nV ln')) := upd_same
    have ha5 := tt.sq ha4
    have hb5 := tt.sq hb4
    have rb5 := rb4.mono tt
    generalize upd H4 Ln (.lst (nV ln')) = H5 at e5 hDd5 hLl5 ha5 hb5 rb5 ⊢
    have hr : Rc z t (dr z i) r := sr.l r (by simp)
    have hrn := hr.lt ok hx
    refine ⟨_, rfl, _, rfl, D, _, rfl, .inl ⟨_, .inl (r : Int), .of hDd5, rfl, rfl⟩, _, rfl, ?_⟩
    rw [dk_val]
    by_cases hin : r ∈ S
    · refine iteF' (by simp [hin]) ?_
      refine ⟨_, ?_, S, ln', _, _, rfl, e5, hDd5, hLl5, ⟨sr.nd, sr.s, fun r' h' => sr.l r' (by simp [h']), ?_, fun p hp hw hs => ?_, by have := sr.len; rw [List.length_append] at this; omega⟩, rfl⟩
      · rw [List.length_append]; simp
      · rcases sr.x with h | h
        · exact .inl h
        · rcases List.mem_append.mp h with h | h
          · exact .inr h
          · rw [List.mem_singleton.mp h]; exact .inl hin
      · rcases sr.c p hp hw hs with h | h
        · exact .inl h
        · rcases List.mem_append.mp h with h | h
          · exact .inr h
          · rw [List.mem_singleton.mp h]; exact .inl hin
    · refine iteT' (by simp [hin]) ?_
      have hS1 : S.length < z.n := by
        have := nodup_le z.n (r :: S) (List.nodup_cons.mpr ⟨hin, sr.nd⟩) fun r' h' => by
          rcases List.mem_cons.mp h' with rfl | h'
          · exact hrn
          · exact (sr.s r' h').lt ok hx
        rw [List.length_cons] at this
        omega
      refine ⟨_, rfl, _, rfl, D, _, rfl, .inl ⟨_, .inl (r : Int), hDd5, rfl, ?_, rfl⟩, ?_⟩
      · unfold dk
        rw [List.length_map]
        exact sz6 (by omega)
      rw [dk_put hin]
      have t6 := tex_put (o' := .dK (dk (S ++ [r]))) hDd5 (by intro xs zz; cases zz) (by intro a b zz; cases zz)
      have e6 := ex_own e5 hD0 (o := .dK (dk (S ++ [r])))
      have hDd6 : upd H5 D (.dK (dk (S ++ [r]))) D = some (.dK (dk (S ++ [r]))) := upd_same
      have hLl6 : upd H5 D (.dK (dk (S ++ [r]))) Ln = some (.lst (nV ln')) := by rw [upd_ne hne.symm]; exact hLl5
      have ha6 := t6.sq ha5
      have hb6 := t6.sq hb5
      have rb6 := rb5.mono t6
      generalize upd H5 D (.dK (dk (S ++ [r]))) = H6 at e6 hDd6 hLl6 ha6 hb6 rb6 ⊢
      have hwt := walk_tup (K := K) (a := b') (xs := xs')
      rw [lx4] at hwt
      refine ⟨_, rfl, tl_list hLl6, _, rfl, a, _, _, _, rfl, rfl, ha6, rfl, b', rfl, ⟨_, hb6⟩, fun l hl => lcD (K := K) hl hwt (fun q => (nxt (z.ps.take q) t r).map natD) rfl (fun H' e' => e'.t.sq hb6) (fun q hq => by rw [List.length_map]; have := nxt_len (z.ps.take q) t r; rw [List.length_take] at this; omega) (fun q x H7' H7 hq e7 y R N kR kN' => ?_) (fun H8 zs e8 hz8 r8 => ?_)⟩
      · obtain ⟨rfl, hx'⟩ := y
        have hpk : z.ps[q]? = some z.ps[q] := List.getElem?_eq_getElem hq
        have htk : z.ps.take (q + 1) = z.ps.take q ++ [z.ps[q]] := by rw [List.take_add_one, hpk]; rfl
        obtain ⟨tq, t1, t2⟩ := pgS (rb6.mono e7.t) hpk
        rw [hx'] at t1
        cases t1
        rw [htk, nxt_snoc] at kR kN'
        generalize z.ps[q] = pg at t2 kR kN'
        refine ⟨rfl, _, rfl, tq, _, _, _, rfl, rfl, t2, rfl, _, rfl, rfl, _, rfl, ?_⟩
        by_cases c1 : pg.s = r
        · refine iteT' (by rw [c1]; simp) ?_
          refine ⟨_, rfl, tq, _, _, _, rfl, rfl, t2, rfl, _, rfl, _, _, rfl, rfl, _, rfl, ifBH (fun c2 => ?_) (fun c2 => ?_)⟩
          · have c2 : t < pg.w := by have := of_decide_eq_true c2; omega
            rw [if_pos ⟨c1, c2⟩] at kR
            exact ⟨_, rfl, tq, _, _, _, rfl, rfl, t2, rfl, kR _ _ (natD pg.g) (Ex.refl _) (.int _) (by rw [List.map_append]; rfl)⟩
          · have c2 : ¬ t < pg.w := by have := of_decide_eq_false c2; omega
            rw [if_neg (fun zz => c2 zz.2)] at kN'
            exact kN' _ (Ex.refl _) rfl
        · rw [if_neg (fun zz => c1 zz.1)] at kN'
          refine iteF' (by rw [decide_eq_false]; intro zz; injection zz with zz; omega) (iteF ?_)
          exact kN' _ (Ex.refl _) rfl
      · rw [List.take_of_length_le (Nat.le_refl _), natD_int] at r8
        obtain rfl := r8.ints
        have hz8 : H8 l = some (.lst (nV (nxt z.ps t r))) := hz8
        have hLl8 := e8 _ _ hLl6
        have nl := nxt_len z.ps t r
        have hll : ln'.length + 1 ≤ 1 + 120 * S.length := by rw [List.length_append] at hlen; simpa using hlen
        refine ⟨Ln, l, _, _, rfl, rfl, hLl8, hz8, by rw [nV_len, nV_len]; exact Nat.le_trans (show ln'.length + (nxt z.ps t r).length ≤ 1000000 by omega) (by decide), ?_⟩
        have hcat : nV ln' ++ nV (nxt z.ps t r) = nV (ln' ++ nxt z.ps t r) := by unfold nV; rw [List.map_append, List.map_append]
        rw [hcat]
        refine ⟨_, ?_, S ++ [r], ln' ++ nxt z.ps t r, _, _, rfl, ex_own (e6.trans e8) hL0, by rw [upd_ne hne]; exact e8 _ _ hDd6, upd_same, ⟨?_, ?_, ?_, ?_, ?_, ?_⟩, rfl⟩
        · rw [List.length_append, List.length_append, List.length_append]
          simp only [List.length_cons, List.length_nil]
          have : z.n - S.length = (z.n - (S.length + 1)) + 1 := by omega
          rw [this, Nat.add_mul]
          omega
        · rw [List.nodup_append]
          exact ⟨sr.nd, by simp, fun x h1 y h2 zz => hin (by rw [List.mem_singleton.mp h2] at zz; exact zz ▸ h1)⟩
        · intro r' h'
          rcases List.mem_append.mp h' with h' | h'
          · exact sr.s r' h'
          · rw [List.mem_singleton.mp h']; exact hr
        · intro r' h'
          rcases List.mem_append.mp h' with h' | h'
          · exact sr.l r' (by simp [h'])
          · obtain ⟨p, h1, h2, h3, h4⟩ := nxt_mem.mp h'
            rw [← h4]
            exact Rc.step (h2 ▸ hr) h1 h3
        · rcases sr.x with h | h
          · exact .inl (by simp [h])
          · rcases List.mem_append.mp h with h | h
            · exact .inr (by simp [h])
            · rw [List.mem_singleton.mp h]; exact .inl (by simp)
        · intro p hp hw hs
          rcases List.mem_append.mp hs with h | h
          · rcases sr.c p hp hw h with h | h
            · exact .inl (by simp [h])
            · rcases List.mem_append.mp h with h | h
              · exact .inr (by simp [h])
              · rw [List.mem_singleton.mp h]; exact .inl (by simp)
          · exact .inr (List.mem_append.mpr (.inr (nxt_mem.mpr ⟨p, hp, List.mem_singleton.mp h, hw, rfl⟩)))
        · rw [List.length_append, List.length_append]
          simp only [List.length_cons, List.length_nil]
          omega
  · obtain rfl : ln = [] := by cases ln with
      | nil => rfl
      | cons => simp at cc
    have hall : ∀ r, r ∈ S ↔ Rc z t (dr z i) r := fun r => ⟨sr.s r, closed_all (sr.x.resolve_right (by simp)) fun p hp hw hs => (sr.c p hp hw hs).resolve_right (by simp)⟩
    refine ⟨_, rfl, _, _, _, _, rfl, rfl, ha4, rfl, _, rfl, c', _, _, _, rfl, rfl, hc4, atI_nat (dr_at hj), _, rfl, D, _, rfl, .inl ⟨_, .inl (dr z j : Int), .of hDd, rfl, rfl⟩, _, rfl, ?_⟩
    rw [dk_val]
    refine ifBH (fun c2 => ?_) (fun c2 => ?_)
    · exact kN _ e4 ((hall _).mp (of_decide_eq_true c2))
    · have hno := fun zz => of_decide_eq_false c2 ((hall _).mpr zz)
      refine ⟨_, rfl, D, _, rfl, .of hDd, fun p hp => ?_⟩
      rw [dk_keys]
      refine ⟨p, S.map fun x => ((x : Nat) : Int), rfl, SqL.of upd_same, fun ns q hperm hpw hq => ?_⟩
      have hmem : ∀ x ∈ ns, 0 ≤ x := fun x hx => by
        obtain ⟨y, _, rfl⟩ := List.mem_map.mp (hperm.mem_iff.mp hx)
        omega
      have hns := nats_of hmem
      generalize hS' : ns.map Int.toNat = S' at hns
      have hmS : ∀ r, r ∈ S' ↔ r ∈ S := fun r => by
        rw [← hS', List.mem_map]
        constructor
        · rintro ⟨x, h1, h2⟩
          obtain ⟨y, h3, rfl⟩ := List.mem_map.mp (hperm.mem_iff.mp h1)
          have : y = r := by omega
          exact this ▸ h3
        · intro h
          exact ⟨(r : Int), hperm.mem_iff.mpr (List.mem_map.mpr ⟨r, h, rfl⟩), by omega⟩
      have hnd : ns.Nodup := hperm.nodup_iff.mpr (List.Pairwise.map (fun x : Nat => ((x : Nat) : Int)) (fun x y h hh => h (by have hh : (x : Int) = (y : Int) := hh; omega)) sr.nd)
      have hlt : S'.Pairwise (· < ·) := by
        rw [← hS', List.pairwise_map]
        refine (List.Pairwise.and hpw hnd).imp_of_mem fun {x y} hx hy hxy => ?_
        have h1 := hmem x hx
        have h2 := hmem y hy
        have h3 := hxy.2
        have h4 := hxy.1
        omega
      have f5 := (ex_new hp (o := .lst (nV S))).trans (ex_new hq (o := .lst (ns.map V.int)))
      refine ⟨q, _, rfl, .inl ⟨SqL.of upd_same, fun u hu => ?_⟩⟩
      refine kS S' _ _ ((e4.trans f5).trans (ex_new hu)) hno hlt (fun r => (hmS r).trans (hall r)) (rd_new hu ?_)
      rw [hns, natD_int]
      exact RDs.ofInts _ _ _
end
end K09
/-! Cuts looked at. -/
namespace K09
open PySem PySem.Spec
open PyProof.Rows L2 Sl Pm
section
variable {P : Program} {w : World} {K : PySem.W.Frag} {mg : Str → Option Value} {base : Heap} {H H0 H1 H2 : Hp} {E : XK} {Q : VK} {m n e : Nat} {σ : L2.St}
theorem sorted_eq : ∀ {l l' : List Int}, l.Pairwise (· < ·) → l'.Pairwise (· < ·) → (∀ x, x ∈ l ↔ x ∈ l') → l = l'
  | [], [], _, _, _ => rfl
  | [], b :: l', _, _, h => absurd ((h b).mpr List.mem_cons_self) (by simp)
  | a :: l, [], _, _, h => absurd ((h a).mp List.mem_cons_self) (by simp)
  | a :: l, b :: l', h1, h2, h => by
    obtain ⟨a1, a2⟩ := List.pairwise_cons.mp h1
    obtain ⟨b1, b2⟩ := List.pairwise_cons.mp h2
    have hab : a = b := by
      rcases List.mem_cons.mp ((h a).mp List.mem_cons_self) with e | e
      · exact e
      · rcases List.mem_cons.mp ((h b).mpr List.mem_cons_self) with e' | e'
        · exact e'.symm
        · have := b1 a e
          have := a1 b e'
          omega
    subst hab
    rw [sorted_eq a2 b2 fun x => ?_]
    constructor
    · intro hx
      rcases List.mem_cons.mp ((h x).mp (List.mem_cons_of_mem _ hx)) with e | e
      · have := a1 x hx; omega
      · exact e
    · intro hx
      rcases List.mem_cons.mp ((h x).mpr (List.mem_cons_of_mem _ hx)) with e | e
      · have := b1 x hx; omega
      · exact e
/-- two lists of the same numbers are not unlike -/
theorem neL_same {a b : Addr} {S : List Nat} (ha : H a = some (.lst (nV S))) (hb : H b = some (.lst (nV S))) (k : Q (.bl false) H) : rNeD K (.ref a) (.ref b) H Q := by
  have hn : Nb 1 (.tup (S.map natD)) := fun d hd => by
    obtain ⟨x, _, rfl⟩ := List.mem_map.mp hd
    trivial
  obtain ⟨c1, c2⟩ := hn.shape
  have c3 := (hn.eqv hn).mpr rfl
  have hr : RDs K H (S.map natD) (nV S) := by rw [natD_int]; exact RDs.ofInts _ _ _
  have c4 : SeqAt.shaped (.list (dPs (S.map natD))) = true := by
    have c1 : PyData.canLayAll0 (dPs (S.map natD)) = true := by simpa [dP, PyData.canLay0] using c1
    have c2 : PyData.depthAll (dPs (S.map natD)) ≤ 0 := by simpa [dP, PyData.depth] using c2
    simp [SeqAt.shaped, PyData.canLay0, PyData.depth, c1]
    omega
  refine ⟨.list (dPs (S.map natD)), .list (dPs (S.map natD)), .lst (SqL.of ha) (RDs.dp hr), .lst (SqL.of hb) (RDs.dp hr), c4, c4, ?_⟩
  have c5 : PyData.eqv (.list (dPs (S.map natD))) (.list (dPs (S.map natD))) = true := by
    simpa [dP, PyData.eqv] using c3
  rw [c5]
  exact k
def spIsCut (K : PySem.W.Frag) : Sp := fun vs H Q _ => ∃ (z : Mz) (v u : V) (i j t : Nat) (S : List Nat), vs = [v, .int (i : Int), .int (j : Int), .int (t : Int), u] ∧ RD K H (mzD z) v ∧ MzOk z ∧ i < z.ds.length ∧ j < z.ds.length ∧ t ≤ 1000 ∧ RD K H (.tup (S.map natD)) u ∧
  S.Pairwise (· < ·) ∧ (∀ r ∈ S, r < z.n) ∧ dr z i ∈ S ∧ dr z j ∉ S ∧ (∀ p ∈ z.ps, p.s ∈ S → p.g ∉ S → p.w ≤ t) ∧ ∀ H', Ex H H' → Q (.bl true) H'
theorem ok_isCut (T : Tx K mg) : Has P w K mg base 6 (a_is_cut K) p_is_cut (spIsCut K) := by
  refine has_of (f_is_cut T) (z_is_cut T) (b_is_cut T) (fun vs H Q E h => by obtain ⟨_, _, _, _, _, _, _, rfl, _⟩ := h; rfl) (fun cdv A outer s H vs Q E hr h => ?_)
  obtain ⟨z, v, u, i, j, t, S, rfl, rv, ok, hi, hj, ht, ru, hpw, hSn, hxS, hyS, hcl, k⟩ := h
  have h_need_doors := ok_needDoors (P := P) (w := w) (base := base) T
  have h_is_whole := ok_whole (P := P) (w := w) (base := base) T
  have h_need := ok_need (P := P) (w := w) (base := base) T
  refine ⟨_, (pss_cons (ps_expr (pcall h_need_doors (hr.mono (by omega)) (g_need_doors T) (pa_cons (pv 0) (pa_cons (pv 1) (pa_cons (pv 2) pa_nil)))))
  (pss_cons (ps_expr (pcall h_need (hr.mono (by omega)) (g_need T) (pa_cons (pcall h_is_whole (hr.mono (by omega)) (g_is_whole T) (pa_cons (pv 3) (pa_cons pe_int (pa_cons pe_int pa_nil)))) (pa_cons pe_str pa_nil))))
  (pss_cons (ps_if (PW.pt (pw_or (pt_not (pt_val (pe_callB (isiK K) (by rfl) (l_isinstance T) (by decide +kernel) (pa_cons (pv 4) (pa_cons (pe_bltn (v := .ty "tuple") (u := .type "tuple") rfl (l_tuple T) (by decide +kernel) rfl) pa_nil))))) (pw_or1 (pt_not (pt_val (pe_callB (cr_all rfl) (by rfl) (l_all T) (by decide +kernel) (pa_cons (pe_lc (own := [("own", 5)]) rfl (z_is_cut T).nd (tupW K (pv 4)) (blkOk_by (N := n_is_cut) (sc := defScope s_is_cut) (by decide +kernel)) (fun _ _ _ _ _ => by exact (pg_name (i := 5) (z_is_cut T).nd rfl (Or.inl rfl))) (fun _ _ _ _ _ => by exact pts_nil) (fun _ _ _ _ _ => by exact (pcall h_is_whole (hr.mono (by omega)) (g_is_whole T) (pa_cons (pv 5) (pa_cons pe_int (pa_cons (pe_op oSubI (pe_ix (ixT K) (pv 0) pe_int (fun _ _ => rfl)) pe_int) pa_nil)))))) pa_nil))))))) (pss_one (ps_ret pe_bl)) pss_nil)
  (pss_cons (ps_if (PW.pt (pw_or (pt_cmpR (neDK K hr.units) (pe_callTy (listK K) (by rfl) (l_list T) (by decide +kernel) (pa_cons (pv 4) pa_nil)) (pe_callB sortSetK (by rfl) (l_sorted T) (by decide +kernel) (pa_cons (pe_callTy (setTI K) (by rfl) (l_set T) (by decide +kernel) (pa_cons (pv 4) pa_nil)) pa_nil)) (nomark _)) (pw_or (pt_cmpR (niK K) (pe_ix (ixT K) (pe_ix (ixT K) (pv 0) pe_int (fun _ _ => rfl)) (pv 1) (fun _ _ => rfl)) (pv 4) rfl) (pw_or1 (pt_cmpR (inK K) (pe_ix (ixT K) (pe_ix (ixT K) (pv 0) pe_int (fun _ _ => rfl)) (pv 2) (fun _ _ => rfl)) (pv 4) rfl))))) (pss_one (ps_ret pe_bl)) pss_nil)
  (pss_one (ps_ret (pe_callB (cr_all rfl) (by rfl) (l_all T) (by decide +kernel) (pa_cons (pe_lc (own := [("own", 5)]) rfl (z_is_cut T).nd (tupW K (pe_ix (ixT K) (pv 0) pe_int (fun _ _ => rfl))) (blkOk_by (N := n_is_cut) (sc := defScope s_is_cut) (by decide +kernel)) (fun _ _ _ _ _ => by exact (pg_name (i := 5) (z_is_cut T).nd rfl (Or.inl rfl))) (fun _ _ _ _ _ => by exact (pts_one (PW.pt (pw_and (pt_cmpR (inK K) (pe_ix (ixT K) (pv 5) pe_int (fun _ _ => rfl)) (pv 4) rfl) (pw_and1 (pt_cmpR (niK K) (pe_ix (ixT K) (pv 5) pe_int (fun _ _ => rfl)) (pv 4) rfl)))))) (fun _ _ _ _ _ => by exact (pe_cmpR oLeI (pe_ix (ixT K) (pv 5) pe_int (fun _ _ => rfl)) (pv 3) (nomark _)))) pa_nil)))))))), ?_⟩
  refine ⟨_, rfl, _, rfl, _, rfl, z, v, i, j, rfl, rv, ok, hi, hj, fun H1 e1 => ?_⟩
  obtain ⟨a, b, c, xs, rfl, ha, hb, rb, lx, hc⟩ := mzS (rv.mono e1.t)
  obtain ⟨uu, rfl, hu⟩ := tupN (ru.mono e1.t)
  have o1 := ok.n
  have o2 := ok.pl
  have hSl : S.length ≤ z.n := nodup_le z.n S (hpw.imp fun h => Nat.ne_of_lt h) hSn
  refine ⟨_, rfl, _, _, _, rfl, true, _, by rw [wh (by omega) (by omega)]; rfl, fun _ => ?_, fun zz => (by cases zz)⟩
  refine ⟨_, rfl, _, _, _, _, true, rfl, .ty _, tyT hu, kit_ty (by decide +kernel), true, rfl, iteF ?_⟩
  have hwt := walk_tup (K := K) (a := uu) (xs := nV S)
  rw [nV_len] at hwt
  refine ⟨_, rfl, uu, rfl, ⟨_, hu⟩, fun l hl => lcD (K := K) hl hwt (fun i => List.replicate i (.bl true)) rfl (fun H' e' => e'.t.sq hu) (fun i hi => by rw [List.length_replicate]; omega) (fun q x H2' H2 hq e2 y R N kR kN => ?_) (fun H3 zs e3 hz r => ?_)⟩
  · obtain ⟨rfl, hx⟩ := y
    obtain ⟨y, hy, rfl⟩ := nV_at hx
    have := hSn y (List.mem_of_getElem? hy)
    refine ⟨rfl, _, rfl, _, rfl, a, _, _, _, rfl, rfl, e2.t.sq ha, rfl, _, _, rfl, rfl, _, _, _, rfl, ?_⟩
    rw [wh (by omega) (by omega)]
    exact kR _ _ _ (Ex.refl _) (.bl _) (rep_succ _ _)
  · obtain rfl := trues r
    refine ⟨_, _, rfl, SqL.of hz, true, by rw [all_trues], iteF ?_⟩
    have ha3 := e3.t.sq ha
    have hb3 := e3.t.sq hb
    have hc3 := e3.t.sq hc
    have hu3 := e3.t.sq hu
    refine ⟨_, rfl, uu, _, rfl, .inr hu3, fun l1 hl1 => ?_⟩
    have f4 := ex_new hl1 (o := .lst (nV S))
    refine ⟨_, rfl, uu, S.map (fun x => ((x : Nat) : Int)), rfl, f4.t.sq hu3, by rw [List.length_map]; omega, fun sa cc hcc hsa => ?_⟩
    rw [List.length_map] at hcc
    refine ⟨sa, _, cc, rfl, upd_same, by omega, fun ns p hns hmem hnl hp => ?_⟩
    have hcast : (S.map fun x => ((x : Nat) : Int)).Pairwise (· < ·) := by
      rw [List.pairwise_map]
      exact hpw.imp fun h => by omega
    have hnsS : ns = S.map fun x => ((x : Nat) : Int) := sorted_eq hns hcast fun x => by rw [hmem x, decide_eq_true_eq]
    subst hnsS
    have f5 := ex_new hsa (o := SetO w sa (fun j => decide (j ∈ S.map fun x => ((x : Nat) : Int))) cc)
    have f6 := ex_new hp (o := .lst (nV S))
    have e6 := (f4.trans f5).trans f6
    have g1 := (f5.trans f6) _ _ (upd_same (H := H3) (a := l1) (o := .lst (nV S)))
    refine neL_same (S := S) g1 upd_same ⟨_, rfl, iteF ?_⟩
    have e36 := e3.trans e6
    have ha6 := e6.t.sq ha3
    have hb6 := e6.t.sq hb3
    have hc6 := e6.t.sq hc3
    have hu6 := e6.t.sq hu3
    have rb6 := rb.mono e36.t
    have e16 := e1.trans e36
    refine ⟨_, rfl, _, _, _, _, rfl, rfl, ha6, rfl, _, rfl, c, _, _, _, rfl, rfl, hc6, atI_nat (dr_at hi), _, rfl, uu, _, rfl, .inr hu6, rfl, flat_ints _, _, rfl, iteF' ?_ ?_⟩
    · show (!inV _ (nV S)) = false
      rw [inV_nat, decide_eq_true hxS]
      rfl
    refine ⟨_, rfl, _, _, _, _, rfl, rfl, ha6, rfl, _, rfl, c, _, _, _, rfl, rfl, hc6, atI_nat (dr_at hj), _, rfl, uu, _, rfl, .inr hu6, rfl, flat_ints _, _, rfl, iteF' ?_ ?_⟩
    · show inV _ (nV S) = false
      rw [inV_nat, decide_eq_false hyS]
    have hwb := walk_tup (K := K) (a := b) (xs := xs)
    rw [lx] at hwb
    refine ⟨_, rfl, a, _, _, _, rfl, rfl, ha6, rfl, b, rfl, ⟨_, hb6⟩, fun l2 hl2 => lcD (K := K) hl2 hwb (fun i => List.replicate ((z.ps.take i).filter fun p => decide (p.s ∈ S) && !decide (p.g ∈ S)).length (.bl true)) rfl (fun H' e' => e'.t.sq hb6) (fun i hi => ?_) (fun q x H4' H4 hq e4 y R N kR kN => ?_) (fun H5 zs5 e5 hz5 r5 => ?_)⟩
    · rw [List.length_replicate]
      have := List.length_filter_le (fun p : Pg => decide (p.s ∈ S) && !decide (p.g ∈ S)) (z.ps.take i)
      rw [List.length_take] at this
      omega
    · obtain ⟨rfl, hx⟩ := y
      have hpk : z.ps[q]? = some z.ps[q] := List.getElem?_eq_getElem hq
      have htk : z.ps.take (q + 1) = z.ps.take q ++ [z.ps[q]] := by rw [List.take_add_one, hpk]; rfl
      obtain ⟨tq, t1, t2⟩ := pgS (rb6.mono e4.t) hpk
      rw [hx] at t1
      cases t1
      have hcp := hcl _ (List.getElem_mem hq)
      rw [htk, List.filter_append, List.length_append] at kR kN
      generalize z.ps[q] = pg at t2 kR kN hcp
      have hu4 := e4.t.sq hu6
      refine ⟨rfl, _, rfl, tq, _, _, _, rfl, rfl, t2, rfl, _, rfl, uu, _, rfl, .inr hu4, rfl, flat_ints _, _, rfl, ?_⟩
      show if inV _ (nV S) = true then _ else _
      rw [inV_nat]
      by_cases c1 : pg.s ∈ S
      · refine iteT' (decide_eq_true c1) ?_
        refine ⟨_, rfl, tq, _, _, _, rfl, rfl, t2, rfl, _, rfl, uu, _, rfl, .inr hu4, rfl, flat_ints _, _, rfl, ?_⟩
        show if (!inV _ (nV S)) = true then _ else _
        rw [inV_nat]
        by_cases c2 : pg.g ∈ S
        · refine iteF' (by simp [c2]) ?_
          refine kN _ (Ex.refl _) ?_
          simp [c1, c2]
        · refine iteT' (by simp [c2]) ?_
          have hw := hcp c1 c2
          refine ⟨_, rfl, tq, _, _, _, rfl, rfl, t2, rfl, _, rfl, _, _, rfl, rfl, ?_⟩
          rw [decide_eq_true (by omega)]
          refine kR _ _ (.bl true) (Ex.refl _) (.bl _) ?_
          simp [c1, c2, rep_succ]
      · refine iteF' (decide_eq_false c1) (iteF ?_)
        refine kN _ (Ex.refl _) ?_
        simp [c1]
    · skip
      obtain rfl := trues r5
      refine ⟨_, _, rfl, SqL.of hz5, ?_⟩
      rw [all_trues]
      exact k _ (e16.trans e5)
end
end K09
namespace K09
open PySem PySem.Spec
open PyProof.Rows L2 Sl Ps
/-- the fields of a reader -/
def rf (l : Addr) (n i d : Nat) : List (Str × V) := [("signs", .ref l), ("size", .int (n : Int)), ("at", .int (i : Int)), ("deep", .int (d : Int))]
theorem rf_signs (l : Addr) (n i d : Nat) : (rf l n i d).lookup ("signs" : Str) = some (.ref l) := by rfl
theorem rf_size (l : Addr) (n i d : Nat) : (rf l n i d).lookup ("size" : Str) = some (.int n) := by rfl
theorem rf_at (l : Addr) (n i d : Nat) : (rf l n i d).lookup ("at" : Str) = some (.int i) := by rfl
theorem rf_deep (l : Addr) (n i d : Nat) : (rf l n i d).lookup ("deep" : Str) = some (.int d) := by rfl
theorem rf_putAt (l : Addr) (n i d : Nat) : putF "at" (.int ((i : Int) + 1)) (rf l n i d) = rf l n (i + 1) d := by rfl
theorem rf_putDeep (l : Addr) (n i d : Nat) : putF "deep" (.int ((d : Int) + 1)) (rf l n i d) = rf l n i (d + 1) := by rfl
theorem rf_putDeep2 (l : Addr) (n i d : Nat) : putF "deep" (.int (((d + 1 : Nat) : Int) - 1)) (rf l n i (d + 1)) = rf l n i d := by
  have e : ((d + 1 : Nat) : Int) - 1 = (d : Int) := by omega
  rw [e]
  rfl
section
variable {P : Program} {w : World} {K : PySem.W.Frag} {mg : Str → Option Value} {base : Heap}
abbrev cR (K : PySem.W.Frag) : Addr := He.ga K "Reader"
abbrev cF (K : PySem.W.Frag) : Addr := He.ga K "Flaw"
theorem ok_Flawinit (T : Tx K mg) : Has P w K mg base 1 (a_Flaw_init K) p_Flaw_init (spX2 K (cF K) "place" "message") := by
  refine has_of (f_Flaw_init T) (z_Flaw_init T) (b_Flaw_init T) (fun vs H Q E h => by obtain ⟨_, _, _, rfl, _⟩ := h; rfl) (fun cdv A outer s H vs Q E hr h => ?_)
  obtain ⟨o, y, z, rfl, T1, hf, hg, ho, k⟩ := h
  refine ⟨_, pss_cons (ps_ost (pv 0) (pv 1)) (pss_one (ps_ost (pv 0) (pv 2))), ?_⟩
  refine ⟨_, rfl, _, rfl, o, _, rfl, T1, hf, .inl ⟨ho, fun dx hd hne => ?_⟩⟩
  refine ⟨_, rfl, _, rfl, o, _, rfl, T1, hg, .inr ⟨dx, [("place", y)], upd_same, ?_, by show 1 ≤ 900; decide, k dx hd hne⟩⟩
  rw [upd_ne hne, upd_same]
/-- what a flaw leaves -/
abbrev Fl (K : PySem.W.Frag) (M : List Addr) (H : Hp) (E : XK) (pl : Nat) (m : Str) : Prop := ∀ d H', ExB M H H' → H d = none → H' d = some (.xd [("message", .str m), ("place", .int (pl : Int))]) → E (.ref (cF K)) (some d) H'
abbrev Sgs (K : PySem.W.Frag) (H : Hp) (l : Addr) (ss : Sg) : Prop := ∃ xs, H l = some (.lst xs) ∧ RDs K H (ss.map sgD) xs
def sgAt (ss : Sg) (i : Nat) : Str := match cAt ss i with
  | some c => ⟨#[c]⟩
  | none => ⟨#[]⟩
def spSign (K : PySem.W.Frag) : Sp := fun vs H Q _ => ∃ (p dx l : Addr) (n i d : Nat) (ss : Sg), vs = [.ref p] ∧ H p = some (.ins (cR K) dx (rf l n i d)) ∧ Sgs K H l ss ∧ Q (.str (sgAt ss i)) H
theorem sg_at {K : PySem.W.Frag} {H : Hp} {ss : Sg} {xs : List V} {i : Nat} (r : RDs K H (ss.map sgD) xs) (hi : i < ss.length) : ∃ a, atI xs (i : Int) = some (.ref a) ∧ SqT K H a [.str ⟨#[ss[i].1]⟩, .int (ss[i].2 : Int)] := by
  obtain ⟨v, h1, h2⟩ := r.get (i := i) (d := sgD ss[i]) (by simp [hi])
  obtain ⟨a, ys, rfl, h3, h4⟩ := h2.ofTup
  obtain ⟨v1, w1, rfl, q1, q2⟩ := h4.ofCons
  obtain ⟨v2, w2, rfl, q3, q4⟩ := q2.ofCons
  obtain rfl := q1.ofStr
  obtain rfl := q3.ofInt
  obtain rfl := q4.ofNil
  exact ⟨a, at_of rfl h1, h3⟩
theorem cAt_lt {ss : Sg} {i : Nat} (h : i < ss.length) : cAt ss i = some ss[i].1 := by simp [cAt, h]
theorem cAt_ge {ss : Sg} {i : Nat} (h : ¬ i < ss.length) : cAt ss i = none := by simp [cAt]; omega
theorem pAt_lt {ss : Sg} {n i : Nat} (h : i < ss.length) : pAt ss n i = ss[i].2 := by simp [pAt, h]
theorem pAt_ge {ss : Sg} {n i : Nat} (h : ¬ i < ss.length) : pAt ss n i = n := by simp [pAt, show ss[i]? = none from List.getElem?_eq_none_iff.mpr (by omega)]
theorem ok_sign (T : Tx K mg) : Has P w K mg base 1 (a_Reader_sign K) p_Reader_sign (spSign K) := by
  refine has_of (f_Reader_sign T) (z_Reader_sign T) (b_Reader_sign T) (fun vs H Q E h => by obtain ⟨_, _, _, _, _, _, _, rfl, _⟩ := h; rfl) (fun cdv A outer s H vs Q E hr h => ?_)
  obtain ⟨p, dx, l, n, i, d, ss, rfl, hp, ⟨xs, hl, r⟩, k⟩ := h
  refine ⟨_, (pss_one (ps_ret (pe_ifExp (pt_cmpR oLtI (fldK K (pv 0)) (pe_callB (lenK K) (by rfl) (l_len T) (by decide +kernel) (pa_cons (fldK K (pv 0)) pa_nil)) (nomark _)) (pe_ix (ixT K) (pe_ix (ixL K) (fldK K (pv 0)) (fldK K (pv 0)) (fun _ _ => rfl)) pe_int (fun _ _ => rfl)) pe_str))), ?_⟩
  refine ⟨_, rfl, p, _, dx, _, _, rfl, hp, c_Reader T, n_Reader_at T, rf_at .., _, rfl, p, _, dx, _, _, rfl, hp, c_Reader T, n_Reader_signs T, rf_signs .., l, _, rfl, .inl (SqL.of hl), _, _, rfl, rfl, _, rfl, ?_⟩
  refine ite2 (fun c => ?_) (fun c => ?_)
  · have hi : i < ss.length := by
      have := of_decide_eq_true c
      rw [r.len, List.length_map] at this
      omega
    obtain ⟨a, h1, h2⟩ := sg_at r hi
    refine ⟨_, rfl, p, _, dx, _, _, rfl, hp, c_Reader T, n_Reader_signs T, rf_signs .., _, rfl, p, _, dx, _, _, rfl, hp, c_Reader T, n_Reader_at T, rf_at .., l, _, _, _, rfl, rfl, SqL.of hl, h1, a, _, _, _, rfl, rfl, h2, rfl, ?_⟩
    have e : sgAt ss i = ⟨#[ss[i].1]⟩ := by unfold sgAt; rw [cAt_lt hi]
    rw [e] at k
    exact k
  · have hi : ¬ i < ss.length := by
      intro z
      refine c (decide_eq_true ?_)
      rw [r.len, List.length_map]
      omega
    have e : sgAt ss i = ⟨#[]⟩ := by unfold sgAt; rw [cAt_ge hi]
    rw [e] at k
    exact k
def spRefuse (K : PySem.W.Frag) : Sp := fun vs H _ E => ∃ (p dx l : Addr) (n i d : Nat) (ss : Sg) (m : Str), vs = [.ref p, .str m] ∧ H p = some (.ins (cR K) dx (rf l n i d)) ∧ Sgs K H l ss ∧ Fl K [] H E (pAt ss n i) m
theorem ok_refuse (T : Tx K mg) : Has P w K mg base 3 (a_Reader_refuse K) p_Reader_refuse (spRefuse K) := by
  refine has_of (f_Reader_refuse T) (z_Reader_refuse T) (b_Reader_refuse T) (fun vs H Q E h => by obtain ⟨_, _, _, _, _, _, _, _, rfl, _⟩ := h; rfl) (fun cdv A outer s H vs Q E hr h => ?_)
  obtain ⟨p, dx, l, n, i, d, ss, m, rfl, hp, ⟨xs, hl, r⟩, k⟩ := h
  have h_Flaw_init := ok_Flawinit (P := P) (w := w) (base := base) T
  refine ⟨_, (pss_one (praise h_Flaw_init rfl tk_of (x_Flaw T).1 (xi_Flaw T).1 (xi_Flaw T).2 (hr.mono (by omega)) (g_Flaw T) (pa_cons (pe_ifExp (pt_cmpR oLtI (fldK K (pv 0)) (pe_callB (lenK K) (by rfl) (l_len T) (by decide +kernel) (pa_cons (fldK K (pv 0)) pa_nil)) (nomark _)) (pe_ix (ixT K) (pe_ix (ixL K) (fldK K (pv 0)) (fldK K (pv 0)) (fun _ _ => rfl)) pe_int (fun _ _ => rfl)) (fldK K (pv 0))) (pa_cons (pv 1) pa_nil)))), ?_⟩
  have fin : ∀ pl : Nat, pl = pAt ss n i → ∀ d' H', Ex H H' → H d' = none → H' d' = some (.xd [("message", .str m), ("place", .int (pl : Int))]) → E (.ref (cF K)) (some d') H' := fun pl e d' H' h1 h2 h3 => k d' H' h1.b h2 (by rw [← e]; exact h3)
  refine ⟨_, rfl, p, _, dx, _, _, rfl, hp, c_Reader T, n_Reader_at T, rf_at .., _, rfl, p, _, dx, _, _, rfl, hp, c_Reader T, n_Reader_signs T, rf_signs .., l, _, rfl, .inl (SqL.of hl), _, _, rfl, rfl, _, rfl, ?_⟩
  refine ite2 (fun c => ?_) (fun c => ?_)
  · have hi : i < ss.length := by
      have := of_decide_eq_true c
      rw [r.len, List.length_map] at this
      omega
    obtain ⟨a, h1, h2⟩ := sg_at r hi
    refine ⟨_, rfl, p, _, dx, _, _, rfl, hp, c_Reader T, n_Reader_signs T, rf_signs .., _, rfl, p, _, dx, _, _, rfl, hp, c_Reader T, n_Reader_at T, rf_at .., l, _, _, _, rfl, rfl, SqL.of hl, h1, a, _, _, _, rfl, rfl, h2, rfl, _, rfl, ?_⟩
    exact mkx2 (x_Flaw T).1 (n_Flaw_place T) (n_Flaw_message T) (fin _ (pAt_lt hi).symm)
  · have hi : ¬ i < ss.length := by
      intro z
      refine c (decide_eq_true ?_)
      rw [r.len, List.length_map]
      omega
    refine ⟨_, rfl, p, _, dx, _, _, rfl, hp, c_Reader T, n_Reader_size T, rf_size .., _, rfl, ?_⟩
    exact mkx2 (x_Flaw T).1 (n_Flaw_place T) (n_Flaw_message T) (fin _ (pAt_ge hi).symm)
theorem dg_list : ("0123456789" : Str).cps.toList = [48, 49, 50, 51, 52, 53, 54, 55, 56, 57] := by decide +kernel
theorem dg_mem (c : Nat) : decide (c ∈ ("0123456789" : Str).cps.toList) = isDg c := by
  rw [dg_list]
  unfold isDg
  refine decide_eq_decide.mpr ?_
  simp only [List.mem_cons, List.not_mem_nil, or_false]
  omega
theorem dg_index : ∀ v : Nat, v < 10 → ∃ rest, Builtin.Str.occurrences ("0123456789" : Str) ⟨#[48 + v]⟩ 0 ("0123456789" : Str).length 1 = v :: rest
  | 0, _ => ⟨[], by decide +kernel⟩
  | 1, _ => ⟨[], by decide +kernel⟩
  | 2, _ => ⟨[], by decide +kernel⟩
  | 3, _ => ⟨[], by decide +kernel⟩
  | 4, _ => ⟨[], by decide +kernel⟩
  | 5, _ => ⟨[], by decide +kernel⟩
  | 6, _ => ⟨[], by decide +kernel⟩
  | 7, _ => ⟨[], by decide +kernel⟩
  | 8, _ => ⟨[], by decide +kernel⟩
  | 9, _ => ⟨[], by decide +kernel⟩
  | n + 10, h => by omega
/-- what a reader's method leaves: it went on to i' -/
abbrev Went (K : PySem.W.Frag) (H : Hp) (p dx l : Addr) (n i' d : Nat) (H' : Hp) : Prop := ExB [p] H H' ∧ TEx H H' ∧ H' p = some (.ins (cR K) dx (rf l n i' d))
def spNext (K : PySem.W.Frag) : Sp := fun vs H Q _ => ∃ (p dx l : Addr) (n i d : Nat) (ss : Sg) (c : Nat), vs = [.ref p, .str ⟨#[c]⟩] ∧ H p = some (.ins (cR K) dx (rf l n i d)) ∧ Sgs K H l ss ∧
  ∀ H', Went K H p dx l n (if cAt ss i = some c then i + 1 else i) d H' → Q (.bl (decide (cAt ss i = some c))) H'
theorem sg_eq {ss : Sg} {i c : Nat} : decide (V.str (sgAt ss i) = V.str ⟨#[c]⟩) = decide (cAt ss i = some c) := by
  refine decide_eq_decide.mpr ?_
  unfold sgAt
  cases cAt ss i with
  | none => simp
  | some a => simp
theorem went_refl {K : PySem.W.Frag} {H : Hp} {p dx l : Addr} {n i d : Nat} (h : H p = some (.ins (cR K) dx (rf l n i d))) : Went K H p dx l n i d H := ⟨ExB.refl _ _, TEx.refl _, h⟩
theorem went_put {K : PySem.W.Frag} {H : Hp} {p dx l : Addr} {n i d i' d' : Nat} (h : H p = some (.ins (cR K) dx (rf l n i d))) : Went K H p dx l n i' d' (upd H p (.ins (cR K) dx (rf l n i' d'))) :=
  ⟨exb_put, tex_put h (by intro xs z; cases z) (by intro a b z; cases z), upd_same⟩
theorem ok_next (T : Tx K mg) : Has P w K mg base 3 (a_Reader_is_next K) p_Reader_is_next (spNext K) := by
  refine has_of (f_Reader_is_next T) (z_Reader_is_next T) (b_Reader_is_next T) (fun vs H Q E h => by obtain ⟨_, _, _, _, _, _, _, _, rfl, _⟩ := h; rfl) (fun cdv A outer s H vs Q E hr h => ?_)
  obtain ⟨p, dx, l, n, i, d, ss, c, rfl, hp, hs, k⟩ := h
  have h_Reader_sign := ok_sign (P := P) (w := w) (base := base) T
  refine ⟨_, (pss_cons (ps_if (pt_cmpR op_ne (pmeth0 h_Reader_sign (c_Reader T) (m_Reader_sign T) (hr.mono (by omega)) passL (pv 0)) (pv 1) (nomark _)) (pss_one (ps_ret pe_bl)) pss_nil)
  (pss_cons (ps_fldaug (pv 0) pe_int in_add)
  (pss_one (ps_ret pe_bl)))), ?_⟩
  refine ⟨_, rfl, p, dx, _, rfl, hp, rfl, p, dx, l, n, i, d, ss, rfl, hp, hs, ?_⟩
  refine ⟨_, rfl, rfl, _, rfl, ?_⟩
  rw [sg_eq]
  by_cases hc : cAt ss i = some c
  · rw [if_pos hc, decide_eq_true hc] at k
    rw [decide_eq_true hc]
    refine ⟨_, rfl, p, _, dx, _, _, rfl, hp, c_Reader T, n_Reader_at T, rf_at .., _, _, rfl, rfl, dx, _, hp, by show 4 < 1000; decide, ?_⟩
    rw [rf_putAt]
    exact k _ (went_put hp)
  · rw [if_neg hc, decide_eq_false hc] at k
    rw [decide_eq_false hc]
    exact k _ (went_refl hp)
def spDigit (K : PySem.W.Frag) : Sp := fun vs H Q E => ∃ (p dx l : Addr) (n i d : Nat) (ss : Sg), vs = [.ref p] ∧ H p = some (.ins (cR K) dx (rf l n i d)) ∧ Sgs K H l ss ∧
  match dgV ss i with
  | none => Fl K [] H E (pAt ss n i) "expected a digit"
  | some v => ∀ H', Went K H p dx l n (i + 1) d H' → Q (.int (v : Int)) H'
theorem ok_digit (T : Tx K mg) : Has P w K mg base 4 (a_Reader_digit K) p_Reader_digit (spDigit K) := by
  refine has_of (f_Reader_digit T) (z_Reader_digit T) (b_Reader_digit T) (fun vs H Q E h => by obtain ⟨_, _, _, _, _, _, _, rfl, _⟩ := h; rfl) (fun cdv A outer s H vs Q E hr h => ?_)
  obtain ⟨p, dx, l, n, i, d, ss, rfl, hp, hs, k⟩ := h
  have h_Reader_sign := ok_sign (P := P) (w := w) (base := base) T
  have h_Reader_refuse := ok_refuse (P := P) (w := w) (base := base) T
  refine ⟨_, (pss_cons (ps_if (PW.pt (pw_or (pt_cmpR op_eq (pmeth0 h_Reader_sign (c_Reader T) (m_Reader_sign T) (hr.mono (by omega)) passL (pv 0)) pe_str (nomark _)) (pw_or1 (pt_cmpR oNiSg (pmeth0 h_Reader_sign (c_Reader T) (m_Reader_sign T) (hr.mono (by omega)) passL (pv 0)) (pgs (i_DIGITS T)) rfl)))) (pss_one (ps_expr (pmeth h_Reader_refuse (c_Reader T) (m_Reader_refuse T) (hr.mono (by omega)) px_of (pv 0) (pa_cons pe_str pa_nil)))) pss_nil)
  (pss_cons (ps_fldaug (pv 0) pe_int in_add)
  (pss_one (ps_ret (bmK K PySem.F.plainAttrs_str PySem.F.slot_str_index PySem.F.type_str_index mt_sindex (pgs (i_DIGITS T)) (pa_cons (pe_ix (ixT K) (pe_ix (ixL K) (fldK K (pv 0)) (pe_op oSubI (fldK K (pv 0)) pe_int) (fun _ _ => rfl)) pe_int (fun _ _ => rfl)) pa_nil)))))), ?_⟩
  refine ⟨_, rfl, p, dx, _, rfl, hp, rfl, p, dx, l, n, i, d, ss, rfl, hp, hs, rfl, _, rfl, ?_⟩
  unfold dgV at k
  cases hc : cAt ss i with
  | none =>
    have e : sgAt ss i = ⟨#[]⟩ := by unfold sgAt; rw [hc]
    rw [hc] at k
    rw [e, decide_eq_true (show V.str ⟨#[]⟩ = V.str "" by rfl)]
    refine ⟨_, rfl, p, dx, _, rfl, hp, rfl, p, dx, l, n, i, d, ss, _, rfl, hp, hs, k⟩
  | some c =>
    have e : sgAt ss i = ⟨#[c]⟩ := by unfold sgAt; rw [hc]
    have ne : ¬ V.str ⟨#[c]⟩ = V.str "" := by
      intro z
      have z1 : (⟨#[c]⟩ : Str) = "" := V.str.inj z
      have z2 : #[c] = (#[] : Array Nat) := congrArg Str.cps z1
      simp at z2
    have hi : i < ss.length := by
      by_cases q : i < ss.length
      · exact q
      · rw [cAt_ge q] at hc; cases hc
    have hcc : ss[i].1 = c := by
      rw [cAt_lt hi] at hc
      exact Option.some.inj hc
    rw [hc] at k
    rw [e, decide_eq_false ne]
    refine ⟨_, rfl, p, dx, _, rfl, hp, rfl, p, dx, l, n, i, d, ss, rfl, hp, hs, c, _, by rw [e], rfl, _, rfl, ?_⟩
    rw [dg_mem]
    cases hd : isDg c with
    | false =>
      have k : Fl K [] H E (pAt ss n i) "expected a digit" := by simpa [hd] using k
      refine ⟨_, rfl, p, dx, _, rfl, hp, rfl, p, dx, l, n, i, d, ss, _, rfl, hp, hs, k⟩
    | true =>
      have k : ∀ H', Went K H p dx l n (i + 1) d H' → Q (.int ((c - 48 : Nat) : Int)) H' := by simpa [hd] using k
      obtain ⟨h48, h57⟩ := of_decide_eq_true hd
      refine ⟨_, rfl, p, _, dx, _, _, rfl, hp, c_Reader T, n_Reader_at T, rf_at .., _, _, rfl, rfl, dx, _, hp, by show 4 < 1000; decide, ?_⟩
      rw [rf_putAt]
      have W := went_put (i' := i + 1) (d' := d) hp
      obtain ⟨xs, hl, r⟩ := hs
      have hl2 : upd H p (.ins (cR K) dx (rf l n (i + 1) d)) l = some (.lst xs) := by
        rw [upd_ne (ne_of hl hp (by intro z; cases z))]
        exact hl
      obtain ⟨a, h1, h2⟩ := sg_at (r.mono W.2.1) hi
      obtain ⟨rest, ho⟩ := dg_index (c - 48) (by omega)
      refine ⟨rfl, _, rfl, p, _, dx, _, _, rfl, W.2.2, c_Reader T, n_Reader_signs T, rf_signs .., _, rfl, p, _, dx, _, _, rfl, W.2.2, c_Reader T, n_Reader_at T, rf_at .., _, _, rfl, rfl, l, _, _, _, rfl, rfl, SqL.of hl2, ?_, a, _, _, _, rfl, rfl, h2, rfl, ?_⟩
      · have e1 : ((i + 1 : Nat) : Int) - 1 = (i : Int) := by omega
        rw [e1]
        exact h1
      · refine ⟨_, _, c - 48, rest, rfl, rfl, ?_, k _ W⟩
        rw [hcc]
        have e2 : 48 + (c - 48) = c := by omega
        rw [e2] at ho
        exact ho
end
end K09
namespace K09
open PySem PySem.Spec
open PyProof.Rows L2 Sl Ps
section
variable {P : Program} {w : World} {K : PySem.W.Frag} {mg : Str → Option Value} {base : Heap} {H H1 H2 : Hp} {p dx l : Addr} {n i j d : Nat} {ss : Sg} {E : XK} {Q : VK}
theorem went_trans {i' d' : Nat} (a : Went K H p dx l n i d H1) (b : Went K H1 p dx l n i' d' H2) : Went K H p dx l n i' d' H2 := ⟨a.1.trans b.1, a.2.1.trans b.2.1, b.2.2⟩
theorem went_new {q : Addr} {o : HO} (a : Went K H p dx l n i d H1) (h : H1 q = none) : Went K H p dx l n i d (upd H1 q o) :=
  ⟨a.1.trans (ex_new h).b, a.2.1.trans (ex_new h).t, ex_new h _ _ a.2.2⟩
theorem went_at (a : Went K H p dx l n i d H1) (h : j = i) : Went K H p dx l n j d H1 := by rw [h]; exact a
theorem sgs_went (h : Sgs K H l ss) (a : Went K H p dx l n i d H1) {o : HO} (hp : H p = some o) (ho : ∀ xs, o ≠ .lst xs) : Sgs K H1 l ss := by
  obtain ⟨xs, h1, h2⟩ := h
  have ne : l ≠ p := ne_of h1 hp (ho xs).symm
  exact ⟨xs, a.1 l _ (by simpa using ne) h1, h2.mono a.2.1⟩
theorem fl_nil {M : List Addr} {pl : Nat} {m : Str} (f : Fl K M H E pl m) : Fl K [] H E pl m := fun d H' e n x => f d H' (e.mono fun a z => by simp at z) n x
theorem fl_later {pl : Nat} {m : Str} (f : Fl K [p] H E pl m) (a : Went K H p dx l n i d H1) : Fl K [p] H1 E pl m := fun d' H' e nn x => by
  refine f d' H' (a.1.trans e) ?_ x
  cases q : H d' with
  | none => rfl
  | some o =>
    by_cases z : d' = p
    · rw [z, a.2.2] at nn; cases nn
    · rw [a.1 d' o (by simpa using z) q] at nn; cases nn
/-- the ends of a reading -/
def Out (K : PySem.W.Frag) (H : Hp) (p dx l : Addr) (n d : Nat) (Q : VK) (E : XK) : Rz → Prop
  | .bad pl m => Fl K [p] H E pl m
  | .ok t j => ∀ v H', Went K H p dx l n j d H' → RD K H' t v → Q v H'
def spPar (K : PySem.W.Frag) (F : Sg → Nat → Nat → Nat → Nat → Option Rz) (d : Nat) : Sp := fun vs H Q E => ∃ (p dx l : Addr) (n i : Nat) (ss : Sg) (f : Nat) (r : Rz), vs = [.ref p] ∧ H p = some (.ins (cR K) dx (rf l n i d)) ∧ Sgs K H l ss ∧ F ss n f d i = some r ∧ Out K H p dx l n d Q E r
theorem par_len {F : Sg → Nat → Nat → Nat → Nat → Option Rz} {vs : List V} (h : spPar K F d vs H Q E) : vs.length = 1 := by obtain ⟨_, _, _, _, _, _, _, _, rfl, _⟩ := h; rfl
theorem plus_eq : (Str.ofString "+") = ⟨#[43]⟩ := by rfl
theorem beside_sg (u v : V) : [V.str "beside", u, v].length ≤ sizeLine := by show 3 ≤ sizeLine; decide
theorem ok_nest (T : Tx K mg) {k : Nat} (h_Reader_item : Has P w K mg base (k + 4) (a_Reader_item K) p_Reader_item (spPar K itemP d)) : Has P w K mg base (k + 5) (a_Reader_nest K) p_Reader_nest (spPar K nestP d) := by
  refine has_of (f_Reader_nest T) (z_Reader_nest T) (b_Reader_nest T) (fun vs H Q E h => par_len h) (fun cdv A outer s H vs Q E hr h => ?_)
  obtain ⟨p, dx, l, n, i, ss, f, r, rfl, hp, hs, hf, k⟩ := h
  have h_Reader_is_next := ok_next (P := P) (w := w) (base := base) T
  refine ⟨_, (pss_cons (ps_set (i := 1) (z_Reader_nest T).nd rfl (Or.inl rfl) (pmeth0 h_Reader_item (c_Reader T) (m_Reader_item T) (hr.mono (by omega)) px_of (pv 0)))
  (pss_cons (ps_while (passes_of rfl) (pt_val (pmeth h_Reader_is_next (c_Reader T) (m_Reader_is_next T) (hr.mono (by omega)) passL (pv 0) (pa_cons pe_str pa_nil))) (pss_one (ps_set (i := 1) (z_Reader_nest T).nd rfl (Or.inl rfl) (pe_tup (pa_cons pe_str (pa_cons (pv 1) (pa_cons (pmeth0 h_Reader_item (c_Reader T) (m_Reader_item T) (hr.mono (by omega)) px_of (pv 0)) pa_nil)))))))
  (pss_one (ps_ret (pv 1))))), ?_⟩
  cases f with
  | zero => simp [nestP] at hf
  | succ f =>
  have ho : ∀ xs, HO.ins (cR K) dx (rf l n i d) ≠ .lst xs := fun _ z => by cases z
  have loop : ∀ m t i1 v H1, Went K H p dx l n i1 d H1 → RD K H1 t v → nestL ss n m d t i1 = some r →
      tWhile (tB (tMeth (cR K) "is_next" (spNext K) [] E0 (tVar 0) (tCons (tC (.str "+")) tNil))) (tAsg (tTup (tCons (tC (.str "beside")) (tCons (tVar 1) (tCons (tMeth (cR K) "item" (spPar K itemP d) [] E (tVar 0) tNil) tNil)))) (gName 1))
        { nx := fun σ H' => tRet (tVar 1) { nx := fun _ H' => Q .non H', rt := Q } σ H', rt := Q } [some (.ref p), some v] H1 := by
    intro m0 t0 i0 v0 H0 W0 r0 e0
    refine ⟨fun m σ H1 => ∃ t i1 v, σ = [some (.ref p), some v] ∧ Went K H p dx l n i1 d H1 ∧ RD K H1 t v ∧ nestL ss n m d t i1 = some r, ⟨m0, t0, i0, v0, rfl, W0, r0, e0⟩, ?_⟩
    rintro m σ H1 ⟨t, i1, v, rfl, W, rv, hm⟩
    cases m with
    | zero => simp [nestL] at hm
    | succ m =>
    refine ⟨_, rfl, p, dx, _, rfl, W.2.2, rfl, p, dx, l, n, i1, d, ss, 43, rfl, W.2.2, sgs_went hs W hp ho, fun H2 W2 => ⟨_, rfl, ?_⟩⟩
    simp only [nestL] at hm
    by_cases c : cAt ss i1 = some 43
    · rw [if_pos c] at W2 hm
      rw [decide_eq_true c]
      have W3 := went_trans W W2
      refine ⟨fun σ' H' => ∃ t i1 v, σ' = [some (.ref p), some v] ∧ Went K H p dx l n i1 d H' ∧ RD K H' t v ∧ nestL ss n m d t i1 = some r, fun σ' H' h => ⟨m, Nat.lt_succ_self m, h⟩, ?_⟩
      cases hi : itemP ss n m d (i1 + 1) with
      | none => rw [hi] at hm; cases hm
      | some r1 =>
        rw [hi] at hm
        refine ⟨_, rfl, _, rfl, p, dx, _, rfl, W3.2.2, rfl, p, dx, l, n, i1 + 1, ss, m, r1, rfl, W3.2.2, sgs_went hs W3 hp ho, hi, ?_⟩
        cases r1 with
        | bad pl msg =>
          obtain rfl : Rz.bad pl msg = r := Option.some.inj hm
          exact fl_later k W3
        | ok u j =>
          intro v2 H3 W4 rv2
          have W5 := went_trans W3 W4
          refine ⟨three_sz _ _ _, fun q hq => ⟨_, j, _, rfl, went_new W5 hq, ?_, hm⟩⟩
          refine .tup (.inl (.inl upd_same)) ?_
          exact .cons (.str _) (.cons (rv.mono ((W2.2.1.trans W4.2.1).trans (ex_new hq).t)) (.cons (rv2.mono (ex_new hq).t) .nil))
    · rw [if_neg c] at W2 hm
      rw [decide_eq_false c]
      obtain rfl : Rz.ok t i1 = r := Option.some.inj hm
      exact ⟨_, rfl, k _ _ (went_trans W W2) (rv.mono W2.2.1)⟩
  simp only [nestP] at hf
  cases hi : itemP ss n f d i with
  | none => rw [hi] at hf; cases hf
  | some r1 =>
    rw [hi] at hf
    refine ⟨_, rfl, p, dx, _, rfl, hp, rfl, p, dx, l, n, i, ss, f, r1, rfl, hp, hs, hi, ?_⟩
    cases r1 with
    | bad pl msg =>
      obtain rfl : Rz.bad pl msg = r := Option.some.inj hf
      exact k
    | ok t j =>
      intro v H1 W rv
      exact loop f t j v H1 W rv hf
theorem ok_item (T : Tx K mg) {k : Nat} (h_Reader_atom : Has P w K mg base (k + 4) (a_Reader_atom K) p_Reader_atom (spPar K atomP d)) : Has P w K mg base (k + 5) (a_Reader_item K) p_Reader_item (spPar K itemP d) := by
  refine has_of (f_Reader_item T) (z_Reader_item T) (b_Reader_item T) (fun vs H Q E h => par_len h) (fun cdv A outer s H vs Q E hr h => ?_)
  obtain ⟨p, dx, l, n, i, ss, f, r, rfl, hp, hs, hf, k⟩ := h
  have h_Reader_is_next := ok_next (P := P) (w := w) (base := base) T
  have h_Reader_digit := ok_digit (P := P) (w := w) (base := base) T
  refine ⟨_, (pss_cons (ps_set (i := 1) (z_Reader_item T).nd rfl (Or.inl rfl) (pmeth0 h_Reader_atom (c_Reader T) (m_Reader_atom T) (hr.mono (by omega)) px_of (pv 0)))
  (pss_cons (ps_while (passes_of rfl) (pt_val (pmeth h_Reader_is_next (c_Reader T) (m_Reader_is_next T) (hr.mono (by omega)) passL (pv 0) (pa_cons pe_str pa_nil))) (pss_cons (ps_set (i := 2) (z_Reader_item T).nd rfl (Or.inl rfl) (pmeth0 h_Reader_digit (c_Reader T) (m_Reader_digit T) (hr.mono (by omega)) px_of (pv 0)))
  (pss_one (ps_set (i := 1) (z_Reader_item T).nd rfl (Or.inl rfl) (pe_tup (pa_cons pe_str (pa_cons (pv 2) (pa_cons (pv 1) (pa_cons (pmeth0 h_Reader_atom (c_Reader T) (m_Reader_atom T) (hr.mono (by omega)) px_of (pv 0)) pa_nil)))))))))
  (pss_one (ps_ret (pv 1))))), ?_⟩
  cases f with
  | zero => simp [itemP] at hf
  | succ f =>
  have ho : ∀ xs, HO.ins (cR K) dx (rf l n i d) ≠ .lst xs := fun _ z => by cases z
  have loop : ∀ m t i1 v x H1, Went K H p dx l n i1 d H1 → RD K H1 t v → itemL ss n m d t i1 = some r →
      tWhile (tB (tMeth (cR K) "is_next" (spNext K) [] E0 (tVar 0) (tCons (tC (.str "/")) tNil))) (tSeq (tAsg (tMeth (cR K) "digit" (spDigit K) [] E (tVar 0) tNil) (gName 2))
          (tAsg (tTup (tCons (tC (.str "over")) (tCons (tVar 2) (tCons (tVar 1) (tCons (tMeth (cR K) "atom" (spPar K atomP d) [] E (tVar 0) tNil) tNil))))) (gName 1)))
        { nx := fun σ H' => tRet (tVar 1) { nx := fun _ H' => Q .non H', rt := Q } σ H', rt := Q } [some (.ref p), some v, x] H1 := by
    intro m0 t0 i0 v0 x0 H0 W0 r0 e0
    refine ⟨fun m σ H1 => ∃ t i1 v x, σ = [some (.ref p), some v, x] ∧ Went K H p dx l n i1 d H1 ∧ RD K H1 t v ∧ itemL ss n m d t i1 = some r, ⟨m0, t0, i0, v0, x0, rfl, W0, r0, e0⟩, ?_⟩
    rintro m σ H1 ⟨t, i1, v, x, rfl, W, rv, hm⟩
    cases m with
    | zero => simp [itemL] at hm
    | succ m =>
    refine ⟨_, rfl, p, dx, _, rfl, W.2.2, rfl, p, dx, l, n, i1, d, ss, 47, rfl, W.2.2, sgs_went hs W hp ho, fun H2 W2 => ⟨_, rfl, ?_⟩⟩
    simp only [itemL] at hm
    by_cases c : cAt ss i1 = some 47
    · rw [if_pos c] at W2 hm
      rw [decide_eq_true c]
      have W3 := went_trans W W2
      refine ⟨fun σ' H' => ∃ t i1 v x, σ' = [some (.ref p), some v, x] ∧ Went K H p dx l n i1 d H' ∧ RD K H' t v ∧ itemL ss n m d t i1 = some r, fun σ' H' h => ⟨m, Nat.lt_succ_self m, h⟩, ?_⟩
      refine ⟨_, rfl, p, dx, _, rfl, W3.2.2, rfl, p, dx, l, n, i1 + 1, d, ss, rfl, W3.2.2, sgs_went hs W3 hp ho, ?_⟩
      cases hd : dgV ss (i1 + 1) with
      | none =>
        rw [hd] at hm
        obtain rfl : Rz.bad (pAt ss n (i1 + 1)) "expected a digit" = r := Option.some.inj hm
        exact fl_nil (fl_later k W3)
      | some g =>
        rw [hd] at hm
        intro H3 W4
        have W5 := went_trans W3 W4
        cases hi : atomP ss n m d (i1 + 2) with
        | none => rw [hi] at hm; cases hm
        | some r1 =>
          rw [hi] at hm
          refine ⟨_, rfl, _, rfl, _, rfl, p, dx, _, rfl, W5.2.2, rfl, p, dx, l, n, i1 + 2, ss, m, r1, rfl, W5.2.2, sgs_went hs W5 hp ho, hi, ?_⟩
          cases r1 with
          | bad pl msg =>
            obtain rfl : Rz.bad pl msg = r := Option.some.inj hm
            exact fl_later k W5
          | ok u j =>
            intro v2 H4 W6 rv2
            have W7 := went_trans W5 W6
            refine ⟨four_sz _ _ _ _, fun q hq => ⟨_, j, _, _, rfl, went_new W7 hq, ?_, hm⟩⟩
            refine .tup (.inl (.inl upd_same)) ?_
            exact .cons (.str _) (.cons (.int _) (.cons (rv.mono (((W2.2.1.trans W4.2.1).trans W6.2.1).trans (ex_new hq).t)) (.cons (rv2.mono (ex_new hq).t) .nil)))
    · rw [if_neg c] at W2 hm
      rw [decide_eq_false c]
      obtain rfl : Rz.ok t i1 = r := Option.some.inj hm
      exact ⟨_, rfl, k _ _ (went_trans W W2) (rv.mono W2.2.1)⟩
  simp only [itemP] at hf
  cases hi : atomP ss n f d i with
  | none => rw [hi] at hf; cases hf
  | some r1 =>
    rw [hi] at hf
    refine ⟨_, rfl, p, dx, _, rfl, hp, rfl, p, dx, l, n, i, ss, f, r1, rfl, hp, hs, hi, ?_⟩
    cases r1 with
    | bad pl msg =>
      obtain rfl : Rz.bad pl msg = r := Option.some.inj hf
      exact k
    | ok t j =>
      intro v H1 W rv
      exact loop f t j v none H1 W rv hf
theorem ok_atom (T : Tx K mg) {k : Nat} (h_Reader_ground : Has P w K mg base (k + 4) (a_Reader_ground K) p_Reader_ground (spPar K groundP d)) : Has P w K mg base (k + 5) (a_Reader_atom K) p_Reader_atom (spPar K atomP d) := by
  refine has_of (f_Reader_atom T) (z_Reader_atom T) (b_Reader_atom T) (fun vs H Q E h => par_len h) (fun cdv A outer s H vs Q E hr h => ?_)
  obtain ⟨p, dx, l, n, i, ss, f, r, rfl, hp, hs, hf, k⟩ := h
  have h_Reader_is_next := ok_next (P := P) (w := w) (base := base) T
  have h_Reader_digit := ok_digit (P := P) (w := w) (base := base) T
  have h_Reader_refuse := ok_refuse (P := P) (w := w) (base := base) T
  refine ⟨_, (pss_cons (ps_set (i := 1) (z_Reader_atom T).nd rfl (Or.inl rfl) (pmeth0 h_Reader_ground (c_Reader T) (m_Reader_ground T) (hr.mono (by omega)) px_of (pv 0)))
  (pss_cons (ps_while (passes_of rfl) (pt_val (pmeth h_Reader_is_next (c_Reader T) (m_Reader_is_next T) (hr.mono (by omega)) passL (pv 0) (pa_cons pe_str pa_nil))) (pss_cons (ps_set (i := 2) (z_Reader_atom T).nd rfl (Or.inl rfl) (pmeth0 h_Reader_digit (c_Reader T) (m_Reader_digit T) (hr.mono (by omega)) px_of (pv 0)))
  (pss_one (ps_if (pt_val (pmeth h_Reader_is_next (c_Reader T) (m_Reader_is_next T) (hr.mono (by omega)) passL (pv 0) (pa_cons pe_str pa_nil))) (pss_cons (ps_set (i := 1) (z_Reader_atom T).nd rfl (Or.inl rfl) (pe_tup (pa_cons pe_str (pa_cons (pv 2) (pa_cons (pmeth0 h_Reader_digit (c_Reader T) (m_Reader_digit T) (hr.mono (by omega)) px_of (pv 0)) (pa_cons (pv 1) pa_nil))))))
  (pss_one (ps_if (pt_not (pt_val (pmeth h_Reader_is_next (c_Reader T) (m_Reader_is_next T) (hr.mono (by omega)) passL (pv 0) (pa_cons pe_str pa_nil)))) (pss_one (ps_expr (pmeth h_Reader_refuse (c_Reader T) (m_Reader_refuse T) (hr.mono (by omega)) px_of (pv 0) (pa_cons pe_str pa_nil)))) pss_nil))) (pss_cons (ps_set (i := 1) (z_Reader_atom T).nd rfl (Or.inl rfl) (pe_tup (pa_cons pe_str (pa_cons (pv 2) (pa_cons (pv 1) pa_nil)))))
  (pss_one (ps_if (pt_not (pt_val (pmeth h_Reader_is_next (c_Reader T) (m_Reader_is_next T) (hr.mono (by omega)) passL (pv 0) (pa_cons pe_str pa_nil)))) (pss_one (ps_expr (pmeth h_Reader_refuse (c_Reader T) (m_Reader_refuse T) (hr.mono (by omega)) px_of (pv 0) (pa_cons pe_str pa_nil)))) pss_nil)))))))
  (pss_one (ps_ret (pv 1))))), ?_⟩
  cases f with
  | zero => simp [atomP] at hf
  | succ f =>
  have ho : ∀ xs, HO.ins (cR K) dx (rf l n i d) ≠ .lst xs := fun _ z => by cases z
  simp only [atomP] at hf
  cases hi : groundP ss n f d i with
  | none => rw [hi] at hf; cases hf
  | some r1 =>
    rw [hi] at hf
    refine ⟨_, rfl, p, dx, _, rfl, hp, rfl, p, dx, l, n, i, ss, f, r1, rfl, hp, hs, hi, ?_⟩
    cases r1 with
    | bad pl msg =>
      obtain rfl : Rz.bad pl msg = r := Option.some.inj hf
      exact k
    | ok t0 j0 =>
    intro v0 H0 W0 r0
    refine ⟨fun m σ H1 => ∃ t i1 v x, σ = [some (.ref p), some v, x] ∧ Went K H p dx l n i1 d H1 ∧ RD K H1 t v ∧ atomL ss n m d t i1 = some r, ⟨f, t0, j0, v0, none, rfl, W0, r0, hf⟩, ?_⟩
    rintro m σ H1 ⟨t, i1, v, x, rfl, W, rv, hm⟩
    cases m with
    | zero => simp [atomL] at hm
    | succ m =>
    refine ⟨_, rfl, p, dx, _, rfl, W.2.2, rfl, p, dx, l, n, i1, d, ss, 91, rfl, W.2.2, sgs_went hs W hp ho, fun H2 W2 => ⟨_, rfl, ?_⟩⟩
    simp only [atomL] at hm
    by_cases c : cAt ss i1 = some 91
    · rw [if_pos c] at W2 hm
      rw [decide_eq_true c]
      have W3 := went_trans W W2
      refine ⟨fun σ' H' => ∃ t i1 v x, σ' = [some (.ref p), some v, x] ∧ Went K H p dx l n i1 d H' ∧ RD K H' t v ∧ atomL ss n m d t i1 = some r, fun σ' H' h => ⟨m, Nat.lt_succ_self m, h⟩, ?_⟩
      refine ⟨_, rfl, p, dx, _, rfl, W3.2.2, rfl, p, dx, l, n, i1 + 1, d, ss, rfl, W3.2.2, sgs_went hs W3 hp ho, ?_⟩
      cases hd : dgV ss (i1 + 1) with
      | none =>
        rw [hd] at hm
        obtain rfl : Rz.bad (pAt ss n (i1 + 1)) "expected a digit" = r := Option.some.inj hm
        exact fl_nil (fl_later k W3)
      | some g =>
      rw [hd] at hm
      intro H3 W4
      have W5 := went_trans W3 W4
      refine ⟨_, rfl, p, dx, _, rfl, W5.2.2, rfl, p, dx, l, n, i1 + 2, d, ss, 61, rfl, W5.2.2, sgs_went hs W5 hp ho, fun H4 W6 => ⟨_, rfl, ?_⟩⟩
      have hm : (if cAt ss (i1 + 2) = some 61 then (match dgV ss (i1 + 3) with
          | none => some (.bad (pAt ss n (i1 + 3)) "expected a digit")
          | some u => if cAt ss (i1 + 4) = some 93 then atomL ss n m d (.tup [.str "glue", .int (g : Int), .int (u : Int), t]) (i1 + 5) else some (.bad (pAt ss n (i1 + 4)) "expected ]"))
        else if cAt ss (i1 + 2) = some 93 then atomL ss n m d (.tup [.str "hide", .int (g : Int), t]) (i1 + 3) else some (.bad (pAt ss n (i1 + 2)) "expected = or ]")) = some r := hm
      by_cases c2 : cAt ss (i1 + 2) = some 61
      · rw [if_pos c2] at W6 hm
        rw [decide_eq_true c2]
        have W7 := went_trans W5 W6
        refine ⟨_, rfl, _, rfl, p, dx, _, rfl, W7.2.2, rfl, p, dx, l, n, i1 + 2 + 1, d, ss, rfl, W7.2.2, sgs_went hs W7 hp ho, ?_⟩
        cases hd2 : dgV ss (i1 + 3) with
        | none =>
          rw [hd2] at hm
          show Fl K [] H4 E (pAt ss n (i1 + 3)) _
          obtain rfl : Rz.bad (pAt ss n (i1 + 3)) "expected a digit" = r := Option.some.inj hm
          exact fl_nil (fl_later k W7)
        | some u =>
          rw [hd2] at hm
          have hm : (if cAt ss (i1 + 4) = some 93 then atomL ss n m d (.tup [.str "glue", .int (g : Int), .int (u : Int), t]) (i1 + 5) else some (.bad (pAt ss n (i1 + 4)) "expected ]")) = some r := hm
          intro H5 W8
          have W9 := went_trans W7 W8
          refine ⟨_, rfl, four_sz _ _ _ _, fun q hq => ?_⟩
          have Wa := went_new (o := .tup [.str "glue", .int (g : Int), .int (u : Int), v]) W9 hq
          refine ⟨_, rfl, p, dx, _, rfl, Wa.2.2, rfl, p, dx, l, n, i1 + 2 + 1 + 1, d, ss, 93, rfl, Wa.2.2, sgs_went hs Wa hp ho, fun H6 Wb => ⟨_, rfl, ?_⟩⟩
          have hc : cAt ss (i1 + 2 + 1 + 1) = cAt ss (i1 + 4) := rfl
          rw [hc] at Wb ⊢
          by_cases c3 : cAt ss (i1 + 4) = some 93
          · rw [if_pos c3] at Wb hm
            rw [decide_eq_true c3]
            refine ⟨_, i1 + 5, _, _, rfl, went_trans Wa Wb, ?_, hm⟩
            refine RD.mono Wb.2.1 (.tup (.inl (.inl upd_same)) ?_)
            exact .cons (.str _) (.cons (.int _) (.cons (.int _) (.cons (rv.mono ((((W2.2.1.trans W4.2.1).trans W6.2.1).trans W8.2.1).trans (ex_new hq).t)) .nil)))
          · rw [if_neg c3] at Wb hm
            rw [decide_eq_false c3]
            have Wc := went_trans Wa Wb
            obtain rfl : Rz.bad (pAt ss n (i1 + 4)) "expected ]" = r := Option.some.inj hm
            refine ⟨_, rfl, p, dx, _, rfl, Wc.2.2, rfl, p, dx, l, n, i1 + 2 + 1 + 1, d, ss, _, rfl, Wc.2.2, sgs_went hs Wc hp ho, fl_nil (fl_later k Wc)⟩
      · rw [if_neg c2] at W6 hm
        rw [decide_eq_false c2]
        have W7 := went_trans W5 W6
        refine ⟨_, rfl, _, rfl, three_sz _ _ _, fun q hq => ?_⟩
        have Wa := went_new (o := .tup [.str "hide", .int (g : Int), v]) W7 hq
        refine ⟨_, rfl, p, dx, _, rfl, Wa.2.2, rfl, p, dx, l, n, i1 + 2, d, ss, 93, rfl, Wa.2.2, sgs_went hs Wa hp ho, fun H6 Wb => ⟨_, rfl, ?_⟩⟩
        by_cases c3 : cAt ss (i1 + 2) = some 93
        · rw [if_pos c3] at Wb hm
          rw [decide_eq_true c3]
          refine ⟨_, i1 + 3, _, _, rfl, went_trans Wa Wb, ?_, hm⟩
          refine RD.mono Wb.2.1 (.tup (.inl (.inl upd_same)) ?_)
          exact .cons (.str _) (.cons (.int _) (.cons (rv.mono (((W2.2.1.trans W4.2.1).trans W6.2.1).trans (ex_new hq).t)) .nil))
        · rw [if_neg c3] at Wb hm
          rw [decide_eq_false c3]
          have Wc := went_trans Wa Wb
          obtain rfl : Rz.bad (pAt ss n (i1 + 2)) "expected = or ]" = r := Option.some.inj hm
          refine ⟨_, rfl, p, dx, _, rfl, Wc.2.2, rfl, p, dx, l, n, i1 + 2, d, ss, _, rfl, Wc.2.2, sgs_went hs Wc hp ho, fl_nil (fl_later k Wc)⟩
    · rw [if_neg c] at W2 hm
      rw [decide_eq_false c]
      obtain rfl : Rz.ok t i1 = r := Option.some.inj hm
      exact ⟨_, rfl, k _ _ (went_trans W W2) (rv.mono W2.2.1)⟩
theorem lt_list : ("abcdef" : Str).cps.toList = [97, 98, 99, 100, 101, 102] := by decide +kernel
theorem lt_mem (c : Nat) : decide (c ∈ ("abcdef" : Str).cps.toList) = isLt c := by
  rw [lt_list]
  unfold isLt
  refine decide_eq_decide.mpr ?_
  simp only [List.mem_cons, List.not_mem_nil, or_false]
  omega
theorem sg_par {c : Nat} : (V.str ⟨#[c]⟩ = V.str "(") ↔ c = 40 := by
  constructor
  · intro z
    have z2 : #[c] = (#[40] : Array Nat) := congrArg Str.cps (V.str.inj z)
    simpa using z2
  · rintro rfl
    rfl
theorem sg_nonpar : ¬ (V.str ⟨#[]⟩ = V.str "(") := by
  intro z
  have z2 : (#[] : Array Nat) = (#[40] : Array Nat) := congrArg Str.cps (V.str.inj z)
  simp at z2
theorem sg_nonil {c : Nat} : ¬ (V.str ⟨#[c]⟩ = V.str "") := by
  intro z
  have z2 : #[c] = (#[] : Array Nat) := congrArg Str.cps (V.str.inj z)
  simp at z2
/-- what of ground's callee is asked -/
def NestAt (P : Program) (w : World) (K : PySem.W.Frag) (mg : Str → Option Value) (base : Heap) (k d : Nat) : Prop := d < 20 → Has P w K mg base k (a_Reader_nest K) p_Reader_nest (spPar K nestP (d + 1))
theorem ok_ground (T : Tx K mg) {k : Nat} (hd20 : d ≤ 20) (h_nest : NestAt P w K mg base (k + 3) d) : Has P w K mg base (k + 4) (a_Reader_ground K) p_Reader_ground (spPar K groundP d) := by
  have h_Reader_nest : Has P w K mg base (k + 3) (a_Reader_nest K) p_Reader_nest (fun vs H Q E => d < 20 ∧ spPar K nestP (d + 1) vs H Q E) := by
    by_cases hd : d < 20
    · exact (h_nest hd).imp fun _ _ _ _ h => h.2
    · have z := f_Reader_nest T
      obtain ⟨fd, F⟩ := z
      refine ⟨⟨fd, ⟨fun vs H Q E h => absurd h.1 hd, fun A outer s H args us vs Q E _ _ _ _ h => absurd h.1 hd⟩, F.bindsN (b_Reader_nest T)⟩, F.kp⟩
  refine has_of (f_Reader_ground T) (z_Reader_ground T) (b_Reader_ground T) (fun vs H Q E h => par_len h) (fun cdv A outer s H vs Q E hr h => ?_)
  obtain ⟨p, dx, l, n, i, ss, f, r, rfl, hp, hs, hf, k⟩ := h
  have h_Reader_is_next := ok_next (P := P) (w := w) (base := base) T
  have h_Reader_sign := ok_sign (P := P) (w := w) (base := base) T
  have h_Reader_refuse := ok_refuse (P := P) (w := w) (base := base) T
  refine ⟨_, (pss_cons (ps_set (i := 1) (z_Reader_ground T).nd rfl (Or.inl rfl) (pmeth0 h_Reader_sign (c_Reader T) (m_Reader_sign T) (hr.mono (by omega)) passL (pv 0)))
  (pss_cons (ps_if (pt_cmpR op_eq (pv 1) pe_str (nomark _)) (pss_cons (ps_if (pt_cmpR op_eq (fldK K (pv 0)) (pgi (i_MOST_DEEP T)) (nomark _)) (pss_one (ps_expr (pmeth h_Reader_refuse (c_Reader T) (m_Reader_refuse T) (hr.mono (by omega)) px_of (pv 0) (pa_cons pe_str pa_nil)))) pss_nil)
  (pss_cons (ps_fldaug (pv 0) pe_int in_add)
  (pss_cons (ps_fldaug (pv 0) pe_int in_add)
  (pss_cons (ps_set (i := 2) (z_Reader_ground T).nd rfl (Or.inl rfl) (pmeth0 h_Reader_nest (c_Reader T) (m_Reader_nest T) (hr.mono (by omega)) px_of (pv 0)))
  (pss_cons (ps_if (pt_not (pt_val (pmeth h_Reader_is_next (c_Reader T) (m_Reader_is_next T) (hr.mono (by omega)) passL (pv 0) (pa_cons pe_str pa_nil)))) (pss_one (ps_expr (pmeth h_Reader_refuse (c_Reader T) (m_Reader_refuse T) (hr.mono (by omega)) px_of (pv 0) (pa_cons pe_str pa_nil)))) pss_nil)
  (pss_cons (ps_fldaug (pv 0) pe_int in_sub)
  (pss_one (ps_ret (pv 2))))))))) pss_nil)
  (pss_cons (ps_if (PW.pt (pw_or (pt_cmpR op_eq (pv 1) pe_str (nomark _)) (pw_or1 (pt_cmpR oNiSg (pv 1) (pgs (i_LETTERS T)) rfl)))) (pss_one (ps_expr (pmeth h_Reader_refuse (c_Reader T) (m_Reader_refuse T) (hr.mono (by omega)) px_of (pv 0) (pa_cons pe_str pa_nil)))) pss_nil)
  (pss_cons (ps_fldaug (pv 0) pe_int in_add)
  (pss_one (ps_ret (pe_tup (pa_cons pe_str (pa_cons (pv 1) pa_nil))))))))), ?_⟩
  cases f with
  | zero => simp [groundP] at hf
  | succ f =>
  have ho : ∀ xs, HO.ins (cR K) dx (rf l n i d) ≠ .lst xs := fun _ z => by cases z
  simp only [groundP] at hf
  refine ⟨_, rfl, p, dx, _, rfl, hp, rfl, p, dx, l, n, i, d, ss, rfl, hp, hs, ?_⟩
  refine ⟨_, rfl, rfl, _, rfl, ?_⟩
  cases hc : cAt ss i with
  | none =>
    have e : sgAt ss i = ⟨#[]⟩ := by unfold sgAt; rw [hc]
    rw [hc, if_neg (by simp)] at hf
    rw [e, decide_eq_false sg_nonpar]
    refine ⟨_, rfl, rfl, _, rfl, ?_⟩
    rw [decide_eq_true (show V.str ⟨#[]⟩ = V.str "" by rfl)]
    obtain rfl : Rz.bad (pAt ss n i) "expected a maze" = r := Option.some.inj hf
    exact ⟨_, rfl, p, dx, _, rfl, hp, rfl, p, dx, l, n, i, d, ss, _, rfl, hp, hs, fl_nil k⟩
  | some c =>
    have e : sgAt ss i = ⟨#[c]⟩ := by unfold sgAt; rw [hc]
    rw [hc] at hf
    rw [e]
    by_cases c40 : c = 40
    · subst c40
      rw [if_pos rfl] at hf
      rw [decide_eq_true (sg_par.mpr rfl)]
      refine ⟨_, rfl, p, _, dx, _, _, rfl, hp, c_Reader T, n_Reader_deep T, rf_deep .., rfl, _, rfl, ?_⟩
      by_cases d20 : d = 20
      · rw [if_pos d20] at hf
        rw [decide_eq_true (show V.int (d : Int) = V.int 20 by rw [d20]; rfl)]
        obtain rfl : Rz.bad (pAt ss n i) "this is too deep" = r := Option.some.inj hf
        exact ⟨_, rfl, p, dx, _, rfl, hp, rfl, p, dx, l, n, i, d, ss, _, rfl, hp, hs, fl_nil k⟩
      · rw [if_neg d20] at hf
        rw [decide_eq_false (fun z => d20 (by have := V.int.inj z; omega))]
        refine ⟨_, rfl, p, _, dx, _, _, rfl, hp, c_Reader T, n_Reader_deep T, rf_deep .., _, _, rfl, rfl, dx, _, hp, by show 4 < 1000; decide, ?_⟩
        rw [rf_putDeep]
        have W1 : Went K H p dx l n i (d + 1) _ := went_put hp
        refine ⟨_, rfl, p, _, dx, _, _, rfl, W1.2.2, c_Reader T, n_Reader_at T, rf_at .., _, _, rfl, rfl, dx, _, W1.2.2, by show 4 < 1000; decide, ?_⟩
        rw [rf_putAt]
        have W2 : Went K H p dx l n (i + 1) (d + 1) _ := went_trans W1 (went_put W1.2.2)
        cases hi : nestP ss n f (d + 1) (i + 1) with
        | none => rw [hi] at hf; cases hf
        | some r1 =>
          rw [hi] at hf
          refine ⟨_, rfl, p, dx, _, rfl, W2.2.2, rfl, by omega, p, dx, l, n, i + 1, ss, f, r1, rfl, W2.2.2, sgs_went hs W2 hp ho, hi, ?_⟩
          cases r1 with
          | bad pl msg =>
            obtain rfl : Rz.bad pl msg = r := Option.some.inj hf
            exact fl_later k W2
          | ok t j =>
            intro v H3 W3 rv
            have W4 := went_trans W2 W3
            have hf : (if cAt ss j = some 41 then some (Rz.ok t (j + 1)) else some (.bad (pAt ss n j) "expected )")) = some r := hf
            refine ⟨_, rfl, p, dx, _, rfl, W4.2.2, rfl, p, dx, l, n, j, d + 1, ss, 41, rfl, W4.2.2, sgs_went hs W4 hp ho, fun H4 W5 => ⟨_, rfl, ?_⟩⟩
            by_cases c41 : cAt ss j = some 41
            · rw [if_pos c41] at W5 hf
              rw [decide_eq_true c41]
              have W6 := went_trans W4 W5
              obtain rfl : Rz.ok t (j + 1) = r := Option.some.inj hf
              refine ⟨_, rfl, p, _, dx, _, _, rfl, W6.2.2, c_Reader T, n_Reader_deep T, rf_deep .., _, _, rfl, rfl, dx, _, W6.2.2, by show 4 < 1000; decide, ?_⟩
              rw [rf_putDeep2]
              have W7 : Went K H p dx l n (j + 1) d _ := went_trans W6 (went_put W6.2.2)
              refine ⟨_, rfl, k _ _ W7 (rv.mono ?_)⟩
              exact W5.2.1.trans (went_put (i' := j + 1) (d' := d) W6.2.2).2.1
            · rw [if_neg c41] at W5 hf
              rw [decide_eq_false c41]
              have W6 := went_trans W4 W5
              obtain rfl : Rz.bad (pAt ss n j) "expected )" = r := Option.some.inj hf
              exact ⟨_, rfl, p, dx, _, rfl, W6.2.2, rfl, p, dx, l, n, j, d + 1, ss, _, rfl, W6.2.2, sgs_went hs W6 hp ho, fl_nil (fl_later k W6)⟩
    · have hf : (if isLt c then some (Rz.ok (.tup [.str "maze", .str ⟨#[c]⟩]) (i + 1)) else some (.bad (pAt ss n i) "expected a maze")) = some r := by
        rw [if_neg (by simpa using c40)] at hf
        exact hf
      rw [decide_eq_false (fun z => c40 (sg_par.mp z))]
      refine ⟨_, rfl, rfl, _, rfl, ?_⟩
      rw [decide_eq_false sg_nonil]
      refine ⟨_, rfl, c, _, rfl, rfl, _, rfl, ?_⟩
      rw [lt_mem]
      cases hl : isLt c with
      | false =>
        rw [hl] at hf
        obtain rfl : Rz.bad (pAt ss n i) "expected a maze" = r := Option.some.inj hf
        exact ⟨_, rfl, p, dx, _, rfl, hp, rfl, p, dx, l, n, i, d, ss, _, rfl, hp, hs, fl_nil k⟩
      | true =>
        rw [hl] at hf
        obtain rfl : Rz.ok (.tup [.str "maze", .str ⟨#[c]⟩]) (i + 1) = r := Option.some.inj hf
        refine ⟨_, rfl, p, _, dx, _, _, rfl, hp, c_Reader T, n_Reader_at T, rf_at .., _, _, rfl, rfl, dx, _, hp, by show 4 < 1000; decide, ?_⟩
        rw [rf_putAt]
        have W1 : Went K H p dx l n (i + 1) d _ := went_put hp
        refine ⟨_, rfl, two_sz _ _, fun q hq => k _ _ (went_new W1 hq) ?_⟩
        exact .tup (.inl (.inl upd_same)) (.cons (.str _) (.cons (.str _) .nil))
/-- a nest at a depth -/
theorem ok_nestAt (T : Tx K mg) : ∀ e d : Nat, d + e = 20 → Has P w K mg base (4 * e + 11) (a_Reader_nest K) p_Reader_nest (spPar K nestP d)
  | 0, d, h => by
    have g := ok_ground (P := P) (w := w) (base := base) (d := d) (k := 4) T (by omega) (fun z => by omega)
    exact ok_nest T (k := 6) (ok_item T (k := 5) (ok_atom T (k := 4) g))
  | e + 1, d, h => by
    have ih := ok_nestAt T e (d + 1) (by omega)
    have g := ok_ground (P := P) (w := w) (base := base) (d := d) (k := 4 * e + 8) T (by omega) (fun _ => ih)
    exact ok_nest T (k := 4 * e + 10) (ok_item T (k := 4 * e + 9) (ok_atom T (k := 4 * e + 8) g))
end
end K09
namespace K09
open PySem PySem.Spec
open PyProof.Rows L2 Sl Ps
section
variable {P : Program} {w : World} {K : PySem.W.Frag} {mg : Str → Option Value} {base : Heap} {H H1 H2 : Hp} {p dx l : Addr} {n i j d : Nat} {ss : Sg} {E : XK} {Q : VK}
theorem allow_list : ((("abcdef" : Str) ++ ("0123456789" : Str)) ++ ("+/()[]=" : Str)).cps.toList = [97, 98, 99, 100, 101, 102, 48, 49, 50, 51, 52, 53, 54, 55, 56, 57, 43, 47, 40, 41, 91, 93, 61] := by decide +kernel
theorem allow_mem (c : Nat) : decide (c ∈ ((("abcdef" : Str) ++ ("0123456789" : Str)) ++ ("+/()[]=" : Str)).cps.toList) = okSg c := by
  rw [allow_list]
  unfold okSg isLt isDg
  rw [Bool.eq_iff_iff]
  simp only [Bool.or_eq_true, decide_eq_true_eq, beq_iff_eq, List.mem_cons, List.not_mem_nil, or_false]
  omega
theorem take_snoc {α : Type} {l : List α} {i : Nat} {x : α} (h : l[i]? = some x) : l.take (i + 1) = l.take i ++ [x] := by
  obtain ⟨hi, e⟩ := List.getElem?_eq_some_iff.mp h
  rw [List.take_add_one, h] <;> rfl
def spInit (K : PySem.W.Frag) : Sp := fun vs H Q E => ∃ (p dx : Addr) (t : List Nat), vs = [.ref p, .str (sg t)] ∧ H p = some (.ins (cR K) dx []) ∧ t.length ≤ 200 ∧
  (∀ pl, badSg (signsOf t) = some pl → Fl K [p] H E pl "this sign cannot stand here") ∧
  (badSg (signsOf t) = none → ∀ l H', H l = none → Went K H p dx l t.length 0 0 H' → Sgs K H' l (signsOf t) → Q .non H')
theorem zip_at {t : List Nat} {i c : Nat} (h : (sg t).cps[i]? = some c) : t.zipIdx[i]? = some (c, i) := by
  have h2 : t[i]? = some c := by simpa using h
  rw [List.getElem?_zipIdx, h2]
  simp
theorem ok_init (T : Tx K mg) : Has P w K mg base 4 (a_Reader_init K) p_Reader_init (spInit K) := by
  refine has_of (f_Reader_init T) (z_Reader_init T) (b_Reader_init T) (fun vs H Q E h => by obtain ⟨_, _, _, rfl, _⟩ := h; rfl) (fun cdv A outer s H vs Q E hr h => ?_)
  obtain ⟨p, dx, t, rfl, hp, ht, kb, kg⟩ := h
  have h_Flaw_init := ok_Flawinit (P := P) (w := w) (base := base) T
  refine ⟨_, (pss_cons (ps_fld (pv 0) (pe_lc (own := [("at", 2), ("sign", 3)]) rfl (z_Reader_init T).nd (pi_enumS (by rfl) (l_enumerate T) (pa_cons (pv 1) pa_nil)) (blkOk_by (N := n_Reader_init) (sc := defScope s_Reader_init) (by decide +kernel)) (fun _ _ _ _ _ => by exact (tupK K (n := 2) (pgs_cons (pg_name (i := 2) (z_Reader_init T).nd rfl (Or.inl rfl)) (pgs_cons (pg_name (i := 3) (z_Reader_init T).nd rfl (Or.inl rfl)) pgs_nil)))) (fun _ _ _ _ _ => by exact (pts_one (pt_cmpR op_ne (pv 3) pe_str (nomark _)))) (fun _ _ _ _ _ => by exact (pe_tup (pa_cons (pv 3) (pa_cons (pv 2) pa_nil))))) rfl)
  (pss_cons (ps_fld (pv 0) (pe_callB call_len_str (by rfl) (l_len T) (by decide +kernel) (pa_cons (pv 1) pa_nil)) rfl)
  (pss_cons (ps_fld (pv 0) pe_int rfl)
  (pss_cons (ps_fld (pv 0) pe_int rfl)
  (pss_one (ps_for (passes_of rfl) rfl (listW K (fldK K (pv 0))) (tupK K (n := 2) (pgs_cons (pg_name (i := 3) (z_Reader_init T).nd rfl (Or.inl rfl)) (pgs_cons (pg_name (i := 4) (z_Reader_init T).nd rfl (Or.inl rfl)) pgs_nil))) (pss_one (ps_if (pt_cmpR oNiSg (pv 3) (pe_op oAddS (pe_op oAddS (pgs (i_LETTERS T)) (pgs (i_DIGITS T))) pe_str) rfl) (pss_one (praise h_Flaw_init rfl tk_of (x_Flaw T).1 (xi_Flaw T).1 (xi_Flaw T).2 (hr.mono (by omega)) (g_Flaw T) (pa_cons (pv 4) (pa_cons pe_str pa_nil)))) pss_nil)))))))), ?_⟩
  have S0 : SH K H [p] [pt p (.ins (cR K) dx [])] [] H := ⟨ExB.refl _ _, TEx.refl _, [[p]], [], .cons ⟨rfl, hp⟩ .nil, .nil, by simp, fun a ha => by
    have e : a = p := by simpa using ha
    subst e
    exact ⟨.inr (by simp), by simp⟩⟩
  refine ⟨_, rfl, _, rfl, fun l hl => lc_it walk_P (fun i H' => SH K H [p] [ls K l (((t.zipIdx).take i).filter (fun q => q.1 != 32) |>.map sgD), pt p (.ins (cR K) dx [])] [] H') ?_ (fun _ _ _ _ => trivial) ?_ ?_⟩
  · exact S0.newL hl .nil
  · rintro i x H1 H2 hi S ⟨q, x', rfl, hq, rfl, c, hc, rfl⟩
    have S1 := S.ext (ex_new (o := .tup [.int (i : Nat), .str ⟨#[c]⟩]) hq)
    have hz := zip_at hc
    refine ⟨q, _, rfl, .inl (.inl upd_same), rfl, _, _, rfl, _, _, rfl, rfl, rfl, _, rfl, rfl, _, rfl, ?_⟩
    have hlen : (((t.zipIdx).take i).filter (fun q => q.1 != 32) |>.map sgD).length ≤ 200 := by
      rw [List.length_map]
      refine Nat.le_trans (List.length_filter_le _ _) ?_
      rw [List.length_take, List.length_zipIdx]
      omega
    by_cases c32 : c = 32
    · subst c32
      rw [decide_eq_true (show V.str ⟨#[32]⟩ = V.str " " by rfl)]
      refine iteF ?_
      have e : ((t.zipIdx).take (i + 1)).filter (fun q => q.1 != 32) = ((t.zipIdx).take i).filter (fun q => q.1 != 32) := by
        rw [take_snoc hz, List.filter_append]
        simp
      rw [e]
      exact S1
    · rw [decide_eq_false (fun z => c32 (by have z2 : #[c] = (#[32] : Array Nat) := congrArg Str.cps (V.str.inj z); simpa using z2))]
      refine iteT ?_
      refine ⟨_, rfl, _, rfl, two_sz _ _, fun u hu => ?_⟩
      have S2 := S1.ext (ex_new (o := .tup [.str ⟨#[c]⟩, .int (i : Nat)]) hu)
      obtain ⟨xs, g1, g2⟩ := S2.getL (.inl List.mem_cons_self)
      refine ⟨xs, g1, by rw [g2.len]; exact Nat.lt_of_le_of_lt hlen (by decide), ?_⟩
      have e : (((t.zipIdx).take (i + 1)).filter (fun q => q.1 != 32) |>.map sgD) = (((t.zipIdx).take i).filter (fun q => q.1 != 32) |>.map sgD) ++ [sgD (c, i)] := by
        rw [take_snoc hz, List.filter_append, List.map_append]
        simp [c32]
      rw [e]
      refine S2.putL .here (g2.append (.one ?_))
      exact .tup (.inl (.inl upd_same)) (.cons (.str _) (.cons (.int _) .nil))
  · intro H1 S
    have e : (((t.zipIdx).take (sg t).cps.size).filter (fun q => q.1 != 32) |>.map sgD) = (signsOf t).map sgD := by
      unfold signsOf
      rw [List.take_of_length_le (by simp)]
    rw [e] at S
    refine ⟨_, rfl, p, _, dx, _, rfl, S.getO (.inl (.tail _ (.head _))), c_Reader T, n_Reader_signs T, by show 0 < 1000; decide, ?_⟩
    have S2 := S.put (o' := .ins (cR K) dx (putF "signs" (.ref l) [])) (.there .here)
    refine ⟨_, rfl, _, rfl, by rw [sg_len]; exact Nat.le_trans ht (by decide), _, rfl, p, _, dx, _, rfl, S2.getO (.inl (.head _)), c_Reader T, n_Reader_size T, by show 1 < 1000; decide, ?_⟩
    have S3 := S2.put (o' := .ins (cR K) dx (putF "size" (.int ((sg t).length : Int)) (putF "signs" (.ref l) []))) .here
    refine ⟨_, rfl, p, _, dx, _, rfl, S3.getO (.inl (.head _)), c_Reader T, n_Reader_at T, by show 2 < 1000; decide, ?_⟩
    have S4 := S3.put (o' := .ins (cR K) dx (putF "at" (.int 0) (putF "size" (.int ((sg t).length : Int)) (putF "signs" (.ref l) [])))) .here
    refine ⟨_, rfl, p, _, dx, _, rfl, S4.getO (.inl (.head _)), c_Reader T, n_Reader_deep T, by show 3 < 1000; decide, ?_⟩
    have S5 := S4.put (o' := .ins (cR K) dx (putF "deep" (.int 0) (putF "at" (.int 0) (putF "size" (.int ((sg t).length : Int)) (putF "signs" (.ref l) []))))) .here
    have eo : HO.ins (cR K) dx (putF "deep" (.int 0) (putF "at" (.int 0) (putF "size" (.int ((sg t).length : Int)) (putF "signs" (.ref l) [])))) = .ins (cR K) dx (rf l t.length 0 0) := by
      rw [sg_len]
      rfl
    refine ⟨_, rfl, p, _, dx, _, _, rfl, S5.getO (.inl (.head _)), c_Reader T, n_Reader_signs T, rfl, l, rfl, ?_⟩
    obtain ⟨xs, g1, -⟩ := S5.getL (.inl (.tail _ (.head _)))
    refine ⟨⟨xs, SqL.of g1⟩, ?_⟩
    clear g1 xs
    have lenS : ∀ {H' : Hp} {o : HO}, SH K H [p] [pt p o, ls K l ((signsOf t).map sgD)] [] H' → ∃ xs, H' l = some (.lst xs) ∧ RDs K H' ((signsOf t).map sgD) xs := fun S => S.getL (.inl (.tail _ (.head _)))
    obtain ⟨ys, g1, g2⟩ := lenS S5
    have keep : ∀ {H' : Hp} {o : HO}, SH K H [p] [pt p o, ls K l ((signsOf t).map sgD)] [] H' → ∀ {ws}, H' l = some (.lst ws) → RDs K H' ((signsOf t).map sgD) ws := fun S ws h => by
      obtain ⟨zs, z1, z2⟩ := lenS S
      rw [h] at z1
      cases z1
      exact z2
    refine for_it (walk_list (xs := ys)) (fun i σ H' => (H' l = some (.lst ys) ∧ ∃ o, o = HO.ins (cR K) dx (rf l t.length 0 0) ∧ SH K H [p] [pt p o, ls K l ((signsOf t).map sgD)] [] H') ∧ (∀ q ∈ (signsOf t).take i, okSg q.1 = true) ∧ ∃ x1 x2 x3 x4, σ = [some (.ref p), x1, x2, x3, x4])
      ⟨⟨g1, _, eo, S5⟩, by simp, _, _, _, _, rfl⟩ (fun i σ H' _ h => SqL.of h.1.1) ?_ ?_
    · rintro i x σ H1 H2 hi ⟨⟨hl2, o, rfl, S⟩, hok, x1, x2, x3, x4, rfl⟩ ⟨rfl, hx⟩
      have W : Went K H p dx l t.length 0 0 H2 := ⟨S.ex, S.tx, S.getO (.inl (.head _))⟩
      obtain ⟨d0, h1, h2⟩ := (keep S hl2).getV hx
      rw [List.getElem?_map] at h1
      cases hq : (signsOf t)[i]? with
      | none => rw [hq] at h1; cases h1
      | some q =>
        rw [hq] at h1
        obtain rfl : sgD q = d0 := Option.some.inj h1
        obtain ⟨a, ys, rfl, h3, h4⟩ := h2.ofTup
        obtain ⟨v1, w1, rfl, q1, q2⟩ := h4.ofCons
        obtain ⟨v2, w2, rfl, q3, q4⟩ := q2.ofCons
        obtain rfl := q1.ofStr
        obtain rfl := q3.ofInt
        obtain rfl := q4.ofNil
        refine ⟨a, _, rfl, h3, rfl, _, _, rfl, _, _, rfl, rfl, ?_⟩
        refine ⟨_, rfl, _, _, rfl, rfl, by decide, _, _, rfl, rfl, by decide, q.1, _, rfl, rfl, _, rfl, ?_⟩
        rw [allow_mem]
        cases ho : okSg q.1 with
        | true =>
          refine iteF ⟨⟨hl2, _, rfl, S⟩, ?_, _, _, _, _, rfl⟩
          intro z hz
          rw [take_snoc hq] at hz
          rcases List.mem_append.mp hz with hz | hz
          · exact hok z hz
          · have : z = q := by simpa using hz
            rw [this]
            exact ho
        | false =>
          refine iteT ⟨_, rfl, ?_⟩
          have f := fl_later (kb q.2 (bad_some hok hq ho)) W
          exact mkx2 (x_Flaw T).1 (n_Flaw_place T) (n_Flaw_message T) fun d' H' e1 e2 e3 => f d' H' e1.b e2 e3
    · rintro σ H1 ⟨⟨hl2, o, rfl, S⟩, hok, -⟩
      have W : Went K H p dx l t.length 0 0 H1 := ⟨S.ex, S.tx, S.getO (.inl (.head _))⟩
      have hn : ys.length = (signsOf t).length := by rw [g2.len, List.length_map]
      rw [hn, List.take_length] at hok
      exact kg (bad_none hok) l _ hl W ⟨ys, hl2, keep S hl2⟩
end
end K09
namespace K09
open PySem PySem.Spec
open PyProof.Rows L2 Sl Ps
section
variable {P : Program} {w : World} {K : PySem.W.Frag} {mg : Str → Option Value} {base : Heap} {H H1 H2 : Hp} {p dx l : Addr} {n i j d : Nat} {ss : Sg} {E : XK} {Q : VK}
/-- what is looked at: a text within the line, none, a number -/
inductive Arg0 : V → Bool → Prop where
  | non : Arg0 .non false
  | int (i : Int) : Arg0 (.int i) false
  | str (z : Str) (h : z.length ≤ sizeLine) : Arg0 (.str z) (decide ((z.length : Int) ≤ 200))
def spIsText : Sp := fun vs H Q _ => ∃ (x : V) (b : Bool), vs = [x] ∧ Arg0 x b ∧ Q (.bl b) H
theorem ok_isText (T : Tx K mg) : Has P w K mg base 1 (a_is_text K) p_is_text spIsText := by
  refine has_of (f_is_text T) (z_is_text T) (b_is_text T) (fun vs H Q E h => by obtain ⟨_, _, rfl, _⟩ := h; rfl) (fun cdv A outer s H vs Q E hr h => ?_)
  obtain ⟨x, b, rfl, a, k⟩ := h
  refine ⟨_, (pss_one (ps_ret (pe_and (pe_callB (isiK K) (by rfl) (l_isinstance T) (by decide +kernel) (pa_cons (pv 0) (pa_cons (pe_bltn (v := .ty "str") (u := .type "str") rfl (l_str T) (by decide +kernel) rfl) pa_nil))) (pe_one (pe_cmpR oLeI (pe_callB call_len_str (by rfl) (l_len T) (by decide +kernel) (pa_cons (pv 0) pa_nil)) (pgi (i_MOST_TEXT T)) (nomark _)))))), ?_⟩
  cases a with
  | non => exact ⟨_, rfl, _, _, _, _, false, rfl, .ty _, .base .non, kit_ty (by decide +kernel), _, rfl, k⟩
  | int i => exact ⟨_, rfl, _, _, _, _, false, rfl, .ty _, .base (.int i), kit_ty (by decide +kernel), _, rfl, k⟩
  | str z hz => exact ⟨_, rfl, _, _, _, _, true, rfl, .ty _, .base (.str z), kit_ty (by decide +kernel), _, rfl, _, rfl, z, rfl, hz, _, _, rfl, rfl, k⟩
theorem went_ex (a : Went K H p dx l n i d H1) (h : H p = none) : Ex H1 H2 → Ex H H2 := fun e b o q => e b o (a.1 b o (by simpa using ne_of_none q h) q)
/-- the ends of the whole reading -/
def spTree (K : PySem.W.Frag) : Sp := fun vs H Q E => ∃ (t : List Nat), vs = [.str (sg t)] ∧ t.length ≤ 200 ∧ match treeOf t with
  | .error e => Fl K [] H E e.1 e.2
  | .ok d => ∀ v H', Ex H H' → RD K H' d v → Q v H'
theorem ok_treeOf (T : Tx K mg) : Has P w K mg base 92 (a_tree_of K) p_tree_of (spTree K) := by
  refine has_of (f_tree_of T) (z_tree_of T) (b_tree_of T) (fun vs H Q E h => by obtain ⟨_, rfl, _⟩ := h; rfl) (fun cdv A outer s H vs Q E hr h => ?_)
  obtain ⟨t, rfl, ht, k⟩ := h
  have h_Reader_init := ok_init (P := P) (w := w) (base := base) T
  have h_Reader_nest := ok_nestAt (P := P) (w := w) (base := base) T 20 0 rfl
  have h_Reader_sign := ok_sign (P := P) (w := w) (base := base) T
  have h_Reader_refuse := ok_refuse (P := P) (w := w) (base := base) T
  refine ⟨_, (pss_cons (ps_set (i := 1) (z_tree_of T).nd rfl (Or.inl rfl) (pmake h_Reader_init (k_Reader T) (hr.mono (by omega)) (g_Reader T) px_of (pa_cons (pv 0) pa_nil)))
  (pss_cons (ps_set (i := 2) (z_tree_of T).nd rfl (Or.inl rfl) (pmeth0 h_Reader_nest (c_Reader T) (m_Reader_nest T) (hr.mono (by omega)) px_of (pv 1)))
  (pss_cons (ps_if (pt_cmpR op_ne (pmeth0 h_Reader_sign (c_Reader T) (m_Reader_sign T) (hr.mono (by omega)) passL (pv 1)) pe_str (nomark _)) (pss_one (ps_expr (pmeth h_Reader_refuse (c_Reader T) (m_Reader_refuse T) (hr.mono (by omega)) px_of (pv 1) (pa_cons pe_str pa_nil)))) pss_nil)
  (pss_one (ps_ret (pv 2)))))), ?_⟩
  refine ⟨_, rfl, fun p dx hp hd hne => ?_⟩
  have n1 : upd (upd H dx (.own p)) p (.ins (cR K) dx []) p = some (.ins (cR K) dx []) := upd_same
  have e1 : Ex H (upd (upd H dx (.own p)) p (.ins (cR K) dx [])) := fun b o e => by
    rw [upd_ne (ne_of_none e hp), upd_ne (ne_of_none e hd)]
    exact e
  have fl0 : ∀ {pl : Nat} {m : Str}, Fl K [] H E pl m → Fl K [p] (upd (upd H dx (.own p)) p (.ins (cR K) dx [])) E pl m := fun {pl m} f d' H' e nn x => by
    refine f d' H' (fun b o _ q => e b o (by simpa using ne_of_none q hp) (e1 b o q)) ?_ x
    cases q : H d' with
    | none => rfl
    | some o => rw [e1 d' o q] at nn; cases nn
  unfold treeOf at k
  refine ⟨p, dx, t, rfl, n1, ht, fun pl hb => ?_, fun hb l H1 hl W hs => ⟨rfl, ?_⟩⟩
  · rw [hb] at k
    exact fl0 k
  · rw [hb] at k
    have W0 : ExB [p] H H1 := fun b o nb q => W.1 b o nb (e1 b o q)
    obtain ⟨r, h1, h2⟩ := (enough (signsOf t) t.length (fuel t)).1 0 0 (by have := len_signs t; unfold fuel; omega)
    rw [h1] at k
    refine ⟨_, rfl, p, dx, _, rfl, W.2.2, rfl, p, dx, l, t.length, 0, signsOf t, fuel t, r, rfl, W.2.2, hs, h1, ?_⟩
    cases r with
    | bad pl m => exact fl_later (d := 0) (fl0 k) W
    | ok d j =>
      intro v H2 W2 rv
      have W3 := went_trans W W2
      refine ⟨_, rfl, p, dx, _, rfl, W3.2.2, rfl, p, dx, l, t.length, j, 0, signsOf t, rfl, W3.2.2, sgs_went hs W2 W.2.2 (fun _ z => by cases z), rfl, _, rfl, ?_⟩
      cases hc : cAt (signsOf t) j with
      | none =>
        have es : sgAt (signsOf t) j = ⟨#[]⟩ := by unfold sgAt; rw [hc]
        rw [es, decide_eq_true (show V.str ⟨#[]⟩ = V.str "" by rfl)]
        have k : ∀ v H', Ex H H' → RD K H' d v → Q v H' := by simpa [hc] using k
        exact ⟨_, rfl, k _ _ (fun b o q => W3.1 b o (by simpa using ne_of_none q hp) (e1 b o q)) rv⟩
      | some c =>
        have es : sgAt (signsOf t) j = ⟨#[c]⟩ := by unfold sgAt; rw [hc]
        rw [es, decide_eq_false sg_nonil]
        have k : Fl K [] H E (pAt (signsOf t) t.length j) "expected the end" := by simpa [hc] using k
        exact ⟨_, rfl, p, dx, _, rfl, W3.2.2, rfl, p, dx, l, t.length, j, 0, signsOf t, _, rfl, W3.2.2, sgs_went hs W2 W.2.2 (fun _ z => by cases z), fl_nil (fl_later (d := 0) (fl0 k) W3)⟩
/-- the first flaw as data -/
def flD : Option (Nat × Str) → D
  | none => .non
  | some e => .tup [.int (e.1 : Int), .str e.2]
def flOf (t : List Nat) : Option (Nat × Str) := match treeOf t with
  | .ok _ => none
  | .error e => some e
def spFlaw (K : PySem.W.Frag) : Sp := fun vs H Q E => ∃ (x : V) (b : Bool), vs = [x] ∧ Arg0 x b ∧ (b = false → Bd_ K H E "text") ∧
  (b = true → ∃ t, x = .str (sg t) ∧ t.length ≤ 200 ∧ ∀ v H', Ex H H' → RD K H' (flD (flOf t)) v → Q v H')
theorem body_flaw (T : Tx K mg) (cdv : Value) (A : Around) (outer : List Env) (s : Shared) (H : Hp) (vs : List V) (Q : VK) (E : XK) (hr : Room 92 (A.deeper (envOfC "flaw" (defScope s_flaw) s.heap.objs.size (a_flaw K) cdv))) (h : spFlaw K vs H Q E) :
    ∃ t, PSs (cxOf (L2.CX P w) P w K mg base n_flaw "flaw" (defScope s_flaw) (a_flaw K) cdv A outer s H E) (defBody s_flaw) t ∧ t { nx := fun _ H' => Q .non H', rt := Q } (L2.start n_flaw vs) H := by
  obtain ⟨x, b, rfl, ha, k1, k2⟩ := h
  have h_need := ok_need (P := P) (w := w) (base := base) T
  have h_is_text := ok_isText (P := P) (w := w) (base := base) T
  have h_tree_of := ok_treeOf (P := P) (w := w) (base := base) T
  refine ⟨_, (pss_cons (ps_expr (pcallX h_need (hr.mono (by omega)) (g_need T) px_of (pa_cons (pcall h_is_text (hr.mono (by omega)) (g_is_text T) (pa_cons (pv 0) pa_nil)) (pa_cons pe_str pa_nil))))
    (pss_cons (ps_try_as (i := 1) (tb := fun W => tDrop (tCallS (spTree K) (WE W) (tCons (tVar 0) tNil)))
        (ts := fun a cls d => tRet (tTup (tCons (tXf a cls d (cF K) "place" (tVar 1)) (tCons (tXf a cls d (cF K) "message" (tVar 1)) tNil)))) (Wout := fun _ _ _ _ => False)
        rfl rfl (z_flaw T).nd rfl rfl ⟨rfl, by decide, Or.inl (g_Flaw T)⟩ takes0
        (fun W pn xe tk _ => pss_one (ps_expr (by exact (pcallS h_tree_of hr (g_tree_of T) (fun σ => passAt tk σ) (by exact (pa_cons (pv 0) pa_nil))))))
        (fun a oe cls d pn hz hf => pss_one (ps_ret (pe_tup (pa_cons (pe_xf (xf_Flaw T) (n_Flaw_place T) hz hf (pv 1)) (pa_cons (pe_xf (xf_Flaw T) (n_Flaw_message T) hz hf (pv 1)) pa_nil))))))
    (pss_one (ps_ret pe_non)))), ?_⟩
  refine ⟨_, rfl, _, _, rfl, ha, _, _, rfl, fun hb => ?_, k1⟩
  obtain ⟨t, rfl, ht, k⟩ := k2 hb
  refine ⟨_, rfl, t, rfl, ht, ?_⟩
  unfold flOf at k
  cases hq : treeOf t with
  | error e =>
    rw [hq] at k
    intro d H' ex hd hx
    refine ⟨true, (x_Flaw T).2, fun _ a ha => ?_, fun q => by cases q⟩
    refine ⟨_, rfl, rfl, rfl, d, _, _, rfl, hx, rfl, _, rfl, rfl, rfl, d, _, _, rfl, hx, rfl, two_sz _ _, fun q hq => ?_⟩
    have ex' : Ex H H' := fun b o z => ex b o (by simp) z
    exact k _ _ (ex'.trans (ex_new hq)) (.tup (.inl (.inl upd_same)) (.cons (.int _) (.cons (.str _) .nil)))
  | ok d =>
    rw [hq] at k
    intro v H' ex rv
    exact k _ _ ex .non
theorem len_flaw (vs : List V) (H : Hp) (Q : VK) (E : XK) (h : spFlaw K vs H Q E) : vs.length = p_flaw.length := by
  obtain ⟨_, _, rfl, _⟩ := h
  rfl
theorem ok_flaw (T : Tx K mg) : Has P w K mg base 93 (a_flaw K) p_flaw (spFlaw K) := has_of (f_flaw T) (z_flaw T) (b_flaw T) len_flaw (body_flaw T)
end
end K09
/-! The place of the one thing of a list; dict.pop. -/
namespace Sl
open PySem PySem.Spec
open PyProof.Rows L2
section
variable {X : Cx}
def rIndex1 (K : PySem.W.Frag) : V → List V → Hp → VK → Prop := fun x xs H Q => ∃ (a p : Addr), x = V.ref a ∧ xs = [V.ref p] ∧ SqL K H a [V.ref p] ∧ Q (.int 0) H
theorem mt_index1 : MtR X "list.index" (rIndex1 X.K) := by
  intro pins s σ H x xs v us Q I rx rxs h
  obtain ⟨a, p, rfl, rfl, hs, q⟩ := h
  cases rx
  cases rxs with
  | cons ry rt =>
    rename_i uy ut
    cases rt
    cases ry
    obtain ⟨its, rv, ⟨⟨cls, dd, data, sl⟩, n, ho, hc, hdn, hd⟩, hlen⟩ := I.list hs
    simp only at hc hd
    subst hc hd
    cases rv with
    | cons r1 r2 =>
      cases r2
      cases r1
      refine call_meets PySem.F.slot_list_index ⟨_, ho, rfl⟩ PySem.F.entry_list_index (PySem.F.args_list_index_2 _ _)
        (SeqAt.list_indexAt a #[Value.ref p] n dd sl (.ref p) (fun _ => true) 0 (by simp) (by decide) rfl (fun m _ h => absurd h (by omega))) ⟨ho, fun u' hu' => ?_, ?_⟩
      · have : u' = Value.ref p := by simpa using hu'
        rw [this]
        exact SeqAt.EqAt.same _
      · exact ⟨.int 0, H, I.tok _, ⟨_, rfl⟩, q⟩
theorem idx1K (K : PySem.W.Frag) (hK : X.K = K := by rfl) : MtR X "list.index" (rIndex1 K) := by subst hK; exact mt_index1
end
end Sl
/-! A list unpacked. -/
namespace Sl
open PySem PySem.Spec
open PyProof.Rows L2
theorem unlK {X : Cx} (K : PySem.W.Frag) {es : List Expr} {k : Nat} {pos : Pos} {t : TGs} {n : Nat} (h : PGs X es t) (hc : X.calm = true := by rfl) (hK : X.K = K := by rfl)
    (hn : (assignEach es X.env).length = n := by rfl) (hst : (assignEach es X.env).findIdx? (·.1) = none := by rfl) : PG X (.Tuple es k pos) (gUnl K n t) := by
  subst hK
  exact pg_unl hc h hn hst
end Sl
/-! Nests of one leaf. -/
namespace K09
open PySem PySem.Spec
open PyProof.Rows L2 Sl Pm
section
variable {P : Program} {w : World} {K : PySem.W.Frag} {mg : Str → Option Value} {base : Heap} {H H0 H1 H2 B : Hp} {E : XK} {Q : VK} {m n e : Nat} {σ : L2.St}
theorem never {k : Nat} {f : Addr} {N ps : List Str} {x qual : Str} {params : Arguments} {body : List Stmt} {scope : Scope} (F : ∃ fd, FunD K x qual params body scope [] [] f fd) (S : FnScope N ps scope) (hb : BindsBy x qual params body scope ps) : Has P w K mg base (k + 1) f ps (fun _ _ _ _ => False) :=
  has_of F S hb (fun _ _ _ _ h => h.elim) (fun _ _ _ _ _ _ _ _ _ h => h.elim)
abbrev cN (K : PySem.W.Frag) : Addr := He.ga K "Node"
abbrev cE (K : PySem.W.Frag) : Addr := He.ga K "Nest"
def ndF (w : Str) (num bel : Addr) (ab pt : V) : List (Str × V) := [("word", .str w), ("numbers", .ref num), ("below", .ref bel), ("above", ab), ("part", pt)]
def spNdInit (K : PySem.W.Frag) : Sp := fun vs H Q _ => ∃ (p dx num bel : Addr) (w : Str), vs = [.ref p, .str w, .ref num, .ref bel] ∧ H p = some (.ins (cN K) dx []) ∧ ∀ H', (∀ b o, b ≠ p → H b = some o → H' b = some o) → H' p = some (.ins (cN K) dx (ndF w num bel .non .non)) → Q .non H'
theorem ok_ndInit (T : Tx K mg) : Has P w K mg base 1 (a_Node_init K) p_Node_init (spNdInit K) := by
  refine has_of (f_Node_init T) (z_Node_init T) (b_Node_init T) (fun vs H Q E h => by obtain ⟨_, _, _, _, _, rfl, _⟩ := h; rfl) (fun cdv A outer s H vs Q E hr h => ?_)
  obtain ⟨p, dx, num, bel, wd, rfl, hp, k⟩ := h
  refine ⟨_, (pss_cons (ps_fld (pv 0) (pv 1) rfl)
  (pss_cons (ps_fld (pv 0) (pv 2) rfl)
  (pss_cons (ps_fld (pv 0) (pv 3) rfl)
  (pss_cons (ps_fld (pv 0) pe_non rfl)
  (pss_one (ps_fld (pv 0) pe_non rfl)))))), ?_⟩
  refine ⟨_, rfl, _, rfl, p, _, dx, _, rfl, hp, c_Node T, n_Node_word T, by show 0 < 1000; decide, ?_⟩
  refine ⟨_, rfl, _, rfl, p, _, dx, _, rfl, upd_same, c_Node T, n_Node_numbers T, by show 1 < 1000; decide, ?_⟩
  refine ⟨_, rfl, _, rfl, p, _, dx, _, rfl, upd_same, c_Node T, n_Node_below T, by show 2 < 1000; decide, ?_⟩
  refine ⟨_, rfl, p, _, dx, _, rfl, upd_same, c_Node T, n_Node_above T, by show 3 < 1000; decide, ?_⟩
  refine ⟨_, rfl, p, _, dx, _, rfl, upd_same, c_Node T, n_Node_part T, by show 4 < 1000; decide, ?_⟩
  refine k _ (fun b o hb e => ?_) upd_same
  rw [upd_ne hb, upd_ne hb, upd_ne hb, upd_ne hb, upd_ne hb]
  exact e
def leafD : D := .tup [.str "maze", .str "a"]
def spNodes (K : PySem.W.Frag) : Sp := fun vs H Q _ => ∃ v, vs = [v] ∧ RD K H leafD v ∧ ∀ H' r nd dxd num bel, Ex H H' → H nd = none → H r = none → H num = none → H' r = some (.lst [.ref nd]) → H' nd = some (.ins (cN K) dxd (ndF "maze" num bel .non .non)) → H' num = some (.lst [.int 0]) → Q (.ref r) H'
theorem ok_nodes (T : Tx K mg) : Has P w K mg base 3 (a_nodes_of K) p_nodes_of (spNodes K) := by
  refine has_of (f_nodes_of T) (z_nodes_of T) (b_nodes_of T) (fun vs H Q E h => by obtain ⟨_, rfl, _⟩ := h; rfl) (fun cdv A outer s H vs Q E hr h => ?_)
  obtain ⟨v, rfl, rv, k⟩ := h
  have h_Node_init := ok_ndInit (P := P) (w := w) (base := base) T
  have h_nodes_of := never (P := P) (w := w) (base := base) (mg := mg) (k := 0) (f_nodes_of T) (z_nodes_of T) (b_nodes_of T)
  obtain ⟨a, x, y, rfl, ha, r1, r2⟩ := slots2 rv
  obtain rfl := r1.ofStr
  obtain rfl := r2.ofStr
  refine ⟨_, (pss_cons (ps_set (i := 1) (z_nodes_of T).nd rfl (Or.inl rfl) (pe_ix (ixT K) (pv 0) pe_int (fun _ _ => rfl)))
  (pss_cons (ps_if (pt_cmpR op_eq (pv 1) pe_str (nomark _)) (pss_one (ps_ret (pe_lst (pa_cons (pmake h_Node_init (k_Node T) (hr.mono (by omega)) (g_Node T) passL (pa_cons (pv 1) (pa_cons (pe_lst (pa_cons (bmK K PySem.F.plainAttrs_str PySem.F.slot_str_index PySem.F.type_str_index mt_sindex (pgs (i_LETTERS T)) (pa_cons (pe_ix (ixT K) (pv 0) pe_int (fun _ _ => rfl)) pa_nil)) pa_nil)) (pa_cons (pe_lst pa_nil) pa_nil)))) pa_nil)))) pss_nil)
  (pss_cons (ps_setLc (i := 2) (own := [("own", 3)]) rfl (z_nodes_of T).nd rfl rfl (sw_true rfl rfl rfl (by decide +kernel)) (tupW K (pe_slice (slT K) (pv 0) (po_some pe_int) po_none)) (blkOk_by (N := n_nodes_of) (sc := defScope s_nodes_of) (by decide +kernel)) (fun _ _ _ _ _ => by exact (pg_name (i := 3) (z_nodes_of T).nd rfl (Or.inl rfl))) (fun _ _ _ _ _ => by exact (pts_one (pt_val (pe_callB (isiK K) (by rfl) (l_isinstance T) (by decide +kernel) (pa_cons (pv 3) (pa_cons (pe_bltn (v := .ty "tuple") (u := .type "tuple") rfl (l_tuple T) (by decide +kernel) rfl) pa_nil)))))) (fun _ _ _ _ _ => by exact (pv 3)))
  (pss_cons (ps_setLc (i := 4) (own := [("own", 3)]) rfl (z_nodes_of T).nd rfl rfl (sw_true rfl rfl rfl (by decide +kernel)) (listW K (pv 2)) (blkOk_by (N := n_nodes_of) (sc := defScope s_nodes_of) (by decide +kernel)) (fun _ _ _ _ _ => by exact (pg_name (i := 3) (z_nodes_of T).nd rfl (Or.inl rfl))) (fun _ _ _ _ _ => by exact pts_nil) (fun _ _ _ _ _ => by exact (pcall h_nodes_of (hr.mono (by omega)) (g_nodes_of T) (pa_cons (pv 3) pa_nil))))
  (pss_cons (ps_set (i := 5) (z_nodes_of T).nd rfl (Or.inl rfl) (pe_lst pa_nil))
  (pss_cons (ps_for (passes_of rfl) rfl (listW K (pv 4)) (pg_name (i := 6) (z_nodes_of T).nd rfl (Or.inl rfl)) (pss_one (ps_expr (bmK K PySem.F.plainAttrs_list PySem.F.slot_list_extend PySem.F.type_list_extend mt_extend (pv 5) (pa_cons (pv 6) pa_nil)))))
  (pss_cons (ps_set (i := 3) (z_nodes_of T).nd rfl (Or.inl rfl) (pmake h_Node_init (k_Node T) (hr.mono (by omega)) (g_Node T) passL (pa_cons (pv 1) (pa_cons (pe_lc (own := [("number", 7)]) rfl (z_nodes_of T).nd (tupW K (pe_slice (slT K) (pv 0) (po_some pe_int) po_none)) (blkOk_by (N := n_nodes_of) (sc := defScope s_nodes_of) (by decide +kernel)) (fun _ _ _ _ _ => by exact (pg_name (i := 7) (z_nodes_of T).nd rfl (Or.inl rfl))) (fun _ _ _ _ _ => by exact (pts_one (pt_not (pt_val (pe_callB (isiK K) (by rfl) (l_isinstance T) (by decide +kernel) (pa_cons (pv 7) (pa_cons (pe_bltn (v := .ty "tuple") (u := .type "tuple") rfl (l_tuple T) (by decide +kernel) rfl) pa_nil))))))) (fun _ _ _ _ _ => by exact (pv 7))) (pa_cons (pe_lc (own := [("row", 6)]) rfl (z_nodes_of T).nd (listW K (pv 4)) (blkOk_by (N := n_nodes_of) (sc := defScope s_nodes_of) (by decide +kernel)) (fun _ _ _ _ _ => by exact (pg_name (i := 6) (z_nodes_of T).nd rfl (Or.inl rfl))) (fun _ _ _ _ _ => by exact pts_nil) (fun _ _ _ _ _ => by exact (pe_ix (ixL K) (pv 6) (pe_un un_neg pe_int) (fun _ _ => rfl)))) pa_nil)))))
  (pss_cons (ps_for (passes_of rfl) rfl (listW K (pv 4)) (pg_name (i := 6) (z_nodes_of T).nd rfl (Or.inl rfl)) (pss_cons (ps_set (i := 8) (z_nodes_of T).nd rfl (Or.inl rfl) (pe_ix (ixL K) (pv 6) (pe_un un_neg pe_int) (fun _ _ => rfl)))
  (pss_one (ps_fld (pv 8) (pv 3) rfl))))
  (pss_one (ps_ret (pe_op op_cat (pv 5) (pe_lst (pa_cons (pv 3) pa_nil))))))))))))), ?_⟩
  refine ⟨_, rfl, a, _, _, _, rfl, rfl, ha, rfl, ?_⟩
  refine ⟨_, rfl, rfl, _, rfl, iteT' (by decide +kernel) ?_⟩
  refine ⟨_, rfl, rfl, _, rfl, a, _, _, _, rfl, rfl, ha, rfl, _, _, 0, [], rfl, rfl, by decide +kernel, one_sz _, fun num hnum => ?_⟩
  refine ⟨by show 0 ≤ sizeLine; decide, fun bel hbel => fun p dx hp hd hne => ?_⟩
  have e1 := (ex_new hnum (o := .lst [.int 0])).trans (ex_new hbel (o := .lst []))
  refine ⟨p, dx, num, bel, _, rfl, upd_same, fun H' h1 h2 => ⟨rfl, one_sz _, fun r hr => ?_⟩⟩
  have e2 : Ex H H' := fun b o q => h1 b o (ne_of_none (e1 _ _ q) hp) (by rw [upd_ne (ne_of_none (e1 _ _ q) hp), upd_ne (ne_of_none (e1 _ _ q) hd)]; exact e1 _ _ q)
  have f3 := ex_new hr (o := .lst [.ref p])
  have hn : H' num = some (.lst [.int 0]) := h1 num _ (ne_of_none (ex_new hbel _ _ upd_same) hp) (by rw [upd_ne (ne_of_none (ex_new hbel _ _ upd_same) hp), upd_ne (ne_of_none (ex_new hbel _ _ upd_same) hd)]; exact ex_new hbel _ _ upd_same)
  exact k _ r p dx num bel (e2.trans f3) (back e1 hp) (back e2 hr) hnum upd_same (f3 _ _ h2) (f3 _ _ hn)
/-! ### the nest -/
structure NA where
  ne : Addr
  dxn : Addr
  ln : Addr
  nd : Addr
  dxd : Addr
  num : Addr
  bel : Addr
  ll : Addr
  lm : Addr
  ls : Addr
  D0 : Addr
def nf (a : NA) (lp lf : Addr) (c : Int) : List (Str × V) := [("nodes", .ref a.ln), ("kind", .str "can"), ("most", .int 0), ("leaves", .ref a.ll), ("mazes", .ref a.lm), ("shut_ones", .ref a.ls), ("pasts", .ref lp), ("futures", .ref lf), ("count", .int c)]
def pastD (z : Mz) (i : Nat) : D := .tup [.int 0, .int (i : Int), .tup [pgD (z.ps.getD i ⟨0, 0, 0, 0⟩), .bl false], .tup [pgD (z.ps.getD i ⟨0, 0, 0, 0⟩), .bl true]]
/-- the passages that are open -/
def opl (ps : List Pg) (S : List Nat) : Nat → List Pg
  | 0 => []
  | k + 1 => if k ∈ S then opl ps S k else opl ps S k ++ (ps[k]?.map fun p => [p]).getD []
def opn (z : Mz) (S : List Nat) : Mz := ⟨z.n, opl z.ps S z.ps.length, z.ds⟩
theorem opl_len (ps : List Pg) (S : List Nat) : ∀ k, (opl ps S k).length ≤ k
  | 0 => Nat.le_refl _
  | k + 1 => by
    have := opl_len ps S k
    unfold opl
    split
    · omega
    · rw [List.length_append]
      cases ps[k]? with
      | none => simp; omega
      | some p => simp; omega
theorem opl_mem {ps : List Pg} {S : List Nat} {p : Pg} : ∀ {k}, p ∈ opl ps S k ↔ ∃ i, i < k ∧ i ∉ S ∧ ps[i]? = some p
  | 0 => by simp [opl]
  | k + 1 => by
    unfold opl
    by_cases h : k ∈ S
    · rw [if_pos h, opl_mem]
      constructor
      · rintro ⟨i, h1, h2⟩; exact ⟨i, by omega, h2⟩
      · rintro ⟨i, h1, h2, h3⟩
        exact ⟨i, by rcases Nat.lt_succ_iff_lt_or_eq.mp h1 with q | q; exact q; exact absurd (q ▸ h) h2, h2, h3⟩
    · rw [if_neg h, List.mem_append, opl_mem]
      constructor
      · rintro (⟨i, h1, h2⟩ | h1)
        · exact ⟨i, by omega, h2⟩
        · cases hk : ps[k]? with
          | none => rw [hk] at h1; simp at h1
          | some q =>
            rw [hk] at h1
            have : p = q := by simpa using h1
            exact ⟨k, by omega, h, by rw [hk, this]⟩
      · rintro ⟨i, h1, h2, h3⟩
        rcases Nat.lt_succ_iff_lt_or_eq.mp h1 with q | q
        · exact .inl ⟨i, q, h2, h3⟩
        · subst q
          exact .inr (by rw [h3]; simp)
theorem opn_ok {z : Mz} (ok : MzOk z) (S : List Nat) : MzOk (opn z S) := ⟨ok.n, Nat.le_trans (opl_len _ _ _) ok.pl, ok.dl, fun p hp => by
  obtain ⟨i, _, _, h⟩ := opl_mem.mp hp
  exact ok.p p (List.mem_of_getElem? h), ok.d⟩
theorem opl_nil (ps : List Pg) : ∀ k, opl ps [] k = ps.take k
  | 0 => by simp [opl]
  | k + 1 => by
    unfold opl
    rw [if_neg (by simp), opl_nil ps k, List.take_add_one]
    cases ps[k]? <;> rfl
theorem opn_nil (z : Mz) : opn z [] = z := by
  unfold opn
  rw [opl_nil, List.take_length]
/-- a nest that stands: B is what there was before it -/
structure NS (K : PySem.W.Frag) (B H : Hp) (a : NA) (z : Mz) (S Pt : List Nat) (ptz : Option Mz) : Prop where
  ex0 : Ex B H
  v : ∃ (lp lf : Addr) (c : Int) (v pt : V) (px fx : List V), H a.ne = some (.ins (cE K) a.dxn (nf a lp lf c)) ∧ H a.nd = some (.ins (cN K) a.dxd (ndF "maze" a.num a.bel .non pt)) ∧ H a.lm = some (.lst [v]) ∧ RD K H (mzD z) v ∧
    H lp = some (.lst px) ∧ RDs K H (Pt.map (pastD z)) px ∧ H lf = some (.lst fx) ∧ fx.length + Pt.length ≤ 1000 ∧ a.lm ≠ lp ∧ a.lm ≠ lf ∧ B lp = none ∧ B lf = none ∧
    match ptz with
    | none => pt = .non
    | some y => ∃ p B', pt = .ref p ∧ MzOk y ∧ PA K B' H p .can 0 167 (pS y) (dd y.ds).length (pM y) ∧ (∀ x, B x ≠ none → B' x ≠ none) ∧ B' a.ne ≠ none ∧ B' a.nd ≠ none ∧ B' a.lm ≠ none ∧ B' a.D0 ≠ none
  ln : H a.ln = some (.lst [.ref a.nd])
  num : H a.num = some (.lst [.int 0])
  ll : H a.ll = some (.lst [.ref a.nd])
  ls : H a.ls = some (.lst [.ref a.D0])
  d0 : H a.D0 = some (.dK (dk S))
  b1 : B a.ne = none
  b2 : B a.nd = none
  b3 : B a.lm = none
  b4 : B a.D0 = none
  b5 : B a.ln = none
  b6 : B a.num = none
  b7 : B a.ll = none
  b8 : B a.ls = none
  n1 : a.ne ≠ a.nd
  n2 : a.lm ≠ a.ln
  n3 : a.lm ≠ a.num
  n4 : a.lm ≠ a.ll
  n5 : a.lm ≠ a.ls
section
variable {a : NA} {z : Mz} {S Pt : List Nat} {ptz : Option Mz}
theorem NS.ex (h : NS K B H a z S Pt ptz) (x : Ex H H1) : NS K B H1 a z S Pt ptz := by
  obtain ⟨e0, ⟨lp, lf, c, v, pt, px, fx, h1, h2, h3, h4, h5, h6, h7, h8, h9, h10, h11, h12, h13⟩, g1, g2, g3, g4, g5, b1, b2, b3, b4, b5, b6, b7, b8, n1, n2, n3, n4, n5⟩ := h
  refine ⟨e0.trans x, ⟨lp, lf, c, v, pt, px, fx, x _ _ h1, x _ _ h2, x _ _ h3, h4.mono x.t, x _ _ h5, h6.mono x.t, x _ _ h7, h8, h9, h10, h11, h12, ?_⟩, x _ _ g1, x _ _ g2, x _ _ g3, x _ _ g4, x _ _ g5, b1, b2, b3, b4, b5, b6, b7, b8, n1, n2, n3, n4, n5⟩
  cases ptz with
  | none => exact h13
  | some y =>
    obtain ⟨p, B', k1, k2, k3, k4⟩ := h13
    exact ⟨p, B', k1, k2, k3.ex x, k4⟩
/-- something from before is written -/
theorem NS.row (h : NS K B H a z S Pt ptz) {R : Addr} {o : HO} (hR : B R ≠ none) (t : TEx H (L2.upd H R o)) : NS K (L2.upd B R o) (L2.upd H R o) a z S Pt ptz := by
  have nR : ∀ x, B x = none → x ≠ R := fun x hx q => hR (q ▸ hx)
  have u : ∀ x, B x = none → L2.upd H R o x = H x := fun x hx => upd_ne (nR x hx)
  have ub : ∀ x, B x = none → L2.upd B R o x = none := fun x hx => by rw [upd_ne (nR x hx)]; exact hx
  obtain ⟨e0, ⟨lp, lf, c, v, pt, px, fx, h1, h2, h3, h4, h5, h6, h7, h8, h9, h10, h11, h12, h13⟩, g1, g2, g3, g4, g5, b1, b2, b3, b4, b5, b6, b7, b8, n1, n2, n3, n4, n5⟩ := h
  refine ⟨ex_upd e0 R o, ⟨lp, lf, c, v, pt, px, fx, by rw [u _ b1]; exact h1, by rw [u _ b2]; exact h2, by rw [u _ b3]; exact h3, h4.mono t, by rw [u _ h11]; exact h5, h6.mono t, by rw [u _ h12]; exact h7, h8, h9, h10, ub _ h11, ub _ h12, ?_⟩,
    by rw [u _ b5]; exact g1, by rw [u _ b6]; exact g2, by rw [u _ b7]; exact g3, by rw [u _ b8]; exact g4, by rw [u _ b4]; exact g5, ub _ b1, ub _ b2, ub _ b3, ub _ b4, ub _ b5, ub _ b6, ub _ b7, ub _ b8, n1, n2, n3, n4, n5⟩
  cases ptz with
  | none => exact h13
  | some y =>
    obtain ⟨p, B', k1, k2, k3, k4, k5⟩ := h13
    refine ⟨p, B', k1, k2, k3.put (k4 R hR) t, fun x hx => ?_, k5⟩
    by_cases q : x = R
    · exact k4 x (q ▸ hR)
    · rw [upd_ne q] at hx; exact k4 x hx
/-- the nest's own fields change -/
theorem NS.put_ne (h : NS K B H a z S Pt ptz) {lp lf : Addr} {c : Int} {px fx : List V} {Pt' : List Nat} (h5 : H lp = some (.lst px)) (h6 : RDs K H (Pt'.map (pastD z)) px) (h7 : H lf = some (.lst fx)) (h8 : fx.length + Pt'.length ≤ 1000) (h9 : a.lm ≠ lp) (h10 : a.lm ≠ lf) (h11 : B lp = none) (h12 : B lf = none) :
    TEx H (L2.upd H a.ne (.ins (cE K) a.dxn (nf a lp lf c))) ∧ NS K B (L2.upd H a.ne (.ins (cE K) a.dxn (nf a lp lf c))) a z S Pt' ptz := by
  obtain ⟨e0, ⟨_, _, _, v, pt, _, _, h1, h2, h3, h4, _, _, _, _, _, _, _, _, h13⟩, g1, g2, g3, g4, g5, b1, b2, b3, b4, b5, b6, b7, b8, n1, n2, n3, n4, n5⟩ := h
  have t := tex_put (o' := .ins (cE K) a.dxn (nf a lp lf c)) h1 (by intro xs z; cases z) (by intro a b z; cases z)
  have nl : ∀ {x : Addr} {ys : List V}, H x = some (.lst ys) → x ≠ a.ne := fun hx => (ne_of h1 hx (by intro z; cases z)).symm
  refine ⟨t, ex_own e0 b1, ⟨lp, lf, c, v, pt, px, fx, upd_same, by rw [upd_ne n1.symm]; exact h2, by rw [upd_ne (nl h3)]; exact h3, h4.mono t, by rw [upd_ne (nl h5)]; exact h5, h6.mono t, by rw [upd_ne (nl h7)]; exact h7, h8, h9, h10, h11, h12, ?_⟩,
    by rw [upd_ne (nl g1)]; exact g1, by rw [upd_ne (nl g2)]; exact g2, by rw [upd_ne (nl g3)]; exact g3, by rw [upd_ne (nl g4)]; exact g4, by rw [upd_ne (ne_of h1 g5 (by intro z; cases z)).symm]; exact g5, b1, b2, b3, b4, b5, b6, b7, b8, n1, n2, n3, n4, n5⟩
  cases ptz with
  | none => exact h13
  | some y =>
    obtain ⟨p, B', k1, k2, k3, k4, k5, k6⟩ := h13
    exact ⟨p, B', k1, k2, k3.put k5 t, k4, k5, k6⟩
/-- the leaf's part changes -/
theorem NS.put_nd (h : NS K B H a z S Pt ptz) {p : Addr} {y : Mz} {B' : Hp} (oky : MzOk y) (pa : PA K B' H p .can 0 167 (pS y) (dd y.ds).length (pM y)) (k4 : ∀ x, B x ≠ none → B' x ≠ none) (k5 : B' a.ne ≠ none) (k6 : B' a.nd ≠ none) (k7 : B' a.lm ≠ none) (k8 : B' a.D0 ≠ none) :
    TEx H (L2.upd H a.nd (.ins (cN K) a.dxd (ndF "maze" a.num a.bel .non (.ref p)))) ∧ NS K B (L2.upd H a.nd (.ins (cN K) a.dxd (ndF "maze" a.num a.bel .non (.ref p)))) a z S Pt (some y) := by
  obtain ⟨e0, ⟨lp, lf, c, v, pt, px, fx, h1, h2, h3, h4, h5, h6, h7, h8, h9, h10, h11, h12, h13⟩, g1, g2, g3, g4, g5, b1, b2, b3, b4, b5, b6, b7, b8, n1, n2, n3, n4, n5⟩ := h
  have t := tex_put (o' := .ins (cN K) a.dxd (ndF "maze" a.num a.bel .non (.ref p))) h2 (by intro xs z; cases z) (by intro a b z; cases z)
  have nl : ∀ {x : Addr} {ys : List V}, H x = some (.lst ys) → x ≠ a.nd := fun hx => (ne_of h2 hx (by intro z; cases z)).symm
  exact ⟨t, ex_own e0 b2, ⟨lp, lf, c, v, _, px, fx, by rw [upd_ne n1]; exact h1, upd_same, by rw [upd_ne (nl h3)]; exact h3, h4.mono t, by rw [upd_ne (nl h5)]; exact h5, h6.mono t, by rw [upd_ne (nl h7)]; exact h7, h8, h9, h10, h11, h12, p, B', rfl, oky, pa.put k6 t, k4, k5, k6, k7, k8⟩,
    by rw [upd_ne (nl g1)]; exact g1, by rw [upd_ne (nl g2)]; exact g2, by rw [upd_ne (nl g3)]; exact g3, by rw [upd_ne (nl g4)]; exact g4, by rw [upd_ne (ne_of h2 g5 (by intro z; cases z)).symm]; exact g5, b1, b2, b3, b4, b5, b6, b7, b8, n1, n2, n3, n4, n5⟩
/-- the leaf's maze is told anew -/
theorem NS.put_lm (h : NS K B H a z S Pt ptz) {v' : V} (h4 : RD K H (mzD z) v') : TEx H (L2.upd H a.lm (.lst [v'])) ∧ NS K B (L2.upd H a.lm (.lst [v'])) a z S Pt ptz := by
  obtain ⟨e0, ⟨lp, lf, c, v, pt, px, fx, h1, h2, h3, _, h5, h6, h7, h8, h9, h10, h11, h12, h13⟩, g1, g2, g3, g4, g5, b1, b2, b3, b4, b5, b6, b7, b8, n1, n2, n3, n4, n5⟩ := h
  have t := tex_put (o' := .lst [v']) h3 (by intro xs z; cases z) (by intro a b z; cases z)
  refine ⟨t, ex_own e0 b3, ⟨lp, lf, c, v', pt, px, fx, by rw [upd_ne (ne_of h1 h3 (by intro z; cases z))]; exact h1, by rw [upd_ne (ne_of h2 h3 (by intro z; cases z))]; exact h2, upd_same, h4.mono t, by rw [upd_ne h9.symm]; exact h5, h6.mono t, by rw [upd_ne h10.symm]; exact h7, h8, h9, h10, h11, h12, ?_⟩,
    by rw [upd_ne n2.symm]; exact g1, by rw [upd_ne n3.symm]; exact g2, by rw [upd_ne n4.symm]; exact g3, by rw [upd_ne n5.symm]; exact g4, by rw [upd_ne (ne_of g5 h3 (by intro z; cases z))]; exact g5, b1, b2, b3, b4, b5, b6, b7, b8, n1, n2, n3, n4, n5⟩
  cases ptz with
  | none => exact h13
  | some y =>
    obtain ⟨p, B', k1, k2, k3, k4, k5, k6, k7, k8⟩ := h13
    exact ⟨p, B', k1, k2, k3.put k7 t, k4, k5, k6, k7, k8⟩
/-- the leaf's shut passages change -/
theorem NS.put_d0 (h : NS K B H a z S Pt ptz) (S' : List Nat) : TEx H (L2.upd H a.D0 (.dK (dk S'))) ∧ NS K B (L2.upd H a.D0 (.dK (dk S'))) a z S' Pt ptz := by
  obtain ⟨e0, ⟨lp, lf, c, v, pt, px, fx, h1, h2, h3, h4, h5, h6, h7, h8, h9, h10, h11, h12, h13⟩, g1, g2, g3, g4, g5, b1, b2, b3, b4, b5, b6, b7, b8, n1, n2, n3, n4, n5⟩ := h
  have t := tex_put (o' := .dK (dk S')) g5 (by intro xs z; cases z) (by intro a b z; cases z)
  have nl : ∀ {x : Addr} {ys : List V}, H x = some (.lst ys) → x ≠ a.D0 := fun hx => ne_of hx g5 (by intro z; cases z)
  refine ⟨t, ex_own e0 b4, ⟨lp, lf, c, v, pt, px, fx, by rw [upd_ne (ne_of h1 g5 (by intro z; cases z))]; exact h1, by rw [upd_ne (ne_of h2 g5 (by intro z; cases z))]; exact h2, by rw [upd_ne (nl h3)]; exact h3, h4.mono t, by rw [upd_ne (nl h5)]; exact h5, h6.mono t, by rw [upd_ne (nl h7)]; exact h7, h8, h9, h10, h11, h12, ?_⟩,
    by rw [upd_ne (nl g1)]; exact g1, by rw [upd_ne (nl g2)]; exact g2, by rw [upd_ne (nl g3)]; exact g3, by rw [upd_ne (nl g4)]; exact g4, upd_same, b1, b2, b3, b4, b5, b6, b7, b8, n1, n2, n3, n4, n5⟩
  cases ptz with
  | none => exact h13
  | some y =>
    obtain ⟨p, B', k1, k2, k3, k4, k5, k6, k7, k8⟩ := h13
    exact ⟨p, B', k1, k2, k3.put k8 t, k4, k5, k6, k7, k8⟩
end
theorem mzS2 {z : Mz} {v : V} (h : RD K H (mzD z) v) : ∃ a b c xs, v = .ref a ∧ SqT K H a [.int (z.n : Int), .ref b, .ref c] ∧ SqT K H b xs ∧ RDs K H (z.ps.map pgD) xs ∧ xs.length = z.ps.length ∧ SqT K H c (nV z.ds) := mzS h
def spOpen (K : PySem.W.Frag) : Sp := fun vs H Q _ => ∃ (B : Hp) (a : NA) (z : Mz) (S Pt : List Nat) (ptz : Option Mz), vs = [.ref a.ne, .int 0] ∧ NS K B H a z S Pt ptz ∧ MzOk z ∧ ∀ u H', Ex H H' → RD K H' (mzD (opn z S)) u → Q u H'
theorem ok_openMaze (T : Tx K mg) : Has P w K mg base 1 (a_Nest_open_maze K) p_Nest_open_maze (spOpen K) := by
  refine has_of (f_Nest_open_maze T) (z_Nest_open_maze T) (b_Nest_open_maze T) (fun vs H Q E h => by obtain ⟨_, _, _, _, _, _, rfl, _⟩ := h; rfl) (fun cdv A outer s H vs Q E hr h => ?_)
  obtain ⟨B, a, z, S, Pt, ptz, rfl, ns, ok, k⟩ := h
  obtain ⟨lp, lf, c, v, pt, px, fx, h1, h2, h3, h4, _⟩ := ns.v
  obtain ⟨t, b, cc, xs, rfl, ha, hb, rb, lx, hc⟩ := mzS h4
  have o2 := ok.pl
  refine ⟨_, (pss_cons (ps_asg (pe_ix (ixL K) (fldK K (pv 0)) (pv 1) (fun _ _ => rfl)) (tupK K (n := 3) (pgs_cons (pg_name (i := 2) (z_Nest_open_maze T).nd rfl (Or.inl rfl)) (pgs_cons (pg_name (i := 3) (z_Nest_open_maze T).nd rfl (Or.inl rfl)) (pgs_cons (pg_name (i := 4) (z_Nest_open_maze T).nd rfl (Or.inl rfl)) pgs_nil)))))
  (pss_one (ps_ret (pe_tup (pa_cons (pv 2) (pa_cons (pe_callTy (tupleK K) (by rfl) (l_tuple T) (by decide +kernel) (pa_cons (pe_lc (own := [("at", 5), ("own", 6)]) rfl (z_Nest_open_maze T).nd (pi_enumT (by rfl) (l_enumerate T) (pa_cons (pv 3) pa_nil)) (blkOk_by (N := n_Nest_open_maze) (sc := defScope s_Nest_open_maze) (by decide +kernel)) (fun _ _ _ _ _ => by exact (tupK K (n := 2) (pgs_cons (pg_name (i := 5) (z_Nest_open_maze T).nd rfl (Or.inl rfl)) (pgs_cons (pg_name (i := 6) (z_Nest_open_maze T).nd rfl (Or.inl rfl)) pgs_nil)))) (fun _ _ _ _ _ => by exact (pts_one (pt_cmp (pc_dnotin (hu_of hr) (pv 5) (pe_ix (ixL K) (fldK K (pv 0)) (pv 1) (fun _ _ => rfl)))))) (fun _ _ _ _ _ => by exact (pv 6))) pa_nil)) (pa_cons (pv 4) pa_nil))))))), ?_⟩
  refine ⟨_, rfl, a.ne, _, a.dxn, _, _, rfl, h1, c_Nest T, n_Nest_mazes T, rfl, _, rfl, a.lm, _, _, _, rfl, rfl, SqL.of h3, rfl, t, _, rfl, ha, rfl, _, _, rfl, _, _, rfl, _, _, rfl, rfl, ?_⟩
  have hwq := walk_Q (K := K) (a := b) (xs := xs)
  rw [lx] at hwq
  refine ⟨_, rfl, _, rfl, b, xs, rfl, hb, fun l hl => lcD (K := K) hl hwq (fun q => (opl z.ps S q).map pgD) rfl (fun H' e' => e'.t.sq hb) (fun q hq => by rw [List.length_map]; have := opl_len z.ps S q; omega) (fun q y H2' H2 hq e2 yy R N kR kN => ?_) (fun H3 zs e3 hz r3 => ?_)⟩
  · obtain ⟨tt, y', rfl, htt, rfl, hy⟩ := yy
    have hpk : z.ps[q]? = some z.ps[q] := List.getElem?_eq_getElem hq
    obtain ⟨v, g1, g2⟩ := rb.get (show (z.ps.map pgD)[q]? = some (pgD z.ps[q]) by rw [List.getElem?_map, hpk]; rfl)
    rw [hy] at g1
    cases g1
    have f3 := ex_new htt (o := .tup [.int (q : Nat), y'])
    have e3 := e2.trans f3
    have ns3 := ns.ex e3
    refine ⟨tt, _, rfl, .inl (.inl upd_same), rfl, _, _, rfl, _, _, rfl, rfl, rfl, ?_⟩
    refine ⟨_, rfl, _, rfl, a.ne, _, a.dxn, _, _, rfl, e3 _ _ h1, c_Nest T, n_Nest_shut_ones T, rfl, _, rfl, a.ls, _, _, _, rfl, rfl, SqL.of ns3.ls, rfl, a.D0, _, rfl, .inl ⟨_, .inl (q : Int), .of ns3.d0, rfl, rfl⟩, _, rfl, ?_⟩
    rw [dk_val]
    by_cases hS : q ∈ S
    · refine iteF' (by simp [hS]) (kN _ f3 ?_)
      show (opl z.ps S (q + 1)).map pgD = _
      rw [opl, if_pos hS]
    · refine iteT' (by simp [hS]) ⟨_, rfl, kR _ _ (pgD z.ps[q]) f3 (g2.mono e3.t) ?_⟩
      show (opl z.ps S (q + 1)).map pgD = _
      rw [opl, if_neg hS, hpk, List.map_append]
      rfl
  · refine ⟨l, _, rfl, .inl ⟨SqL.of hz, fun u hu => ?_⟩⟩
    have f4 := ex_new hu (o := .tup zs)
    refine ⟨_, rfl, three_sz _ _ _, fun mq hmq => ?_⟩
    have rc : RD K H3 (.tup (z.ds.map natD)) (.ref cc) := by rw [natD_int]; exact rd_ints _ (e3.t.sq hc)
    exact k _ _ ((e3.trans f4).trans (ex_new hmq)) (tup3 (d1 := natD z.n) (.int _) (rd_new hu r3) (rc.mono f4.t) hmq)
end
end K09
/-! A leaf reckoned. -/
namespace K09
open PySem PySem.Spec
open PyProof.Rows L2 Sl Pm
section
variable {P : Program} {w : World} {K : PySem.W.Frag} {mg : Str → Option Value} {base : Heap} {H H0 H1 H2 B : Hp} {E : XK} {Q : VK} {m n e : Nat} {σ : L2.St}
theorem PtOk.nb {z : Mz} {kd : Kd} {t : D} (h : PtOk z kd m t) : Nb 4 t := by
  obtain ⟨rows, rfl, h⟩ := h
  intro d hd
  rcases (by simpa using hd : d = .tup ((pS z).map natD) ∨ d = .tup rows) with rfl | rfl
  · intro e he
    obtain ⟨x, _, rfl⟩ := List.mem_map.mp he
    trivial
  · exact TD_nb h
theorem NS.dom {a : NA} {z : Mz} {S Pt : List Nat} {ptz : Option Mz} (h : NS K B H a z S Pt ptz) : (∀ x, B x ≠ none → H x ≠ none) ∧ H a.ne ≠ none ∧ H a.nd ≠ none ∧ H a.lm ≠ none ∧ H a.D0 ≠ none := by
  obtain ⟨lp, lf, c, v, pt, px, fx, h1, h2, h3, _⟩ := h.v
  refine ⟨fun x hx => ?_, by rw [h1]; exact fun z => (by cases z), by rw [h2]; exact fun z => (by cases z), by rw [h3]; exact fun z => (by cases z), by rw [h.d0]; exact fun z => (by cases z)⟩
  cases q : B x with
  | none => exact absurd q hx
  | some o => rw [h.ex0 _ _ q]; exact fun z => (by cases z)
def spReckon (K : PySem.W.Frag) : Sp := fun vs H Q _ => ∃ (B : Hp) (a : NA) (z : Mz) (S Pt : List Nat) (ptz : Option Mz), vs = [.ref a.ne, .ref a.nd] ∧ NS K B H a z S Pt ptz ∧ MzOk z ∧ ∀ b H', TEx H H' → NS K B H' a z S Pt (some (opn z S)) → Q (.bl b) H'
theorem ok_reckon (T : Tx K mg) : Has P w K mg base 6 (a_Nest_reckon K) p_Nest_reckon (spReckon K) := by
  refine has_of (f_Nest_reckon T) (z_Nest_reckon T) (b_Nest_reckon T) (fun vs H Q E h => by obtain ⟨_, _, _, _, _, _, rfl, _⟩ := h; rfl) (fun cdv A outer s H vs Q E hr h => ?_)
  obtain ⟨B, a, z, S, Pt, ptz, rfl, ns, ok, k⟩ := h
  have h_part := ok_part (P := P) (w := w) (base := base) T
  have h_Part_told := ok_told (P := P) (w := w) (base := base) T
  have h_Nest_open_maze := ok_openMaze (P := P) (w := w) (base := base) T
  have h_Part_beside := never (P := P) (w := w) (base := base) (mg := mg) (k := 0) (f_Part_beside T) (z_Part_beside T) (b_Part_beside T)
  have h_Part_glued := never (P := P) (w := w) (base := base) (mg := mg) (k := 0) (f_Part_glued T) (z_Part_glued T) (b_Part_glued T)
  have h_Part_hidden := never (P := P) (w := w) (base := base) (mg := mg) (k := 0) (f_Part_hidden T) (z_Part_hidden T) (b_Part_hidden T)
  have h_part_over := never (P := P) (w := w) (base := base) (mg := mg) (k := 0) (f_part_over T) (z_part_over T) (b_part_over T)
  refine ⟨_, (pss_cons (ps_fldaug (pv 0) pe_int in_add)
  (pss_cons (ps_if (pt_cmpR op_eq (fldK K (pv 1)) pe_str (nomark _)) (pss_one (ps_set (i := 2) (z_Nest_reckon T).nd rfl (Or.inl rfl) (pcall h_part (hr.mono (by omega)) (g_part T) (pa_cons (pmeth h_Nest_open_maze (c_Nest T) (m_Nest_open_maze T) (hr.mono (by omega)) passL (pv 0) (pa_cons (bmK K PySem.F.plainAttrs_list PySem.F.slot_list_index PySem.F.type_list_index (idx1K K) (fldK K (pv 0)) (pa_cons (pv 1) pa_nil)) pa_nil)) (pa_cons (fldK K (pv 0)) (pa_cons (fldK K (pv 0)) pa_nil)))))) (pss_cons (ps_setLc (i := 3) (own := [("own", 4)]) rfl (z_Nest_reckon T).nd rfl rfl (sw_true rfl rfl rfl (by decide +kernel)) (listW K (fldK K (pv 1))) (blkOk_by (N := n_Nest_reckon) (sc := defScope s_Nest_reckon) (by decide +kernel)) (fun _ _ _ _ _ => by exact (pg_name (i := 4) (z_Nest_reckon T).nd rfl (Or.inl rfl))) (fun _ _ _ _ _ => by exact pts_nil) (fun _ _ _ _ _ => by exact (fldK K (pv 4))))
  (pss_one (ps_if (pt_cmpR op_eq (fldK K (pv 1)) pe_str (nomark _)) (pss_one (ps_set (i := 2) (z_Nest_reckon T).nd rfl (Or.inl rfl) (pmeth h_Part_beside (c_Part T) (m_Part_beside T) (hr.mono (by omega)) passL (pe_ix (ixL K) (pv 3) pe_int (fun _ _ => rfl)) (pa_cons (pe_ix (ixL K) (pv 3) pe_int (fun _ _ => rfl)) pa_nil)))) (pss_one (ps_if (pt_cmpR op_eq (fldK K (pv 1)) pe_str (nomark _)) (pss_one (ps_set (i := 2) (z_Nest_reckon T).nd rfl (Or.inl rfl) (pcall h_part_over (hr.mono (by omega)) (g_part_over T) (pa_cons (pe_ix (ixL K) (pv 3) pe_int (fun _ _ => rfl)) (pa_cons (pe_ix (ixL K) (pv 3) pe_int (fun _ _ => rfl)) (pa_cons (pe_ix (ixL K) (fldK K (pv 1)) pe_int (fun _ _ => rfl)) pa_nil)))))) (pss_one (ps_if (pt_cmpR op_eq (fldK K (pv 1)) pe_str (nomark _)) (pss_one (ps_set (i := 2) (z_Nest_reckon T).nd rfl (Or.inl rfl) (pmeth h_Part_glued (c_Part T) (m_Part_glued T) (hr.mono (by omega)) passL (pe_ix (ixL K) (pv 3) pe_int (fun _ _ => rfl)) (pa_cons (pe_ix (ixL K) (fldK K (pv 1)) pe_int (fun _ _ => rfl)) (pa_cons (pe_ix (ixL K) (fldK K (pv 1)) pe_int (fun _ _ => rfl)) pa_nil))))) (pss_one (ps_set (i := 2) (z_Nest_reckon T).nd rfl (Or.inl rfl) (pmeth h_Part_hidden (c_Part T) (m_Part_hidden T) (hr.mono (by omega)) passL (pe_ix (ixL K) (pv 3) pe_int (fun _ _ => rfl)) (pa_cons (pe_ix (ixL K) (fldK K (pv 1)) pe_int (fun _ _ => rfl)) pa_nil))))))))))))
  (pss_cons (ps_set (i := 5) (z_Nest_reckon T).nd rfl (Or.inl rfl) (pe_and (pe_cmpR oNoNo (fldK K (pv 1)) pe_non (nomark _)) (pe_one (pe_cmpR (eqDK K hr.units) (pmeth0 h_Part_told (c_Part T) (m_Part_told T) (hr.mono (by omega)) passL (fldK K (pv 1))) (pmeth0 h_Part_told (c_Part T) (m_Part_told T) (hr.mono (by omega)) passL (pv 2)) (nomark _)))))
  (pss_cons (ps_fld (pv 1) (pv 2) rfl)
  (pss_one (ps_ret (pe_not (pv 5)))))))), ?_⟩
  obtain ⟨lp, lf, c, v, pt, px, fx, h1, h2, h3, h4, h5, h6, h7, h8, h9, h10, h11, h12, h13⟩ := ns.v
  refine ⟨_, rfl, a.ne, _, a.dxn, _, _, rfl, h1, c_Nest T, n_Nest_count T, rfl, _, _, rfl, rfl, a.dxn, _, h1, by show 9 < 1000; decide, ?_⟩
  rw [show putF "count" (.int (c + 1)) (nf a lp lf c) = nf a lp lf (c + 1) from rfl]
  obtain ⟨t1, ns1⟩ := ns.put_ne (c := c + 1) h5 h6 h7 h8 h9 h10 h11 h12
  generalize L2.upd H a.ne (.ins (cE K) a.dxn (nf a lp lf (c + 1))) = H1 at t1 ns1 ⊢
  obtain ⟨lp, lf, c, v, pt, px, fx, h1, h2, h3, h4, h5, h6, h7, h8, h9, h10, h11, h12, h13⟩ := ns1.v
  refine ⟨_, rfl, a.nd, _, a.dxd, _, _, rfl, h2, c_Node T, n_Node_word T, rfl, rfl, _, rfl, iteT' (by decide +kernel) ?_⟩
  refine ⟨_, rfl, a.ne, a.dxn, _, rfl, h1, rfl, _, rfl, a.ne, _, a.dxn, _, _, rfl, h1, c_Nest T, n_Nest_leaves T, rfl, tl_list ns1.ll, _, rfl, a.ll, a.nd, rfl, rfl, SqL.of ns1.ll, ?_⟩
  refine ⟨B, a, z, S, Pt, ptz, rfl, ns1, ok, fun u H2 e2 ru => ?_⟩
  refine ⟨_, rfl, a.ne, _, a.dxn, _, _, rfl, e2 _ _ h1, c_Nest T, n_Nest_kind T, rfl, _, rfl, a.ne, _, a.dxn, _, _, rfl, e2 _ _ h1, c_Nest T, n_Nest_most T, rfl, ?_⟩
  have oko := opn_ok ok S
  refine ⟨.can, 0, opn z S, u, rfl, ru, oko, by decide, fun p H3 e3 pa => ?_⟩
  obtain ⟨dxp, _, _, _, hp3, _⟩ := pa.o
  have e13 := e2.trans e3
  have ns3 := ns1.ex e13
  have hd := (ns1.ex e2).dom
  have fin : ∀ b H4, Ex H3 H4 → ∃ v, (some (V.bl b) : Option V) = some v ∧ True := fun b H4 _ => ⟨_, rfl, trivial⟩
  have go : ∀ b H4, Ex H3 H4 → TEx H (L2.upd H4 a.nd (.ins (cN K) a.dxd (ndF "maze" a.num a.bel .non (.ref p)))) ∧ H4 a.nd = some (.ins (cN K) a.dxd (ndF "maze" a.num a.bel .non pt)) ∧ Q (.bl (!b)) (L2.upd H4 a.nd (.ins (cN K) a.dxd (ndF "maze" a.num a.bel .non (.ref p)))) := fun b H4 e4 => by
    have ns4 := ns3.ex e4
    obtain ⟨t5, ns5⟩ := ns4.put_nd oko (pa.ex e4) hd.1 hd.2.1 hd.2.2.1 hd.2.2.2.1 hd.2.2.2.2
    have tt := ((t1.trans e13.t).trans e4.t).trans t5
    exact ⟨tt, (e13.trans e4) _ _ h2, k _ _ tt ns5⟩
  refine ⟨_, rfl, a.nd, _, a.dxd, _, _, rfl, e13 _ _ h2, c_Node T, n_Node_part T, rfl, rfl, ?_⟩
  cases ptz with
  | none =>
    obtain rfl := h13
    refine ⟨false, by rw [decide_eq_true rfl]; rfl, iteF ?_⟩
    obtain ⟨_, g2, g3⟩ := go false H3 (Ex.refl _)
    exact ⟨_, rfl, _, rfl, a.nd, _, a.dxd, _, rfl, g2, c_Node T, n_Node_part T, by show 5 < 1000; decide, _, rfl, _, rfl, g3⟩
  | some y =>
    obtain ⟨p0, B', rfl, oky, pa0, _⟩ := h13
    refine ⟨true, by rw [decide_eq_false (by intro z; cases z)]; rfl, iteT ?_⟩
    obtain ⟨dx0, _, _, _, hp0, _⟩ := pa0.o
    have pa03 := pa0.ex e13
    refine ⟨_, rfl, a.nd, _, a.dxd, _, _, rfl, e13 _ _ h2, c_Node T, n_Node_part T, rfl, p0, dx0, _, rfl, e13 _ _ hp0, rfl, B', p0, .can, 0, 167, _, _, _, rfl, pa03, by have := dd_le oky; omega, fun rows v5 H5 e5 td r5 => ?_⟩
    refine ⟨_, rfl, p, dxp, _, rfl, e5 _ _ hp3, rfl, H2, p, .can, 0, 167, _, _, _, rfl, pa.ex e5, by have := dd_le oko; omega, fun rows' v6 H6 e6 td' r6 => ?_⟩
    have e36 := e5.trans e6
    refine eqD_use 4 (PtOk.nb ⟨_, rfl, td⟩) (PtOk.nb ⟨_, rfl, td'⟩) (by decide) (r5.mono e6.t) r6 (fun _ => ?_) (fun _ => ?_)
    · obtain ⟨_, g2, g3⟩ := go true H6 e36
      exact ⟨_, rfl, _, rfl, a.nd, _, a.dxd, _, rfl, g2, c_Node T, n_Node_part T, by show 5 < 1000; decide, _, rfl, _, rfl, g3⟩
    · obtain ⟨_, g2, g3⟩ := go false H6 e36
      exact ⟨_, rfl, _, rfl, a.nd, _, a.dxd, _, rfl, g2, c_Node T, n_Node_part T, by show 5 < 1000; decide, _, rfl, _, rfl, g3⟩
end
end K09
/-! A leaf's passages shut and opened. -/
namespace K09
open PySem PySem.Spec
open PyProof.Rows L2 Sl Pm
section
variable {P : Program} {w : World} {K : PySem.W.Frag} {mg : Str → Option Value} {base : Heap} {H H0 H1 H2 B : Hp} {E : XK} {Q : VK} {m n e : Nat} {σ : L2.St}
def spFollow (K : PySem.W.Frag) : Sp := fun vs H Q _ => ∃ (B : Hp) (a : NA) (z : Mz) (S Pt : List Nat) (ptz : Option Mz), vs = [.ref a.ne, .int 0] ∧ NS K B H a z S Pt ptz ∧ MzOk z ∧ ∀ H', TEx H H' → NS K B H' a z S Pt (some (opn z S)) → Q .non H'
theorem ok_follow (T : Tx K mg) : Has P w K mg base 7 (a_Nest_follow K) p_Nest_follow (spFollow K) := by
  refine has_of (f_Nest_follow T) (z_Nest_follow T) (b_Nest_follow T) (fun vs H Q E h => by obtain ⟨_, _, _, _, _, _, rfl, _⟩ := h; rfl) (fun cdv A outer s H vs Q E hr h => ?_)
  obtain ⟨B, a, z, S, Pt, ptz, rfl, ns, ok, k⟩ := h
  have h_Nest_reckon := ok_reckon (P := P) (w := w) (base := base) T
  refine ⟨_, (pss_cons (ps_set (i := 2) (z_Nest_follow T).nd rfl (Or.inl rfl) (pe_ix (ixL K) (fldK K (pv 0)) (pv 1) (fun _ _ => rfl)))
  (pss_one (ps_while (passes_of rfl) (PW.pt (pw_and (pt_cmpR oNoNo (pv 2) pe_non (nomark _)) (pw_and1 (pt_val (pmeth h_Nest_reckon (c_Nest T) (m_Nest_reckon T) (hr.mono (by omega)) passL (pv 0) (pa_cons (pv 2) pa_nil)))))) (pss_one (ps_set (i := 2) (z_Nest_follow T).nd rfl (Or.inl rfl) (fldK K (pv 2))))))), ?_⟩
  obtain ⟨lp, lf, c, v, pt, px, fx, h1, _⟩ := ns.v
  refine ⟨_, rfl, a.ne, _, a.dxn, _, _, rfl, h1, c_Nest T, n_Nest_leaves T, rfl, _, rfl, a.ll, _, _, _, rfl, rfl, SqL.of ns.ll, rfl, ?_⟩
  refine ⟨fun kk σ H' => TEx H H' ∧ ∃ x, σ = [some (.ref a.ne), some (.int 0), some x] ∧ ((kk = 1 ∧ x = .ref a.nd ∧ ∃ ptz, NS K B H' a z S Pt ptz) ∨ (kk = 0 ∧ x = .non ∧ NS K B H' a z S Pt (some (opn z S)))), ⟨1, TEx.refl _, _, rfl, .inl ⟨rfl, rfl, _, ns⟩⟩, ?_⟩
  rintro mm σ H2 ⟨t2, x, rfl, hh⟩
  rcases hh with ⟨rfl, rfl, ptz2, ns2⟩ | ⟨rfl, rfl, ns2⟩
  · obtain ⟨lp, lf, c, v, pt, px, fx, h1, _⟩ := ns2.v
    refine ⟨_, rfl, rfl, _, rfl, iteT' (by simp) ?_⟩
    refine ⟨_, rfl, a.ne, a.dxn, _, rfl, h1, rfl, _, rfl, B, a, z, S, Pt, ptz2, rfl, ns2, ok, fun b H3 t3 ns3 => ?_⟩
    refine ⟨_, rfl, ?_⟩
    cases b with
    | true =>
      obtain ⟨lp, lf, c, v, pt, px, fx, h1, h2, _⟩ := ns3.v
      exact iteT ⟨_, fun _ _ h => h, _, rfl, a.nd, _, a.dxd, _, _, rfl, h2, c_Node T, n_Node_above T, rfl, 0, by decide, t2.trans t3, _, rfl, .inr ⟨rfl, rfl, ns3⟩⟩
    | false => exact iteF (k _ (t2.trans t3) ns3)
  · exact ⟨_, rfl, rfl, _, rfl, iteF' (by simp) (iteF (k _ t2 ns2))⟩
def spNTable (K : PySem.W.Frag) : Sp := fun vs H Q _ => ∃ (B : Hp) (a : NA) (z : Mz) (S Pt : List Nat) (y : Mz), vs = [.ref a.ne] ∧ NS K B H a z S Pt (some y) ∧ ∀ t v H', Ex H H' → TabOk y .can 0 t → RD K H' t v → Q v H'
theorem ok_nTable (T : Tx K mg) : Has P w K mg base 5 (a_Nest_table K) p_Nest_table (spNTable K) := by
  refine has_of (f_Nest_table T) (z_Nest_table T) (b_Nest_table T) (fun vs H Q E h => by obtain ⟨_, _, _, _, _, _, rfl, _⟩ := h; rfl) (fun cdv A outer s H vs Q E hr h => ?_)
  obtain ⟨B, a, z, S, Pt, y, rfl, ns, k⟩ := h
  have h_Part_table := ok_table (P := P) (w := w) (base := base) T
  refine ⟨_, (pss_one (ps_ret (pmeth0 h_Part_table (c_Part T) (m_Part_table T) (hr.mono (by omega)) passL (fldK K (pe_ix (ixL K) (fldK K (pv 0)) (pe_un un_neg pe_int) (fun _ _ => rfl)))))), ?_⟩
  obtain ⟨lp, lf, c, v, pt, px, fx, h1, h2, _, _, _, _, _, _, _, _, _, _, p, B', rfl, oky, pa, _⟩ := ns.v
  obtain ⟨dxp, _, _, _, hp, _⟩ := pa.o
  exact ⟨_, rfl, a.ne, _, a.dxn, _, _, rfl, h1, c_Nest T, n_Nest_nodes T, rfl, _, rfl, a.ln, _, _, _, rfl, rfl, SqL.of ns.ln, rfl, a.nd, _, a.dxd, _, _, rfl, h2, c_Node T, n_Node_part T, rfl, p, dxp, _, rfl, hp, rfl, tab_call (E := E0) oky pa k⟩
def spJoinedAt (K : PySem.W.Frag) : Sp := fun vs H Q _ => ∃ (B : Hp) (a : NA) (z : Mz) (S Pt : List Nat) (ptz : Option Mz), vs = [.ref a.ne, .ref a.nd] ∧ NS K B H a z S Pt ptz ∧ MzOk z ∧ ∀ u H', Ex H H' → RD K H' (mzD (opn z S)) u → Q u H'
theorem ok_joinedAt (T : Tx K mg) : Has P w K mg base 2 (a_Nest_joined_at K) p_Nest_joined_at (spJoinedAt K) := by
  refine has_of (f_Nest_joined_at T) (z_Nest_joined_at T) (b_Nest_joined_at T) (fun vs H Q E h => by obtain ⟨_, _, _, _, _, _, rfl, _⟩ := h; rfl) (fun cdv A outer s H vs Q E hr h => ?_)
  obtain ⟨B, a, z, S, Pt, ptz, rfl, ns, ok, k⟩ := h
  have h_Nest_open_maze := ok_openMaze (P := P) (w := w) (base := base) T
  have h_Nest_joined_at := never (P := P) (w := w) (base := base) (mg := mg) (k := 0) (f_Nest_joined_at T) (z_Nest_joined_at T) (b_Nest_joined_at T)
  have h_side_by_side := never (P := P) (w := w) (base := base) (mg := mg) (k := 0) (f_side_by_side T) (z_side_by_side T) (b_side_by_side T)
  have h_joined := never (P := P) (w := w) (base := base) (mg := mg) (k := 0) (f_joined T) (z_joined T) (b_joined T)
  have h_rooms_glued := never (P := P) (w := w) (base := base) (mg := mg) (k := 0) (f_rooms_glued T) (z_rooms_glued T) (b_rooms_glued T)
  refine ⟨_, (pss_cons (ps_if (pt_cmpR op_eq (fldK K (pv 1)) pe_str (nomark _)) (pss_one (ps_ret (pmeth h_Nest_open_maze (c_Nest T) (m_Nest_open_maze T) (hr.mono (by omega)) passL (pv 0) (pa_cons (bmK K PySem.F.plainAttrs_list PySem.F.slot_list_index PySem.F.type_list_index (idx1K K) (fldK K (pv 0)) (pa_cons (pv 1) pa_nil)) pa_nil)))) pss_nil)
  (pss_cons (ps_setLc (i := 2) (own := [("own", 3)]) rfl (z_Nest_joined_at T).nd rfl rfl (sw_true rfl rfl rfl (by decide +kernel)) (listW K (fldK K (pv 1))) (blkOk_by (N := n_Nest_joined_at) (sc := defScope s_Nest_joined_at) (by decide +kernel)) (fun _ _ _ _ _ => by exact (pg_name (i := 3) (z_Nest_joined_at T).nd rfl (Or.inl rfl))) (fun _ _ _ _ _ => by exact pts_nil) (fun _ _ _ _ _ => by exact (pmeth h_Nest_joined_at (c_Nest T) (m_Nest_joined_at T) (hr.mono (by omega)) passL (pv 0) (pa_cons (pv 3) pa_nil))))
  (pss_cons (ps_if (pt_cmpR op_eq (fldK K (pv 1)) pe_str (nomark _)) (pss_one (ps_ret (pcall h_side_by_side (hr.mono (by omega)) (g_side_by_side T) (pa_cons (pe_ix (ixL K) (pv 2) pe_int (fun _ _ => rfl)) (pa_cons (pe_ix (ixL K) (pv 2) pe_int (fun _ _ => rfl)) pa_nil))))) pss_nil)
  (pss_cons (ps_if (pt_cmpR op_eq (fldK K (pv 1)) pe_str (nomark _)) (pss_one (ps_ret (pcall h_joined (hr.mono (by omega)) (g_joined T) (pa_cons (pe_ix (ixL K) (pv 2) pe_int (fun _ _ => rfl)) (pa_cons (pe_ix (ixL K) (pv 2) pe_int (fun _ _ => rfl)) (pa_cons (pe_ix (ixL K) (fldK K (pv 1)) pe_int (fun _ _ => rfl)) pa_nil)))))) pss_nil)
  (pss_cons (ps_asg (pe_ix (ixL K) (pv 2) pe_int (fun _ _ => rfl)) (tupK K (n := 3) (pgs_cons (pg_name (i := 4) (z_Nest_joined_at T).nd rfl (Or.inl rfl)) (pgs_cons (pg_name (i := 5) (z_Nest_joined_at T).nd rfl (Or.inl rfl)) (pgs_cons (pg_name (i := 6) (z_Nest_joined_at T).nd rfl (Or.inl rfl)) pgs_nil)))))
  (pss_cons (ps_if (pt_cmpR op_eq (fldK K (pv 1)) pe_str (nomark _)) (pss_one (ps_ret (pcall h_rooms_glued (hr.mono (by omega)) (g_rooms_glued T) (pa_cons (pe_ix (ixL K) (pv 2) pe_int (fun _ _ => rfl)) (pa_cons (pe_ix (ixT K) (pv 6) (pe_ix (ixL K) (fldK K (pv 1)) pe_int (fun _ _ => rfl)) (fun _ _ => rfl)) (pa_cons (pe_ix (ixT K) (pv 6) (pe_ix (ixL K) (fldK K (pv 1)) pe_int (fun _ _ => rfl)) (fun _ _ => rfl)) pa_nil)))))) pss_nil)
  (pss_one (ps_ret (pe_tup (pa_cons (pv 4) (pa_cons (pv 5) (pa_cons (pe_op (catT K) (pe_slice (slT K) (pv 6) po_none (po_some (pe_ix (ixL K) (fldK K (pv 1)) pe_int (fun _ _ => rfl)))) (pe_slice (slT K) (pv 6) (po_some (pe_op oAddI (pe_ix (ixL K) (fldK K (pv 1)) pe_int (fun _ _ => rfl)) pe_int)) po_none)) pa_nil)))))))))))), ?_⟩
  obtain ⟨lp, lf, c, v, pt, px, fx, h1, h2, _⟩ := ns.v
  refine ⟨_, rfl, a.nd, _, a.dxd, _, _, rfl, h2, c_Node T, n_Node_word T, rfl, rfl, _, rfl, iteT' (by decide +kernel) ?_⟩
  refine ⟨_, rfl, a.ne, a.dxn, _, rfl, h1, rfl, _, rfl, a.ne, _, a.dxn, _, _, rfl, h1, c_Nest T, n_Nest_leaves T, rfl, tl_list ns.ll, _, rfl, a.ll, a.nd, rfl, rfl, SqL.of ns.ll, ?_⟩
  exact ⟨B, a, z, S, Pt, ptz, rfl, ns, ok, k⟩
def spWholeN (K : PySem.W.Frag) : Sp := fun vs H Q _ => ∃ (B : Hp) (a : NA) (z : Mz) (S Pt : List Nat) (ptz : Option Mz), vs = [.ref a.ne] ∧ NS K B H a z S Pt ptz ∧ MzOk z ∧ ∀ u H', Ex H H' → RD K H' (mzD (opn z S)) u → Q u H'
theorem ok_wholeN (T : Tx K mg) : Has P w K mg base 3 (a_Nest_whole K) p_Nest_whole (spWholeN K) := by
  refine has_of (f_Nest_whole T) (z_Nest_whole T) (b_Nest_whole T) (fun vs H Q E h => by obtain ⟨_, _, _, _, _, _, rfl, _⟩ := h; rfl) (fun cdv A outer s H vs Q E hr h => ?_)
  obtain ⟨B, a, z, S, Pt, ptz, rfl, ns, ok, k⟩ := h
  have h_Nest_joined_at := ok_joinedAt (P := P) (w := w) (base := base) T
  refine ⟨_, (pss_cons (ps_if (PW.pt (pw_or (pt_cmpR oGtI (pe_callB (cr_sum rfl) (by rfl) (l_sum T) (by decide +kernel) (pa_cons (pe_lc (own := [("own", 1)]) rfl (z_Nest_whole T).nd (listW K (fldK K (pv 0))) (blkOk_by (N := n_Nest_whole) (sc := defScope s_Nest_whole) (by decide +kernel)) (fun _ _ _ _ _ => by exact (pg_name (i := 1) (z_Nest_whole T).nd rfl (Or.inl rfl))) (fun _ _ _ _ _ => by exact pts_nil) (fun _ _ _ _ _ => by exact (pe_ix (ixT K) (pv 1) pe_int (fun _ _ => rfl)))) pa_nil)) (pgi (i_MOST_ROOMS T)) (nomark _)) (pw_or1 (pt_cmpR oGtI (pe_callB (cr_sum rfl) (by rfl) (l_sum T) (by decide +kernel) (pa_cons (pe_lc (own := [("own", 1)]) rfl (z_Nest_whole T).nd (listW K (fldK K (pv 0))) (blkOk_by (N := n_Nest_whole) (sc := defScope s_Nest_whole) (by decide +kernel)) (fun _ _ _ _ _ => by exact (pg_name (i := 1) (z_Nest_whole T).nd rfl (Or.inl rfl))) (fun _ _ _ _ _ => by exact pts_nil) (fun _ _ _ _ _ => by exact (pe_callB (lenK K) (by rfl) (l_len T) (by decide +kernel) (pa_cons (pe_ix (ixT K) (pv 1) pe_int (fun _ _ => rfl)) pa_nil)))) pa_nil)) (pgi (i_MOST_PASSAGES T)) (nomark _))))) (pss_one (ps_ret pe_non)) pss_nil)
  (pss_one (ps_ret (pmeth h_Nest_joined_at (c_Nest T) (m_Nest_joined_at T) (hr.mono (by omega)) passL (pv 0) (pa_cons (pe_ix (ixL K) (fldK K (pv 0)) (pe_un un_neg pe_int) (fun _ _ => rfl)) pa_nil))))), ?_⟩
  obtain ⟨lp, lf, c, v, pt, px, fx, h1, h2, h3, h4, _⟩ := ns.v
  have o1 := ok.n
  have o2 := ok.pl
  have hw := walk_list (K := K) (a := a.lm) (xs := [v])
  refine ⟨_, rfl, a.ne, _, a.dxn, _, _, rfl, h1, c_Nest T, n_Nest_mazes T, rfl, a.lm, rfl, ⟨_, SqL.of h3⟩, fun l hl => lcD (K := K) hl hw (fun q => (List.replicate q (D.int (z.n : Int)))) rfl (fun H' e' => SqL.of (e' _ _ h3)) (fun q hq => by rw [List.length_replicate]; simp at hq; omega) (fun q x H2' H2 hq e2 y R N kR kN => ?_) (fun H3 zs e3 hz r3 => ?_)⟩
  · obtain ⟨rfl, hx⟩ := y
    obtain rfl : q = 0 := by simp at hq; exact hq
    cases hx
    obtain ⟨t, b, cc, xs, rfl, ha, _⟩ := mzS (h4.mono e2.t)
    exact ⟨rfl, _, rfl, t, _, _, _, rfl, rfl, ha, rfl, kR _ _ (.int (z.n : Int)) (Ex.refl _) (.int _) rfl⟩
  · have r3 : RDs K H3 ([(z.n : Int)].map D.int) zs := r3
    obtain rfl := r3.ints
    refine ⟨l, [(z.n : Int)], rfl, SqL.of hz, _, _, rfl, rfl, _, rfl, iteF' (by simp; omega) ?_⟩
    have ns3 := ns.ex e3
    have h3' := e3 _ _ h3
    have h4' := h4.mono e3.t
    refine ⟨_, rfl, a.ne, _, a.dxn, _, _, rfl, e3 _ _ h1, c_Nest T, n_Nest_mazes T, rfl, a.lm, rfl, ⟨_, SqL.of h3'⟩, fun l2 hl2 => lcD (K := K) hl2 hw (fun q => (List.replicate q (D.int (z.ps.length : Int)))) rfl (fun H' e' => SqL.of (e' _ _ h3')) (fun q hq => by rw [List.length_replicate]; simp at hq; omega) (fun q x H2' H2 hq e2 y R N kR kN => ?_) (fun H5 zs e5 hz5 r5 => ?_)⟩
    · obtain ⟨rfl, hx⟩ := y
      obtain rfl : q = 0 := by simp at hq; exact hq
      cases hx
      obtain ⟨t, b, cc, xs, rfl, ha, hb, _, lx, _⟩ := mzS (h4'.mono e2.t)
      refine ⟨rfl, _, rfl, t, _, _, _, rfl, rfl, ha, rfl, b, _, rfl, .inr hb, kR _ _ (.int (z.ps.length : Int)) (Ex.refl _) (by rw [lx]; exact .int _) rfl⟩
    · have r5 : RDs K H5 ([(z.ps.length : Int)].map D.int) zs := r5
      obtain rfl := r5.ints
      refine ⟨l2, [(z.ps.length : Int)], rfl, SqL.of hz5, _, _, rfl, rfl, _, rfl, iteF' (by simp; omega) ?_⟩
      have ns5 := ns3.ex e5
      have h15 := (e3.trans e5) _ _ h1
      exact ⟨_, rfl, a.ne, a.dxn, _, rfl, h15, rfl, _, rfl, a.ne, _, a.dxn, _, _, rfl, h15, c_Nest T, n_Nest_nodes T, rfl, _, rfl, a.ln, _, _, _, rfl, rfl, SqL.of ns5.ln, rfl, B, a, z, S, Pt, ptz, rfl, ns5, ok, fun u H' e' ru => k u _ ((e3.trans e5).trans e') ru⟩
def spNeedPlace (K : PySem.W.Frag) : Sp := fun vs H Q _ => ∃ (B : Hp) (a : NA) (z : Mz) (S Pt : List Nat) (ptz : Option Mz) (i : Nat), vs = [.ref a.ne, .int 0, .int (i : Int)] ∧ NS K B H a z S Pt ptz ∧ i < z.ps.length ∧ Q .non H
theorem ok_needPlace (T : Tx K mg) : Has P w K mg base 4 (a_Nest_need_place K) p_Nest_need_place (spNeedPlace K) := by
  refine has_of (f_Nest_need_place T) (z_Nest_need_place T) (b_Nest_need_place T) (fun vs H Q E h => by obtain ⟨_, _, _, _, _, _, _, rfl, _⟩ := h; rfl) (fun cdv A outer s H vs Q E hr h => ?_)
  obtain ⟨B, a, z, S, Pt, ptz, i, rfl, ns, hi, k⟩ := h
  have h_is_whole := ok_whole (P := P) (w := w) (base := base) T
  have h_need := ok_need (P := P) (w := w) (base := base) T
  refine ⟨_, (pss_cons (ps_expr (pcall h_need (hr.mono (by omega)) (g_need T) (pa_cons (pcall h_is_whole (hr.mono (by omega)) (g_is_whole T) (pa_cons (pv 1) (pa_cons pe_int (pa_cons (pe_op oSubI (pe_callB (lenK K) (by rfl) (l_len T) (by decide +kernel) (pa_cons (fldK K (pv 0)) pa_nil)) pe_int) pa_nil)))) (pa_cons pe_str pa_nil))))
  (pss_one (ps_expr (pcall h_need (hr.mono (by omega)) (g_need T) (pa_cons (pcall h_is_whole (hr.mono (by omega)) (g_is_whole T) (pa_cons (pv 2) (pa_cons pe_int (pa_cons (pe_op oSubI (pe_callB (lenK K) (by rfl) (l_len T) (by decide +kernel) (pa_cons (pe_ix (ixT K) (pe_ix (ixL K) (fldK K (pv 0)) (pv 1) (fun _ _ => rfl)) pe_int (fun _ _ => rfl)) pa_nil)) pe_int) pa_nil)))) (pa_cons pe_str pa_nil)))))), ?_⟩
  obtain ⟨lp, lf, c, v, pt, px, fx, h1, h2, h3, h4, _⟩ := ns.v
  obtain ⟨t, b, cc, xs, rfl, ha, hb, _, lx, _⟩ := mzS h4
  refine ⟨_, rfl, _, rfl, a.ne, _, a.dxn, _, _, rfl, h1, c_Nest T, n_Nest_leaves T, rfl, a.ll, _, rfl, .inl (SqL.of ns.ll), _, _, rfl, rfl, _, _, _, rfl, true, "leaf", ?_, fun _ => ?_, fun zz => (by cases zz)⟩
  · rw [wh (by omega) (by show (0 : Int) ≤ (1 : Nat) - 1; decide)]
    rfl
  refine ⟨_, rfl, _, rfl, a.ne, _, a.dxn, _, _, rfl, h1, c_Nest T, n_Nest_mazes T, rfl, _, rfl, a.lm, _, _, _, rfl, rfl, SqL.of h3, rfl, t, _, _, _, rfl, rfl, ha, rfl, b, _, rfl, .inr hb, _, _, rfl, rfl, _, _, _, rfl, true, "place", ?_, fun _ => k, fun zz => (by cases zz)⟩
  rw [wh (by omega) (by omega)]
  rfl
theorem dk_drop (S : List Nat) (i : Nat) : dropK (dk S) (.inl (i : Int) : Key) = dk (S.filter fun x => decide (x ≠ i)) := by
  unfold dropK dk
  rw [List.filter_map]
  congr 1
  refine List.filter_congr fun x _ => ?_
  show decide _ = decide _
  refine decide_eq_decide.mpr ?_
  simp
  omega
/-- what is shut behind a change -/
def shS (S : List Nat) (i : Nat) (b : Bool) : List Nat := if b = true then S ++ [i] else S.filter fun x => decide (x ≠ i)
def spLay (K : PySem.W.Frag) : Sp := fun vs H Q _ => ∃ (B : Hp) (a : NA) (z : Mz) (S Pt : List Nat) (ptz : Option Mz) (i : Nat) (b : Bool) (st : V), vs = [.ref a.ne, .int 0, .int (i : Int), st] ∧ NS K B H a z S Pt ptz ∧ MzOk z ∧ i < z.ps.length ∧ S.length ≤ 1000 ∧ (b = true → i ∉ S) ∧ RD K H (.tup [pgD (z.ps.getD i ⟨0, 0, 0, 0⟩), .bl b]) st ∧
  ∀ v H', TEx H H' → NS K B H' a z (shS S i b) Pt (some (opn z (shS S i b))) → RD K H' (.tup [pgD (z.ps.getD i ⟨0, 0, 0, 0⟩), .bl (decide (i ∈ S))]) v → Q v H'
theorem ok_lay (T : Tx K mg) : Has P w K mg base 8 (a_Nest_lay K) p_Nest_lay (spLay K) := by
  refine has_of (f_Nest_lay T) (z_Nest_lay T) (b_Nest_lay T) (fun vs H Q E h => by obtain ⟨_, _, _, _, _, _, _, _, _, rfl, _⟩ := h; rfl) (fun cdv A outer s H vs Q E hr h => ?_)
  obtain ⟨B, a, z, S, Pt, ptz, i, b, st, rfl, ns, ok, hi, hSl, hbS, rst, k⟩ := h
  have h_Nest_follow := ok_follow (P := P) (w := w) (base := base) T
  refine ⟨_, (pss_cons (ps_par (i := 4) (j := 5) rfl (z_Nest_lay T).nd rfl rfl (by decide) rfl rfl (pa_cons (fldK K (pv 0)) (pa_cons (pe_ix (ixL K) (fldK K (pv 0)) (pv 1) (fun _ _ => rfl)) pa_nil)) rfl)
  (pss_cons (ps_asg (pe_ix (ixL K) (pv 4) (pv 1) (fun _ _ => rfl)) (tupK K (n := 3) (pgs_cons (pg_name (i := 6) (z_Nest_lay T).nd rfl (Or.inl rfl)) (pgs_cons (pg_name (i := 7) (z_Nest_lay T).nd rfl (Or.inl rfl)) (pgs_cons (pg_name (i := 8) (z_Nest_lay T).nd rfl (Or.inl rfl)) pgs_nil)))))
  (pss_cons (ps_set (i := 9) (z_Nest_lay T).nd rfl (Or.inl rfl) (pe_tup (pa_cons (pe_ix (ixT K) (pv 7) (pv 2) (fun _ _ => rfl)) (pa_cons (pe_cmp (pc_din (hu_of hr) (pv 2) (pv 5))) pa_nil))))
  (pss_cons (ps_asg (pe_tup (pa_cons (pv 6) (pa_cons (pe_op (catT K) (pe_op (catT K) (pe_slice (slT K) (pv 7) po_none (po_some (pv 2))) (pe_tup (pa_cons (pe_ix (ixT K) (pv 3) pe_int (fun _ _ => rfl)) pa_nil))) (pe_slice (slT K) (pv 7) (po_some (pe_op oAddI (pv 2) pe_int)) po_none)) (pa_cons (pv 8) pa_nil)))) (pg_sub (pv 4) (pv 1) set_list))
  (pss_cons (ps_if (pt_val (pe_ix (ixT K) (pv 3) pe_int (fun _ _ => rfl))) (pss_one (ps_asg pe_bl (pg_sub (pv 5) (pv 2) (set_dict (hu_of hr))))) (pss_one (ps_expr (pe_dpop2 (pv 5) (pv 2) pe_non ⟨by rfl, by rfl, by rfl, by rfl⟩))))
  (pss_cons (ps_expr (pmeth h_Nest_follow (c_Nest T) (m_Nest_follow T) (hr.mono (by omega)) passL (pv 0) (pa_cons (pv 1) pa_nil)))
  (pss_one (ps_ret (pv 9))))))))), ?_⟩
  obtain ⟨lp, lf, c, v, pt, px, fx, h1, h2, h3, h4, _⟩ := ns.v
  obtain ⟨t, bb, cc, xs, rfl, ha, hb, rb, lx, hc⟩ := mzS h4
  obtain ⟨sp, s1, s2, rfl, hst, rs1, rs2⟩ := slots2 rst
  obtain rfl := rs2.ofBl
  have o2 := ok.pl
  have hpk : z.ps[i]? = some z.ps[i] := List.getElem?_eq_getElem hi
  have hgD : z.ps.getD i ⟨0, 0, 0, 0⟩ = z.ps[i] := by rw [List.getD_eq_getElem?_getD, hpk]; rfl
  rw [hgD] at rs1 k
  obtain ⟨vp, g1, g2⟩ := rb.get (show (z.ps.map pgD)[i]? = some (pgD z.ps[i]) by rw [List.getElem?_map, hpk]; rfl)
  refine ⟨_, rfl, a.ne, _, a.dxn, _, _, rfl, h1, c_Nest T, n_Nest_mazes T, rfl, _, rfl, a.ne, _, a.dxn, _, _, rfl, h1, c_Nest T, n_Nest_shut_ones T, rfl, _, rfl, a.ls, _, _, _, rfl, rfl, SqL.of ns.ls, rfl, _, _, rfl, ?_⟩
  refine ⟨_, rfl, _, rfl, a.lm, _, _, _, rfl, rfl, SqL.of h3, rfl, t, _, rfl, ha, rfl, _, _, rfl, _, _, rfl, _, _, rfl, rfl, ?_⟩
  refine ⟨_, rfl, _, rfl, bb, _, _, _, rfl, rfl, hb, atI_nat g1, _, rfl, _, rfl, a.D0, _, rfl, .inl ⟨_, .inl (i : Int), .of ns.d0, rfl, rfl⟩, two_sz _ _, fun q hq => ?_⟩
  rw [dk_val]
  have f1 := ex_new hq (o := .tup [vp, .bl (decide (i ∈ S))])
  have rbf : RD K (L2.upd H q (.tup [vp, .bl (decide (i ∈ S))])) (.tup [pgD z.ps[i], .bl (decide (i ∈ S))]) (.ref q) := rd_new hq (.cons g2 (.cons (.bl _) .nil))
  generalize L2.upd H q (.tup [vp, .bl (decide (i ∈ S))]) = H1 at f1 rbf ⊢
  have rps : RD K H (.tup (z.ps.map pgD)) (.ref bb) := .tup hb rb
  refine ⟨_, rfl, _, rfl, _, rfl, _, rfl, ?_⟩
  refine slTo (rps.mono f1.t) i rfl fun u1 H2 e2 r2 => ?_
  refine ⟨_, rfl, sp, _, _, _, rfl, rfl, (f1.trans e2).t.sq hst, rfl, one_sz _, fun p1 hp1 => ?_⟩
  have f3 := ex_new hp1 (o := .tup [s1])
  have r3 : RD K (L2.upd H2 p1 (.tup [s1])) (.tup [pgD z.ps[i]]) (.ref p1) := rd_new hp1 (.cons (rs1.mono (f1.trans e2).t) .nil)
  refine catRD (r2.mono f3.t) r3 (by rw [List.length_take, List.length_map]; show _ + 1 ≤ 1000; omega) fun u4 H4 e4 r4 => ?_
  have e14 := (e2.trans f3).trans e4
  refine ⟨_, rfl, _, rfl, _, _, rfl, rfl, _, rfl, ?_⟩
  dsimp only [tNoPart]
  refine slFrom (jj := (i : Int) + 1) (rps.mono (f1.trans e14).t) (i + 1) (by omega) fun u5 H5 e5 r5 => ?_
  refine catRD (r4.mono e5.t) r5 (by rw [List.length_append, List.length_take, List.length_drop, List.length_map]; show _ + 1 + _ ≤ 1000; omega) fun u6 H6 e6 r6 => ?_
  have e16 := (e14.trans e5).trans e6
  refine ⟨_, rfl, three_sz _ _ _, fun mq hmq => ?_⟩
  have rc : RD K H (.tup (z.ds.map natD)) (.ref cc) := by rw [natD_int]; exact rd_ints _ hc
  have e06 := f1.trans e16
  have r7 := tup3 (d1 := natD z.n) (.int _) r6 (rc.mono e06.t) hmq
  have hps : (z.ps.map pgD).take i ++ [pgD z.ps[i]] ++ (z.ps.map pgD).drop (i + 1) = z.ps.map pgD := by
    rw [List.append_assoc, ← List.map_take, ← List.map_drop]
    show (z.ps.take i).map pgD ++ ([z.ps[i]].map pgD ++ (z.ps.drop (i + 1)).map pgD) = _
    rw [← List.map_append, ← List.map_append]
    congr 1
    show z.ps.take i ++ z.ps[i] :: z.ps.drop (i + 1) = z.ps
    rw [← List.drop_eq_getElem_cons hi, List.take_append_drop]
  rw [hps] at r7
  have e07 := e06.trans (ex_new hmq (o := .tup [.int (z.n : Int), u6, .ref cc]))
  have rbf7 := rbf.mono (e16.trans (ex_new hmq (o := .tup [.int (z.n : Int), u6, .ref cc]))).t
  generalize L2.upd H6 mq (.tup [.int (z.n : Int), u6, .ref cc]) = H7 at r7 e07 rbf7 ⊢
  have ns7 := ns.ex e07
  refine ⟨_, rfl, _, rfl, a.lm, _, _, 0, rfl, rfl, e07 _ _ h3, rfl, ?_⟩
  obtain ⟨t8, ns8⟩ := ns7.put_lm (v' := .ref mq) r7
  have hst8 := t8.sq (e07.t.sq hst)
  have rbf8 := rbf7.mono t8
  have tt8 := e07.t.trans t8
  show (_ : L2.St → Hp → Prop) _ (L2.upd H7 a.lm (.lst [.ref mq]))
  generalize L2.upd H7 a.lm (.lst [.ref mq]) = H8 at tt8 ns8 hst8 rbf8 ⊢
  refine ⟨_, rfl, sp, _, _, _, rfl, rfl, hst8, rfl, b, rfl, ?_⟩
  cases b with
  | true =>
    have hn := hbS rfl
    refine iteT ⟨_, rfl, _, rfl, a.D0, _, rfl, .inl ⟨_, .inl (i : Int), ns8.d0, rfl, ?_, rfl⟩, ?_⟩
    · unfold dk; rw [List.length_map]; exact sz6 (by omega)
    rw [dk_put hn]
    obtain ⟨t9, ns9⟩ := ns8.put_d0 (S ++ [i])
    obtain ⟨lp, lf, c, v, pt, px, fx, h1, _⟩ := ns9.v
    exact ⟨_, rfl, a.ne, a.dxn, _, rfl, h1, rfl, _, rfl, B, a, z, _, Pt, ptz, rfl, ns9, ok, fun H' t' ns' => ⟨_, rfl, k _ _ ((tt8.trans t9).trans t') ns' (rbf8.mono (t9.trans t'))⟩⟩
  | false =>
    refine iteF ⟨_, rfl, a.D0, rfl, .inl ⟨_, .of ns8.d0⟩, _, rfl, _, .inl (i : Int), ns8.d0, rfl, fun v hv => ?_, fun hv => ?_⟩
    · rw [dk_drop]
      obtain ⟨t9, ns9⟩ := ns8.put_d0 (S.filter fun x => decide (x ≠ i))
      obtain ⟨lp, lf, c, v, pt, px, fx, h1, _⟩ := ns9.v
      exact ⟨_, rfl, a.ne, a.dxn, _, rfl, h1, rfl, _, rfl, B, a, z, _, Pt, ptz, rfl, ns9, ok, fun H' t' ns' => ⟨_, rfl, k _ _ ((tt8.trans t9).trans t') ns' (rbf8.mono (t9.trans t'))⟩⟩
    · have hno : i ∉ S := fun zz => by
        have := dk_val S i
        rw [hv, decide_eq_true zz] at this
        cases this
      have hfl : S.filter (fun x => decide (x ≠ i)) = S := List.filter_eq_self.mpr fun x hx => decide_eq_true fun zz => hno (zz ▸ hx)
      have hsh : shS S i false = S := hfl
      rw [hsh] at k
      obtain ⟨lp, lf, c, v, pt, px, fx, h1, _⟩ := ns8.v
      exact ⟨_, rfl, a.ne, a.dxn, _, rfl, h1, rfl, _, rfl, B, a, z, _, Pt, ptz, rfl, ns8, ok, fun H' t' ns' => ⟨_, rfl, k _ _ (tt8.trans t') ns' (rbf8.mono t')⟩⟩
end
end K09
/-! Changes and their undoing. -/
namespace K09
open PySem PySem.Spec
open PyProof.Rows L2 Sl Pm
section
variable {P : Program} {w : World} {K : PySem.W.Frag} {mg : Str → Option Value} {base : Heap} {H H0 H1 H2 B : Hp} {E : XK} {Q : VK} {m n e : Nat} {σ : L2.St}
theorem upd3 {x l : Addr} {o1 o o2 : HO} {H : Hp} (h : upd H x o1 l = none) : upd (upd (upd H x o1) l o) x o2 = upd (upd H l o) x o2 ∧ H l = none ∧ l ≠ x := by
  have n : l ≠ x := fun z => by rw [z, upd_same] at h; cases h
  refine ⟨funext fun y => ?_, by rw [upd_ne n] at h; exact h, n⟩
  by_cases e : y = x
  · rw [e, upd_same, upd_same]
  · rw [upd_ne e, upd_ne e]
    by_cases e2 : y = l
    · rw [e2, upd_same, upd_same]
    · rw [upd_ne e2, upd_ne e2, upd_ne e]
def spChange (K : PySem.W.Frag) : Sp := fun vs H Q _ => ∃ (B : Hp) (a : NA) (z : Mz) (S Pt : List Nat) (ptz : Option Mz) (i : Nat) (st : V), vs = [.ref a.ne, .int 0, .int (i : Int), st] ∧ NS K B H a z S Pt ptz ∧ MzOk z ∧ i < z.ps.length ∧ S.length ≤ 200 ∧ Pt.length ≤ 200 ∧ i ∉ S ∧ RD K H (.tup [pgD (z.ps.getD i ⟨0, 0, 0, 0⟩), .bl true]) st ∧
  ∀ H', TEx H H' → NS K B H' a z (S ++ [i]) (Pt ++ [i]) (some (opn z (S ++ [i]))) → Q .non H'
theorem ok_change (T : Tx K mg) : Has P w K mg base 9 (a_Nest_change K) p_Nest_change (spChange K) := by
  refine has_of (f_Nest_change T) (z_Nest_change T) (b_Nest_change T) (fun vs H Q E h => by obtain ⟨_, _, _, _, _, _, _, _, rfl, _⟩ := h; rfl) (fun cdv A outer s H vs Q E hr h => ?_)
  obtain ⟨B, a, z, S, Pt, ptz, i, st, rfl, ns, ok, hi, hSl, hPl, hn, rst, k⟩ := h
  have h_Nest_lay := ok_lay (P := P) (w := w) (base := base) T
  refine ⟨_, (pss_cons (ps_set (i := 4) (z_Nest_change T).nd rfl (Or.inl rfl) (pmeth h_Nest_lay (c_Nest T) (m_Nest_lay T) (hr.mono (by omega)) passL (pv 0) (pa_cons (pv 1) (pa_cons (pv 2) (pa_cons (pv 3) pa_nil)))))
  (pss_cons (ps_fld (pv 0) (pe_op op_cat (fldK K (pv 0)) (pe_lst (pa_cons (pe_tup (pa_cons (pv 1) (pa_cons (pv 2) (pa_cons (pv 4) (pa_cons (pv 3) pa_nil))))) pa_nil))) rfl)
  (pss_one (ps_fld (pv 0) (pe_lst pa_nil) rfl)))), ?_⟩
  obtain ⟨lp, lf, c, v, pt, px, fx, h1, _⟩ := ns.v
  refine ⟨_, rfl, a.ne, a.dxn, _, rfl, h1, rfl, _, rfl, _, rfl, _, rfl, B, a, z, S, Pt, ptz, i, true, st, rfl, ns, ok, hi, by omega, fun _ => hn, rst, fun bf H1 t1 ns1 rbf => ?_⟩
  rw [decide_eq_false hn] at rbf
  have ns1 : NS K B H1 a z (S ++ [i]) Pt (some (opn z (S ++ [i]))) := ns1
  obtain ⟨lp, lf, c, v, pt, px, fx, h1, h2, h3, h4, h5, h6, h7, h8, h9, h10, h11, h12, _⟩ := ns1.v
  have hpx : px.length = Pt.length := by rw [h6.len, List.length_map]
  refine ⟨_, rfl, a.ne, _, a.dxn, _, _, rfl, h1, c_Nest T, n_Nest_pasts T, rfl, _, rfl, _, rfl, _, rfl, _, rfl, four_sz _ _ _ _, fun tq htq => ⟨one_sz _, fun lq hlq => ?_⟩⟩
  have f2 := ex_new htq (o := .tup [.int 0, .int (i : Int), bf, st])
  have f3 := f2.trans (ex_new hlq (o := .lst [.ref tq]))
  have rt : RD K (upd H1 tq (.tup [.int 0, .int (i : Int), bf, st])) (pastD z i) (.ref tq) := rd_new htq (.cons (.int 0) (.cons (.int _) (.cons rbf (.cons (rst.mono t1) .nil))))
  refine ⟨lp, lq, px, [.ref tq], rfl, rfl, f3 _ _ h5, upd_same, Nat.le_trans (show px.length + 1 ≤ 1000 by omega) (by decide), fun np hnp => ?_⟩
  have f4 := f3.trans (ex_new hnp (o := .lst (px ++ [.ref tq])))
  have r4 : RDs K (upd (upd (upd H1 tq (.tup [.int 0, .int (i : Int), bf, st])) lq (.lst [.ref tq])) np (.lst (px ++ [.ref tq]))) ((Pt ++ [i]).map (pastD z)) (px ++ [.ref tq]) := by
    rw [List.map_append]
    exact (h6.mono f4.t).append (.cons (rt.mono ((ex_new hlq (o := .lst [.ref tq])).trans (ex_new hnp (o := .lst (px ++ [.ref tq])))).t) .nil)
  have hnb : B np = none := back (ns1.ex0.trans f3) hnp
  have hnp1 : a.lm ≠ np := ne_of_none (f3 _ _ h3) hnp
  have hnpl : upd (upd (upd H1 tq (.tup [.int 0, .int (i : Int), bf, st])) lq (.lst [.ref tq])) np (.lst (px ++ [.ref tq])) np = some (.lst (px ++ [.ref tq])) := upd_same
  generalize upd (upd (upd H1 tq (.tup [.int 0, .int (i : Int), bf, st])) lq (.lst [.ref tq])) np (.lst (px ++ [.ref tq])) = H4 at f4 r4 hnpl ⊢
  refine ⟨_, rfl, a.ne, cE K, a.dxn, _, rfl, f4 _ _ h1, c_Nest T, n_Nest_pasts T, by show 9 < 1000; decide, ?_⟩
  rw [show putF "pasts" (.ref np) (nf a lp lf c) = nf a np lf c from rfl]
  refine ⟨by show 0 ≤ sizeLine; decide, fun fl hfl => ?_⟩
  obtain ⟨u1, u2, u3⟩ := upd3 hfl (o := .lst []) (o2 := .ins (cE K) a.dxn (nf a np fl c))
  refine ⟨_, rfl, a.ne, cE K, a.dxn, _, rfl, by rw [upd_ne u3.symm]; exact upd_same, c_Nest T, n_Nest_futures T, by show 9 < 1000; decide, ?_⟩
  rw [show putF "futures" (.ref fl) (nf a np lf c) = nf a np fl c from rfl, u1]
  have f5 := ex_new u2 (o := .lst [])
  have f6 := f4.trans f5
  obtain ⟨t7, ns7⟩ := (ns1.ex f6).put_ne (lp := np) (lf := fl) (c := c) (fx := []) (f5 _ _ hnpl) (r4.mono f5.t) upd_same (by rw [List.length_append]; show 0 + (Pt.length + 1) ≤ 1000; omega) hnp1 (ne_of_none (f4 _ _ h3) u2) hnb (back (ns1.ex0.trans f4) u2)
  exact k _ ((t1.trans f6.t).trans t7) ns7
def spShut (K : PySem.W.Frag) : Sp := fun vs H Q _ => ∃ (B : Hp) (a : NA) (z : Mz) (S Pt : List Nat) (ptz : Option Mz) (i : Nat), vs = [.ref a.ne, .int 0, .int (i : Int)] ∧ NS K B H a z S Pt ptz ∧ MzOk z ∧ i < z.ps.length ∧ S.length ≤ 200 ∧ Pt.length ≤ 200 ∧ i ∉ S ∧
  ∀ H', TEx H H' → NS K B H' a z (S ++ [i]) (Pt ++ [i]) (some (opn z (S ++ [i]))) → Q .non H'
theorem ok_shut (T : Tx K mg) : Has P w K mg base 10 (a_Nest_shut K) p_Nest_shut (spShut K) := by
  refine has_of (f_Nest_shut T) (z_Nest_shut T) (b_Nest_shut T) (fun vs H Q E h => by obtain ⟨_, _, _, _, _, _, _, rfl, _⟩ := h; rfl) (fun cdv A outer s H vs Q E hr h => ?_)
  obtain ⟨B, a, z, S, Pt, ptz, i, rfl, ns, ok, hi, hSl, hPl, hn, k⟩ := h
  have h_Nest_need_place := ok_needPlace (P := P) (w := w) (base := base) T
  have h_Nest_change := ok_change (P := P) (w := w) (base := base) T
  refine ⟨_, (pss_cons (ps_expr (pmeth h_Nest_need_place (c_Nest T) (m_Nest_need_place T) (hr.mono (by omega)) passL (pv 0) (pa_cons (pv 1) (pa_cons (pv 2) pa_nil))))
  (pss_one (ps_expr (pmeth h_Nest_change (c_Nest T) (m_Nest_change T) (hr.mono (by omega)) passL (pv 0) (pa_cons (pv 1) (pa_cons (pv 2) (pa_cons (pe_tup (pa_cons (pe_ix (ixT K) (pe_ix (ixT K) (pe_ix (ixL K) (fldK K (pv 0)) (pv 1) (fun _ _ => rfl)) pe_int (fun _ _ => rfl)) (pv 2) (fun _ _ => rfl)) (pa_cons pe_bl pa_nil))) pa_nil))))))), ?_⟩
  obtain ⟨lp, lf, c, v, pt, px, fx, h1, h2, h3, h4, _⟩ := ns.v
  refine ⟨_, rfl, a.ne, a.dxn, _, rfl, h1, rfl, _, rfl, _, rfl, B, a, z, S, Pt, ptz, i, rfl, ns, hi, ?_⟩
  obtain ⟨t, bb, cc, xs, rfl, ha, hb, rb, lx, hc⟩ := mzS h4
  have hpk : z.ps[i]? = some z.ps[i] := List.getElem?_eq_getElem hi
  have hgD : z.ps.getD i ⟨0, 0, 0, 0⟩ = z.ps[i] := by rw [List.getD_eq_getElem?_getD, hpk]; rfl
  obtain ⟨vp, g1, g2⟩ := rb.get (show (z.ps.map pgD)[i]? = some (pgD z.ps[i]) by rw [List.getElem?_map, hpk]; rfl)
  refine ⟨_, rfl, a.ne, a.dxn, _, rfl, h1, rfl, _, rfl, _, rfl, _, rfl, a.ne, _, a.dxn, _, _, rfl, h1, c_Nest T, n_Nest_mazes T, rfl, _, rfl, a.lm, _, _, _, rfl, rfl, SqL.of h3, rfl, t, _, _, _, rfl, rfl, ha, rfl, _, rfl, bb, _, _, _, rfl, rfl, hb, atI_nat g1, two_sz _ _, fun q hq => ?_⟩
  have f1 := ex_new hq (o := .tup [vp, .bl true])
  refine ⟨B, a, z, S, Pt, ptz, i, _, rfl, ns.ex f1, ok, hi, hSl, hPl, hn, ?_, fun H' t' ns' => k _ (f1.t.trans t') ns'⟩
  rw [hgD]
  exact rd_new hq (.cons g2 (.cons (.bl true) .nil))
theorem cut1 (xs : List V) (v : V) : cutV (xs ++ [v]) none (some (-1)) = xs := by
  have h : HT.sIx (xs ++ [v]).length (xs ++ [v]).length (some (-1)) = xs.length := by
    unfold HT.sIx
    rw [List.length_append]
    simp
    omega
  unfold cutV
  rw [h, HT.sIx_none]
  simp
def spUndo (K : PySem.W.Frag) : Sp := fun vs H Q _ => ∃ (B : Hp) (a : NA) (z : Mz) (S Pt : List Nat) (ptz : Option Mz), vs = [.ref a.ne] ∧ NS K B H a z S Pt ptz ∧ MzOk z ∧ S.length ≤ 200 ∧ (∀ i ∈ Pt, i < z.ps.length) ∧
  (Pt = [] → Q (.bl false) H) ∧ (∀ Pt0 i H', Pt = Pt0 ++ [i] → TEx H H' → NS K B H' a z (shS S i false) Pt0 (some (opn z (shS S i false))) → Q (.bl true) H')
theorem ok_undo (T : Tx K mg) : Has P w K mg base 9 (a_Nest_undo K) p_Nest_undo (spUndo K) := by
  refine has_of (f_Nest_undo T) (z_Nest_undo T) (b_Nest_undo T) (fun vs H Q E h => by obtain ⟨_, _, _, _, _, _, rfl, _⟩ := h; rfl) (fun cdv A outer s H vs Q E hr h => ?_)
  obtain ⟨B, a, z, S, Pt, ptz, rfl, ns, ok, hSl, hPi, k1, k2⟩ := h
  have h_Nest_lay := ok_lay (P := P) (w := w) (base := base) T
  refine ⟨_, (pss_cons (ps_if (pt_not (truK K (fldK K (pv 0)))) (pss_one (ps_ret pe_bl)) pss_nil)
  (pss_cons (ps_asg (pe_ix (ixL K) (fldK K (pv 0)) (pe_un un_neg pe_int) (fun _ _ => rfl)) (tupK K (n := 4) (pgs_cons (pg_name (i := 1) (z_Nest_undo T).nd rfl (Or.inl rfl)) (pgs_cons (pg_name (i := 2) (z_Nest_undo T).nd rfl (Or.inl rfl)) (pgs_cons (pg_name (i := 3) (z_Nest_undo T).nd rfl (Or.inl rfl)) (pgs_cons (pg_name (i := 4) (z_Nest_undo T).nd rfl (Or.inl rfl)) pgs_nil))))))
  (pss_cons (ps_expr (pmeth h_Nest_lay (c_Nest T) (m_Nest_lay T) (hr.mono (by omega)) passL (pv 0) (pa_cons (pv 1) (pa_cons (pv 2) (pa_cons (pv 3) pa_nil)))))
  (pss_cons (ps_fld (pv 0) (pe_op op_cat (fldK K (pv 0)) (pe_lst (pa_cons (pe_ix (ixL K) (fldK K (pv 0)) (pe_un un_neg pe_int) (fun _ _ => rfl)) pa_nil))) rfl)
  (pss_cons (ps_fld (pv 0) (pe_slice (slL K) (fldK K (pv 0)) po_none (po_some (pe_un un_neg pe_int))) rfl)
  (pss_one (ps_ret pe_bl))))))), ?_⟩
  obtain ⟨lp, lf, c, v, pt, px, fx, h1, h2, h3, h4, h5, h6, h7, h8, h9, h10, h11, h12, _⟩ := ns.v
  refine ⟨_, rfl, a.ne, _, a.dxn, _, _, rfl, h1, c_Nest T, n_Nest_pasts T, rfl, !px.isEmpty, .inl ⟨_, SqL.of h5, rfl⟩, ?_⟩
  have hpx : px.length = Pt.length := by rw [h6.len, List.length_map]
  by_cases hP : Pt = []
  · have : px = [] := List.length_eq_zero_iff.mp (by rw [hpx, hP]; rfl)
    exact iteT' (by rw [this]; rfl) (k1 hP)
  · obtain ⟨Pt0, i, rfl⟩ : ∃ P0 i, Pt = P0 ++ [i] := ⟨Pt.dropLast, Pt.getLast hP, (List.dropLast_concat_getLast hP).symm⟩
    obtain ⟨px0, tv, rfl⟩ : ∃ p0 t, px = p0 ++ [t] := by
      have : px ≠ [] := fun zz => by rw [zz, List.length_append] at hpx; simp at hpx
      exact ⟨px.dropLast, px.getLast this, (List.dropLast_concat_getLast this).symm⟩
    have hi := hPi i (by simp)
    have hl0 : px0.length = Pt0.length := by rw [List.length_append, List.length_append] at hpx; simpa using hpx
    obtain ⟨vt, g1, g2⟩ := h6.get (i := Pt0.length) (d := pastD z i) (by rw [List.map_append, List.getElem?_append_right (by rw [List.length_map]; exact Nat.le_refl _)]; simp)
    rw [List.getElem?_append_right (by omega), hl0, Nat.sub_self] at g1
    cases g1
    have r0 : RDs K H (Pt0.map (pastD z)) px0 := by
      have := h6.take Pt0.length
      rw [List.map_append, List.take_append_of_le_length (by rw [List.length_map]; exact Nat.le_refl _), List.take_append_of_le_length (by omega), List.take_of_length_le (by rw [List.length_map]; exact Nat.le_refl _), List.take_of_length_le (by omega)] at this
      exact this
    obtain ⟨ta, y1, y2, y3, y4, rfl, hta, s1, s2, s3, s4⟩ := slots4 g2
    obtain rfl := s1.ofInt
    obtain rfl := s2.ofInt
    refine iteF' (by simp) ?_
    refine ⟨_, rfl, a.ne, _, a.dxn, _, _, rfl, h1, c_Nest T, n_Nest_pasts T, rfl, _, rfl, lp, _, _, _, rfl, rfl, SqL.of h5, atI_last _ _, ta, _, rfl, hta, rfl, _, _, rfl, _, _, rfl, _, _, rfl, _, _, rfl, rfl, ?_⟩
    refine ⟨_, rfl, a.ne, a.dxn, _, rfl, h1, rfl, _, rfl, _, rfl, _, rfl, B, a, z, S, _, ptz, i, false, y3, rfl, ns, ok, hi, by omega, fun zz => (by cases zz), s3, fun bf H1 t1 ns1 _ => ?_⟩
    obtain ⟨lp, lf, c, v, pt, px, fx, h1, h2, h3, h4, h5, h6, h7, h8, h9, h10, h11, h12, _⟩ := ns1.v
    have hpx : px.length = (Pt0 ++ [i]).length := by rw [h6.len, List.length_map]
    obtain ⟨px0, tv, rfl⟩ : ∃ p0 t, px = p0 ++ [t] := by
      have : px ≠ [] := fun zz => by rw [zz, List.length_append] at hpx; simp at hpx
      exact ⟨px.dropLast, px.getLast this, (List.dropLast_concat_getLast this).symm⟩
    have hl0 : px0.length = Pt0.length := by rw [List.length_append, List.length_append] at hpx; simpa using hpx
    have r0 : RDs K H1 (Pt0.map (pastD z)) px0 := by
      have := h6.take Pt0.length
      rw [List.map_append, List.take_append_of_le_length (by rw [List.length_map]; exact Nat.le_refl _), List.take_append_of_le_length (by omega), List.take_of_length_le (by rw [List.length_map]; exact Nat.le_refl _), List.take_of_length_le (by omega)] at this
      exact this
    rw [List.length_append] at h8
    refine ⟨_, rfl, a.ne, _, a.dxn, _, _, rfl, h1, c_Nest T, n_Nest_futures T, rfl, _, rfl, a.ne, _, a.dxn, _, _, rfl, h1, c_Nest T, n_Nest_pasts T, rfl, _, rfl, lp, _, _, _, rfl, rfl, SqL.of h5, atI_last _ _, one_sz _, fun lq hlq => ?_⟩
    have f2 := ex_new hlq (o := .lst [tv])
    refine ⟨lf, lq, fx, [tv], rfl, rfl, f2 _ _ h7, upd_same, Nat.le_trans (show fx.length + 1 ≤ 1001 by omega) (by decide), fun nfl hnfl => ?_⟩
    have f3 := f2.trans (ex_new hnfl (o := .lst (fx ++ [tv])))
    have hnb : B nfl = none := back (ns1.ex0.trans f2) hnfl
    have hn1 : a.lm ≠ nfl := ne_of_none (f2 _ _ h3) hnfl
    have hnl : upd (upd H1 lq (.lst [tv])) nfl (.lst (fx ++ [tv])) nfl = some (.lst (fx ++ [tv])) := upd_same
    generalize upd (upd H1 lq (.lst [tv])) nfl (.lst (fx ++ [tv])) = H3 at f3 hnl ⊢
    refine ⟨_, rfl, a.ne, cE K, a.dxn, _, rfl, f3 _ _ h1, c_Nest T, n_Nest_futures T, by show 9 < 1000; decide, ?_⟩
    rw [show putF "futures" (.ref nfl) (nf a lp lf c) = nf a lp nfl c from rfl]
    have hlpne : lp ≠ a.ne := ne_of h5 h1 (by intro zz; cases zz)
    refine ⟨_, rfl, a.ne, _, a.dxn, _, _, rfl, upd_same, c_Nest T, n_Nest_pasts T, rfl, ⟨_, rfl, _, rfl, ?_⟩⟩
    refine ⟨lp, _, rfl, SqL.of (by rw [upd_ne hlpne]; exact f3 _ _ h5), fun np hnp => ?_⟩
    rw [cut1]
    obtain ⟨u1, u2, u3⟩ := upd3 hnp (o := .lst px0) (o2 := .ins (cE K) a.dxn (nf a np nfl c))
    refine ⟨_, rfl, a.ne, cE K, a.dxn, _, rfl, by rw [upd_ne u3.symm]; exact upd_same, c_Nest T, n_Nest_pasts T, by show 9 < 1000; decide, ?_⟩
    rw [show putF "pasts" (.ref np) (nf a lp nfl c) = nf a np nfl c from rfl, u1]
    have f5 := ex_new u2 (o := .lst px0)
    have f6 := f3.trans f5
    obtain ⟨t7, ns7⟩ := (ns1.ex f6).put_ne (lp := np) (lf := nfl) (c := c) (px := px0) (fx := fx ++ [tv]) (Pt' := Pt0) upd_same (r0.mono f6.t) (f5 _ _ hnl) (by rw [List.length_append]; simp only [List.length_cons, List.length_nil] at h8 ⊢; omega) (ne_of_none (f3 _ _ h3) u2) hn1 (back (ns1.ex0.trans f3) u2) hnb
    exact k2 Pt0 i _ rfl ((t1.trans f6.t).trans t7) ns7
end
end K09
/-! A nest of one leaf is made. -/
namespace K09
open PySem PySem.Spec
open PyProof.Rows L2 Sl Pm
open Ps
section
variable {P : Program} {w : World} {K : PySem.W.Frag} {mg : Str → Option Value} {base : Heap} {H H0 H1 H2 B : Hp} {E : XK} {Q : VK} {m n e : Nat} {σ : L2.St}
def spDoorsAt (K : PySem.W.Frag) : Sp := fun vs H Q _ => ∃ (nd dxd num bel cnt : Addr) (ab pt : V) (n : Int), vs = [.ref nd, .ref cnt] ∧ H nd = some (.ins (cN K) dxd (ndF "maze" num bel ab pt)) ∧ H num = some (.lst [.int 0]) ∧ SqT K H cnt [.int n] ∧ Q (.int n) H
theorem ok_doorsAt (T : Tx K mg) : Has P w K mg base 2 (a_doors_at K) p_doors_at (spDoorsAt K) := by
  refine has_of (f_doors_at T) (z_doors_at T) (b_doors_at T) (fun vs H Q E h => by obtain ⟨_, _, _, _, _, _, _, _, rfl, _⟩ := h; rfl) (fun cdv A outer s H vs Q E hr h => ?_)
  obtain ⟨nd, dxd, num, bel, cnt, ab, pt, n, rfl, hnd, hnum, hc, k⟩ := h
  have h_doors_at := never (P := P) (w := w) (base := base) (mg := mg) (k := 0) (f_doors_at T) (z_doors_at T) (b_doors_at T)
  refine ⟨_, (pss_cons (ps_if (pt_cmpR op_eq (fldK K (pv 0)) pe_str (nomark _)) (pss_one (ps_ret (pe_ifExp (pt_cmpR oLtI (pe_ix (ixL K) (fldK K (pv 0)) pe_int (fun _ _ => rfl)) (pe_callB (lenK K) (by rfl) (l_len T) (by decide +kernel) (pa_cons (pv 1) pa_nil)) (nomark _)) (pe_ix (ixT K) (pv 1) (pe_ix (ixL K) (fldK K (pv 0)) pe_int (fun _ _ => rfl)) (fun _ _ => rfl)) pe_non))) pss_nil)
  (pss_cons (ps_setLc (i := 2) (own := [("own", 3)]) rfl (z_doors_at T).nd rfl rfl (sw_true rfl rfl rfl (by decide +kernel)) (listW K (fldK K (pv 0))) (blkOk_by (N := n_doors_at) (sc := defScope s_doors_at) (by decide +kernel)) (fun _ _ _ _ _ => by exact (pg_name (i := 3) (z_doors_at T).nd rfl (Or.inl rfl))) (fun _ _ _ _ _ => by exact pts_nil) (fun _ _ _ _ _ => by exact (pcall h_doors_at (hr.mono (by omega)) (g_doors_at T) (pa_cons (pv 3) (pa_cons (pv 1) pa_nil)))))
  (pss_cons (ps_if (pt_cmpR (inK K) pe_non (pv 2) rfl) (pss_one (ps_ret pe_non)) pss_nil)
  (pss_cons (ps_set (i := 4) (z_doors_at T).nd rfl (Or.inl rfl) (pe_callB (cr_sum rfl) (by rfl) (l_sum T) (by decide +kernel) (pa_cons (pv 2) pa_nil)))
  (pss_cons (ps_if (pt_cmpR op_eq (fldK K (pv 0)) pe_str (nomark _)) (pss_cons (ps_if (pt_cmpR oGtI (pe_ix (ixL K) (fldK K (pv 0)) pe_int (fun _ _ => rfl)) (pe_callB (cr_min rfl) (by rfl) (l_min T) (by decide +kernel) (pa_cons (pv 2) pa_nil)) (nomark _)) (pss_one (ps_ret pe_non)) pss_nil)
  (pss_one (ps_aug (i := 4) (z_doors_at T).nd rfl (Or.inl rfl) (pe_op oMulI pe_int (pe_ix (ixL K) (fldK K (pv 0)) pe_int (fun _ _ => rfl))) ip_sub))) (pss_one (ps_if (pt_cmpR op_ne (fldK K (pv 0)) pe_str (nomark _)) (pss_cons (ps_if (pt_cmpR oGeI (pe_callB (cr_max rfl) (by rfl) (l_max T) (by decide +kernel) (pa_cons (fldK K (pv 0)) pa_nil)) (pe_ix (ixL K) (pv 2) pe_int (fun _ _ => rfl)) (nomark _)) (pss_one (ps_ret pe_non)) pss_nil)
  (pss_one (ps_aug (i := 4) (z_doors_at T).nd rfl (Or.inl rfl) (pe_ifExp (pt_cmpR op_eq (fldK K (pv 0)) pe_str (nomark _)) pe_int pe_int) ip_sub))) pss_nil)))
  (pss_one (ps_ret (pe_ifExp (pt_cmpR oLeI (pv 4) (pgi (i_MOST_DOORS T)) (nomark _)) (pv 4) pe_non)))))))), ?_⟩
  refine ⟨_, rfl, nd, _, dxd, _, _, rfl, hnd, c_Node T, n_Node_word T, rfl, rfl, _, rfl, iteT' (by decide +kernel) ?_⟩
  refine ⟨_, rfl, nd, _, dxd, _, _, rfl, hnd, c_Node T, n_Node_numbers T, rfl, num, _, _, _, rfl, rfl, SqL.of hnum, rfl, _, rfl, cnt, _, rfl, .inr hc, _, _, rfl, rfl, _, rfl, iteT' (by simp) ?_⟩
  exact ⟨_, rfl, _, rfl, nd, _, dxd, _, _, rfl, hnd, c_Node T, n_Node_numbers T, rfl, num, _, _, _, rfl, rfl, SqL.of hnum, rfl, cnt, _, _, _, rfl, rfl, hc, rfl, k⟩
theorem s97 : signsOf [97] = [(97, 0)] := by decide
theorem b97 : badSg [(97, 0)] = none := by decide
theorem c970 : cAt [(97, 0)] 0 = some 97 := by decide
theorem c971 : cAt [(97, 0)] 1 = none := by decide
theorem n97 : nestP [(97, 0)] 1 8 0 0 = some (.ok (.tup [.str "maze", .str ⟨#[97]⟩]) 1) := by
  simp [nestP, itemP, atomP, groundP, nestL, itemL, atomL, c970, c971, isLt]
theorem tree97 : treeOf [97] = .ok leafD := by
  unfold treeOf
  rw [s97, b97]
  show (match nestP [(97, 0)] 1 8 0 0 with
    | some (.bad pl m) => (.error (pl, m) : Except (Nat × Str) D)
    | some (.ok d j) => if cAt [(97, 0)] j = none then .ok d else .error (pAt [(97, 0)] 1 j, "expected the end")
    | none => .error (0, "")) = _
  rw [n97]
  show (if cAt [(97, 0)] 1 = none then (.ok (.tup [.str "maze", .str ⟨#[97]⟩]) : Except (Nat × Str) D) else _) = _
  rw [if_pos c971]
  rfl
theorem flaw97 : flOf [97] = none := by
  unfold flOf
  rw [tree97]
def spNestInit (K : PySem.W.Frag) : Sp := fun vs H Q _ => ∃ (B : Hp) (p dx : Addr) (z : Mz) (u : V), vs = [.ref p, .str "a", u, .str "can", .int 0] ∧ H p = some (.ins (cE K) dx []) ∧ B p = none ∧ (∀ b o, b ≠ p → B b = some o → H b = some o) ∧ RD K H (.tup [mzD z]) u ∧ MzOk z ∧
  ∀ a H', a.ne = p → NS K B H' a z [] [] (some z) → Q .non H'
theorem one_d {z : Mz} {v : V} (h : RD K H (.tup [mzD z]) v) : ∃ a x, v = .ref a ∧ SqT K H a [x] ∧ RD K H (mzD z) x := by
  obtain ⟨p, xs, rfl, hp, r⟩ := h.ofTup
  obtain ⟨x, w, rfl, r1, r⟩ := r.ofCons
  obtain rfl := r.ofNil
  exact ⟨p, x, rfl, hp, r1⟩
theorem lp_one {α : Type} {VP : Hp → α → V → Prop} {x : α} {xs : List V} (h : LP VP H [x] xs) : ∃ v, xs = [v] ∧ VP H x v := by
  obtain ⟨v, h1, h2⟩ := h.2 0 x rfl
  match xs, h.1, h1 with
  | [y], _, h1 => cases h1; exact ⟨v, rfl, h2⟩
theorem q0 {q : Nat} {v : V} (h : q < [v].length) : q = 0 := by simp at h; exact h
theorem ok_nestInit (T : Tx K mg) : Has P w K mg base 94 (a_Nest_init K) p_Nest_init (spNestInit K) := by
  refine has_of (f_Nest_init T) (z_Nest_init T) (b_Nest_init T) (fun vs H Q E h => by obtain ⟨_, _, _, _, _, rfl, _⟩ := h; rfl) (fun cdv A outer s H vs Q E hr h => ?_)
  obtain ⟨B, p, dx, z, u, rfl, hp, hBp, hB, ru, ok, k⟩ := h
  have h_need := ok_need (P := P) (w := w) (base := base) T
  have h_is_text := ok_isText (P := P) (w := w) (base := base) T
  have h_flaw := ok_flaw (P := P) (w := w) (base := base) T
  have h_is_maze := ok_isMaze (P := P) (w := w) (base := base) T
  have h_nodes_of := ok_nodes (P := P) (w := w) (base := base) T
  have h_tree_of := ok_treeOf (P := P) (w := w) (base := base) T
  have h_doors_at := ok_doorsAt (P := P) (w := w) (base := base) T
  have h_need_kind := ok_needKind (P := P) (w := w) (base := base) T
  have h_Nest_reckon := ok_reckon (P := P) (w := w) (base := base) T
  refine ⟨_, (pss_cons (ps_expr (pcall h_need (hr.mono (by omega)) (g_need T) (pa_cons (pe_and (pcall h_is_text (hr.mono (by omega)) (g_is_text T) (pa_cons (pv 1) pa_nil)) (pe_one (pe_cmpR oIsNo (pcall h_flaw (hr.mono (by omega)) (g_flaw T) (pa_cons (pv 1) pa_nil)) pe_non (nomark _)))) (pa_cons pe_str pa_nil))))
  (pss_cons (ps_expr (pcall h_need (hr.mono (by omega)) (g_need T) (pa_cons (pe_and (pe_callB (isiK K) (by rfl) (l_isinstance T) (by decide +kernel) (pa_cons (pv 2) (pa_cons (pe_bltn (v := .ty "tuple") (u := .type "tuple") rfl (l_tuple T) (by decide +kernel) rfl) pa_nil))) (pe_and (pe_cmpR oLeI (pe_callB (lenK K) (by rfl) (l_len T) (by decide +kernel) (pa_cons (pv 2) pa_nil)) (pe_callB call_len_str (by rfl) (l_len T) (by decide +kernel) (pa_cons (pgs (i_LETTERS T)) pa_nil)) (nomark _)) (pe_one (pe_callB (cr_all rfl) (by rfl) (l_all T) (by decide +kernel) (pa_cons (pe_lc (own := [("own", 5)]) rfl (z_Nest_init T).nd (tupW K (pv 2)) (blkOk_by (N := n_Nest_init) (sc := defScope s_Nest_init) (by decide +kernel)) (fun _ _ _ _ _ => by exact (pg_name (i := 5) (z_Nest_init T).nd rfl (Or.inl rfl))) (fun _ _ _ _ _ => by exact pts_nil) (fun _ _ _ _ _ => by exact (pcall h_is_maze (hr.mono (by omega)) (g_is_maze T) (pa_cons (pv 5) pa_nil)))) pa_nil))))) (pa_cons pe_str pa_nil))))
  (pss_cons (ps_fld (pv 0) (pcall h_nodes_of (hr.mono (by omega)) (g_nodes_of T) (pa_cons (pcall h_tree_of (hr.mono (by omega)) (g_tree_of T) (pa_cons (pv 1) pa_nil)) pa_nil)) rfl)
  (pss_cons (ps_expr (pcall h_need (hr.mono (by omega)) (g_need T) (pa_cons (pe_cmpR oNoNo (pcall h_doors_at (hr.mono (by omega)) (g_doors_at T) (pa_cons (pe_ix (ixL K) (fldK K (pv 0)) (pe_un un_neg pe_int) (fun _ _ => rfl)) (pa_cons (pe_callTy (tupleK K) (by rfl) (l_tuple T) (by decide +kernel) (pa_cons (pe_lc (own := [("own", 5)]) rfl (z_Nest_init T).nd (tupW K (pv 2)) (blkOk_by (N := n_Nest_init) (sc := defScope s_Nest_init) (by decide +kernel)) (fun _ _ _ _ _ => by exact (pg_name (i := 5) (z_Nest_init T).nd rfl (Or.inl rfl))) (fun _ _ _ _ _ => by exact pts_nil) (fun _ _ _ _ _ => by exact (pe_callB (lenK K) (by rfl) (l_len T) (by decide +kernel) (pa_cons (pe_ix (ixT K) (pv 5) pe_int (fun _ _ => rfl)) pa_nil)))) pa_nil)) pa_nil))) pe_non (nomark _)) (pa_cons pe_str pa_nil))))
  (pss_cons (ps_expr (pcall h_need_kind (hr.mono (by omega)) (g_need_kind T) (pa_cons (pv 3) (pa_cons (pv 4) pa_nil))))
  (pss_cons (ps_fld (pv 0) (pv 3) rfl)
  (pss_cons (ps_fld (pv 0) (pv 4) rfl)
  (pss_cons (ps_fld (pv 0) (pe_lc (own := [("node", 6)]) rfl (z_Nest_init T).nd (listW K (fldK K (pv 0))) (blkOk_by (N := n_Nest_init) (sc := defScope s_Nest_init) (by decide +kernel)) (fun _ _ _ _ _ => by exact (pg_name (i := 6) (z_Nest_init T).nd rfl (Or.inl rfl))) (fun _ _ _ _ _ => by exact (pts_one (pt_cmpR op_eq (fldK K (pv 6)) pe_str (nomark _)))) (fun _ _ _ _ _ => by exact (pv 6))) rfl)
  (pss_cons (ps_fld (pv 0) (pe_lc (own := [("node", 6)]) rfl (z_Nest_init T).nd (listW K (fldK K (pv 0))) (blkOk_by (N := n_Nest_init) (sc := defScope s_Nest_init) (by decide +kernel)) (fun _ _ _ _ _ => by exact (pg_name (i := 6) (z_Nest_init T).nd rfl (Or.inl rfl))) (fun _ _ _ _ _ => by exact pts_nil) (fun _ _ _ _ _ => by exact (pe_ix (ixT K) (pv 2) (pe_ix (ixL K) (fldK K (pv 6)) pe_int (fun _ _ => rfl)) (fun _ _ => rfl)))) rfl)
  (pss_cons (ps_fld (pv 0) (pe_lc (own := [("leaf", 7)]) rfl (z_Nest_init T).nd (listW K (fldK K (pv 0))) (blkOk_by (N := n_Nest_init) (sc := defScope s_Nest_init) (by decide +kernel)) (fun _ _ _ _ _ => by exact (pg_name (i := 7) (z_Nest_init T).nd rfl (Or.inl rfl))) (fun _ _ _ _ _ => by exact pts_nil) (fun _ _ _ _ _ => by exact pe_dnewK)) rfl)
  (pss_cons (ps_fld (pv 0) (pe_lst pa_nil) rfl)
  (pss_cons (ps_fld (pv 0) (pe_lst pa_nil) rfl)
  (pss_cons (ps_fld (pv 0) pe_int rfl)
  (pss_one (ps_for (passes_of rfl) rfl (listW K (fldK K (pv 0))) (pg_name (i := 6) (z_Nest_init T).nd rfl (Or.inl rfl)) (pss_one (ps_expr (pmeth h_Nest_reckon (c_Nest T) (m_Nest_reckon T) (hr.mono (by omega)) passL (pv 0) (pa_cons (pv 6) pa_nil))))))))))))))))))), ?_⟩
  have hla : ("a" : Str).length ≤ sizeLine := by decide +kernel
  refine ⟨_, rfl, _, _, rfl, .str "a" hla, _, rfl, iteT' (by decide +kernel) ?_⟩
  refine ⟨_, rfl, _, _, rfl, .str "a" hla, fun zz => absurd zz (by decide +kernel), fun _ => ⟨[97], rfl, by decide, fun v1 H1 e1 r1 => ?_⟩⟩
  rw [flaw97] at r1
  obtain rfl := RD.ofNon r1
  refine ⟨rfl, true, "text", by rw [vdec]; rfl, fun _ => ?_, fun zz => (by cases zz)⟩
  obtain ⟨ua, v0, rfl, hu, rv0⟩ := one_d (ru.mono e1.t)
  refine ⟨_, rfl, _, _, _, _, true, rfl, .ty _, tyT hu, kit_ty (by decide +kernel), true, rfl, iteT ?_⟩
  refine ⟨_, rfl, ua, _, rfl, .inr hu, _, rfl, by decide +kernel, _, _, rfl, rfl, true, by congr 1, iteT ?_⟩
  have hwt := walk_tup (K := K) (a := ua) (xs := [v0])
  refine ⟨_, rfl, ua, rfl, ⟨_, hu⟩, fun l hl => lcD (K := K) hl hwt (fun i => List.replicate i (.bl true)) rfl (fun H' e' => e'.t.sq hu) (fun i hi => by rw [List.length_replicate]; have := q0 hi; omega) (fun q x H2' H2 hq e2 y R N kR kN => ?_) (fun H3 zs e3 hz r3 => ?_)⟩
  · obtain ⟨rfl, hx⟩ := y
    obtain rfl := q0 hq
    cases hx
    exact ⟨rfl, _, rfl, z, v0, rfl, rv0.mono e2.t, ok, fun H' e' => kR _ _ (.bl true) e' (.bl _) rfl⟩
  obtain rfl := trues r3
  refine ⟨_, _, rfl, SqL.of hz, true, "mazes", by rw [all_trues]; rfl, fun _ => ?_, fun zz => (by cases zz)⟩
  -- the nodes
  refine ⟨_, rfl, [97], rfl, by decide, ?_⟩
  rw [tree97]
  intro v4 H4 e4 r4
  refine ⟨v4, rfl, r4, fun H5 r nd dxd num bel e5 hnd0 hr0 hnum0 hr hnd hnum => ?_⟩
  have e05 := ((e1.trans e3).trans e4).trans e5
  have e15 := (e3.trans e4).trans e5
  have hp5 := e05 _ _ hp
  have hB0 : Ex B H := fun b o q => hB b o (ne_of_none q hBp) q
  have hB5 := hB0.trans e05
  have hpn : p ≠ nd := ne_of_none (((e1.trans e3).trans e4) _ _ hp) hnd0
  have hBnd : B nd = none := back (hB0.trans ((e1.trans e3).trans e4)) hnd0
  have hBr : B r = none := back (hB0.trans ((e1.trans e3).trans e4)) hr0
  have hBnum : B num = none := back (hB0.trans ((e1.trans e3).trans e4)) hnum0
  refine ⟨_, rfl, p, cE K, dx, _, rfl, hp5, c_Nest T, n_Nest_nodes T, by show 0 < 1000; decide, ?_⟩
  rw [show putF "nodes" (.ref r) [] = [(("nodes" : Str), V.ref r)] from rfl]
  have t6 := tex_put (o' := .ins (cE K) dx [("nodes", .ref r)]) hp5 (by intro xs z; cases z) (by intro a b z; cases z)
  have hB6 := ex_own hB5 hBp (o := .ins (cE K) dx [("nodes", .ref r)])
  have hp6 : upd H5 p (.ins (cE K) dx [("nodes", .ref r)]) p = _ := upd_same
  have hnd6 : upd H5 p (.ins (cE K) dx [("nodes", .ref r)]) nd = _ := (upd_ne hpn.symm).trans hnd
  have hr6 : upd H5 p (.ins (cE K) dx [("nodes", .ref r)]) r = _ := (upd_ne (ne_of hp5 hr (by intro z; cases z)).symm).trans hr
  have hnum6 : upd H5 p (.ins (cE K) dx [("nodes", .ref r)]) num = _ := (upd_ne (ne_of hp5 hnum (by intro z; cases z)).symm).trans hnum
  have hu6 := t6.sq (e15.t.sq hu)
  have rv6 := (rv0.mono e15.t).mono t6
  clear r4 hp5 hB5 t6 hr hnd hnum
  generalize upd H5 p (.ins (cE K) dx [("nodes", .ref r)]) = H6 at hB6 hp6 hnd6 hr6 hnum6 hu6 rv6 ⊢
  -- doors
  have o1 := ok.n
  have o3 := ok.dl
  refine ⟨_, rfl, p, cE K, dx, _, _, rfl, hp6, c_Nest T, n_Nest_nodes T, rfl, _, rfl, r, _, _, _, rfl, rfl, SqL.of hr6, rfl, ?_⟩
  refine ⟨_, rfl, ua, rfl, ⟨_, hu6⟩, fun l hl => lcD (K := K) hl hwt (fun i => List.replicate i (.int (z.ds.length : Int))) rfl (fun H' e' => e'.t.sq hu6) (fun i hi => by rw [List.length_replicate]; have := q0 hi; omega) (fun q x H2' H2 hq e2 y R N kR kN => ?_) (fun H7 zs e7 hz r7 => ?_)⟩
  · obtain ⟨rfl, hx⟩ := y
    obtain rfl := q0 hq
    cases hx
    obtain ⟨t, bb, cc, xs, rfl, ha, hb, _, lx, hc⟩ := mzS (rv6.mono e2.t)
    refine ⟨rfl, _, rfl, t, _, _, _, rfl, rfl, ha, rfl, cc, _, rfl, .inr hc, kR _ _ (.int (z.ds.length : Int)) (Ex.refl _) (by rw [nV_len]; exact .int _) rfl⟩
  have r7 : RDs K H7 ([(z.ds.length : Int)].map D.int) zs := r7
  obtain rfl := r7.ints
  refine ⟨l, _, rfl, .inl ⟨SqL.of hz, fun cn hcn => ?_⟩⟩
  have f8 := e7.trans (ex_new hcn (o := .tup ([(z.ds.length : Int)].map V.int)))
  refine ⟨nd, dxd, num, bel, cn, _, _, (z.ds.length : Int), rfl, f8 _ _ hnd6, f8 _ _ hnum6, .inl (.inl upd_same), rfl, true, "mazes", rfl, fun _ => ?_, fun zz => (by cases zz)⟩
  refine ⟨_, rfl, _, rfl, .can, 0, rfl, by decide, ?_⟩
  have hp8 := f8 _ _ hp6
  have hnd8 := f8 _ _ hnd6
  have hr8 := f8 _ _ hr6
  have hnum8 := f8 _ _ hnum6
  have hu8 := f8.t.sq hu6
  have rv8 := rv6.mono f8.t
  have hB8 := hB6.trans f8
  clear hp6 hnd6 hr6 hnum6 hu6 rv6 hB6
  generalize upd H7 cn (.tup ([(z.ds.length : Int)].map V.int)) = H8 at hp8 hnd8 hr8 hnum8 hu8 rv8 hB8 ⊢
  -- kind, most
  refine ⟨_, rfl, _, rfl, p, cE K, dx, _, rfl, hp8, c_Nest T, n_Nest_kind T, by show 1 < 1000; decide, ?_⟩
  refine ⟨_, rfl, _, rfl, p, cE K, dx, _, rfl, upd_same, c_Nest T, n_Nest_most T, by show 2 < 1000; decide, ?_⟩
  rw [Sl.upd_upd]
  rw [show putF "most" (.int 0) (putF "kind" (.str "can") [(("nodes" : Str), V.ref r)]) = [(("nodes" : Str), V.ref r), ("kind", .str "can"), ("most", .int 0)] from rfl]
  generalize hf9 : ([(("nodes" : Str), V.ref r), ("kind", .str "can"), ("most", .int 0)] : List (Str × V)) = fs9
  have t9 := tex_put (o' := .ins (cE K) dx fs9) hp8 (by intro xs z; cases z) (by intro a b z; cases z)
  have hB9 := ex_own hB8 hBp (o := .ins (cE K) dx fs9)
  have hp9 : upd H8 p (.ins (cE K) dx fs9) p = _ := upd_same
  have hnd9 : upd H8 p (.ins (cE K) dx fs9) nd = _ := (upd_ne hpn.symm).trans hnd8
  have hr9 : upd H8 p (.ins (cE K) dx fs9) r = _ := (upd_ne (ne_of hp8 hr8 (by intro z; cases z)).symm).trans hr8
  have hnum9 : upd H8 p (.ins (cE K) dx fs9) num = _ := (upd_ne (ne_of hp8 hnum8 (by intro z; cases z)).symm).trans hnum8
  have hu9 := t9.sq hu8
  have rv9 := rv8.mono t9
  clear hp8 hnd8 hr8 hnum8 hu8 rv8 hB8 t9
  generalize upd H8 p (.ins (cE K) dx fs9) = H9 at hp9 hnd9 hr9 hnum9 hu9 rv9 hB9 ⊢
  -- leaves
  have hwr := walk_list (K := K) (a := r) (xs := [V.ref nd])
  refine ⟨_, rfl, p, cE K, dx, _, _, rfl, hp9, c_Nest T, n_Nest_nodes T, by rw [← hf9]; rfl, r, rfl, ⟨_, SqL.of hr9⟩, fun ll hll => lcP (α := Unit) (VP := fun _ _ v => v = V.ref nd) (fun _ _ _ _ _ h => h) hll hwr (fun i => List.replicate i ()) rfl (fun H' e' => SqL.of (e' _ _ hr9)) (fun i hi => by rw [List.length_replicate]; have := q0 hi; omega) (fun q x H2' H2 hq e2 _ y R N kR kN => ?_) (fun H10 xs e10 hl10 lp10 => ?_)⟩
  · obtain ⟨rfl, hx⟩ := y
    obtain rfl := q0 hq
    cases hx
    refine ⟨rfl, _, rfl, nd, _, dxd, _, _, rfl, e2 _ _ hnd9, c_Node T, n_Node_word T, rfl, rfl, _, rfl, iteT' (by decide +kernel) ⟨_, rfl, kR _ _ () (Ex.refl _) (fun _ => rfl) rfl⟩⟩
  obtain ⟨vv, rfl, rfl⟩ := lp_one lp10
  have hp10 := e10 _ _ hp9
  refine ⟨_, rfl, p, cE K, dx, _, rfl, hp10, c_Nest T, n_Nest_leaves T, by rw [← hf9]; show 3 < 1000; decide, ?_⟩
  rw [show putF "leaves" (.ref ll) fs9 = [(("nodes" : Str), V.ref r), ("kind", .str "can"), ("most", .int 0), ("leaves", .ref ll)] from by rw [← hf9]; rfl]
  generalize hf11 : ([(("nodes" : Str), V.ref r), ("kind", .str "can"), ("most", .int 0), ("leaves", .ref ll)] : List (Str × V)) = fs11
  have hBll : B ll = none := back hB9 hll
  have hnl : ∀ {x : Addr} {o : HO}, H9 x = some o → x ≠ ll := fun hx => ne_of_none hx hll
  have t11 := tex_put (o' := .ins (cE K) dx fs11) hp10 (by intro xs z; cases z) (by intro a b z; cases z)
  have hB11 := ex_own (hB9.trans e10) hBp (o := .ins (cE K) dx fs11)
  have hp11 : upd H10 p (.ins (cE K) dx fs11) p = _ := upd_same
  have hnd11 : upd H10 p (.ins (cE K) dx fs11) nd = _ := (upd_ne hpn.symm).trans (e10 _ _ hnd9)
  have hr11 : upd H10 p (.ins (cE K) dx fs11) r = _ := (upd_ne (ne_of hp9 hr9 (by intro z; cases z)).symm).trans (e10 _ _ hr9)
  have hnum11 : upd H10 p (.ins (cE K) dx fs11) num = _ := (upd_ne (ne_of hp9 hnum9 (by intro z; cases z)).symm).trans (e10 _ _ hnum9)
  have hll11 : upd H10 p (.ins (cE K) dx fs11) ll = _ := (upd_ne (hnl hp9).symm).trans hl10
  have hu11 := t11.sq (e10.t.sq hu9)
  have rv11 := (rv9.mono e10.t).mono t11
  clear hp9 hnd9 hr9 hnum9 hu9 rv9 hB9 t11 hp10 hl10
  generalize upd H10 p (.ins (cE K) dx fs11) = H11 at hp11 hnd11 hr11 hnum11 hll11 hu11 rv11 hB11 ⊢
  -- mazes
  have hwl := walk_list (K := K) (a := ll) (xs := [V.ref nd])
  refine ⟨_, rfl, p, cE K, dx, _, _, rfl, hp11, c_Nest T, n_Nest_leaves T, by rw [← hf11]; rfl, ll, rfl, ⟨_, SqL.of hll11⟩, fun lm hlm => lcD (K := K) hlm hwl (fun i => List.replicate i (mzD z)) rfl (fun H' e' => SqL.of (e' _ _ hll11)) (fun i hi => by rw [List.length_replicate]; have := q0 hi; omega) (fun q x H2' H2 hq e2 y R N kR kN => ?_) (fun H12 xs e12 hl12 r12 => ?_)⟩
  · obtain ⟨rfl, hx⟩ := y
    obtain rfl := q0 hq
    cases hx
    refine ⟨rfl, _, rfl, _, rfl, nd, _, dxd, _, _, rfl, e2 _ _ hnd11, c_Node T, n_Node_numbers T, rfl, num, _, _, _, rfl, rfl, SqL.of (e2 _ _ hnum11), rfl, ua, _, _, _, rfl, rfl, e2.t.sq hu11, rfl, kR _ _ (mzD z) (Ex.refl _) (rv11.mono e2.t) rfl⟩
  obtain ⟨v12, ww, rfl, rv12, r12⟩ := RDs.ofCons (show RDs K H12 (mzD z :: []) xs from r12)
  obtain rfl := r12.ofNil
  have hp12 := e12 _ _ hp11
  refine ⟨_, rfl, p, cE K, dx, _, rfl, hp12, c_Nest T, n_Nest_mazes T, by rw [← hf11]; show 4 < 1000; decide, ?_⟩
  rw [show putF "mazes" (.ref lm) fs11 = [(("nodes" : Str), V.ref r), ("kind", .str "can"), ("most", .int 0), ("leaves", .ref ll), ("mazes", .ref lm)] from by rw [← hf11]; rfl]
  generalize hf13 : ([(("nodes" : Str), V.ref r), ("kind", .str "can"), ("most", .int 0), ("leaves", .ref ll), ("mazes", .ref lm)] : List (Str × V)) = fs13
  have hBlm : B lm = none := back hB11 hlm
  have hnm : ∀ {x : Addr} {o : HO}, H11 x = some o → x ≠ lm := fun hx => ne_of_none hx hlm
  have m1 := (hnm hr11).symm
  have m2 := (hnm hnum11).symm
  have m3 := (hnm hll11).symm
  have t13 := tex_put (o' := .ins (cE K) dx fs13) hp12 (by intro xs z; cases z) (by intro a b z; cases z)
  have hB13 := ex_own (hB11.trans e12) hBp (o := .ins (cE K) dx fs13)
  have hp13 : upd H12 p (.ins (cE K) dx fs13) p = _ := upd_same
  have hnd13 : upd H12 p (.ins (cE K) dx fs13) nd = _ := (upd_ne hpn.symm).trans (e12 _ _ hnd11)
  have hr13 : upd H12 p (.ins (cE K) dx fs13) r = _ := (upd_ne (ne_of hp11 hr11 (by intro z; cases z)).symm).trans (e12 _ _ hr11)
  have hnum13 : upd H12 p (.ins (cE K) dx fs13) num = _ := (upd_ne (ne_of hp11 hnum11 (by intro z; cases z)).symm).trans (e12 _ _ hnum11)
  have hll13 : upd H12 p (.ins (cE K) dx fs13) ll = _ := (upd_ne (ne_of hp11 hll11 (by intro z; cases z)).symm).trans (e12 _ _ hll11)
  have hlm13 : upd H12 p (.ins (cE K) dx fs13) lm = _ := (upd_ne (hnm hp11).symm).trans hl12
  have rv13 := rv12.mono t13
  clear hp11 hnd11 hr11 hnum11 hll11 hu11 rv11 hB11 t13 hp12 hl12
  generalize upd H12 p (.ins (cE K) dx fs13) = H13 at hp13 hnd13 hr13 hnum13 hll13 hlm13 rv13 hB13 ⊢
  -- what is shut
  refine ⟨_, rfl, p, cE K, dx, _, _, rfl, hp13, c_Nest T, n_Nest_leaves T, by rw [← hf13]; rfl, ll, rfl, ⟨_, SqL.of hll13⟩, fun ls hls => lcP (α := Unit) (VP := fun G _ v => ∃ D0, v = V.ref D0 ∧ H13 D0 = none ∧ G D0 = some (.dK [])) (fun _ _ _ _ e ⟨D0, h1, h2, h3⟩ => ⟨D0, h1, h2, e _ _ h3⟩) hls hwl (fun i => List.replicate i ()) rfl (fun H' e' => SqL.of (e' _ _ hll13)) (fun i hi => by rw [List.length_replicate]; have := q0 hi; omega) (fun q x H2' H2 hq e2 hzs y R N kR kN => ?_) (fun H14 xs e14 hl14 lp14 => ?_)⟩
  · obtain ⟨rfl, hx⟩ := y
    obtain rfl := q0 hq
    cases hx
    refine ⟨rfl, fun D0 hD0 => kR _ _ () (ex_new hD0) (fun zs => ⟨D0, rfl, back e2 hD0, ?_⟩) rfl⟩
    obtain ⟨zs0, hz0⟩ := hzs
    rw [upd_ne (ne_of_none hz0 hD0).symm, upd_same]
  obtain ⟨vv, rfl, D0, rfl, hD0, hD14⟩ := lp_one lp14
  have hp14 := e14 _ _ hp13
  refine ⟨_, rfl, p, cE K, dx, _, rfl, hp14, c_Nest T, n_Nest_shut_ones T, by rw [← hf13]; show 5 < 1000; decide, ?_⟩
  refine ⟨by show 0 ≤ sizeLine; decide, fun lp hlp => ?_⟩
  refine ⟨_, rfl, p, cE K, dx, _, rfl, ex_new hlp _ _ upd_same, c_Nest T, n_Nest_pasts T, by rw [← hf13]; show 6 < 1000; decide, ?_⟩
  refine ⟨by show 0 ≤ sizeLine; decide, fun lf hlf => ?_⟩
  refine ⟨_, rfl, p, cE K, dx, _, rfl, ex_new hlf _ _ upd_same, c_Nest T, n_Nest_futures T, by rw [← hf13]; show 7 < 1000; decide, ?_⟩
  refine ⟨_, rfl, p, cE K, dx, _, rfl, upd_same, c_Nest T, n_Nest_count T, by rw [← hf13]; show 8 < 1000; decide, ?_⟩
  rw [← hf13]
  have hplp : p ≠ lp := ne_of_none (upd_same (H := H14) (a := p)) hlp
  have hplf : p ≠ lf := ne_of_none (upd_same (a := p)) hlf
  have hlp0 : H14 lp = none := by rw [upd_ne hplp.symm] at hlp; exact hlp
  rw [upd_ne hplf.symm] at hlf
  have hlfp : lf ≠ lp := fun zz => by rw [zz, upd_same] at hlf; cases hlf
  have hlf0 : H14 lf = none := by rw [upd_ne hlfp, upd_ne hplf.symm] at hlf; exact hlf
  have six : ∀ fA fB fC fD : HO, ∃ He : Hp, upd (upd (upd (upd (upd (upd H14 p fA) lp (.lst [])) p fB) lf (.lst [])) p fC) p fD = He ∧ He p = some fD ∧ He lp = some (.lst []) ∧ He lf = some (.lst []) ∧ ∀ x, x ≠ p → x ≠ lp → x ≠ lf → He x = H14 x := fun fA fB fC fD =>
    ⟨_, rfl, upd_same, by rw [upd_ne hplp.symm, upd_ne hplp.symm, upd_ne hlfp.symm, upd_ne hplp.symm, upd_same], by rw [upd_ne hplf.symm, upd_ne hplf.symm, upd_same], fun x h1 h2 h3 => by rw [upd_ne h1, upd_ne h1, upd_ne h3, upd_ne h1, upd_ne h2, upd_ne h1]⟩
  obtain ⟨He, hHe, hEp, hElp, hElf, hEx⟩ := six (.ins (cE K) dx (putF "shut_ones" (.ref ls) [("nodes", .ref r), ("kind", .str "can"), ("most", .int 0), ("leaves", .ref ll), ("mazes", .ref lm)]))
    (.ins (cE K) dx (putF "pasts" (.ref lp) (putF "shut_ones" (.ref ls) [("nodes", .ref r), ("kind", .str "can"), ("most", .int 0), ("leaves", .ref ll), ("mazes", .ref lm)])))
    (.ins (cE K) dx (putF "futures" (.ref lf) (putF "pasts" (.ref lp) (putF "shut_ones" (.ref ls) [("nodes", .ref r), ("kind", .str "can"), ("most", .int 0), ("leaves", .ref ll), ("mazes", .ref lm)]))))
    (.ins (cE K) dx (putF "count" (.int 0) (putF "futures" (.ref lf) (putF "pasts" (.ref lp) (putF "shut_ones" (.ref ls) [("nodes", .ref r), ("kind", .str "can"), ("most", .int 0), ("leaves", .ref ll), ("mazes", .ref lm)])))))
  rw [hHe]
  have keep : ∀ {x : Addr} {o : HO}, x ≠ p → H14 x = some o → He x = some o := fun hx h => by rw [hEx _ hx (ne_of_none h hlp0) (ne_of_none h hlf0)]; exact h
  have tE : TEx H14 He := fun x xs h => by
    have hx : x ≠ p := fun zz => by
      rcases h with h | ⟨o, h⟩
      · rw [zz, hp14] at h; cases h
      · rw [zz, hp14] at h; cases h
    rcases h with h | ⟨o, h⟩
    · exact .inl (keep hx h)
    · exact .inr ⟨o, keep hx h⟩
  have hBE : Ex B He := fun x o h => keep (ne_of_none h hBp) (e14 _ _ (hB13 _ _ h))
  have pl : ∀ {x : Addr} {xs : List V}, H14 x = some (.lst xs) → x ≠ p := fun h => ne_of h hp14 (by intro z; cases z)
  have hls14 : H14 ls = some (.lst [.ref D0]) := hl14
  have hD0p : D0 ≠ p := fun zz => by rw [zz, hp13] at hD0; cases hD0
  have nsE : NS K B He ⟨p, dx, r, nd, dxd, num, bel, ll, lm, ls, D0⟩ z [] [] none := by
    refine ⟨hBE, ⟨lp, lf, 0, v12, .non, [], [], hEp, keep hpn.symm (e14 _ _ hnd13), keep (pl (e14 _ _ hlm13)) (e14 _ _ hlm13), (rv13.mono e14.t).mono tE, hElp, .nil, hElf, by show 0 ≤ 1000; decide, ne_of_none (e14 _ _ hlm13) hlp0, ne_of_none (e14 _ _ hlm13) hlf0, back (hB13.trans e14) hlp0, back (hB13.trans e14) hlf0, rfl⟩,
      keep (pl (e14 _ _ hr13)) (e14 _ _ hr13), keep (pl (e14 _ _ hnum13)) (e14 _ _ hnum13), keep (pl (e14 _ _ hll13)) (e14 _ _ hll13), keep (pl hls14) hls14, keep hD0p hD14, hBp, hBnd, hBlm, back hB13 hD0, hBr, hBnum, hBll, back hB13 hls, hpn, m1, m2, m3, ne_of_none hlm13 hls⟩
  have hrE : He r = some (.lst [.ref nd]) := nsE.ln
  generalize hna : (⟨p, dx, r, nd, dxd, num, bel, ll, lm, ls, D0⟩ : NA) = a at nsE
  have hap : a.ne = p := by rw [← hna]
  have han : a.nd = nd := by rw [← hna]
  have har : a.ln = r := by rw [← hna]
  have had : a.dxn = dx := by rw [← hna]
  obtain ⟨_, _, _, _, _, _, _, hne1, _⟩ := nsE.v
  rw [hap, had] at hne1
  refine ⟨_, rfl, p, cE K, dx, _, _, rfl, hne1, c_Nest T, n_Nest_nodes T, rfl, a.ln, rfl, ⟨_, SqL.of nsE.ln⟩, ?_⟩
  have hwE := walk_list (K := K) (a := a.ln) (xs := [V.ref a.nd])
  refine for_it hwE (fun i σ H' => (∃ x5 x6 x7, σ = [some (.ref p), some (.str "a"), some (.ref ua), some (.str "can"), some (.int 0), x5, x6, x7]) ∧ ((i = 0 ∧ NS K B H' a z [] [] none) ∨ (i = 1 ∧ NS K B H' a z [] [] (some z)))) ⟨⟨_, _, _, rfl⟩, .inl ⟨rfl, nsE⟩⟩ (fun i σ H' _ h => ?_) ?_ ?_
  · rcases h.2 with ⟨_, h⟩ | ⟨_, h⟩
    · exact SqL.of h.ln
    · exact SqL.of h.ln
  · rintro i x σ H15' H15 hi ⟨⟨x5, x6, x7, rfl⟩, hh⟩ ⟨rfl, hx⟩
    obtain rfl := q0 hi
    cases hx
    rcases hh with ⟨_, ns⟩ | ⟨hi1, _⟩
    · obtain ⟨_, _, _, _, _, _, _, hn1, _⟩ := ns.v
      rw [hap, had] at hn1
      refine ⟨_, rfl, p, dx, _, rfl, hn1, rfl, _, rfl, B, a, z, [], [], none, by rw [hap]; rfl, ns, ok, fun b H' t ns' => ?_⟩
      rw [opn_nil] at ns'
      exact ⟨⟨_, _, _, rfl⟩, .inr ⟨rfl, ns'⟩⟩
    · cases hi1
  · rintro σ H15 ⟨⟨x5, x6, x7, rfl⟩, hh⟩
    rcases hh with ⟨hi0, _⟩ | ⟨_, ns⟩
    · cases hi0
    · exact k a _ hap ns
end
end K09
namespace Sl
open PySem PySem.Spec
open PyProof.Rows L2
/-- the script, apart from the row -/
def Scr (K : PySem.W.Frag) (r c : Addr) (xs : List V) (H : Hp) : Prop := (r ≠ c ∧ SqL K H c xs) ∨ ∀ H', SqL K H' c xs
/-- the law's row: the script and its place -/
def Rw (K : PySem.W.Frag) (ns : List Int) (r c : Addr) (H : Hp) : Prop := Scr K r c (ns.map V.int) H ∧ ∃ i x g : Int, H r = some (.lst [.ref c, .int i, .int x, .int g]) ∧ 0 ≤ i
section
variable {K : PySem.W.Frag} {ns : List Int} {r c : Addr} {H H' : Hp} {o : HO} {xs : List V}
theorem exb1 : ExB [r] H (upd H r o) := fun a u n e => by
  rw [upd_ne (by simpa using n)]
  exact e
theorem sqL_b (e : ExB [r] H H') (n : c ≠ r) (h : SqL K H c xs) : SqL K H' c xs := by
  rcases h with (h | ⟨o, h⟩) | h
  · exact .inl (.inl (e _ _ (by simpa using n) h))
  · exact .inl (.inr ⟨o, e _ _ (by simpa using n) h⟩)
  · exact .inr h
theorem Scr.at (h : Scr K r c xs H) : SqL K H c xs := h.elim (·.2) (· H)
theorem Scr.b (h : Scr K r c xs H) (e : ExB [r] H H') : Scr K r c xs H' := h.imp (fun z => ⟨z.1, sqL_b e z.1.symm z.2⟩) id
theorem Scr.new (h : SqL K H c xs) (hr : H r = none) : Scr K r c xs (upd H r o) := by
  rcases h with (h | ⟨o, h⟩) | h
  · exact .inl ⟨(ne_of_none h hr).symm, .inl (.inl (by rw [upd_ne (ne_of_none h hr)]; exact h))⟩
  · exact .inl ⟨(ne_of_none h hr).symm, .inl (.inr ⟨o, by rw [upd_ne (ne_of_none h hr)]; exact h⟩)⟩
  · exact .inr fun _ => .inr h
theorem Rw.upd (q : Scr K r c (ns.map V.int) H) (e : ExB [r] H H') {i x g : Int} (hr : H' r = some (.lst [.ref c, .int i, .int x, .int g])) (hi : 0 ≤ i) : Rw K ns r c H' :=
  ⟨q.b e, i, x, g, hr, hi⟩
theorem Rw.ex (e : Ex H H') (h : Rw K ns r c H) : Rw K ns r c H' := by
  obtain ⟨h2, i, x, g, h3, h4⟩ := h
  exact ⟨h2.b e.b, i, x, g, e _ _ h3, h4⟩
def spTaken (K : PySem.W.Frag) : Sp := fun vs H Q _ => ∃ (r c : Addr) (ns : List Int) (m : Int), vs = [.ref r, .int m] ∧ 0 < m ∧ m < 1073741824 ∧ Rw K ns r c H ∧
  ∀ v H', 0 ≤ v → v < m → ExB [r] H H' → Rw K ns r c H' → Q (.int v) H'
def spPick (K : PySem.W.Frag) : Sp := fun vs H Q _ => ∃ (r c l : Addr) (ns : List Int) (xs : List V), vs = [.ref r, .ref l] ∧ l ≠ r ∧ SqL K H l xs ∧ 0 < xs.length ∧ xs.length < 1000000 ∧ Rw K ns r c H ∧
  ∀ v H', v ∈ xs → ExB [r] H H' → Rw K ns r c H' → Q v H'
end
end Sl
namespace K09
open PySem PySem.Spec
open PyProof.Rows L2 Sl
section
variable {P : Program} {w : World} {K : PySem.W.Frag} {mg : Str → Option Value} {base : Heap} {H H1 H2 : Hp} {E : XK} {Q : VK}
theorem ok_taken (T : Tx K mg) : Has P w K mg base 1 (a__law_taken K) p__law_taken (spTaken K) := by
  refine has_of (f__law_taken T) (z__law_taken T) (b__law_taken T) (fun vs H Q E h => by obtain ⟨_, _, _, _, rfl, _⟩ := h; rfl) (fun cdv A outer s H vs Q E hr h => ?_)
  obtain ⟨r, c, ns, m, rfl, hm, hm2, ⟨hs, i, x, g, hr0, hi⟩, k⟩ := h
  refine ⟨_, (pss_cons (ps_if (pt_cmpR oGtI (pe_ix (ixL K) (pv 0) pe_int (fun _ _ => rfl)) pe_int (nomark _)) (pss_cons (ps_set (i := 2) (z__law_taken T).nd rfl (Or.inl rfl) (pe_op oModI (pe_callTy call_int1 (by rfl) (l_int T) (by decide +kernel) (pa_cons (pe_ix (ixL K) (pv 0) pe_int (fun _ _ => rfl)) pa_nil)) (pv 1)))
  (pss_cons (ps_asg (pe_op oDivI (pe_ix (ixL K) (pv 0) pe_int (fun _ _ => rfl)) (pv 1)) (pg_sub (pv 0) pe_int set_list))
  (pss_one (ps_ret (pv 2))))) pss_nil)
  (pss_cons (ps_asg (pe_op oAddI (pe_ix (ixL K) (pv 0) pe_int (fun _ _ => rfl)) pe_int) (pg_sub (pv 0) pe_int set_list))
  (pss_cons (ps_if (pt_cmpR oGtI (pe_ix (ixL K) (pv 0) pe_int (fun _ _ => rfl)) (pe_callB (lenK K) (by rfl) (l_len T) (by decide +kernel) (pa_cons (pe_ix (ixL K) (pv 0) pe_int (fun _ _ => rfl)) pa_nil)) (nomark _)) (pss_cons (ps_asg (pe_op oModI (pe_callTy call_int1 (by rfl) (l_int T) (by decide +kernel) (pa_cons (pe_op oAddI (pe_op oMulI (pe_ix (ixL K) (pv 0) pe_int (fun _ _ => rfl)) pe_int) pe_int) pa_nil)) pe_int) (pg_sub (pv 0) pe_int set_list))
  (pss_one (ps_ret (pe_op oModI (pe_callTy call_int1 (by rfl) (l_int T) (by decide +kernel) (pa_cons (pe_op oDivI (pe_ix (ixL K) (pv 0) pe_int (fun _ _ => rfl)) pe_int) pa_nil)) (pv 1))))) pss_nil)
  (pss_cons (ps_set (i := 3) (z__law_taken T).nd rfl (Or.inl rfl) (pe_ix (ixL K) (pe_ix (ixL K) (pv 0) pe_int (fun _ _ => rfl)) (pe_op oSubI (pe_ix (ixL K) (pv 0) pe_int (fun _ _ => rfl)) pe_int) (fun _ _ => rfl)))
  (pss_cons (ps_asg (pe_op oModI (pe_callTy call_int1 (by rfl) (l_int T) (by decide +kernel) (pa_cons (pe_op oAddI (pe_op oAddI (pe_op oMulI (pe_ix (ixL K) (pv 0) pe_int (fun _ _ => rfl)) pe_int) (pe_callTy call_int1 (by rfl) (l_int T) (by decide +kernel) (pa_cons (pv 3) pa_nil))) pe_int) pa_nil)) pe_int) (pg_sub (pv 0) pe_int set_list))
  (pss_cons (ps_if (pt_cmpR oGeI (pv 3) (pe_op oPowI pe_int pe_int) (nomark _)) (pss_one (ps_asg (pe_op oDivI (pe_callTy call_int1 (by rfl) (l_int T) (by decide +kernel) (pa_cons (pe_op oModI (pe_callTy call_int1 (by rfl) (l_int T) (by decide +kernel) (pa_cons (pv 3) pa_nil)) (pe_op oPowI pe_int pe_int)) pa_nil)) (pv 1)) (pg_sub (pv 0) pe_int set_list))) pss_nil)
  (pss_one (ps_ret (pe_op oModI (pe_callTy call_int1 (by rfl) (l_int T) (by decide +kernel) (pa_cons (pv 3) pa_nil)) (pv 1)))))))))), ?_⟩
  have fin : ∀ {t v : Int} {H' : Hp} {i x g : Int}, v = t % m → ExB [r] H H' → H' r = some (.lst [.ref c, .int i, .int x, .int g]) → 0 ≤ i → Q (.int v) H' := fun {t v H' i x g} e1 e2 e3 e4 => by
    subst e1
    exact k _ _ (Int.emod_nonneg _ (by omega)) (Int.emod_lt_of_pos _ hm) e2 (.upd hs e2 e3 e4)
  refine ⟨_, rfl, r, _, 3, .int g, rfl, rfl, .inl (.inl hr0), rfl, g, 0, rfl, rfl, _, rfl, ?_⟩
  by_cases hg : 0 < g
  · rw [decide_eq_true hg]
    refine ⟨_, rfl, r, _, 3, .int g, rfl, rfl, .inl (.inl hr0), rfl, .inl ⟨g, rfl, _, rfl, g, m, rfl, rfl, hm, ?_⟩⟩
    refine ⟨_, rfl, r, _, 3, .int g, rfl, rfl, .inl (.inl hr0), rfl, _, rfl, g, m, rfl, rfl, ⟨hm, hm2⟩, ?_⟩
    exact ⟨_, rfl, r, _, 3, 3, rfl, rfl, hr0, rfl, _, rfl, fin rfl exb1 upd_same hi⟩
  · rw [decide_eq_false hg]
    refine ⟨_, rfl, r, _, 1, .int i, rfl, rfl, .inl (.inl hr0), rfl, i, 1, rfl, rfl, _, rfl, r, _, 1, 1, rfl, rfl, hr0, rfl, ?_⟩
    have q1 : upd H r (.lst [.ref c, .int (i + 1), .int x, .int g]) r = some (.lst [.ref c, .int (i + 1), .int x, .int g]) := upd_same
    have e1 : ExB [r] H (upd H r (.lst [.ref c, .int (i + 1), .int x, .int g])) := exb1
    have s1 := (hs.b e1).at
    refine ⟨_, rfl, r, _, 1, .int (i + 1), rfl, rfl, .inl (.inl q1), rfl, _, rfl, r, _, 0, .ref c, rfl, rfl, .inl (.inl q1), rfl, c, _, rfl, .inl s1, _, _, rfl, rfl, _, rfl, ?_⟩
    by_cases hl : ((ns.map V.int).length : Int) < i + 1
    · rw [decide_eq_true hl]
      refine ⟨_, rfl, r, _, 2, .int x, rfl, rfl, .inl (.inl q1), rfl, x, 48271, rfl, rfl, .inr ⟨by decide, by decide⟩, _, _, rfl, rfl, .inl ⟨_, rfl, _, _, rfl, rfl, by decide, _, rfl, r, _, 2, 2, rfl, rfl, q1, rfl, ?_⟩⟩
      refine ⟨_, rfl, r, _, 2, _, rfl, rfl, .inl (.inl upd_same), rfl, _, _, rfl, rfl, ⟨by decide, by decide⟩, .inl ⟨_, rfl, _, rfl, _, m, rfl, rfl, hm, ?_⟩⟩
      exact fin rfl (e1.trans exb1) upd_same (by omega)
    · rw [decide_eq_false hl]
      have hi2 : i.toNat < (ns.map V.int).length := by omega
      have hn2 : i.toNat < ns.length := by simpa using hi2
      have hat : atI (ns.map V.int) (i + 1 - 1) = some (.int ns[i.toNat]) := at_of (j := i.toNat) (by omega) (by rw [List.getElem?_map, List.getElem?_eq_getElem hn2] <;> rfl)
      generalize ns[i.toNat] = d at hat
      refine ⟨_, rfl, r, _, 0, .ref c, rfl, rfl, .inl (.inl q1), rfl, _, rfl, r, _, 1, .int (i + 1), rfl, rfl, .inl (.inl q1), rfl, _, 1, rfl, rfl, c, _, _, _, rfl, rfl, s1, hat, ?_⟩
      refine ⟨_, rfl, r, _, 2, .int x, rfl, rfl, .inl (.inl q1), rfl, x, 48271, rfl, rfl, .inr ⟨by decide, by decide⟩, _, rfl, .inl ⟨d, rfl, _, _, rfl, rfl, _, _, rfl, rfl, .inl ⟨_, rfl, _, _, rfl, rfl, by decide, _, rfl, r, _, 2, 2, rfl, rfl, q1, rfl, ?_⟩⟩⟩
      refine ⟨_, rfl, _, _, rfl, rfl, ⟨by decide, by decide, by decide⟩, d, _, rfl, rfl, _, rfl, ?_⟩
      by_cases hd : (10 : Int) ^ (18 : Int).toNat ≤ d
      · rw [decide_eq_true hd]
        refine ⟨_, rfl, .inl ⟨d, rfl, _, _, rfl, rfl, ⟨by decide, by decide, by decide⟩, d, _, rfl, rfl, Int.pow_pos (by decide), .inl ⟨_, rfl, _, rfl, _, m, rfl, rfl, ⟨hm, hm2⟩, _, rfl, r, _, 3, 3, rfl, rfl, upd_same, rfl, ?_⟩⟩⟩
        exact ⟨_, rfl, .inl ⟨d, rfl, _, rfl, d, m, rfl, rfl, hm, fin rfl ((e1.trans exb1).trans exb1) upd_same (by omega)⟩⟩
      · rw [decide_eq_false hd]
        exact ⟨_, rfl, .inl ⟨d, rfl, _, rfl, d, m, rfl, rfl, hm, fin rfl (e1.trans exb1) upd_same (by omega)⟩⟩
theorem ok_pick (T : Tx K mg) : Has P w K mg base 2 (a__law_pick K) p__law_pick (spPick K) := by
  refine has_of (f__law_pick T) (z__law_pick T) (b__law_pick T) (fun vs H Q E h => by obtain ⟨_, _, _, _, _, rfl, _⟩ := h; rfl) (fun cdv A outer s H vs Q E hr h => ?_)
  obtain ⟨r, c, l, ns, xs, rfl, hl, hx, h0, h1, hrw, k⟩ := h
  have h__law_taken := ok_taken (P := P) (w := w) (base := base) T
  refine ⟨_, (pss_one (ps_ret (pe_ix (ixL K) (pv 1) (pcall h__law_taken (hr.mono (by omega)) (g__law_taken T) (pa_cons (pv 0) (pa_cons (pe_callB (lenK K) (by rfl) (l_len T) (by decide +kernel) (pa_cons (pv 1) pa_nil)) pa_nil))) (fun _ _ => rfl)))), ?_⟩
  refine ⟨_, rfl, _, rfl, _, rfl, l, xs, rfl, .inl hx, r, c, ns, _, rfl, by omega, by omega, hrw, fun v H' v0 v1 e q => ?_⟩
  have hv : v.toNat < xs.length := by omega
  refine ⟨l, xs, v, xs[v.toNat], rfl, rfl, sqL_b e hl hx, at_of (j := v.toNat) (by omega) (List.getElem?_eq_getElem hv), k _ _ (List.getElem_mem hv) e q⟩
end
end K09
/-! A drawn maze. -/
namespace K09
open PySem PySem.Spec
open PyProof.Rows L2 Sl Pm
section
variable {P : Program} {w : World} {K : PySem.W.Frag} {mg : Str → Option Value} {base : Heap} {H H0 H1 H2 B : Hp} {E : XK} {Q : VK} {m n e : Nat} {σ : L2.St} {r c : Addr} {ns : List Int}
theorem exb_tex {o : HO} (e : ExB [r] H H1) (h : H r = some o) (n1 : ∀ xs, o ≠ .tup xs) (n2 : ∀ u xs, o ≠ .frz u (.tup xs)) : TEx H H1 := fun a xs h' => by
  rcases h' with h' | ⟨u, h'⟩
  · exact .inl (e _ _ (by simpa using ne_of h' h (fun z => n1 _ z.symm)) h')
  · exact .inr ⟨u, e _ _ (by simpa using ne_of h' h (fun z => n2 _ _ z.symm)) h'⟩
theorem rw_tex (h : Rw K ns r c H) (e : ExB [r] H H1) : TEx H H1 := by
  obtain ⟨_, i, x, g, h1, _⟩ := h
  exact exb_tex e h1 (by intro xs z; cases z) (by intro u xs z; cases z)
theorem rw_ne (h : Rw K ns r c H) {a : Addr} (ha : H a = none) : a ≠ r := by
  obtain ⟨_, i, x, g, h1, _⟩ := h
  exact (ne_of_none h1 ha).symm
/-- .. that are not the row stay -/
theorem exb_get {a : Addr} {o : HO} (e : ExB [r] H H1) (h : H a = some o) (n : a ≠ r) : H1 a = some o := e _ _ (by simpa using n) h
theorem exb_new {a : Addr} {o : HO} (h : H a = none) : ExB [r] H (upd H a o) := (ex_new h).b
theorem exb_own {a : Addr} {o : HO} (e : ExB [r] H H1) (h : H a = none) : ExB [r] H (upd H1 a o) := fun b u n q => by
  rw [upd_ne (ne_of_none q h)]
  exact e _ _ n q
theorem rw_own {F : Addr} {o : HO} (rw0 : Rw K ns r c H) (e : ExB [r] H H1) (rw1 : Rw K ns r c H1) (hF : H F = none) : Rw K ns r c (upd H1 F o) := by
  obtain ⟨_, i, x, g, q1, q2⟩ := rw1
  exact Rw.upd rw0.1 (exb_own e hF) (by rw [upd_ne (rw_ne rw0 hF).symm]; exact q1) q2
def spLMaze (K : PySem.W.Frag) : Sp := fun vs H Q _ => ∃ (r c : Addr) (ns : List Int) (rooms most doors : Nat), vs = [.ref r, .int (rooms : Int), .int (most : Int), .int (doors : Int)] ∧ Rw K ns r c H ∧ 1 ≤ rooms ∧ rooms ≤ 40 ∧ most ≤ 100 ∧ doors ≤ 12 ∧
  ∀ z v H', ExB [r] H H' → TEx H H' → Rw K ns r c H' → MzOk z → z.ds.length = doors → RD K H' (mzD z) v → Q v H'
theorem ok_lMaze (T : Tx K mg) : Has P w K mg base 2 (a__law_maze K) p__law_maze (spLMaze K) := by
  refine has_of (f__law_maze T) (z__law_maze T) (b__law_maze T) (fun vs H Q E h => by obtain ⟨_, _, _, _, _, _, rfl, _⟩ := h; rfl) (fun cdv A outer s H vs Q E hr h => ?_)
  obtain ⟨r, c, ns, rooms, most, doors, rfl, rw0, h1, h2, h3, h4, k⟩ := h
  have h__law_taken := ok_taken (P := P) (w := w) (base := base) T
  refine ⟨_, (pss_cons (ps_set (i := 4) (z__law_maze T).nd rfl (Or.inr rfl) (pe_op oAddI pe_int (pcall h__law_taken (hr.mono (by omega)) (g__law_taken T) (pa_cons (pv 0) (pa_cons (pv 1) pa_nil)))))
  (pss_cons (ps_set (i := 5) (z__law_maze T).nd rfl (Or.inl rfl) (pe_lst pa_nil))
  (pss_cons (ps_for (passes_of rfl) rfl (pi_range1 (by rfl) (l_range T) (pa_cons (pcall h__law_taken (hr.mono (by omega)) (g__law_taken T) (pa_cons (pv 0) (pa_cons (pe_op oAddI (pv 2) pe_int) pa_nil))) pa_nil)) (pg_name (i := 6) (z__law_maze T).nd rfl (Or.inl rfl)) (pss_one (ps_expr (bmK K PySem.F.plainAttrs_list PySem.F.slot_list_append PySem.F.type_list_append mt_append (pv 5) (pa_cons (pe_tup (pa_cons (pcall h__law_taken (hr.mono (by omega)) (g__law_taken T) (pa_cons (pv 0) (pa_cons (pv 4) pa_nil))) (pa_cons (pcall h__law_taken (hr.mono (by omega)) (g__law_taken T) (pa_cons (pv 0) (pa_cons (pv 4) pa_nil))) (pa_cons (pe_op oAddI pe_int (pcall h__law_taken (hr.mono (by omega)) (g__law_taken T) (pa_cons (pv 0) (pa_cons pe_int pa_nil)))) (pa_cons (pe_op oAddI pe_int (pcall h__law_taken (hr.mono (by omega)) (g__law_taken T) (pa_cons (pv 0) (pa_cons pe_int pa_nil)))) pa_nil))))) pa_nil)))))
  (pss_one (ps_ret (pe_tup (pa_cons (pv 4) (pa_cons (pe_callTy (tupleK K) (by rfl) (l_tuple T) (by decide +kernel) (pa_cons (pv 5) pa_nil)) (pa_cons (pe_callTy (tupleK K) (by rfl) (l_tuple T) (by decide +kernel) (pa_cons (pe_lc (own := [("at", 7)]) rfl (z__law_maze T).nd (pi_range1 (by rfl) (l_range T) (pa_cons (pv 3) pa_nil)) (blkOk_by (N := n__law_maze) (sc := defScope s__law_maze) (by decide +kernel)) (fun _ _ _ _ _ => by exact (pg_name (i := 7) (z__law_maze T).nd rfl (Or.inl rfl))) (fun _ _ _ _ _ => by exact pts_nil) (fun _ _ _ _ _ => by exact (pcall h__law_taken (hr.mono (by omega)) (g__law_taken T) (pa_cons (pv 0) (pa_cons (pv 4) pa_nil))))) pa_nil)) pa_nil))))))))), ?_⟩
  refine ⟨_, rfl, _, rfl, r, c, ns, _, rfl, by omega, by omega, rw0, fun x H1 hx' hx e1 rw1 => ?_⟩
  obtain ⟨x, rfl⟩ := Int.eq_ofNat_of_zero_le hx'
  have t1 := rw_tex rw0 e1
  refine ⟨_, _, rfl, rfl, ?_⟩
  obtain ⟨many, hmany, hm0, hm1⟩ : ∃ many : Nat, (1 : Int) + (x : Int) = (many : Int) ∧ 1 ≤ many ∧ many ≤ 40 := ⟨1 + x, by omega, by omega, by omega⟩
  rw [hmany]
  refine ⟨by show 0 ≤ sizeLine; decide, fun F hF => ?_⟩
  have rw2 := rw1.ex (ex_new hF (o := .lst []))
  have hFr := rw_ne rw1 hF
  have hF0 : H F = none := by
    cases q : H F with
    | none => rfl
    | some o => rw [exb_get e1 q hFr] at hF; cases hF
  have e2 := e1.trans (exb_new (r := r) hF (o := .lst []))
  have t2 := t1.trans (ex_new hF (o := .lst [])).t
  have hF2 : upd H1 F (.lst []) F = some (.lst []) := upd_same
  generalize upd H1 F (.lst []) = H2 at rw2 e2 t2 hF2 ⊢
  refine ⟨_, rfl, _, rfl, _, _, rfl, rfl, r, c, ns, _, rfl, by omega, by omega, rw2, fun x3 H3 hx3' hx3 e3 rw3 => ?_⟩
  obtain ⟨x3, rfl⟩ := Int.eq_ofNat_of_zero_le hx3'
  have t3 := rw_tex rw2 e3
  refine ⟨_, rfl, by omega, by omega, ?_⟩
  rw [show ((x3 : Int)).toNat = x3 by omega]
  refine for_it (walk_range (lo := 0) (n := x3)) (fun i σ H' => (∃ x6 x7, σ = [some (.ref r), some (.int (rooms : Int)), some (.int (most : Int)), some (.int (doors : Int)), some (.int (many : Int)), some (.ref F), x6, x7]) ∧ ExB [r] H H' ∧ TEx H H' ∧ Rw K ns r c H' ∧ ∃ ps : List Pg, ∃ xs, H' F = some (.lst xs) ∧ RDs K H' (ps.map pgD) xs ∧ ps.length = i ∧ ∀ p ∈ ps, PgOk many p) ?_ (fun _ _ _ _ _ => trivial) ?_ ?_
  · exact ⟨⟨_, _, rfl⟩, e2.trans e3, t2.trans t3, rw3, [], [], exb_get e3 hF2 hFr, .nil, rfl, by simp⟩
  · rintro i y σ H4' H4 hi ⟨⟨x6, x7, rfl⟩, e4, t4, rw4, ps, xs, hF4, rps, hpl, hpk⟩ ⟨rfl, rfl⟩
    refine ⟨_, rfl, tl_list hF4, ?_⟩
    refine ⟨_, rfl, _, rfl, r, c, ns, _, rfl, by omega, by omega, rw4, fun a5 H5 ha5' ha5 e5 rw5 => ?_⟩
    obtain ⟨a5, rfl⟩ := Int.eq_ofNat_of_zero_le ha5'
    have t5 := rw_tex rw4 e5
    refine ⟨_, rfl, _, rfl, r, c, ns, _, rfl, by omega, by omega, rw5, fun a6 H6 ha6' ha6 e6 rw6 => ?_⟩
    obtain ⟨a6, rfl⟩ := Int.eq_ofNat_of_zero_le ha6'
    have t6 := rw_tex rw5 e6
    refine ⟨_, rfl, r, c, ns, _, rfl, by omega, by omega, rw6, fun a7 H7 ha7' ha7 e7 rw7 => ?_⟩
    obtain ⟨a7, rfl⟩ := Int.eq_ofNat_of_zero_le ha7'
    have t7 := rw_tex rw6 e7
    refine ⟨_, _, rfl, rfl, ?_⟩
    refine ⟨_, rfl, r, c, ns, _, rfl, by omega, by omega, rw7, fun a8 H8 ha8' ha8 e8 rw8 => ?_⟩
    obtain ⟨a8, rfl⟩ := Int.eq_ofNat_of_zero_le ha8'
    have t8 := rw_tex rw7 e8
    refine ⟨_, _, rfl, rfl, four_sz _ _ _ _, fun q hq => ?_⟩
    have f9 := ex_new hq (o := .tup [.int (a5 : Int), .int (a6 : Int), .int (1 + (a7 : Int)), .int (1 + (a8 : Int))])
    have e48 := ((e5.trans e6).trans e7).trans e8
    have t48 := ((t5.trans t6).trans t7).trans t8
    have hF9 := f9 _ _ (exb_get e48 hF4 hFr)
    have rp : RD K _ (pgD ⟨a5, a6, 1 + a7, 1 + a8⟩) (.ref q) := rd_new hq (.cons (.int _) (.cons (.int _) (.cons (by show RD K _ (.int ((1 + a7 : Nat) : Int)) _; rw [Int.natCast_add]; exact .int _) (.cons (by show RD K _ (.int ((1 + a8 : Nat) : Int)) _; rw [Int.natCast_add]; exact .int _) .nil))))
    have hxl : xs.length = i := by rw [rps.len, List.length_map, hpl]
    refine ⟨F, xs, _, rfl, rfl, hF9, Nat.lt_of_lt_of_le (show xs.length < 1000 by omega) (by decide), ?_⟩
    have t9 := tex_put (o' := .lst (xs ++ [.ref q])) hF9 (by intro xs z; cases z) (by intro a b z; cases z)
    refine ⟨⟨_, _, rfl⟩, exb_own ((e4.trans e48).trans f9.b) hF0, ((t4.trans t48).trans f9.t).trans t9, ?_, ps ++ [⟨a5, a6, 1 + a7, 1 + a8⟩], xs ++ [.ref q], upd_same, ?_, by rw [List.length_append, hpl]; rfl, ?_⟩
    · exact rw_own rw0 ((e4.trans e48).trans f9.b) (rw8.ex f9) hF0
    · rw [List.map_append]
      exact (((rps.mono t48).mono f9.t).mono t9).append (.cons (rp.mono t9) .nil)
    · intro p hp
      rcases List.mem_append.mp hp with hp | hp
      · exact hpk p hp
      · rw [List.mem_singleton.mp hp]
        exact ⟨by show a5 < many; omega, by show a6 < many; omega, ⟨by show 1 ≤ 1 + a7; omega, by show 1 + a7 ≤ 50; omega⟩, ⟨by show 1 ≤ 1 + a8; omega, by show 1 + a8 ≤ 99; omega⟩⟩
  · rintro σ H4 ⟨⟨x6, x7, rfl⟩, e4, t4, rw4, ps, xs, hF4, rps, hpl, hpk⟩
    refine ⟨_, rfl, _, rfl, F, _, rfl, .inl ⟨SqL.of hF4, fun u hu => ?_⟩⟩
    have f5 := ex_new hu (o := .tup xs)
    have rps5 : RD K (upd H4 u (.tup xs)) (.tup (ps.map pgD)) (.ref u) := rd_new hu rps
    have rw5 := rw4.ex f5
    have e5 := e4.trans f5.b
    have t5 := t4.trans f5.t
    generalize upd H4 u (.tup xs) = H5 at rps5 rw5 e5 t5 ⊢
    refine ⟨_, rfl, _, rfl, by omega, by omega, fun l hl => lc_it (walk_range0 (n := doors)) (fun i H' => ExB [r] H5 H' ∧ TEx H5 H' ∧ Rw K ns r c H' ∧ ∃ ds : List Nat, H' l = some (.lst (nV ds)) ∧ ds.length = i ∧ ∀ d ∈ ds, d < many) ?_ (fun _ _ _ _ => trivial) ?_ ?_⟩
    · exact ⟨exb_new hl, (ex_new hl).t, rw5.ex (ex_new hl), [], upd_same, rfl, by simp⟩
    · rintro i y H6' H6 hi ⟨e6, t6, rw6, ds, hl6, hdl, hdm⟩ ⟨rfl, rfl⟩
      refine ⟨rfl, _, rfl, _, rfl, r, c, ns, _, rfl, by omega, by omega, rw6, fun a7 H7 ha7' ha7 e7 rw7 => ?_⟩
      obtain ⟨a7, rfl⟩ := Int.eq_ofNat_of_zero_le ha7'
      have t7 := rw_tex rw6 e7
      have hlr := rw_ne rw5 hl
      have hl7 := exb_get e7 hl6 hlr
      have e57 := e6.trans e7
      refine ⟨_, hl7, Nat.lt_of_lt_of_le (show (nV ds).length < 1000 by rw [nV_len]; omega) (by decide), exb_own e57 hl, (t6.trans t7).trans (tex_put (o' := .lst (nV ds ++ [.int (a7 : Int)])) hl7 (by intro xs z; cases z) (by intro a b z; cases z)), rw_own rw5 e57 rw7 hl, ds ++ [a7], by rw [upd_same, nV_snoc], by rw [List.length_append, hdl]; rfl, fun d hd => ?_⟩
      rcases List.mem_append.mp hd with hd | hd
      · exact hdm d hd
      · rw [List.mem_singleton.mp hd]; omega
    · rintro H6 ⟨e6, t6, rw6, ds, hl6, hdl, hdm⟩
      refine ⟨l, _, rfl, .inl ⟨SqL.of hl6, fun q hq => ⟨three_sz _ _ _, fun mq hmq => ?_⟩⟩⟩
      have f7 := ex_new hq (o := .tup (nV ds))
      have rq : RD K (upd H6 q (.tup (nV ds))) (.tup (ds.map natD)) (.ref q) := by rw [natD_int]; exact rd_new hq (RDs.ofInts _ _ _)
      have f8 := f7.trans (ex_new hmq (o := .tup [.int (many : Int), .ref u, .ref q]))
      refine k ⟨many, ps, ds⟩ _ _ ((e5.trans e6).trans f8.b) ((t5.trans t6).trans f8.t) (rw6.ex f8) ⟨⟨hm0, hm1⟩, by show ps.length ≤ 120; omega, by show ds.length ≤ 12; omega, hpk, hdm⟩ hdl ?_
      exact tup3 (d1 := natD many) (.int _) ((rps5.mono t6).mono f7.t) rq hmq
end
end K09
/-! A pair of doors, by all kinds. -/
namespace K09
open PySem PySem.Spec
open PyProof.Rows L2 Sl Pm
section
variable {P : Program} {w : World} {K : PySem.W.Frag} {mg : Str → Option Value} {base : Heap} {H H0 H1 H2 B : Hp} {E : XK} {Q : VK} {m n e : Nat} {σ : L2.St} {r c : Addr} {ns : List Int}
theorem bd_room {z : Mz} (ok : MzOk z) {x : Nat} (hx : x < z.n) : bd z x x = 0 := by
  have Bb := bf_best (ps := z.ps.map Pm.rv) (room := x) (n := z.n) (fun p hp => ((rv_ok ok).p p hp).s) hx
  unfold bd
  rw [Bb.at_room]
theorem bd_some {z : Mz} (ok : MzOk z) {x y : Nat} (hx : x < z.n) : (∃ L c, bd z x y = L ∧ L ≤ 2000 ∧ Wk z.ps 0 x y L c) ∨ bd z x y = 1000000 := by
  have Bb := bf_best (ps := z.ps.map Pm.rv) (room := x) (n := z.n) (fun p hp => ((rv_ok ok).p p hp).s) hx
  unfold bd
  cases h : bf (z.ps.map Pm.rv) x z.n y with
  | none => exact .inr rfl
  | some v =>
    refine .inl ⟨v.1, v.2, rfl, ?_, wk_rev.mp (Bb.snd _ _ h)⟩
    obtain ⟨L', c', g1, g2, g3, g4⟩ := (Bb.snd _ _ h).short (fun p hp => ((rv_ok ok).p p hp).s) hx
    obtain ⟨u, h1, h2⟩ := Bb.com _ _ _ g4
    rw [h] at h1
    cases h1
    have := wk_len (fun p hp => ((rv_ok ok).p p hp).l.2) g4
    have := ok.n
    have g3 : c' < z.n := g3
    unfold leQ at h2
    simp only at h2
    omega
theorem bd_le {z : Mz} (ok : MzOk z) {x : Nat} (hx : x < z.n) (y : Nat) : bd z x y ≤ 1000000 := by
  rcases bd_some ok hx (y := y) with ⟨L, c, h, h2, _⟩ | h
  · omega
  · omega
theorem bd_step {z : Mz} (ok : MzOk z) {x : Nat} (hx : x < z.n) (p : Pg) (hp : p ∈ z.ps) : bd z x p.g ≤ bd z x p.s + p.l := by
  have Bb := bf_best (ps := z.ps.map Pm.rv) (room := x) (n := z.n) (fun p hp => ((rv_ok ok).p p hp).s) hx
  cases h : bf (z.ps.map Pm.rv) x z.n p.s with
  | none =>
    have : bd z x p.s = 1000000 := by unfold bd; rw [h]
    have := bd_le ok hx p.g
    omega
  | some v =>
    obtain ⟨u, h1, h2⟩ := Bb.relaxed (p := Pm.rv p) (List.mem_map_of_mem hp) h
    have h1 : bf (z.ps.map Pm.rv) x z.n p.g = some u := h1
    have e1 : bd z x p.s = v.1 := by unfold bd; rw [h]
    have e2 : bd z x p.g = u.1 := by unfold bd; rw [h1]
    have h2 : leQ u (v.1 + p.l, v.2 + 1) := h2
    unfold leQ at h2
    simp only at h2
    omega
/-- two lists of numbers -/
theorem neL {a b : Addr} {S S' : List Nat} (ha : H a = some (.lst (nV S))) (hb : H b = some (.lst (nV S'))) (k1 : S = S' → Q (.bl false) H) (k2 : S ≠ S' → Q (.bl true) H) : rNeD K (.ref a) (.ref b) H Q := by
  by_cases h : S = S'
  · subst h
    exact neL_same ha hb (k1 rfl)
  have hn : ∀ S : List Nat, Nb 1 (.tup (S.map natD)) := fun S d hd => by
    obtain ⟨x, _, rfl⟩ := List.mem_map.mp hd
    trivial
  have hr : ∀ S, RDs K H (S.map natD) (nV S) := fun S => by rw [natD_int]; exact RDs.ofInts _ _ _
  have c4 : ∀ S : List Nat, SeqAt.shaped (.list (dPs (S.map natD))) = true := fun S => by
    obtain ⟨c1, c2⟩ := (hn S).shape
    have c1 : PyData.canLayAll0 (dPs (S.map natD)) = true := by simpa [dP, PyData.canLay0] using c1
    have c2 : PyData.depthAll (dPs (S.map natD)) ≤ 0 := by simpa [dP, PyData.depth] using c2
    simp [SeqAt.shaped, PyData.canLay0, PyData.depth, c1]
    omega
  refine ⟨.list (dPs (S.map natD)), .list (dPs (S'.map natD)), .lst (SqL.of ha) (RDs.dp (hr S)), .lst (SqL.of hb) (RDs.dp (hr S')), c4 S, c4 S', ?_⟩
  have hne : D.tup (S.map natD) ≠ .tup (S'.map natD) := fun zz => h (by
    have zz := D.tup.inj zz
    have inj : ∀ {l l' : List Nat}, l.map natD = l'.map natD → l = l' := fun {l l'} q => by
      have : (l.map natD).map (fun d => match d with | .int i => i.toNat | _ => 0) = (l'.map natD).map (fun d => match d with | .int i => i.toNat | _ => 0) := by rw [q]
      rw [List.map_map, List.map_map] at this
      have f : ((fun d : D => match d with | .int i => i.toNat | _ => 0) ∘ natD) = id := funext fun x => by simp [natD]
      rw [f, List.map_id, List.map_id] at this
      exact this
    exact inj zz)
  have c5 : PyData.eqv (.list (dPs (S.map natD))) (.list (dPs (S'.map natD))) = false := by
    have := eqvF (hn S) (hn S') hne
    simpa [dP, PyData.eqv] using this
  rw [c5]
  exact k2 h
theorem sum_cast : ∀ l : List Nat, ((l.map fun x => ((x : Nat) : Int)).sum : Int) = ((l.sum : Nat) : Int)
  | [] => rfl
  | x :: l => by rw [List.map_cons, List.sum_cons, List.sum_cons, sum_cast l, Int.natCast_add]
def spPair (K : PySem.W.Frag) : Sp := fun vs H Q _ => ∃ (z : Mz) (v : V) (i j m : Nat) (ws : Addr) (d1 d2 d3 d4 : D), vs = [v, .int (i : Int), .int (j : Int), .ref ws] ∧ RD K H (mzD z) v ∧ MzOk z ∧ i < z.ds.length ∧ j < z.ds.length ∧ m ≤ 12 ∧ DL K H ws [d1, d2, d3, d4] ∧
  rp .can m d1 (clos z (dr z i) (dr z j)) ∧ rp .least m d2 (clos z (dr z i) (dr z j)) ∧ rp .wide m d3 (clos z (dr z i) (dr z j)) ∧ rp .count m d4 (clos z (dr z i) (dr z j)) ∧ ∀ H', Ex H H' → Q (.bl true) H'
theorem ok_pair (T : Tx K mg) : Has P w K mg base 7 (a__law_pair K) p__law_pair (spPair K) := by
  refine has_of (f__law_pair T) (z__law_pair T) (b__law_pair T) (fun vs H Q E h => by obtain ⟨_, _, _, _, _, _, _, _, _, _, rfl, _⟩ := h; rfl) (fun cdv A outer s H vs Q E hr h => ?_)
  obtain ⟨z, v, i, j, m, ws, d1, d2, d3, d4, rfl, rv, ok, hi, hj, hm, hws, p1, p2, p3, p4, k⟩ := h
  have h_least_way := ok_leastWay (P := P) (w := w) (base := base) T
  have h_wide_way := ok_wideWay (P := P) (w := w) (base := base) T
  have h_cut := ok_cut (P := P) (w := w) (base := base) T
  have h_is_way := ok_isWay (P := P) (w := w) (base := base) T
  have h_is_bound := ok_isBound (P := P) (w := w) (base := base) T
  have h_bound := ok_bound (P := P) (w := w) (base := base) T
  have h_is_cut := ok_isCut (P := P) (w := w) (base := base) T
  refine ⟨_, (pss_cons (ps_asg (pv 3) (unlK K (n := 4) (pgs_cons (pg_name (i := 4) (z__law_pair T).nd rfl (Or.inl rfl)) (pgs_cons (pg_name (i := 5) (z__law_pair T).nd rfl (Or.inl rfl)) (pgs_cons (pg_name (i := 6) (z__law_pair T).nd rfl (Or.inl rfl)) (pgs_cons (pg_name (i := 7) (z__law_pair T).nd rfl (Or.inl rfl)) pgs_nil))))))
  (pss_cons (ps_if (PW.pt (pw_or (pt_cmpR op_ne (pe_cmpR op_eq (pv 4) pe_int (nomark _)) (pe_cmpR oNoNo (pv 5) pe_non (nomark _)) (nomark _)) (pw_or1 (pt_cmpR op_ne (pe_cmpR op_eq (pv 4) pe_int (nomark _)) (pe_cmpR oGtI (pv 6) pe_int (nomark _)) (nomark _))))) (pss_one (ps_ret pe_bl)) pss_nil)
  (pss_cons (ps_setLc (i := 8) (own := [("length", 9), ("own", 10)]) rfl (z__law_pair T).nd rfl rfl (sw_true rfl rfl rfl (by decide +kernel)) (pi_enumT (by rfl) (l_enumerate T) (pa_cons (pv 7) pa_nil)) (blkOk_by (N := n__law_pair) (sc := defScope s__law_pair) (by decide +kernel)) (fun _ _ _ _ _ => by exact (tupK K (n := 2) (pgs_cons (pg_name (i := 9) (z__law_pair T).nd rfl (Or.inl rfl)) (pgs_cons (pg_name (i := 10) (z__law_pair T).nd rfl (Or.inl rfl)) pgs_nil)))) (fun _ _ _ _ _ => by exact (pts_one (pt_cmpR oGtI (pv 10) pe_int (nomark _)))) (fun _ _ _ _ _ => by exact (pv 9)))
  (pss_cons (ps_if (PW.pt (pw_or (PW.pt (pw_and (pt_cmpR oNoNo (pv 5) pe_non (nomark _)) (pw_and (pt_cmpR oLtI (pv 5) (pe_callB (lenK K) (by rfl) (l_len T) (by decide +kernel) (pa_cons (pv 7) pa_nil)) (nomark _)) (pw_and1 (pt_cmpR (neDK K hr.units) (pe_slice (slL K) (pv 8) po_none (po_some pe_int)) (pe_lst (pa_cons (pv 5) pa_nil)) (nomark _)))))) (pw_or1 (PW.pt (pw_and (pt_cmpR (neDK K hr.units) (pv 8) (pe_lst pa_nil) (nomark _)) (pw_and1 (pt_cmpR op_ne (pv 5) (pe_ix (ixL K) (pv 8) pe_int (fun _ _ => rfl)) (nomark _)))))))) (pss_one (ps_ret pe_bl)) pss_nil)
  (pss_cons (ps_par (i := 11) (j := 12) rfl (z__law_pair T).nd rfl rfl (by decide) rfl rfl (pa_cons (pcall h_least_way (hr.mono (by omega)) (g_least_way T) (pa_cons (pv 0) (pa_cons (pv 1) (pa_cons (pv 2) pa_nil)))) (pa_cons (pcall h_wide_way (hr.mono (by omega)) (g_wide_way T) (pa_cons (pv 0) (pa_cons (pv 1) (pa_cons (pv 2) pa_nil)))) pa_nil)) rfl)
  (pss_cons (ps_if (pt_cmpR oIsNo (pv 5) pe_non (nomark _)) (pss_one (ps_ret (pe_and (pe_cmpR oIsNo (pv 11) pe_non (nomark _)) (pe_and (pe_cmpR oIsNo (pv 12) pe_non (nomark _)) (pe_one (pe_cmpR oNoNo (pcall h_cut (hr.mono (by omega)) (g_cut T) (pa_cons (pv 0) (pa_cons (pv 1) (pa_cons (pv 2) (pa_cons pe_int pa_nil))))) pe_non (nomark _))))))) pss_nil)
  (pss_cons (ps_if (PW.pt (pw_or (pt_not (pt_val (pcall h_is_way (hr.mono (by omega)) (g_is_way T) (pa_cons (pv 0) (pa_cons (pv 1) (pa_cons (pv 2) (pa_cons (pv 11) pa_nil))))))) (pw_or1 (pt_not (pt_val (pcall h_is_way (hr.mono (by omega)) (g_is_way T) (pa_cons (pv 0) (pa_cons (pv 1) (pa_cons (pv 2) (pa_cons (pv 12) pa_nil)))))))))) (pss_one (ps_ret pe_bl)) pss_nil)
  (pss_cons (ps_if (PW.pt (pw_or (pt_cmpR op_ne (pe_callB (cr_sum rfl) (by rfl) (l_sum T) (by decide +kernel) (pa_cons (pe_lc (own := [("at", 13)]) rfl (z__law_pair T).nd (tupW K (pv 11)) (blkOk_by (N := n__law_pair) (sc := defScope s__law_pair) (by decide +kernel)) (fun _ _ _ _ _ => by exact (pg_name (i := 13) (z__law_pair T).nd rfl (Or.inl rfl))) (fun _ _ _ _ _ => by exact pts_nil) (fun _ _ _ _ _ => by exact (pe_ix (ixT K) (pe_ix (ixT K) (pe_ix (ixT K) (pv 0) pe_int (fun _ _ => rfl)) (pv 13) (fun _ _ => rfl)) pe_int (fun _ _ => rfl)))) pa_nil)) (pv 5) (nomark _)) (pw_or1 (pt_cmpR op_ne (pe_callB (cr_min rfl) (by rfl) (l_min T) (by decide +kernel) (pa_cons (pe_op op_cat (pe_lst (pa_cons pe_int pa_nil)) (pe_lc (own := [("at", 13)]) rfl (z__law_pair T).nd (tupW K (pv 12)) (blkOk_by (N := n__law_pair) (sc := defScope s__law_pair) (by decide +kernel)) (fun _ _ _ _ _ => by exact (pg_name (i := 13) (z__law_pair T).nd rfl (Or.inl rfl))) (fun _ _ _ _ _ => by exact pts_nil) (fun _ _ _ _ _ => by exact (pe_ix (ixT K) (pe_ix (ixT K) (pe_ix (ixT K) (pv 0) pe_int (fun _ _ => rfl)) (pv 13) (fun _ _ => rfl)) pe_int (fun _ _ => rfl))))) pa_nil)) (pv 6) (nomark _))))) (pss_one (ps_ret pe_bl)) pss_nil)
  (pss_cons (ps_if (pt_not (pt_val (pcall h_is_bound (hr.mono (by omega)) (g_is_bound T) (pa_cons (pv 0) (pa_cons (pv 1) (pa_cons (pv 2) (pa_cons (pv 5) (pa_cons (pcall h_bound (hr.mono (by omega)) (g_bound T) (pa_cons (pv 0) (pa_cons (pv 1) pa_nil))) pa_nil)))))))) (pss_one (ps_ret pe_bl)) pss_nil)
  (pss_cons (ps_if (PW.pt (pw_and (pt_cmpR oLtI (pv 6) pe_int (nomark _)) (pw_and1 (pt_not (pt_val (pcall h_is_cut (hr.mono (by omega)) (g_is_cut T) (pa_cons (pv 0) (pa_cons (pv 1) (pa_cons (pv 2) (pa_cons (pv 6) (pa_cons (pcall h_cut (hr.mono (by omega)) (g_cut T) (pa_cons (pv 0) (pa_cons (pv 1) (pa_cons (pv 2) (pa_cons (pv 6) pa_nil))))) pa_nil))))))))))) (pss_one (ps_ret pe_bl)) pss_nil)
  (pss_one (ps_ret (pe_cmpR oIsNo (pcall h_cut (hr.mono (by omega)) (g_cut T) (pa_cons (pv 0) (pa_cons (pv 1) (pa_cons (pv 2) (pa_cons (pe_op oSubI (pv 6) pe_int) pa_nil))))) pe_non (nomark _)))))))))))))), ?_⟩
  have hx := dr_lt ok hi
  have hy := dr_lt ok hj
  have hch := clos_ch ok (dr z i) (dr z j)
  have hcp := fun L t => clos_p (z := z) ok (j := dr z j) (t := t) L (dr z i)
  have ho1 := ok.n
  have ho2 := ok.pl
  have eleast := fun L0 h1 h2 as hw hm' => least_len (L0 := L0) (as := as) ok (x := dr z i) (y := dr z j) h1 h2 hw hm'
  have esmall := fun L0 h1 h2 => least_small (L0 := L0) ok (x := dr z i) hy h1 h2
  have ewide := fun W t mw as ws h1 h2 h3 h4 h5 h6 h7 h8 h9 => wide_min (W := W) (t := t) (mw := mw) (as := as) (ws := ws) ok (x := dr z i) (y := dr z j) h1 h2 h3 h4 h5 h6 h7 h8 h9
  have enw := no_wk (x := dr z i) (y := dr z j) ok
  have enw1 := no_wk1 (x := dr z i) (y := dr z j) ok
  have ewk1 := fun L c (h : Wk z.ps 0 (dr z i) (dr z j) L c) => wk01 ok h
  generalize clos z (dr z i) (dr z j) = a at p1 p2 p3 p4 hch hcp eleast esmall ewide enw enw1
  obtain ⟨x1, rfl, _⟩ := rp_int (.inl rfl) p1
  obtain ⟨W, rfl, hW⟩ := rp_int (.inr rfl) p3
  rw [can_iff] at p1
  rw [wide_iff] at p3
  rw [count_iff] at p4
  subst p4
  obtain ⟨xs, hxs, rx⟩ := hws
  obtain ⟨v1, _, rfl, r1, rx⟩ := rx.ofCons
  obtain ⟨v2, _, rfl, r2, rx⟩ := rx.ofCons
  obtain ⟨v3, _, rfl, r3, rx⟩ := rx.ofCons
  obtain ⟨v4, _, rfl, r4, rx⟩ := rx.ofCons
  obtain rfl := rx.ofNil
  obtain rfl := r1.ofInt
  obtain rfl := r3.ofInt
  obtain ⟨cnt, cs, rfl, hcnt, rcs⟩ := r4.ofTup
  have hcs : cs = (List.range (m + 1)).map fun L => V.int (cn a L : Int) := by
    have : ((List.range (m + 1)).map fun L => D.int (cn a L : Int)) = ((List.range (m + 1)).map fun L => (cn a L : Int)).map D.int := by rw [List.map_map]; rfl
    rw [this] at rcs
    rw [rcs.ints, List.map_map]
    rfl
  subst hcs
  have hE : ∀ L, (a.c L).p 1 → x1 = 1 ∧ 1 ≤ W := fun L hL => ⟨by
    rcases p1 with ⟨h, _⟩ | ⟨_, h⟩
    · exact h
    · exact absurd hL (h L), (p3.2 1 (Nat.le_refl _) (by decide)).mpr ⟨L, hL⟩⟩
  have hN : (∀ L, ¬ (a.c L).p 1) → x1 = 0 ∧ W = 0 := fun hL => ⟨by
    rcases p1 with ⟨_, L, h⟩ | ⟨h, _⟩
    · exact absurd h (hL L)
    · exact h, by
    by_cases q : W = 0
    · exact q
    · obtain ⟨L, h⟩ := (p3.2 1 (Nat.le_refl _) (by decide)).mp (by omega)
      exact absurd h (hL L)⟩
  have hC1 : decide (V.int (x1 : Int) = .int 1) = !decide (v2 = .non) := by
    rcases p2 with ⟨L, rfl, h1, _⟩ | ⟨rfl, h1⟩
    · obtain rfl := r2.ofInt
      rw [(hE L h1).1]
      simp
    · obtain rfl := r2.ofNon
      rw [(hN h1).1]
      simp
  have hC2 : decide (V.int (x1 : Int) = .int 1) = decide ((0 : Int) < (W : Int)) := by
    by_cases q : ∃ L, (a.c L).p 1
    · obtain ⟨L, h⟩ := q
      have := (hE L h).2
      rw [(hE L h).1, decide_eq_true (show V.int ((1 : Nat) : Int) = .int 1 from rfl), decide_eq_true (by omega)]
    · have := hN fun L h => q ⟨L, h⟩
      rw [this.1, this.2]
      simp
  refine ⟨_, rfl, ws, _, rfl, SqL.of hxs, rfl, _, _, rfl, _, _, rfl, _, _, rfl, _, _, rfl, rfl, ?_⟩
  refine ⟨_, rfl, rfl, _, rfl, rfl, rfl, _, rfl, iteF' (by rw [hC1]; simp) ?_⟩
  refine ⟨_, rfl, rfl, _, rfl, _, _, rfl, rfl, rfl, _, rfl, iteF' (by rw [hC2]; simp) ?_⟩
  have hcl : ((List.range (m + 1)).map fun L => V.int (cn a L : Int)).length = m + 1 := by rw [List.length_map, List.length_range]
  have hwq := walk_Q (K := K) (a := cnt) (xs := (List.range (m + 1)).map fun L => V.int (cn a L : Int))
  rw [hcl] at hwq
  refine ⟨_, rfl, cnt, _, rfl, hcnt, fun l hl => lcD (K := K) hl hwq (fun q => (som a q).map natD) rfl (fun H' e' => e'.t.sq hcnt) (fun q hq => by rw [List.length_map]; have := som_len a q; omega) (fun q x H2' H2 hq e2 yy R N kR kN => ?_) (fun H3 zs e3 hz r3 => ?_)⟩
  · obtain ⟨tt, y', rfl, htt, rfl, hyy⟩ := yy
    rw [map_at' hq] at hyy
    cases hyy
    have f3 := ex_new htt (o := .tup [.int (q : Nat), .int (cn a q : Int)])
    refine ⟨tt, _, rfl, .inl (.inl upd_same), rfl, _, _, rfl, _, _, rfl, rfl, rfl, ?_⟩
    refine ⟨_, rfl, _, _, rfl, rfl, _, rfl, ifBH (fun cc => ?_) (fun cc => ?_)⟩
    · have cc : 0 < cn a q := by have := of_decide_eq_true cc; omega
      refine ⟨_, rfl, kR _ _ (natD q) f3 (.int _) ?_⟩
      rw [som_succ, if_pos cc, List.map_append]
      rfl
    · have cc : ¬ 0 < cn a q := by have := of_decide_eq_false cc; omega
      refine kN _ f3 ?_
      rw [som_succ, if_neg cc]
  rw [natD_int] at r3
  obtain rfl := r3.ints
  have hz : H3 l = some (.lst (nV (som a (m + 1)))) := hz
  have hcnt3 := e3.t.sq hcnt
  have rv3 := rv.mono e3.t
  clear hxs hcnt rv
  by_cases hY : ∃ L, (a.c L).p 1
  · -- there are ways
    obtain ⟨L1, hL1⟩ := hY
    obtain ⟨hx1, hW1⟩ := hE L1 hL1
    obtain ⟨L0, rfl, h1, h2⟩ : ∃ L0 : Nat, v2 = .int (L0 : Int) ∧ (a.c L0).p 1 ∧ ∀ L, L < L0 → ¬ (a.c L).p 1 := by
      rcases p2 with ⟨L, rfl, h1, h2⟩ | ⟨_, h1⟩
      · exact ⟨L, r2.ofInt, h1, h2⟩
      · exact absurd hL1 (h1 L1)
    have hsmall := esmall L0 h1 h2
    have step2 : ∀ (R : Bool → Hp → Prop) H4, Ex H3 H4 → (∀ H', Ex H3 H' → R false H') → tAnd (tTest (tOp (rNeD K) (tVar 8) (tLst tNil))) (tTest (tOp rNe (tVar 5) (tOp (rIxL K) (tVar 8) (tC (V.int 0))))) [some v, some (.int (i : Int)), some (.int (j : Int)), some (.ref ws), some (.int (x1 : Int)), some (.int (L0 : Int)), some (.int (W : Int)), some (.ref cnt), some (.ref l), none, none, none, none, none] H4 R := fun R H4 e4 kk => by
      have hz4 := e4 _ _ hz
      refine ⟨_, rfl, by show 0 ≤ sizeLine; decide, fun q hq => ?_⟩
      have f5 := ex_new hq (o := .lst [])
      refine neL (S := som a (m + 1)) (S' := []) (f5 _ _ hz4) upd_same (fun _ => ⟨_, rfl, iteF (kk _ (e4.trans f5))⟩) (fun hne => ⟨_, rfl, iteT ?_⟩)
      have hlt : L0 < m + 1 := by
        by_cases q : L0 < m + 1
        · exact q
        · exact absurd (som_low hch h2 (m + 1) (by omega)) hne
      obtain ⟨rr, hrr⟩ := som_head hch h1 h2 (m + 1) hlt
      refine ⟨_, rfl, _, rfl, l, nV (som a (m + 1)), _, _, rfl, rfl, SqL.of (f5 _ _ hz4), atI_nat (j := 0) (nV_get (x := L0) (by rw [hrr]; rfl)), rfl, _, rfl, ?_⟩
      have : (!decide (V.int (L0 : Int) = V.int (L0 : Int))) = false := by simp
      rw [this]
      exact kk _ (e4.trans f5)
    have hcond : ∀ (R : Bool → Hp → Prop), (∀ H', Ex H3 H' → R false H') → tOr (tAnd (tTest (tOp rNoNo (tVar 5) (tC .non))) (tAnd (tTest (tOp rLtI (tVar 5) (tCB (rLenQ K) (tCons (tVar 7) tNil)))) (tTest (tOp (rNeD K) (tSl (rSlL K) (tVar 8) tNoPart (tPart (tC (.int 1)))) (tLst (tCons (tVar 5) tNil)))))) (tAnd (tTest (tOp (rNeD K) (tVar 8) (tLst tNil))) (tTest (tOp rNe (tVar 5) (tOp (rIxL K) (tVar 8) (tC (V.int 0)))))) [some v, some (.int (i : Int)), some (.int (j : Int)), some (.ref ws), some (.int (x1 : Int)), some (.int (L0 : Int)), some (.int (W : Int)), some (.ref cnt), some (.ref l), none, none, none, none, none] H3 R := fun R kk => by
      refine ⟨_, rfl, rfl, _, rfl, iteT' (by simp) ?_⟩
      refine ⟨_, rfl, _, rfl, cnt, _, rfl, .inr hcnt3, _, _, rfl, rfl, _, rfl, ifBH (fun cc => ?_) (fun cc => ?_)⟩
      · have cc : L0 < m + 1 := by have := of_decide_eq_true cc; rw [hcl] at this; omega
        obtain ⟨rr, hrr⟩ := som_head hch h1 h2 (m + 1) cc
        refine ⟨_, rfl, _, rfl, l, _, rfl, SqL.of hz, fun p hp => ⟨_, rfl, one_sz _, fun q hq => ?_⟩⟩
        have hcut : cutV (nV (som a (m + 1))) none (some 1) = nV [L0] := by
          rw [hrr]
          unfold cutV
          rw [HT.sIx_none]
          show ((nV (L0 :: rr)).drop 0).take (HT.sIx (nV (L0 :: rr)).length (nV (L0 :: rr)).length (some ((1 : Nat) : Int)) - 0) = _
          rw [HT.sIx_nat, nV_len, List.length_cons, Nat.min_eq_left (by omega)]
          rfl
        rw [hcut] at hq ⊢
        have f5 := ex_new hp (o := .lst (nV [L0]))
        have f6 := f5.trans (ex_new hq (o := .lst [.int (L0 : Int)]))
        refine neL (S := [L0]) (S' := [L0]) (ex_new hq _ _ upd_same) upd_same (fun _ => ⟨_, rfl, iteF (step2 _ _ f6 kk)⟩) (fun hne => absurd rfl hne)
      · exact iteF (step2 _ _ (Ex.refl _) kk)
    refine hcond _ fun H4 e34 => iteF ?_
    have rv4 := rv3.mono e34.t
    have e4 := e3.trans e34
    refine ⟨_, rfl, _, rfl, _, rfl, z, v, i, j, rfl, rv4, ok, hi, hj, fun H5 e5 hno => ?_, fun as u H5 e5 hway hmin hal ru => ?_⟩
    · obtain ⟨c, hk⟩ := (hcp L1 1).mp hL1
      exact absurd (hk.mono (Nat.zero_le _)) (hno _ _)
    refine ⟨_, rfl, _, rfl, _, rfl, z, v, i, j, rfl, rv4.mono e5.t, ok, hi, hj, fun H6 e6 hno => ?_, fun t bs u2 H6 e6 ht hts hway2 hwd hbl0 ru2 => ?_⟩
    · obtain ⟨c, hk⟩ := (hcp L1 1).mp hL1
      exact absurd hk (hno _ _)
    refine ⟨_, _, rfl, ?_⟩
    have e46 := e5.trans e6
    have rv6 := rv4.mono e46.t
    have ru6 := ru.mono e6.t
    have hbl : bs.length ≤ 1000 := by omega
    refine ⟨_, rfl, rfl, _, rfl, iteF' (by simp) ?_⟩
    refine ⟨_, rfl, _, rfl, _, rfl, _, rfl, z, v, u, i, j, as, rfl, rv6, ok, hi, hj, ru6, by omega, hway, fun H7 e7 => ⟨_, rfl, iteF' rfl ?_⟩⟩
    refine ⟨_, rfl, _, rfl, _, rfl, _, rfl, z, v, u2, i, j, bs, rfl, rv6.mono e7.t, ok, hi, hj, ru2.mono e7.t, hbl, hway2, fun H8 e8 => ⟨_, rfl, iteF' rfl ?_⟩⟩
    have e68 := e7.trans e8
    obtain ⟨am, bm, cm, xs, rfl, ham, hbm, rbm, lxm, _⟩ := mzS (rv6.mono e68.t)
    obtain ⟨ua, rfl, hua⟩ := tupN (ru6.mono e68.t)
    obtain ⟨ub, rfl, hub⟩ := tupN (ru2.mono e68.t)
    have hwa := walk_tup (K := K) (a := ua) (xs := nV as)
    rw [nV_len] at hwa
    refine ⟨_, rfl, ua, rfl, ⟨_, hua⟩, fun l1 hl1 => lcD (K := K) hl1 hwa (fun q => ((as.take q).map fun b => (z.ps[b]?.map (·.l)).getD 0).map natD) rfl (fun H' e' => e'.t.sq hua) (fun q hq => by rw [List.length_map, List.length_map, List.length_take]; omega) (fun q x H2' H2 hq e2 y R N kR kN => ?_) (fun H9 zs e9 hz9 r9 => ?_)⟩
    · obtain ⟨rfl, hx⟩ := y
      obtain ⟨b, hb, rfl⟩ := nV_at hx
      have hbl := hway.lt b (List.mem_of_getElem? hb)
      have hpk : z.ps[b]? = some z.ps[b] := List.getElem?_eq_getElem hbl
      obtain ⟨tp, t1, t2⟩ := pgS (rbm.mono e2.t) hpk
      refine ⟨rfl, _, rfl, am, _, _, _, rfl, rfl, e2.t.sq ham, rfl, _, rfl, bm, _, _, _, rfl, rfl, e2.t.sq hbm, atI_nat t1, tp, _, _, _, rfl, rfl, t2, rfl, kR _ _ (natD z.ps[b].l) (Ex.refl _) (.int _) ?_⟩
      rw [List.take_add_one, hb, List.map_append, List.map_append]
      show _ ++ [natD ((z.ps[b]?.map (·.l)).getD 0)] = _
      rw [hpk]
      rfl
    rw [List.take_of_length_le (Nat.le_refl _), natD_int] at r9
    obtain rfl := r9.ints
    have hsum : (((as.map fun b => (z.ps[b]?.map (·.l)).getD 0).map fun x => ((x : Nat) : Int)).sum : Int) = ((lenW z.ps as : Nat) : Int) := sum_cast _
    refine ⟨l1, _, rfl, SqL.of hz9, ?_⟩
    rw [hsum, eleast L0 h1 h2 as hway hmin]
    refine ⟨_, rfl, rfl, _, rfl, iteF' (by simp) ?_⟩
    have hwb := walk_tup (K := K) (a := ub) (xs := nV bs)
    rw [nV_len] at hwb
    refine ⟨one_sz _, fun q1 hq1 => ?_⟩
    have f10 := e9.trans (ex_new hq1 (o := .lst [.int 1000]))
    have hq10 : upd H9 q1 (.lst [.int 1000]) q1 = some (.lst [.int 1000]) := upd_same
    generalize upd H9 q1 (.lst [.int 1000]) = H10 at f10 hq10 ⊢
    have ham10 := f10.t.sq ham
    have hbm10 := f10.t.sq hbm
    have hub10 := f10.t.sq hub
    have rbm10 := rbm.mono f10.t
    refine ⟨_, rfl, ub, rfl, ⟨_, hub10⟩, fun l2 hl2 => lcD (K := K) hl2 hwb (fun q => ((bs.take q).map fun b => (z.ps[b]?.map (·.w)).getD 0).map natD) rfl (fun H' e' => e'.t.sq hub10) (fun q hq => by rw [List.length_map, List.length_map, List.length_take]; omega) (fun q x H2' H2 hq e2 y R N kR kN => ?_) (fun H11 zs e11 hz11 r11 => ?_)⟩
    · obtain ⟨rfl, hx⟩ := y
      obtain ⟨b, hb, rfl⟩ := nV_at hx
      have hbl := hway2.lt b (List.mem_of_getElem? hb)
      have hpk : z.ps[b]? = some z.ps[b] := List.getElem?_eq_getElem hbl
      obtain ⟨tp, t1, t2⟩ := pgS (rbm10.mono e2.t) hpk
      refine ⟨rfl, _, rfl, am, _, _, _, rfl, rfl, e2.t.sq ham10, rfl, _, rfl, bm, _, _, _, rfl, rfl, e2.t.sq hbm10, atI_nat t1, tp, _, _, _, rfl, rfl, t2, rfl, kR _ _ (natD z.ps[b].w) (Ex.refl _) (.int _) ?_⟩
      rw [List.take_add_one, hb, List.map_append, List.map_append]
      show _ ++ [natD ((z.ps[b]?.map (·.w)).getD 0)] = _
      rw [hpk]
      rfl
    rw [List.take_of_length_le (Nat.le_refl _), natD_int] at r11
    obtain rfl := r11.ints
    refine ⟨q1, l2, _, _, rfl, rfl, e11 _ _ hq10, hz11, Nat.le_trans (show 1 + _ ≤ 1001 by rw [List.length_map, List.length_map, List.length_map]; omega) (by decide), fun pp3 hp3 => ?_⟩
    refine ⟨pp3, ((1000 :: bs.map fun b => (z.ps[b]?.map (·.w)).getD 0).map fun x : Nat => ((x : Nat) : Int)), rfl, SqL.of upd_same, by simp, fun mm hmm hmn => ?_⟩
    obtain ⟨mw, hmw, rfl⟩ := List.mem_map.mp hmm
    have hmW := ewide W t mw bs _ hW hW1 p3.2 hts hway2 hwd rfl hmw fun v hv => by
      have := hmn _ (List.mem_map.mpr ⟨v, hv, rfl⟩)
      omega
    subst hmW
    refine ⟨_, rfl, rfl, _, rfl, iteF' (by simp) ?_⟩
    have e812 := (f10.trans e11).trans (ex_new hp3 (o := .lst ([.int 1000] ++ (List.map (fun x => ((x : Nat) : Int)) (List.map (fun b => (z.ps[b]?.map (·.w)).getD 0) bs)).map V.int)))
    have e312 := (e46.trans e68).trans e812
    have rv12 := rv4.mono e312.t
    have e012 := e4.trans e312
    generalize upd H11 pp3 _ = H12 at e312 rv12 e012 ⊢
    refine ⟨_, rfl, _, rfl, _, rfl, _, rfl, _, rfl, _, rfl, z, _, i, rfl, rv12, ok, hi, fun vb H13 e13 rb => ?_⟩
    refine ⟨z, _, vb, i, j, L0, bd z (dr z i), rfl, rv12.mono e13.t, ok, hi, hj, rb, by omega, fun x _ => bd_le ok hx x, bd_room ok hx, ?_, bd_step ok hx, fun H14 e14 => ⟨_, rfl, iteF' rfl ?_⟩⟩
    · rcases bd_some ok hx (y := dr z j) with ⟨L, c, q1, q2, q3⟩ | q1
      · rw [q1]
        have : ¬ L < L0 := fun q => h2 L q ((hcp L 1).mpr ⟨c, ewk1 L c q3⟩)
        omega
      · rw [q1]; omega
    have rv14 := rv12.mono (e13.trans e14).t
    have e014 := (e012.trans e13).trans e14
    have last : ∀ H', Ex H14 H' → tOp rIsNo (tCall (spCut K) [] E0 (tCons (tVar 0) (tCons (tVar 1) (tCons (tVar 2) (tCons (tOp rSubI (tVar 6) (tC (.int 1))) tNil))))) (tC .non) [some (.ref am), some (.int (i : Int)), some (.int (j : Int)), some (.ref ws), some (.int (x1 : Int)), some (.int (L0 : Int)), some (.int (mw : Int)), some (.ref cnt), some (.ref l), none, none, some (.ref ua), some (.ref ub), none] H' Q := fun H' e' => by
      refine ⟨_, rfl, _, rfl, _, rfl, _, rfl, _, _, rfl, rfl, z, _, i, j, mw - 1, ?_, rv14.mono e'.t, ok, hi, hj, by omega, fun H15 e15 hr => ?_, fun S u H15 e15 hnr _ _ _ => ?_⟩
      · rw [show ((mw - 1 : Nat) : Int) = (mw : Int) - 1 by omega]
        rfl
      · refine ⟨rfl, ?_⟩
        rw [vdec]
        exact k _ ((e014.trans e').trans e15)
      · refine absurd ?_ hnr
        obtain ⟨L, hL⟩ := (p3.2 mw hW1 hW).mp (Nat.le_refl _)
        obtain ⟨c, hk⟩ := (hcp L mw).mp hL
        exact ⟨L, c, by rw [show mw - 1 + 1 = mw by omega]; exact hk⟩
    refine ⟨_, rfl, _, _, rfl, rfl, _, rfl, ifBH (fun cc => ?_) (fun cc => iteF (last _ (Ex.refl _)))⟩
    have cc : mw < 1000 := by have := of_decide_eq_true cc; omega
    refine ⟨_, rfl, _, rfl, _, rfl, _, rfl, _, rfl, _, rfl, _, rfl, _, rfl, z, _, i, j, mw, rfl, rv14, ok, hi, hj, hW, fun H15 e15 hr => ?_, fun S u H15 e15 hnr hpw hS ru => ?_⟩
    · obtain ⟨L, c, hk⟩ := hr
      have := (p3.2 (mw + 1) (by omega) (by omega)).mpr ⟨L, (hcp L (mw + 1)).mpr ⟨c, hk⟩⟩
      omega
    · refine ⟨z, _, u, i, j, mw, S, rfl, rv14.mono e15.t, ok, hi, hj, hW, ru, hpw, fun r hr => ((hS r).mp hr).lt ok hx, (hS _).mpr ⟨0, 0, .nil _⟩, fun q => hnr ((hS _).mp q), fun p hp hs hg => ?_, fun H16 e16 => ⟨_, rfl, iteF' rfl (last _ (e15.trans e16))⟩⟩
      by_cases q : mw < p.w
      · exact absurd ((hS _).mpr (((hS _).mp hs).step hp q)) hg
      · omega
  · -- there are none
    have hno : ∀ L, ¬ (a.c L).p 1 := fun L h => hY ⟨L, h⟩
    obtain ⟨hx0, hW0⟩ := hN hno
    obtain rfl : v2 = .non := by
      rcases p2 with ⟨L, _, h1, _⟩ | ⟨rfl, _⟩
      · exact absurd h1 (hno L)
      · exact r2.ofNon
    have hso := som_none hch hno (m + 1)
    refine ⟨_, rfl, rfl, _, rfl, iteF' (by simp) (iteF ?_)⟩
    refine ⟨_, rfl, by show 0 ≤ sizeLine; decide, fun q hq => ?_⟩
    have f4 := ex_new hq (o := .lst [])
    refine neL (S := som a (m + 1)) (S' := []) (f4 _ _ hz) upd_same (fun _ => ⟨_, rfl, iteF ?_⟩) (fun hne => absurd hso hne)
    have rv4 := rv3.mono f4.t
    have e4 := e3.trans f4
    generalize upd H3 q (.lst []) = H4 at rv4 e4 ⊢
    refine ⟨_, rfl, _, rfl, _, rfl, z, v, i, j, rfl, rv4, ok, hi, hj, fun H5 e5 _ => ?_, fun as u H5 e5 hway _ _ _ => ?_⟩
    · refine ⟨_, rfl, _, rfl, _, rfl, z, v, i, j, rfl, rv4.mono e5.t, ok, hi, hj, fun H6 e6 _ => ?_, fun t as u H6 e6 ht _ hway hwd _ _ => ?_⟩
      · refine ⟨_, _, rfl, ?_⟩
        refine ⟨_, rfl, rfl, _, rfl, iteT' (by simp) ?_⟩
        refine ⟨_, rfl, rfl, true, by rw [vdec], iteT ?_⟩
        refine ⟨_, rfl, rfl, true, by rw [vdec], iteT ?_⟩
        have e06 := (e4.trans e5).trans e6
        refine ⟨_, rfl, _, rfl, _, rfl, z, v, i, j, 0, rfl, rv4.mono (e5.trans e6).t, ok, hi, hj, by decide, fun H7 e7 hr => ?_, fun S u H7 e7 _ _ _ ru => ?_⟩
        · obtain ⟨L, c, hk⟩ := hr
          exact absurd hk (enw1 hno L c)
        · obtain ⟨ua, _, rfl, _⟩ := ru.ofTup
          refine ⟨rfl, ?_⟩
          have : V.bl (!decide (V.ref ua = V.non)) = .bl true := by simp
          rw [this]
          exact k _ (e06.trans e7)
      · exact absurd (hway.wk (t := 1) fun b hb p hp => Nat.le_trans ht (hwd b hb p hp)) (enw1 hno _ _)
    · exact absurd (hway.wk (t := 0) fun b hb p hp => Nat.zero_le _) (enw hno _ _)
end
end K09
/-! Parts of the four kinds go together. -/
namespace K09
open PySem PySem.Spec
open PyProof.Rows L2 Sl Pm
section
variable {P : Program} {w : World} {K : PySem.W.Frag} {mg : Str → Option Value} {base : Heap} {H H0 H1 H2 B : Hp} {E : XK} {Q : VK} {m n e : Nat} {σ : L2.St} {r c : Addr} {ns : List Int}
/-- two lists of numbers -/
theorem eqL {a b : Addr} {S S' : List Nat} (ha : H a = some (.lst (nV S))) (hb : H b = some (.lst (nV S'))) (k1 : S = S' → Q (.bl true) H) (k2 : S ≠ S' → Q (.bl false) H) : rEqD K (.ref a) (.ref b) H Q := by
  have hn : ∀ S : List Nat, Nb 1 (.tup (S.map natD)) := fun S d hd => by
    obtain ⟨x, _, rfl⟩ := List.mem_map.mp hd
    trivial
  have hr : ∀ S, RDs K H (S.map natD) (nV S) := fun S => by rw [natD_int]; exact RDs.ofInts _ _ _
  have c4 : ∀ S : List Nat, SeqAt.shaped (.list (dPs (S.map natD))) = true := fun S => by
    obtain ⟨c1, c2⟩ := (hn S).shape
    have c1 : PyData.canLayAll0 (dPs (S.map natD)) = true := by simpa [dP, PyData.canLay0] using c1
    have c2 : PyData.depthAll (dPs (S.map natD)) ≤ 0 := by simpa [dP, PyData.depth] using c2
    simp [SeqAt.shaped, PyData.canLay0, PyData.depth, c1]
    omega
  refine ⟨.list (dPs (S.map natD)), .list (dPs (S'.map natD)), .lst (SqL.of ha) (RDs.dp (hr S)), .lst (SqL.of hb) (RDs.dp (hr S')), c4 S, c4 S', ?_⟩
  by_cases h : S = S'
  · subst h
    have c3 := ((hn S).eqv (hn S)).mpr rfl
    have c5 : PyData.eqv (.list (dPs (S.map natD))) (.list (dPs (S.map natD))) = true := by
      simpa [dP, PyData.eqv] using c3
    rw [c5]
    exact k1 rfl
  have hne : D.tup (S.map natD) ≠ .tup (S'.map natD) := fun zz => h (by
    have zz := D.tup.inj zz
    have inj : ∀ {l l' : List Nat}, l.map natD = l'.map natD → l = l' := fun {l l'} q => by
      have : (l.map natD).map (fun d => match d with | .int i => i.toNat | _ => 0) = (l'.map natD).map (fun d => match d with | .int i => i.toNat | _ => 0) := by rw [q]
      rw [List.map_map, List.map_map] at this
      have f : ((fun d : D => match d with | .int i => i.toNat | _ => 0) ∘ natD) = id := funext fun x => by simp [natD]
      rw [f, List.map_id, List.map_id] at this
      exact this
    exact inj zz)
  have c5 : PyData.eqv (.list (dPs (S.map natD))) (.list (dPs (S'.map natD))) = false := by
    have := eqvF (hn S) (hn S') hne
    simpa [dP, PyData.eqv] using this
  rw [c5]
  exact k2 h
theorem rcsV {a : Ps'} {cs : List V} {m : Nat} (r : RDs K H ((List.range (m + 1)).map fun L => D.int (cn a L : Int)) cs) : cs = (List.range (m + 1)).map fun L => V.int (cn a L : Int) := by
  have : ((List.range (m + 1)).map fun L => D.int (cn a L : Int)) = ((List.range (m + 1)).map fun L => (cn a L : Int)).map D.int := by rw [List.map_map]; rfl
  rw [this] at r
  rw [r.ints, List.map_map]
  rfl
def rowsV (K : PySem.W.Frag) (z : Mz) (m : Nat) : Hp → Kd → V → Prop := fun H kd v => ∃ rows, TD kd m rows (dd z.ds).length (dd z.ds).length (pM z) ∧ RD K H (.tup rows) v
theorem rowsV.t {z : Mz} : TMono (rowsV K z m) := fun _ _ _ _ e ⟨rows, h, r⟩ => ⟨rows, h, r.mono e⟩
def entV (K : PySem.W.Frag) (a : Ps') (m : Nat) : Hp → Kd → V → Prop := fun H kd v => ∃ d, rp kd m d a ∧ RD K H d v
theorem entV.t {a : Ps'} : TMono (entV K a m) := fun _ _ _ _ e ⟨d, h, r⟩ => ⟨d, h, r.mono e⟩
theorem lp4 {VP : Hp → Kd → V → Prop} {xs : List V} (h : LP VP H kds xs) : ∃ v1 v2 v3 v4, xs = [v1, v2, v3, v4] ∧ VP H .can v1 ∧ VP H .least v2 ∧ VP H .wide v3 ∧ VP H .count v4 := by
  obtain ⟨v1, a1, b1⟩ := h.2 0 .can rfl
  obtain ⟨v2, a2, b2⟩ := h.2 1 .least rfl
  obtain ⟨v3, a3, b3⟩ := h.2 2 .wide rfl
  obtain ⟨v4, a4, b4⟩ := h.2 3 .count rfl
  match xs, h.1, a1, a2, a3, a4 with
  | [w1, w2, w3, w4], _, a1, a2, a3, a4 => cases a1; cases a2; cases a3; cases a4; exact ⟨_, _, _, _, rfl, b1, b2, b3, b4⟩
/-- what a kind's value of a part's straight worth says -/
theorem four_go {a : Ps'} {x1 W : Nat} {d2 : D} (hch : Ch a) (p1 : rp .can m (.int (x1 : Int)) a) (p2 : rp .least m d2 a) (p3 : rp .wide m (.int (W : Int)) a) :
    (∃ L0 : Nat, d2 = .int (L0 : Int) ∧ x1 = 1 ∧ 1 ≤ W ∧ (a.c L0).p 1 ∧ ∀ L, L < L0 → ¬ (a.c L).p 1) ∨ (d2 = .non ∧ x1 = 0 ∧ W = 0 ∧ ∀ L, ¬ (a.c L).p 1) := by
  rw [can_iff] at p1
  rw [wide_iff] at p3
  rcases p2 with ⟨L, rfl, h1, h2⟩ | ⟨rfl, h1⟩
  · left
    refine ⟨L, rfl, ?_, (p3.2 1 (Nat.le_refl _) (by decide)).mpr ⟨L, h1⟩, h1, h2⟩
    rcases p1 with ⟨h, _⟩ | ⟨_, h⟩
    · exact h
    · exact absurd h1 (h L)
  · right
    refine ⟨rfl, ?_, ?_, h1⟩
    · rcases p1 with ⟨_, L, h⟩ | ⟨h, _⟩
      · exact absurd h (h1 L)
      · exact h
    · by_cases q : W = 0
      · exact q
      · obtain ⟨L, h⟩ := (p3.2 1 (Nat.le_refl _) (by decide)).mp (by omega)
        exact absurd h (h1 L)
def spParts (K : PySem.W.Frag) : Sp := fun vs H Q _ => ∃ (z : Mz) (v : V) (m : Nat), vs = [v, .int (m : Int)] ∧ RD K H (mzD z) v ∧ MzOk z ∧ m ≤ 12 ∧ ∀ H', Ex H H' → Q (.bl true) H'
theorem ok_parts (T : Tx K mg) : Has P w K mg base 7 (a__law_parts K) p__law_parts (spParts K) := by
  refine has_of (f__law_parts T) (z__law_parts T) (b__law_parts T) (fun vs H Q E h => by obtain ⟨_, _, _, rfl, _⟩ := h; rfl) (fun cdv A outer s H vs Q E hr h => ?_)
  obtain ⟨z, v, m, rfl, rv, ok, hm, k⟩ := h
  have h_part_of := ok_partOf (P := P) (w := w) (base := base) T
  refine ⟨_, (pss_cons (ps_set (i := 2) (z__law_parts T).nd rfl (Or.inr rfl) (pe_lc (own := [("kind", 3)]) rfl (z__law_parts T).nd (tupW K (pe_tup (pa_cons pe_str (pa_cons pe_str (pa_cons pe_str (pa_cons pe_str pa_nil)))))) (blkOk_by (N := n__law_parts) (sc := defScope s__law_parts) (by decide +kernel)) (fun _ _ _ _ _ => by exact (pg_name (i := 3) (z__law_parts T).nd rfl (Or.inl rfl))) (fun _ _ _ _ _ => by exact pts_nil) (fun _ _ _ _ _ => by exact (pe_ix (ixT K) (pcall h_part_of (hr.mono (by omega)) (g_part_of T) (pa_cons (pv 0) (pa_cons (pv 3) (pa_cons (pv 1) pa_nil)))) pe_int (fun _ _ => rfl)))))
  (pss_cons (ps_if (pt_cmpR (neDK K hr.units) (pe_lc (own := [("own", 4)]) rfl (z__law_parts T).nd (listW K (pv 2)) (blkOk_by (N := n__law_parts) (sc := defScope s__law_parts) (by decide +kernel)) (fun _ _ _ _ _ => by exact (pg_name (i := 4) (z__law_parts T).nd rfl (Or.inl rfl))) (fun _ _ _ _ _ => by exact (pts_one (pt_cmpR (neDK K hr.units) (pv 4) (pe_ix (ixL K) (pv 2) pe_int (fun _ _ => rfl)) (nomark _)))) (fun _ _ _ _ _ => by exact (pv 4))) (pe_lst pa_nil) (nomark _)) (pss_one (ps_ret pe_bl)) pss_nil)
  (pss_cons (ps_setLc (i := 5) (own := [("kind", 3)]) rfl (z__law_parts T).nd rfl rfl (sw_true rfl rfl rfl (by decide +kernel)) (tupW K (pe_tup (pa_cons pe_str (pa_cons pe_str (pa_cons pe_str (pa_cons pe_str pa_nil)))))) (blkOk_by (N := n__law_parts) (sc := defScope s__law_parts) (by decide +kernel)) (fun _ _ _ _ _ => by exact (pg_name (i := 3) (z__law_parts T).nd rfl (Or.inl rfl))) (fun _ _ _ _ _ => by exact pts_nil) (fun _ _ _ _ _ => by exact (pe_ix (ixT K) (pcall h_part_of (hr.mono (by omega)) (g_part_of T) (pa_cons (pv 0) (pa_cons (pv 3) (pa_cons (pv 1) pa_nil)))) pe_int (fun _ _ => rfl))))
  (pss_cons (ps_for (passes_of rfl) rfl (pi_range1 (by rfl) (l_range T) (pa_cons (pe_callB (lenK K) (by rfl) (l_len T) (by decide +kernel) (pa_cons (pe_ix (ixL K) (pv 5) pe_int (fun _ _ => rfl)) pa_nil)) pa_nil)) (pg_name (i := 6) (z__law_parts T).nd rfl (Or.inr rfl)) (pss_one (ps_for (passes_of rfl) rfl (pi_range1 (by rfl) (l_range T) (pa_cons (pe_callB (lenK K) (by rfl) (l_len T) (by decide +kernel) (pa_cons (pe_ix (ixL K) (pv 5) pe_int (fun _ _ => rfl)) pa_nil)) pa_nil)) (pg_name (i := 7) (z__law_parts T).nd rfl (Or.inr rfl)) (pss_cons (ps_asg (pe_lc (own := [("own", 4)]) rfl (z__law_parts T).nd (listW K (pv 5)) (blkOk_by (N := n__law_parts) (sc := defScope s__law_parts) (by decide +kernel)) (fun _ _ _ _ _ => by exact (pg_name (i := 4) (z__law_parts T).nd rfl (Or.inl rfl))) (fun _ _ _ _ _ => by exact pts_nil) (fun _ _ _ _ _ => by exact (pe_ix (ixT K) (pe_ix (ixT K) (pv 4) (pv 6) (fun _ _ => rfl)) (pv 7) (fun _ _ => rfl)))) (unlK K (n := 4) (pgs_cons (pg_name (i := 8) (z__law_parts T).nd rfl (Or.inl rfl)) (pgs_cons (pg_name (i := 9) (z__law_parts T).nd rfl (Or.inl rfl)) (pgs_cons (pg_name (i := 10) (z__law_parts T).nd rfl (Or.inl rfl)) (pgs_cons (pg_name (i := 11) (z__law_parts T).nd rfl (Or.inl rfl)) pgs_nil))))))
  (pss_cons (ps_setLc (i := 12) (own := [("length", 13), ("own", 4)]) rfl (z__law_parts T).nd rfl rfl (sw_true rfl rfl rfl (by decide +kernel)) (pi_enumT (by rfl) (l_enumerate T) (pa_cons (pv 11) pa_nil)) (blkOk_by (N := n__law_parts) (sc := defScope s__law_parts) (by decide +kernel)) (fun _ _ _ _ _ => by exact (tupK K (n := 2) (pgs_cons (pg_name (i := 13) (z__law_parts T).nd rfl (Or.inl rfl)) (pgs_cons (pg_name (i := 4) (z__law_parts T).nd rfl (Or.inl rfl)) pgs_nil)))) (fun _ _ _ _ _ => by exact (pts_one (pt_cmpR oGtI (pv 4) pe_int (nomark _)))) (fun _ _ _ _ _ => by exact (pv 13)))
  (pss_cons (ps_if (PW.pt (pw_or (pt_cmpR op_ne (pe_cmpR op_eq (pv 8) pe_int (nomark _)) (pe_cmpR oNoNo (pv 9) pe_non (nomark _)) (nomark _)) (pw_or (pt_cmpR op_ne (pe_cmpR op_eq (pv 8) pe_int (nomark _)) (pe_cmpR oGtI (pv 10) pe_int (nomark _)) (nomark _)) (pw_or1 (pt_cmpR op_ne (pe_ix (ixT K) (pv 11) pe_int (fun _ _ => rfl)) pe_int (nomark _)))))) (pss_one (ps_ret pe_bl)) pss_nil)
  (pss_one (ps_if (PW.pt (pw_or (PW.pt (pw_and (pt_cmpR (neDK K hr.units) (pv 12) (pe_lst pa_nil) (nomark _)) (pw_and1 (pt_cmpR op_ne (pe_ix (ixL K) (pv 12) pe_int (fun _ _ => rfl)) (pv 9) (nomark _))))) (pw_or1 (PW.pt (pw_and (pt_cmpR oNoNo (pv 9) pe_non (nomark _)) (pw_and (pt_cmpR oLeI (pv 9) (pv 1) (nomark _)) (pw_and1 (pt_cmpR (eqDK K hr.units) (pv 12) (pe_lst pa_nil) (nomark _))))))))) (pss_one (ps_ret pe_bl)) pss_nil))))))))
  (pss_one (ps_ret pe_bl)))))), ?_⟩
  have hdl := dd_le ok
  have hpl := pS_len z
  have o3 := ok.dl
  -- the spots
  refine ⟨four_sz _ _ _ _, fun t ht => ?_⟩
  have f1 := ex_new ht (o := .tup [.str "can", .str "least", .str "wide", .str "count"])
  have sqt : ∀ {G : Hp}, Ex (upd H t (.tup [.str "can", .str "least", .str "wide", .str "count"])) G → SqT K G t ((["can", "least", "wide", "count"] : List Str).map V.str) := fun e => .inl (.inl (e _ _ upd_same))
  have hwt := walk_tup (K := K) (a := t) (xs := (["can", "least", "wide", "count"] : List Str).map V.str)
  refine ⟨t, rfl, ⟨_, sqt (Ex.refl _)⟩, fun l hl => lcD (K := K) hl hwt (fun q => List.replicate q (.tup ((pS z).map natD))) rfl (fun H' e' => sqt e') (fun q hq => by rw [List.length_replicate]; exact Nat.le_of_lt (Nat.lt_of_lt_of_le hq (by decide))) (fun q x H2' H2 hq e2 y R N kR kN => ?_) (fun H3 zs e3 hz r3 => ?_)⟩
  · obtain ⟨rfl, hx⟩ := y
    obtain ⟨kd, hk, rfl⟩ := kds_at hx
    refine ⟨rfl, _, rfl, _, rfl, _, rfl, kd, m, z, v, rfl, rv.mono (f1.trans e2).t, ok, hm, fun t' tv H' e' hpt rt => ?_⟩
    obtain ⟨rows, rfl, _⟩ := hpt
    obtain ⟨a, x, y, rfl, ha, r1, r2⟩ := slots2 rt
    exact ⟨a, _, _, _, rfl, rfl, ha, rfl, kR _ _ (.tup ((pS z).map natD)) e' r1 (rep_succ _ _)⟩
  have hzl : zs.length = 4 := by rw [r3.len]; rfl
  have hwl := walk_list (K := K) (a := l) (xs := zs)
  rw [hzl] at hwl
  refine ⟨_, rfl, l, rfl, ⟨_, SqL.of hz⟩, fun l2 hl2 => lcD (K := K) hl2 hwl (fun q => []) rfl (fun H' e' => SqL.of (e' _ _ hz)) (fun q hq => by show 0 ≤ _; omega) (fun q x H4' H4 hq e4 y R N kR kN => ?_) (fun H5 zs5 e5 hz5 r5 => ?_)⟩
  · obtain ⟨rfl, hx⟩ := y
    have r4 := r3.mono e4.t
    obtain ⟨v0, g1, g2⟩ := r4.get (i := 0) (d := .tup ((pS z).map natD)) rfl
    obtain ⟨d, g3, g4⟩ := r4.getV hx
    have hd : d = .tup ((pS z).map natD) := List.eq_of_mem_replicate (List.mem_of_getElem? g3)
    subst hd
    have hn : Nb 2 (.tup ((pS z).map natD)) := fun e he => by
      obtain ⟨x, _, rfl⟩ := List.mem_map.mp he
      trivial
    refine ⟨rfl, _, rfl, _, rfl, l, zs, _, v0, rfl, rfl, SqL.of (e4 _ _ hz), atI_nat (j := 0) g1, neD_use 2 hn hn (by decide) g4 g2 (fun _ => ⟨_, rfl, iteF (kN _ (Ex.refl _) rfl)⟩) (fun ne => absurd rfl ne)⟩
  obtain rfl := r5.ofNil
  refine ⟨by show 0 ≤ sizeLine; decide, fun q0 hq0 => ?_⟩
  have f6 := e5.trans (ex_new hq0 (o := .lst []))
  refine neL (S := []) (S' := []) (ex_new hq0 _ _ hz5) upd_same (fun _ => ⟨_, rfl, iteF ?_⟩) (fun ne => absurd rfl ne)
  have e06 := (f1.trans e3).trans f6
  have rv6 := rv.mono e06.t
  generalize upd H5 q0 (.lst []) = H6 at e06 rv6 ⊢
  -- the rows
  refine ⟨four_sz _ _ _ _, fun t2 ht2 => ?_⟩
  have f7 := ex_new ht2 (o := .tup [.str "can", .str "least", .str "wide", .str "count"])
  have sqt2 : ∀ {G : Hp}, Ex (upd H6 t2 (.tup [.str "can", .str "least", .str "wide", .str "count"])) G → SqT K G t2 ((["can", "least", "wide", "count"] : List Str).map V.str) := fun e => .inl (.inl (e _ _ upd_same))
  have hwt2 := walk_tup (K := K) (a := t2) (xs := (["can", "least", "wide", "count"] : List Str).map V.str)
  refine ⟨t2, rfl, ⟨_, sqt2 (Ex.refl _)⟩, fun lr hlr => lcT (α := Kd) (VP := rowsV K z m) rowsV.t hlr hwt2 (fun q => kds.take q) rfl (fun H' e' => sqt2 e') (fun q hq => by rw [List.length_take]; exact Nat.le_trans (Nat.min_le_left _ _) (Nat.le_of_lt (Nat.lt_of_lt_of_le hq (by decide)))) (fun q x H2' H2 hq e2 y R N kR kN => ?_) (fun H8 rs e8 hlr8 lp8 => ?_)⟩
  · obtain ⟨rfl, hx⟩ := y
    obtain ⟨kd, hk, rfl⟩ := kds_at hx
    refine ⟨rfl, _, rfl, _, rfl, _, rfl, kd, m, z, v, rfl, rv6.mono (f7.trans e2).t, ok, hm, fun t' tv H' e' hpt rt => ?_⟩
    obtain ⟨rows, rfl, htd⟩ := hpt
    obtain ⟨a, x, y, rfl, ha, r1, r2⟩ := slots2 rt
    exact ⟨a, _, _, _, rfl, rfl, ha, rfl, kR _ _ kd e' ⟨rows, htd, r2⟩ (by rw [List.take_add_one, hk]; rfl)⟩
  have lp8 : LP (rowsV K z m) H8 kds rs := lp8
  have e08 := (e06.trans f7).trans e8
  have hlen : ∀ {G : Hp}, Ex H8 G → ∃ rl, rs.length = 4 ∧ G lr = some (.lst rs) ∧ ∃ v0, rs[0]? = some v0 ∧ ∃ a, v0 = .ref a ∧ SqT K G a rl ∧ rl.length = (dd z.ds).length := fun e => by
    obtain ⟨v0, g1, rows, g2, g3⟩ := (lp8.mono rowsV.t.m e).2 0 .can rfl
    obtain ⟨a, xs, rfl, ha, ra⟩ := g3.ofTup
    exact ⟨xs, by rw [lp8.1]; rfl, e _ _ hlr8, _, g1, a, rfl, ha, by rw [ra.len, g2.1]⟩
  obtain ⟨rl, hrs4, _, v0, hv0, a0, rfl, ha0, hrl⟩ := hlen (Ex.refl _)
  refine ⟨_, rfl, lr, _, _, _, rfl, rfl, SqL.of hlr8, atI_nat (j := 0) hv0, a0, _, rfl, .inr ha0, _, rfl, by omega, by omega, ?_⟩
  rw [hrl]
  have hwr := walk_list (K := K) (a := lr) (xs := rs)
  rw [hrs4] at hwr
  refine for_it (walk_range (lo := 0) (n := (dd z.ds).length)) (fun i σ H' => Ex H8 H' ∧ ∃ x3 x4 x6 x7 x8 x9 x10 x11 x12 x13, σ = [some v, some (.int (m : Int)), some (.ref l), x3, x4, some (.ref lr), x6, x7, x8, x9, x10, x11, x12, x13]) ⟨Ex.refl _, _, _, _, _, _, _, _, _, _, _, rfl⟩ (fun _ _ _ _ _ => trivial) ?_ ?_
  · rintro i x σ H9' H9 hi ⟨e9, x3, x4, x6, x7, x8, x9, x10, x11, x12, x13, rfl⟩ ⟨rfl, rfl⟩
    refine ⟨_, rfl, lr, _, _, _, rfl, rfl, SqL.of (e9 _ _ hlr8), atI_nat (j := 0) hv0, a0, _, rfl, .inr (e9.t.sq ha0), _, rfl, by omega, by omega, ?_⟩
    rw [hrl]
    refine for_it (walk_range (lo := 0) (n := (dd z.ds).length)) (fun j σ H' => Ex H8 H' ∧ ∃ x3 x4 x7 x8 x9 x10 x11 x12 x13, σ = [some v, some (.int (m : Int)), some (.ref l), x3, x4, some (.ref lr), some (.int (0 + (i : Int))), x7, x8, x9, x10, x11, x12, x13]) ⟨e9, _, _, _, _, _, _, _, _, _, rfl⟩ (fun _ _ _ _ _ => trivial) ?_ ?_
    · rintro j x σ H10' H10 hj ⟨e10, x3, x4, x7, x8, x9, x10, x11, x12, x13, rfl⟩ ⟨rfl, rfl⟩
      have ei : (0 : Int) + (i : Int) = ((i : Nat) : Int) := by omega
      have ej : (0 : Int) + (j : Int) = ((j : Nat) : Int) := by omega
      have hlr10 := e10 _ _ hlr8
      have lp10 := lp8.mono rowsV.t.m e10
      have hch := pM_ch ok i j
      have hnc : cn (pM z i j) 0 = 0 := by
        have := pM_nc ok i j
        unfold cn
        rw [show (pM z i j).c 0 = 0 from this]
        rfl
      refine ⟨_, rfl, lr, rfl, ⟨_, SqL.of hlr10⟩, fun l5 hl5 => lcT (α := Kd) (VP := entV K (pM z i j) m) entV.t hl5 hwr (fun q => kds.take q) rfl (fun H' e' => SqL.of (e' _ _ hlr10)) (fun q hq => by rw [List.length_take]; exact Nat.le_trans (Nat.min_le_left _ _) (by omega)) (fun q x H2' H2 hq e2 y R N kR kN => ?_) (fun H11 xs e11 hl11 lp11 => ?_)⟩
      · obtain ⟨rfl, hx⟩ := y
        obtain ⟨kd, hk, rows, htd, rr⟩ := (lp10.mono rowsV.t.m e2).getV hx
        obtain ⟨ds, g1, g2, g3⟩ := htd.2 i hi
        obtain ⟨d, g4, g5⟩ := g3 j hj
        obtain ⟨a, ws, rfl, ha, ra⟩ := rr.ofTup
        obtain ⟨w, g6, g7⟩ := ra.get g1
        obtain ⟨b, us, rfl, hb, rb⟩ := g7.ofTup
        obtain ⟨w2, g8, g9⟩ := rb.get g4
        refine ⟨rfl, _, rfl, _, rfl, a, _, _, _, rfl, rfl, ha, by rw [ei]; exact atI_nat g6, _, rfl, b, _, _, _, rfl, rfl, hb, by rw [ej]; exact atI_nat g8, kR _ _ kd (Ex.refl _) ⟨d, g5, g9⟩ (by rw [List.take_add_one, hk]; rfl)⟩
      have lp11 : LP (entV K (pM z i j) m) H11 kds xs := lp11
      obtain ⟨v1, v2, v3, v4, rfl, ⟨d1, p1, r1⟩, ⟨d2, p2, r2⟩, ⟨d3, p3, r3⟩, ⟨d4, p4, r4⟩⟩ := lp4 lp11
      have e811 := e10.trans e11
      clear lp11 lp10
      generalize pM z i j = a at p1 p2 p3 p4 hch hnc
      obtain ⟨y1, rfl, _⟩ := rp_int (.inl rfl) p1
      obtain ⟨W, rfl, hW⟩ := rp_int (.inr rfl) p3
      have four := four_go hch p1 p2 p3
      rw [count_iff] at p4
      subst p4
      obtain rfl := r1.ofInt
      obtain rfl := r3.ofInt
      obtain ⟨cnt, cs, rfl, hcnt, rcs⟩ := r4.ofTup
      obtain rfl := rcsV rcs
      refine ⟨l5, _, rfl, SqL.of hl11, rfl, _, _, rfl, _, _, rfl, _, _, rfl, _, _, rfl, rfl, ?_⟩
      have hcl : ((List.range (m + 1)).map fun L => V.int (cn a L : Int)).length = m + 1 := by rw [List.length_map, List.length_range]
      have hwq := walk_Q (K := K) (a := cnt) (xs := (List.range (m + 1)).map fun L => V.int (cn a L : Int))
      rw [hcl] at hwq
      refine ⟨_, rfl, cnt, _, rfl, hcnt, fun ls hls => lcD (K := K) hls hwq (fun q => (som a q).map natD) rfl (fun H' e' => e'.t.sq hcnt) (fun q hq => by rw [List.length_map]; have := som_len a q; omega) (fun q x H2' H2 hq e2 yy R N kR kN => ?_) (fun H12 zs e12 hz12 r12 => ?_)⟩
      · obtain ⟨tt, y', rfl, htt, rfl, hyy⟩ := yy
        rw [map_at' hq] at hyy
        cases hyy
        have f3 := ex_new htt (o := .tup [.int (q : Nat), .int (cn a q : Int)])
        refine ⟨tt, _, rfl, .inl (.inl upd_same), rfl, _, _, rfl, _, _, rfl, rfl, rfl, ?_⟩
        refine ⟨_, rfl, _, _, rfl, rfl, _, rfl, ifBH (fun cc => ?_) (fun cc => ?_)⟩
        · have cc : 0 < cn a q := by have := of_decide_eq_true cc; omega
          refine ⟨_, rfl, kR _ _ (natD q) f3 (.int _) ?_⟩
          rw [som_succ, if_pos cc, List.map_append]
          rfl
        · have cc : ¬ 0 < cn a q := by have := of_decide_eq_false cc; omega
          refine kN _ f3 ?_
          rw [som_succ, if_neg cc]
      rw [natD_int] at r12
      obtain rfl := r12.ints
      have hz12 : H12 ls = some (.lst (nV (som a (m + 1)))) := hz12
      have hcnt12 := e12.t.sq hcnt
      have e812 := e811.trans e12
      have hc0 : ((List.range (m + 1)).map fun L => V.int (cn a L : Int))[0]? = some (.int 0) := by
        rw [map_at' (by omega), hnc]
        rfl
      rcases four with ⟨L0, rfl, hy1, hW1, h1, h2⟩ | ⟨rfl, hy0, hW0, hno⟩
      · obtain rfl := r2.ofInt
        rw [hy1]
        refine ⟨_, rfl, rfl, _, rfl, rfl, rfl, _, rfl, iteF' (by simp) ?_⟩
        refine ⟨_, rfl, rfl, _, rfl, _, _, rfl, rfl, rfl, _, rfl, iteF' (by rw [decide_eq_true (show (0 : Int) < (W : Int) by omega)]; simp) ?_⟩
        refine ⟨_, rfl, cnt, _, _, _, rfl, rfl, hcnt12, atI_nat (j := 0) hc0, rfl, _, rfl, iteF' (by simp) ?_⟩
        refine ⟨_, rfl, by show 0 ≤ sizeLine; decide, fun q1 hq1 => ?_⟩
        have f13 := ex_new hq1 (o := .lst [])
        refine neL (S := som a (m + 1)) (S' := []) (f13 _ _ hz12) upd_same (fun hs => ⟨_, rfl, iteF ?_⟩) (fun hs => ⟨_, rfl, iteT ?_⟩)
        · have hge : ¬ L0 < m + 1 := fun q => by
            obtain ⟨rr, hrr⟩ := som_head hch h1 h2 (m + 1) q
            rw [hrr] at hs; cases hs
          refine ⟨_, rfl, rfl, _, rfl, iteT' (by simp) ?_⟩
          refine ⟨_, rfl, _, rfl, _, _, rfl, rfl, _, rfl, iteF' (by rw [decide_eq_false]; omega) ?_⟩
          exact iteF ⟨e812.trans f13, _, _, _, _, _, _, _, _, _, rfl⟩
        · have hlt : L0 < m + 1 := by
            by_cases q : L0 < m + 1
            · exact q
            · exact absurd (som_low hch h2 (m + 1) (by omega)) hs
          obtain ⟨rr, hrr⟩ := som_head hch h1 h2 (m + 1) hlt
          refine ⟨_, rfl, ls, nV (som a (m + 1)), _, _, rfl, rfl, SqL.of (f13 _ _ hz12), atI_nat (j := 0) (nV_get (x := L0) (by rw [hrr]; rfl)), _, rfl, rfl, _, rfl, iteF' (by simp) ?_⟩
          refine ⟨_, rfl, rfl, _, rfl, iteT' (by simp) ?_⟩
          refine ⟨_, rfl, _, rfl, _, _, rfl, rfl, _, rfl, iteT' (by rw [decide_eq_true]; omega) ?_⟩
          refine ⟨_, rfl, by show 0 ≤ sizeLine; decide, fun q2 hq2 => ?_⟩
          have f14 := f13.trans (ex_new hq2 (o := .lst []))
          refine eqL (S := som a (m + 1)) (S' := []) (f14 _ _ hz12) upd_same (fun hs2 => absurd hs2 hs) (fun _ => ⟨_, rfl, iteF ?_⟩)
          exact ⟨e812.trans f14, _, _, _, _, _, _, _, _, _, rfl⟩
      · obtain rfl := r2.ofNon
        rw [hy0, hW0]
        refine ⟨_, rfl, rfl, _, rfl, rfl, rfl, _, rfl, iteF' (by simp) ?_⟩
        refine ⟨_, rfl, rfl, _, rfl, _, _, rfl, rfl, rfl, _, rfl, iteF' (by simp) ?_⟩
        refine ⟨_, rfl, cnt, _, _, _, rfl, rfl, hcnt12, atI_nat (j := 0) hc0, rfl, _, rfl, iteF' (by simp) ?_⟩
        refine ⟨_, rfl, by show 0 ≤ sizeLine; decide, fun q1 hq1 => ?_⟩
        have f13 := ex_new hq1 (o := .lst [])
        refine neL (S := som a (m + 1)) (S' := []) (f13 _ _ hz12) upd_same (fun hs => ⟨_, rfl, iteF ?_⟩) (fun hs => absurd (som_none hch hno _) hs)
        refine ⟨_, rfl, rfl, _, rfl, iteF' (by simp) (iteF ?_)⟩
        exact ⟨e812.trans f13, _, _, _, _, _, _, _, _, _, rfl⟩
    · rintro σ H10 ⟨e10, x3, x4, x7, x8, x9, x10, x11, x12, x13, rfl⟩
      exact ⟨e10, _, _, _, _, _, _, _, _, _, _, rfl⟩
  · rintro σ H9 ⟨e9, x3, x4, x6, x7, x8, x9, x10, x11, x12, x13, rfl⟩
    exact k _ (e08.trans e9)
end
end K09
/-! Narrow passages shut. -/
namespace K09
open PySem PySem.Spec
open PyProof.Rows L2 Sl Pm
section
variable {P : Program} {w : World} {K : PySem.W.Frag} {mg : Str → Option Value} {base : Heap} {H H0 H1 H2 B : Hp} {E : XK} {Q : VK} {m n e : Nat} {σ : L2.St} {r c : Addr} {ns : List Int}
/-- the places of the narrow passages -/
def nar (ps : List Pg) (t : Nat) (k : Nat) : List Nat := (List.range k).filter fun i => decide ((ps[i]?.map (·.w)).getD 0 < t)
theorem nar_succ (ps : List Pg) (t k : Nat) : nar ps t (k + 1) = if (ps[k]?.map (·.w)).getD 0 < t then nar ps t k ++ [k] else nar ps t k := by
  unfold nar
  rw [List.range_succ, List.filter_append]
  by_cases h : (ps[k]?.map (·.w)).getD 0 < t <;> simp [h]
theorem nar_mem {ps : List Pg} {t k i : Nat} : i ∈ nar ps t k ↔ i < k ∧ (ps[i]?.map (·.w)).getD 0 < t := by
  unfold nar
  rw [List.mem_filter, List.mem_range, decide_eq_true_eq]
theorem nar_nd (ps : List Pg) (t k : Nat) : (nar ps t k).Nodup := List.nodup_range.filter _
theorem nar_len (ps : List Pg) (t k : Nat) : (nar ps t k).length ≤ k := by
  unfold nar
  exact Nat.le_trans (List.length_filter_le _ _) (by simp)
/-- what is open then -/
theorem opn_wide {z : Mz} {t : Nat} {p : Pg} : p ∈ (opn z (nar z.ps t z.ps.length)).ps ↔ p ∈ z.ps ∧ t ≤ p.w := by
  show p ∈ opl z.ps _ z.ps.length ↔ _
  rw [opl_mem]
  constructor
  · rintro ⟨i, h1, h2, h3⟩
    refine ⟨List.mem_of_getElem? h3, ?_⟩
    by_cases q : t ≤ p.w
    · exact q
    · exact absurd (nar_mem.mpr ⟨h1, by rw [h3]; show p.w < t; omega⟩) h2
  · rintro ⟨h1, h2⟩
    obtain ⟨i, hi, e⟩ := List.getElem_of_mem h1
    have e' : z.ps[i]? = some p := by rw [List.getElem?_eq_getElem hi, e]
    refine ⟨i, hi, fun q => ?_, e'⟩
    have := (nar_mem.mp q).2
    rw [e'] at this
    have : p.w < t := this
    omega
theorem opn_iff {z : Mz} (ok : MzOk z) {t x y : Nat} : (∃ L, ((clos (opn z (nar z.ps t z.ps.length)) x y).c L).p 1) ↔ ∃ L, ((clos z x y).c L).p t := by
  constructor
  · rintro ⟨L, h⟩
    obtain ⟨k, h⟩ := (clos_p (opn_ok ok _) L x).mp h
    exact ⟨L, (clos_p ok L x).mpr ⟨k, h.imp fun p hp _ => opn_wide.mp hp⟩⟩
  · rintro ⟨L, h⟩
    obtain ⟨k, h⟩ := (clos_p ok L x).mp h
    exact ⟨L, (clos_p (opn_ok ok _) L x).mpr ⟨k, h.imp fun p hp hw => ⟨opn_wide.mpr ⟨hp, hw⟩, (ok.p p hp).w.1⟩⟩⟩
def cell (t : Nat) : D → D
  | .int w => .int (if (t : Int) ≤ w then 1 else 0)
  | d => d
def rowC (t : Nat) : D → D
  | .tup ds => .tup (ds.map (cell t))
  | d => d
theorem due_tab {z : Mz} (ok : MzOk z) {m t : Nat} {rows : List D} (h1 : 1 ≤ t) (h2 : t ≤ 1000) (h : TD .wide m rows z.ds.length z.ds.length (fun i j => clos z (dr z i) (dr z j))) : TabOk (opn z (nar z.ps t z.ps.length)) .can 0 (.tup (rows.map (rowC t))) := by
  refine ⟨_, rfl, by rw [List.length_map]; exact h.1, fun i hi => ?_⟩
  obtain ⟨ds, g1, g2, g3⟩ := h.2 i hi
  refine ⟨ds.map (cell t), by rw [List.getElem?_map, g1]; rfl, by rw [List.length_map]; exact g2, fun j hj => ?_⟩
  obtain ⟨d, g4, W, rfl, g5, g6⟩ := g3 j hj
  refine ⟨_, by rw [List.getElem?_map, g4]; rfl, ?_⟩
  show rp .can 0 (.int (if (t : Int) ≤ (W : Int) then 1 else 0)) (clos (opn z _) (dr z i) (dr z j))
  by_cases q : t ≤ W
  · rw [if_pos (by omega)]
    exact .inl ⟨rfl, (opn_iff ok).mpr ((g6 t h1 h2).mp q)⟩
  · rw [if_neg (by omega)]
    exact .inr ⟨rfl, fun L z => q ((g6 t h1 h2).mpr ((opn_iff ok).mp ⟨L, z⟩))⟩
theorem mz_nb (z : Mz) : Nb 3 (mzD z) := by
  intro d hd
  rcases (by simpa using hd : d = .int (z.n : Int) ∨ d = .tup (z.ps.map pgD) ∨ d = .tup (z.ds.map natD)) with rfl | rfl | rfl
  · trivial
  · intro e he
    obtain ⟨p, _, rfl⟩ := List.mem_map.mp he
    intro f hf
    rcases (by simpa using hf : f = .int (p.s : Int) ∨ f = .int (p.g : Int) ∨ f = .int (p.l : Int) ∨ f = .int (p.w : Int)) with rfl | rfl | rfl | rfl <;> trivial
  · intro e he
    obtain ⟨p, _, rfl⟩ := List.mem_map.mp he
    trivial
theorem sh_last {S : List Nat} {i : Nat} (h : (S ++ [i]).Nodup) : shS (S ++ [i]) i false = S := by
  show (S ++ [i]).filter (fun x => decide (x ≠ i)) = S
  rw [List.filter_append]
  have h1 : S.filter (fun x => decide (x ≠ i)) = S := List.filter_eq_self.mpr fun x hx => decide_eq_true fun e => (List.nodup_append.mp h).2.2 x hx i (by simp) e
  rw [h1]
  simp
def spNarrow (K : PySem.W.Frag) : Sp := fun vs H Q _ => ∃ (r c : Addr) (ns : List Int) (z : Mz) (v tw : V) (m : Nat) (t : D), vs = [.ref r, v, tw] ∧ Rw K ns r c H ∧ RD K H (mzD z) v ∧ MzOk z ∧ RD K H t tw ∧ TabOk z .wide m t ∧ ∀ H', ExB [r] H H' → TEx H H' → Rw K ns r c H' → Q (.bl true) H'
theorem ok_narrow (T : Tx K mg) : Has P w K mg base 96 (a__law_narrow K) p__law_narrow (spNarrow K) := by
  refine has_of (f__law_narrow T) (z__law_narrow T) (b__law_narrow T) (fun vs H Q E h => by obtain ⟨_, _, _, _, _, _, _, _, rfl, _⟩ := h; rfl) (fun cdv A outer s H vs Q E hr h => ?_)
  obtain ⟨r, c, ns, z, v, tw, m, t, rfl, rw0, rv, ok, rtw, htab, k⟩ := h
  have h__law_taken := ok_taken (P := P) (w := w) (base := base) T
  have h_Nest_init := ok_nestInit (P := P) (w := w) (base := base) T
  have h_Nest_shut := ok_shut (P := P) (w := w) (base := base) T
  have h_Nest_table := ok_nTable (P := P) (w := w) (base := base) T
  have h_Nest_undo := ok_undo (P := P) (w := w) (base := base) T
  have h_Nest_whole := ok_wholeN (P := P) (w := w) (base := base) T
  have h_table_of := ok_tableOf (P := P) (w := w) (base := base) T
  refine ⟨_, (pss_cons (ps_asg (pe_tup (pa_cons (pmake h_Nest_init (k_Nest T) (hr.mono (by omega)) (g_Nest T) passL (pa_cons pe_str (pa_cons (pe_tup (pa_cons (pv 1) pa_nil)) (pa_cons pe_str (pa_cons pe_int pa_nil))))) (pa_cons (pe_op oAddI pe_int (pcall h__law_taken (hr.mono (by omega)) (g__law_taken T) (pa_cons (pv 0) (pa_cons pe_int pa_nil)))) pa_nil))) (tupK K (n := 2) (pgs_cons (pg_name (i := 3) (z__law_narrow T).nd rfl (Or.inl rfl)) (pgs_cons (pg_name (i := 4) (z__law_narrow T).nd rfl (Or.inr rfl)) pgs_nil))))
  (pss_cons (ps_for (passes_of rfl) rfl (pi_enumT (by rfl) (l_enumerate T) (pa_cons (pe_ix (ixT K) (pv 1) pe_int (fun _ _ => rfl)) pa_nil)) (tupK K (n := 2) (pgs_cons (pg_name (i := 5) (z__law_narrow T).nd rfl (Or.inl rfl)) (pgs_cons (pg_name (i := 6) (z__law_narrow T).nd rfl (Or.inl rfl)) pgs_nil))) (pss_one (ps_if (pt_cmpR oLtI (pe_ix (ixT K) (pv 6) pe_int (fun _ _ => rfl)) (pv 4) (nomark _)) (pss_one (ps_expr (pmeth h_Nest_shut (c_Nest T) (m_Nest_shut T) (hr.mono (by omega)) passL (pv 3) (pa_cons pe_int (pa_cons (pv 5) pa_nil))))) pss_nil)))
  (pss_cons (ps_set (i := 7) (z__law_narrow T).nd rfl (Or.inl rfl) (pe_callTy (tupleK K) (by rfl) (l_tuple T) (by decide +kernel) (pa_cons (pe_lc (own := [("line", 8)]) rfl (z__law_narrow T).nd (tupW K (pv 2)) (blkOk_by (N := n__law_narrow) (sc := defScope s__law_narrow) (by decide +kernel)) (fun _ _ _ _ _ => by exact (pg_name (i := 8) (z__law_narrow T).nd rfl (Or.inl rfl))) (fun _ _ _ _ _ => by exact pts_nil) (fun _ _ _ _ _ => by exact (pe_callTy (tupleK K) (by rfl) (l_tuple T) (by decide +kernel) (pa_cons (pe_lc (own := [("own", 6)]) rfl (z__law_narrow T).nd (tupW K (pv 8)) (blkOk_by (by kernel_rfl)) (fun _ _ _ _ _ => by exact (pg_name (i := 6) (z__law_narrow T).nd rfl (Or.inl rfl))) (fun _ _ _ _ _ => by exact pts_nil) (fun _ _ _ _ _ => by exact (pe_ifExp (pt_cmpR oGeI (pv 6) (pv 4) (nomark _)) pe_int pe_int))) pa_nil)))) pa_nil)))
  (pss_cons (ps_if (pt_cmpR (neDK K hr.units) (pmeth0 h_Nest_table (c_Nest T) (m_Nest_table T) (hr.mono (by omega)) passL (pv 3)) (pv 7) (nomark _)) (pss_one (ps_ret pe_bl)) pss_nil)
  (pss_cons (ps_for (passes_of rfl) rfl (pi_range1 (by rfl) (l_range T) (pa_cons (pe_callB (lenK K) (by rfl) (l_len T) (by decide +kernel) (pa_cons (pe_lc (own := [("own", 6)]) rfl (z__law_narrow T).nd (tupW K (pe_ix (ixT K) (pv 1) pe_int (fun _ _ => rfl))) (blkOk_by (N := n__law_narrow) (sc := defScope s__law_narrow) (by decide +kernel)) (fun _ _ _ _ _ => by exact (pg_name (i := 6) (z__law_narrow T).nd rfl (Or.inl rfl))) (fun _ _ _ _ _ => by exact (pts_one (pt_cmpR oLtI (pe_ix (ixT K) (pv 6) pe_int (fun _ _ => rfl)) (pv 4) (nomark _)))) (fun _ _ _ _ _ => by exact pe_int)) pa_nil)) pa_nil)) (pg_name (i := 9) (z__law_narrow T).nd rfl (Or.inl rfl)) (pss_one (ps_if (pt_not (pt_val (pmeth0 h_Nest_undo (c_Nest T) (m_Nest_undo T) (hr.mono (by omega)) passL (pv 3)))) (pss_one (ps_ret pe_bl)) pss_nil)))
  (pss_one (ps_ret (pe_and (pe_not (pmeth0 h_Nest_undo (c_Nest T) (m_Nest_undo T) (hr.mono (by omega)) passL (pv 3))) (pe_and (pe_cmpR (eqDK K hr.units) (pmeth0 h_Nest_table (c_Nest T) (m_Nest_table T) (hr.mono (by omega)) passL (pv 3)) (pcall h_table_of (hr.mono (by omega)) (g_table_of T) (pa_cons (pv 1) (pa_cons pe_str (pa_cons pe_int pa_nil)))) (nomark _)) (pe_one (pe_cmpR (eqDK K hr.units) (pmeth0 h_Nest_whole (c_Nest T) (m_Nest_whole T) (hr.mono (by omega)) passL (pv 3)) (pv 1) (nomark _)))))))))))), ?_⟩
  have o2 := ok.pl
  refine ⟨_, rfl, one_sz _, fun u hu => fun p dx hp hd hne => ?_⟩
  have f1 := ex_new hu (o := .tup [v])
  have ru1 : RD K (upd H u (.tup [v])) (.tup [mzD z]) (.ref u) := rd_new hu (.cons rv .nil)
  have rw1 := rw0.ex f1
  have e01 : ExB [r] H (upd H u (.tup [v])) := f1.b
  have t01 := f1.t
  generalize upd H u (.tup [v]) = H1 at ru1 rw1 hp hd e01 t01 ⊢
  have e1 : Ex H1 (upd (upd H1 dx (.own p)) p (.ins (cE K) dx [])) := (ex_new hd).trans (ex_new (by rw [upd_ne hne.symm]; exact hp))
  refine ⟨H1, p, dx, z, .ref u, rfl, upd_same, hp, fun b o _ q => e1 b o q, ru1.mono e1.t, ok, fun a H2 hap nst => ⟨rfl, ?_⟩⟩
  have rw2 := rw1.ex nst.ex0
  refine ⟨_, rfl, r, c, ns, _, rfl, by decide, by decide, rw2, fun w0 H3 hw' hw e3 rw3 => ?_⟩
  obtain ⟨w0, rfl⟩ := Int.eq_ofNat_of_zero_le hw'
  have t3 := rw_tex rw2 e3
  obtain ⟨_, i3, x3, g3, hr3, hi3⟩ := id rw3
  have ns3 : NS K (upd H1 r (.lst [.ref c, .int i3, .int x3, .int g3])) H3 a z [] [] (some z) := by
    obtain ⟨_, i2, x2, g2, hr2, _⟩ := id rw2
    obtain ⟨_, i1, x1, g1, hr1, _⟩ := id rw1
    refine (nst.row (R := r) (o := .lst [.ref c, .int i3, .int x3, .int g3]) (by rw [hr1]; exact fun z => (by cases z)) (tex_put hr2 (by intro xs z; cases z) (by intro a b z; cases z))).ex fun b o q => ?_
    by_cases hb : b = r
    · rw [hb, upd_same] at q
      rw [hb, hr3]
      exact q
    · rw [upd_ne hb] at q
      exact e3 b o (by simpa using hb) q
  have hB3 : ∀ {G : Hp}, Ex (upd H1 r (.lst [.ref c, .int i3, .int x3, .int g3])) G → ExB [r] H G ∧ Rw K ns r c G := fun e => by
    have q1 : ExB [r] H1 (upd H1 r (.lst [.ref c, .int i3, .int x3, .int g3])) := exb1
    have q2 := (e01.trans q1).trans e.b
    exact ⟨q2, Rw.upd rw0.1 q2 (e _ _ upd_same) hi3⟩
  have t03 := (t01.trans nst.ex0.t).trans t3
  generalize upd H1 r (.lst [.ref c, .int i3, .int x3, .int g3]) = B3 at ns3 hB3
  obtain ⟨tt, htt, ht1, ht5⟩ : ∃ tt : Nat, (1 : Int) + (w0 : Int) = (tt : Int) ∧ 1 ≤ tt ∧ tt ≤ 5 := ⟨1 + w0, by omega, by omega, by omega⟩
  refine ⟨_, _, rfl, rfl, two_sz _ _, fun tq htq => ⟨tq, _, rfl, .inl (.inl upd_same), rfl, _, _, rfl, _, _, rfl, rfl, ?_⟩⟩
  rw [htt]
  have f4 := ex_new htq (o := .tup [.ref p, .int (1 + (w0 : Int))])
  have ns4 := ns3.ex f4
  have t04 := t03.trans f4.t
  rw [htt] at ns4 t04
  generalize upd H3 tq (.tup [.ref p, .int (tt : Int)]) = H4 at ns4 t04 ⊢
  obtain ⟨am, bm, cm, xs, rfl, ham, hbm, rbm, lxm, _⟩ := mzS (rv.mono t04)
  have hwq := walk_Q (K := K) (a := bm) (xs := xs)
  rw [lxm] at hwq
  rw [← opn_nil z] at ns4
  have ns4 : NS K B3 H4 a z (nar z.ps tt 0) (nar z.ps tt 0) (some (opn z (nar z.ps tt 0))) := by
    have : nar z.ps tt 0 = [] := rfl
    rw [this]
    rw [opn_nil] at ns4 ⊢
    exact ns4
  refine ⟨_, rfl, am, _, _, _, rfl, rfl, ham, rfl, bm, xs, rfl, hbm, for_it hwq (fun q σ H' => (∃ x5 x6 x7 x8 x9, σ = [some (.ref r), some (.ref am), some tw, some (.ref p), some (.int (tt : Int)), x5, x6, x7, x8, x9]) ∧ TEx H4 H' ∧ NS K B3 H' a z (nar z.ps tt q) (nar z.ps tt q) (some (opn z (nar z.ps tt q)))) ⟨⟨_, _, _, _, _, rfl⟩, TEx.refl _, ns4⟩ (fun q σ H' _ h => h.2.1.sq hbm) ?_ ?_⟩
  · rintro q y σ H5' H5 hq ⟨⟨x5, x6, x7, x8, x9, rfl⟩, t5, ns5⟩ ⟨tp, y', rfl, htp, rfl, hy⟩
    have hpk : z.ps[q]? = some z.ps[q] := List.getElem?_eq_getElem hq
    obtain ⟨tg, g1, g2⟩ := pgS (rbm.mono t5) hpk
    rw [hy] at g1
    cases g1
    have f6 := ex_new htp (o := .tup [.int (q : Nat), .ref tg])
    refine ⟨tp, _, rfl, .inl (.inl upd_same), rfl, _, _, rfl, _, _, rfl, rfl, ?_⟩
    have ns6 := ns5.ex f6
    have t6 := t5.trans f6.t
    have g6 := f6.t.sq g2
    generalize upd H5' tp (.tup [.int (q : Nat), .ref tg]) = H6 at ns6 t6 g6 ⊢
    refine ⟨_, rfl, tg, _, _, _, rfl, rfl, g6, rfl, _, rfl, _, _, rfl, rfl, _, rfl, ifBH (fun cc => ?_) (fun cc => ?_)⟩
    · have cc : z.ps[q].w < tt := by have := of_decide_eq_true cc; omega
      have hsn : nar z.ps tt (q + 1) = nar z.ps tt q ++ [q] := by rw [nar_succ, if_pos (by rw [hpk]; exact cc)]
      obtain ⟨_, _, _, _, _, _, _, hne1, _⟩ := ns6.v
      rw [hap] at hne1
      have hnl := nar_len z.ps tt q
      refine ⟨_, rfl, p, a.dxn, _, rfl, hne1, rfl, _, rfl, B3, a, z, nar z.ps tt q, nar z.ps tt q, _, q, by rw [hap]; rfl, ns6, ok, hq, by omega, by omega, fun h => by have := (nar_mem.mp h).1; omega, fun H' t' ns' => ?_⟩
      rw [hsn]
      exact ⟨⟨_, _, _, _, _, rfl⟩, t6.trans t', ns'⟩
    · have cc : ¬ z.ps[q].w < tt := by have := of_decide_eq_false cc; omega
      have hsn : nar z.ps tt (q + 1) = nar z.ps tt q := by rw [nar_succ, if_neg (by rw [hpk]; exact cc)]
      rw [hsn]
      exact ⟨⟨_, _, _, _, _, rfl⟩, t6, ns6⟩
  rintro σ H5 ⟨⟨x5, x6, x7, x8, x9, rfl⟩, t5, ns5⟩
  -- what is due
  obtain ⟨rows, rfl, htd⟩ := htab
  have rtw5 := rtw.mono (t04.trans t5)
  obtain ⟨wa, wxs, rfl, hwa, rwx⟩ := rtw5.ofTup
  have hwxl : wxs.length = z.ds.length := by rw [rwx.len, htd.1]
  have hww := walk_tup (K := K) (a := wa) (xs := wxs)
  have o3 := ok.dl
  refine ⟨_, rfl, wa, rfl, ⟨_, hwa⟩, fun l hl => lcD (K := K) hl hww (fun q => (rows.take q).map (rowC tt)) rfl (fun H' e' => e'.t.sq hwa) (fun q hq => by rw [List.length_map, List.length_take]; omega) (fun q x H2' H2 hq e2 y R N kR kN => ?_) (fun H6 zs e6 hz6 r6 => ?_)⟩
  · obtain ⟨rfl, hx⟩ := y
    obtain ⟨ds, g1, g2, g3⟩ := htd.2 q (by omega)
    obtain ⟨v0, g4, g5⟩ := (rwx.mono e2.t).get g1
    rw [hx] at g4
    cases g4
    obtain ⟨la, ls, rfl, hla, rls⟩ := g5.ofTup
    have hlsl : ls.length = z.ds.length := by rw [rls.len, g2]
    have hwl := walk_tup (K := K) (a := la) (xs := ls)
    refine ⟨rfl, _, rfl, la, rfl, ⟨_, hla⟩, fun l2 hl2 => lcD (K := K) hl2 hwl (fun q => (ds.take q).map (cell tt)) rfl (fun H' e' => e'.t.sq hla) (fun q hq => by rw [List.length_map, List.length_take]; omega) (fun q2 x2 H7' H7 hq2 e7 y2 R2 N2 kR2 kN2 => ?_) (fun H8 zs8 e8 hz8 r8 => ?_)⟩
    · obtain ⟨rfl, hx2⟩ := y2
      obtain ⟨d, g6, W, rfl, g7, _⟩ := g3 q2 (by omega)
      obtain ⟨v1, g8, g9⟩ := (rls.mono e7.t).get g6
      rw [hx2] at g8
      cases g8
      obtain rfl := g9.ofInt
      have hsn : (ds.take (q2 + 1)).map (cell tt) = (ds.take q2).map (cell tt) ++ [.int (if (tt : Int) ≤ (W : Int) then 1 else 0)] := by
        rw [List.take_add_one, g6, List.map_append]
        rfl
      refine ⟨rfl, _, rfl, _, rfl, _, _, rfl, rfl, _, rfl, ifBH (fun cc => ?_) (fun cc => ?_)⟩
      · have cc := of_decide_eq_true cc
        exact kR2 _ _ (.int 1) (Ex.refl _) (.int 1) (by rw [hsn, if_pos cc])
      · have cc := of_decide_eq_false cc
        exact kR2 _ _ (.int 0) (Ex.refl _) (.int 0) (by rw [hsn, if_neg cc])
    · rw [List.take_of_length_le (by omega)] at r8
      refine ⟨l2, _, rfl, .inl ⟨SqL.of hz8, fun u2 hu2 => ?_⟩⟩
      refine kR _ _ (rowC tt (.tup ds)) (e8.trans (ex_new hu2)) (rd_new hu2 r8) ?_
      rw [List.take_add_one, g1, List.map_append]
      rfl
  rw [List.take_of_length_le (by rw [htd.1]; omega)] at r6
  refine ⟨l, _, rfl, .inl ⟨SqL.of hz6, fun du hdu => ?_⟩⟩
  have f7 := e6.trans (ex_new hdu (o := .tup zs))
  have rdu : RD K (upd H6 du (.tup zs)) (.tup (rows.map (rowC tt))) (.ref du) := rd_new hdu r6
  have ns7 := ns5.ex f7
  have t47 := t5.trans f7.t
  generalize upd H6 du (.tup zs) = H7 at rdu ns7 t47 ⊢
  have hdue := due_tab ok ht1 (by omega) htd
  -- the table
  obtain ⟨_, _, _, _, _, _, _, hne7, _⟩ := ns7.v
  rw [hap] at hne7
  refine ⟨_, rfl, p, a.dxn, _, rfl, hne7, rfl, B3, a, z, _, _, _, by rw [hap]; rfl, ns7, fun t8 v8 H8 e8 ht8 r8 => ?_⟩
  refine ⟨_, rfl, neD_use 3 ht8.nb hdue.nb (by decide) r8 (rdu.mono e8.t) (fun _ => ⟨_, rfl, iteF ?_⟩) (fun hne8 => absurd (ht8.fun_ hdue) hne8)⟩
  have ns8 := ns7.ex e8
  have t48 := t47.trans e8.t
  -- undone
  have ham8 := t48.sq ham
  have hbm8 := t48.sq hbm
  have rbm8 := rbm.mono t48
  have hwt := walk_tup (K := K) (a := bm) (xs := xs)
  rw [lxm] at hwt
  refine ⟨_, rfl, am, _, _, _, rfl, rfl, ham8, rfl, bm, rfl, ⟨_, hbm8⟩, fun l9 hl9 => lcD (K := K) hl9 hwt (fun q => List.replicate (nar z.ps tt q).length (.int 1)) rfl (fun H' e' => e'.t.sq hbm8) (fun q hq => by rw [List.length_replicate]; have := nar_len z.ps tt q; omega) (fun q x H2' H2 hq e2 y R N kR kN => ?_) (fun H9 zs9 e9 hz9 r9 => ?_)⟩
  · obtain ⟨rfl, hx⟩ := y
    have hpk : z.ps[q]? = some z.ps[q] := List.getElem?_eq_getElem hq
    obtain ⟨tg, g1, g2⟩ := pgS (rbm8.mono e2.t) hpk
    rw [hx] at g1
    cases g1
    refine ⟨rfl, _, rfl, tg, _, _, _, rfl, rfl, g2, rfl, _, rfl, _, _, rfl, rfl, _, rfl, ifBH (fun cc => ?_) (fun cc => ?_)⟩
    · have cc : z.ps[q].w < tt := by have := of_decide_eq_true cc; omega
      refine kR _ _ (.int 1) (Ex.refl _) (.int 1) ?_
      rw [nar_succ, if_pos (by rw [hpk]; exact cc), List.length_append]
      exact rep_succ _ _
    · have cc : ¬ z.ps[q].w < tt := by have := of_decide_eq_false cc; omega
      refine kN _ (Ex.refl _) ?_
      rw [nar_succ, if_neg (by rw [hpk]; exact cc)]
  have hzl : zs9.length = (nar z.ps tt z.ps.length).length := by rw [r9.len, List.length_replicate]
  have hSn := nar_len z.ps tt z.ps.length
  have hSd := nar_nd z.ps tt z.ps.length
  have hSm : ∀ i ∈ nar z.ps tt z.ps.length, i < z.ps.length := fun i hi => (nar_mem.mp hi).1
  have ns9 := ns8.ex e9
  have t49 := t48.trans e9.t
  generalize nar z.ps tt z.ps.length = S at ns9 hzl hSn hSd hSm
  refine ⟨l9, _, rfl, .inl (SqL.of hz9), _, rfl, by omega, by omega, ?_⟩
  rw [show ((zs9.length : Int)).toNat = S.length by omega]
  have nsS : NS K B3 H9 a z (S.take (S.length - 0)) (S.take (S.length - 0)) (some (opn z (S.take (S.length - 0)))) := by
    rw [Nat.sub_zero, List.take_length]
    exact ns9
  refine for_it (walk_range (lo := 0) (n := S.length)) (fun q σ H' => (∃ x5 x6 x7 x8 x9, σ = [some (.ref r), some (.ref am), some (.ref wa), some (.ref p), some (.int (tt : Int)), x5, x6, x7, x8, x9]) ∧ TEx H4 H' ∧ NS K B3 H' a z (S.take (S.length - q)) (S.take (S.length - q)) (some (opn z (S.take (S.length - q))))) ⟨⟨_, _, _, _, _, rfl⟩, t49, nsS⟩ (fun _ _ _ _ _ => trivial) ?_ ?_
  · rintro q y σ H10' H10 hq ⟨⟨x5, x6, x7, x8, x9, rfl⟩, t10, ns10⟩ ⟨rfl, rfl⟩
    obtain ⟨_, _, _, _, _, _, _, hne10, _⟩ := ns10.v
    rw [hap] at hne10
    refine ⟨_, rfl, p, a.dxn, _, rfl, hne10, rfl, B3, a, z, _, _, _, by rw [hap]; rfl, ns10, ok, by rw [List.length_take]; omega, fun i hi => hSm i (List.mem_of_mem_take hi), fun hP => ?_, fun Pt0 i H' hP t' ns' => ?_⟩
    · have := congrArg List.length hP
      rw [List.length_take] at this
      simp at this
      omega
    · refine ⟨_, rfl, iteF' rfl ?_⟩
      have hnd : (Pt0 ++ [i]).Nodup := hP ▸ (hSd.sublist (List.take_sublist _ _))
      have hl : Pt0.length = S.length - (q + 1) := by
        have := congrArg List.length hP
        rw [List.length_take, List.length_append] at this
        simp at this
        omega
      have hP0 : Pt0 = S.take (S.length - (q + 1)) := by
        have := congrArg (List.take Pt0.length) hP
        rw [List.take_append_of_le_length (Nat.le_refl _), List.take_length, List.take_take, hl] at this
        rw [← this]
        congr 1
        omega
      rw [hP, sh_last hnd, hP0] at ns'
      exact ⟨⟨_, _, _, _, _, rfl⟩, t10.trans t', ns'⟩
  rintro σ H10 ⟨⟨x5, x6, x7, x8, x9, rfl⟩, t10, ns10⟩
  rw [Nat.sub_self, List.take_zero, opn_nil] at ns10
  obtain ⟨_, _, _, _, _, _, _, hne10, _⟩ := ns10.v
  rw [hap] at hne10
  refine ⟨_, rfl, p, a.dxn, _, rfl, hne10, rfl, B3, a, z, _, _, _, by rw [hap]; rfl, ns10, ok, by simp, by simp, fun _ => ?_, fun Pt0 i H' hP t' ns' => ?_⟩
  · refine ⟨_, rfl, _, rfl, iteT' rfl ?_⟩
    refine ⟨_, rfl, p, a.dxn, _, rfl, hne10, rfl, B3, a, z, _, _, _, by rw [hap]; rfl, ns10, fun t11 v11 H11 e11 ht11 r11 => ?_⟩
    have rv11 := rv.mono ((t04.trans t10).trans e11.t)
    refine ⟨_, rfl, .can, 0, z, _, rfl, rv11, ok, by decide, fun t12 v12 H12 e12 ht12 r12 => ?_⟩
    refine eqD_use 3 ht11.nb ht12.nb (by decide) (r11.mono e12.t) r12 (fun _ => ⟨_, rfl, iteT ?_⟩) (fun hne' => absurd (ht11.fun_ ht12) hne')
    have ns12 := ns10.ex (e11.trans e12)
    have hne12 := (e11.trans e12) _ _ hne10
    refine ⟨_, rfl, p, a.dxn, _, rfl, hne12, rfl, B3, a, z, [], [], _, by rw [hap]; rfl, ns12, ok, fun u13 H13 e13 ru13 => ?_⟩
    rw [opn_nil] at ru13
    refine ⟨_, rfl, eqD_use 3 (mz_nb z) (mz_nb z) (by decide) ru13 (rv11.mono (e12.trans e13).t) (fun _ => ?_) (fun hne' => absurd rfl hne')⟩
    obtain ⟨q1, q2⟩ := hB3 (ns12.ex e13).ex0
    exact k _ q1 (((t04.trans t10).trans (e11.trans e12).t).trans e13.t) q2
  · have := congrArg List.length hP
    simp at this
end
end K09
/-! The law k09. -/
namespace K09
open PySem PySem.Spec
open PyProof.Rows L2 Sl Pm
def spLaw (K : PySem.W.Frag) : Sp := fun vs H Q _ => ∃ (c : Addr) (ns : List Int), vs = [.ref c] ∧ SqL K H c (ns.map V.int) ∧ ∀ H', Q (.bl true) H'
section
variable {P : Program} {w : World} {K : PySem.W.Frag} {mg : Str → Option Value} {base : Heap} {H H1 H2 : Hp} {E : XK} {Q : VK} {ns : List Int} {r c : Addr} {m : Nat}
def tabV (K : PySem.W.Frag) (z : Mz) (m : Nat) : Hp → Kd → V → Prop := fun H kd v => ∃ t, TabOk z kd m t ∧ RD K H t v
theorem tabV.t {z : Mz} : TMono (tabV K z m) := fun _ _ _ _ e ⟨t, h, r⟩ => ⟨t, h, r.mono e⟩
theorem rds_kds : ∀ {ks : List Kd} {xs : List V}, RDs K H (ks.map fun kd => D.str (kdS kd)) xs → xs = ks.map fun kd => V.str (kdS kd)
  | [], _, r => r.ofNil
  | kd :: ks, _, r => by
    obtain ⟨x, w, rfl, h1, h2⟩ := RDs.ofCons (show RDs K H (D.str (kdS kd) :: ks.map fun kd => D.str (kdS kd)) _ from r)
    rw [h1.ofStr, rds_kds h2]
    rfl
theorem eqV_kd (a b : Kd) (h : a ≠ b) : eqV (.str (kdS a)) (.str (kdS b)) = false := by
  cases a <;> cases b <;> first | exact absurd rfl h | decide +kernel
theorem inV_kd {kd : Kd} : ∀ {ks : List Kd}, kd ∉ ks → inV (.str (kdS kd)) (ks.map fun kd => V.str (kdS kd)) = false
  | [], _ => rfl
  | k :: ks, h => by
    have h1 : k ≠ kd := fun z => h (z ▸ List.mem_cons_self)
    have h2 := inV_kd (ks := ks) (kd := kd) fun z => h (List.mem_cons_of_mem _ z)
    unfold inV at h2 ⊢
    rw [List.map_cons, List.any_cons, h2]
    first
      | rw [eqV_kd kd k h1.symm]; rfl
      | rw [eqV_kd k kd h1]; rfl
theorem flat_kds (ks : List Kd) : (ks.map fun kd => V.str (kdS kd)).all flatV = true := by
  rw [List.all_eq_true]
  intro v hv
  obtain ⟨k, _, rfl⟩ := List.mem_map.mp hv
  rfl
theorem kds_nb (ks : List Kd) : Nb 1 (.tup (ks.map fun kd => D.str (kdS kd))) := fun d hd => by
  obtain ⟨k, _, rfl⟩ := List.mem_map.mp hd
  show PyData.strOk (kdS k) = true
  cases k <;> decide +kernel
theorem kdS_inj {a b : Kd} (h : kdS a = kdS b) : a = b := by
  cases a <;> cases b <;> first | rfl | exact absurd h (by decide +kernel)
/-- least tables tell whether there are ways -/
theorem alk_can {z y : Mz} (h : Alk z y .least m) (hl : y.ds.length = z.ds.length) : Alk z y .can m := by
  obtain ⟨t, ⟨rows, rfl, h1⟩, ⟨rows', e, h2⟩⟩ := h
  obtain rfl := D.tup.inj e
  let f : D → D := fun d => match d with | .non => .int 0 | _ => .int 1
  let g : D → D := fun d => match d with | .tup ds => .tup (ds.map f) | d => d
  have go : ∀ x : Mz, TD .least m rows x.ds.length x.ds.length (fun i j => clos x (dr x i) (dr x j)) → TabOk x .can m (.tup (rows.map g)) := fun x hx => by
    refine ⟨_, rfl, by rw [List.length_map]; exact hx.1, fun i hi => ?_⟩
    obtain ⟨ds, g1, g2, g3⟩ := hx.2 i hi
    refine ⟨ds.map f, by rw [List.getElem?_map, g1]; rfl, by rw [List.length_map]; exact g2, fun j hj => ?_⟩
    obtain ⟨d, g4, g5⟩ := g3 j hj
    refine ⟨f d, by rw [List.getElem?_map, g4]; rfl, ?_⟩
    rcases g5 with ⟨L, rfl, q1, _⟩ | ⟨rfl, q1⟩
    · exact .inl ⟨rfl, L, q1⟩
    · exact .inr ⟨rfl, q1⟩
  exact ⟨_, go z h1, go y h2⟩
theorem lp4t {z : Mz} {xs : List V} (h : LP (tabV K z m) H kds xs) : ∃ v1 v2 v3 v4 t3 t4, xs = [v1, v2, v3, v4] ∧ TabOk z .wide m t3 ∧ RD K H t3 v3 ∧ TabOk z .count m t4 ∧ RD K H t4 v4 := by
  obtain ⟨v1, v2, v3, v4, rfl, _, _, ⟨t3, a, b⟩, ⟨t4, c, d⟩⟩ := lp4 h
  exact ⟨v1, v2, v3, v4, t3, t4, rfl, a, b, c, d⟩
theorem law_of (T : Tx K mg) : ∃ fd, (∀ (s : Shared) (u : Value), BindsTo s fd ⟨[u], []⟩ [("script", u)]) ∧ ∀ (P : Program) (w : World) (base : Heap),
    FnOk P w K mg base (L2.CX P w) 98 (a_law K) fd ["script"] (spLaw K) := by
  obtain ⟨fd, F⟩ := f_law T
  refine ⟨fd, fun s u => F.bindsA (b_law T) s [u] rfl, fun P w base => ?_⟩
  have h__law_taken := ok_taken (P := P) (w := w) (base := base) T
  have h__law_maze := ok_lMaze (P := P) (w := w) (base := base) T
  have h__law_pair := ok_pair (P := P) (w := w) (base := base) T
  have h__law_narrow := ok_narrow (P := P) (w := w) (base := base) T
  have h__law_parts := ok_parts (P := P) (w := w) (base := base) T
  have h_table_of := ok_tableOf (P := P) (w := w) (base := base) T
  have h_thin := ok_thin (P := P) (w := w) (base := base) T
  have h_unlike := ok_unlike (P := P) (w := w) (base := base) T
  have h_are_alike := K09.ok_alike (P := P) (w := w) (base := base) T
  refine F.ok (k := 97) (z_law T) (fun vs H Q E h => by obtain ⟨_, _, rfl, _⟩ := h; rfl) (fun cdv A outer s H vs Q E hr h => ?_)
  obtain ⟨c, ns, rfl, hs, k⟩ := h
  refine ⟨_, (pss_cons (ps_set (i := 1) (z_law T).nd rfl (Or.inl rfl) (pe_lst (pa_cons (pv 0) (pa_cons pe_int (pa_cons pe_int (pa_cons pe_int pa_nil))))))
  (pss_cons (ps_for (passes_of rfl) rfl (pi_range1 (by rfl) (l_range T) (pa_cons pe_int pa_nil)) (pg_name (i := 2) (z_law T).nd rfl (Or.inl rfl)) (pss_cons (ps_asg (pe_tup (pa_cons (pcall h__law_maze (hr.mono (by omega)) (g__law_maze T) (pa_cons (pv 1) (pa_cons pe_int (pa_cons pe_int (pa_cons (pe_op oAddI pe_int (pcall h__law_taken (hr.mono (by omega)) (g__law_taken T) (pa_cons (pv 1) (pa_cons pe_int pa_nil)))) pa_nil))))) (pa_cons (pcall h__law_taken (hr.mono (by omega)) (g__law_taken T) (pa_cons (pv 1) (pa_cons pe_int pa_nil))) pa_nil))) (tupK K (n := 2) (pgs_cons (pg_name (i := 3) (z_law T).nd rfl (Or.inr rfl)) (pgs_cons (pg_name (i := 4) (z_law T).nd rfl (Or.inr rfl)) pgs_nil))))
  (pss_cons (ps_setLc (i := 5) (own := [("kind", 6)]) rfl (z_law T).nd rfl rfl (sw_true rfl rfl rfl (by decide +kernel)) (tupW K (pe_tup (pa_cons pe_str (pa_cons pe_str (pa_cons pe_str (pa_cons pe_str pa_nil)))))) (blkOk_by (N := n_law) (sc := defScope s_law) (by decide +kernel)) (fun _ _ _ _ _ => by exact (pg_name (i := 6) (z_law T).nd rfl (Or.inl rfl))) (fun _ _ _ _ _ => by exact pts_nil) (fun _ _ _ _ _ => by exact (pcall h_table_of (hr.mono (by omega)) (g_table_of T) (pa_cons (pv 3) (pa_cons (pv 6) (pa_cons (pv 4) pa_nil))))))
  (pss_cons (ps_for (passes_of rfl) rfl (pi_range1 (by rfl) (l_range T) (pa_cons (pe_callB (lenK K) (by rfl) (l_len T) (by decide +kernel) (pa_cons (pe_ix (ixT K) (pv 3) pe_int (fun _ _ => rfl)) pa_nil)) pa_nil)) (pg_name (i := 7) (z_law T).nd rfl (Or.inr rfl)) (pss_one (ps_for (passes_of rfl) rfl (pi_range1 (by rfl) (l_range T) (pa_cons (pe_callB (lenK K) (by rfl) (l_len T) (by decide +kernel) (pa_cons (pe_ix (ixT K) (pv 3) pe_int (fun _ _ => rfl)) pa_nil)) pa_nil)) (pg_name (i := 8) (z_law T).nd rfl (Or.inr rfl)) (pss_one (ps_if (pt_not (pt_val (pcall h__law_pair (hr.mono (by omega)) (g__law_pair T) (pa_cons (pv 3) (pa_cons (pv 7) (pa_cons (pv 8) (pa_cons (pe_lc (own := [("own", 9)]) rfl (z_law T).nd (listW K (pv 5)) (blkOk_by (N := n_law) (sc := defScope s_law) (by decide +kernel)) (fun _ _ _ _ _ => by exact (pg_name (i := 9) (z_law T).nd rfl (Or.inl rfl))) (fun _ _ _ _ _ => by exact pts_nil) (fun _ _ _ _ _ => by exact (pe_ix (ixT K) (pe_ix (ixT K) (pv 9) (pv 7) (fun _ _ => rfl)) (pv 8) (fun _ _ => rfl)))) pa_nil))))))) (pss_one (ps_ret pe_bl)) pss_nil)))))
  (pss_cons (ps_if (PW.pt (pw_or (pt_not (pt_val (pcall h__law_narrow (hr.mono (by omega)) (g__law_narrow T) (pa_cons (pv 1) (pa_cons (pv 3) (pa_cons (pe_ix (ixL K) (pv 5) pe_int (fun _ _ => rfl)) pa_nil)))))) (pw_or1 (pt_not (pt_val (pcall h__law_parts (hr.mono (by omega)) (g__law_parts T) (pa_cons (pv 3) (pa_cons (pv 4) pa_nil)))))))) (pss_one (ps_ret pe_bl)) pss_nil)
  (pss_cons (ps_set (i := 10) (z_law T).nd rfl (Or.inl rfl) (pcall h_thin (hr.mono (by omega)) (g_thin T) (pa_cons (pv 3) (pa_cons pe_str (pa_cons (pv 4) pa_nil)))))
  (pss_cons (ps_if (PW.pt (pw_or (pt_cmpR (neDK K hr.units) (pcall h_table_of (hr.mono (by omega)) (g_table_of T) (pa_cons (pv 10) (pa_cons pe_str (pa_cons (pv 4) pa_nil)))) (pe_ix (ixL K) (pv 5) pe_int (fun _ _ => rfl)) (nomark _)) (pw_or1 (pt_cmpR (inK K) pe_str (pcall h_unlike (hr.mono (by omega)) (g_unlike T) (pa_cons (pv 3) (pa_cons (pv 10) (pa_cons (pv 4) pa_nil)))) rfl)))) (pss_one (ps_ret pe_bl)) pss_nil)
  (pss_cons (ps_set (i := 11) (z_law T).nd rfl (Or.inl rfl) (pcall h_thin (hr.mono (by omega)) (g_thin T) (pa_cons (pv 3) (pa_cons pe_str (pa_cons pe_int pa_nil)))))
  (pss_one (ps_if (PW.pt (pw_or (pt_not (pt_val (pcall h_are_alike (hr.mono (by omega)) (g_are_alike T) (pa_cons (pv 3) (pa_cons (pv 11) (pa_cons pe_str (pa_cons pe_int pa_nil))))))) (pw_or1 (pt_cmpR (eqDK K hr.units) (pe_slice (slT K) (pcall h_unlike (hr.mono (by omega)) (g_unlike T) (pa_cons (pv 11) (pa_cons (pv 3) (pa_cons pe_int pa_nil)))) po_none (po_some pe_int)) (pe_tup (pa_cons pe_str pa_nil)) (nomark _))))) (pss_one (ps_ret pe_bl)) pss_nil))))))))))
  (pss_one (ps_ret pe_bl)))), ?_⟩
  refine ⟨_, rfl, by show 4 ≤ sizeLine; decide, fun r hr0 => ?_⟩
  refine ⟨12, rfl, by decide, by decide, for_it (walk_range (lo := 0) (n := 12)) (fun i σ H' => Rw K ns r c H' ∧ ∃ x2 x3 x4 x5 x6 x7 x8 x9 x10 x11 : Option V, σ = [some (.ref c), some (.ref r), x2, x3, x4, x5, x6, x7, x8, x9, x10, x11]) ?_ (fun _ _ _ _ _ => trivial) ?_ ?_⟩
  · exact ⟨⟨Scr.new hs hr0, 0, 71993, 0, upd_same, by decide⟩, _, _, _, _, _, _, _, _, _, _, rfl⟩
  · rintro i x σ H1 H1' hi ⟨q1, x2, x3, x4, x5, x6, x7, x8, x9, x10, x11, rfl⟩ ⟨rfl, rfl⟩
    refine ⟨_, rfl, _, rfl, r, c, ns, _, rfl, by decide, by decide, q1, fun d H2 d0 d1 e2 q2 => ?_⟩
    obtain ⟨d, rfl⟩ := Int.eq_ofNat_of_zero_le d0
    refine ⟨_, _, rfl, rfl, r, c, ns, 6, 9, 1 + d, by rw [show ((1 + d : Nat) : Int) = 1 + (d : Int) by omega]; rfl, q2, by decide, by decide, by decide, by omega, fun z v H3 e3 t3 q3 ok hds rv => ?_⟩
    refine ⟨_, rfl, r, c, ns, _, rfl, by decide, by decide, q3, fun m H4 m0 m1 e4 q4 => ?_⟩
    obtain ⟨m, rfl⟩ := Int.eq_ofNat_of_zero_le m0
    have hm : m ≤ 12 := by omega
    have t4 := rw_tex q3 e4
    refine ⟨two_sz _ _, fun pq hpq => ⟨pq, _, rfl, .inl (.inl upd_same), rfl, _, _, rfl, _, _, rfl, rfl, ?_⟩⟩
    have f5 := ex_new hpq (o := .tup [v, .int (m : Int)])
    have rv5 := (rv.mono t4).mono f5.t
    have q5 := q4.ex f5
    generalize upd H4 pq (.tup [v, .int (m : Int)]) = H5 at rv5 q5 ⊢
    -- tables
    refine ⟨four_sz _ _ _ _, fun t ht => ?_⟩
    have f6 := ex_new ht (o := .tup [.str "can", .str "least", .str "wide", .str "count"])
    have sqt : ∀ {G : Hp}, Ex (upd H5 t (.tup [.str "can", .str "least", .str "wide", .str "count"])) G → SqT K G t ((["can", "least", "wide", "count"] : List Str).map V.str) := fun e => .inl (.inl (e _ _ upd_same))
    have hwt := walk_tup (K := K) (a := t) (xs := (["can", "least", "wide", "count"] : List Str).map V.str)
    refine ⟨t, rfl, ⟨_, sqt (Ex.refl _)⟩, fun l hl => lcT (α := Kd) (VP := tabV K z m) tabV.t hl hwt (fun q => kds.take q) rfl (fun H' e' => sqt e') (fun q hq => by rw [List.length_take]; exact Nat.le_trans (Nat.min_le_left _ _) (Nat.le_of_lt (Nat.lt_of_lt_of_le hq (by decide)))) (fun q x H2' H2 hq e2 y R N kR kN => ?_) (fun H7 xs e7 hl7 lp7 => ?_)⟩
    · obtain ⟨rfl, hx⟩ := y
      obtain ⟨kd, hk, rfl⟩ := kds_at hx
      exact ⟨rfl, _, rfl, _, rfl, _, rfl, kd, m, z, v, rfl, rv5.mono (f6.trans e2).t, ok, hm, fun t' tv H' e' hpt rt => kR _ _ kd e' ⟨t', hpt, rt⟩ (by rw [List.take_add_one, hk]; rfl)⟩
    have lp7 : LP (tabV K z m) H7 kds xs := lp7
    have e57 := f6.trans e7
    have rv7 := rv5.mono e57.t
    have q7 := q5.ex e57
    have hlr : l ≠ r := rw_ne (q5.ex f6) hl
    have hxl : xs.length = 4 := by rw [lp7.1]; rfl
    clear hwt sqt
    obtain ⟨am, bm, cm, ms, rfl, ham, hbm, rbm, lxm, hcm⟩ := mzS rv7
    have o3 := ok.dl
    refine ⟨_, rfl, am, _, _, _, rfl, rfl, ham, rfl, cm, _, rfl, .inr hcm, _, rfl, by omega, by rw [nV_len]; omega, ?_⟩
    rw [nV_len]
    refine for_it (walk_range (lo := 0) (n := z.ds.length)) (fun i σ H' => Ex H7 H' ∧ ∃ x2 x6 x7 x8 x9 x10 x11, σ = [some (.ref c), some (.ref r), x2, some (.ref am), some (.int (m : Int)), some (.ref l), x6, x7, x8, x9, x10, x11]) ⟨Ex.refl _, _, _, _, _, _, _, _, rfl⟩ (fun _ _ _ _ _ => trivial) ?_ ?_
    · rintro i x σ H8' H8 hi ⟨e8, x2, x6, x7, x8, x9, x10, x11, rfl⟩ ⟨rfl, rfl⟩
      refine ⟨_, rfl, am, _, _, _, rfl, rfl, e8.t.sq ham, rfl, cm, _, rfl, .inr (e8.t.sq hcm), _, rfl, by omega, by rw [nV_len]; omega, ?_⟩
      rw [nV_len]
      refine for_it (walk_range (lo := 0) (n := z.ds.length)) (fun j σ H' => Ex H7 H' ∧ ∃ x2 x6 x8 x9 x10 x11, σ = [some (.ref c), some (.ref r), x2, some (.ref am), some (.int (m : Int)), some (.ref l), x6, some (.int (0 + (i : Int))), x8, x9, x10, x11]) ⟨e8, _, _, _, _, _, _, rfl⟩ (fun _ _ _ _ _ => trivial) ?_ ?_
      · rintro j x σ H9' H9 hj ⟨e9, x2, x6, x8, x9, x10, x11, rfl⟩ ⟨rfl, rfl⟩
        have ei : (0 : Int) + (i : Int) = ((i : Nat) : Int) := by omega
        have ej : (0 : Int) + (j : Int) = ((j : Nat) : Int) := by omega
        have hwl := walk_list (K := K) (a := l) (xs := xs)
        rw [hxl] at hwl
        refine ⟨_, rfl, _, rfl, _, rfl, _, rfl, l, rfl, ⟨_, SqL.of (e9 _ _ hl7)⟩, fun l6 hl6 => lcT (α := Kd) (VP := entV K (clos z (dr z i) (dr z j)) m) entV.t hl6 hwl (fun q => kds.take q) rfl (fun H' e' => SqL.of (e' _ _ (e9 _ _ hl7))) (fun q hq => by rw [List.length_take]; exact Nat.le_trans (Nat.min_le_left _ _) (by omega)) (fun q x H2' H2 hq e2 y R N kR kN => ?_) (fun H11 ys e11 hl11 lp11 => ?_)⟩
        · obtain ⟨rfl, hx⟩ := y
          obtain ⟨kd, hk, t', ⟨rows, rfl, htd⟩, rr⟩ := (lp7.mono tabV.t.m (e9.trans e2)).getV hx
          obtain ⟨ds, g1, g2, g3⟩ := htd.2 i hi
          obtain ⟨dd', g4, g5⟩ := g3 j hj
          obtain ⟨a, ws, rfl, ha, ra⟩ := rr.ofTup
          obtain ⟨w, g6, g7⟩ := ra.get g1
          obtain ⟨b, us, rfl, hb, rb⟩ := g7.ofTup
          obtain ⟨w2, g8, g9⟩ := rb.get g4
          exact ⟨rfl, _, rfl, _, rfl, a, _, _, _, rfl, rfl, ha, by rw [ei]; exact atI_nat g6, _, rfl, b, _, _, _, rfl, rfl, hb, by rw [ej]; exact atI_nat g8, kR _ _ kd (Ex.refl _) ⟨dd', g5, g9⟩ (by rw [List.take_add_one, hk]; rfl)⟩
        have lp11 : LP (entV K (clos z (dr z i) (dr z j)) m) H11 kds ys := lp11
        obtain ⟨v1, v2, v3, v4, rfl, ⟨d1, p1, r1⟩, ⟨d2, p2, r2⟩, ⟨d3, p3, r3⟩, ⟨d4, p4, r4⟩⟩ := lp4 lp11
        have e711 := e9.trans e11
        refine ⟨z, .ref am, i, j, m, l6, d1, d2, d3, d4, by (show [V.ref am, V.int (0 + (i : Int)), V.int (0 + (j : Int)), V.ref l6] = _); rw [ei, ej], rv7.mono e711.t, ok, hi, hj, hm, ⟨_, hl11, .cons r1 (.cons r2 (.cons r3 (.cons r4 .nil)))⟩, p1, p2, p3, p4, fun H' e' => ⟨_, rfl, iteF' rfl ⟨e711.trans e', _, _, _, _, _, _, rfl⟩⟩⟩
      · rintro σ H9 ⟨e9, x2, x6, x8, x9, x10, x11, rfl⟩
        exact ⟨e9, _, _, _, _, _, _, _, rfl⟩
    rintro σ H8 ⟨e8, x2, x6, x7, x8, x9, x10, x11, rfl⟩
    have lp8 := lp7.mono tabV.t.m e8
    obtain ⟨v1, v2, v3, v4, t3', t4', rfl, htw, rtw, htc, rtc⟩ := lp4t lp8
    have hl8 := e8 _ _ hl7
    have rv8 := rv7.mono e8.t
    have q8 := q7.ex e8
    refine ⟨_, rfl, _, rfl, _, rfl, l, _, _, _, rfl, rfl, SqL.of hl8, rfl, r, c, ns, z, _, v3, m, t3', rfl, q8, rv8, ok, rtw, htw, fun H9 e9 t9 q9 => ⟨_, rfl, iteF' rfl ?_⟩⟩
    have hl9 := exb_get e9 hl8 hlr
    have rv9 := rv8.mono t9
    have rtc9 := rtc.mono t9
    refine ⟨_, rfl, _, rfl, z, _, m, rfl, rv9, ok, hm, fun H10 e10 => ⟨_, rfl, iteF' rfl ?_⟩⟩
    refine ⟨_, rfl, _, rfl, z, _, .count, m, rfl, rv9.mono e10.t, ok, hm, fun y u H11 e11 ru oky hn hyd hpl hal => ?_⟩
    have e911 := e10.trans e11
    refine ⟨_, rfl, _, rfl, .count, m, y, u, rfl, ru, oky, hm, fun t12 v12 H12 e12 ht12 r12 => ?_⟩
    have e912 := e911.trans e12
    have heq : t12 = t4' := by
      obtain ⟨t0, a1, a2⟩ := hal
      exact (ht12.fun_ a2).trans (htc.fun_ a1).symm
    refine ⟨_, rfl, l, _, _, _, rfl, rfl, SqL.of (e912 _ _ hl9), rfl, neD_use 3 ht12.nb htc.nb (by decide) r12 (rtc9.mono e912.t) (fun _ => ⟨_, rfl, iteF ?_⟩) (fun hne => absurd heq hne)⟩
    refine ⟨_, rfl, _, rfl, _, rfl, z, y, _, u, m, rfl, rv9.mono e912.t, ru.mono e12.t, ok, oky, by rw [hyd], hm, fun t13 H13 e13 r13 => ?_⟩
    obtain ⟨p13, xs13, rfl, hp13, rx13⟩ := r13.ofTup
    obtain rfl := rds_kds rx13
    have hin : inV (.str "count") ((unl z y m).map fun kd => V.str (kdS kd)) = false := inV_kd (kd := .count) fun hh => unl_mem.mp hh hal
    refine ⟨p13, _, rfl, .inr hp13, rfl, flat_kds _, _, rfl, iteF' hin ?_⟩
    have e913 := e912.trans e13
    refine ⟨_, rfl, z, _, .least, 0, rfl, rv9.mono e913.t, ok, by decide, fun y2 u2 H14 e14 ru2 oky2 hn2 hyd2 hpl2 hal2 => ?_⟩
    have e914 := e913.trans e14
    have hac := alk_can hal2 (by rw [hyd2])
    refine ⟨_, rfl, _, rfl, z, y2, _, u2, .can, 0, rfl, rv9.mono e914.t, ru2, ok, oky2, by rw [hyd2], by decide, fun H15 e15 _ => ⟨_, rfl, iteF' rfl ?_⟩, fun H15 e15 hno => absurd hac hno⟩
    have e915 := e914.trans e15
    refine ⟨_, rfl, _, rfl, y2, z, u2, _, 0, rfl, ru2.mono e15.t, rv9.mono e915.t, oky2, ok, by rw [hyd2], by decide, fun t16 H16 e16 r16 => ?_⟩
    refine ⟨_, rfl, ?_⟩
    refine slTo (jj := 1) r16 1 rfl fun u17 H17 e17 r17 => ?_
    refine ⟨one_sz _, fun p18 hp18 => ?_⟩
    have f18 := ex_new hp18 (o := .tup [.str "can"])
    have hnc : ((unl y2 z 0).map fun kd => D.str (kdS kd)).take 1 = ((unl y2 z 0).take 1).map fun kd => D.str (kdS kd) := by rw [List.map_take]
    rw [hnc] at r17
    have hne : D.tup (((unl y2 z 0).take 1).map fun kd => D.str (kdS kd)) ≠ .tup ([Kd.can].map fun kd => D.str (kdS kd)) := fun hh => by
      have hh := D.tup.inj hh
      cases hu : unl y2 z 0 with
      | nil => rw [hu] at hh; cases hh
      | cons k0 ks =>
        rw [hu] at hh
        have hh : [D.str (kdS k0)] = [D.str (kdS .can)] := hh
        have : kdS k0 = kdS .can := by injection hh with h1 _; injection h1
        have hk0 := kdS_inj this
        have hm0 : Kd.can ∈ unl y2 z 0 := by rw [hu, ← hk0]; exact List.mem_cons_self
        exact unl_mem.mp hm0 hac.symm
    refine eqD_use 1 (kds_nb _) (kds_nb [.can]) (by decide) (r17.mono f18.t) (rd_new hp18 (.cons (.str _) .nil)) (fun hh => absurd hh hne) (fun _ => ⟨_, rfl, iteF ?_⟩)
    exact ⟨q9.ex ((e915.trans (e16.trans e17)).trans f18), _, _, _, _, _, _, _, _, _, _, rfl⟩
  · rintro σ H1 ⟨q, x2, x3, x4, x5, x6, x7, x8, x9, x10, x11, rfl⟩
    exact k _
end
end K09
namespace K09
open PySem PySem.Spec
open PyProof.Rows L2 Sl
theorem cx_no {P : Program} (w : World) (H : Hp) (s : Shared) (e : Value) (s' : Shared) (h : L2.CX P w [] H s (fun _ _ _ => False) e s') : False := by
  obtain ⟨_, _, _, _, _, _, _, _, _, _, _, _, z⟩ := h
  exact z
theorem at_law {P : Program} (w : World) (mg : Str → Option Value) (fa : Addr) (h : Heap) (Y : hk.says w h) (G : h.Ns mainGlobals mg) (hm : mg "law" = some (.ref fa)) (hP : P = (PySem.Challenge.rw_mazesums_k09_whole_four_kinds_together).prog) :
    ∃ K : PySem.W.Frag, K.In h ∧ LamX.LawAtS PySem.Challenge.rw_mazesums_k09_whole_four_kinds_together w K (L2.CX P w) 98 63 "script" mg fa h := by
  subst hP
  obtain ⟨K, KX, c⟩ := Y
  have T : Tx K mg := ⟨c.t.d, c.more, h, KX, G⟩
  have e := hm.symm.trans (g_law T)
  cases e
  obtain ⟨fd, hb, hF⟩ := law_of T
  exact ⟨K, KX, fd, [], spLaw K, (fun p hp => by cases hp), (fun p hp => by cases hp), (fun p hp => by cases hp), hb, fun H a ns _ _ hT hS => ⟨a, ns, rfl, hS, fun _ => rfl⟩, fun base _ _ hTB => hF _ w base⟩
end K09
open PySem PySem.W
open PySem.Calls
open PyProof.Rows
theorem PySem.Challenge.cw_mazesums_k09_whole_four_kinds_together_holds : PySem.Challenge.rw_mazesums_k09_whole_four_kinds_together.Holds := by
  w_on; o_law
  refine HandSHeadRun.head_any (r := OpenLaw.row PySem.Challenge.rw_mazesums_k09_whole_four_kinds_together) (q := view (OpenLaw.row PySem.Challenge.rw_mazesums_k09_whole_four_kinds_together).prog [82]) (H := K09.hk) (ob := K09.ob) (M := 20000) (loose := K09.loose) (d := HandSHeadRun.topDef (OpenLaw.row PySem.Challenge.rw_mazesums_k09_whole_four_kinds_together).prog 82) (kwd := []) K09.ob_eq
    (by kernel_rfl) (fun s => by kernel_rfl) K09.run (by kernel_rfl) (by kernel_rfl) (by kernel_rfl) (by rfl) (by first | assumption | decide +kernel) (by decide +kernel) ⟨rfl, rfl, rfl, rfl, rfl, by decide +kernel⟩ ?hw ?hc
  case hw => w_witness2
  case hc =>
    refine LamX.walk_ofTsE (l := PySem.Challenge.rw_mazesums_k09_whole_four_kinds_together) (n := 63) (k := 98) (x := "script") (CX := fun w => L2.CX (PySem.Challenge.rw_mazesums_k09_whole_four_kinds_together).prog w) rfl (by decide) (by kernel_rfl) ⟨rfl, by decide, by decide⟩ ?F K09.cx_no
    intro w mg fa h Y G hmg0
    refine K09.at_law w mg fa h Y G ?_ rfl
    have e : (HandSHeadRun.topDef (OpenLaw.row PySem.Challenge.rw_mazesums_k09_whole_four_kinds_together).prog 82).name = ("law" : PySem.Str) := by kernel_rfl
    rw [← e]
    exact hmg0
