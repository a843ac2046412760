import PyProof.Rows.All
import Wide.All
import OpenK.AllK
import Wide.FinOn
import KE.KStateDown
import HandS.ForMost
import HandS.ForExc
import HandS.ExcInit
import HandS.ExcField
import HandS.Defaults
import HandS.Lambda
import HandS.EndTab
import HandS.HeadHook4
import HandS.HeadWalk
import HandS.Head2
import HandS.TupAny
import HandS.TupMul
import HandS.IsInst
import HandS.Walk
import HandS.Wide
import HandS.Conv
import PySem.Challenge.RW_mazesums_k20_whole_flaws_of_books
import KE.GoesMore
import KE.GoesEnum
import PyProof.EnumMake
import PyProof.StrOps2
import PyProof.ListStr
import HandS.Replace
import KE.IntTextLaws
import PyProof.StrBlockL
import HandS.Style
import HandS.Flow
set_option Elab.async false
set_option linter.all false
set_option maxRecDepth 100000
set_option maxHeartbeats 0
namespace L2
open PySem PySem.Spec
open PyProof.Rows
/-- an own exception over ValueError with an __init__: what the written part must say -/
def oexL (K : PySem.W.Frag) (C : Addr) : Bool := match K.lookup C with
  | some ⟨.type t, _, .cls cd, sl⟩ => (match cd.mro, sl.toList with
    | .ref C' :: bm, [_, _, _, _, some (.builtin n), _] => decide (t = "type") && (decide (C' = C) && (decide (n = "ValueError.__new__") && (!cd.hasDel && (cd.hasDict && PySem.HandSPX.refsVE bm))))
    | _, _ => false)
  | _ => false
def oexB (K : PySem.W.Frag) (C : Addr) : Bool := oexL K C && (He.eqO (PySem.W.findIn K (.ref C) "__setattr__") (some (some (.builtin "object.__setattr__"))) && (decide (PySem.W.subIn K (.ref C) (.type "BaseException") = some true) &&
  (decide (PySem.W.typeIn K (.ref C) = some (.type "type")) && (PySem.W.keepIn K (.ref C) && decide (PySem.W.exmOne K (.ref C) (.ref C) = some true)))))
def initB (K : PySem.W.Frag) (C : Addr) : Bool := He.eqO (PySem.W.findIn K (.ref C) "__init__") (some (some (.ref (He.ma K C "__init__")))) && decide (PySem.W.typeIn K (.ref (He.ma K C "__init__")) = some (.type "function"))
theorem oexB_ok {K : PySem.W.Frag} {C : Addr} (h : oexB K C = true) : OexC K C ∧ PySem.W.exmOne K (.ref C) (.ref C) = some true := by
  unfold oexB at h
  simp only [Bool.and_eq_true, decide_eq_true_eq] at h
  obtain ⟨h1, h2, h3, h4, h5, h6⟩ := h
  refine ⟨⟨?_, He.eqO_ok h2, h3, h4, h5⟩, h6⟩
  unfold oexL at h1
  split at h1
  · rename_i t dd cd sl ho
    split at h1
    · rename_i C' bm k0 k1 k2 k3 n k5 hm hs
      simp only [Bool.and_eq_true, decide_eq_true_eq, Bool.not_eq_true'] at h1
      obtain ⟨rfl, rfl, rfl, hdel, hdict, hv⟩ := h1
      obtain ⟨nm, bs, mro, ns, qn, hd, sn, sub, ab, col, del⟩ := cd
      dsimp only at hm hdel hdict
      subst hm hdel hdict
      have hsl : sl = #[k0, k1, k2, k3, some (.builtin "ValueError.__new__"), k5] := by
        obtain ⟨l⟩ := sl
        simp only at hs
        rw [hs]
      subst hsl
      exact ⟨_, _, _, _, _, _, _, _, _, _, _, _, _, _, _, ho, hv⟩
    · cases h1
  · cases h1
theorem initB_ok {K : PySem.W.Frag} {C : Addr} (h : initB K C = true) : PySem.W.findIn K (.ref C) "__init__" = some (some (.ref (He.ma K C "__init__"))) ∧ PySem.W.typeIn K (.ref (He.ma K C "__init__")) = some (.type "function") := by
  unfold initB at h
  simp only [Bool.and_eq_true, decide_eq_true_eq] at h
  exact ⟨He.eqO_ok h.1, h.2⟩
end L2
namespace Hl
open PySem PySem.Spec
open PyProof.Rows L2 He
/-- as the kit's widest hook, but over written addresses -/
def seenAt (as : List Addr) (fa : List Fa) (fn : List DefD) (tf : List Defn) (ex : PySem.W.Frag → Bool) (g : Addr → Option Obj) : AlX :=
  let K := frT g as
  (obsT fa fn [] K, ex K && tabsB g tf K)
theorem seenAt_says {as : List Addr} {fa : List Fa} {fn : List DefD} {tf : List Defn} {ex : PySem.W.Frag → Bool} {w : World} {h : Heap} (e : seenAt as fa fn tf ex h.get? = valX fn [] w) : SaysX fa fn [] tf ex w h (frT h.get? as) := by
  have a1 : obsT fa fn [] (frT h.get? as) = valT fn [] w := (Prod.mk.inj e).1
  have a2 : (ex (frT h.get? as) && tabsB h.get? tf (frT h.get? as)) = true := (Prod.mk.inj e).2
  have b := Bool.and_eq_true_iff.mp a2
  have all : ∀ p ∈ tf, PySem.W.codeHdIn (frT h.get? as) (cT (frT h.get? as) p).1 (cT (frT h.get? as) p).2 = true ∧ ∃ o, h.get? (cT (frT h.get? as) p).2 = some o ∧ emptyTab o = true := by
    intro p hp
    have c := Bool.and_eq_true_iff.mp (List.all_eq_true.mp b.2 p hp)
    refine ⟨c.1, ?_⟩
    have c2 := c.2
    split at c2
    · rename_i o ho
      exact ⟨o, ho, c2⟩
    · cases c2
  constructor
  · exact a1
  · exact b.1
  · exact fun p hp => (all p hp).1
  · intro p hp
    obtain ⟨_, o, ho, eo⟩ := all p hp
    exact frT_none ho eo
  · intro p hp
    obtain ⟨_, o, ho, eo⟩ := all p hp
    rw [ho, emptyTab_eq eo]
def hook (as : List Addr) (fa : List Fa) (fn : List DefD) (tf : List Defn) (ex : PySem.W.Frag → Bool) : PySem.W.Hook where
  α := AlX
  obs s := seenAt as fa fn tf ex s.heap.get?
  val w := valX fn [] w
  says w h := ∃ K, PySem.W.Frag.In K h ∧ SaysX fa fn [] tf ex w h K
  of _ _ e := ⟨_, frT_in, seenAt_says e⟩
  keeps := by
    intro w h h' ⟨K, hK, c⟩ k
    refine ⟨K, PySem.W.Frag.In.keeps hK k, ⟨c.t, c.more, c.hd, c.out, ?_⟩⟩
    intro p hp
    exact k _ _ (c.empty p hp)
theorem seenAt_eq {as : List Addr} {fa : List Fa} {fn : List DefD} {tf : List Defn} {ex : PySem.W.Frag → Bool} {g : Addr → Option Obj} {s : Shared} (h : ∀ a, g a = s.heap.get? a) : seenAt as fa fn tf ex g = (hook as fa fn tf ex).obs s := by
  show seenAt as fa fn tf ex g = seenAt as fa fn tf ex s.heap.get?
  rw [funext h]
end Hl
namespace K20
open PySem PySem.Spec
open PyProof.Rows L2
def top (i : Nat) : Stmt := PySem.Challenge.pw_mazesums_k20_whole_flaws_of_books.main.body.getD i (.Pass ⟨0, 0, 0, 0⟩)
abbrev s_BadArgument_init : Stmt := inClass (top 1) 0
abbrev s_Flaw_init : Stmt := inClass (top 2) 0
abbrev s_Reader_init : Stmt := inClass (top 11) 0
abbrev s_Reader_sign : Stmt := inClass (top 11) 1
abbrev s_Reader_refuse : Stmt := inClass (top 11) 2
abbrev s_Reader_is_next : Stmt := inClass (top 11) 3
abbrev s_Reader_expect : Stmt := inClass (top 11) 4
abbrev s_Reader_number_told : Stmt := inClass (top 11) 5
abbrev s_Reader_book : Stmt := inClass (top 11) 6
abbrev s_Reader_line_told : Stmt := inClass (top 11) 7
abbrev s_Reader_nest : Stmt := inClass (top 11) 8
abbrev s_Reader_item : Stmt := inClass (top 11) 9
abbrev s_Reader_atom : Stmt := inClass (top 11) 10
abbrev s_Reader_brackets : Stmt := inClass (top 11) 11
abbrev s_Reader_order : Stmt := inClass (top 11) 12
abbrev s_Reader_inner : Stmt := inClass (top 11) 13
abbrev s_Reader_ground : Stmt := inClass (top 11) 14
abbrev s_Reader_filled : Stmt := inClass (top 11) 15
abbrev s_lines_of : Stmt := top 12
abbrev s_is_text : Stmt := top 13
abbrev s_need : Stmt := top 15
abbrev s_book_flaw : Stmt := top 17
abbrev s_strength : Stmt := top 18
abbrev s_at_least : Stmt := top 19
abbrev s_plain_tree : Stmt := top 20
abbrev s_plain_book : Stmt := top 21
abbrev s__law_taken : Stmt := top 23
abbrev s__law_pick : Stmt := top 24
abbrev s__law_refused : Stmt := top 25
abbrev s__law_alike : Stmt := top 26
abbrev s__law_nest : Stmt := top 27
abbrev s__law_strength : Stmt := top 28
abbrev s__law_in : Stmt := top 29
abbrev s__law_written : Stmt := top 30
abbrev s__law_spoiled : Stmt := top 31
abbrev s__law_wanted : Stmt := top 32
abbrev s__law_number : Stmt := top 33
abbrev s__law_flaw : Stmt := top 34
abbrev s_law : Stmt := top 35
abbrev n_BadArgument_init : List Str := ["self", "name"]
abbrev p_BadArgument_init : List Str := ["self", "name"]
abbrev n_Flaw_init : List Str := ["self", "place", "message"]
abbrev p_Flaw_init : List Str := ["self", "place", "message"]
abbrev n_Reader_init : List Str := ["self", "text", "at", "sign", "place"]
abbrev p_Reader_init : List Str := ["self", "text"]
abbrev n_Reader_sign : List Str := ["self"]
abbrev p_Reader_sign : List Str := ["self"]
abbrev n_Reader_refuse : List Str := ["self", "message"]
abbrev p_Reader_refuse : List Str := ["self", "message"]
abbrev n_Reader_is_next : List Str := ["self", "sign"]
abbrev p_Reader_is_next : List Str := ["self", "sign"]
abbrev n_Reader_expect : List Str := ["self", "sign", "message"]
abbrev p_Reader_expect : List Str := ["self", "sign", "message"]
abbrev n_Reader_number_told : List Str := ["self", "start", "text"]
abbrev p_Reader_number_told : List Str := ["self"]
abbrev n_Reader_book : List Str := ["self", "found"]
abbrev p_Reader_book : List Str := ["self"]
abbrev n_Reader_line_told : List Str := ["self", "name", "found"]
abbrev p_Reader_line_told : List Str := ["self"]
abbrev n_Reader_nest : List Str := ["self", "found"]
abbrev p_Reader_nest : List Str := ["self"]
abbrev n_Reader_item : List Str := ["self", "found", "many"]
abbrev p_Reader_item : List Str := ["self"]
abbrev n_Reader_atom : List Str := ["self", "found"]
abbrev p_Reader_atom : List Str := ["self"]
abbrev n_Reader_brackets : List Str := ["self", "below", "one", "found"]
abbrev p_Reader_brackets : List Str := ["self", "below"]
abbrev n_Reader_order : List Str := ["self", "found"]
abbrev p_Reader_order : List Str := ["self"]
abbrev n_Reader_inner : List Str := ["self"]
abbrev p_Reader_inner : List Str := ["self"]
abbrev n_Reader_ground : List Str := ["self", "sign", "found"]
abbrev p_Reader_ground : List Str := ["self"]
abbrev n_Reader_filled : List Str := ["self", "found", "place", "own"]
abbrev p_Reader_filled : List Str := ["self", "found"]
abbrev n_lines_of : List Str := ["text"]
abbrev p_lines_of : List Str := ["text"]
abbrev n_is_text : List Str := ["value"]
abbrev p_is_text : List Str := ["value"]
abbrev n_need : List Str := ["is_right", "name"]
abbrev p_need : List Str := ["is_right", "name"]
abbrev n_book_flaw : List Str := ["text", "e"]
abbrev p_book_flaw : List Str := ["text"]
abbrev n_strength : List Str := ["tree"]
abbrev p_strength : List Str := ["tree"]
abbrev n_at_least : List Str := ["tree", "least", "own"]
abbrev p_at_least : List Str := ["tree", "least"]
abbrev n_plain_tree : List Str := ["tree", "word", "at", "own", "one"]
abbrev p_plain_tree : List Str := ["tree"]
abbrev n_plain_book : List Str := ["text", "name", "tree"]
abbrev p_plain_book : List Str := ["text"]
abbrev n__law_taken : List Str := ["row", "many", "found", "cell"]
abbrev p__law_taken : List Str := ["row", "many"]
abbrev n__law_pick : List Str := ["row", "some"]
abbrev p__law_pick : List Str := ["row", "some"]
abbrev n__law_refused : List Str := ["call", "e"]
abbrev p__law_refused : List Str := ["call"]
abbrev n__law_alike : List Str := ["found", "due", "at"]
abbrev p__law_alike : List Str := ["found", "due"]
abbrev n__law_nest : List Str := ["row", "leaves", "names", "deep", "found", "first", "one", "other", "turn", "kind", "at"]
abbrev p__law_nest : List Str := ["row", "leaves", "names", "deep"]
abbrev n__law_strength : List Str := ["tree"]
abbrev p__law_strength : List Str := ["tree"]
abbrev n__law_in : List Str := ["tree", "least", "more", "own"]
abbrev p__law_in : List Str := ["tree", "least", "more"]
abbrev n__law_written : List Str := ["tree", "more", "word", "at", "own", "one"]
abbrev p__law_written : List Str := ["tree", "more"]
abbrev n__law_spoiled : List Str := ["row", "text", "turn", "at", "some", "sign"]
abbrev p__law_spoiled : List Str := ["row", "text"]
abbrev n__law_wanted : List Str := ["state", "sign", "names", "here", "deep", "told", "fine"]
abbrev p__law_wanted : List Str := ["state", "sign", "names", "here", "deep"]
abbrev n__law_number : List Str := ["signs", "at", "many", "text", "own"]
abbrev p__law_number : List Str := ["signs", "at"]
abbrev n__law_flaw : List Str := ["text", "at", "sign", "signs", "state", "names", "here", "open_ones", "is_letter", "numbers", "after", "place", "many", "message", "later"]
abbrev p__law_flaw : List Str := ["text"]
abbrev n_law : List Str := ["script", "row", "turn", "names", "lines", "line", "name", "own", "text", "due"]
abbrev p_law : List Str := ["script"]
def d_BadArgument_init : He.DefD := ⟨("BadArgument", some "__init__"), "__init__", "BadArgument.__init__", defArgs s_BadArgument_init, defBody s_BadArgument_init, defScope s_BadArgument_init, [], []⟩
def d_Flaw_init : He.DefD := ⟨("Flaw", some "__init__"), "__init__", "Flaw.__init__", defArgs s_Flaw_init, defBody s_Flaw_init, defScope s_Flaw_init, [], []⟩
def d_Reader_init : He.DefD := ⟨("Reader", some "__init__"), "__init__", "Reader.__init__", defArgs s_Reader_init, defBody s_Reader_init, defScope s_Reader_init, [], []⟩
def d_Reader_sign : He.DefD := ⟨("Reader", some "sign"), "sign", "Reader.sign", defArgs s_Reader_sign, defBody s_Reader_sign, defScope s_Reader_sign, [], []⟩
def d_Reader_refuse : He.DefD := ⟨("Reader", some "refuse"), "refuse", "Reader.refuse", defArgs s_Reader_refuse, defBody s_Reader_refuse, defScope s_Reader_refuse, [], []⟩
def d_Reader_is_next : He.DefD := ⟨("Reader", some "is_next"), "is_next", "Reader.is_next", defArgs s_Reader_is_next, defBody s_Reader_is_next, defScope s_Reader_is_next, [], []⟩
def d_Reader_expect : He.DefD := ⟨("Reader", some "expect"), "expect", "Reader.expect", defArgs s_Reader_expect, defBody s_Reader_expect, defScope s_Reader_expect, [], []⟩
def d_Reader_number_told : He.DefD := ⟨("Reader", some "number_told"), "number_told", "Reader.number_told", defArgs s_Reader_number_told, defBody s_Reader_number_told, defScope s_Reader_number_told, [], []⟩
def d_Reader_book : He.DefD := ⟨("Reader", some "book"), "book", "Reader.book", defArgs s_Reader_book, defBody s_Reader_book, defScope s_Reader_book, [], []⟩
def d_Reader_line_told : He.DefD := ⟨("Reader", some "line_told"), "line_told", "Reader.line_told", defArgs s_Reader_line_told, defBody s_Reader_line_told, defScope s_Reader_line_told, [], []⟩
def d_Reader_nest : He.DefD := ⟨("Reader", some "nest"), "nest", "Reader.nest", defArgs s_Reader_nest, defBody s_Reader_nest, defScope s_Reader_nest, [], []⟩
def d_Reader_item : He.DefD := ⟨("Reader", some "item"), "item", "Reader.item", defArgs s_Reader_item, defBody s_Reader_item, defScope s_Reader_item, [], []⟩
def d_Reader_atom : He.DefD := ⟨("Reader", some "atom"), "atom", "Reader.atom", defArgs s_Reader_atom, defBody s_Reader_atom, defScope s_Reader_atom, [], []⟩
def d_Reader_brackets : He.DefD := ⟨("Reader", some "brackets"), "brackets", "Reader.brackets", defArgs s_Reader_brackets, defBody s_Reader_brackets, defScope s_Reader_brackets, [], []⟩
def d_Reader_order : He.DefD := ⟨("Reader", some "order"), "order", "Reader.order", defArgs s_Reader_order, defBody s_Reader_order, defScope s_Reader_order, [], []⟩
def d_Reader_inner : He.DefD := ⟨("Reader", some "inner"), "inner", "Reader.inner", defArgs s_Reader_inner, defBody s_Reader_inner, defScope s_Reader_inner, [], []⟩
def d_Reader_ground : He.DefD := ⟨("Reader", some "ground"), "ground", "Reader.ground", defArgs s_Reader_ground, defBody s_Reader_ground, defScope s_Reader_ground, [], []⟩
def d_Reader_filled : He.DefD := ⟨("Reader", some "filled"), "filled", "Reader.filled", defArgs s_Reader_filled, defBody s_Reader_filled, defScope s_Reader_filled, [], []⟩
def d_lines_of : He.DefD := ⟨("lines_of", none), "lines_of", "lines_of", defArgs s_lines_of, defBody s_lines_of, defScope s_lines_of, [], []⟩
def d_is_text : He.DefD := ⟨("is_text", none), "is_text", "is_text", defArgs s_is_text, defBody s_is_text, defScope s_is_text, [], []⟩
def d_need : He.DefD := ⟨("need", none), "need", "need", defArgs s_need, defBody s_need, defScope s_need, [], []⟩
def d_book_flaw : He.DefD := ⟨("book_flaw", none), "book_flaw", "book_flaw", defArgs s_book_flaw, defBody s_book_flaw, defScope s_book_flaw, [], []⟩
def d_strength : He.DefD := ⟨("strength", none), "strength", "strength", defArgs s_strength, defBody s_strength, defScope s_strength, [], []⟩
def d_at_least : He.DefD := ⟨("at_least", none), "at_least", "at_least", defArgs s_at_least, defBody s_at_least, defScope s_at_least, [], []⟩
def d_plain_tree : He.DefD := ⟨("plain_tree", none), "plain_tree", "plain_tree", defArgs s_plain_tree, defBody s_plain_tree, defScope s_plain_tree, [], []⟩
def d_plain_book : He.DefD := ⟨("plain_book", none), "plain_book", "plain_book", defArgs s_plain_book, defBody s_plain_book, defScope s_plain_book, [], []⟩
def d__law_taken : He.DefD := ⟨("_law_taken", none), "_law_taken", "_law_taken", defArgs s__law_taken, defBody s__law_taken, defScope s__law_taken, [], []⟩
def d__law_pick : He.DefD := ⟨("_law_pick", none), "_law_pick", "_law_pick", defArgs s__law_pick, defBody s__law_pick, defScope s__law_pick, [], []⟩
def d__law_refused : He.DefD := ⟨("_law_refused", none), "_law_refused", "_law_refused", defArgs s__law_refused, defBody s__law_refused, defScope s__law_refused, [], []⟩
def d__law_alike : He.DefD := ⟨("_law_alike", none), "_law_alike", "_law_alike", defArgs s__law_alike, defBody s__law_alike, defScope s__law_alike, [], []⟩
def d__law_nest : He.DefD := ⟨("_law_nest", none), "_law_nest", "_law_nest", defArgs s__law_nest, defBody s__law_nest, defScope s__law_nest, [], []⟩
def d__law_strength : He.DefD := ⟨("_law_strength", none), "_law_strength", "_law_strength", defArgs s__law_strength, defBody s__law_strength, defScope s__law_strength, [], []⟩
def d__law_in : He.DefD := ⟨("_law_in", none), "_law_in", "_law_in", defArgs s__law_in, defBody s__law_in, defScope s__law_in, [], []⟩
def d__law_written : He.DefD := ⟨("_law_written", none), "_law_written", "_law_written", defArgs s__law_written, defBody s__law_written, defScope s__law_written, [], []⟩
def d__law_spoiled : He.DefD := ⟨("_law_spoiled", none), "_law_spoiled", "_law_spoiled", defArgs s__law_spoiled, defBody s__law_spoiled, defScope s__law_spoiled, [], []⟩
def d__law_wanted : He.DefD := ⟨("_law_wanted", none), "_law_wanted", "_law_wanted", defArgs s__law_wanted, defBody s__law_wanted, defScope s__law_wanted, [], []⟩
def d__law_number : He.DefD := ⟨("_law_number", none), "_law_number", "_law_number", defArgs s__law_number, defBody s__law_number, defScope s__law_number, [], []⟩
def d__law_flaw : He.DefD := ⟨("_law_flaw", none), "_law_flaw", "_law_flaw", defArgs s__law_flaw, defBody s__law_flaw, defScope s__law_flaw, [], []⟩
def d_law : He.DefD := ⟨("law", none), "law", "law", defArgs s_law, defBody s_law, defScope s_law, [], []⟩
def fn : List He.DefD := [d_BadArgument_init, d_Flaw_init, d_Reader_init, d_Reader_sign, d_Reader_refuse, d_Reader_is_next, d_Reader_expect, d_Reader_number_told, d_Reader_book, d_Reader_line_told, d_Reader_nest, d_Reader_item, d_Reader_atom, d_Reader_brackets, d_Reader_order, d_Reader_inner, d_Reader_ground, d_Reader_filled, d_lines_of, d_is_text, d_need, d_book_flaw, d_strength, d_at_least, d_plain_tree, d_plain_book, d__law_taken, d__law_pick, d__law_refused, d__law_alike, d__law_nest, d__law_strength, d__law_in, d__law_written, d__law_spoiled, d__law_wanted, d__law_number, d__law_flaw, d_law]
def fa0 : List He.Fa := [.glo "lines_of", .glo "is_text", .glo "need", .glo "book_flaw", .glo "strength", .glo "at_least", .glo "plain_tree", .glo "plain_book", .glo "_law_taken", .glo "_law_pick", .glo "_law_refused", .glo "_law_alike", .glo "_law_nest", .glo "_law_strength", .glo "_law_in", .glo "_law_written", .glo "_law_spoiled", .glo "_law_wanted", .glo "_law_number", .glo "_law_flaw", .glo "law", .glo "BadArgument", .keep "BadArgument", .noat "BadArgument" "name", .glo "Flaw", .keep "Flaw", .noat "Flaw" "place", .noat "Flaw" "message", .glo "Reader", .cls "Reader", .mkr "Reader", .noat "Reader" "signs", .noat "Reader" "size", .noat "Reader" "at", .noat "Reader" "deep", .noat "Reader" "names", .meth "Reader" "sign", .meth "Reader" "refuse", .meth "Reader" "is_next", .meth "Reader" "expect"]
def fa1 : List He.Fa := [.meth "Reader" "number_told", .meth "Reader" "book", .meth "Reader" "line_told", .meth "Reader" "nest", .meth "Reader" "item", .meth "Reader" "atom", .meth "Reader" "brackets", .meth "Reader" "order", .meth "Reader" "inner", .meth "Reader" "ground", .meth "Reader" "filled", .str "LETTERS" "abcdef", .str "CAPITALS" "ABCDEFGHIJKLMNOPQRSTUVWXYZ", .str "DIGITS" "0123456789", .str "OTHERS" "+/()[]=^~<>,{}:;", .int "MOST_TEXT" 400, .int "MOST_DEEP" 20, .int "MOST_NUMBER" 1000000000, .free "ValueError", .free "bool", .free "enumerate", .free "int", .free "isinstance", .free "len", .free "list", .free "range", .free "str", .free "tuple"]
def fa : List He.Fa := fa0 ++ fa1
def tf : List He.Defn := [("law", none)]
def exF (K : PySem.W.Frag) : Bool := (oexB K (He.ga K "BadArgument") && xfB K (He.ga K "BadArgument") && initB K (He.ga K "BadArgument")) && (oexB K (He.ga K "Flaw") && xfB K (He.ga K "Flaw") && initB K (He.ga K "Flaw"))
abbrev R : PySem.W.OpenRow := PySem.W.OpenLaw.row PySem.Challenge.rw_mazesums_k20_whole_flaws_of_books
def ads : List Addr := [3, 185, 192, 199, 206, 213, 220, 225, 230, 237, 244, 251, 256, 261, 268, 275, 280, 287, 294, 299, 304, 309, 31, 51, 174, 30, 50, 173, 28, 48, 66, 73, 80, 87, 94, 101, 108, 115, 122, 129, 136, 143, 150, 157, 164, 171, 184, 191, 198, 205, 212, 219, 224, 229, 236, 243, 250, 255, 260, 267, 274, 279, 286, 293, 298, 303, 308, 27, 47, 65, 72, 79, 86, 93, 100, 107, 114, 121, 128, 135, 142, 149, 156, 163, 170]
abbrev hk : PySem.W.Hook := Hl.hook ads fa fn tf exF
def ob (s : PySem.W.SharedT) : He.AlX := Hl.seenAt ads fa fn tf exF (HandSHeadRun.getT s)
theorem ob_eq (s : PySem.W.SharedT) : ob s = hk.obs s.abs := Hl.seenAt_eq (HandSHeadRun.getT_eq s)
def loose : List PySem.Str := (["BadArgument", "Flaw", "LETTERS", "CAPITALS", "DIGITS", "OTHERS", "MOST_TEXT", "MOST_DEEP", "MOST_NUMBER", "Reader", "lines_of", "is_text", "need", "book_flaw", "strength", "at_least", "plain_tree", "plain_book", "_law_taken", "_law_pick", "_law_refused", "_law_alike", "_law_nest", "_law_strength", "_law_in", "_law_written", "_law_spoiled", "_law_wanted", "_law_number", "_law_flaw"] : List PySem.Str)
theorem run (w : World) : HandSHeadRun.RunEq R (PySem.W.view R.prog [35]) hk ob 20000 loose w := by
  intro os
  kernel_rfl
end K20
/-! Data, and a small logic of what is owned: for readings of the hand layer. -/
namespace Sl
open PySem PySem.Spec
open PyProof.Rows L2
/-- immutable data -/
inductive D where
  | non | bl (b : Bool) | int (i : Int) | str (x : Str) | tup (ds : List D)
mutual
/-- v stands for d -/
inductive RD (K : PySem.W.Frag) (H : Hp) : D → V → Prop
  | non : RD K H .non .non
  | bl (b : Bool) : RD K H (.bl b) (.bl b)
  | int (i : Int) : RD K H (.int i) (.int i)
  | str (x : Str) : RD K H (.str x) (.str x)
  | tup {a : Addr} {xs : List V} {ds : List D} : SqT K H a xs → RDs K H ds xs → RD K H (.tup ds) (.ref a)
inductive RDs (K : PySem.W.Frag) (H : Hp) : List D → List V → Prop
  | nil : RDs K H [] []
  | cons {d : D} {ds : List D} {v : V} {vs : List V} : RD K H d v → RDs K H ds vs → RDs K H (d :: ds) (v :: vs)
end
/-- tuples stay -/
def TEx (H H' : Hp) : Prop := ∀ a xs, Rd H a (.tup xs) → Rd H' a (.tup xs)
/-- what was tracked stays -/
def Ex (H H' : Hp) : Prop := ∀ a o, H a = some o → H' a = some o
/-- .. but at M -/
def ExB (M : List Addr) (H H' : Hp) : Prop := ∀ a o, a ∉ M → H a = some o → H' a = some o
theorem Ex.refl (H : Hp) : Ex H H := fun _ _ h => h
theorem Ex.trans {H H1 H2 : Hp} (a : Ex H H1) (b : Ex H1 H2) : Ex H H2 := fun x o h => b x o (a x o h)
theorem ExB.refl (M : List Addr) (H : Hp) : ExB M H H := fun _ _ _ h => h
theorem ExB.trans {M : List Addr} {H H1 H2 : Hp} (a : ExB M H H1) (b : ExB M H1 H2) : ExB M H H2 := fun x o n h => b x o n (a x o n h)
theorem Ex.b {M : List Addr} {H H' : Hp} (e : Ex H H') : ExB M H H' := fun x o _ h => e x o h
theorem ExB.ex {H H' : Hp} (e : ExB [] H H') : Ex H H' := fun x o h => e x o (by simp) h
theorem ExB.mono {M M' : List Addr} {H H' : Hp} (e : ExB M H H') (h : ∀ a ∈ M, a ∈ M') : ExB M' H H' := fun x o n q => e x o (fun z => n (h x z)) q
theorem TEx.refl (H : Hp) : TEx H H := fun _ _ h => h
theorem TEx.trans {H H1 H2 : Hp} (a : TEx H H1) (b : TEx H1 H2) : TEx H H2 := fun x o h => b x o (a x o h)
theorem Ex.t {H H' : Hp} (e : Ex H H') : TEx H H' := fun a xs h => by
  rcases h with h | ⟨o, h⟩
  · exact .inl (e a _ h)
  · exact .inr ⟨o, e a _ h⟩
theorem TEx.sq {K : PySem.W.Frag} {H H' : Hp} {a : Addr} {xs : List V} (e : TEx H H') (h : SqT K H a xs) : SqT K H' a xs := by
  rcases h with h | h
  · exact .inl (e a xs h)
  · exact .inr h
theorem Ex.sqL {K : PySem.W.Frag} {H H' : Hp} {a : Addr} {xs : List V} (e : Ex H H') (h : SqL K H a xs) : SqL K H' a xs := by
  rcases h with (h | ⟨o, h⟩) | h
  · exact .inl (.inl (e a _ h))
  · exact .inl (.inr ⟨o, e a _ h⟩)
  · exact .inr h
mutual
theorem RD.mono {K : PySem.W.Frag} {H H' : Hp} (e : TEx H H') : ∀ {d : D} {v : V}, RD K H d v → RD K H' d v
  | _, _, .non => .non
  | _, _, .bl b => .bl b
  | _, _, .int i => .int i
  | _, _, .str x => .str x
  | _, _, .tup h r => .tup (e.sq h) (RDs.mono e r)
theorem RDs.mono {K : PySem.W.Frag} {H H' : Hp} (e : TEx H H') : ∀ {ds : List D} {vs : List V}, RDs K H ds vs → RDs K H' ds vs
  | _, _, .nil => .nil
  | _, _, .cons h r => .cons (RD.mono e h) (RDs.mono e r)
end
theorem RDs.len {K : PySem.W.Frag} {H : Hp} : ∀ {ds : List D} {vs : List V}, RDs K H ds vs → vs.length = ds.length
  | _, _, .nil => rfl
  | _, _, .cons _ r => by simp [RDs.len r]
theorem RDs.get {K : PySem.W.Frag} {H : Hp} : ∀ {ds : List D} {vs : List V} {i : Nat} {d : D}, RDs K H ds vs → ds[i]? = some d → ∃ v, vs[i]? = some v ∧ RD K H d v
  | _, _, _, _, .nil, e => by simp at e
  | _, _, 0, _, .cons r _, e => by simp at e; subst e; exact ⟨_, rfl, r⟩
  | _, _, i + 1, d, .cons _ t, e => by
    obtain ⟨v, h1, h2⟩ := RDs.get (i := i) t (by simpa using e)
    exact ⟨v, by simpa using h1, h2⟩
theorem RDs.getV {K : PySem.W.Frag} {H : Hp} : ∀ {ds : List D} {vs : List V} {i : Nat} {v : V}, RDs K H ds vs → vs[i]? = some v → ∃ d, ds[i]? = some d ∧ RD K H d v
  | _, _, _, _, .nil, e => by simp at e
  | _, _, 0, _, .cons r _, e => by simp at e; subst e; exact ⟨_, rfl, r⟩
  | _, _, i + 1, v, .cons _ t, e => by
    obtain ⟨d, h1, h2⟩ := RDs.getV (i := i) t (by simpa using e)
    exact ⟨d, by simpa using h1, h2⟩
theorem RDs.append {K : PySem.W.Frag} {H : Hp} : ∀ {ds es : List D} {vs ws : List V}, RDs K H ds vs → RDs K H es ws → RDs K H (ds ++ es) (vs ++ ws)
  | _, _, _, _, .nil, s => s
  | _, _, _, _, .cons r t, s => .cons r (RDs.append t s)
theorem RDs.take {K : PySem.W.Frag} {H : Hp} : ∀ {ds : List D} {vs : List V} (n : Nat), RDs K H ds vs → RDs K H (ds.take n) (vs.take n)
  | _, _, 0, _ => .nil
  | _, _, _ + 1, .nil => .nil
  | _, _, n + 1, .cons r t => .cons r (RDs.take n t)
theorem RDs.drop {K : PySem.W.Frag} {H : Hp} : ∀ {ds : List D} {vs : List V} (n : Nat), RDs K H ds vs → RDs K H (ds.drop n) (vs.drop n)
  | _, _, 0, r => r
  | _, _, _ + 1, .nil => .nil
  | _, _, n + 1, .cons _ t => RDs.drop n t
theorem RDs.set {K : PySem.W.Frag} {H : Hp} {d : D} {v : V} (r : RD K H d v) : ∀ {ds : List D} {vs : List V} (i : Nat), RDs K H ds vs → RDs K H (ds.set i d) (vs.set i v)
  | _, _, _, .nil => .nil
  | _, _, 0, .cons _ t => .cons r t
  | _, _, i + 1, .cons q t => .cons q (RDs.set r i t)
theorem RDs.one {K : PySem.W.Frag} {H : Hp} {d : D} {v : V} (r : RD K H d v) : RDs K H [d] [v] := .cons r .nil
theorem RD.ofInt {K : PySem.W.Frag} {H : Hp} {i : Int} {v : V} (r : RD K H (.int i) v) : v = .int i := by cases r; rfl
theorem RD.ofBl {K : PySem.W.Frag} {H : Hp} {b : Bool} {v : V} (r : RD K H (.bl b) v) : v = .bl b := by cases r; rfl
theorem RD.ofStr {K : PySem.W.Frag} {H : Hp} {x : Str} {v : V} (r : RD K H (.str x) v) : v = .str x := by cases r; rfl
theorem RD.ofNon {K : PySem.W.Frag} {H : Hp} {v : V} (r : RD K H .non v) : v = .non := by cases r; rfl
theorem RD.ofTup {K : PySem.W.Frag} {H : Hp} {ds : List D} {v : V} (r : RD K H (.tup ds) v) : ∃ a xs, v = .ref a ∧ SqT K H a xs ∧ RDs K H ds xs := by cases r with | tup h r => exact ⟨_, _, rfl, h, r⟩
theorem RDs.ofCons {K : PySem.W.Frag} {H : Hp} {d : D} {ds : List D} {vs : List V} (r : RDs K H (d :: ds) vs) : ∃ v ws, vs = v :: ws ∧ RD K H d v ∧ RDs K H ds ws := by cases r with | cons a b => exact ⟨_, _, rfl, a, b⟩
theorem RDs.ofNil {K : PySem.W.Frag} {H : Hp} {vs : List V} (r : RDs K H [] vs) : vs = [] := by cases r; rfl
theorem RDs.ints {K : PySem.W.Frag} {H : Hp} : ∀ {ns : List Int} {vs : List V}, RDs K H (ns.map D.int) vs → vs = ns.map V.int
  | [], _, r => r.ofNil
  | n :: ns, _, r => by
    obtain ⟨v, ws, rfl, h1, h2⟩ := RDs.ofCons r
    rw [h1.ofInt, RDs.ints h2] <;> rfl
theorem RDs.ofInts (K : PySem.W.Frag) (H : Hp) : ∀ (ns : List Int), RDs K H (ns.map D.int) (ns.map V.int)
  | [] => .nil
  | n :: ns => .cons (.int n) (RDs.ofInts K H ns)
/-! ### what is known of the heap -/
/-- a thing known of the heap, with the addresses that it leans on -/
structure As where
  P : Hp → List Addr → Prop
  there : ∀ {H : Hp} {fp : List Addr}, P H fp → ∀ a ∈ fp, ∃ o, H a = some o
  loc : ∀ {H H' : Hp} {fp : List Addr}, P H fp → (∀ a ∈ fp, H' a = H a) → TEx H H' → P H' fp
/-- data -/
def dt (K : PySem.W.Frag) (d : D) (v : V) : As where
  P := fun H fp => fp = [] ∧ RD K H d v
  there := fun h a ha => by rw [h.1] at ha; simp at ha
  loc := fun h _ t => ⟨h.1, h.2.mono t⟩
/-- an object -/
def pt (a : Addr) (o : HO) : As where
  P := fun H fp => fp = [a] ∧ H a = some o
  there := fun h b hb => by rw [h.1] at hb; simp at hb; subst hb; exact ⟨_, h.2⟩
  loc := fun h k _ => ⟨h.1, by rw [k a (by rw [h.1]; simp)]; exact h.2⟩
/-- a list of data -/
def ls (K : PySem.W.Frag) (a : Addr) (ds : List D) : As where
  P := fun H fp => fp = [a] ∧ ∃ xs, H a = some (.lst xs) ∧ RDs K H ds xs
  there := fun h b hb => by rw [h.1] at hb; simp at hb; subst hb; exact ⟨_, h.2.choose_spec.1⟩
  loc := fun h k t => ⟨h.1, by obtain ⟨xs, h1, h2⟩ := h.2; exact ⟨xs, by rw [k a (by rw [h.1]; simp)]; exact h1, h2.mono t⟩⟩
/-- both -/
def sep (A B : As) : As where
  P := fun H fp => ∃ f g, fp = f ++ g ∧ A.P H f ∧ B.P H g
  there := fun h b hb => by
    obtain ⟨f, g, rfl, h1, h2⟩ := h
    rcases List.mem_append.mp hb with z | z
    · exact A.there h1 b z
    · exact B.there h2 b z
  loc := fun h k t => by
    obtain ⟨f, g, rfl, h1, h2⟩ := h
    exact ⟨f, g, rfl, A.loc h1 (fun a ha => k a (List.mem_append_left _ ha)) t, B.loc h2 (fun a ha => k a (List.mem_append_right _ ha)) t⟩
/-- with a plain fact -/
def pur (p : Prop) : As where
  P := fun _ fp => fp = [] ∧ p
  there := fun h a ha => by rw [h.1] at ha; simp at ha
  loc := fun h _ _ => h
def exs {α : Type} (A : α → As) : As where
  P := fun H fp => ∃ x, (A x).P H fp
  there := fun ⟨x, h⟩ => (A x).there h
  loc := fun ⟨x, h⟩ k t => ⟨x, (A x).loc h k t⟩
inductive All2 (H : Hp) : List As → List (List Addr) → Prop
  | nil : All2 H [] []
  | cons {A : As} {l : List As} {fp : List Addr} {fps : List (List Addr)} : A.P H fp → All2 H l fps → All2 H (A :: l) (fp :: fps)
theorem All2.loc {H H' : Hp} (t : TEx H H') : ∀ {l : List As} {fps : List (List Addr)}, All2 H l fps → (∀ a ∈ fps.flatten, H' a = H a) → All2 H' l fps
  | _, _, .nil, _ => .nil
  | _, _, .cons h r, k => .cons (As.loc _ h (fun a ha => k a (by simp [ha])) t) (All2.loc t r fun a ha => k a (by simp at ha ⊢; exact .inr ha))
theorem All2.there {H : Hp} : ∀ {l : List As} {fps : List (List Addr)}, All2 H l fps → ∀ a ∈ fps.flatten, ∃ o, H a = some o
  | _, _, .nil, a, ha => by simp at ha
  | _, _, .cons h r, a, ha => by
    rw [List.flatten_cons] at ha
    rcases List.mem_append.mp ha with z | z
    · exact As.there _ h a z
    · exact All2.there r a z
theorem All2.mem {H : Hp} {A : As} : ∀ {l : List As} {fps : List (List Addr)}, All2 H l fps → A ∈ l → ∃ fp, A.P H fp ∧ ∀ a ∈ fp, a ∈ fps.flatten
  | _, _, .nil, h => by cases h
  | _, _, .cons h r, m => by
    rcases List.mem_cons.mp m with rfl | m
    · exact ⟨_, h, fun a ha => by simp [ha]⟩
    · obtain ⟨fp, h1, h2⟩ := All2.mem r m
      exact ⟨fp, h1, fun a ha => by rw [List.flatten_cons]; exact List.mem_append_right _ (h2 a ha)⟩
/-- one of a list, and the others -/
inductive Pick : List As → As → List As → Prop
  | here {A : As} {r : List As} : Pick (A :: r) A r
  | there {A B : As} {l r : List As} : Pick l A r → Pick (B :: l) A (B :: r)
theorem Pick.mem {l r : List As} {A : As} (p : Pick l A r) : A ∈ l := by
  induction p with
  | here => exact List.mem_cons_self
  | there _ ih => exact List.mem_cons_of_mem _ ih
theorem All2.pick {H : Hp} {l r : List As} {A : As} (p : Pick l A r) : ∀ {fps : List (List Addr)}, All2 H l fps → ∃ fp rest, A.P H fp ∧ All2 H r rest ∧ (fp ++ rest.flatten).Perm fps.flatten := by
  induction p with
  | here =>
    intro fps h
    cases h with
    | cons h t => exact ⟨_, _, h, t, by simp⟩
  | there p ih =>
    intro fps h
    cases h with
    | @cons B l f fs h t =>
      obtain ⟨fp, rest, h1, h2, h3⟩ := ih t
      refine ⟨fp, f :: rest, h1, .cons h h2, ?_⟩
      rw [List.flatten_cons, List.flatten_cons]
      calc
        (fp ++ (f ++ rest.flatten)).Perm (f ++ (fp ++ rest.flatten)) := by
          rw [← List.append_assoc, ← List.append_assoc]
          exact (List.perm_append_comm).append_right _
        _ |>.Perm (f ++ fs.flatten) := h3.append_left _
/-- the state of a body: entered at H0, it may change what stands at M; LO is its own (apart from all else), LB is known besides -/
structure SH (K : PySem.W.Frag) (H0 : Hp) (M : List Addr) (LO LB : List As) (H : Hp) : Prop where
  ex : ExB M H0 H
  tx : TEx H0 H
  own : ∃ fps fbs : List (List Addr), All2 H LO fps ∧ All2 H LB fbs ∧ fps.flatten.Nodup ∧ (∀ a ∈ fps.flatten, (H0 a = none ∨ a ∈ M) ∧ a ∉ fbs.flatten)
section
variable {K : PySem.W.Frag} {H0 H H' : Hp} {M : List Addr} {LO LB LO' LB' : List As} {A B : As}
theorem SH.lb (S : SH K H0 M LO LB H) (m : A ∈ LB) : ∃ fp, A.P H fp := by
  obtain ⟨_, _, _, h, _⟩ := S.own
  obtain ⟨fp, h1, _⟩ := h.mem m
  exact ⟨fp, h1⟩
theorem SH.lo (S : SH K H0 M LO LB H) (m : A ∈ LO) : ∃ fp, A.P H fp := by
  obtain ⟨_, _, h, _, _⟩ := S.own
  obtain ⟨fp, h1, _⟩ := h.mem m
  exact ⟨fp, h1⟩
/-- known, own or not -/
theorem SH.at (S : SH K H0 M LO LB H) (m : A ∈ LO ∨ A ∈ LB) : ∃ fp, A.P H fp := m.elim S.lo S.lb
theorem SH.rd {d : D} {v : V} (S : SH K H0 M LO LB H) (m : dt K d v ∈ LB) : RD K H d v := by
  obtain ⟨_, _, h⟩ := S.lb m
  exact h
theorem SH.start (H : Hp) : SH K H [] [] [] H := ⟨ExB.refl _ _, TEx.refl _, [], [], .nil, .nil, by simp, fun a h => by simp at h⟩
/-- something more is known, that leans on nothing of one's own -/
theorem SH.know {fp : List Addr} (S : SH K H0 M LO LB H) (h : A.P H fp) (hf : ∀ fps, All2 H LO fps → ∀ a ∈ fp, a ∉ fps.flatten) : SH K H0 M LO (A :: LB) H := by
  obtain ⟨fps, fbs, h1, h2, h3, h4⟩ := S.own
  refine ⟨S.ex, S.tx, fps, fp :: fbs, h1, .cons h h2, h3, fun a ha => ⟨(h4 a ha).1, ?_⟩⟩
  rw [List.flatten_cons]
  intro z
  rcases List.mem_append.mp z with z | z
  · exact hf fps h1 a z ha
  · exact (h4 a ha).2 z
theorem SH.data {d : D} {v : V} (S : SH K H0 M LO LB H) (h : RD K H d v) : SH K H0 M LO (dt K d v :: LB) H :=
  S.know (A := dt K d v) (fp := []) ⟨rfl, h⟩ fun _ _ a ha => by simp at ha
/-- at the entry (nothing is one's own) -/
theorem SH.know0 {fp : List Addr} (S : SH K H0 M [] LB H) (h : A.P H fp) : SH K H0 M [] (A :: LB) H :=
  S.know h fun fps q a _ => by cases q; simp
/-- one's own is let go: it is known still -/
theorem SH.freeze (S : SH K H0 M LO LB H) (p : Pick LO A LO') : SH K H0 M LO' (A :: LB) H := by
  obtain ⟨fps, fbs, h1, h2, h3, h4⟩ := S.own
  obtain ⟨fp, rest, q1, q2, q3⟩ := h1.pick p
  have nd := (q3.nodup_iff).mpr h3
  refine ⟨S.ex, S.tx, rest, fp :: fbs, q2, .cons q1 h2, (List.nodup_append.mp nd).2.1, fun a ha => ?_⟩
  have ha' : a ∈ fps.flatten := q3.mem_iff.mp (List.mem_append_right _ ha)
  refine ⟨(h4 a ha').1, ?_⟩
  rw [List.flatten_cons]
  intro z
  rcases List.mem_append.mp z with z | z
  · exact (List.nodup_append.mp nd).2.2 a z a ha rfl
  · exact (h4 a ha').2 z
/-- less is told -/
theorem SH.dropB (S : SH K H0 M LO LB H) (h : ∀ A ∈ LB', A ∈ LB) : SH K H0 M LO LB' H := by
  obtain ⟨fps, fbs, h1, h2, h3, h4⟩ := S.own
  have key : ∀ l : List As, (∀ A ∈ l, A ∈ LB) → ∃ gs, All2 H l gs ∧ ∀ a ∈ gs.flatten, a ∈ fbs.flatten := by
    intro l
    induction l with
    | nil => exact fun _ => ⟨[], .nil, fun a ha => by simp at ha⟩
    | cons B l ih =>
      intro hl
      obtain ⟨gs, g1, g2⟩ := ih fun A hA => hl A (List.mem_cons_of_mem _ hA)
      obtain ⟨fp, e1, e2⟩ := h2.mem (hl B List.mem_cons_self)
      refine ⟨fp :: gs, .cons e1 g1, fun a ha => ?_⟩
      rw [List.flatten_cons] at ha
      rcases List.mem_append.mp ha with z | z
      · exact e2 a z
      · exact g2 a z
  obtain ⟨gs, g1, g2⟩ := key LB' h
  exact ⟨S.ex, S.tx, fps, gs, h1, g1, h3, fun a ha => ⟨(h4 a ha).1, fun z => (h4 a ha).2 (g2 a z)⟩⟩
theorem SH.drop (S : SH K H0 M LO LB H) (p : Pick LO A LO') : SH K H0 M LO' LB H := (S.freeze p).dropB fun _ h => List.mem_cons_of_mem _ h
theorem SH.front (S : SH K H0 M LO LB H) (p : Pick LO A LO') : SH K H0 M (A :: LO') LB H := by
  obtain ⟨fps, fbs, h1, h2, h3, h4⟩ := S.own
  obtain ⟨fp, rest, q1, q2, q3⟩ := h1.pick p
  refine ⟨S.ex, S.tx, fp :: rest, fbs, .cons q1 q2, h2, ?_, fun a ha => ?_⟩
  · rw [List.flatten_cons]; exact (q3.nodup_iff).mpr h3
  · rw [List.flatten_cons] at ha; exact h4 a (q3.mem_iff.mp ha)
/-- a row of the first list within the second -/
inductive Sub : List As → List As → Prop
  | nil {l : List As} : Sub [] l
  | cons {A : As} {k l r : List As} : Pick l A r → Sub k r → Sub (A :: k) l
theorem SH.sub (h : Sub LO' LO) (S : SH K H0 M LO LB H) : SH K H0 M LO' LB H := by
  obtain ⟨fps, fbs, h1, h2, h3, h4⟩ := S.own
  have key : ∀ {k l : List As}, Sub k l → ∀ fps : List (List Addr), All2 H l fps → fps.flatten.Nodup → ∃ gs, All2 H k gs ∧ gs.flatten.Nodup ∧ ∀ a ∈ gs.flatten, a ∈ fps.flatten := by
    intro k l s
    induction s with
    | nil => exact fun fps _ _ => ⟨[], .nil, by simp, fun a ha => by simp at ha⟩
    | cons p _ ih =>
      intro fps q nd
      obtain ⟨fp, rest, q1, q2, q3⟩ := q.pick p
      have nd' := (q3.nodup_iff).mpr nd
      obtain ⟨n1, n2, n3⟩ := List.nodup_append.mp nd'
      obtain ⟨gs, g1, g2, g3⟩ := ih rest q2 n2
      refine ⟨fp :: gs, .cons q1 g1, ?_, fun a ha => ?_⟩
      · rw [List.flatten_cons]
        exact List.nodup_append.mpr ⟨n1, g2, fun a ha b hb => n3 a ha b (g3 b hb)⟩
      · rw [List.flatten_cons] at ha
        rcases List.mem_append.mp ha with z | z
        · exact q3.mem_iff.mp (List.mem_append_left _ z)
        · exact q3.mem_iff.mp (List.mem_append_right _ (g3 a z))
  obtain ⟨gs, g1, g2, g3⟩ := key h fps h1 h3
  exact ⟨S.ex, S.tx, gs, fbs, g1, h2, g2, fun a ha => h4 a (g3 a ha)⟩
/-- a change of heap in which the objects of fp (own things A) may have become others -/
theorem SH.step (S : SH K H0 M LO LB H) (p : Pick LO A LO') (h : ∀ fp, A.P H fp → (∀ a ∈ fp, H0 a = none ∨ a ∈ M) → fp.Nodup →
      ExB fp H H' ∧ TEx H H' ∧ ∃ fp', B.P H' fp' ∧ fp'.Nodup ∧ ∀ a ∈ fp', a ∈ fp ∨ H a = none) : SH K H0 M (B :: LO') LB H' := by
  obtain ⟨fps, fbs, h1, h2, h3, h4⟩ := S.own
  obtain ⟨fp, rest, q1, q2, q3⟩ := h1.pick p
  have nd := (q3.nodup_iff).mpr h3
  obtain ⟨n1, n2, n3⟩ := List.nodup_append.mp nd
  have inF : ∀ a ∈ fp, a ∈ fps.flatten := fun a ha => q3.mem_iff.mp (List.mem_append_left _ ha)
  have inR : ∀ a ∈ rest.flatten, a ∈ fps.flatten := fun a ha => q3.mem_iff.mp (List.mem_append_right _ ha)
  obtain ⟨e, t, fp', b1, b2, b3⟩ := h fp q1 (fun a ha => (h4 a (inF a ha)).1) n1
  have keepR : ∀ a ∈ rest.flatten, H' a = H a := fun a ha => by
    obtain ⟨o, ho⟩ := q2.there a ha
    rw [ho]
    exact e a o (fun z => n3 a z a ha rfl) ho
  have keepB : ∀ a ∈ fbs.flatten, H' a = H a := fun a ha => by
    obtain ⟨o, ho⟩ := h2.there a ha
    rw [ho]
    exact e a o (fun z => (h4 a (inF a z)).2 ha) ho
  refine ⟨fun a o na ho => ?_, S.tx.trans t, fp' :: rest, fbs, .cons b1 (q2.loc t keepR), h2.loc t keepB, ?_, fun a ha => ?_⟩
  · refine e a o (fun z => ?_) (S.ex a o na ho)
    rcases (h4 a (inF a z)).1 with w | w
    · rw [ho] at w; cases w
    · exact na w
  · rw [List.flatten_cons]
    refine List.nodup_append.mpr ⟨b2, n2, fun a ha b hb e => ?_⟩
    subst e
    rcases b3 a ha with z | z
    · exact n3 a z a hb rfl
    · obtain ⟨o, ho⟩ := q2.there a hb
      rw [ho] at z; cases z
  · rw [List.flatten_cons] at ha
    rcases List.mem_append.mp ha with z | z
    · rcases b3 a z with w | w
      · exact h4 a (inF a w)
      · refine ⟨?_, fun y => ?_⟩
        · cases q : H0 a with
          | none => exact .inl rfl
          | some o =>
            by_cases hm : a ∈ M
            · exact .inr hm
            · have := S.ex a o hm q
              rw [w] at this; cases this
        · obtain ⟨o, ho⟩ := h2.there a y
          rw [w] at ho; cases ho
    · exact h4 a (inR a z)
/-- the heap grows; what grew is one's own -/
theorem SH.grow {fp : List Addr} (S : SH K H0 M LO LB H) (e : Ex H H') (h : A.P H' fp) (nd : fp.Nodup) (nw : ∀ a ∈ fp, H a = none) : SH K H0 M (A :: LO) LB H' := by
  have S1 : SH K H0 M (pur True :: LO) LB H := by
    obtain ⟨fps, fbs, h1, h2, h3, h4⟩ := S.own
    exact ⟨S.ex, S.tx, [] :: fps, fbs, .cons ⟨rfl, trivial⟩ h1, h2, by simpa using h3, fun a ha => h4 a (by simpa using ha)⟩
  exact S1.step .here fun f hf _ _ => ⟨e.b, e.t, fp, h, nd, fun a ha => .inr (nw a ha)⟩
/-- .. nothing of it matters -/
theorem SH.ext (S : SH K H0 M LO LB H) (e : Ex H H') : SH K H0 M LO LB H' :=
  (S.grow (A := pur True) (fp := []) e ⟨rfl, trivial⟩ (by simp) (fun a ha => by simp at ha)).drop .here
theorem ex_new {p : Addr} {o : HO} (h : H p = none) : Ex H (upd H p o) := fun a u e => by
  rw [upd_ne (ne_of_none e h)]
  exact e
/-- a new object -/
theorem SH.new {p : Addr} {o : HO} (S : SH K H0 M LO LB H) (h : H p = none) : SH K H0 M (pt p o :: LO) LB (upd H p o) :=
  S.grow (A := pt p o) (fp := [p]) (ex_new h) ⟨rfl, upd_same⟩ (by simp) (fun a ha => by simp at ha; rw [ha]; exact h)
/-- a new list of data -/
theorem SH.newL {p : Addr} {xs : List V} {ds : List D} (S : SH K H0 M LO LB H) (h : H p = none) (r : RDs K H ds xs) : SH K H0 M (ls K p ds :: LO) LB (upd H p (.lst xs)) :=
  S.grow (A := ls K p ds) (fp := [p]) (ex_new h) ⟨rfl, xs, upd_same, r.mono (ex_new h).t⟩ (by simp) (fun a ha => by simp at ha; rw [ha]; exact h)
/-- a new tuple of data -/
theorem SH.newT {p : Addr} {xs : List V} {ds : List D} (S : SH K H0 M LO LB H) (h : H p = none) (r : RDs K H ds xs) : SH K H0 M LO (dt K (.tup ds) (.ref p) :: LB) (upd H p (.tup xs)) :=
  (S.ext (ex_new h)).data (.tup (.inl (.inl upd_same)) (r.mono (ex_new h).t))
theorem tex_put {p : Addr} {o o' : HO} (h : H p = some o) (n1 : ∀ xs, o ≠ .tup xs) (n2 : ∀ ob u, o ≠ .frz ob u) : TEx H (upd H p o') := fun a xs r => by
  rcases r with r | ⟨ob, r⟩
  · refine .inl ?_
    rw [upd_ne (ne_of r h (n1 xs).symm)]
    exact r
  · refine .inr ⟨ob, ?_⟩
    rw [upd_ne (ne_of r h (n2 ob _).symm)]
    exact r
/-- an object of one's own becomes another -/
theorem SH.put {p : Addr} {o o' : HO} (S : SH K H0 M LO LB H) (q : Pick LO (pt p o) LO') (n1 : ∀ xs, o ≠ .tup xs := by intro xs z; cases z) (n2 : ∀ ob u, o ≠ .frz ob u := by intro a b z; cases z) : SH K H0 M (pt p o' :: LO') LB (upd H p o') :=
  S.step q fun fp h _ _ => by
    obtain ⟨rfl, h⟩ := h
    refine ⟨fun a u na e => ?_, tex_put h n1 n2, [p], ⟨rfl, upd_same⟩, by simp, fun a ha => .inl ha⟩
    rw [upd_ne (by simpa using na)]
    exact e
/-- a list of one's own becomes another -/
theorem SH.putL {p : Addr} {ds es : List D} {ys : List V} (S : SH K H0 M LO LB H) (q : Pick LO (ls K p ds) LO') (r : RDs K H es ys) : SH K H0 M (ls K p es :: LO') LB (upd H p (.lst ys)) :=
  S.step q fun fp h _ _ => by
    obtain ⟨rfl, xs, h, _⟩ := h
    have t : TEx H (upd H p (.lst ys)) := tex_put h (by intro xs z; cases z) (by intro a b z; cases z)
    refine ⟨fun a u na e => ?_, t, [p], ⟨rfl, ys, upd_same, r.mono t⟩, by simp, fun a ha => .inl ha⟩
    rw [upd_ne (by simpa using na)]
    exact e
theorem SH.getL {p : Addr} {ds : List D} (S : SH K H0 M LO LB H) (m : ls K p ds ∈ LO ∨ ls K p ds ∈ LB) : ∃ xs, H p = some (.lst xs) ∧ RDs K H ds xs := by
  obtain ⟨_, _, h⟩ := S.at m
  exact h
theorem SH.getO {p : Addr} {o : HO} (S : SH K H0 M LO LB H) (m : pt p o ∈ LO ∨ pt p o ∈ LB) : H p = some o := by
  obtain ⟨_, _, h⟩ := S.at m
  exact h
end
end Sl
/-! enumerate over a text and over a tuple. -/
namespace EnX
open PySem
open AutoSeq1 (wpAny_loadPart')
abbrev tIt (l : Addr) : Obj := { cls := .type "tuple_iterator", data := .fields #[.ref l, .int 0 0] }
abbrev eOb (it : Addr) : Obj := { cls := .type "enumerate", data := .fields #[.none, .bool false, .ref it, rawInt 0, .none, .none] }
theorem newT (l : Addr) (items : Array Value) :
    Meets (Builtin.«enumerate.__new__» ⟨[.type "enumerate", .ref l], []⟩) (fun _ R s => s.heap.IsTuple l items ∧
      R (.ok (.ret (.ref (s.heap.push (tIt l)).objs.size)))
        { s with heap := (s.heap.push (tIt l)).push (eOb s.heap.objs.size) }) := by
  refine .of_wp fun prog w A R s h => ?_
  obtain ⟨hp, g, d, tk, os⟩ := s
  obtain ⟨hl, h⟩ := h
  have hsub := sub_enumerate
  have hL : Heap.IsTuple (Shared.heap ⟨hp, g, d, tk, os⟩) l items := hl
  obtain ⟨o0, e0, c0, n0, d0⟩ := id hl
  wp_walk using wpAny_loadPart' e0
  refine wpAny_stack_any fun st => ?_
  refine wpAny_pure ?_
  split
  · rename_i c _ _ _ _ _
    cases (c == Value.type "enumerate") <;>
      (wp_walk using wpAny_loadPart' e0, wpAny_pyIter_tuple hL
       exact ⟨_, rfl, h⟩)
  · wp_walk using wpAny_loadPart' e0, wpAny_pyIter_tuple hL
    exact ⟨_, rfl, h⟩
theorem call_tup {prog : Program} {w : World} {A : Around} {E : Value → Shared → Prop} {s : Shared} {l : Addr} {items : Array Value} {Q : Value → Shared → Prop} (hL : s.heap.IsTuple l items)
    (h : ∀ h', IsEnum h' (s.heap.objs.size + 1) s.heap.objs.size 0 .none → h'.IsTupleIter s.heap.objs.size l 0 →
      (∀ b o, s.heap.get? b = some o → h'.get? b = some o) → Q (.ref (s.heap.objs.size + 1)) { s with heap := h' }) :
    wpAny (model prog w) A (call (.type "enumerate") [.ref l]) Q E s := by
  refine callType_new F.called_enumerate (by decide) (F.typeCall_enumerate_1 _) (F.newCall_enumerate_1 _)
    (fun obj => F.args_object_init_2 obj _) F.entry_enumerate_new (newT l items) ⟨hL, ?_⟩
  have hz : (s.heap.push (tIt l)).objs.size = s.heap.objs.size + 1 := Heap.size_push ..
  show _ ∧ _
  rw [hz]
  have he : IsEnum ((s.heap.push (tIt l)).push (eOb s.heap.objs.size)) (s.heap.objs.size + 1) s.heap.objs.size 0 .none := by
    have q := Heap.get?_push_size (s.heap.push (tIt l)) (o := eOb s.heap.objs.size) rfl
    rw [hz] at q
    exact q
  refine ⟨⟨_, he, rfl⟩, h _ he ?_ fun b o x => ?_⟩
  · exact ⟨_, Heap.get?_push_of_some _ (Heap.get?_push_size _ rfl), rfl, rfl⟩
  · exact Heap.get?_push_of_some _ (Heap.get?_push_of_some _ x)
end EnX
namespace L2
open PySem PySem.Spec
open PyProof.Rows
/-- pairs of a turn's number and a thing, new at each turn -/
def ItP (n : Nat) (Y : Nat → V → Prop) : It where
  go i _ := i < n
  yld i H v H' := ∃ T x, v = .ref T ∧ H T = none ∧ H' = upd H T (.tup [.int (i : Nat), x]) ∧ Y i x
  stop i _ := i = n
/-- the same over a tuple that is read -/
def ItQ (K : PySem.W.Frag) (a : Addr) : It where
  go i H := ∃ (xs : List V) (x : V), SqT K H a xs ∧ xs[i]? = some x
  yld i H v H' := ∃ T x, v = .ref T ∧ H T = none ∧ H' = upd H T (.tup [.int (i : Nat), x]) ∧ ∀ xs, SqT K H a xs → xs[i]? = some x
  stop i H := ∃ xs : List V, SqT K H a xs ∧ i = xs.length
/-- behind a turn of an enumerate: the pair is told -/
theorem enum_told {X : Cx} {pins : List (Addr × Obj)} {σ : St} {H : Hp} {s : Shared} {e it : Addr} {elts : List Expr} {kk : Nat} {tpos : Pos} {i tk : Nat} {x : V} {u : Value} {h' : Heap} {E : Value → Shared → Prop} {tn : Nat → Heap → Prop} {Y : Hp → V → Hp → Prop}
    (I : Inv X pins σ H s) (hf : ∀ b ∈ [e, it], FpOk X pins H b) (hel : e < s.heap.objs.size) (hil : it < s.heap.objs.size) (hne : e ≠ it) (ru : RelV x u)
    (ho : IsEnumOut h' e it ((i : Int) + 1) u s.heap.objs.size) (hT : h'.get? s.heap.objs.size = some { cls := .type "tuple", data := .seq #[.int i tk, u] })
    (hk : ∀ b o, b ≠ e → b ≠ it → s.heap.get? b = some o → h'.get? b = some o)
    (hst : ∀ h'', (∀ b o, b ≠ e → h'.get? b = some o → h''.get? b = some o) → IsEnum h'' e it ((i : Int) + 1) u → tn (i + 1) h'')
    (hy : H s.heap.objs.size = none → Y H (.ref s.heap.objs.size) (upd H s.heap.objs.size (.tup [.int (i : Nat), x]))) :
    wpAny (model X.prog X.w) X.A (letOwnedTupleGo (.Tuple elts kk tpos) (.ref e) (.ref s.heap.objs.size))
      (fun _ s2 => ∃ z H', Inv X pins σ H' s2 ∧ RelV z (.ref s.heap.objs.size) ∧ Y H z H' ∧ tn (i + 1) s2.heap ∧ ∀ b ∈ [e, it], H' b = none) E { s with heap := h', toks := tk + 1 } := by
  refine wpAny_letOwnedTupleGo_enum (s := { s with heap := h', toks := tk + 1 }) ho fun h'' he' sb => ?_
  have nT : ∀ b, b < s.heap.objs.size → b ≠ s.heap.objs.size := fun b hb => Nat.ne_of_lt hb
  have hT2 : h''.get? s.heap.objs.size = some { cls := .type "tuple", data := .seq #[.int i tk, u] } := (sb.2 _ (Nat.ne_of_gt hel)).trans hT
  have new : ObjOk X.prog X.w (upd H s.heap.objs.size (.tup [.int (i : Nat), x])) h'' s.heap.objs.size (.tup [.int (i : Nat), x]) := by
    refine ⟨by show 2 ≤ sizeLine; decide, [.int i tk, u], .cons ⟨_, rfl⟩ (.cons ru .nil), ?_⟩
    exact ⟨_, hT2, rfl, _, rfl⟩
  have I1 : Inv X pins σ (upd H s.heap.objs.size (.tup [.int (i : Nat), x])) { s with heap := h'', toks := tk + 1 } := by
    refine I.turnedNew (ch := [e, it]) (fun b ob hb q => ?_) hf (Nat.le_refl _) new
    have b1 : b ≠ e := fun z => hb (by simp [z])
    have b2 : b ≠ it := fun z => hb (by simp [z])
    exact (sb.2 b b1).trans (hk b ob b1 b2 q)
  refine ⟨.ref s.heap.objs.size, _, I1, rfl, hy (I.hok.fresh (Nat.le_refl _)), ?_, fun b hb => ?_⟩
  · exact hst h'' (fun b o hb q => (sb.2 b hb).trans q) he'
  · have e' : b = e ∨ b = it := by simpa using hb
    have hb' : b < s.heap.objs.size := by
      rcases e' with z | z
      · rw [z]
        exact hel
      · rw [z]
        exact hil
    rw [upd_ne (nT b hb')]
    exact (hf b hb).1
section
variable {P : Program} {w : World} {K : PySem.W.Frag} {elts : List Expr} {kk : Nat} {tpos : Pos}
theorem turn_enumS (e it : Addr) (z : Str) (t : Tok) :
    Turn P w K (.Tuple elts kk tpos) (ItP z.cps.size fun i v => ∃ c, z.cps[i]? = some c ∧ v = .str ⟨#[c]⟩) [e, it] e (fun i h => (∃ old, IsEnum h e it ((i : Nat) : Int) old) ∧ h.IsStrIter it (strIterType z) z t i ∧ e ≠ it) where
  mem := List.mem_cons_self
  obj := by
    intro i h st b hb
    obtain ⟨⟨old, he⟩, ⟨o, ho, hc, hd⟩, _⟩ := st
    rcases (by simpa using hb : b = e ∨ b = it) with y | y
    · rw [y]
      exact ⟨_, he, fun v q => nomatch q⟩
    · rw [y]
      exact ⟨o, ho, fun v q => by rw [hd] at q; cases q⟩
  keep := by
    intro i h h' st k
    obtain ⟨⟨old, he⟩, ⟨o, ho, r⟩, hne⟩ := st
    exact ⟨⟨old, k e (by simp) _ he⟩, ⟨o, k it (by simp) o ho, r⟩, hne⟩
  item := by
    intro X hP hw hK hc i pins s σ H E I hf st hg
    subst hP hw hK
    obtain ⟨⟨old, he⟩, hit, hne⟩ := st
    have hel : e < s.heap.objs.size := Heap.lt_size he
    have hil : it < s.heap.objs.size := by
      obtain ⟨_, q, _⟩ := hit
      exact Heap.lt_size q
    have Dr := Draws.text (prog := X.prog) (w := X.w) (A := X.A.in1) (I.ok.hd hc) it z t
    refine wpAny_pyNext_enum_itemD Dr he hit hg hne (by simpa using hne) fun x h' tk hx ho hit' hT hsz hk => ?_
    obtain ⟨c, u, hcx, rfl⟩ := hx
    refine ⟨_, rfl, ?_⟩
    refine enum_told (tn := fun i h => (∃ old, IsEnum h e it ((i : Nat) : Int) old) ∧ h.IsStrIter it (strIterType z) z t i ∧ e ≠ it) (x := .str ⟨#[c]⟩) I hf hel hil hne ⟨u, rfl⟩ ho hT hk (fun h'' k q => ⟨⟨.str ⟨#[c]⟩ u, ?_⟩, ?_, hne⟩)
      (Y := (ItP z.cps.size fun i v => ∃ c, z.cps[i]? = some c ∧ v = .str ⟨#[c]⟩).yld i) fun n => ⟨_, _, rfl, n, rfl, c, hcx, rfl⟩
    · have e1 : ((i + 1 : Nat) : Int) = (i : Int) + 1 := by omega
      rw [e1]
      exact q
    · obtain ⟨o, q1, q2⟩ := hit'
      exact ⟨o, k it o (Ne.symm hne) q1, q2⟩
  done := by
    intro X hP hw hK hc i pins s σ H E I hf st hg
    subst hP hw hK
    obtain ⟨⟨old, he⟩, hit, hne⟩ := st
    obtain ⟨f0, f1, f2, f3, f4, f5⟩ := hf it (by simp)
    have fin : ∀ h', Heap.ExtBut it s.heap h' → (none : Option Value) = none ∧ Inv X pins σ H { s with heap := h' } := fun h' eb => ⟨rfl, I.turned (t' := s.toks) (fun b o hb q => eb b o hb q) f0 f1 f3 f4 f5⟩
    have Dr := Draws.text (prog := X.prog) (w := X.w) (A := X.A.in1) (I.ok.hd hc) it z t
    have hT : s.TypeIs (.ref e) "enumerate" := ⟨_, he, rfl⟩
    have hi : i = z.cps.size := hg
    subst hi
    exact wpAny_pyNext_enum_endD Dr he hit fin
  self := fun A i s Q E st h => let ⟨⟨_, he⟩, _⟩ := st; wpAny_pyIter_enum he h
theorem turn_enumT (a e it : Addr) :
    Turn P w K (.Tuple elts kk tpos) (ItQ K a) [e, it] e (fun i h => (∃ old, IsEnum h e it ((i : Nat) : Int) old) ∧ h.IsTupleIter it a i ∧ e ≠ it ∧ a ≠ it ∧ a ≠ e) where
  mem := List.mem_cons_self
  obj := by
    intro i h st b hb
    obtain ⟨⟨old, he⟩, ⟨o, ho, hc, hd⟩, _⟩ := st
    rcases (by simpa using hb : b = e ∨ b = it) with y | y
    · rw [y]
      exact ⟨_, he, fun v q => nomatch q⟩
    · rw [y]
      exact ⟨o, ho, fun v q => by rw [hd] at q; cases q⟩
  keep := by
    intro i h h' st k
    obtain ⟨⟨old, he⟩, ⟨o, ho, r⟩, hne⟩ := st
    exact ⟨⟨old, k e (by simp) _ he⟩, ⟨o, k it (by simp) o ho, r⟩, hne⟩
  item := by
    intro X hP hw hK hc i pins s σ H E I hf st hg
    subst hP hw hK
    obtain ⟨⟨old, he⟩, hit, hne, ha1, ha2⟩ := st
    obtain ⟨xs, x, hq, hx⟩ := hg
    obtain ⟨its, rv, p, hz⟩ := I.tuple hq
    obtain ⟨u, hu, ru⟩ := rv.get hx
    have hel : e < s.heap.objs.size := Heap.lt_size he
    have hil : it < s.heap.objs.size := by
      obtain ⟨_, q, _⟩ := hit
      exact Heap.lt_size q
    have Dr := Draws.tuple (prog := X.prog) (w := X.w) (A := X.A.in1) (I.ok.hd hc) it a ha1 its.toArray
    have hi : i < its.toArray.size := by
      have := (List.getElem?_eq_some_iff.mp hu).1
      simpa using this
    refine wpAny_pyNext_enum_itemD Dr he ⟨hit, p⟩ hi hne (by simpa using ⟨hne, Ne.symm ha2⟩) fun y h' tk hy ho hit' hT hsz hk => ?_
    obtain rfl : u = y := by
      have q : its[i]? = some y := by simpa using hy
      rw [hu] at q
      exact Option.some.inj q
    refine ⟨_, rfl, ?_⟩
    refine enum_told (tn := fun i h => (∃ old, IsEnum h e it ((i : Nat) : Int) old) ∧ h.IsTupleIter it a i ∧ e ≠ it ∧ a ≠ it ∧ a ≠ e) (x := x) I hf hel hil hne ru ho hT hk (fun h'' k q => ⟨⟨u, ?_⟩, ?_, hne, ha1, ha2⟩)
      (Y := (ItQ X.K a).yld i) fun n => ⟨_, _, rfl, n, rfl, fun ys hy => ?_⟩
    · have e1 : ((i + 1 : Nat) : Int) = (i : Int) + 1 := by omega
      rw [e1]
      exact q
    · obtain ⟨o, q1, q2⟩ := hit'.1
      exact ⟨o, k it o (Ne.symm hne) q1, q2⟩
    · rw [I.tuple_inj hy hq]
      exact hx
  done := by
    intro X hP hw hK hc i pins s σ H E I hf st hg
    subst hP hw hK
    obtain ⟨⟨old, he⟩, hit, hne, ha1, ha2⟩ := st
    obtain ⟨xs, hq, hi⟩ := hg
    obtain ⟨its, rv, p, hz⟩ := I.tuple hq
    obtain ⟨f0, f1, f2, f3, f4, f5⟩ := hf it (by simp)
    have Dr := Draws.tuple (prog := X.prog) (w := X.w) (A := X.A.in1) (I.ok.hd hc) it a ha1 its.toArray
    have hi2 : i = its.toArray.size := by rw [hi, rv.length]; simp
    subst hi2
    exact wpAny_pyNext_enum_endD Dr he ⟨hit, p⟩ fun h' eb => ⟨rfl, I.turned (t' := s.toks) (fun b o hb q => eb b o hb q) f0 f1 f3 f4 f5⟩
  self := fun A i s Q E st h => let ⟨⟨_, he⟩, _⟩ := st; wpAny_pyIter_enum he h
end
/-- enumerate(a text), enumerate(a tuple) -/
def iEnumS (ta : TA) : TI := fun σ H R => ta σ H fun vs H1 => ∃ z, vs = [.str z] ∧ R (ItP z.cps.size fun i v => ∃ c, z.cps[i]? = some c ∧ v = .str ⟨#[c]⟩) H1
def iEnumT (K : PySem.W.Frag) (ta : TA) : TI := fun σ H R => ta σ H fun vs H1 => ∃ a xs, vs = [.ref a] ∧ SqT K H1 a xs ∧ R (ItQ K a) H1
section
variable {X : Cx} {e : Expr} {ta : TA} {p pos tpos : Pos} {elts : List Expr} {kk : Nat}
theorem new2 {X : Cx} {pins : List (Addr × Obj)} {σ : St} {H H1 : Hp} {s1 : Shared} (I1 : Inv X pins σ H1 s1) : ∀ b ∈ [s1.heap.objs.size + 1, s1.heap.objs.size], FpOk X pins H1 b := by
  intro b hb
  have hle : s1.heap.objs.size ≤ b := by
    rcases (by simpa using hb : b = s1.heap.objs.size + 1 ∨ b = s1.heap.objs.size) with z | z
    · rw [z]
      exact Nat.le_succ _
    · exact Nat.le_of_eq z.symm
  exact I1.fpOk hle (I1.hok.fresh hle)
theorem pi_enumS (hg : Gl X "enumerate") (hm : X.mg "enumerate" = none) (ha : PA X [e] ta) (hs : starEach [e] X.env = [(false, eval e X.env)] := by rfl) :
    PI X (.Tuple elts kk tpos) (.Call (.Name "enumerate" p) [e] [] pos) (iEnumS ta) := by
  refine ⟨fun pins s σ H R I h => ?_⟩
  refine Call_ (ld_blt I hg hm boot_enumerate (PyProof.Rows.callWith_type1 (thn (ha.run pos pins s σ H _ I h) ?_) hs rfl))
  rintro us s1 ⟨vs, H1, I1, r1, z, ex, q⟩
  subst ex
  cases r1 with
  | cons r rr =>
    cases rr
    obtain ⟨t, rfl⟩ := r
    refine call_enumerate_str fun h' he hit hsz hk => wpAny_pyIter_enum he ?_
    have I2 : Inv X pins σ H1 { s1 with heap := h' } := I1.kept (t' := s1.toks) hk
    exact ⟨s1.heap.objs.size + 1, [s1.heap.objs.size + 1, s1.heap.objs.size], _, _, H1, rfl, I2, turn_enumS (s1.heap.objs.size + 1) s1.heap.objs.size z t, ⟨⟨.none, he⟩, hit, Nat.succ_ne_self _⟩, new2 (H := H) I1, q⟩
theorem pi_enumT (hg : Gl X "enumerate") (hm : X.mg "enumerate" = none) (ha : PA X [e] ta) (hs : starEach [e] X.env = [(false, eval e X.env)] := by rfl) :
    PI X (.Tuple elts kk tpos) (.Call (.Name "enumerate" p) [e] [] pos) (iEnumT X.K ta) := by
  refine ⟨fun pins s σ H R I h => ?_⟩
  refine Call_ (ld_blt I hg hm boot_enumerate (PyProof.Rows.callWith_type1 (thn (ha.run pos pins s σ H _ I h) ?_) hs rfl))
  rintro us s1 ⟨vs, H1, I1, r1, a, xs, ex, hq, q⟩
  subst ex
  cases r1 with
  | cons r rr =>
    cases rr
    cases r
    obtain ⟨its, rv, p', hz⟩ := I1.tuple hq
    have al : a < s1.heap.objs.size := by
      obtain ⟨o, ho, _⟩ := p'
      exact Heap.lt_size ho
    refine EnX.call_tup p' fun h' he hit hk => wpAny_pyIter_enum he ?_
    have I2 : Inv X pins σ H1 { s1 with heap := h' } := I1.kept (t' := s1.toks) hk
    exact ⟨s1.heap.objs.size + 1, [s1.heap.objs.size + 1, s1.heap.objs.size], _, _, H1, rfl, I2, turn_enumT a (s1.heap.objs.size + 1) s1.heap.objs.size,
      ⟨⟨.none, he⟩, hit, Nat.succ_ne_self _, Nat.ne_of_lt al, Nat.ne_of_lt (Nat.lt_succ_of_lt al)⟩, new2 (H := H) I1, q⟩
end
section
variable {K : PySem.W.Frag} {a : Addr} {xs : List V}
theorem walk_P {n : Nat} {Y : Nat → V → Prop} : Walk (ItP n Y) n (fun _ => True) (fun i H v H' => ∃ T x, v = .ref T ∧ H T = none ∧ H' = upd H T (.tup [.int (i : Nat), x]) ∧ Y i x) :=
  ⟨fun _ _ hi _ => hi, fun _ _ => rfl, fun _ _ _ _ _ _ y => y⟩
theorem walk_Q : Walk (ItQ K a) xs.length (fun H => SqT K H a xs) (fun i H v H' => ∃ T x, v = .ref T ∧ H T = none ∧ H' = upd H T (.tup [.int (i : Nat), x]) ∧ xs[i]? = some x) := by
  refine ⟨fun i _ hi q => ⟨xs, xs[i], q, by simp [hi]⟩, fun _ q => ⟨xs, q, rfl⟩, ?_⟩
  rintro i H v H' _ q ⟨T, x, h1, h2, h3, h4⟩
  exact ⟨T, x, h1, h2, h3, h4 xs q⟩
end
end L2
/-! Short words for derivations and for readings. -/
namespace Sl
open PySem PySem.Spec
open PyProof.Rows L2
/-! ### defs -/
structure Has (P : Program) (w : World) (K : PySem.W.Frag) (mg : Str → Option Value) (base : Heap) (k : Nat) (f : Addr) (ps : List Str) (sp : Sp) : Prop where
  ex : ∃ fd, FnOk P w K mg base (L2.CX P w) k f fd ps sp ∧ Binds K fd ps []
  kp : PySem.W.keepIn K (.ref f) = true
section
variable {P : Program} {w : World} {K : PySem.W.Frag} {mg : Str → Option Value} {base : Heap} {k j : Nat} {f : Addr} {N ps : List Str} {sp sp' : Sp} {x qual : Str} {params : Arguments} {body : List Stmt} {scope : Scope}
theorem Has.mono (h : Has P w K mg base j f ps sp) (z : j ≤ k) : Has P w K mg base k f ps sp := by
  obtain ⟨⟨fd, a, b⟩, c⟩ := h
  exact ⟨⟨fd, a.mono z, b⟩, c⟩
theorem Has.imp (h : Has P w K mg base k f ps sp) (z : ∀ vs H Q E, sp' vs H Q E → sp vs H Q E) : Has P w K mg base k f ps sp' := by
  obtain ⟨⟨fd, a, b⟩, c⟩ := h
  exact ⟨⟨fd, a.imp z, b⟩, c⟩
abbrev BindsBy (x qual : Str) (params : Arguments) (body : List Stmt) (scope : Scope) (ps : List Str) : Prop :=
  ∀ (kV doc pm : Value) (an : Option Addr) (cdv ct : Value) (us : List Value), us.length = ps.length → bindArgs (PySem.W.fnOf x qual params body scope .none kV doc pm an cdv ct) ⟨us, []⟩ = pure (ps.zip us)
theorem has_of (F : ∃ fd, FunD K x qual params body scope [] [] f fd) (S : FnScope N ps scope) (hb : BindsBy x qual params body scope ps) (len : ∀ vs H Q E, sp vs H Q E → vs.length = ps.length)
    (hbody : ∀ (cdv : Value) (A : Around) (outer : List Env) (s : Shared) (H : Hp) (vs : List V) (Q : VK) (E : XK), Room k (A.deeper (envOfC qual scope s.heap.objs.size f cdv)) → sp vs H Q E →
      ∃ t, PSs (cxOf (L2.CX P w) P w K mg base N qual scope f cdv A outer s H E) body t ∧ t { nx := fun _ H' => Q .non H', rt := Q } (L2.start N vs) H) : Has P w K mg base (k + 1) f ps sp := by
  obtain ⟨fd, F⟩ := F
  exact ⟨⟨fd, F.ok S len hbody, F.bindsN hb⟩, F.kp⟩
end
section
variable {X : Cx} {k : Nat} {f C : Addr} {ps : List Str} {sp : Sp} {E : XK} {x m : Str} {p pos apos : Pos} {e o : Expr} {es : List Expr} {ta : TE} {t : TA}
theorem pcall (h : Has X.prog X.w X.K X.mg X.base k f ps sp) (hr : Room k X.A) (hm : X.mg x = some (.ref f)) (ha : PA X (e :: es) t) (hg : Gl X x := by rfl)
    (hdb : (x == ("__debug__" : Str)) = false := by decide) (he : starEach (e :: es) X.env = (false, eval e X.env) :: starEach es X.env := by rfl) (hpl : (backTo pos (starEach es X.env)).any (·.1) = false := by rfl) :
    PE X (.Call (.Name x p) (e :: es) [] pos) (tCall sp [] E0 t) := by
  obtain ⟨⟨fd, F, b⟩, kp⟩ := h
  exact pe_call F hr hg hm kp b .nil passL ha hdb he hpl
/-- .. that may raise -/
theorem pcallX (h : Has X.prog X.w X.K X.mg X.base k f ps sp) (hr : Room k X.A) (hm : X.mg x = some (.ref f)) (hx : Passes (L2.CX X.prog X.w) X E) (ha : PA X (e :: es) t) (hg : Gl X x := by rfl)
    (hdb : (x == ("__debug__" : Str)) = false := by decide) (he : starEach (e :: es) X.env = (false, eval e X.env) :: starEach es X.env := by rfl) (hpl : (backTo pos (starEach es X.env)).any (·.1) = false := by rfl) :
    PE X (.Call (.Name x p) (e :: es) [] pos) (tCall sp [] E t) := by
  obtain ⟨⟨fd, F, b⟩, kp⟩ := h
  exact pe_call F hr hg hm kp b .nil hx ha hdb he hpl
/-- .. in a try's body -/
theorem pcallS {E : L2.St → XK} (h : Has X.prog X.w X.K X.mg X.base k f ps sp) (hr : Room k X.A) (hm : X.mg x = some (.ref f)) (hx : ∀ σ, PassesAt (L2.CX X.prog X.w) X σ (E σ)) (ha : PA X (e :: es) t) (hg : Gl X x := by rfl)
    (hdb : (x == ("__debug__" : Str)) = false := by decide) (he : starEach (e :: es) X.env = (false, eval e X.env) :: starEach es X.env := by rfl) (hpl : (backTo pos (starEach es X.env)).any (·.1) = false := by rfl) :
    PE X (.Call (.Name x p) (e :: es) [] pos) (tCallS sp E t) := by
  obtain ⟨⟨fd, F, b⟩, kp⟩ := h
  exact pe_callS F hr hg hm kp b hx ha hdb he hpl
theorem pmeth (h : Has X.prog X.w X.K X.mg X.base k f ps sp) (c : Cls X.K C) (hm : Meth X.K C m f) (hr : Room k X.A) (hx : Passes (L2.CX X.prog X.w) X E) (he : PE X o ta) (ha : PA X (e :: es) t) {pl : Sem Bool}
    (hst : starEach (e :: es) X.env = (false, eval e X.env) :: starEach es X.env := by rfl) (hpl : (backTo pos (starEach es X.env)).any (·.1) = false := by rfl)
    (ht : eval (.Call (.Attribute o m apos) (e :: es) [] pos) X.env = (do
      let ov ← eval o X.env
      standAt apos.atName
      let r ← holding [ov] (getMethod ov m pl)
      callWith pos r.1 r.2 (backTo pos (starEach (e :: es) X.env)) (backToKw pos (keywordEach [] X.env))) := by rfl) :
    PE X (.Call (.Attribute o m apos) (e :: es) [] pos) (tMeth C m sp [] E ta t) := by
  obtain ⟨⟨fd, F, b⟩, kp⟩ := h
  exact pe_meth he c hm F hr b .nil hx ha hst hpl ht
theorem pmeth0 (h : Has X.prog X.w X.K X.mg X.base k f ps sp) (c : Cls X.K C) (hm : Meth X.K C m f) (hr : Room k X.A) (hx : Passes (L2.CX X.prog X.w) X E) (he : PE X o ta) {pl : Sem Bool}
    (ht : eval (.Call (.Attribute o m apos) [] [] pos) X.env = (do
      let ov ← eval o X.env
      standAt apos.atName
      let r ← holding [ov] (getMethod ov m pl)
      callWith pos r.1 r.2 (backTo pos (starEach [] X.env)) (backToKw pos (keywordEach [] X.env))) := by rfl) :
    PE X (.Call (.Attribute o m apos) [] [] pos) (tMeth C m sp [] E ta tNil) := by
  obtain ⟨⟨fd, F, b⟩, kp⟩ := h
  exact pe_meth0 he c hm F hr b .nil hx ht
theorem pmake (h : Has X.prog X.w X.K X.mg X.base k f ps sp) (M : Mk X.K C f) (hr : Room (k + 1) X.A) (hm : X.mg x = some (.ref C)) (hx : Passes (L2.CX X.prog X.w) X E) (ha : PA X (e :: es) t) (hg : Gl X x := by rfl)
    (hdb : (x == ("__debug__" : Str)) = false := by decide) (he : starEach (e :: es) X.env = (false, eval e X.env) :: starEach es X.env := by rfl) (hpl : (backTo pos (starEach es X.env)).any (·.1) = false := by rfl) :
    PE X (.Call (.Name x p) (e :: es) [] pos) (tMake C sp [] E t) := by
  obtain ⟨⟨fd, F, b⟩, kp⟩ := h
  exact pe_make M F hr hg hm b .nil hx ha hdb he hpl
/-- an own exception is raised -/
theorem praise {W : WX} {pos2 : Pos} {ta : TA} (h : Has X.prog X.w X.K X.mg X.base k f ps sp) (hc : X.calm = true) (tk : Takes X W) (T : OexC X.K C) (iC : PySem.W.findIn X.K (.ref C) "__init__" = some (some (.ref f))) (tI : PySem.W.typeIn X.K (.ref f) = some (.type "function"))
    (hr : Room (k + 1) X.A) (hm : X.mg x = some (.ref C)) (ha : PA X (e :: es) ta) (hg : Gl X x := by rfl)
    (hdb : (x == ("__debug__" : Str)) = false := by decide) (he : starEach (e :: es) X.env = (false, eval e X.env) :: starEach es X.env := by rfl) (hpl : (backTo pos (starEach es X.env)).any (·.1) = false := by rfl) :
    PS X (.Raise (some (.Call (.Name x p) (e :: es) [] pos)) none pos2) (fun _ σ H => tMkO C sp [] ta σ H fun cls d H' => W cls d σ H') := by
  obtain ⟨⟨fd, F, b⟩, kp⟩ := h
  exact ps_raise hc tk (pmk_oex T iC tI F hr b .nil passL hg hm ha hdb he hpl)
end
/-! ### operators, by names -/
def rAddI : R2 := fun x y H Q => ∃ i j, x = .int i ∧ y = .int j ∧ Q (.int (i + j)) H
def rSubI : R2 := fun x y H Q => ∃ i j, x = .int i ∧ y = .int j ∧ Q (.int (i - j)) H
def rMulI : R2 := fun x y H Q => ∃ i j, x = .int i ∧ y = .int j ∧ CMul i j ∧ Q (.int (i * j)) H
def rModI : R2 := fun x y H Q => ∃ i j, x = .int i ∧ y = .int j ∧ 0 < j ∧ Q (.int (i % j)) H
def rDivI : R2 := fun x y H Q => ∃ i j, x = .int i ∧ y = .int j ∧ CDiv i j ∧ Q (.int (i / j)) H
def rPowI : R2 := fun x y H Q => ∃ i j, x = .int i ∧ y = .int j ∧ CPow i j ∧ Q (.int (i ^ j.toNat)) H
def rLtI : R2 := fun x y H Q => ∃ i j, x = .int i ∧ y = .int j ∧ Q (.bl (decide (i < j))) H
def rLeI : R2 := fun x y H Q => ∃ i j, x = .int i ∧ y = .int j ∧ Q (.bl (decide (i ≤ j))) H
def rGtI : R2 := fun x y H Q => ∃ i j, x = .int i ∧ y = .int j ∧ Q (.bl (decide (j < i))) H
def rGeI : R2 := fun x y H Q => ∃ i j, x = .int i ∧ y = .int j ∧ Q (.bl (decide (j ≤ i))) H
def rAddS : R2 := fun x y H Q => ∃ i j, x = .str i ∧ y = .str j ∧ i.length + j.length ≤ sizeLine ∧ Q (.str (i ++ j)) H
def rIsNo : R2 := fun x y H Q => y = .non ∧ Q (.bl (decide (x = .non))) H
def rNoNo : R2 := fun x y H Q => y = .non ∧ Q (.bl (!decide (x = .non))) H
def rInSg : R2 := fun x y H Q => ∃ (c : Nat) (z : Str), x = .str ⟨#[c]⟩ ∧ y = .str z ∧ Q (.bl (decide (c ∈ z.cps.toList))) H
def rNiSg : R2 := fun x y H Q => ∃ (c : Nat) (z : Str), x = .str ⟨#[c]⟩ ∧ y = .str z ∧ Q (.bl (!decide (c ∈ z.cps.toList))) H
def rRepS : R2 := fun x y H Q => ∃ (z : Str) (k : Int), x = .str z ∧ y = .int k ∧ 2 ≤ k ∧ k ≤ 1000 ∧ z.length ≤ 1000 ∧ 1 ≤ z.length ∧ Q (.str ⟨((List.replicate k.toNat z.cps.toList).flatten).toArray⟩) H
section
variable {X : Cx}
theorem oAddI : OpR X (binaryOp .Add) rAddI := op_add
theorem oSubI : OpR X (binaryOp .Sub) rSubI := op_sub
theorem oMulI : OpR X (binaryOp .Mult) rMulI := op_mul
theorem oModI : OpR X (binaryOp .Mod) rModI := op_mod
theorem oDivI : OpR X (binaryOp .FloorDiv) rDivI := op_fdiv
theorem oPowI : OpR X (binaryOp .Pow) rPowI := op_pow
theorem oLtI : OpR X (compareOp .Lt) rLtI := op_lt
theorem oLeI : OpR X (compareOp .LtE) rLeI := op_le
theorem oGtI : OpR X (compareOp .Gt) rGtI := op_gt
theorem oGeI : OpR X (compareOp .GtE) rGeI := op_ge
theorem oAddS : OpR X (binaryOp .Add) rAddS := op_add_str
theorem oIsNo : OpR X (compareOp .Is) rIsNo := op_isN
theorem oNoNo : OpR X (compareOp .IsNot) rNoNo := op_notN
theorem oInSg : OpR X (compareOp .In) rInSg := op_in_sign
theorem oNiSg : OpR X (compareOp .NotIn) rNiSg := op_notIn_sign
theorem foldl_app {α : Type} (z : Array α) : ∀ (n : Nat) (acc : Array α), (List.replicate n z).foldl (· ++ ·) acc = (acc.toList ++ (List.replicate n z.toList).flatten).toArray
  | 0, acc => by simp
  | n + 1, acc => by
    rw [List.replicate_succ, List.foldl_cons, foldl_app z n]
    simp [List.replicate_succ]
theorem oRepS : OpR X (binaryOp .Mult) rRepS := by
  intro pins s σ H x y v u Q I rx ry h
  obtain ⟨z, k, rfl, rfl, h1, h2, h3, h4, q⟩ := h
  obtain ⟨t, rfl⟩ := rx
  obtain ⟨t2, rfl⟩ := ry
  have hm : z.length * k.toNat ≤ 1000 * 1000 := Nat.mul_le_mul h3 (by omega)
  have e1 : (k == 1 || z.length == 0) = false := by
    have a : ¬ k = 1 := by omega
    have b : ¬ z.length = 0 := by omega
    simp [a, b]
  refine PySem.P.mul_str ?_ (fun _ _ => ?_) (fun _ _ => ?_) ?_
  · have a : ¬ k < -(2 ^ 63 : Int) := by omega
    have b : ¬ k ≥ 2 ^ 63 := by omega
    rw [decide_eq_false a, decide_eq_false b]
    rfl
  · have c : (1000 : Int) ≤ (2 ^ 63 - 1) / k := by
      refine (Int.le_ediv_iff_mul_le (by omega)).mpr ?_
      omega
    omega
  · show decide (_ > sizeLine) = false
    have c : z.length * k.toNat ≤ sizeLine := Nat.le_trans hm (by decide)
    simpa using c
  · have h0 : ¬ k < 1 := by omega
    rw [if_neg h0, e1]
    simp only [Bool.false_eq_true, if_false]
    have ef : (List.replicate k.toNat z.cps).foldl (· ++ ·) #[] = ((List.replicate k.toNat z.cps.toList).flatten).toArray := by
      rw [foldl_app]
      simp
    rw [ef]
    refine ⟨?_, .str ⟨((List.replicate k.toNat z.cps.toList).flatten).toArray⟩, H, I.tok _, ⟨_, rfl⟩, q⟩
    show ((List.replicate k.toNat z.cps.toList).flatten).toArray.size ≤ sizeLine
    have el : ((List.replicate k.toNat z.cps.toList).flatten).length = k.toNat * z.length := by
      simp [List.length_flatten, Str.length]
    rw [List.size_toArray, el, Nat.mul_comm]
    exact Nat.le_trans hm (by decide)
end
end Sl
namespace K20
open PySem PySem.Spec
open PyProof.Rows L2 Sl
/-- what the top has left -/
structure Tx (K : PySem.W.Frag) (mg : Str → Option Value) : Prop where
  c : He.SaysD fa fn K
  ex : exF K = true
  at_ : ∃ h : Heap, K.In h ∧ h.Ns mainGlobals mg
section
variable {K : PySem.W.Frag} {mg : Str → Option Value} (T : Tx K mg)
include T
abbrev a_BadArgument_init (K : PySem.W.Frag) : Addr := He.fAd K ("BadArgument", some "__init__")
theorem f_BadArgument_init : ∃ fd, FunD K "__init__" "BadArgument.__init__" (defArgs s_BadArgument_init) (defBody s_BadArgument_init) (defScope s_BadArgument_init) [] [] (a_BadArgument_init K) fd := T.c.def_ 0 (d := d_BadArgument_init) rfl
theorem z_BadArgument_init : FnScope n_BadArgument_init p_BadArgument_init (defScope s_BadArgument_init) := ⟨rfl, rfl, rfl, by decide +kernel, rfl, by decide +kernel, by decide +kernel⟩
theorem b_BadArgument_init : BindsBy "__init__" "BadArgument.__init__" (defArgs s_BadArgument_init) (defBody s_BadArgument_init) (defScope s_BadArgument_init) p_BadArgument_init := fun _ _ _ _ _ _ us hl => match us, hl with | [_, _], _ => rfl
abbrev a_Flaw_init (K : PySem.W.Frag) : Addr := He.fAd K ("Flaw", some "__init__")
theorem f_Flaw_init : ∃ fd, FunD K "__init__" "Flaw.__init__" (defArgs s_Flaw_init) (defBody s_Flaw_init) (defScope s_Flaw_init) [] [] (a_Flaw_init K) fd := T.c.def_ 1 (d := d_Flaw_init) rfl
theorem z_Flaw_init : FnScope n_Flaw_init p_Flaw_init (defScope s_Flaw_init) := ⟨rfl, rfl, rfl, by decide +kernel, rfl, by decide +kernel, by decide +kernel⟩
theorem b_Flaw_init : BindsBy "__init__" "Flaw.__init__" (defArgs s_Flaw_init) (defBody s_Flaw_init) (defScope s_Flaw_init) p_Flaw_init := fun _ _ _ _ _ _ us hl => match us, hl with | [_, _, _], _ => rfl
abbrev a_Reader_init (K : PySem.W.Frag) : Addr := He.fAd K ("Reader", some "__init__")
theorem f_Reader_init : ∃ fd, FunD K "__init__" "Reader.__init__" (defArgs s_Reader_init) (defBody s_Reader_init) (defScope s_Reader_init) [] [] (a_Reader_init K) fd := T.c.def_ 2 (d := d_Reader_init) rfl
theorem z_Reader_init : FnScope n_Reader_init p_Reader_init (defScope s_Reader_init) := ⟨rfl, rfl, rfl, by decide +kernel, rfl, by decide +kernel, by decide +kernel⟩
theorem b_Reader_init : BindsBy "__init__" "Reader.__init__" (defArgs s_Reader_init) (defBody s_Reader_init) (defScope s_Reader_init) p_Reader_init := fun _ _ _ _ _ _ us hl => match us, hl with | [_, _], _ => rfl
abbrev a_Reader_sign (K : PySem.W.Frag) : Addr := He.fAd K ("Reader", some "sign")
theorem f_Reader_sign : ∃ fd, FunD K "sign" "Reader.sign" (defArgs s_Reader_sign) (defBody s_Reader_sign) (defScope s_Reader_sign) [] [] (a_Reader_sign K) fd := T.c.def_ 3 (d := d_Reader_sign) rfl
theorem z_Reader_sign : FnScope n_Reader_sign p_Reader_sign (defScope s_Reader_sign) := ⟨rfl, rfl, rfl, by decide +kernel, rfl, by decide +kernel, by decide +kernel⟩
theorem b_Reader_sign : BindsBy "sign" "Reader.sign" (defArgs s_Reader_sign) (defBody s_Reader_sign) (defScope s_Reader_sign) p_Reader_sign := fun _ _ _ _ _ _ us hl => match us, hl with | [_], _ => rfl
abbrev a_Reader_refuse (K : PySem.W.Frag) : Addr := He.fAd K ("Reader", some "refuse")
theorem f_Reader_refuse : ∃ fd, FunD K "refuse" "Reader.refuse" (defArgs s_Reader_refuse) (defBody s_Reader_refuse) (defScope s_Reader_refuse) [] [] (a_Reader_refuse K) fd := T.c.def_ 4 (d := d_Reader_refuse) rfl
theorem z_Reader_refuse : FnScope n_Reader_refuse p_Reader_refuse (defScope s_Reader_refuse) := ⟨rfl, rfl, rfl, by decide +kernel, rfl, by decide +kernel, by decide +kernel⟩
theorem b_Reader_refuse : BindsBy "refuse" "Reader.refuse" (defArgs s_Reader_refuse) (defBody s_Reader_refuse) (defScope s_Reader_refuse) p_Reader_refuse := fun _ _ _ _ _ _ us hl => match us, hl with | [_, _], _ => rfl
abbrev a_Reader_is_next (K : PySem.W.Frag) : Addr := He.fAd K ("Reader", some "is_next")
theorem f_Reader_is_next : ∃ fd, FunD K "is_next" "Reader.is_next" (defArgs s_Reader_is_next) (defBody s_Reader_is_next) (defScope s_Reader_is_next) [] [] (a_Reader_is_next K) fd := T.c.def_ 5 (d := d_Reader_is_next) rfl
theorem z_Reader_is_next : FnScope n_Reader_is_next p_Reader_is_next (defScope s_Reader_is_next) := ⟨rfl, rfl, rfl, by decide +kernel, rfl, by decide +kernel, by decide +kernel⟩
theorem b_Reader_is_next : BindsBy "is_next" "Reader.is_next" (defArgs s_Reader_is_next) (defBody s_Reader_is_next) (defScope s_Reader_is_next) p_Reader_is_next := fun _ _ _ _ _ _ us hl => match us, hl with | [_, _], _ => rfl
abbrev a_Reader_expect (K : PySem.W.Frag) : Addr := He.fAd K ("Reader", some "expect")
theorem f_Reader_expect : ∃ fd, FunD K "expect" "Reader.expect" (defArgs s_Reader_expect) (defBody s_Reader_expect) (defScope s_Reader_expect) [] [] (a_Reader_expect K) fd := T.c.def_ 6 (d := d_Reader_expect) rfl
theorem z_Reader_expect : FnScope n_Reader_expect p_Reader_expect (defScope s_Reader_expect) := ⟨rfl, rfl, rfl, by decide +kernel, rfl, by decide +kernel, by decide +kernel⟩
theorem b_Reader_expect : BindsBy "expect" "Reader.expect" (defArgs s_Reader_expect) (defBody s_Reader_expect) (defScope s_Reader_expect) p_Reader_expect := fun _ _ _ _ _ _ us hl => match us, hl with | [_, _, _], _ => rfl
abbrev a_Reader_number_told (K : PySem.W.Frag) : Addr := He.fAd K ("Reader", some "number_told")
theorem f_Reader_number_told : ∃ fd, FunD K "number_told" "Reader.number_told" (defArgs s_Reader_number_told) (defBody s_Reader_number_told) (defScope s_Reader_number_told) [] [] (a_Reader_number_told K) fd := T.c.def_ 7 (d := d_Reader_number_told) rfl
theorem z_Reader_number_told : FnScope n_Reader_number_told p_Reader_number_told (defScope s_Reader_number_told) := ⟨rfl, rfl, rfl, by decide +kernel, rfl, by decide +kernel, by decide +kernel⟩
theorem b_Reader_number_told : BindsBy "number_told" "Reader.number_told" (defArgs s_Reader_number_told) (defBody s_Reader_number_told) (defScope s_Reader_number_told) p_Reader_number_told := fun _ _ _ _ _ _ us hl => match us, hl with | [_], _ => rfl
abbrev a_Reader_book (K : PySem.W.Frag) : Addr := He.fAd K ("Reader", some "book")
theorem f_Reader_book : ∃ fd, FunD K "book" "Reader.book" (defArgs s_Reader_book) (defBody s_Reader_book) (defScope s_Reader_book) [] [] (a_Reader_book K) fd := T.c.def_ 8 (d := d_Reader_book) rfl
theorem z_Reader_book : FnScope n_Reader_book p_Reader_book (defScope s_Reader_book) := ⟨rfl, rfl, rfl, by decide +kernel, rfl, by decide +kernel, by decide +kernel⟩
theorem b_Reader_book : BindsBy "book" "Reader.book" (defArgs s_Reader_book) (defBody s_Reader_book) (defScope s_Reader_book) p_Reader_book := fun _ _ _ _ _ _ us hl => match us, hl with | [_], _ => rfl
abbrev a_Reader_line_told (K : PySem.W.Frag) : Addr := He.fAd K ("Reader", some "line_told")
theorem f_Reader_line_told : ∃ fd, FunD K "line_told" "Reader.line_told" (defArgs s_Reader_line_told) (defBody s_Reader_line_told) (defScope s_Reader_line_told) [] [] (a_Reader_line_told K) fd := T.c.def_ 9 (d := d_Reader_line_told) rfl
theorem z_Reader_line_told : FnScope n_Reader_line_told p_Reader_line_told (defScope s_Reader_line_told) := ⟨rfl, rfl, rfl, by decide +kernel, rfl, by decide +kernel, by decide +kernel⟩
theorem b_Reader_line_told : BindsBy "line_told" "Reader.line_told" (defArgs s_Reader_line_told) (defBody s_Reader_line_told) (defScope s_Reader_line_told) p_Reader_line_told := fun _ _ _ _ _ _ us hl => match us, hl with | [_], _ => rfl
abbrev a_Reader_nest (K : PySem.W.Frag) : Addr := He.fAd K ("Reader", some "nest")
theorem f_Reader_nest : ∃ fd, FunD K "nest" "Reader.nest" (defArgs s_Reader_nest) (defBody s_Reader_nest) (defScope s_Reader_nest) [] [] (a_Reader_nest K) fd := T.c.def_ 10 (d := d_Reader_nest) rfl
theorem z_Reader_nest : FnScope n_Reader_nest p_Reader_nest (defScope s_Reader_nest) := ⟨rfl, rfl, rfl, by decide +kernel, rfl, by decide +kernel, by decide +kernel⟩
theorem b_Reader_nest : BindsBy "nest" "Reader.nest" (defArgs s_Reader_nest) (defBody s_Reader_nest) (defScope s_Reader_nest) p_Reader_nest := fun _ _ _ _ _ _ us hl => match us, hl with | [_], _ => rfl
abbrev a_Reader_item (K : PySem.W.Frag) : Addr := He.fAd K ("Reader", some "item")
theorem f_Reader_item : ∃ fd, FunD K "item" "Reader.item" (defArgs s_Reader_item) (defBody s_Reader_item) (defScope s_Reader_item) [] [] (a_Reader_item K) fd := T.c.def_ 11 (d := d_Reader_item) rfl
theorem z_Reader_item : FnScope n_Reader_item p_Reader_item (defScope s_Reader_item) := ⟨rfl, rfl, rfl, by decide +kernel, rfl, by decide +kernel, by decide +kernel⟩
theorem b_Reader_item : BindsBy "item" "Reader.item" (defArgs s_Reader_item) (defBody s_Reader_item) (defScope s_Reader_item) p_Reader_item := fun _ _ _ _ _ _ us hl => match us, hl with | [_], _ => rfl
abbrev a_Reader_atom (K : PySem.W.Frag) : Addr := He.fAd K ("Reader", some "atom")
theorem f_Reader_atom : ∃ fd, FunD K "atom" "Reader.atom" (defArgs s_Reader_atom) (defBody s_Reader_atom) (defScope s_Reader_atom) [] [] (a_Reader_atom K) fd := T.c.def_ 12 (d := d_Reader_atom) rfl
theorem z_Reader_atom : FnScope n_Reader_atom p_Reader_atom (defScope s_Reader_atom) := ⟨rfl, rfl, rfl, by decide +kernel, rfl, by decide +kernel, by decide +kernel⟩
theorem b_Reader_atom : BindsBy "atom" "Reader.atom" (defArgs s_Reader_atom) (defBody s_Reader_atom) (defScope s_Reader_atom) p_Reader_atom := fun _ _ _ _ _ _ us hl => match us, hl with | [_], _ => rfl
abbrev a_Reader_brackets (K : PySem.W.Frag) : Addr := He.fAd K ("Reader", some "brackets")
theorem f_Reader_brackets : ∃ fd, FunD K "brackets" "Reader.brackets" (defArgs s_Reader_brackets) (defBody s_Reader_brackets) (defScope s_Reader_brackets) [] [] (a_Reader_brackets K) fd := T.c.def_ 13 (d := d_Reader_brackets) rfl
theorem z_Reader_brackets : FnScope n_Reader_brackets p_Reader_brackets (defScope s_Reader_brackets) := ⟨rfl, rfl, rfl, by decide +kernel, rfl, by decide +kernel, by decide +kernel⟩
theorem b_Reader_brackets : BindsBy "brackets" "Reader.brackets" (defArgs s_Reader_brackets) (defBody s_Reader_brackets) (defScope s_Reader_brackets) p_Reader_brackets := fun _ _ _ _ _ _ us hl => match us, hl with | [_, _], _ => rfl
abbrev a_Reader_order (K : PySem.W.Frag) : Addr := He.fAd K ("Reader", some "order")
theorem f_Reader_order : ∃ fd, FunD K "order" "Reader.order" (defArgs s_Reader_order) (defBody s_Reader_order) (defScope s_Reader_order) [] [] (a_Reader_order K) fd := T.c.def_ 14 (d := d_Reader_order) rfl
theorem z_Reader_order : FnScope n_Reader_order p_Reader_order (defScope s_Reader_order) := ⟨rfl, rfl, rfl, by decide +kernel, rfl, by decide +kernel, by decide +kernel⟩
theorem b_Reader_order : BindsBy "order" "Reader.order" (defArgs s_Reader_order) (defBody s_Reader_order) (defScope s_Reader_order) p_Reader_order := fun _ _ _ _ _ _ us hl => match us, hl with | [_], _ => rfl
abbrev a_Reader_inner (K : PySem.W.Frag) : Addr := He.fAd K ("Reader", some "inner")
theorem f_Reader_inner : ∃ fd, FunD K "inner" "Reader.inner" (defArgs s_Reader_inner) (defBody s_Reader_inner) (defScope s_Reader_inner) [] [] (a_Reader_inner K) fd := T.c.def_ 15 (d := d_Reader_inner) rfl
theorem z_Reader_inner : FnScope n_Reader_inner p_Reader_inner (defScope s_Reader_inner) := ⟨rfl, rfl, rfl, by decide +kernel, rfl, by decide +kernel, by decide +kernel⟩
theorem b_Reader_inner : BindsBy "inner" "Reader.inner" (defArgs s_Reader_inner) (defBody s_Reader_inner) (defScope s_Reader_inner) p_Reader_inner := fun _ _ _ _ _ _ us hl => match us, hl with | [_], _ => rfl
abbrev a_Reader_ground (K : PySem.W.Frag) : Addr := He.fAd K ("Reader", some "ground")
theorem f_Reader_ground : ∃ fd, FunD K "ground" "Reader.ground" (defArgs s_Reader_ground) (defBody s_Reader_ground) (defScope s_Reader_ground) [] [] (a_Reader_ground K) fd := T.c.def_ 16 (d := d_Reader_ground) rfl
theorem z_Reader_ground : FnScope n_Reader_ground p_Reader_ground (defScope s_Reader_ground) := ⟨rfl, rfl, rfl, by decide +kernel, rfl, by decide +kernel, by decide +kernel⟩
theorem b_Reader_ground : BindsBy "ground" "Reader.ground" (defArgs s_Reader_ground) (defBody s_Reader_ground) (defScope s_Reader_ground) p_Reader_ground := fun _ _ _ _ _ _ us hl => match us, hl with | [_], _ => rfl
abbrev a_Reader_filled (K : PySem.W.Frag) : Addr := He.fAd K ("Reader", some "filled")
theorem f_Reader_filled : ∃ fd, FunD K "filled" "Reader.filled" (defArgs s_Reader_filled) (defBody s_Reader_filled) (defScope s_Reader_filled) [] [] (a_Reader_filled K) fd := T.c.def_ 17 (d := d_Reader_filled) rfl
theorem z_Reader_filled : FnScope n_Reader_filled p_Reader_filled (defScope s_Reader_filled) := ⟨rfl, rfl, rfl, by decide +kernel, rfl, by decide +kernel, by decide +kernel⟩
theorem b_Reader_filled : BindsBy "filled" "Reader.filled" (defArgs s_Reader_filled) (defBody s_Reader_filled) (defScope s_Reader_filled) p_Reader_filled := fun _ _ _ _ _ _ us hl => match us, hl with | [_, _], _ => rfl
abbrev a_lines_of (K : PySem.W.Frag) : Addr := He.fAd K ("lines_of", none)
theorem f_lines_of : ∃ fd, FunD K "lines_of" "lines_of" (defArgs s_lines_of) (defBody s_lines_of) (defScope s_lines_of) [] [] (a_lines_of K) fd := T.c.def_ 18 (d := d_lines_of) rfl
theorem z_lines_of : FnScope n_lines_of p_lines_of (defScope s_lines_of) := ⟨rfl, rfl, rfl, by decide +kernel, rfl, by decide +kernel, by decide +kernel⟩
theorem b_lines_of : BindsBy "lines_of" "lines_of" (defArgs s_lines_of) (defBody s_lines_of) (defScope s_lines_of) p_lines_of := fun _ _ _ _ _ _ us hl => match us, hl with | [_], _ => rfl
abbrev a_is_text (K : PySem.W.Frag) : Addr := He.fAd K ("is_text", none)
theorem f_is_text : ∃ fd, FunD K "is_text" "is_text" (defArgs s_is_text) (defBody s_is_text) (defScope s_is_text) [] [] (a_is_text K) fd := T.c.def_ 19 (d := d_is_text) rfl
theorem z_is_text : FnScope n_is_text p_is_text (defScope s_is_text) := ⟨rfl, rfl, rfl, by decide +kernel, rfl, by decide +kernel, by decide +kernel⟩
theorem b_is_text : BindsBy "is_text" "is_text" (defArgs s_is_text) (defBody s_is_text) (defScope s_is_text) p_is_text := fun _ _ _ _ _ _ us hl => match us, hl with | [_], _ => rfl
abbrev a_need (K : PySem.W.Frag) : Addr := He.fAd K ("need", none)
theorem f_need : ∃ fd, FunD K "need" "need" (defArgs s_need) (defBody s_need) (defScope s_need) [] [] (a_need K) fd := T.c.def_ 20 (d := d_need) rfl
theorem z_need : FnScope n_need p_need (defScope s_need) := ⟨rfl, rfl, rfl, by decide +kernel, rfl, by decide +kernel, by decide +kernel⟩
theorem b_need : BindsBy "need" "need" (defArgs s_need) (defBody s_need) (defScope s_need) p_need := fun _ _ _ _ _ _ us hl => match us, hl with | [_, _], _ => rfl
abbrev a_book_flaw (K : PySem.W.Frag) : Addr := He.fAd K ("book_flaw", none)
theorem f_book_flaw : ∃ fd, FunD K "book_flaw" "book_flaw" (defArgs s_book_flaw) (defBody s_book_flaw) (defScope s_book_flaw) [] [] (a_book_flaw K) fd := T.c.def_ 21 (d := d_book_flaw) rfl
theorem z_book_flaw : FnScope n_book_flaw p_book_flaw (defScope s_book_flaw) := ⟨rfl, rfl, rfl, by decide +kernel, rfl, by decide +kernel, by decide +kernel⟩
theorem b_book_flaw : BindsBy "book_flaw" "book_flaw" (defArgs s_book_flaw) (defBody s_book_flaw) (defScope s_book_flaw) p_book_flaw := fun _ _ _ _ _ _ us hl => match us, hl with | [_], _ => rfl
abbrev a_strength (K : PySem.W.Frag) : Addr := He.fAd K ("strength", none)
theorem f_strength : ∃ fd, FunD K "strength" "strength" (defArgs s_strength) (defBody s_strength) (defScope s_strength) [] [] (a_strength K) fd := T.c.def_ 22 (d := d_strength) rfl
theorem z_strength : FnScope n_strength p_strength (defScope s_strength) := ⟨rfl, rfl, rfl, by decide +kernel, rfl, by decide +kernel, by decide +kernel⟩
theorem b_strength : BindsBy "strength" "strength" (defArgs s_strength) (defBody s_strength) (defScope s_strength) p_strength := fun _ _ _ _ _ _ us hl => match us, hl with | [_], _ => rfl
abbrev a_at_least (K : PySem.W.Frag) : Addr := He.fAd K ("at_least", none)
theorem f_at_least : ∃ fd, FunD K "at_least" "at_least" (defArgs s_at_least) (defBody s_at_least) (defScope s_at_least) [] [] (a_at_least K) fd := T.c.def_ 23 (d := d_at_least) rfl
theorem z_at_least : FnScope n_at_least p_at_least (defScope s_at_least) := ⟨rfl, rfl, rfl, by decide +kernel, rfl, by decide +kernel, by decide +kernel⟩
theorem b_at_least : BindsBy "at_least" "at_least" (defArgs s_at_least) (defBody s_at_least) (defScope s_at_least) p_at_least := fun _ _ _ _ _ _ us hl => match us, hl with | [_, _], _ => rfl
abbrev a_plain_tree (K : PySem.W.Frag) : Addr := He.fAd K ("plain_tree", none)
theorem f_plain_tree : ∃ fd, FunD K "plain_tree" "plain_tree" (defArgs s_plain_tree) (defBody s_plain_tree) (defScope s_plain_tree) [] [] (a_plain_tree K) fd := T.c.def_ 24 (d := d_plain_tree) rfl
theorem z_plain_tree : FnScope n_plain_tree p_plain_tree (defScope s_plain_tree) := ⟨rfl, rfl, rfl, by decide +kernel, rfl, by decide +kernel, by decide +kernel⟩
theorem b_plain_tree : BindsBy "plain_tree" "plain_tree" (defArgs s_plain_tree) (defBody s_plain_tree) (defScope s_plain_tree) p_plain_tree := fun _ _ _ _ _ _ us hl => match us, hl with | [_], _ => rfl
abbrev a_plain_book (K : PySem.W.Frag) : Addr := He.fAd K ("plain_book", none)
theorem f_plain_book : ∃ fd, FunD K "plain_book" "plain_book" (defArgs s_plain_book) (defBody s_plain_book) (defScope s_plain_book) [] [] (a_plain_book K) fd := T.c.def_ 25 (d := d_plain_book) rfl
theorem z_plain_book : FnScope n_plain_book p_plain_book (defScope s_plain_book) := ⟨rfl, rfl, rfl, by decide +kernel, rfl, by decide +kernel, by decide +kernel⟩
theorem b_plain_book : BindsBy "plain_book" "plain_book" (defArgs s_plain_book) (defBody s_plain_book) (defScope s_plain_book) p_plain_book := fun _ _ _ _ _ _ us hl => match us, hl with | [_], _ => rfl
abbrev a__law_taken (K : PySem.W.Frag) : Addr := He.fAd K ("_law_taken", none)
theorem f__law_taken : ∃ fd, FunD K "_law_taken" "_law_taken" (defArgs s__law_taken) (defBody s__law_taken) (defScope s__law_taken) [] [] (a__law_taken K) fd := T.c.def_ 26 (d := d__law_taken) rfl
theorem z__law_taken : FnScope n__law_taken p__law_taken (defScope s__law_taken) := ⟨rfl, rfl, rfl, by decide +kernel, rfl, by decide +kernel, by decide +kernel⟩
theorem b__law_taken : BindsBy "_law_taken" "_law_taken" (defArgs s__law_taken) (defBody s__law_taken) (defScope s__law_taken) p__law_taken := fun _ _ _ _ _ _ us hl => match us, hl with | [_, _], _ => rfl
abbrev a__law_pick (K : PySem.W.Frag) : Addr := He.fAd K ("_law_pick", none)
theorem f__law_pick : ∃ fd, FunD K "_law_pick" "_law_pick" (defArgs s__law_pick) (defBody s__law_pick) (defScope s__law_pick) [] [] (a__law_pick K) fd := T.c.def_ 27 (d := d__law_pick) rfl
theorem z__law_pick : FnScope n__law_pick p__law_pick (defScope s__law_pick) := ⟨rfl, rfl, rfl, by decide +kernel, rfl, by decide +kernel, by decide +kernel⟩
theorem b__law_pick : BindsBy "_law_pick" "_law_pick" (defArgs s__law_pick) (defBody s__law_pick) (defScope s__law_pick) p__law_pick := fun _ _ _ _ _ _ us hl => match us, hl with | [_, _], _ => rfl
abbrev a__law_refused (K : PySem.W.Frag) : Addr := He.fAd K ("_law_refused", none)
theorem f__law_refused : ∃ fd, FunD K "_law_refused" "_law_refused" (defArgs s__law_refused) (defBody s__law_refused) (defScope s__law_refused) [] [] (a__law_refused K) fd := T.c.def_ 28 (d := d__law_refused) rfl
theorem z__law_refused : FnScope n__law_refused p__law_refused (defScope s__law_refused) := ⟨rfl, rfl, rfl, by decide +kernel, rfl, by decide +kernel, by decide +kernel⟩
theorem b__law_refused : BindsBy "_law_refused" "_law_refused" (defArgs s__law_refused) (defBody s__law_refused) (defScope s__law_refused) p__law_refused := fun _ _ _ _ _ _ us hl => match us, hl with | [_], _ => rfl
abbrev a__law_alike (K : PySem.W.Frag) : Addr := He.fAd K ("_law_alike", none)
theorem f__law_alike : ∃ fd, FunD K "_law_alike" "_law_alike" (defArgs s__law_alike) (defBody s__law_alike) (defScope s__law_alike) [] [] (a__law_alike K) fd := T.c.def_ 29 (d := d__law_alike) rfl
theorem z__law_alike : FnScope n__law_alike p__law_alike (defScope s__law_alike) := ⟨rfl, rfl, rfl, by decide +kernel, rfl, by decide +kernel, by decide +kernel⟩
theorem b__law_alike : BindsBy "_law_alike" "_law_alike" (defArgs s__law_alike) (defBody s__law_alike) (defScope s__law_alike) p__law_alike := fun _ _ _ _ _ _ us hl => match us, hl with | [_, _], _ => rfl
abbrev a__law_nest (K : PySem.W.Frag) : Addr := He.fAd K ("_law_nest", none)
theorem f__law_nest : ∃ fd, FunD K "_law_nest" "_law_nest" (defArgs s__law_nest) (defBody s__law_nest) (defScope s__law_nest) [] [] (a__law_nest K) fd := T.c.def_ 30 (d := d__law_nest) rfl
theorem z__law_nest : FnScope n__law_nest p__law_nest (defScope s__law_nest) := ⟨rfl, rfl, rfl, by decide +kernel, rfl, by decide +kernel, by decide +kernel⟩
theorem b__law_nest : BindsBy "_law_nest" "_law_nest" (defArgs s__law_nest) (defBody s__law_nest) (defScope s__law_nest) p__law_nest := fun _ _ _ _ _ _ us hl => match us, hl with | [_, _, _, _], _ => rfl
abbrev a__law_strength (K : PySem.W.Frag) : Addr := He.fAd K ("_law_strength", none)
theorem f__law_strength : ∃ fd, FunD K "_law_strength" "_law_strength" (defArgs s__law_strength) (defBody s__law_strength) (defScope s__law_strength) [] [] (a__law_strength K) fd := T.c.def_ 31 (d := d__law_strength) rfl
theorem z__law_strength : FnScope n__law_strength p__law_strength (defScope s__law_strength) := ⟨rfl, rfl, rfl, by decide +kernel, rfl, by decide +kernel, by decide +kernel⟩
theorem b__law_strength : BindsBy "_law_strength" "_law_strength" (defArgs s__law_strength) (defBody s__law_strength) (defScope s__law_strength) p__law_strength := fun _ _ _ _ _ _ us hl => match us, hl with | [_], _ => rfl
abbrev a__law_in (K : PySem.W.Frag) : Addr := He.fAd K ("_law_in", none)
theorem f__law_in : ∃ fd, FunD K "_law_in" "_law_in" (defArgs s__law_in) (defBody s__law_in) (defScope s__law_in) [] [] (a__law_in K) fd := T.c.def_ 32 (d := d__law_in) rfl
theorem z__law_in : FnScope n__law_in p__law_in (defScope s__law_in) := ⟨rfl, rfl, rfl, by decide +kernel, rfl, by decide +kernel, by decide +kernel⟩
theorem b__law_in : BindsBy "_law_in" "_law_in" (defArgs s__law_in) (defBody s__law_in) (defScope s__law_in) p__law_in := fun _ _ _ _ _ _ us hl => match us, hl with | [_, _, _], _ => rfl
abbrev a__law_written (K : PySem.W.Frag) : Addr := He.fAd K ("_law_written", none)
theorem f__law_written : ∃ fd, FunD K "_law_written" "_law_written" (defArgs s__law_written) (defBody s__law_written) (defScope s__law_written) [] [] (a__law_written K) fd := T.c.def_ 33 (d := d__law_written) rfl
theorem z__law_written : FnScope n__law_written p__law_written (defScope s__law_written) := ⟨rfl, rfl, rfl, by decide +kernel, rfl, by decide +kernel, by decide +kernel⟩
theorem b__law_written : BindsBy "_law_written" "_law_written" (defArgs s__law_written) (defBody s__law_written) (defScope s__law_written) p__law_written := fun _ _ _ _ _ _ us hl => match us, hl with | [_, _], _ => rfl
abbrev a__law_spoiled (K : PySem.W.Frag) : Addr := He.fAd K ("_law_spoiled", none)
theorem f__law_spoiled : ∃ fd, FunD K "_law_spoiled" "_law_spoiled" (defArgs s__law_spoiled) (defBody s__law_spoiled) (defScope s__law_spoiled) [] [] (a__law_spoiled K) fd := T.c.def_ 34 (d := d__law_spoiled) rfl
theorem z__law_spoiled : FnScope n__law_spoiled p__law_spoiled (defScope s__law_spoiled) := ⟨rfl, rfl, rfl, by decide +kernel, rfl, by decide +kernel, by decide +kernel⟩
theorem b__law_spoiled : BindsBy "_law_spoiled" "_law_spoiled" (defArgs s__law_spoiled) (defBody s__law_spoiled) (defScope s__law_spoiled) p__law_spoiled := fun _ _ _ _ _ _ us hl => match us, hl with | [_, _], _ => rfl
abbrev a__law_wanted (K : PySem.W.Frag) : Addr := He.fAd K ("_law_wanted", none)
theorem f__law_wanted : ∃ fd, FunD K "_law_wanted" "_law_wanted" (defArgs s__law_wanted) (defBody s__law_wanted) (defScope s__law_wanted) [] [] (a__law_wanted K) fd := T.c.def_ 35 (d := d__law_wanted) rfl
theorem z__law_wanted : FnScope n__law_wanted p__law_wanted (defScope s__law_wanted) := ⟨rfl, rfl, rfl, by decide +kernel, rfl, by decide +kernel, by decide +kernel⟩
theorem b__law_wanted : BindsBy "_law_wanted" "_law_wanted" (defArgs s__law_wanted) (defBody s__law_wanted) (defScope s__law_wanted) p__law_wanted := fun _ _ _ _ _ _ us hl => match us, hl with | [_, _, _, _, _], _ => rfl
abbrev a__law_number (K : PySem.W.Frag) : Addr := He.fAd K ("_law_number", none)
theorem f__law_number : ∃ fd, FunD K "_law_number" "_law_number" (defArgs s__law_number) (defBody s__law_number) (defScope s__law_number) [] [] (a__law_number K) fd := T.c.def_ 36 (d := d__law_number) rfl
theorem z__law_number : FnScope n__law_number p__law_number (defScope s__law_number) := ⟨rfl, rfl, rfl, by decide +kernel, rfl, by decide +kernel, by decide +kernel⟩
theorem b__law_number : BindsBy "_law_number" "_law_number" (defArgs s__law_number) (defBody s__law_number) (defScope s__law_number) p__law_number := fun _ _ _ _ _ _ us hl => match us, hl with | [_, _], _ => rfl
abbrev a__law_flaw (K : PySem.W.Frag) : Addr := He.fAd K ("_law_flaw", none)
theorem f__law_flaw : ∃ fd, FunD K "_law_flaw" "_law_flaw" (defArgs s__law_flaw) (defBody s__law_flaw) (defScope s__law_flaw) [] [] (a__law_flaw K) fd := T.c.def_ 37 (d := d__law_flaw) rfl
theorem z__law_flaw : FnScope n__law_flaw p__law_flaw (defScope s__law_flaw) := ⟨rfl, rfl, rfl, by decide +kernel, rfl, by decide +kernel, by decide +kernel⟩
theorem b__law_flaw : BindsBy "_law_flaw" "_law_flaw" (defArgs s__law_flaw) (defBody s__law_flaw) (defScope s__law_flaw) p__law_flaw := fun _ _ _ _ _ _ us hl => match us, hl with | [_], _ => rfl
abbrev a_law (K : PySem.W.Frag) : Addr := He.fAd K ("law", none)
theorem f_law : ∃ fd, FunD K "law" "law" (defArgs s_law) (defBody s_law) (defScope s_law) [] [] (a_law K) fd := T.c.def_ 38 (d := d_law) rfl
theorem z_law : FnScope n_law p_law (defScope s_law) := ⟨rfl, rfl, rfl, by decide +kernel, rfl, by decide +kernel, by decide +kernel⟩
theorem b_law : BindsBy "law" "law" (defArgs s_law) (defBody s_law) (defScope s_law) p_law := fun _ _ _ _ _ _ us hl => match us, hl with | [_], _ => rfl
theorem g_lines_of : mg "lines_of" = some (.ref (He.ga K "lines_of")) := let ⟨_, a, b⟩ := T.at_; He.glo_ok a b (T.c.fact 0 (f := .glo "lines_of") rfl)
theorem g_is_text : mg "is_text" = some (.ref (He.ga K "is_text")) := let ⟨_, a, b⟩ := T.at_; He.glo_ok a b (T.c.fact 1 (f := .glo "is_text") rfl)
theorem g_need : mg "need" = some (.ref (He.ga K "need")) := let ⟨_, a, b⟩ := T.at_; He.glo_ok a b (T.c.fact 2 (f := .glo "need") rfl)
theorem g_book_flaw : mg "book_flaw" = some (.ref (He.ga K "book_flaw")) := let ⟨_, a, b⟩ := T.at_; He.glo_ok a b (T.c.fact 3 (f := .glo "book_flaw") rfl)
theorem g_strength : mg "strength" = some (.ref (He.ga K "strength")) := let ⟨_, a, b⟩ := T.at_; He.glo_ok a b (T.c.fact 4 (f := .glo "strength") rfl)
theorem g_at_least : mg "at_least" = some (.ref (He.ga K "at_least")) := let ⟨_, a, b⟩ := T.at_; He.glo_ok a b (T.c.fact 5 (f := .glo "at_least") rfl)
theorem g_plain_tree : mg "plain_tree" = some (.ref (He.ga K "plain_tree")) := let ⟨_, a, b⟩ := T.at_; He.glo_ok a b (T.c.fact 6 (f := .glo "plain_tree") rfl)
theorem g_plain_book : mg "plain_book" = some (.ref (He.ga K "plain_book")) := let ⟨_, a, b⟩ := T.at_; He.glo_ok a b (T.c.fact 7 (f := .glo "plain_book") rfl)
theorem g__law_taken : mg "_law_taken" = some (.ref (He.ga K "_law_taken")) := let ⟨_, a, b⟩ := T.at_; He.glo_ok a b (T.c.fact 8 (f := .glo "_law_taken") rfl)
theorem g__law_pick : mg "_law_pick" = some (.ref (He.ga K "_law_pick")) := let ⟨_, a, b⟩ := T.at_; He.glo_ok a b (T.c.fact 9 (f := .glo "_law_pick") rfl)
theorem g__law_refused : mg "_law_refused" = some (.ref (He.ga K "_law_refused")) := let ⟨_, a, b⟩ := T.at_; He.glo_ok a b (T.c.fact 10 (f := .glo "_law_refused") rfl)
theorem g__law_alike : mg "_law_alike" = some (.ref (He.ga K "_law_alike")) := let ⟨_, a, b⟩ := T.at_; He.glo_ok a b (T.c.fact 11 (f := .glo "_law_alike") rfl)
theorem g__law_nest : mg "_law_nest" = some (.ref (He.ga K "_law_nest")) := let ⟨_, a, b⟩ := T.at_; He.glo_ok a b (T.c.fact 12 (f := .glo "_law_nest") rfl)
theorem g__law_strength : mg "_law_strength" = some (.ref (He.ga K "_law_strength")) := let ⟨_, a, b⟩ := T.at_; He.glo_ok a b (T.c.fact 13 (f := .glo "_law_strength") rfl)
theorem g__law_in : mg "_law_in" = some (.ref (He.ga K "_law_in")) := let ⟨_, a, b⟩ := T.at_; He.glo_ok a b (T.c.fact 14 (f := .glo "_law_in") rfl)
theorem g__law_written : mg "_law_written" = some (.ref (He.ga K "_law_written")) := let ⟨_, a, b⟩ := T.at_; He.glo_ok a b (T.c.fact 15 (f := .glo "_law_written") rfl)
theorem g__law_spoiled : mg "_law_spoiled" = some (.ref (He.ga K "_law_spoiled")) := let ⟨_, a, b⟩ := T.at_; He.glo_ok a b (T.c.fact 16 (f := .glo "_law_spoiled") rfl)
theorem g__law_wanted : mg "_law_wanted" = some (.ref (He.ga K "_law_wanted")) := let ⟨_, a, b⟩ := T.at_; He.glo_ok a b (T.c.fact 17 (f := .glo "_law_wanted") rfl)
theorem g__law_number : mg "_law_number" = some (.ref (He.ga K "_law_number")) := let ⟨_, a, b⟩ := T.at_; He.glo_ok a b (T.c.fact 18 (f := .glo "_law_number") rfl)
theorem g__law_flaw : mg "_law_flaw" = some (.ref (He.ga K "_law_flaw")) := let ⟨_, a, b⟩ := T.at_; He.glo_ok a b (T.c.fact 19 (f := .glo "_law_flaw") rfl)
theorem g_law : mg "law" = some (.ref (He.ga K "law")) := let ⟨_, a, b⟩ := T.at_; He.glo_ok a b (T.c.fact 20 (f := .glo "law") rfl)
theorem g_BadArgument : mg "BadArgument" = some (.ref (He.ga K "BadArgument")) := let ⟨_, a, b⟩ := T.at_; He.glo_ok a b (T.c.fact 21 (f := .glo "BadArgument") rfl)
theorem n_BadArgument_name : NoAttr K (He.ga K "BadArgument") "name" := He.noat_ok (T.c.fact 23 (f := .noat "BadArgument" "name") rfl)
theorem g_Flaw : mg "Flaw" = some (.ref (He.ga K "Flaw")) := let ⟨_, a, b⟩ := T.at_; He.glo_ok a b (T.c.fact 24 (f := .glo "Flaw") rfl)
theorem n_Flaw_place : NoAttr K (He.ga K "Flaw") "place" := He.noat_ok (T.c.fact 26 (f := .noat "Flaw" "place") rfl)
theorem n_Flaw_message : NoAttr K (He.ga K "Flaw") "message" := He.noat_ok (T.c.fact 27 (f := .noat "Flaw" "message") rfl)
theorem g_Reader : mg "Reader" = some (.ref (He.ga K "Reader")) := let ⟨_, a, b⟩ := T.at_; He.glo_ok a b (T.c.fact 28 (f := .glo "Reader") rfl)
theorem c_Reader : Cls K (He.ga K "Reader") := He.cls_ok (T.c.fact 29 (f := .cls "Reader") rfl)
theorem k_Reader : Mk K (He.ga K "Reader") (a_Reader_init K) := He.mkr_ok (T.c.fact 30 (f := .mkr "Reader") rfl)
theorem n_Reader_signs : NoAttr K (He.ga K "Reader") "signs" := He.noat_ok (T.c.fact 31 (f := .noat "Reader" "signs") rfl)
theorem n_Reader_size : NoAttr K (He.ga K "Reader") "size" := He.noat_ok (T.c.fact 32 (f := .noat "Reader" "size") rfl)
theorem n_Reader_at : NoAttr K (He.ga K "Reader") "at" := He.noat_ok (T.c.fact 33 (f := .noat "Reader" "at") rfl)
theorem n_Reader_deep : NoAttr K (He.ga K "Reader") "deep" := He.noat_ok (T.c.fact 34 (f := .noat "Reader" "deep") rfl)
theorem n_Reader_names : NoAttr K (He.ga K "Reader") "names" := He.noat_ok (T.c.fact 35 (f := .noat "Reader" "names") rfl)
theorem m_Reader_sign : Meth K (He.ga K "Reader") "sign" (a_Reader_sign K) := He.meth_ok (T.c.fact 36 (f := .meth "Reader" "sign") rfl)
theorem m_Reader_refuse : Meth K (He.ga K "Reader") "refuse" (a_Reader_refuse K) := He.meth_ok (T.c.fact 37 (f := .meth "Reader" "refuse") rfl)
theorem m_Reader_is_next : Meth K (He.ga K "Reader") "is_next" (a_Reader_is_next K) := He.meth_ok (T.c.fact 38 (f := .meth "Reader" "is_next") rfl)
theorem m_Reader_expect : Meth K (He.ga K "Reader") "expect" (a_Reader_expect K) := He.meth_ok (T.c.fact 39 (f := .meth "Reader" "expect") rfl)
theorem m_Reader_number_told : Meth K (He.ga K "Reader") "number_told" (a_Reader_number_told K) := He.meth_ok (T.c.fact 40 (f := .meth "Reader" "number_told") rfl)
theorem m_Reader_book : Meth K (He.ga K "Reader") "book" (a_Reader_book K) := He.meth_ok (T.c.fact 41 (f := .meth "Reader" "book") rfl)
theorem m_Reader_line_told : Meth K (He.ga K "Reader") "line_told" (a_Reader_line_told K) := He.meth_ok (T.c.fact 42 (f := .meth "Reader" "line_told") rfl)
theorem m_Reader_nest : Meth K (He.ga K "Reader") "nest" (a_Reader_nest K) := He.meth_ok (T.c.fact 43 (f := .meth "Reader" "nest") rfl)
theorem m_Reader_item : Meth K (He.ga K "Reader") "item" (a_Reader_item K) := He.meth_ok (T.c.fact 44 (f := .meth "Reader" "item") rfl)
theorem m_Reader_atom : Meth K (He.ga K "Reader") "atom" (a_Reader_atom K) := He.meth_ok (T.c.fact 45 (f := .meth "Reader" "atom") rfl)
theorem m_Reader_brackets : Meth K (He.ga K "Reader") "brackets" (a_Reader_brackets K) := He.meth_ok (T.c.fact 46 (f := .meth "Reader" "brackets") rfl)
theorem m_Reader_order : Meth K (He.ga K "Reader") "order" (a_Reader_order K) := He.meth_ok (T.c.fact 47 (f := .meth "Reader" "order") rfl)
theorem m_Reader_inner : Meth K (He.ga K "Reader") "inner" (a_Reader_inner K) := He.meth_ok (T.c.fact 48 (f := .meth "Reader" "inner") rfl)
theorem m_Reader_ground : Meth K (He.ga K "Reader") "ground" (a_Reader_ground K) := He.meth_ok (T.c.fact 49 (f := .meth "Reader" "ground") rfl)
theorem m_Reader_filled : Meth K (He.ga K "Reader") "filled" (a_Reader_filled K) := He.meth_ok (T.c.fact 50 (f := .meth "Reader" "filled") rfl)
theorem i_LETTERS : ∃ t, mg "LETTERS" = some (.str "abcdef" t) := let ⟨_, a, b⟩ := T.at_; He.str_ok a b (T.c.fact 51 (f := .str "LETTERS" "abcdef") rfl)
theorem i_CAPITALS : ∃ t, mg "CAPITALS" = some (.str "ABCDEFGHIJKLMNOPQRSTUVWXYZ" t) := let ⟨_, a, b⟩ := T.at_; He.str_ok a b (T.c.fact 52 (f := .str "CAPITALS" "ABCDEFGHIJKLMNOPQRSTUVWXYZ") rfl)
theorem i_DIGITS : ∃ t, mg "DIGITS" = some (.str "0123456789" t) := let ⟨_, a, b⟩ := T.at_; He.str_ok a b (T.c.fact 53 (f := .str "DIGITS" "0123456789") rfl)
theorem i_OTHERS : ∃ t, mg "OTHERS" = some (.str "+/()[]=^~<>,{}:;" t) := let ⟨_, a, b⟩ := T.at_; He.str_ok a b (T.c.fact 54 (f := .str "OTHERS" "+/()[]=^~<>,{}:;") rfl)
theorem i_MOST_TEXT : ∃ t, mg "MOST_TEXT" = some (.int 400 t) := let ⟨_, a, b⟩ := T.at_; He.int_ok a b (T.c.fact 55 (f := .int "MOST_TEXT" 400) rfl)
theorem i_MOST_DEEP : ∃ t, mg "MOST_DEEP" = some (.int 20 t) := let ⟨_, a, b⟩ := T.at_; He.int_ok a b (T.c.fact 56 (f := .int "MOST_DEEP" 20) rfl)
theorem i_MOST_NUMBER : ∃ t, mg "MOST_NUMBER" = some (.int 1000000000 t) := let ⟨_, a, b⟩ := T.at_; He.int_ok a b (T.c.fact 57 (f := .int "MOST_NUMBER" 1000000000) rfl)
theorem l_ValueError : mg "ValueError" = none := let ⟨_, a, b⟩ := T.at_; He.free_ok a b (T.c.fact 58 (f := .free "ValueError") rfl)
theorem l_bool : mg "bool" = none := let ⟨_, a, b⟩ := T.at_; He.free_ok a b (T.c.fact 59 (f := .free "bool") rfl)
theorem l_enumerate : mg "enumerate" = none := let ⟨_, a, b⟩ := T.at_; He.free_ok a b (T.c.fact 60 (f := .free "enumerate") rfl)
theorem l_int : mg "int" = none := let ⟨_, a, b⟩ := T.at_; He.free_ok a b (T.c.fact 61 (f := .free "int") rfl)
theorem l_isinstance : mg "isinstance" = none := let ⟨_, a, b⟩ := T.at_; He.free_ok a b (T.c.fact 62 (f := .free "isinstance") rfl)
theorem l_len : mg "len" = none := let ⟨_, a, b⟩ := T.at_; He.free_ok a b (T.c.fact 63 (f := .free "len") rfl)
theorem l_list : mg "list" = none := let ⟨_, a, b⟩ := T.at_; He.free_ok a b (T.c.fact 64 (f := .free "list") rfl)
theorem l_range : mg "range" = none := let ⟨_, a, b⟩ := T.at_; He.free_ok a b (T.c.fact 65 (f := .free "range") rfl)
theorem l_str : mg "str" = none := let ⟨_, a, b⟩ := T.at_; He.free_ok a b (T.c.fact 66 (f := .free "str") rfl)
theorem l_tuple : mg "tuple" = none := let ⟨_, a, b⟩ := T.at_; He.free_ok a b (T.c.fact 67 (f := .free "tuple") rfl)
theorem exAll : (oexB K (He.ga K "BadArgument") = true ∧ xfB K (He.ga K "BadArgument") = true ∧ initB K (He.ga K "BadArgument") = true) ∧ (oexB K (He.ga K "Flaw") = true ∧ xfB K (He.ga K "Flaw") = true ∧ initB K (He.ga K "Flaw") = true) := by
  have h := T.ex
  unfold exF at h
  simp only [Bool.and_eq_true, and_assoc] at h
  simp only [and_assoc]
  exact h
theorem x_BadArgument : OexC K (He.ga K "BadArgument") ∧ PySem.W.exmOne K (.ref (He.ga K "BadArgument")) (.ref (He.ga K "BadArgument")) = some true := oexB_ok (exAll T).1.1
theorem xf_BadArgument : XfC K (He.ga K "BadArgument") := xfB_ok (exAll T).1.2.1
theorem xi_BadArgument : PySem.W.findIn K (.ref (He.ga K "BadArgument")) "__init__" = some (some (.ref (a_BadArgument_init K))) ∧ PySem.W.typeIn K (.ref (a_BadArgument_init K)) = some (.type "function") := initB_ok (exAll T).1.2.2
theorem x_Flaw : OexC K (He.ga K "Flaw") ∧ PySem.W.exmOne K (.ref (He.ga K "Flaw")) (.ref (He.ga K "Flaw")) = some true := oexB_ok (exAll T).2.1
theorem xf_Flaw : XfC K (He.ga K "Flaw") := xfB_ok (exAll T).2.2.1
theorem xi_Flaw : PySem.W.findIn K (.ref (He.ga K "Flaw")) "__init__" = some (some (.ref (a_Flaw_init K))) ∧ PySem.W.typeIn K (.ref (a_Flaw_init K)) = some (.type "function") := initB_ok (exAll T).2.2.2
end
end K20
/-! Own exceptions with one or two fields: their __init__, their making; a call that is refused. -/
namespace Sl
open PySem PySem.Spec
open PyProof.Rows L2
/-- __init__ of one field -/
def spX1 (K : PySem.W.Frag) (C : Addr) (f : Str) : Sp := fun vs H Q _ => ∃ (a : Addr) (y : V), vs = [.ref a, y] ∧ OexC K C ∧ PySem.W.findIn K (.ref C) f = some none ∧ H a = some (exo a C none) ∧
  ∀ dx, H dx = none → dx ≠ a → Q .non (upd (upd H dx (exd dx [(f, y)])) a (exo a C (some dx)))
/-- of two -/
def spX2 (K : PySem.W.Frag) (C : Addr) (f g : Str) : Sp := fun vs H Q _ => ∃ (a : Addr) (y z : V), vs = [.ref a, y, z] ∧ OexC K C ∧ PySem.W.findIn K (.ref C) f = some none ∧ PySem.W.findIn K (.ref C) g = some none ∧ H a = some (exo a C none) ∧
  ∀ dx, H dx = none → dx ≠ a → Q .non (upd (upd (upd H dx (exd dx [(f, y)])) a (exo a C (some dx))) dx (exd dx [(g, z), (f, y)]))
section
variable {K : PySem.W.Frag} {C : Addr} {f g : Str} {y z : V} {H : Hp} {Q : XK}
theorem mkx1 (T : OexC K C) (hf : PySem.W.findIn K (.ref C) f = some none) (k : ∀ d H', Ex H H' → H d = none → H' d = some (.xd [(f, y)]) → Q (.ref C) (some d) H') :
    [y].length ≤ 1000 ∧ ∀ a, H a = none → spX1 K C f (.ref a :: ([y] ++ [])) (upd H a (exo a C none))
      (fun v H2 => v = .non ∧ ∃ (d : Addr) (fs : List (Str × V)), H2 a = some (exo a C (some d)) ∧ H2 d = some (exd d fs) ∧ H d = none ∧ Q (.ref C) (some d) (upd (del H2 a) d (.xd fs))) (fun _ _ _ => False) := by
  refine ⟨by show 1 ≤ 1000; decide, fun a ha => ⟨a, y, rfl, T, hf, upd_same, fun dx hd hne => ⟨rfl, dx, [(f, y)], upd_same, ?_, ?_, ?_⟩⟩⟩
  · rw [upd_ne hne, upd_same]
  · rw [upd_ne hne] at hd
    exact hd
  · rw [upd_ne hne] at hd
    refine k dx _ (fun b o e => ?_) hd upd_same
    have n1 : b ≠ dx := ne_of_none e hd
    have n2 : b ≠ a := ne_of_none e ha
    rw [upd_ne n1, del_ne n2, upd_ne n2, upd_ne n1, upd_ne n2]
    exact e
theorem mkx2 (T : OexC K C) (hf : PySem.W.findIn K (.ref C) f = some none) (hg : PySem.W.findIn K (.ref C) g = some none) (k : ∀ d H', Ex H H' → H d = none → H' d = some (.xd [(g, z), (f, y)]) → Q (.ref C) (some d) H') :
    [y, z].length ≤ 1000 ∧ ∀ a, H a = none → spX2 K C f g (.ref a :: ([y, z] ++ [])) (upd H a (exo a C none))
      (fun v H2 => v = .non ∧ ∃ (d : Addr) (fs : List (Str × V)), H2 a = some (exo a C (some d)) ∧ H2 d = some (exd d fs) ∧ H d = none ∧ Q (.ref C) (some d) (upd (del H2 a) d (.xd fs))) (fun _ _ _ => False) := by
  refine ⟨by show 2 ≤ 1000; decide, fun a ha => ⟨a, y, z, rfl, T, hf, hg, upd_same, fun dx hd hne => ⟨rfl, dx, _, ?_, upd_same, ?_, ?_⟩⟩⟩
  · rw [upd_ne (Ne.symm hne), upd_same]
  · rw [upd_ne hne] at hd
    exact hd
  · rw [upd_ne hne] at hd
    refine k dx _ (fun b o e => ?_) hd upd_same
    have n1 : b ≠ dx := ne_of_none e hd
    have n2 : b ≠ a := ne_of_none e ha
    rw [upd_ne n1, del_ne n2, upd_ne n1, upd_ne n2, upd_ne n1, upd_ne n2]
    exact e
end
section
variable {P : Program} {w : World} {K : PySem.W.Frag} {mg : Str → Option Value} {base : Heap} {f C : Addr} {a b c : Str} {x qual : Str} {params : Arguments} {scope : Scope} {p1 p2 p3 p4 q1 q2 q3 q4 : Pos}
theorem has_x1 (F : ∃ fd, FunD K x qual params [.Assign [.Attribute (.Name a p1) b p2] (.Name b p3) p4] scope [] [] f fd) (S : FnScope [a, b] [a, b] scope)
    (hb : BindsBy x qual params [.Assign [.Attribute (.Name a p1) b p2] (.Name b p3) p4] scope [a, b]) (v1 : Vis scope a) (v2 : Vis scope b) (d1 : (a == ("__debug__" : Str)) = false) (d2 : (b == ("__debug__" : Str)) = false) (e1 : (a == ("__classdict__" : Str)) = false) (e2 : (b == ("__classdict__" : Str)) = false)
    (sw : ∀ X : Cx, X.env.scope = scope → swapsWith (.Name b p3) (some (.Attribute (.Name a p1) b p2)) p4.line X.env = pure false) : Has P w K mg base 1 f [a, b] (spX1 K C b) := by
  refine has_of F S hb (fun vs H Q E h => by obtain ⟨_, _, rfl, _⟩ := h; rfl) (fun cdv A outer s H vs Q E hr h => ?_)
  obtain ⟨o, y, rfl, T, hf, ho, k⟩ := h
  refine ⟨_, pss_one (ps_ost (pe_var (i := 0) rfl v1 d1 e1) (pe_var (i := 1) rfl v2 d2 e2) (sw _ rfl)), ?_⟩
  exact ⟨_, rfl, _, rfl, o, C, rfl, T, hf, .inl ⟨ho, k⟩⟩
end
end Sl
namespace Sl
open PySem PySem.Spec
open PyProof.Rows L2
theorem tk_of {P : Program} {w : World} {K : PySem.W.Frag} {mg : Str → Option Value} {base : Heap} {N : List Str} {qual : Str} {sc : Scope} {f : Addr} {cd : Value} {A : Around} {outer : List Env} {s : Shared} {H : Hp} {E : XK} :
    Takes (cxOf (L2.CX P w) P w K mg base N qual sc f cd A outer s H E) (fun cls d _ H => E cls d H) := takes_of rfl rfl rfl rfl
theorem px_of {P : Program} {w : World} {K : PySem.W.Frag} {mg : Str → Option Value} {base : Heap} {N : List Str} {qual : Str} {sc : Scope} {f : Addr} {cd : Value} {A : Around} {outer : List Env} {s : Shared} {H : Hp} {E : XK} :
    Passes (L2.CX P w) (cxOf (L2.CX P w) P w K mg base N qual sc f cd A outer s H E) E := passes_call tk_of fun _ _ _ _ h => h
theorem exb_put {H : Hp} {p : Addr} {o : HO} : ExB [p] H (upd H p o) := fun a u na e => by
  rw [upd_ne (by simpa using na)]
  exact e
theorem SH.upd1 {K : PySem.W.Frag} {H0 H H' : Hp} {M : List Addr} {LO LB LO' : List As} {p : Addr} {o o' : HO} (S : SH K H0 M LO LB H) (q : Pick LO (pt p o) LO') (e : ExB [p] H H') (t : TEx H H') (h : H' p = some o') : SH K H0 M (pt p o' :: LO') LB H' :=
  S.step q fun fp hp _ _ => by
    obtain ⟨rfl, _⟩ := hp
    exact ⟨e, t, [p], ⟨rfl, h⟩, by simp, fun a ha => .inl ha⟩
theorem start1 {K : PySem.W.Frag} {H : Hp} {p l : Addr} {o : HO} {ds : List D} {xs : List V} (h : H p = some o) (hl : H l = some (.lst xs)) (r : RDs K H ds xs) (n : o ≠ .lst xs) : SH K H [p] [pt p o] [ls K l ds] H :=
  ⟨ExB.refl _ _, TEx.refl _, [[p]], [[l]], .cons ⟨rfl, h⟩ .nil, .cons ⟨rfl, xs, hl, r⟩ .nil, by simp, fun a ha => by
    have e : a = p := by simpa using ha
    subst e
    refine ⟨.inr (by simp), ?_⟩
    have ne : a ≠ l := ne_of h hl n
    simpa using ne⟩
end Sl
namespace Sl
open PySem PySem.Spec
open PyProof.Rows L2
/-- a module's constant -/
theorem pgi {X : Cx} {x : Str} {p : Pos} {v : Int} (hm : ∃ t, X.mg x = some (.int v t)) (hg : Gl X x := by rfl) (hdb : (x == ("__debug__" : Str)) = false := by decide) : PE X (.Name x p) (tC (.int v)) := by
  obtain ⟨t, h⟩ := hm
  exact pe_glob hg h ⟨t, rfl⟩ hdb
theorem pgs {X : Cx} {x : Str} {p : Pos} {v : Str} (hm : ∃ t, X.mg x = some (.str v t)) (hg : Gl X x := by rfl) (hdb : (x == ("__debug__" : Str)) = false := by decide) : PE X (.Name x p) (tC (.str v)) := by
  obtain ⟨t, h⟩ := hm
  exact pe_glob hg h ⟨t, rfl⟩ hdb
end Sl
/-! ### the rules with the written part told: for use within comprehensions -/
namespace Sl
open PySem PySem.Spec
open PyProof.Rows L2
section
variable {X : Cx} {K : PySem.W.Frag}
theorem fldK (K : PySem.W.Frag) {e : Expr} {f : Str} {pos : Pos} {ta : TE} (he : PE X e ta) (hK : X.K = K := by rfl) (hb : attributeBase e f X.env (eval e X.env) = eval e X.env := by rfl) : PE X (.Attribute e f pos) (tFld K ta f) := by
  subst hK
  exact pe_fld he hb
theorem tupK (K : PySem.W.Frag) {es : List Expr} {k : Nat} {pos : Pos} {t : TGs} {n : Nat} (h : PGs X es t) (hc : X.calm = true := by rfl) (hK : X.K = K := by rfl)
    (hn : (assignEach es X.env).length = n := by rfl) (hst : (assignEach es X.env).findIdx? (·.1) = none := by rfl) : PG X (.Tuple es k pos) (gTup K n t) := by
  subst hK
  exact pg_tup hc h hn hst
theorem inK (K : PySem.W.Frag) (hK : X.K = K := by rfl) : OpR X (compareOp .In) (rIn K false) := by subst hK; exact op_in_seq
theorem niK (K : PySem.W.Frag) (hK : X.K = K := by rfl) : OpR X (compareOp .NotIn) (rIn K true) := by subst hK; exact op_notIn_seq
theorem ixL (K : PySem.W.Frag) (hK : X.K = K := by rfl) : IxR X (rIxL K) := by subst hK; exact ix_list
theorem ixT (K : PySem.W.Frag) (hK : X.K = K := by rfl) : IxR X (rIxT K) := by subst hK; exact ix_tup
theorem slL (K : PySem.W.Frag) (hK : X.K = K := by rfl) : SlR X (rSlL K) := by subst hK; exact sl_list
theorem slT (K : PySem.W.Frag) (hK : X.K = K := by rfl) : SlR X (rSlA K) := by subst hK; exact sl_tupA
theorem catT (K : PySem.W.Frag) (hK : X.K = K := by rfl) : OpR X (binaryOp .Add) (rCatA K) := by subst hK; exact op_catA
theorem eqDK (K : PySem.W.Frag) (hu : X.A.units + 64 < cLine) (hK : X.K = K := by rfl) : OpR X (compareOp .Eq) (rEqD K) := by subst hK; exact op_eqD hu
theorem neDK (K : PySem.W.Frag) (hu : X.A.units + 64 < cLine) (hK : X.K = K := by rfl) : OpR X (compareOp .NotEq) (rNeD K) := by subst hK; exact op_neD hu
def rLenQ (K : PySem.W.Frag) : List V → Hp → VK → Prop := fun xs H Q => ∃ p ys, xs = [.ref p] ∧ (SqL K H p ys ∨ SqT K H p ys) ∧ Q (.int ys.length) H
theorem lenK (K : PySem.W.Frag) (hK : X.K = K := by rfl) : CallR X (.builtin "len") (rLenQ K) := by subst hK; exact call_len_seq
def rListQ (K : PySem.W.Frag) : List V → Hp → VK → Prop := fun xs H Q => ∃ p ys, xs = [.ref p] ∧ (SqL K H p ys ∨ SqT K H p ys) ∧ ∀ l, H l = none → Q (.ref l) (upd H l (.lst ys))
theorem listK (K : PySem.W.Frag) (hK : X.K = K := by rfl) : CallR X (.type "list") (rListQ K) := by subst hK; exact call_list_of
def rTupQ (K : PySem.W.Frag) : List V → Hp → VK → Prop := fun xs H Q => ∃ p ys, xs = [.ref p] ∧ ((SqL K H p ys ∧ ∀ l, H l = none → Q (.ref l) (upd H l (.tup ys))) ∨ (SqT K H p ys ∧ Q (.ref p) H))
theorem tupleK (K : PySem.W.Frag) (hK : X.K = K := by rfl) : CallR X (.type "tuple") (rTupQ K) := by subst hK; exact call_tuple_of
theorem isiK (K : PySem.W.Frag) (hK : X.K = K := by rfl) : CallR X (.builtin "isinstance") (rIsi K) := by subst hK; exact call_isi
theorem listW (K : PySem.W.Frag) {tg l : Expr} {tl : TE} (h : PE X l tl) (hK : X.K = K := by rfl) : PI X tg l (iList K tl) := by subst hK; exact pi_list h
theorem tupW (K : PySem.W.Frag) {tg l : Expr} {tl : TE} (h : PE X l tl) (hK : X.K = K := by rfl) : PI X tg l (iTup K tl) := by subst hK; exact pi_tup h
theorem bmK (K : PySem.W.Frag) {T id : String} {r : V → List V → Hp → VK → Prop} {o e : Expr} {es : List Expr} {to : TE} {t : TA} {name : Str} {apos cpos : Pos} (pa : PlainAttrs T) (slot : Slot T name id) (hty : typeOf (.builtin id) = pure (.type "method_descriptor")) (hm : MtR X id r) (ho : PE X o to) (ha : PA X (e :: es) t)
    (hK : X.K = K := by rfl) (hbase : attributeBase o name X.env (eval o X.env) = eval o X.env := by rfl)
    (hfew : ((backTo cpos (starEach (e :: es) X.env)).all (fun x => !x.1) && (backToKw cpos (keywordEach [] X.env)).all (fun x => x.1.isSome) && decide ((e :: es).length + ([] : List Keyword).length + (if ([] : List Keyword).isEmpty then 0 else 1) < 30)) = true := by rfl)
    (hline : (apos.endLine == cpos.line) = true := by rfl) (hs : starEach (e :: es) X.env = (false, eval e X.env) :: starEach es X.env := by rfl) (hplain : (backTo cpos (starEach es X.env)).any (·.1) = false := by rfl) :
    PE X (.Call (.Attribute o name apos) (e :: es) [] cpos) (tBM K T r to t) := by
  subst hK
  exact pe_bm pa slot hty hm ho ha hbase hfew hline hs hplain
def tTru (K : PySem.W.Frag) (ta : TE) : TT := fun σ H Q => ta σ H fun x H' => ∃ k, TruV K x H' k ∧ Q k H'
theorem truK (K : PySem.W.Frag) {a : Expr} {ta : TE} (ha : PE X a ta) (hK : X.K = K := by rfl) (he : ∀ whole, isTrue a X.env whole = (do let v ← whole; standAt a.pos; holding [v] (truthy v)) := by intro _; rfl) : PT X a (tTru K ta) := by
  subst hK
  exact pt_truth ha he
end
end Sl
/-! list of a text; a def handed a lambda that tells what was refused. -/
namespace Sl
open PySem PySem.Spec
open PyProof.Rows L2
def sgV (z : Str) : List V := z.cps.toList.map fun c => V.str ⟨#[c]⟩
theorem call_list_sg {X : Cx} (hc : X.calm = true := by rfl) : CallR X (.type "list") (fun xs H Q => ∃ z, xs = [.str z] ∧ z.length ≤ sizeLine ∧ ∀ l, H l = none → Q (.ref l) (upd H l (.lst (sgV z)))) := by
  intro pins s σ H xs us Q I r h
  obtain ⟨z, rfl, hz, q⟩ := h
  obtain ⟨u, rfl, t, rfl⟩ := vals1 r
  have hs : s.heap.objs.size ≤ s.heap.objs.size := Nat.le_refl _
  refine call_list_str (I.ok.hd hc) z t (fun h' tk acc c' kp e it => ?_) hz
  refine ⟨.ref s.heap.objs.size, _, I.laid (t' := tk) kp hs (show ObjOk X.prog X.w _ h' _ (.lst (sgV z)) from ⟨?_, acc.toList, c', ?_, ?_⟩), rfl, q _ (I.hok.fresh hs)⟩
  · show (z.cps.toList.map _).length ≤ _
    rw [List.length_map]
    exact hz
  · refine vals_of_idx _ _ ?_ fun j u hu => ?_
    · rw [Array.length_toList, it.1]
      show _ = (z.cps.toList.map _).length
      rw [List.length_map, Array.length_toList]
    · obtain ⟨c, t', e1, rfl⟩ := it.2 j u (by simpa using hu)
      refine ⟨.str ⟨#[c]⟩, ?_, t', rfl⟩
      show (z.cps.toList.map _)[j]? = _
      rw [List.getElem?_map, Array.getElem?_toList, e1] <;> rfl
  · rw [Array.toArray_toList]
    exact e
/-- f(k = e), k the one parameter -/
theorem kw1 {K : PySem.W.Frag} {x qual pn : Str} {params : Arguments} {body : List Stmt} {scope : Scope} {f : Addr} {fd : FuncData} (F : FunD K x qual params body scope [] [] f fd)
    (h : ∀ (kV doc pm : Value) (an : Option Addr) (cdv ct u : Value), bindArgs (PySem.W.fnOf x qual params body scope .none kV doc pm an cdv ct) ⟨[], [(pn, u)]⟩ = pure [(pn, u)]) : KBn K fd [pn] 0 [pn] (fun _ ws => ws) (fun _ zs => zs) := by
  obtain ⟨oc, od, dV, kV, doc, pm, an, cdv, ct, osl, rfl, lk, hcd, hD, hK⟩ := F.ex
  rcases hD with ⟨_, rfl⟩ | ⟨e, _⟩
  · refine ⟨fun s us ws X h1 h2 => ?_, fun _ r => r⟩
    match us, ws, h1, h2 with
    | [], [u], _, _ => exact .of_eq (h kV doc pm an cdv ct u)
  · exact absurd rfl e
theorem pcallK1 {X : Cx} {k : Nat} {f : Addr} {fd : FuncData} {sp : Sp} {E : XK} {x pn : Str} {p pos kpos : Pos} {e : Expr} {te : TE} (F : FnOk X.prog X.w X.K X.mg X.base (L2.CX X.prog X.w) k f fd [pn] sp) (hb : KBn X.K fd [pn] 0 [pn] (fun _ ws => ws) (fun _ zs => zs)) (kp : PySem.W.keepIn X.K (.ref f) = true)
    (hr : Room k X.A) (hm : X.mg x = some (.ref f)) (hx : Passes (L2.CX X.prog X.w) X E) (he : PE X e te) (hg : Gl X x := by rfl) (hdb : (x == ("__debug__" : Str)) = false := by decide) : PE X (.Call (.Name x p) [] [⟨some pn, e, kpos⟩] pos) (tCall sp [] E (tCons te tNil)) := by
  refine ⟨fun pins s σ H Q I h => ?_⟩
  refine wpAny_Call_Name_kw (ld_glob I hg hm ?_ hdb)
  refine PySem.W.callWith_KW0 (h₀ := X.base) I.ok.mod.kin kp (by rfl) ?_ (by rfl)
  refine thn ((pk_cons he pk_nil).run pos pins s σ H _ I h) fun ws s2 ⟨zs, H2, I2, rz, q2⟩ => ⟨I2.kIn, ?_⟩
  have hl : zs.length = 1 := by
    have q3 : sp (zs ++ []) H2 Q E := q2
    rw [List.append_nil] at q3
    exact F.len _ _ _ _ q3
  have q3 : sp zs H2 Q E := by
    have q3 : sp (zs ++ []) H2 Q E := q2
    rwa [List.append_nil] at q3
  exact run_fnN (us := []) (vs := []) F hr hb hx I2 .nil rz rfl hl q3
theorem tkl {X : Cx} {A : Around} {outer : List Env} {s : Shared} {H : Hp} {E : XK} {scope : Scope} {f c' : Addr} : Takes (LamX.lamCx X A outer s H E scope f c') (fun cls d _ H => E cls d H) := takes_of rfl rfl rfl rfl
theorem pxl {X : Cx} {A : Around} {outer : List Env} {s : Shared} {H : Hp} {E : XK} {scope : Scope} {f c' : Addr} : Passes (L2.CX X.prog X.w) (LamX.lamCx X A outer s H E scope f c') E := passes_call tkl fun _ _ _ _ h => h
/-- told: try: a() / except x as n: return n.f; then return "" -/
def TTname (K : PySem.W.Frag) (CS : Addr) (fl : Str) : (XK → Hp → VK → Prop) → Hp → VK → Prop := fun tl H Q =>
  tl (fun cls d H' => cls = .ref CS ∧ ∃ dx nm, d = some dx ∧ H' dx = some (.xd [(fl, .str nm)]) ∧ Q (.str nm) H') H (fun _ H' => Q (.str "") H')
end Sl
namespace LamX
open PySem PySem.Spec
open PyProof.Rows L2 Sl
section
variable {X : Cx}
theorem takesLen {W : WX} (t : Takes X W) : Takes X (fun cls d σ H => σ.length = X.N.length → W cls d σ H) := fun u s' ⟨a, B, sI, pins, σ, H, cls, d, e, I, nb, up, sky, na, os, ag, w⟩ =>
  t u s' ⟨a, B, sI, pins, σ, H, cls, d, e, I, nb, up, sky, na, os, ag, w I.len⟩
theorem named_gives {x a e n fl q : Str} {sg : Scope} {g CS : Addr} {cdg : Value} {j : Nat} {p1 p2 p3 p4 p5 p6 p7 p8 p9 p10 p11 : Pos} (hge : sg.names.lookup e = some .globalImplicit) (hme : X.mg e = some (.ref CS)) (hde : (e == ("__debug__" : Str)) = false)
    (nd : [a, n].Nodup) (hln : sg.names.lookup n = some .local) (hx : XfC X.K CS) (hf : PySem.W.findIn X.K (.ref CS) fl = some none) (hm : PySem.W.exmOne X.K (.ref CS) (.ref CS) = some true)
    (hd : (n == ("__debug__" : Str)) = false) (hcd : (n == ("__classdict__" : Str)) = false) :
    GivesTo X [a, n] x sg g cdg [.Try [.Expr (.Call (.Name a p1) [] [] p2) p3] [.ExceptHandler (some (.Name e p4)) (some n) [.Return (some (.Attribute (.Name n p5) fl p6)) p7] p8] [] [] p9, .Return (some (.Constant (.str "") j p10)) p11] a q (TTname X.K CS fl) := by
  intro f c' s H Q tl act hc h
  have hgl : Gl (cxOf C8.CX0 X.prog X.w X.K X.mg X.base [a, n] x sg g cdg X.A X.stack s H C8.E0).nox e := hge
  refine ⟨_, pss_cons (ps_try_as (X := (cxOf C8.CX0 X.prog X.w X.K X.mg X.base [a, n] x sg g cdg X.A X.stack s H C8.E0).nox) (c := .ref CS) (i := 1)
      (tb := fun W D σ H => ∃ Ech : XK, (∀ cls d σ' H', σ'.length = 2 → Ech cls d H' → W cls d σ' H') ∧ σ[0]? = some (some (.ref f)) ∧ H c' = some (CodeO c' q) ∧ tl Ech H fun _ H' => D.nx σ H')
      (ts := fun a cls d => tRet (tXf a cls d CS fl (tVar 1)))
      rfl rfl nd rfl hln ⟨hgl, hde, .inl hme⟩ takes0 (fun W pn xe tk _ => ?_) (fun a oe cls d pn hz hf' => pss_one (ps_ret (pe_xf hx hf hz hf' (pe_var (i := 1) rfl (.inl hln) hd hcd))))) (pss_one (ps_ret pe_str)), ?_⟩
  · refine ⟨fun pins s' σ H' D I h' => ?_⟩
    obtain ⟨Ech, hW, h1, h2, h3⟩ := h'
    have hp := act _ pn xe Ech p1 p2 (takesLen tk) (fun cls d σ' H' e l => hW cls d σ' H' l e)
    have hq := pss_one (ps_expr (pos := p3) hp)
    exact hq.run pins s' σ H' D I ⟨h1, h2, h3⟩
  · refine ⟨fun cls d H' => cls = .ref CS ∧ ∃ dx nm, d = some dx ∧ H' dx = some (.xd [(fl, .str nm)]) ∧ Q (.str nm) H', fun cls d σ' H' hl hh => ?_, rfl, hc, h⟩
    obtain ⟨rfl, dx, nm, rfl, h1, h2⟩ := hh
    refine ⟨true, hm, fun _ a ha => ?_, fun z => by cases z⟩
    exact ⟨_, by rw [List.getElem?_set_self (by omega)], rfl, rfl, dx, _, _, rfl, h1, by simp [List.lookup], h2⟩
/-- the lambda's body x(y), y a captured name -/
theorem lam_call1 {A : Around} {outer : List Env} {s : Shared} {H : Hp} {E : XK} {sc : Scope} {f c' g : Addr} {k i : Nat} {ps : List Str} {sp : Sp} {x y : Str} {p q pos : Pos} (h : Has X.prog X.w X.K X.mg X.base k g ps sp)
    (hr : Room k (A.deeper (lamEnv X sc s.heap.objs.size f c'))) (hm : X.mg x = some (.ref g)) (hN : X.N[i]? = some y) (hv : Vis sc y) (hgl : sc.names.lookup x = some .globalImplicit) (hdb : (x == ("__debug__" : Str)) = false) (hd : (y == ("__debug__" : Str)) = false) (hcd : (y == ("__classdict__" : Str)) = false) :
    PE (lamCx X A outer s H E sc f c') (.Call (.Name x p) [.Name y q] [] pos) (tCall sp [] E (tCons (tVar i) tNil)) :=
  pcallX (X := lamCx X A outer s H E sc f c') h hr hm (pxl (X := X) (A := A) (outer := outer) (s := s) (H := H) (E := E) (scope := sc) (f := f) (c' := c')) (pa_cons (pe_var (X := lamCx X A outer s H E sc f c') hN hv hd hcd) pa_nil) hgl hdb
end
end LamX
namespace Pb
open PySem L2 Sl
abbrev Sg := List (Nat × Nat)
def cAt (ss : Sg) (i : Nat) : Option Nat := (ss[i]?).map (·.1)
def pAt (ss : Sg) (n i : Nat) : Nat := ((ss[i]?).map (·.2)).getD n
def sgD (p : Nat × Nat) : D := .tup [.str ⟨#[p.1]⟩, .int (p.2 : Int)]
def isDg (c : Nat) : Bool := decide (48 ≤ c ∧ c ≤ 57)
def isLt (c : Nat) : Bool := decide (97 ≤ c ∧ c ≤ 102)
def isCp (c : Nat) : Bool := decide (65 ≤ c ∧ c ≤ 90)
inductive Rz where
  | bad (p : Nat) (m : Str) | ok (t : D) (i : Nat)
/-- the digits from i on -/
def dgs (ss : Sg) (i : Nat) : List Nat := ((ss.drop i).map (·.1)).takeWhile isDg
inductive Rn where
  | bad (p : Nat) (m : Str) | ok (v i : Nat)
def numP (ss : Sg) (n i : Nat) : Rn :=
  if dgs ss i = [] ∨ (1 < (dgs ss i).length ∧ (dgs ss i).head? = some 48) then .bad (pAt ss n i) "expected a number"
  else if 10 < (dgs ss i).length ∨ 1000000000 < NumText.digitsVal (dgs ss i) then .bad (pAt ss n i) "out of range"
  else .ok (NumText.digitsVal (dgs ss i)) (i + (dgs ss i).length)
theorem dgs_some {ss : Sg} {i c : Nat} (h : cAt ss i = some c) (hd : isDg c = true) : dgs ss i = c :: dgs ss (i + 1) := by
  unfold cAt at h
  cases q : ss[i]? with
  | none => rw [q] at h; cases h
  | some x =>
    rw [q] at h
    obtain ⟨hi, e⟩ := List.getElem?_eq_some_iff.mp q
    have hc : x.1 = c := Option.some.inj h
    unfold dgs
    rw [List.drop_eq_getElem_cons hi, e, List.map_cons, hc, List.takeWhile_cons, if_pos hd]
theorem dgs_none {ss : Sg} {i : Nat} (h : ∀ c, cAt ss i = some c → isDg c = false) : dgs ss i = [] := by
  unfold dgs
  cases q : ss[i]? with
  | none => rw [List.drop_of_length_le (List.getElem?_eq_none_iff.mp q)]; rfl
  | some x =>
    obtain ⟨hi, e⟩ := List.getElem?_eq_some_iff.mp q
    have hx := h x.1 (by unfold cAt; rw [q] <;> rfl)
    rw [List.drop_eq_getElem_cons hi, e, List.map_cons, List.takeWhile_cons, if_neg (by simp [hx])]
theorem dgs_all (ss : Sg) (i : Nat) : ∀ c ∈ dgs ss i, isDg c = true := fun c hc => by
  unfold dgs at hc
  exact List.all_eq_true.mp (List.all_takeWhile) c hc
theorem dgs_len (ss : Sg) (i : Nat) : (dgs ss i).length ≤ ss.length := by
  unfold dgs
  refine Nat.le_trans (List.takeWhile_sublist _).length_le ?_
  rw [List.length_map, List.length_drop]
  omega
end Pb
namespace K20
open PySem PySem.Spec
open PyProof.Rows L2 Sl Pb
/-- a reader's own places -/
structure Rdv where
  p : Addr
  dx : Addr
  l : Addr
  nm : Addr
  n : Nat
  ss : Sg
/-- the fields of a reader -/
def rf (R : Rdv) (i d : Nat) : List (Str × V) := [("signs", .ref R.l), ("size", .int (R.n : Int)), ("at", .int (i : Int)), ("deep", .int (d : Int)), ("names", .ref R.nm)]
theorem rf_signs (R : Rdv) (i d : Nat) : (rf R i d).lookup ("signs" : Str) = some (.ref R.l) := by rfl
theorem rf_size (R : Rdv) (i d : Nat) : (rf R i d).lookup ("size" : Str) = some (.int R.n) := by rfl
theorem rf_at (R : Rdv) (i d : Nat) : (rf R i d).lookup ("at" : Str) = some (.int i) := by rfl
theorem rf_deep (R : Rdv) (i d : Nat) : (rf R i d).lookup ("deep" : Str) = some (.int d) := by rfl
theorem rf_names (R : Rdv) (i d : Nat) : (rf R i d).lookup ("names" : Str) = some (.ref R.nm) := by rfl
theorem rf_putAt (R : Rdv) (i d j : Nat) : putF "at" (.int (j : Int)) (rf R i d) = rf R j d := by rfl
theorem rf_putAt1 (R : Rdv) (i d : Nat) : putF "at" (.int ((i : Int) + 1)) (rf R i d) = rf R (i + 1) d := by rfl
theorem rf_putDeep (R : Rdv) (i d : Nat) : putF "deep" (.int ((d : Int) + 1)) (rf R i d) = rf R i (d + 1) := by rfl
theorem rf_putDeep2 (R : Rdv) (i d : Nat) : putF "deep" (.int (((d + 1 : Nat) : Int) - 1)) (rf R i (d + 1)) = rf R i d := by
  have e : ((d + 1 : Nat) : Int) - 1 = (d : Int) := by omega
  rw [e]
  rfl
def nmV (ns : List Nat) : List V := ns.map fun c => .str ⟨#[c]⟩
section
variable {P : Program} {w : World} {K : PySem.W.Frag} {mg : Str → Option Value} {base : Heap}
abbrev cR (K : PySem.W.Frag) : Addr := He.ga K "Reader"
abbrev cF (K : PySem.W.Frag) : Addr := He.ga K "Flaw"
abbrev cB (K : PySem.W.Frag) : Addr := He.ga K "BadArgument"
/-- a reader stands at i, d deep, with the names ns -/
structure Rdr (K : PySem.W.Frag) (R : Rdv) (i d : Nat) (ns : List Nat) (H : Hp) : Prop where
  o : H R.p = some (.ins (cR K) R.dx (rf R i d))
  s : ∃ xs, H R.l = some (.lst xs) ∧ RDs K H (R.ss.map sgD) xs
  m : H R.nm = some (.lst (nmV ns))
  ne : R.l ≠ R.nm
/-- what a reader's method leaves -/
structure Went (K : PySem.W.Frag) (R : Rdv) (i d : Nat) (ns : List Nat) (H H' : Hp) : Prop where
  e : ExB [R.p, R.nm] H H'
  t : TEx H H'
  r : Rdr K R i d ns H'
abbrev Fl (K : PySem.W.Frag) (R : Rdv) (H : Hp) (E : XK) (pl : Nat) (m : Str) : Prop := ∀ d H', ExB [R.p, R.nm] H H' → H d = none → H' d = some (.xd [("message", .str m), ("place", .int (pl : Int))]) → E (.ref (cF K)) (some d) H'
section
variable {R : Rdv} {i d j d' : Nat} {ns ns' : List Nat} {H H1 H2 : Hp} {E : XK} {Q : VK}
theorem Went.refl (r : Rdr K R i d ns H) : Went K R i d ns H H := ⟨ExB.refl _ _, TEx.refl _, r⟩
theorem Went.trans (a : Went K R i d ns H H1) (b : Went K R j d' ns' H1 H2) : Went K R j d' ns' H H2 := ⟨a.e.trans b.e, a.t.trans b.t, b.r⟩
theorem Rdr.ex (r : Rdr K R i d ns H) (e : Ex H H1) : Rdr K R i d ns H1 := by
  obtain ⟨xs, h1, h2⟩ := r.s
  exact ⟨e _ _ r.o, ⟨xs, e _ _ h1, h2.mono e.t⟩, e _ _ r.m, r.ne⟩
theorem Went.ex (a : Went K R i d ns H H1) (e : Ex H1 H2) : Went K R i d ns H H2 := ⟨a.e.trans e.b, a.t.trans e.t, a.r.ex e⟩
theorem Went.new {q : Addr} {o : HO} (a : Went K R i d ns H H1) (h : H1 q = none) : Went K R i d ns H (upd H1 q o) := a.ex (ex_new h)
/-- the object is written -/
theorem Rdr.put (r : Rdr K R i d ns H) : Went K R j d' ns H (upd H R.p (.ins (cR K) R.dx (rf R j d'))) := by
  obtain ⟨xs, h1, h2⟩ := r.s
  have t : TEx H (upd H R.p (.ins (cR K) R.dx (rf R j d'))) := tex_put r.o (by intro xs z; cases z) (by intro a b z; cases z)
  refine ⟨exb_put.mono (fun a ha => by simp at ha; simp [ha]), t, upd_same, ⟨xs, ?_, h2.mono t⟩, ?_, r.ne⟩
  · rw [upd_ne (ne_of h1 r.o (by intro z; cases z))]
    exact h1
  · rw [upd_ne (ne_of r.m r.o (by intro z; cases z))]
    exact r.m
theorem Fl.later {pl : Nat} {m : Str} (f : Fl K R H E pl m) (a : Went K R i d ns H H1) : Fl K R H1 E pl m := fun d' H' e nn x => by
  refine f d' H' (a.e.trans e) ?_ x
  cases q : H d' with
  | none => rfl
  | some o =>
    by_cases z : d' = R.p
    · rw [z, a.r.o] at nn; cases nn
    · by_cases z2 : d' = R.nm
      · rw [z2, a.r.m] at nn; cases nn
      · rw [a.e d' o (by simp [z, z2]) q] at nn; cases nn
end
theorem ok_Badinit (T : Tx K mg) : Has P w K mg base 1 (a_BadArgument_init K) p_BadArgument_init (spX1 K (cB K) "name") := by
  refine has_of (f_BadArgument_init T) (z_BadArgument_init T) (b_BadArgument_init T) (fun vs H Q E h => by obtain ⟨_, _, rfl, _⟩ := h; rfl) (fun cdv A outer s H vs Q E hr h => ?_)
  obtain ⟨o, y, rfl, T1, hf, ho, k⟩ := h
  refine ⟨_, pss_one (ps_ost (pv 0) (pv 1)), ?_⟩
  exact ⟨_, rfl, _, rfl, o, _, rfl, T1, hf, .inl ⟨ho, k⟩⟩
theorem ok_Flawinit (T : Tx K mg) : Has P w K mg base 1 (a_Flaw_init K) p_Flaw_init (spX2 K (cF K) "place" "message") := by
  refine has_of (f_Flaw_init T) (z_Flaw_init T) (b_Flaw_init T) (fun vs H Q E h => by obtain ⟨_, _, _, rfl, _⟩ := h; rfl) (fun cdv A outer s H vs Q E hr h => ?_)
  obtain ⟨o, y, z, rfl, T1, hf, hg, ho, k⟩ := h
  refine ⟨_, pss_cons (ps_ost (pv 0) (pv 1)) (pss_one (ps_ost (pv 0) (pv 2))), ?_⟩
  refine ⟨_, rfl, _, rfl, o, _, rfl, T1, hf, .inl ⟨ho, fun dx hd hne => ?_⟩⟩
  refine ⟨_, rfl, _, rfl, o, _, rfl, T1, hg, .inr ⟨dx, [("place", y)], upd_same, ?_, by show 1 ≤ 900; decide, k dx hd hne⟩⟩
  rw [upd_ne hne, upd_same]
def sgAt (ss : Sg) (i : Nat) : Str := match cAt ss i with
  | some c => ⟨#[c]⟩
  | none => ⟨#[]⟩
def spSign (K : PySem.W.Frag) : Sp := fun vs H Q _ => ∃ (R : Rdv) (i d : Nat) (ns : List Nat), vs = [.ref R.p] ∧ Rdr K R i d ns H ∧ Q (.str (sgAt R.ss i)) H
theorem sg_at {K : PySem.W.Frag} {H : Hp} {ss : Sg} {xs : List V} {i : Nat} (r : RDs K H (ss.map sgD) xs) (hi : i < ss.length) : ∃ a, atI xs (i : Int) = some (.ref a) ∧ SqT K H a [.str ⟨#[ss[i].1]⟩, .int (ss[i].2 : Int)] := by
  obtain ⟨v, h1, h2⟩ := r.get (i := i) (d := sgD ss[i]) (by simp [hi])
  obtain ⟨a, ys, rfl, h3, h4⟩ := h2.ofTup
  obtain ⟨v1, w1, rfl, q1, q2⟩ := h4.ofCons
  obtain ⟨v2, w2, rfl, q3, q4⟩ := q2.ofCons
  obtain rfl := q1.ofStr
  obtain rfl := q3.ofInt
  obtain rfl := q4.ofNil
  exact ⟨a, at_of rfl h1, h3⟩
theorem cAt_lt {ss : Sg} {i : Nat} (h : i < ss.length) : cAt ss i = some ss[i].1 := by simp [cAt, h]
theorem cAt_ge {ss : Sg} {i : Nat} (h : ¬ i < ss.length) : cAt ss i = none := by simp [cAt]; omega
theorem cAt_in {ss : Sg} {i c : Nat} (h : cAt ss i = some c) : i < ss.length := by
  by_cases q : i < ss.length
  · exact q
  · rw [cAt_ge q] at h; cases h
theorem pAt_lt {ss : Sg} {n i : Nat} (h : i < ss.length) : pAt ss n i = ss[i].2 := by simp [pAt, h]
theorem pAt_ge {ss : Sg} {n i : Nat} (h : ¬ i < ss.length) : pAt ss n i = n := by simp [pAt, show ss[i]? = none from List.getElem?_eq_none_iff.mpr (by omega)]
theorem ok_sign (T : Tx K mg) : Has P w K mg base 1 (a_Reader_sign K) p_Reader_sign (spSign K) := by
  refine has_of (f_Reader_sign T) (z_Reader_sign T) (b_Reader_sign T) (fun vs H Q E h => by obtain ⟨_, _, _, _, rfl, _⟩ := h; rfl) (fun cdv A outer s H vs Q E hr h => ?_)
  obtain ⟨R, i, d, ns, rfl, rd, k⟩ := h
  obtain ⟨xs, hl, r⟩ := rd.s
  refine ⟨_, (pss_one (ps_ret (pe_ifExp (pt_cmpR oLtI (fldK K (pv 0)) (pe_callB (lenK K) (by rfl) (l_len T) (by decide +kernel) (pa_cons (fldK K (pv 0)) pa_nil)) (nomark _)) (pe_ix (ixT K) (pe_ix (ixL K) (fldK K (pv 0)) (fldK K (pv 0)) (fun _ _ => rfl)) pe_int (fun _ _ => rfl)) pe_str))), ?_⟩
  refine ⟨_, rfl, R.p, _, R.dx, _, _, rfl, rd.o, c_Reader T, n_Reader_at T, rf_at .., _, rfl, R.p, _, R.dx, _, _, rfl, rd.o, c_Reader T, n_Reader_signs T, rf_signs .., R.l, _, rfl, .inl (SqL.of hl), _, _, rfl, rfl, _, rfl, ?_⟩
  refine ite2 (fun c => ?_) (fun c => ?_)
  · have hi : i < R.ss.length := by
      have := of_decide_eq_true c
      rw [r.len, List.length_map] at this
      omega
    obtain ⟨a, h1, h2⟩ := sg_at r hi
    refine ⟨_, rfl, R.p, _, R.dx, _, _, rfl, rd.o, c_Reader T, n_Reader_signs T, rf_signs .., _, rfl, R.p, _, R.dx, _, _, rfl, rd.o, c_Reader T, n_Reader_at T, rf_at .., R.l, _, _, _, rfl, rfl, SqL.of hl, h1, a, _, _, _, rfl, rfl, h2, rfl, ?_⟩
    have e : sgAt R.ss i = ⟨#[R.ss[i].1]⟩ := by unfold sgAt; rw [cAt_lt hi]
    rw [e] at k
    exact k
  · have hi : ¬ i < R.ss.length := by
      intro z
      refine c (decide_eq_true ?_)
      rw [r.len, List.length_map]
      omega
    have e : sgAt R.ss i = ⟨#[]⟩ := by unfold sgAt; rw [cAt_ge hi]
    rw [e] at k
    exact k
def spRefuse (K : PySem.W.Frag) : Sp := fun vs H _ E => ∃ (R : Rdv) (i d : Nat) (ns : List Nat) (m : Str), vs = [.ref R.p, .str m] ∧ Rdr K R i d ns H ∧ Fl K R H E (pAt R.ss R.n i) m
theorem ok_refuse (T : Tx K mg) : Has P w K mg base 3 (a_Reader_refuse K) p_Reader_refuse (spRefuse K) := by
  refine has_of (f_Reader_refuse T) (z_Reader_refuse T) (b_Reader_refuse T) (fun vs H Q E h => by obtain ⟨_, _, _, _, _, rfl, _⟩ := h; rfl) (fun cdv A outer s H vs Q E hr h => ?_)
  obtain ⟨R, i, d, ns, m, rfl, rd, k⟩ := h
  obtain ⟨xs, hl, r⟩ := rd.s
  have h_Flaw_init := ok_Flawinit (P := P) (w := w) (base := base) T
  refine ⟨_, (pss_one (praise h_Flaw_init rfl tk_of (x_Flaw T).1 (xi_Flaw T).1 (xi_Flaw T).2 (hr.mono (by omega)) (g_Flaw T) (pa_cons (pe_ifExp (pt_cmpR oLtI (fldK K (pv 0)) (pe_callB (lenK K) (by rfl) (l_len T) (by decide +kernel) (pa_cons (fldK K (pv 0)) pa_nil)) (nomark _)) (pe_ix (ixT K) (pe_ix (ixL K) (fldK K (pv 0)) (fldK K (pv 0)) (fun _ _ => rfl)) pe_int (fun _ _ => rfl)) (fldK K (pv 0))) (pa_cons (pv 1) pa_nil)))), ?_⟩
  have fin : ∀ pl : Nat, pl = pAt R.ss R.n i → ∀ d' H', Ex H H' → H d' = none → H' d' = some (.xd [("message", .str m), ("place", .int (pl : Int))]) → E (.ref (cF K)) (some d') H' := fun pl e d' H' h1 h2 h3 => k d' H' h1.b h2 (by rw [← e]; exact h3)
  refine ⟨_, rfl, R.p, _, R.dx, _, _, rfl, rd.o, c_Reader T, n_Reader_at T, rf_at .., _, rfl, R.p, _, R.dx, _, _, rfl, rd.o, c_Reader T, n_Reader_signs T, rf_signs .., R.l, _, rfl, .inl (SqL.of hl), _, _, rfl, rfl, _, rfl, ?_⟩
  refine ite2 (fun c => ?_) (fun c => ?_)
  · have hi : i < R.ss.length := by
      have := of_decide_eq_true c
      rw [r.len, List.length_map] at this
      omega
    obtain ⟨a, h1, h2⟩ := sg_at r hi
    refine ⟨_, rfl, R.p, _, R.dx, _, _, rfl, rd.o, c_Reader T, n_Reader_signs T, rf_signs .., _, rfl, R.p, _, R.dx, _, _, rfl, rd.o, c_Reader T, n_Reader_at T, rf_at .., R.l, _, _, _, rfl, rfl, SqL.of hl, h1, a, _, _, _, rfl, rfl, h2, rfl, _, rfl, ?_⟩
    exact mkx2 (x_Flaw T).1 (n_Flaw_place T) (n_Flaw_message T) (fin _ (pAt_lt hi).symm)
  · have hi : ¬ i < R.ss.length := by
      intro z
      refine c (decide_eq_true ?_)
      rw [r.len, List.length_map]
      omega
    refine ⟨_, rfl, R.p, _, R.dx, _, _, rfl, rd.o, c_Reader T, n_Reader_size T, rf_size .., _, rfl, ?_⟩
    exact mkx2 (x_Flaw T).1 (n_Flaw_place T) (n_Flaw_message T) (fin _ (pAt_ge hi).symm)
def spNext (K : PySem.W.Frag) : Sp := fun vs H Q _ => ∃ (R : Rdv) (i d : Nat) (ns : List Nat) (c : Nat), vs = [.ref R.p, .str ⟨#[c]⟩] ∧ Rdr K R i d ns H ∧
  (cAt R.ss i = some c → ∀ H', Went K R (i + 1) d ns H H' → Q (.bl true) H') ∧ (cAt R.ss i ≠ some c → Q (.bl false) H)
theorem sg_eq {ss : Sg} {i c : Nat} : decide (V.str (sgAt ss i) = V.str ⟨#[c]⟩) = decide (cAt ss i = some c) := by
  refine decide_eq_decide.mpr ?_
  unfold sgAt
  cases cAt ss i with
  | none => simp
  | some a => simp
theorem ok_next (T : Tx K mg) : Has P w K mg base 3 (a_Reader_is_next K) p_Reader_is_next (spNext K) := by
  refine has_of (f_Reader_is_next T) (z_Reader_is_next T) (b_Reader_is_next T) (fun vs H Q E h => by obtain ⟨_, _, _, _, _, rfl, _⟩ := h; rfl) (fun cdv A outer s H vs Q E hr h => ?_)
  obtain ⟨R, i, d, ns, c, rfl, rd, k1, k2⟩ := h
  have h_Reader_sign := ok_sign (P := P) (w := w) (base := base) T
  refine ⟨_, (pss_cons (ps_if (pt_cmpR op_ne (pmeth0 h_Reader_sign (c_Reader T) (m_Reader_sign T) (hr.mono (by omega)) passL (pv 0)) (pv 1) (nomark _)) (pss_one (ps_ret pe_bl)) pss_nil)
  (pss_cons (ps_fldaug (pv 0) pe_int in_add)
  (pss_one (ps_ret pe_bl)))), ?_⟩
  refine ⟨_, rfl, R.p, R.dx, _, rfl, rd.o, rfl, R, i, d, ns, rfl, rd, ?_⟩
  refine ⟨_, rfl, rfl, _, rfl, ?_⟩
  rw [sg_eq]
  by_cases hc : cAt R.ss i = some c
  · rw [decide_eq_true hc]
    refine ⟨_, rfl, R.p, _, R.dx, _, _, rfl, rd.o, c_Reader T, n_Reader_at T, rf_at .., _, _, rfl, rfl, R.dx, _, rd.o, by show 5 < 1000; decide, ?_⟩
    rw [rf_putAt1]
    exact k1 hc _ rd.put
  · rw [decide_eq_false hc]
    exact k2 hc
def spExpect (K : PySem.W.Frag) : Sp := fun vs H Q E => ∃ (R : Rdv) (i d : Nat) (ns : List Nat) (c : Nat) (m : Str), vs = [.ref R.p, .str ⟨#[c]⟩, .str m] ∧ Rdr K R i d ns H ∧
  (cAt R.ss i = some c → ∀ H', Went K R (i + 1) d ns H H' → Q .non H') ∧ (cAt R.ss i ≠ some c → Fl K R H E (pAt R.ss R.n i) m)
theorem ok_expect (T : Tx K mg) : Has P w K mg base 4 (a_Reader_expect K) p_Reader_expect (spExpect K) := by
  refine has_of (f_Reader_expect T) (z_Reader_expect T) (b_Reader_expect T) (fun vs H Q E h => by obtain ⟨_, _, _, _, _, _, rfl, _⟩ := h; rfl) (fun cdv A outer s H vs Q E hr h => ?_)
  obtain ⟨R, i, d, ns, c, m, rfl, rd, k1, k2⟩ := h
  have h_Reader_is_next := ok_next (P := P) (w := w) (base := base) T
  have h_Reader_refuse := ok_refuse (P := P) (w := w) (base := base) T
  refine ⟨_, (pss_one (ps_if (pt_not (pt_val (pmeth h_Reader_is_next (c_Reader T) (m_Reader_is_next T) (hr.mono (by omega)) passL (pv 0) (pa_cons (pv 1) pa_nil)))) (pss_one (ps_expr (pmeth h_Reader_refuse (c_Reader T) (m_Reader_refuse T) (hr.mono (by omega)) px_of (pv 0) (pa_cons (pv 2) pa_nil)))) pss_nil)), ?_⟩
  refine ⟨_, rfl, R.p, R.dx, _, rfl, rd.o, rfl, _, rfl, R, i, d, ns, c, rfl, rd, fun hc H' W => ⟨_, rfl, k1 hc H' W⟩, fun hc => ⟨_, rfl, ?_⟩⟩
  exact ⟨_, rfl, R.p, R.dx, _, rfl, rd.o, rfl, _, rfl, R, i, d, ns, m, rfl, rd, k2 hc⟩
end
end K20
namespace Pb
open PySem L2 Sl
abbrev sg (l : List Nat) : Str := ⟨l.toArray⟩
theorem sg_len (l : List Nat) : (sg l).length = l.length := by simp [Str.length]
theorem sg_app (a b : List Nat) : sg a ++ sg b = sg (a ++ b) := congrArg Str.mk (show a.toArray ++ b.toArray = (a ++ b).toArray by simp)
theorem sg_inj {a b : List Nat} (h : sg a = sg b) : a = b := by
  have := congrArg (fun s : Str => s.cps.toList) h
  simpa using this
/-- a sign compared -/
theorem sgE {c : Nat} {s : Str} (k : Nat) (h : s = ⟨#[k]⟩ := by decide +kernel) : V.bl (decide (V.str ⟨#[c]⟩ = V.str s)) = V.bl (decide (c = k)) := by
  subst h
  by_cases e : c = k
  · subst e
    rw [decide_eq_true rfl, decide_eq_true rfl]
  · rw [decide_eq_false e, decide_eq_false]
    intro z
    have z2 : #[c] = (#[k] : Array Nat) := congrArg Str.cps (V.str.inj z)
    exact e (by simpa using z2)
theorem sgN {c : Nat} {s : Str} (k : Nat) (h : s = ⟨#[k]⟩ := by decide +kernel) : V.bl (!decide (V.str ⟨#[c]⟩ = V.str s)) = V.bl (!decide (c = k)) := by
  have := V.bl.inj (sgE (c := c) k h)
  rw [this]
theorem dg_list : ("0123456789" : Str).cps.toList = [48, 49, 50, 51, 52, 53, 54, 55, 56, 57] := by decide +kernel
theorem dg_mem (c : Nat) : decide (c ∈ ("0123456789" : Str).cps.toList) = isDg c := by
  rw [dg_list]
  unfold isDg
  rw [Bool.eq_iff_iff]
  simp only [decide_eq_true_eq, List.mem_cons, List.not_mem_nil, or_false]
  omega
theorem lt_list : ("abcdef" : Str).cps.toList = [97, 98, 99, 100, 101, 102] := by decide +kernel
theorem lt_mem (c : Nat) : decide (c ∈ ("abcdef" : Str).cps.toList) = isLt c := by
  rw [lt_list]
  unfold isLt
  rw [Bool.eq_iff_iff]
  simp only [decide_eq_true_eq, List.mem_cons, List.not_mem_nil, or_false]
  omega
theorem cp_list : ("ABCDEFGHIJKLMNOPQRSTUVWXYZ" : Str).cps.toList = [65, 66, 67, 68, 69, 70, 71, 72, 73, 74, 75, 76, 77, 78, 79, 80, 81, 82, 83, 84, 85, 86, 87, 88, 89, 90] := by decide +kernel
theorem cp_mem (c : Nat) : decide (c ∈ ("ABCDEFGHIJKLMNOPQRSTUVWXYZ" : Str).cps.toList) = isCp c := by
  rw [cp_list]
  unfold isCp
  rw [Bool.eq_iff_iff]
  simp only [decide_eq_true_eq, List.mem_cons, List.not_mem_nil, or_false]
  omega
theorem at0 (c : Nat) (l : List Nat) : atI (sg (c :: l)).cps.toList 0 = some c := by
  show atI (c :: l).toArray.toList 0 = some c
  simp [atI, ixN]
theorem sz4 {n : Nat} (h : n ≤ 1000) : n ≤ sizeLine := Nat.le_trans h (by decide)
end Pb
namespace Sl
open PySem PySem.Spec
open PyProof.Rows L2
theorem ifBH {A B : Prop} {b : Bool} (h1 : b = true → A) (h2 : b = false → B) : if b = true then A else B := by
  cases b with
  | true => exact iteT (h1 rfl)
  | false => exact iteF (h2 rfl)
theorem hand {te : TE} {σ : L2.St} {H : Hp} {R : VK} (G : VK) (h1 : ∀ R' : VK, (∀ v H', G v H' → R' v H') → te σ H R') (h2 : ∀ v H', G v H' → R v H') : te σ H R := h1 R h2
theorem handT {tt : TT} {σ : L2.St} {H : Hp} {R : Bool → Hp → Prop} (G : Bool → Hp → Prop) (h1 : ∀ R' : Bool → Hp → Prop, (∀ v H', G v H' → R' v H') → tt σ H R') (h2 : ∀ v H', G v H' → R v H') : tt σ H R := h1 R h2
theorem vdec (v : V) : V.bl (decide (v = v)) = .bl true := by rw [decide_eq_true rfl]
theorem kdec {Q : VK} {H : Hp} (v : V) (h : Q (.bl true) H) : Q (.bl (decide (v = v))) H := by
  rw [decide_eq_true rfl]
  exact h
theorem ndec {v u : V} (h : v ≠ u) : V.bl (decide (v = u)) = .bl false := by rw [decide_eq_false h]
theorem ndecN {v u : V} (h : v = u) : V.bl (!decide (v = u)) = .bl false := by rw [decide_eq_true h] <;> rfl
theorem pdecN {v u : V} (h : v ≠ u) : V.bl (!decide (v = u)) = .bl true := by rw [decide_eq_false h] <;> rfl
end Sl
namespace K20
open PySem PySem.Spec
open PyProof.Rows L2 Sl Pb
section
variable {P : Program} {w : World} {K : PySem.W.Frag} {mg : Str → Option Value} {base : Heap} {R : Rdv} {i j d k : Nat} {ns : List Nat} {H H1 H2 : Hp} {E E' : XK} {Q : VK} {σ : L2.St} {B : Bool → Hp → Prop}
/-! rules for a reader's calls -/
theorem rSign (h : σ[k]? = some (some (.ref R.p))) (r : Rdr K R i d ns H) (q : Q (.str (sgAt R.ss i)) H) : tMeth (cR K) "sign" (spSign K) [] E (tVar k) tNil σ H Q :=
  ⟨_, h, R.p, R.dx, _, rfl, r.o, rfl, R, i, d, ns, rfl, r, q⟩
theorem rNext {z : Str} (c : Nat) (h : σ[k]? = some (some (.ref R.p))) (r : Rdr K R i d ns H) (k1 : cAt R.ss i = some c → ∀ H', Went K R (i + 1) d ns H H' → B true H') (k2 : cAt R.ss i ≠ some c → B false H) (hz : z = ⟨#[c]⟩ := by rfl) :
    tB (tMeth (cR K) "is_next" (spNext K) [] E (tVar k) (tCons (tC (.str z)) tNil)) σ H B := by
  subst hz
  exact ⟨_, h, R.p, R.dx, _, rfl, r.o, rfl, R, i, d, ns, c, rfl, r, fun e H' w => ⟨_, rfl, k1 e H' w⟩, fun e => ⟨_, rfl, k2 e⟩⟩
theorem rExpect {z m : Str} (c : Nat) (h : σ[k]? = some (some (.ref R.p))) (r : Rdr K R i d ns H) (k1 : cAt R.ss i = some c → ∀ H', Went K R (i + 1) d ns H H' → Q .non H') (k2 : cAt R.ss i ≠ some c → Fl K R H E (pAt R.ss R.n i) m) (hz : z = ⟨#[c]⟩ := by rfl) :
    tMeth (cR K) "expect" (spExpect K) [] E (tVar k) (tCons (tC (.str z)) (tCons (tC (.str m)) tNil)) σ H Q := by
  subst hz
  exact ⟨_, h, R.p, R.dx, _, rfl, r.o, rfl, R, i, d, ns, c, m, rfl, r, k1, k2⟩
theorem rRefuse {m : Str} (h : σ[k]? = some (some (.ref R.p))) (r : Rdr K R i d ns H) (f : Fl K R H E (pAt R.ss R.n i) m) : tMeth (cR K) "refuse" (spRefuse K) [] E (tVar k) (tCons (tC (.str m)) tNil) σ H Q :=
  ⟨_, h, R.p, R.dx, _, rfl, r.o, rfl, R, i, d, ns, m, rfl, r, f⟩
theorem sg_nonil {c : Nat} : (V.str ⟨#[c]⟩) ≠ V.str "" := by
  intro z
  have z2 : #[c] = (#[] : Array Nat) := congrArg Str.cps (V.str.inj z)
  simp at z2
/-- the next sign is there, and one of some -/
theorem rIn {z : Str} (h : σ[k]? = some (some (.ref R.p))) (r : Rdr K R i d ns H) (k1 : ∀ c, cAt R.ss i = some c → decide (c ∈ z.cps.toList) = true → B true H) (k2 : (∀ c, cAt R.ss i = some c → decide (c ∈ z.cps.toList) = false) → B false H) :
    tAnd (tTest (tOp rNe (tMeth (cR K) "sign" (spSign K) [] E (tVar k) tNil) (tC (.str "")))) (tTest (tOp rInSg (tMeth (cR K) "sign" (spSign K) [] E' (tVar k) tNil) (tC (.str z)))) σ H B := by
  refine rSign h r ⟨rfl, ?_⟩
  cases hc : cAt R.ss i with
  | none =>
    have e : sgAt R.ss i = ⟨#[]⟩ := by unfold sgAt; rw [hc]
    rw [e]
    exact ⟨false, ndecN (by rfl), k2 (fun c z => by rw [hc] at z; cases z)⟩
  | some c =>
    have e : sgAt R.ss i = ⟨#[c]⟩ := by unfold sgAt; rw [hc]
    rw [e]
    refine ⟨true, pdecN sg_nonil, rSign h r ⟨c, z, by rw [e], rfl, decide (c ∈ z.cps.toList), rfl, ?_⟩⟩
    cases hd : decide (c ∈ z.cps.toList) with
    | true => exact k1 c hc hd
    | false => exact k2 (fun c' z' => by rw [hc] at z'; cases z'; exact hd)
def spNum (K : PySem.W.Frag) : Sp := fun vs H Q E => ∃ (R : Rdv) (i d : Nat) (ns : List Nat), vs = [.ref R.p] ∧ Rdr K R i d ns H ∧ R.ss.length ≤ 400 ∧ match numP R.ss R.n i with
  | .bad pl m => Fl K R H E pl m
  | .ok v j => ∀ H', Went K R j d ns H H' → Q (.int (v : Int)) H'
theorem rNum (h : σ[k]? = some (some (.ref R.p))) (r : Rdr K R i d ns H) (hl : R.ss.length ≤ 400) (k1 : ∀ pl m, numP R.ss R.n i = .bad pl m → Fl K R H E pl m) (k2 : ∀ v j, numP R.ss R.n i = .ok v j → ∀ H', Went K R j d ns H H' → Q (.int (v : Int)) H') :
    tMeth (cR K) "number_told" (spNum K) [] E (tVar k) tNil σ H Q := by
  refine ⟨_, h, R.p, R.dx, _, rfl, r.o, rfl, R, i, d, ns, rfl, r, hl, ?_⟩
  cases e : numP R.ss R.n i with
  | bad pl m => exact k1 pl m e
  | ok v j => exact k2 v j e
theorem ok_num (T : Tx K mg) : Has P w K mg base 4 (a_Reader_number_told K) p_Reader_number_told (spNum K) := by
  refine has_of (f_Reader_number_told T) (z_Reader_number_told T) (b_Reader_number_told T) (fun vs H Q E h => by obtain ⟨_, _, _, _, rfl, _⟩ := h; rfl) (fun cdv A outer s H vs Q E hr h => ?_)
  obtain ⟨R, i, d, ns, rfl, rd, hl, k⟩ := h
  have h_Reader_sign := ok_sign (P := P) (w := w) (base := base) T
  have h_Reader_refuse := ok_refuse (P := P) (w := w) (base := base) T
  refine ⟨_, (pss_cons (ps_par (i := 1) (j := 2) rfl (z_Reader_number_told T).nd rfl rfl (by decide) rfl rfl (pa_cons (fldK K (pv 0)) (pa_cons pe_str pa_nil)) rfl)
  (pss_cons (ps_while (passes_of rfl) (PW.pt (pw_and (pt_cmpR op_ne (pmeth0 h_Reader_sign (c_Reader T) (m_Reader_sign T) (hr.mono (by omega)) passL (pv 0)) pe_str (nomark _)) (pw_and1 (pt_cmpR oInSg (pmeth0 h_Reader_sign (c_Reader T) (m_Reader_sign T) (hr.mono (by omega)) passL (pv 0)) (pgs (i_DIGITS T)) rfl)))) (pss_cons (ps_set (i := 2) (z_Reader_number_told T).nd rfl (Or.inl rfl) (pe_op oAddS (pv 2) (pmeth0 h_Reader_sign (c_Reader T) (m_Reader_sign T) (hr.mono (by omega)) passL (pv 0))))
  (pss_one (ps_fldaug (pv 0) pe_int in_add))))
  (pss_cons (ps_if (PW.pt (pw_or (pt_cmpR op_eq (pv 2) pe_str (nomark _)) (pw_or1 (PW.pt (pw_and (pt_cmpR oGtI (pe_callB call_len_str (by rfl) (l_len T) (by decide +kernel) (pa_cons (pv 2) pa_nil)) pe_int (nomark _)) (pw_and1 (pt_cmpR op_eq (pe_ix ix_str (pv 2) pe_int (fun _ _ => rfl)) pe_str (nomark _)))))))) (pss_cons (ps_fld (pv 0) (pv 1) rfl)
  (pss_one (ps_expr (pmeth h_Reader_refuse (c_Reader T) (m_Reader_refuse T) (hr.mono (by omega)) px_of (pv 0) (pa_cons pe_str pa_nil))))) pss_nil)
  (pss_cons (ps_if (PW.pt (pw_or (pt_cmpR oGtI (pe_callB call_len_str (by rfl) (l_len T) (by decide +kernel) (pa_cons (pv 2) pa_nil)) pe_int (nomark _)) (pw_or1 (pt_cmpR oGtI (pe_callTy call_int_str (by rfl) (l_int T) (by decide +kernel) (pa_cons (pv 2) pa_nil)) (pgi (i_MOST_NUMBER T)) (nomark _))))) (pss_cons (ps_fld (pv 0) (pv 1) rfl)
  (pss_one (ps_expr (pmeth h_Reader_refuse (c_Reader T) (m_Reader_refuse T) (hr.mono (by omega)) px_of (pv 0) (pa_cons pe_str pa_nil))))) pss_nil)
  (pss_one (ps_ret (pe_callTy call_int_str (by rfl) (l_int T) (by decide +kernel) (pa_cons (pv 2) pa_nil)))))))), ?_⟩
  refine ⟨_, rfl, R.p, _, R.dx, _, _, rfl, rd.o, c_Reader T, n_Reader_at T, rf_at .., _, _, rfl, ?_⟩
  refine ⟨fun m σ H1 => ∃ (pre : List Nat), σ = [some (.ref R.p), some (.int (i : Int)), some (.str (sg pre))] ∧ Went K R (i + pre.length) d ns H H1 ∧ dgs R.ss i = pre ++ dgs R.ss (i + pre.length) ∧ m = (dgs R.ss (i + pre.length)).length, ⟨_, [], rfl, Went.refl rd, rfl, rfl⟩, ?_⟩
  rintro m σ H1 ⟨pre, rfl, W, hpre, rfl⟩
  refine rIn (k := 0) rfl W.r (fun c hc hd => ?_) (fun hn => ?_)
  · rw [dg_mem] at hd
    have hds := dgs_some hc hd
    refine ⟨fun σ' H' => ∃ (pre' : List Nat), σ' = [some (.ref R.p), some (.int (i : Int)), some (.str (sg pre'))] ∧ Went K R (i + pre'.length) d ns H H' ∧ dgs R.ss i = pre' ++ dgs R.ss (i + pre'.length) ∧ pre'.length = pre.length + 1, ?_, ?_⟩
    · rintro σ' H' ⟨pre', rfl, W', h', hl'⟩
      refine ⟨_, ?_, pre', rfl, W', h', rfl⟩
      rw [hds, List.length_cons, hl']
      exact Nat.lt_succ_self _
    · have e : sgAt R.ss (i + pre.length) = sg [c] := by unfold sgAt; rw [hc]
      have hpl : pre.length ≤ 400 := by
        have h1 := dgs_len R.ss i
        rw [hpre, List.length_append] at h1
        omega
      refine ⟨_, rfl, rSign rfl W.r ⟨_, _, rfl, rfl, ?_, ?_⟩⟩
      · rw [e, sg_len, sg_len]
        exact sz4 (by simp; omega)
      · rw [e, sg_app]
        refine ⟨_, rfl, R.p, _, R.dx, _, _, rfl, W.r.o, c_Reader T, n_Reader_at T, rf_at .., _, _, rfl, rfl, R.dx, _, W.r.o, by show 5 < 1000; decide, ?_⟩
        rw [rf_putAt1]
        refine ⟨pre ++ [c], rfl, ?_, ?_, by simp⟩
        · rw [List.length_append]
          exact W.trans W.r.put
        · rw [hpre, hds]
          simp [Nat.add_assoc]
  · have h0 : dgs R.ss (i + pre.length) = [] := dgs_none fun c hc => by rw [← dg_mem]; exact hn c hc
    have hg : dgs R.ss i = pre := by rw [hpre, h0, List.append_nil]
    have hpl : pre.length ≤ 400 := by
      have h1 := dgs_len R.ss i
      rw [hg] at h1
      omega
    have hall := dgs_all R.ss i
    rw [hg] at hall
    unfold numP at k
    rw [hg] at k
    -- the place is put back, and refused
    have back : ∀ (m : Str), Fl K R H E (pAt R.ss R.n i) m → ∀ D : Ends, tSeq (sFld K (tVar 0) (tVar 1) "at") (tDrop (tMeth (cR K) "refuse" (spRefuse K) [] E (tVar 0) (tCons (tC (.str m)) tNil))) D [some (.ref R.p), some (.int (i : Int)), some (.str (sg pre))] H1 := fun m f D => by
      refine ⟨_, rfl, _, rfl, R.p, _, R.dx, _, rfl, W.r.o, c_Reader T, n_Reader_at T, by show 5 < 1000; decide, ?_⟩
      rw [rf_putAt]
      have W2 : Went K R i d ns H _ := W.trans W.r.put
      exact rRefuse rfl W2.r (f.later W2)
    refine iteF ?_
    dsimp only
    refine handT (tt := tOr _ _) (G := fun b H' => H' = H1 ∧ b = decide (pre = [] ∨ (1 < pre.length ∧ pre.head? = some 48))) (fun B kk => ?_) (fun b H' g => ?_)
    · refine ⟨_, rfl, rfl, decide (pre = []), ?_, ?_⟩
      · congr 1
        refine decide_eq_decide.mpr ⟨fun z => ?_, fun z => by rw [z]; rfl⟩
        have z2 : sg pre = sg [] := V.str.inj z
        exact sg_inj z2
      · cases pre with
        | nil => exact kk _ _ ⟨rfl, by simp⟩
        | cons c pre =>
          rw [decide_eq_false (show ¬ (c :: pre) = [] by simp)]
          refine ⟨_, rfl, _, rfl, by rw [sg_len]; exact sz4 (Nat.le_trans hpl (by decide)), _, _, rfl, rfl, decide (1 < (c :: pre).length), ?_, ?_⟩
          · rw [sg_len]
            congr 1
            exact decide_eq_decide.mpr (by omega)
          · by_cases h1 : 1 < (c :: pre).length
            · rw [decide_eq_true h1]
              refine ⟨_, rfl, _, _, c, rfl, rfl, by rw [sg_len]; exact sz4 (Nat.le_trans hpl (by decide)), at0 c pre, rfl, decide (c = 48), sgE 48, kk _ _ ⟨rfl, ?_⟩⟩
              simp only [List.head?_cons, Option.some.injEq]
              exact decide_eq_decide.mpr ⟨fun z => .inr ⟨h1, z⟩, fun z => z.elim (fun z => by cases z) (·.2)⟩
            · rw [decide_eq_false h1]
              exact kk _ _ ⟨rfl, (decide_eq_false (fun z => z.elim (fun z => by cases z) (fun z => h1 z.1))).symm⟩
    · obtain ⟨rfl, rfl⟩ := g
      by_cases c1 : pre = [] ∨ (1 < pre.length ∧ pre.head? = some 48)
      · rw [if_pos c1] at k
        rw [decide_eq_true c1]
        exact back _ k _
      · rw [if_neg c1] at k
        rw [decide_eq_false c1]
        have hne : pre ≠ [] := fun z => c1 (.inl z)
        have hint : pre.length ≤ 640 → PySem.intText? (sg pre) = some ((NumText.digitsVal pre : Nat) : Int) := fun h => by
          have := PySem.intText_digits (x := sg pre) (fun c hc => ?_) (by simpa using hne) (by rw [sg_len]; omega)
          · simpa using this
          · have := hall c (by simpa using hc)
            exact of_decide_eq_true this
        refine ⟨_, rfl, _, rfl, by rw [sg_len]; exact sz4 (Nat.le_trans hpl (by decide)), _, _, rfl, rfl, decide (10 < pre.length), ?_, ?_⟩
        · rw [sg_len]
          congr 1
          exact decide_eq_decide.mpr (by omega)
        · by_cases c2 : 10 < pre.length
          · rw [if_pos (.inl c2)] at k
            rw [decide_eq_true c2]
            exact back _ k _
          · rw [decide_eq_false c2]
            refine ⟨_, rfl, _, _, rfl, hint (by omega), by rw [sg_len]; omega, _, _, rfl, rfl, decide (1000000000 < NumText.digitsVal pre), ?_, ?_⟩
            · congr 1
              exact decide_eq_decide.mpr (by omega)
            · by_cases c3 : 1000000000 < NumText.digitsVal pre
              · rw [if_pos (.inr c3)] at k
                rw [decide_eq_true c3]
                exact back _ k _
              · rw [if_neg (by omega)] at k
                rw [decide_eq_false c3]
                exact ⟨_, rfl, _, _, rfl, hint (by omega), by rw [sg_len]; omega, k _ W⟩
end
end K20
namespace Pb
open PySem L2 Sl
def glueD (v u : Nat) (t : D) : D := .tup [.str "glue", .int (v : Int), .int (u : Int), t]
def hideD (v : Nat) (t : D) : D := .tup [.str "hide", .int (v : Int), t]
def powerD (v : Nat) (t : D) : D := .tup [.str "power", .int (v : Int), t]
def roundD (t : D) : D := .tup [.str "round", t]
def orderD (vs : List Nat) (t : D) : D := .tup [.str "order", .tup (vs.map fun (v : Nat) => D.int (v : Int)), t]
def besideD (t u : D) : D := .tup [.str "beside", t, u]
def overD (v : Nat) (t u : D) : D := .tup [.str "over", .int (v : Int), t, u]
def nameD (c : Nat) : D := .tup [.str "name", .str ⟨#[c]⟩]
def doorD (p : Nat × D) : D := .tup [.int (p.1 : Int), p.2]
def letterD (k : Nat) (ds : List (Nat × D)) : D := .tup [.str "letter", .int (k : Int), .tup (ds.map doorD)]
def bracketsP (ss : Sg) (n : Nat) (t : D) (i : Nat) : Rz := match numP ss n i with
  | .bad p m => .bad p m
  | .ok v j => if cAt ss j = some 61 then (match numP ss n (j + 1) with
      | .bad p m => .bad p m
      | .ok u j2 => if cAt ss j2 = some 93 then .ok (glueD v u t) (j2 + 1) else .bad (pAt ss n j2) "expected ]")
    else if cAt ss j = some 93 then .ok (hideD v t) (j + 1) else .bad (pAt ss n j) "expected = or ]"
inductive Ro where
  | bad (p : Nat) (m : Str) | ok (vs : List Nat) (i : Nat)
def orderL (ss : Sg) (n : Nat) : Nat → List Nat → Nat → Option Ro
  | 0, _, _ => none
  | f + 1, vs, i => if cAt ss i = some 44 then (match numP ss n (i + 1) with
      | .bad p m => some (.bad p m)
      | .ok v j => orderL ss n f (vs ++ [v]) j) else if cAt ss i = some 62 then some (.ok vs (i + 1)) else some (.bad (pAt ss n i) "expected , or >")
def orderP (ss : Sg) (n f i : Nat) : Option Ro := if cAt ss i = some 62 then some (.ok [] (i + 1)) else match numP ss n i with
  | .bad p m => some (.bad p m)
  | .ok v j => orderL ss n f [v] j
mutual
def nestP (ss : Sg) (n : Nat) (ns : List Nat) : Nat → Nat → Nat → Option Rz
  | 0, _, _ => none
  | f + 1, d, i => match itemP ss n ns f d i with
    | some (.ok t j) => nestL ss n ns f d t j
    | r => r
def nestL (ss : Sg) (n : Nat) (ns : List Nat) : Nat → Nat → D → Nat → Option Rz
  | 0, _, _, _ => none
  | f + 1, d, t, i => if cAt ss i = some 43 then (match itemP ss n ns f d (i + 1) with
      | some (.ok u j) => nestL ss n ns f d (besideD t u) j
      | r => r) else some (.ok t i)
def itemP (ss : Sg) (n : Nat) (ns : List Nat) : Nat → Nat → Nat → Option Rz
  | 0, _, _ => none
  | f + 1, d, i => match atomP ss n ns f d i with
    | some (.ok t j) => itemL ss n ns f d t j
    | r => r
def itemL (ss : Sg) (n : Nat) (ns : List Nat) : Nat → Nat → D → Nat → Option Rz
  | 0, _, _, _ => none
  | f + 1, d, t, i => if cAt ss i = some 47 then (match numP ss n (i + 1) with
      | .bad p m => some (.bad p m)
      | .ok v j => match atomP ss n ns f d j with
        | some (.ok u j2) => itemL ss n ns f d (overD v t u) j2
        | r => r) else some (.ok t i)
def atomP (ss : Sg) (n : Nat) (ns : List Nat) : Nat → Nat → Nat → Option Rz
  | 0, _, _ => none
  | f + 1, d, i => match groundP ss n ns f d i with
    | some (.ok t j) => atomL ss n ns f d t j
    | r => r
def atomL (ss : Sg) (n : Nat) (ns : List Nat) : Nat → Nat → D → Nat → Option Rz
  | 0, _, _, _ => none
  | f + 1, d, t, i =>
    if cAt ss i = some 91 then (match bracketsP ss n t (i + 1) with
      | .ok u j => atomL ss n ns f d u j
      | r => some r)
    else if cAt ss i = some 94 then (match numP ss n (i + 1) with
      | .ok v j => atomL ss n ns f d (powerD v t) j
      | .bad p m => some (.bad p m))
    else if cAt ss i = some 126 then atomL ss n ns f d (roundD t) (i + 1)
    else if cAt ss i = some 60 then (match orderP ss n f (i + 1) with
      | some (.ok vs j) => atomL ss n ns f d (orderD vs t) j
      | some (.bad p m) => some (.bad p m)
      | none => none)
    else some (.ok t i)
def groundP (ss : Sg) (n : Nat) (ns : List Nat) : Nat → Nat → Nat → Option Rz
  | 0, _, _ => none
  | f + 1, d, i => if cAt ss i = some 40 then (if d = 20 then some (.bad (pAt ss n i) "this is too deep") else match nestP ss n ns f (d + 1) (i + 1) with
      | some (.ok t j) => if cAt ss j = some 41 then some (.ok t (j + 1)) else some (.bad (pAt ss n j) "expected )")
      | r => r)
    else match cAt ss i with
      | none => some (.bad (pAt ss n i) "expected a maze")
      | some c => if isCp c then (if c ∈ ns then some (.ok (nameD c) (i + 1)) else some (.bad (pAt ss n i) "this name is not there"))
        else if isLt c then filledL ss n ns f d (c - 97) [] (i + 1) else some (.bad (pAt ss n i) "expected a maze")
def filledL (ss : Sg) (n : Nat) (ns : List Nat) : Nat → Nat → Nat → List (Nat × D) → Nat → Option Rz
  | 0, _, _, _, _ => none
  | f + 1, d, k, ds, i => if cAt ss i = some 123 then (if d = 20 then some (.bad (pAt ss n i) "this is too deep") else match numP ss n (i + 1) with
      | .bad p m => some (.bad p m)
      | .ok v j => if cAt ss j = some 58 then (match nestP ss n ns f (d + 1) (j + 1) with
          | some (.ok t j2) => if cAt ss j2 = some 125 then filledL ss n ns f d k (ds ++ [(v, t)]) (j2 + 1) else some (.bad (pAt ss n j2) "expected }")
          | r => r) else some (.bad (pAt ss n j) "expected a colon"))
    else some (.ok (letterD k ds) i)
end
end Pb
namespace K20
open PySem PySem.Spec
open PyProof.Rows L2 Sl Pb
section
variable {P : Program} {w : World} {K : PySem.W.Frag} {mg : Str → Option Value} {base : Heap} {R : Rdv} {i j d k : Nat} {ns : List Nat} {H H1 H2 : Hp} {E E' : XK} {Q : VK} {σ : L2.St} {B : Bool → Hp → Prop}
/-- the ends of a reading -/
def Out (K : PySem.W.Frag) (R : Rdv) (d : Nat) (ns : List Nat) (H : Hp) (Q : VK) (E : XK) : Rz → Prop
  | .bad pl m => Fl K R H E pl m
  | .ok t j => ∀ v H', Went K R j d ns H H' → RD K H' t v → Q v H'
theorem Out.mk {r : Rz} (k1 : ∀ pl m, r = .bad pl m → Fl K R H E pl m) (k2 : ∀ t j, r = .ok t j → ∀ v H', Went K R j d ns H H' → RD K H' t v → Q v H') : Out K R d ns H Q E r := by
  cases r with
  | bad pl m => exact k1 pl m rfl
  | ok t j => exact k2 t j rfl
abbrev Par := Sg → Nat → List Nat → Nat → Nat → Nat → Option Rz
def spPar (K : PySem.W.Frag) (F : Par) (d : Nat) : Sp := fun vs H Q E => ∃ (R : Rdv) (i : Nat) (ns : List Nat) (f : Nat) (r : Rz), vs = [.ref R.p] ∧ Rdr K R i d ns H ∧ R.ss.length ≤ 400 ∧ f ≤ 1000000 ∧ F R.ss R.n ns f d i = some r ∧ Out K R d ns H Q E r
theorem par_len {F : Par} {vs : List V} (h : spPar K F d vs H Q E) : vs.length = 1 := by obtain ⟨_, _, _, _, _, rfl, _⟩ := h; rfl
/-- a method that reads -/
theorem rPar {F : Par} {m : Str} {f : Nat} {r : Rz} (h : σ[k]? = some (some (.ref R.p))) (rd : Rdr K R i d ns H) (hl : R.ss.length ≤ 400) (hfu : f ≤ 1000000) (hf : F R.ss R.n ns f d i = some r)
    (k1 : ∀ pl m, r = .bad pl m → Fl K R H E pl m) (k2 : ∀ t j, r = .ok t j → ∀ v H', Went K R j d ns H H' → RD K H' t v → Q v H') (hm : (rf R i d).lookup m = none := by rfl) :
    tMeth (cR K) m (spPar K F d) [] E (tVar k) tNil σ H Q :=
  ⟨_, h, R.p, R.dx, _, rfl, rd.o, hm, R, i, ns, f, r, rfl, rd, hl, hfu, hf, .mk k1 k2⟩
theorem two_sz (a b : V) : [a, b].length ≤ sizeLine := by show 2 ≤ sizeLine; decide
theorem three_sz (a b c : V) : [a, b, c].length ≤ sizeLine := by show 3 ≤ sizeLine; decide
theorem four_sz (a b c e : V) : [a, b, c, e].length ≤ sizeLine := by show 4 ≤ sizeLine; decide
theorem ok_nest (T : Tx K mg) {k : Nat} (h_Reader_item : Has P w K mg base (k + 4) (a_Reader_item K) p_Reader_item (spPar K itemP d)) : Has P w K mg base (k + 5) (a_Reader_nest K) p_Reader_nest (spPar K nestP d) := by
  refine has_of (f_Reader_nest T) (z_Reader_nest T) (b_Reader_nest T) (fun vs H Q E h => par_len h) (fun cdv A outer s H vs Q E hr h => ?_)
  obtain ⟨R, i, ns, f, r, rfl, rd, hl, hfu, hf, k⟩ := h
  have h_Reader_is_next := ok_next (P := P) (w := w) (base := base) T
  refine ⟨_, (pss_cons (ps_set (i := 1) (z_Reader_nest T).nd rfl (Or.inl rfl) (pmeth0 h_Reader_item (c_Reader T) (m_Reader_item T) (hr.mono (by omega)) px_of (pv 0)))
  (pss_cons (ps_while (passes_of rfl) (pt_val (pmeth h_Reader_is_next (c_Reader T) (m_Reader_is_next T) (hr.mono (by omega)) passL (pv 0) (pa_cons pe_str pa_nil))) (pss_one (ps_set (i := 1) (z_Reader_nest T).nd rfl (Or.inl rfl) (pe_tup (pa_cons pe_str (pa_cons (pv 1) (pa_cons (pmeth0 h_Reader_item (c_Reader T) (m_Reader_item T) (hr.mono (by omega)) px_of (pv 0)) pa_nil)))))))
  (pss_one (ps_ret (pv 1))))), ?_⟩
  cases f with
  | zero => simp [nestP] at hf
  | succ f =>
  simp only [nestP] at hf
  cases hi : itemP R.ss R.n ns f d i with
  | none => rw [hi] at hf; cases hf
  | some r1 =>
  rw [hi] at hf
  refine rPar (k := 0) rfl rd hl (by omega) hi (fun pl m e => ?_) (fun t0 j0 e v0 H0 W0 r0 => ?_)
  · subst e
    obtain rfl : Rz.bad pl m = r := Option.some.inj hf
    exact k
  subst e
  refine ⟨fun m σ H1 => m ≤ 1000000 ∧ ∃ t i1 v, σ = [some (.ref R.p), some v] ∧ Went K R i1 d ns H H1 ∧ RD K H1 t v ∧ nestL R.ss R.n ns m d t i1 = some r, ⟨f, by omega, t0, j0, v0, rfl, W0, r0, hf⟩, ?_⟩
  rintro m σ H1 ⟨hmu, t, i1, v, rfl, W, rv, hm⟩
  cases m with
  | zero => simp [nestL] at hm
  | succ m =>
  simp only [nestL] at hm
  refine rNext (k := 0) 43 rfl W.r (fun c H2 W2 => ?_) (fun c => ?_)
  · rw [if_pos c] at hm
    have W3 := W.trans W2
    refine ⟨fun σ' H' => ∃ t i1 v, σ' = [some (.ref R.p), some v] ∧ Went K R i1 d ns H H' ∧ RD K H' t v ∧ nestL R.ss R.n ns m d t i1 = some r, fun σ' H' h => ⟨m, Nat.lt_succ_self m, by omega, h⟩, ?_⟩
    cases hi : itemP R.ss R.n ns m d (i1 + 1) with
    | none => rw [hi] at hm; cases hm
    | some r1 =>
      rw [hi] at hm
      refine ⟨_, rfl, rPar (k := 0) rfl W3.r hl (by omega) hi (fun pl msg e => ?_) (fun u j e v2 H3 W4 rv2 => ?_)⟩
      · subst e
        obtain rfl : Rz.bad pl msg = r := Option.some.inj hm
        exact Fl.later k W3
      · subst e
        refine ⟨three_sz _ _ _, fun q hq => ⟨_, j, _, rfl, (W3.trans W4).new hq, ?_, hm⟩⟩
        exact .tup (.inl (.inl upd_same)) (.cons (.str _) (.cons (rv.mono ((W2.t.trans W4.t).trans (ex_new hq).t)) (.cons (rv2.mono (ex_new hq).t) .nil)))
  · rw [if_neg c] at hm
    obtain rfl : Rz.ok t i1 = r := Option.some.inj hm
    exact ⟨_, rfl, k _ _ W rv⟩
theorem ok_item (T : Tx K mg) {k : Nat} (h_Reader_atom : Has P w K mg base (k + 4) (a_Reader_atom K) p_Reader_atom (spPar K atomP d)) : Has P w K mg base (k + 5) (a_Reader_item K) p_Reader_item (spPar K itemP d) := by
  refine has_of (f_Reader_item T) (z_Reader_item T) (b_Reader_item T) (fun vs H Q E h => par_len h) (fun cdv A outer s H vs Q E hr h => ?_)
  obtain ⟨R, i, ns, f, r, rfl, rd, hl, hfu, hf, k⟩ := h
  have h_Reader_is_next := ok_next (P := P) (w := w) (base := base) T
  have h_Reader_number_told := ok_num (P := P) (w := w) (base := base) T
  refine ⟨_, (pss_cons (ps_set (i := 1) (z_Reader_item T).nd rfl (Or.inl rfl) (pmeth0 h_Reader_atom (c_Reader T) (m_Reader_atom T) (hr.mono (by omega)) px_of (pv 0)))
  (pss_cons (ps_while (passes_of rfl) (pt_val (pmeth h_Reader_is_next (c_Reader T) (m_Reader_is_next T) (hr.mono (by omega)) passL (pv 0) (pa_cons pe_str pa_nil))) (pss_cons (ps_set (i := 2) (z_Reader_item T).nd rfl (Or.inl rfl) (pmeth0 h_Reader_number_told (c_Reader T) (m_Reader_number_told T) (hr.mono (by omega)) px_of (pv 0)))
  (pss_one (ps_set (i := 1) (z_Reader_item T).nd rfl (Or.inl rfl) (pe_tup (pa_cons pe_str (pa_cons (pv 2) (pa_cons (pv 1) (pa_cons (pmeth0 h_Reader_atom (c_Reader T) (m_Reader_atom T) (hr.mono (by omega)) px_of (pv 0)) pa_nil)))))))))
  (pss_one (ps_ret (pv 1))))), ?_⟩
  cases f with
  | zero => simp [itemP] at hf
  | succ f =>
  simp only [itemP] at hf
  cases hi : atomP R.ss R.n ns f d i with
  | none => rw [hi] at hf; cases hf
  | some r1 =>
  rw [hi] at hf
  refine rPar (k := 0) rfl rd hl (by omega) hi (fun pl m e => ?_) (fun t0 j0 e v0 H0 W0 r0 => ?_)
  · subst e
    obtain rfl : Rz.bad pl m = r := Option.some.inj hf
    exact k
  subst e
  refine ⟨fun m σ H1 => m ≤ 1000000 ∧ ∃ t i1 v x, σ = [some (.ref R.p), some v, x] ∧ Went K R i1 d ns H H1 ∧ RD K H1 t v ∧ itemL R.ss R.n ns m d t i1 = some r, ⟨f, by omega, t0, j0, v0, none, rfl, W0, r0, hf⟩, ?_⟩
  rintro m σ H1 ⟨hmu, t, i1, v, x, rfl, W, rv, hm⟩
  cases m with
  | zero => simp [itemL] at hm
  | succ m =>
  simp only [itemL] at hm
  refine rNext (k := 0) 47 rfl W.r (fun c H2 W2 => ?_) (fun c => ?_)
  · rw [if_pos c] at hm
    have W3 := W.trans W2
    refine ⟨fun σ' H' => ∃ t i1 v x, σ' = [some (.ref R.p), some v, x] ∧ Went K R i1 d ns H H' ∧ RD K H' t v ∧ itemL R.ss R.n ns m d t i1 = some r, fun σ' H' h => ⟨m, Nat.lt_succ_self m, by omega, h⟩, ?_⟩
    refine rNum (k := 0) rfl W3.r hl (fun pl msg e => ?_) (fun g jg e H3 W4 => ?_)
    · rw [e] at hm
      obtain rfl : Rz.bad pl msg = r := Option.some.inj hm
      exact Fl.later k W3
    · rw [e] at hm
      have W5 := W3.trans W4
      cases hi : atomP R.ss R.n ns m d jg with
      | none => simp only [hi] at hm; cases hm
      | some r1 =>
        simp only [hi] at hm
        refine ⟨_, rfl, _, rfl, rPar (k := 0) rfl W5.r hl (by omega) hi (fun pl msg e => ?_) (fun u j e v2 H4 W6 rv2 => ?_)⟩
        · subst e
          obtain rfl : Rz.bad pl msg = r := Option.some.inj hm
          exact Fl.later k W5
        · subst e
          refine ⟨four_sz _ _ _ _, fun q hq => ⟨_, j, _, _, rfl, (W5.trans W6).new hq, ?_, hm⟩⟩
          exact .tup (.inl (.inl upd_same)) (.cons (.str _) (.cons (.int _) (.cons (rv.mono (((W2.t.trans W4.t).trans W6.t).trans (ex_new hq).t)) (.cons (rv2.mono (ex_new hq).t) .nil))))
  · rw [if_neg c] at hm
    obtain rfl : Rz.ok t i1 = r := Option.some.inj hm
    exact ⟨_, rfl, k _ _ W rv⟩
def spBrackets (K : PySem.W.Frag) : Sp := fun vs H Q E => ∃ (R : Rdv) (i d : Nat) (ns : List Nat) (t : D) (b : V), vs = [.ref R.p, b] ∧ Rdr K R i d ns H ∧ R.ss.length ≤ 400 ∧ RD K H t b ∧ Out K R d ns H Q E (bracketsP R.ss R.n t i)
theorem ok_brackets (T : Tx K mg) : Has P w K mg base 5 (a_Reader_brackets K) p_Reader_brackets (spBrackets K) := by
  refine has_of (f_Reader_brackets T) (z_Reader_brackets T) (b_Reader_brackets T) (fun vs H Q E h => by obtain ⟨_, _, _, _, _, _, rfl, _⟩ := h; rfl) (fun cdv A outer s H vs Q E hr h => ?_)
  obtain ⟨R, i, d, ns, t, b, rfl, rd, hl, rb, k⟩ := h
  have h_Reader_is_next := ok_next (P := P) (w := w) (base := base) T
  have h_Reader_expect := ok_expect (P := P) (w := w) (base := base) T
  have h_Reader_number_told := ok_num (P := P) (w := w) (base := base) T
  refine ⟨_, (pss_cons (ps_set (i := 2) (z_Reader_brackets T).nd rfl (Or.inl rfl) (pmeth0 h_Reader_number_told (c_Reader T) (m_Reader_number_told T) (hr.mono (by omega)) px_of (pv 0)))
  (pss_cons (ps_if (pt_val (pmeth h_Reader_is_next (c_Reader T) (m_Reader_is_next T) (hr.mono (by omega)) passL (pv 0) (pa_cons pe_str pa_nil))) (pss_cons (ps_set (i := 3) (z_Reader_brackets T).nd rfl (Or.inl rfl) (pe_tup (pa_cons pe_str (pa_cons (pv 2) (pa_cons (pmeth0 h_Reader_number_told (c_Reader T) (m_Reader_number_told T) (hr.mono (by omega)) px_of (pv 0)) (pa_cons (pv 1) pa_nil))))))
  (pss_cons (ps_expr (pmeth h_Reader_expect (c_Reader T) (m_Reader_expect T) (hr.mono (by omega)) px_of (pv 0) (pa_cons pe_str (pa_cons pe_str pa_nil))))
  (pss_one (ps_ret (pv 3))))) pss_nil)
  (pss_cons (ps_expr (pmeth h_Reader_expect (c_Reader T) (m_Reader_expect T) (hr.mono (by omega)) px_of (pv 0) (pa_cons pe_str (pa_cons pe_str pa_nil))))
  (pss_one (ps_ret (pe_tup (pa_cons pe_str (pa_cons (pv 2) (pa_cons (pv 1) pa_nil))))))))), ?_⟩
  unfold bracketsP at k
  refine rNum (k := 0) rfl rd hl (fun pl msg e => ?_) (fun v j e H1 W => ?_)
  · rw [e] at k
    exact k
  rw [e] at k
  simp only [] at k
  refine rNext (k := 0) 61 rfl W.r (fun c H2 W2 => ?_) (fun c => ?_)
  · rw [if_pos c] at k
    have W3 := W.trans W2
    refine ⟨_, rfl, rNum (k := 0) rfl W3.r hl (fun pl msg e => ?_) (fun u j2 e H3 W4 => ?_)⟩
    · rw [e] at k
      exact Fl.later k W3
    · rw [e] at k
      simp only [] at k
      have W5 := W3.trans W4
      refine ⟨_, rfl, four_sz _ _ _ _, fun q hq => ?_⟩
      have W6 := W5.new (o := .tup [.str "glue", .int (v : Int), .int (u : Int), b]) hq
      refine rExpect (k := 0) 93 rfl W6.r (fun c2 H4 W7 => ?_) (fun c2 => ?_)
      · rw [if_pos c2] at k
        refine ⟨_, rfl, k _ _ (W6.trans W7) ?_⟩
        exact RD.mono W7.t (.tup (.inl (.inl upd_same)) (.cons (.str _) (.cons (.int _) (.cons (.int _) (.cons (rb.mono (W5.t.trans (ex_new hq).t)) .nil)))))
      · rw [if_neg c2] at k
        exact Fl.later k W6
  · rw [if_neg c] at k
    refine rExpect (k := 0) 93 rfl W.r (fun c2 H4 W7 => ?_) (fun c2 => ?_)
    · rw [if_pos c2] at k
      have W8 := W.trans W7
      refine ⟨_, rfl, _, rfl, three_sz _ _ _, fun q hq => k _ _ (W8.new hq) ?_⟩
      exact .tup (.inl (.inl upd_same)) (.cons (.str _) (.cons (.int _) (.cons (rb.mono (W8.t.trans (ex_new hq).t)) .nil)))
    · rw [if_neg c2] at k
      exact Fl.later k W
end
end K20
namespace Pb
open PySem L2 Sl
theorem numP_lt {ss : Sg} {n i v j : Nat} (h : numP ss n i = .ok v j) : i < j ∧ j ≤ ss.length := by
  unfold numP at h
  split at h
  · cases h
  · rename_i c
    split at h
    · cases h
    · cases h
      have hne : dgs ss i ≠ [] := fun z => c (.inl z)
      have h1 : 0 < (dgs ss i).length := List.length_pos_iff.mpr hne
      have h2 : (dgs ss i).length ≤ ss.length - i := by
        unfold dgs
        refine Nat.le_trans (List.takeWhile_sublist _).length_le ?_
        rw [List.length_map, List.length_drop]
        exact Nat.le_refl _
      omega
def natV (vs : List Nat) : List V := vs.map fun (v : Nat) => V.int (v : Int)
theorem natV_snoc (vs : List Nat) (v : Nat) : natV (vs ++ [v]) = natV vs ++ [V.int (v : Int)] := by simp [natV]
theorem natV_rd (K : PySem.W.Frag) (H : Hp) : ∀ vs : List Nat, RDs K H (vs.map fun (v : Nat) => D.int (v : Int)) (natV vs)
  | [] => .nil
  | v :: vs => .cons (.int _) (natV_rd K H vs)
end Pb
namespace K20
open PySem PySem.Spec
open PyProof.Rows L2 Sl Pb
section
variable {P : Program} {w : World} {K : PySem.W.Frag} {mg : Str → Option Value} {base : Heap} {R : Rdv} {i j d d' k : Nat} {ns : List Nat} {H H1 H2 : Hp} {E E' : XK} {Q : VK} {σ : L2.St} {B : Bool → Hp → Prop} {l : Addr}
/-- one's own object is written -/
theorem Went.own {o : HO} {ns0 : List Nat} (W : Went K R j d' ns H H2) (rd : Rdr K R i d ns0 H) (hl : H l = none) : Went K R j d' ns H (upd H2 l o) := by
  have n1 : R.p ≠ l := ne_of_none rd.o hl
  have n3 : R.nm ≠ l := ne_of_none rd.m hl
  obtain ⟨ys, g1, g2⟩ := rd.s
  have n2 : R.l ≠ l := ne_of_none g1 hl
  obtain ⟨xs, h1, h2⟩ := W.r.s
  have t : TEx H (upd H2 l o) := fun a u r => by
    have na : a ≠ l := by
      rcases r with r | ⟨ob, r⟩ <;> exact ne_of_none r hl
    rcases W.t a u r with z | ⟨ob, z⟩
    · exact .inl (by rw [upd_ne na]; exact z)
    · exact .inr ⟨ob, by rw [upd_ne na]; exact z⟩
  refine ⟨fun a u na e => ?_, t, ?_, ⟨ys, ?_, g2.mono t⟩, ?_, rd.ne⟩
  · rw [upd_ne (ne_of_none e hl)]
    exact W.e a u na e
  · rw [upd_ne n1]
    exact W.r.o
  · rw [upd_ne n2]
    exact W.e _ _ (by simp [rd.ne, ne_of g1 rd.o (by intro z; cases z)]) g1
  · rw [upd_ne n3]
    exact W.r.m
theorem Went.keep {o : HO} {ns0 : List Nat} (W : Went K R j d' ns H1 H2) (rd : Rdr K R i d ns0 H) (hl : H l = none) (h : H1 l = some o) : H2 l = some o :=
  W.e l o (by simp [(ne_of_none rd.o hl).symm, (ne_of_none rd.m hl).symm]) h
def spOrder (K : PySem.W.Frag) : Sp := fun vs H Q E => ∃ (R : Rdv) (i d : Nat) (ns : List Nat) (f : Nat) (r : Ro), vs = [.ref R.p] ∧ Rdr K R i d ns H ∧ R.ss.length ≤ 400 ∧ orderP R.ss R.n f i = some r ∧
  (∀ pl m, r = .bad pl m → Fl K R H E pl m) ∧ ∀ us j, r = .ok us j → ∀ v H', Went K R j d ns H H' → RD K H' (.tup (us.map fun (v : Nat) => D.int (v : Int))) v → Q v H'
theorem tl_list {xs : List V} (h : H l = some (.lst xs)) : tyV K "list" (.ref l) H := .inl ⟨rfl, xs, SqL.of h⟩
theorem ok_order (T : Tx K mg) : Has P w K mg base 5 (a_Reader_order K) p_Reader_order (spOrder K) := by
  refine has_of (f_Reader_order T) (z_Reader_order T) (b_Reader_order T) (fun vs H Q E h => by obtain ⟨_, _, _, _, _, _, rfl, _⟩ := h; rfl) (fun cdv A outer s H vs Q E hr h => ?_)
  obtain ⟨R, i, d, ns, f, r, rfl, rd, hl, hf, k1, k2⟩ := h
  have h_Reader_is_next := ok_next (P := P) (w := w) (base := base) T
  have h_Reader_expect := ok_expect (P := P) (w := w) (base := base) T
  have h_Reader_number_told := ok_num (P := P) (w := w) (base := base) T
  refine ⟨_, (pss_cons (ps_set (i := 1) (z_Reader_order T).nd rfl (Or.inl rfl) (pe_lst pa_nil))
  (pss_cons (ps_if (pt_val (pmeth h_Reader_is_next (c_Reader T) (m_Reader_is_next T) (hr.mono (by omega)) passL (pv 0) (pa_cons pe_str pa_nil))) (pss_one (ps_ret (pe_tup pa_nil))) pss_nil)
  (pss_cons (ps_expr (bmK K PySem.F.plainAttrs_list PySem.F.slot_list_append PySem.F.type_list_append mt_append (pv 1) (pa_cons (pmeth0 h_Reader_number_told (c_Reader T) (m_Reader_number_told T) (hr.mono (by omega)) px_of (pv 0)) pa_nil)))
  (pss_cons (ps_while (passes_of rfl) (pt_val (pmeth h_Reader_is_next (c_Reader T) (m_Reader_is_next T) (hr.mono (by omega)) passL (pv 0) (pa_cons pe_str pa_nil))) (pss_one (ps_expr (bmK K PySem.F.plainAttrs_list PySem.F.slot_list_append PySem.F.type_list_append mt_append (pv 1) (pa_cons (pmeth0 h_Reader_number_told (c_Reader T) (m_Reader_number_told T) (hr.mono (by omega)) px_of (pv 0)) pa_nil)))))
  (pss_cons (ps_expr (pmeth h_Reader_expect (c_Reader T) (m_Reader_expect T) (hr.mono (by omega)) px_of (pv 0) (pa_cons pe_str (pa_cons pe_str pa_nil))))
  (pss_one (ps_ret (pe_callTy (tupleK K) (by rfl) (l_tuple T) (by decide +kernel) (pa_cons (pv 1) pa_nil))))))))), ?_⟩
  refine ⟨by show 0 ≤ sizeLine; decide, fun l hn => ?_⟩
  have W1 : Went K R i d ns H _ := (Went.refl rd).new (o := .lst []) hn
  have hl1 : upd H l (.lst []) l = some (.lst []) := upd_same
  unfold orderP at hf
  refine rNext (k := 0) 62 rfl W1.r (fun c H2 W2 => ?_) (fun c => ?_)
  · rw [if_pos c] at hf
    obtain rfl : Ro.ok [] (i + 1) = r := Option.some.inj hf
    exact ⟨by show 0 ≤ sizeLine; decide, fun q hq => k2 _ _ rfl _ _ ((W1.trans W2).new hq) (.tup (.inl (.inl upd_same)) .nil)⟩
  rw [if_neg c] at hf
  refine ⟨_, rfl, tl_list hl1, ?_⟩
  refine rNum (k := 0) rfl W1.r hl (fun pl msg e => ?_) (fun v j e H2 W2 => ?_)
  · rw [e] at hf
    obtain rfl : Ro.bad pl msg = r := Option.some.inj hf
    exact Fl.later (k1 _ _ rfl) W1
  rw [e] at hf
  have W3 := W1.trans W2
  have hl2 := W2.keep rd hn hl1
  have hv := numP_lt e
  refine ⟨l, [], _, rfl, rfl, hl2, by show 0 < sizeLine; decide, ?_⟩
  have W4 := W3.own (o := .lst ([] ++ [.int (v : Int)])) rd hn
  refine ⟨fun m σ H1 => ∃ us i1, σ = [some (.ref R.p), some (.ref l)] ∧ Went K R i1 d ns H H1 ∧ H1 l = some (.lst (natV us)) ∧ us.length ≤ i1 ∧ i1 ≤ R.ss.length ∧ orderL R.ss R.n m us i1 = some r, ⟨f, [v], j, rfl, W4, upd_same, by show 1 ≤ j; omega, hv.2, hf⟩, ?_⟩
  rintro m σ H1 ⟨us, i1, rfl, W, hl3, hu, hi1, hm⟩
  cases m with
  | zero => simp [orderL] at hm
  | succ m =>
  simp only [orderL] at hm
  refine rNext (k := 0) 44 rfl W.r (fun c H2 W2 => ?_) (fun c => ?_)
  · rw [if_pos c] at hm
    have W5 := W.trans W2
    have hl4 := W2.keep rd hn hl3
    refine ⟨fun σ' H' => ∃ us i1, σ' = [some (.ref R.p), some (.ref l)] ∧ Went K R i1 d ns H H' ∧ H' l = some (.lst (natV us)) ∧ us.length ≤ i1 ∧ i1 ≤ R.ss.length ∧ orderL R.ss R.n m us i1 = some r, fun σ' H' h => ⟨m, Nat.lt_succ_self m, h⟩, ?_⟩
    refine ⟨_, rfl, tl_list hl4, ?_⟩
    refine rNum (k := 0) rfl W5.r hl (fun pl msg e => ?_) (fun v2 j2 e H3 W6 => ?_)
    · rw [e] at hm
      obtain rfl : Ro.bad pl msg = r := Option.some.inj hm
      exact Fl.later (k1 _ _ rfl) W5
    · rw [e] at hm
      have hv2 := numP_lt e
      have W7 := W5.trans W6
      have hl5 := W6.keep rd hn hl4
      refine ⟨l, _, _, rfl, rfl, hl5, ?_, us ++ [v2], j2, rfl, W7.own rd hn, ?_, by rw [List.length_append]; show us.length + 1 ≤ j2; omega, hv2.2, hm⟩
      · show (us.map _).length < _
        rw [List.length_map]
        exact Nat.lt_of_le_of_lt (show us.length ≤ 400 by omega) (by decide)
      · rw [upd_same, natV_snoc]
  · rw [if_neg c] at hm
    refine rExpect (k := 0) 62 rfl W.r (fun c2 H2 W2 => ?_) (fun c2 => ?_)
    · rw [if_pos c2] at hm
      obtain rfl : Ro.ok us (i1 + 1) = r := Option.some.inj hm
      have hl4 := W2.keep rd hn hl3
      exact ⟨_, rfl, l, _, rfl, .inl ⟨SqL.of hl4, fun q hq => k2 _ _ rfl _ _ ((W.trans W2).new hq) (.tup (.inl (.inl upd_same)) (natV_rd _ _ us))⟩⟩
    · rw [if_neg c2] at hm
      obtain rfl : Ro.bad (pAt R.ss R.n i1) "expected , or >" = r := Option.some.inj hm
      exact Fl.later (k1 _ _ rfl) W
theorem at_list : ("[^~<" : Str).cps.toList = [91, 94, 126, 60] := by decide +kernel
theorem at_mem (c : Nat) : decide (c ∈ ("[^~<" : Str).cps.toList) = decide (c = 91 ∨ c = 94 ∨ c = 126 ∨ c = 60) := by
  rw [at_list]
  rw [Bool.eq_iff_iff]
  simp only [decide_eq_true_eq, List.mem_cons, List.not_mem_nil, or_false]
theorem ok_atom (T : Tx K mg) {k : Nat} (h_Reader_ground : Has P w K mg base (k + 6) (a_Reader_ground K) p_Reader_ground (spPar K groundP d)) : Has P w K mg base (k + 7) (a_Reader_atom K) p_Reader_atom (spPar K atomP d) := by
  refine has_of (f_Reader_atom T) (z_Reader_atom T) (b_Reader_atom T) (fun vs H Q E h => par_len h) (fun cdv A outer s H vs Q E hr h => ?_)
  obtain ⟨R, i, ns, f, r, rfl, rd, hl, hfu, hf, k⟩ := h
  have h_Reader_is_next := ok_next (P := P) (w := w) (base := base) T
  have h_Reader_sign := ok_sign (P := P) (w := w) (base := base) T
  have h_Reader_number_told := ok_num (P := P) (w := w) (base := base) T
  have h_Reader_brackets := ok_brackets (P := P) (w := w) (base := base) T
  have h_Reader_order := ok_order (P := P) (w := w) (base := base) T
  refine ⟨_, (pss_cons (ps_set (i := 1) (z_Reader_atom T).nd rfl (Or.inl rfl) (pmeth0 h_Reader_ground (c_Reader T) (m_Reader_ground T) (hr.mono (by omega)) px_of (pv 0)))
  (pss_cons (ps_while (passes_of rfl) (PW.pt (pw_and (pt_cmpR op_ne (pmeth0 h_Reader_sign (c_Reader T) (m_Reader_sign T) (hr.mono (by omega)) passL (pv 0)) pe_str (nomark _)) (pw_and1 (pt_cmpR oInSg (pmeth0 h_Reader_sign (c_Reader T) (m_Reader_sign T) (hr.mono (by omega)) passL (pv 0)) pe_str rfl)))) (pss_one (ps_if (pt_val (pmeth h_Reader_is_next (c_Reader T) (m_Reader_is_next T) (hr.mono (by omega)) passL (pv 0) (pa_cons pe_str pa_nil))) (pss_one (ps_set (i := 1) (z_Reader_atom T).nd rfl (Or.inl rfl) (pmeth h_Reader_brackets (c_Reader T) (m_Reader_brackets T) (hr.mono (by omega)) px_of (pv 0) (pa_cons (pv 1) pa_nil)))) (pss_one (ps_if (pt_val (pmeth h_Reader_is_next (c_Reader T) (m_Reader_is_next T) (hr.mono (by omega)) passL (pv 0) (pa_cons pe_str pa_nil))) (pss_one (ps_set (i := 1) (z_Reader_atom T).nd rfl (Or.inl rfl) (pe_tup (pa_cons pe_str (pa_cons (pmeth0 h_Reader_number_told (c_Reader T) (m_Reader_number_told T) (hr.mono (by omega)) px_of (pv 0)) (pa_cons (pv 1) pa_nil)))))) (pss_one (ps_if (pt_val (pmeth h_Reader_is_next (c_Reader T) (m_Reader_is_next T) (hr.mono (by omega)) passL (pv 0) (pa_cons pe_str pa_nil))) (pss_one (ps_set (i := 1) (z_Reader_atom T).nd rfl (Or.inl rfl) (pe_tup (pa_cons pe_str (pa_cons (pv 1) pa_nil))))) (pss_cons (ps_fldaug (pv 0) pe_int in_add)
  (pss_one (ps_set (i := 1) (z_Reader_atom T).nd rfl (Or.inl rfl) (pe_tup (pa_cons pe_str (pa_cons (pmeth0 h_Reader_order (c_Reader T) (m_Reader_order T) (hr.mono (by omega)) px_of (pv 0)) (pa_cons (pv 1) pa_nil))))))))))))))
  (pss_one (ps_ret (pv 1))))), ?_⟩
  cases f with
  | zero => simp [atomP] at hf
  | succ f =>
  simp only [atomP] at hf
  cases hi : groundP R.ss R.n ns f d i with
  | none => rw [hi] at hf; cases hf
  | some r1 =>
  rw [hi] at hf
  refine rPar (k := 0) rfl rd hl (by omega) hi (fun pl m e => ?_) (fun t0 j0 e v0 H0 W0 r0 => ?_)
  · subst e
    obtain rfl : Rz.bad pl m = r := Option.some.inj hf
    exact k
  subst e
  refine ⟨fun m σ H1 => m ≤ 1000000 ∧ ∃ t i1 v, σ = [some (.ref R.p), some v] ∧ Went K R i1 d ns H H1 ∧ RD K H1 t v ∧ atomL R.ss R.n ns m d t i1 = some r, ⟨f, by omega, t0, j0, v0, rfl, W0, r0, hf⟩, ?_⟩
  rintro m σ H1 ⟨hmu, t, i1, v, rfl, W, rv, hm⟩
  cases m with
  | zero => simp [atomL] at hm
  | succ m =>
  simp only [atomL] at hm
  refine rIn (k := 0) rfl W.r (fun c hc hd => ?_) (fun hn => ?_)
  · rw [at_mem] at hd
    have hd := of_decide_eq_true hd
    refine ⟨fun σ' H' => ∃ t i1 v, σ' = [some (.ref R.p), some v] ∧ Went K R i1 d ns H H' ∧ RD K H' t v ∧ atomL R.ss R.n ns m d t i1 = some r, fun σ' H' h => ⟨m, Nat.lt_succ_self m, by omega, h⟩, ?_⟩
    refine rNext (k := 0) 91 rfl W.r (fun c1 H2 W2 => ?_) (fun c1 => ?_)
    · rw [if_pos c1] at hm
      have W3 := W.trans W2
      refine ⟨_, rfl, R.p, R.dx, _, rfl, W3.r.o, rfl, _, rfl, R, _, d, ns, t, _, rfl, W3.r, hl, rv.mono W2.t, .mk (fun pl msg e => ?_) (fun u j e v2 H3 W4 rv2 => ?_)⟩
      · rw [e] at hm
        obtain rfl : Rz.bad pl msg = r := Option.some.inj hm
        exact Fl.later k W3
      · rw [e] at hm
        exact ⟨u, j, _, rfl, W3.trans W4, rv2, hm⟩
    rw [if_neg c1] at hm
    refine rNext (k := 0) 94 rfl W.r (fun c2 H2 W2 => ?_) (fun c2 => ?_)
    · rw [if_pos c2] at hm
      have W3 := W.trans W2
      refine rNum (k := 0) rfl W3.r hl (fun pl msg e => ?_) (fun v2 j e H3 W4 => ?_)
      · rw [e] at hm
        obtain rfl : Rz.bad pl msg = r := Option.some.inj hm
        exact Fl.later k W3
      · rw [e] at hm
        refine ⟨_, rfl, three_sz _ _ _, fun q hq => ⟨_, j, _, rfl, (W3.trans W4).new hq, ?_, hm⟩⟩
        exact .tup (.inl (.inl upd_same)) (.cons (.str _) (.cons (.int _) (.cons (rv.mono ((W2.t.trans W4.t).trans (ex_new hq).t)) .nil)))
    rw [if_neg c2] at hm
    refine rNext (k := 0) 126 rfl W.r (fun c3 H2 W2 => ?_) (fun c3 => ?_)
    · rw [if_pos c3] at hm
      have W3 := W.trans W2
      refine ⟨_, rfl, two_sz _ _, fun q hq => ⟨_, i1 + 1, _, rfl, W3.new hq, ?_, hm⟩⟩
      exact .tup (.inl (.inl upd_same)) (.cons (.str _) (.cons (rv.mono (W2.t.trans (ex_new hq).t)) .nil))
    rw [if_neg c3] at hm
    have c4 : cAt R.ss i1 = some 60 := by
      rcases hd with rfl | rfl | rfl | rfl
      · exact absurd hc c1
      · exact absurd hc c2
      · exact absurd hc c3
      · exact hc
    rw [if_pos c4] at hm
    refine ⟨_, rfl, R.p, _, R.dx, _, _, rfl, W.r.o, c_Reader T, n_Reader_at T, rf_at .., _, _, rfl, rfl, R.dx, _, W.r.o, by show 5 < 1000; decide, ?_⟩
    rw [rf_putAt1]
    have W2 : Went K R (i1 + 1) d ns H1 _ := W.r.put
    have W3 := W.trans W2
    cases ho : orderP R.ss R.n m (i1 + 1) with
    | none => rw [ho] at hm; cases hm
    | some ro =>
      rw [ho] at hm
      refine ⟨_, rfl, R.p, R.dx, _, rfl, W3.r.o, rfl, R, _, d, ns, m, ro, rfl, W3.r, hl, ho, fun pl msg e => ?_, fun us j e v2 H3 W4 rv2 => ?_⟩
      · subst e
        obtain rfl : Rz.bad pl msg = r := Option.some.inj hm
        exact Fl.later k W3
      · subst e
        refine ⟨_, rfl, three_sz _ _ _, fun q hq => ⟨_, j, _, rfl, (W3.trans W4).new hq, ?_, hm⟩⟩
        exact .tup (.inl (.inl upd_same)) (.cons (.str _) (.cons (rv2.mono (ex_new hq).t) (.cons (rv.mono ((W2.t.trans W4.t).trans (ex_new hq).t)) .nil)))
  · have no : ∀ c, (c = 91 ∨ c = 94 ∨ c = 126 ∨ c = 60) → cAt R.ss i1 ≠ some c := fun c hc z => by
      have := hn c z
      rw [at_mem] at this
      exact of_decide_eq_false this hc
    rw [if_neg (no 91 (by omega)), if_neg (no 94 (by omega)), if_neg (no 126 (by omega)), if_neg (no 60 (by omega))] at hm
    obtain rfl : Rz.ok t i1 = r := Option.some.inj hm
    exact ⟨_, rfl, k _ _ W rv⟩
end
end K20
namespace K20
open PySem PySem.Spec
open PyProof.Rows L2 Sl Pb
section
variable {P : Program} {w : World} {K : PySem.W.Frag} {mg : Str → Option Value} {base : Heap} {R : Rdv} {i j d d' k : Nat} {ns : List Nat} {H H1 H2 : Hp} {E E' : XK} {Q : VK} {σ : L2.St} {B : Bool → Hp → Prop} {l : Addr}
def spInner (K : PySem.W.Frag) : Sp := fun vs H Q E => ∃ (R : Rdv) (i d : Nat) (ns : List Nat), vs = [.ref R.p] ∧ Rdr K R i d ns H ∧ (d = 20 → Fl K R H E (pAt R.ss R.n i) "this is too deep") ∧ (d ≠ 20 → ∀ H', Went K R (i + 1) (d + 1) ns H H' → Q .non H')
theorem ok_inner (T : Tx K mg) : Has P w K mg base 4 (a_Reader_inner K) p_Reader_inner (spInner K) := by
  refine has_of (f_Reader_inner T) (z_Reader_inner T) (b_Reader_inner T) (fun vs H Q E h => by obtain ⟨_, _, _, _, rfl, _⟩ := h; rfl) (fun cdv A outer s H vs Q E hr h => ?_)
  obtain ⟨R, i, d, ns, rfl, rd, k1, k2⟩ := h
  have h_Reader_refuse := ok_refuse (P := P) (w := w) (base := base) T
  refine ⟨_, (pss_cons (ps_if (pt_cmpR op_eq (fldK K (pv 0)) (pgi (i_MOST_DEEP T)) (nomark _)) (pss_one (ps_expr (pmeth h_Reader_refuse (c_Reader T) (m_Reader_refuse T) (hr.mono (by omega)) px_of (pv 0) (pa_cons pe_str pa_nil)))) pss_nil)
  (pss_cons (ps_fldaug (pv 0) pe_int in_add)
  (pss_one (ps_fldaug (pv 0) pe_int in_add)))), ?_⟩
  refine ⟨_, rfl, R.p, _, R.dx, _, _, rfl, rd.o, c_Reader T, n_Reader_deep T, rf_deep .., rfl, _, rfl, ?_⟩
  by_cases h : d = 20
  · rw [decide_eq_true (show V.int (d : Int) = V.int 20 by rw [h]; rfl)]
    exact rRefuse (k := 0) rfl rd (k1 h)
  · rw [decide_eq_false (fun z => h (by have := V.int.inj z; omega))]
    refine ⟨_, rfl, R.p, _, R.dx, _, _, rfl, rd.o, c_Reader T, n_Reader_deep T, rf_deep .., _, _, rfl, rfl, R.dx, _, rd.o, by show 5 < 1000; decide, ?_⟩
    rw [rf_putDeep]
    have W1 : Went K R i (d + 1) ns H _ := rd.put
    refine ⟨_, rfl, R.p, _, R.dx, _, _, rfl, W1.r.o, c_Reader T, n_Reader_at T, rf_at .., _, _, rfl, rfl, R.dx, _, W1.r.o, by show 5 < 1000; decide, ?_⟩
    rw [rf_putAt1]
    exact k2 h _ (W1.trans W1.r.put)
theorem rInner (h : σ[k]? = some (some (.ref R.p))) (r : Rdr K R i d ns H) (k1 : d = 20 → Fl K R H E (pAt R.ss R.n i) "this is too deep") (k2 : d ≠ 20 → ∀ H', Went K R (i + 1) (d + 1) ns H H' → Q .non H') :
    tMeth (cR K) "inner" (spInner K) [] E (tVar k) tNil σ H Q := ⟨_, h, R.p, R.dx, _, rfl, r.o, rfl, R, i, d, ns, rfl, r, k1, k2⟩
def NestAt (P : Program) (w : World) (K : PySem.W.Frag) (mg : Str → Option Value) (base : Heap) (k d : Nat) : Prop := d < 20 → Has P w K mg base k (a_Reader_nest K) p_Reader_nest (spPar K nestP (d + 1))
abbrev spDeep (K : PySem.W.Frag) (d : Nat) : Sp := fun vs H Q E => d < 20 ∧ spPar K nestP (d + 1) vs H Q E
theorem nest_deep (T : Tx K mg) (h : NestAt P w K mg base k d) : Has P w K mg base k (a_Reader_nest K) p_Reader_nest (spDeep K d) := by
  by_cases hd : d < 20
  · exact (h hd).imp fun _ _ _ _ h => h.2
  · obtain ⟨fd, F⟩ := f_Reader_nest T
    refine ⟨⟨fd, ⟨fun vs H Q E h => absurd h.1 hd, fun A outer s H args us vs Q E _ _ _ _ h => absurd h.1 hd⟩, F.bindsN (b_Reader_nest T)⟩, F.kp⟩
theorem rDeep {f : Nat} {r : Rz} (h : σ[k]? = some (some (.ref R.p))) (hd : d < 20) (rd : Rdr K R i (d + 1) ns H) (hl : R.ss.length ≤ 400) (hfu : f ≤ 1000000) (hf : nestP R.ss R.n ns f (d + 1) i = some r)
    (k1 : ∀ pl m, r = .bad pl m → Fl K R H E pl m) (k2 : ∀ t j, r = .ok t j → ∀ v H', Went K R j (d + 1) ns H H' → RD K H' t v → Q v H') :
    tMeth (cR K) "nest" (spDeep K d) [] E (tVar k) tNil σ H Q :=
  ⟨_, h, R.p, R.dx, _, rfl, rd.o, rfl, hd, R, i, ns, f, r, rfl, rd, hl, hfu, hf, .mk k1 k2⟩
def spFilled (K : PySem.W.Frag) (d : Nat) : Sp := fun vs H Q E => ∃ (R : Rdv) (i : Nat) (ns : List Nat) (f c : Nat) (ds : List (Nat × D)) (b : V) (r : Rz), vs = [.ref R.p, b] ∧ Rdr K R i d ns H ∧ R.ss.length ≤ 400 ∧ ds.length + f ≤ 1000000 ∧ RD K H (letterD c ds) b ∧
  filledL R.ss R.n ns f d c ds i = some r ∧ Out K R d ns H Q E r
theorem slots3 {a b c : D} {v : V} (h : RD K H (.tup [a, b, c]) v) : ∃ p x y z, v = .ref p ∧ SqT K H p [x, y, z] ∧ RD K H a x ∧ RD K H b y ∧ RD K H c z := by
  obtain ⟨p, xs, rfl, h1, h2⟩ := h.ofTup
  obtain ⟨x, _, rfl, r1, h2⟩ := h2.ofCons
  obtain ⟨y, _, rfl, r2, h2⟩ := h2.ofCons
  obtain ⟨z, _, rfl, r3, h2⟩ := h2.ofCons
  obtain rfl := h2.ofNil
  exact ⟨p, x, y, z, rfl, h1, r1, r2, r3⟩
theorem ok_filled (T : Tx K mg) {k : Nat} (hd20 : d ≤ 20) (h_nest : NestAt P w K mg base (k + 5) d) : Has P w K mg base (k + 6) (a_Reader_filled K) p_Reader_filled (spFilled K d) := by
  have h_Reader_nest := nest_deep T h_nest
  refine has_of (f_Reader_filled T) (z_Reader_filled T) (b_Reader_filled T) (fun vs H Q E h => by obtain ⟨_, _, _, _, _, _, _, _, rfl, _⟩ := h; rfl) (fun cdv A outer s H vs Q E hr h => ?_)
  obtain ⟨R, i, ns, f, c, ds, b, r, rfl, rd, hl, hfu, rb, hf, k⟩ := h
  have h_Reader_sign := ok_sign (P := P) (w := w) (base := base) T
  have h_Reader_inner := ok_inner (P := P) (w := w) (base := base) T
  have h_Reader_expect := ok_expect (P := P) (w := w) (base := base) T
  have h_Reader_number_told := ok_num (P := P) (w := w) (base := base) T
  refine ⟨_, (pss_cons (ps_while (passes_of rfl) (pt_cmpR op_eq (pmeth0 h_Reader_sign (c_Reader T) (m_Reader_sign T) (hr.mono (by omega)) passL (pv 0)) pe_str (nomark _)) (pss_cons (ps_expr (pmeth0 h_Reader_inner (c_Reader T) (m_Reader_inner T) (hr.mono (by omega)) px_of (pv 0)))
  (pss_cons (ps_set (i := 2) (z_Reader_filled T).nd rfl (Or.inl rfl) (pmeth0 h_Reader_number_told (c_Reader T) (m_Reader_number_told T) (hr.mono (by omega)) px_of (pv 0)))
  (pss_cons (ps_expr (pmeth h_Reader_expect (c_Reader T) (m_Reader_expect T) (hr.mono (by omega)) px_of (pv 0) (pa_cons pe_str (pa_cons pe_str pa_nil))))
  (pss_cons (ps_set (i := 3) (z_Reader_filled T).nd rfl (Or.inl rfl) (pmeth0 h_Reader_nest (c_Reader T) (m_Reader_nest T) (hr.mono (by omega)) px_of (pv 0)))
  (pss_cons (ps_expr (pmeth h_Reader_expect (c_Reader T) (m_Reader_expect T) (hr.mono (by omega)) px_of (pv 0) (pa_cons pe_str (pa_cons pe_str pa_nil))))
  (pss_cons (ps_fldaug (pv 0) pe_int in_sub)
  (pss_one (ps_set (i := 1) (z_Reader_filled T).nd rfl (Or.inl rfl) (pe_tup (pa_cons pe_str (pa_cons (pe_ix (ixT K) (pv 1) pe_int (fun _ _ => rfl)) (pa_cons (pe_op (catT K) (pe_ix (ixT K) (pv 1) pe_int (fun _ _ => rfl)) (pe_tup (pa_cons (pe_tup (pa_cons (pv 2) (pa_cons (pv 3) pa_nil))) pa_nil))) pa_nil)))))))))))))
  (pss_one (ps_ret (pv 1)))), ?_⟩
  refine ⟨fun m σ H1 => ∃ ds i1 v x y, σ = [some (.ref R.p), some v, x, y] ∧ ds.length + m ≤ 1000000 ∧ Went K R i1 d ns H H1 ∧ RD K H1 (letterD c ds) v ∧ filledL R.ss R.n ns m d c ds i1 = some r, ⟨f, ds, i, b, none, none, rfl, hfu, Went.refl rd, rb, hf⟩, ?_⟩
  rintro m σ H1 ⟨ds, i1, v, x, y, rfl, hmu, W, rv, hm⟩
  cases m with
  | zero => simp [filledL] at hm
  | succ m =>
  simp only [filledL] at hm
  refine rSign (k := 0) rfl W.r ⟨rfl, decide (cAt R.ss i1 = some 123), congrArg V.bl sg_eq, ifBH (fun hc => ?_) (fun hc => ?_)⟩
  · have hc := of_decide_eq_true hc
    rw [if_pos hc] at hm
    refine ⟨fun σ' H' => ∃ ds i1 v x y, σ' = [some (.ref R.p), some v, x, y] ∧ ds.length + m ≤ 1000000 ∧ Went K R i1 d ns H H' ∧ RD K H' (letterD c ds) v ∧ filledL R.ss R.n ns m d c ds i1 = some r, fun σ' H' h => ⟨m, Nat.lt_succ_self m, h⟩, ?_⟩
    refine rInner (k := 0) rfl W.r (fun h20 => ?_) (fun h20 H2 W2 => ?_)
    · rw [if_pos h20] at hm
      obtain rfl : Rz.bad (pAt R.ss R.n i1) "this is too deep" = r := Option.some.inj hm
      exact Fl.later k W
    rw [if_neg h20] at hm
    have W3 := W.trans W2
    refine rNum (k := 0) rfl W3.r hl (fun pl msg e => ?_) (fun g jg e H3 W4 => ?_)
    · rw [e] at hm
      obtain rfl : Rz.bad pl msg = r := Option.some.inj hm
      exact Fl.later k W3
    rw [e] at hm
    simp only [] at hm
    have W5 := W3.trans W4
    refine rExpect (k := 0) 58 rfl W5.r (fun c2 H4 W6 => ?_) (fun c2 => ?_)
    rotate_left
    · rw [if_neg c2] at hm
      obtain rfl : Rz.bad (pAt R.ss R.n jg) "expected a colon" = r := Option.some.inj hm
      exact Fl.later k W5
    rw [if_pos c2] at hm
    have W7 := W5.trans W6
    cases hi : nestP R.ss R.n ns m (d + 1) (jg + 1) with
    | none => rw [hi] at hm; cases hm
    | some r1 =>
    rw [hi] at hm
    have hd : d < 20 := by omega
    refine rDeep (k := 0) rfl hd W7.r hl (by omega) hi (fun pl msg e => ?_) (fun t j2 e v2 H5 W8 rv2 => ?_)
    · subst e
      obtain rfl : Rz.bad pl msg = r := Option.some.inj hm
      exact Fl.later k W7
    subst e
    simp only [] at hm
    have W9 := W7.trans W8
    refine rExpect (k := 0) 125 rfl W9.r (fun c3 H6 Wa => ?_) (fun c3 => ?_)
    rotate_left
    · rw [if_neg c3] at hm
      obtain rfl : Rz.bad (pAt R.ss R.n j2) "expected }" = r := Option.some.inj hm
      exact Fl.later k W9
    rw [if_pos c3] at hm
    have Wb := W9.trans Wa
    refine ⟨_, rfl, R.p, _, R.dx, _, _, rfl, Wb.r.o, c_Reader T, n_Reader_deep T, rf_deep .., _, _, rfl, rfl, R.dx, _, Wb.r.o, by show 5 < 1000; decide, ?_⟩
    rw [rf_putDeep2]
    have Wc : Went K R (j2 + 1) d ns H6 _ := Wb.r.put
    have Wd := Wb.trans Wc
    have ta : TEx H1 _ := ((((W2.t.trans W4.t).trans W6.t).trans W8.t).trans Wa.t).trans Wc.t
    have rv3 := rv.mono ta
    obtain ⟨p, x1, y1, z1, rfl, hp, rx, ry, rz⟩ := slots3 rv3
    obtain rfl := rx.ofStr
    obtain rfl := ry.ofInt
    obtain ⟨pz, zs, rfl, hz, rzs⟩ := rz.ofTup
    have hzl := rzs.len
    rw [List.length_map] at hzl
    refine ⟨_, rfl, p, _, _, _, rfl, rfl, hp, rfl, ?_⟩
    refine hand (te := tOp (rCatA K) _ _) (G := fun v3 H7 => Ex (upd H6 R.p (.ins (cR K) R.dx (rf R (j2 + 1) d))) H7 ∧ RD K H7 (.tup ((ds ++ [(g, t)]).map doorD)) v3) (fun R' kk => ?_) (fun v3 H7 gg => ?_)
    · refine ⟨_, rfl, p, _, _, _, rfl, rfl, hp, rfl, _, rfl, _, rfl, two_sz _ _, fun q1 hq1 => ⟨by show 1 ≤ sizeLine; decide, fun q2 hq2 => ?_⟩⟩
      have e1 := ex_new (o := .tup [.int (g : Int), v2]) hq1
      have e2 := ex_new (o := .tup [.ref q1]) hq2
      have rdoor : RD K (upd (upd (upd H6 R.p (.ins (cR K) R.dx (rf R (j2 + 1) d))) q1 (.tup [.int (g : Int), v2])) q2 (.tup [.ref q1])) (doorD (g, t)) (.ref q1) :=
        RD.mono e2.t (.tup (.inl (.inl upd_same)) (.cons (.int _) (.cons ((rv2.mono (Wa.t.trans Wc.t)).mono e1.t) .nil)))
      refine ⟨pz, q2, zs, _, rfl, rfl, (e1.trans e2).t.sq hz, .inl (.inl upd_same), ?_, fun h0 => ?_, fun _ z => (by cases z), fun _ _ q3 hq3 => ?_⟩
      · rw [hzl]
        exact Nat.le_trans (show ds.length + 1 ≤ 1000000 by omega) (by decide)
      · refine kk _ _ ⟨e1.trans e2, ?_⟩
        have : ds = [] := List.length_eq_zero_iff.mp (by rw [← hzl, h0]; rfl)
        subst this
        exact .tup (.inl (.inl upd_same)) (.cons rdoor .nil)
      · refine kk _ _ ⟨(e1.trans e2).trans (ex_new hq3), ?_⟩
        rw [List.map_append]
        exact .tup (.inl (.inl upd_same)) (((rzs.mono (e1.trans e2).t).append (.one rdoor)).mono (ex_new hq3).t)
    · refine ⟨three_sz _ _ _, fun q hq => ⟨ds ++ [(g, t)], j2 + 1, _, _, _, rfl, by rw [List.length_append]; show ds.length + 1 + m ≤ _; omega, (Wd.ex gg.1).new hq, ?_, hm⟩⟩
      exact .tup (.inl (.inl upd_same)) (.cons (.str _) (.cons (.int _) (.cons (gg.2.mono (ex_new hq).t) .nil)))
  · rw [if_neg (of_decide_eq_false hc)] at hm
    obtain rfl : Rz.ok (letterD c ds) i1 = r := Option.some.inj hm
    exact ⟨_, rfl, k _ _ W rv⟩
theorem lt_index : ∀ v : Nat, v < 6 → ∃ rest, Builtin.Str.occurrences ("abcdef" : Str) ⟨#[97 + v]⟩ 0 ("abcdef" : Str).length 1 = v :: rest
  | 0, _ => ⟨[], by decide +kernel⟩
  | 1, _ => ⟨[], by decide +kernel⟩
  | 2, _ => ⟨[], by decide +kernel⟩
  | 3, _ => ⟨[], by decide +kernel⟩
  | 4, _ => ⟨[], by decide +kernel⟩
  | 5, _ => ⟨[], by decide +kernel⟩
  | n + 6, h => by omega
theorem inV_nm (c : Nat) : ∀ ns : List Nat, inV (.str ⟨#[c]⟩) (nmV ns) = decide (c ∈ ns)
  | [] => by rfl
  | a :: ns => by
    have ih := inV_nm c ns
    have e1 : inV (.str ⟨#[c]⟩) (nmV (a :: ns)) = (eqV (.str ⟨#[a]⟩) (.str ⟨#[c]⟩) || inV (.str ⟨#[c]⟩) (nmV ns)) := rfl
    have e2 : eqV (.str ⟨#[a]⟩) (.str ⟨#[c]⟩) = ((⟨#[a]⟩ : Str) == ⟨#[c]⟩) := rfl
    rw [e1, e2, ih, Bool.eq_iff_iff]
    simp only [Bool.or_eq_true, beq_iff_eq, decide_eq_true_eq, List.mem_cons, Str.mk.injEq, Array.mk.injEq, List.cons.injEq, and_true]
    constructor
    · rintro (h | h)
      · exact .inl h.symm
      · exact .inr h
    · rintro (h | h)
      · exact .inl h.symm
      · exact .inr h
theorem nm_flat : ∀ ns : List Nat, (nmV ns).all flatV = true
  | [] => rfl
  | a :: ns => by
    have ih := nm_flat ns
    show (flatV (.str ⟨#[a]⟩) && (nmV ns).all flatV) = true
    rw [ih]
    rfl
theorem ok_ground (T : Tx K mg) {k : Nat} (hd20 : d ≤ 20) (h_nest : NestAt P w K mg base (k + 6) d) (h_Reader_filled : Has P w K mg base (k + 6) (a_Reader_filled K) p_Reader_filled (spFilled K d)) :
    Has P w K mg base (k + 7) (a_Reader_ground K) p_Reader_ground (spPar K groundP d) := by
  have h_Reader_nest := nest_deep T h_nest
  refine has_of (f_Reader_ground T) (z_Reader_ground T) (b_Reader_ground T) (fun vs H Q E h => par_len h) (fun cdv A outer s H vs Q E hr h => ?_)
  obtain ⟨R, i, ns, f, r, rfl, rd, hl, hfu, hf, k⟩ := h
  have h_Reader_sign := ok_sign (P := P) (w := w) (base := base) T
  have h_Reader_refuse := ok_refuse (P := P) (w := w) (base := base) T
  have h_Reader_inner := ok_inner (P := P) (w := w) (base := base) T
  have h_Reader_expect := ok_expect (P := P) (w := w) (base := base) T
  refine ⟨_, (pss_cons (ps_set (i := 1) (z_Reader_ground T).nd rfl (Or.inl rfl) (pmeth0 h_Reader_sign (c_Reader T) (m_Reader_sign T) (hr.mono (by omega)) passL (pv 0)))
  (pss_cons (ps_if (pt_cmpR op_eq (pv 1) pe_str (nomark _)) (pss_cons (ps_expr (pmeth0 h_Reader_inner (c_Reader T) (m_Reader_inner T) (hr.mono (by omega)) px_of (pv 0)))
  (pss_cons (ps_set (i := 2) (z_Reader_ground T).nd rfl (Or.inl rfl) (pmeth0 h_Reader_nest (c_Reader T) (m_Reader_nest T) (hr.mono (by omega)) px_of (pv 0)))
  (pss_cons (ps_expr (pmeth h_Reader_expect (c_Reader T) (m_Reader_expect T) (hr.mono (by omega)) px_of (pv 0) (pa_cons pe_str (pa_cons pe_str pa_nil))))
  (pss_cons (ps_fldaug (pv 0) pe_int in_sub)
  (pss_one (ps_ret (pv 2))))))) pss_nil)
  (pss_cons (ps_if (PW.pt (pw_and (pt_cmpR op_ne (pv 1) pe_str (nomark _)) (pw_and1 (pt_cmpR oInSg (pv 1) (pgs (i_CAPITALS T)) rfl)))) (pss_cons (ps_if (pt_cmpR (niK K) (pv 1) (fldK K (pv 0)) rfl) (pss_one (ps_expr (pmeth h_Reader_refuse (c_Reader T) (m_Reader_refuse T) (hr.mono (by omega)) px_of (pv 0) (pa_cons pe_str pa_nil)))) pss_nil)
  (pss_cons (ps_fldaug (pv 0) pe_int in_add)
  (pss_one (ps_ret (pe_tup (pa_cons pe_str (pa_cons (pv 1) pa_nil))))))) pss_nil)
  (pss_cons (ps_if (PW.pt (pw_or (pt_cmpR op_eq (pv 1) pe_str (nomark _)) (pw_or1 (pt_cmpR oNiSg (pv 1) (pgs (i_LETTERS T)) rfl)))) (pss_one (ps_expr (pmeth h_Reader_refuse (c_Reader T) (m_Reader_refuse T) (hr.mono (by omega)) px_of (pv 0) (pa_cons pe_str pa_nil)))) pss_nil)
  (pss_cons (ps_fldaug (pv 0) pe_int in_add)
  (pss_one (ps_ret (pmeth h_Reader_filled (c_Reader T) (m_Reader_filled T) (hr.mono (by omega)) px_of (pv 0) (pa_cons (pe_tup (pa_cons pe_str (pa_cons (bmK K PySem.F.plainAttrs_str PySem.F.slot_str_index PySem.F.type_str_index mt_sindex (pgs (i_LETTERS T)) (pa_cons (pv 1) pa_nil)) (pa_cons (pe_tup pa_nil) pa_nil)))) pa_nil))))))))), ?_⟩
  cases f with
  | zero => simp [groundP] at hf
  | succ f =>
  simp only [groundP] at hf
  refine rSign (k := 0) rfl rd ⟨_, rfl, rfl, decide (cAt R.ss i = some 40), congrArg V.bl sg_eq, ?_⟩
  by_cases c40 : cAt R.ss i = some 40
  · rw [decide_eq_true c40]
    rw [if_pos c40] at hf
    refine rInner (k := 0) rfl rd (fun h20 => ?_) (fun h20 H2 W2 => ?_)
    · rw [if_pos h20] at hf
      obtain rfl : Rz.bad (pAt R.ss R.n i) "this is too deep" = r := Option.some.inj hf
      exact k
    rw [if_neg h20] at hf
    cases hi : nestP R.ss R.n ns f (d + 1) (i + 1) with
    | none => rw [hi] at hf; cases hf
    | some r1 =>
    rw [hi] at hf
    refine rDeep (k := 0) rfl (by omega) W2.r hl (by omega) hi (fun pl msg e => ?_) (fun t j2 e v2 H5 W8 rv2 => ?_)
    · subst e
      obtain rfl : Rz.bad pl msg = r := Option.some.inj hf
      exact Fl.later k W2
    subst e
    simp only [] at hf
    have W9 := W2.trans W8
    refine rExpect (k := 0) 41 rfl W9.r (fun c3 H6 Wa => ?_) (fun c3 => ?_)
    rotate_left
    · rw [if_neg c3] at hf
      obtain rfl : Rz.bad (pAt R.ss R.n j2) "expected )" = r := Option.some.inj hf
      exact Fl.later k W9
    rw [if_pos c3] at hf
    obtain rfl : Rz.ok t (j2 + 1) = r := Option.some.inj hf
    have Wb := W9.trans Wa
    refine ⟨_, rfl, R.p, _, R.dx, _, _, rfl, Wb.r.o, c_Reader T, n_Reader_deep T, rf_deep .., _, _, rfl, rfl, R.dx, _, Wb.r.o, by show 5 < 1000; decide, ?_⟩
    rw [rf_putDeep2]
    have Wc : Went K R (j2 + 1) d ns H6 _ := Wb.r.put
    exact ⟨_, rfl, k _ _ (Wb.trans Wc) (rv2.mono (Wa.t.trans Wc.t))⟩
  rw [decide_eq_false c40]
  rw [if_neg c40] at hf
  have hat : ∀ H', Rdr K R i d ns H' → True := fun _ _ => trivial
  cases hc : cAt R.ss i with
  | none =>
    rw [hc] at hf
    obtain rfl : Rz.bad (pAt R.ss R.n i) "expected a maze" = r := Option.some.inj hf
    have e : sgAt R.ss i = ⟨#[]⟩ := by unfold sgAt; rw [hc]
    rw [e]
    refine ⟨_, rfl, rfl, false, ndecN (by rfl), ?_⟩
    refine ⟨_, rfl, rfl, true, (by rw [decide_eq_true (show V.str ⟨#[]⟩ = V.str "" by rfl)]), ?_⟩
    exact rRefuse (k := 0) rfl rd k
  | some c =>
    rw [hc] at hf
    simp only [] at hf
    have e : sgAt R.ss i = ⟨#[c]⟩ := by unfold sgAt; rw [hc]
    rw [e]
    refine ⟨_, rfl, rfl, true, pdecN sg_nonil, ?_⟩
    refine ⟨_, rfl, c, _, rfl, rfl, isCp c, congrArg V.bl (cp_mem c), ?_⟩
    cases hcp : isCp c with
    | true =>
      rw [if_pos hcp] at hf
      refine ⟨_, rfl, _, rfl, R.p, _, R.dx, _, _, rfl, rd.o, c_Reader T, n_Reader_names T, rf_names .., R.nm, _, rfl, .inl (SqL.of rd.m), rfl, nm_flat ns, !decide (c ∈ ns), (by show V.bl (!inV _ _) = _; rw [inV_nm]), ?_⟩
      by_cases hin : c ∈ ns
      · rw [decide_eq_true hin]
        rw [if_pos hin] at hf
        obtain rfl : Rz.ok (nameD c) (i + 1) = r := Option.some.inj hf
        refine ⟨_, rfl, R.p, _, R.dx, _, _, rfl, rd.o, c_Reader T, n_Reader_at T, rf_at .., _, _, rfl, rfl, R.dx, _, rd.o, by show 5 < 1000; decide, ?_⟩
        rw [rf_putAt1]
        have W1 : Went K R (i + 1) d ns H _ := rd.put
        refine ⟨_, rfl, two_sz _ _, fun q hq => k _ _ (W1.new hq) ?_⟩
        exact .tup (.inl (.inl upd_same)) (.cons (.str _) (.cons (.str _) .nil))
      · rw [decide_eq_false hin]
        rw [if_neg hin] at hf
        obtain rfl : Rz.bad (pAt R.ss R.n i) "this name is not there" = r := Option.some.inj hf
        exact rRefuse (k := 0) rfl rd k
    | false =>
      rw [if_neg (by rw [hcp]; decide)] at hf
      refine ⟨_, rfl, rfl, false, ndec sg_nonil, ?_⟩
      refine ⟨_, rfl, c, _, rfl, rfl, !isLt c, congrArg (fun b => V.bl (!b)) (lt_mem c), ?_⟩
      cases hlt : isLt c with
      | false =>
        rw [if_neg (by rw [hlt]; decide)] at hf
        obtain rfl : Rz.bad (pAt R.ss R.n i) "expected a maze" = r := Option.some.inj hf
        exact rRefuse (k := 0) rfl rd k
      | true =>
        rw [if_pos hlt] at hf
        have hr97 := of_decide_eq_true hlt
        obtain ⟨rest, ho⟩ := lt_index (c - 97) (by omega)
        have e2 : 97 + (c - 97) = c := by omega
        rw [e2] at ho
        refine ⟨_, rfl, R.p, _, R.dx, _, _, rfl, rd.o, c_Reader T, n_Reader_at T, rf_at .., _, _, rfl, rfl, R.dx, _, rd.o, by show 5 < 1000; decide, ?_⟩
        rw [rf_putAt1]
        have W1 : Went K R (i + 1) d ns H _ := rd.put
        refine ⟨_, rfl, R.p, R.dx, _, rfl, W1.r.o, rfl, rfl, _, rfl, _, _, c - 97, rest, rfl, rfl, ho, by show 0 ≤ sizeLine; decide, fun q1 hq1 => ⟨three_sz _ _ _, fun q2 hq2 => ?_⟩⟩
        have W2 := (W1.new (o := .tup []) hq1).new (o := .tup [.str "letter", .int ((c - 97 : Nat) : Int), .ref q1]) hq2
        refine ⟨R, i + 1, ns, f, c - 97, [], _, r, rfl, W2.r, hl, by show 0 + f ≤ _; omega, ?_, hf, .mk (fun pl msg e => ?_) (fun t j e v2 H5 W8 rv2 => ?_)⟩
        · exact .tup (.inl (.inl upd_same)) (.cons (.str _) (.cons (.int _) (.cons (RD.mono (ex_new hq2).t (.tup (.inl (.inl upd_same)) .nil)) .nil)))
        · subst e
          exact Fl.later k W2
        · subst e
          exact k _ _ (W2.trans W8) rv2
/-- a nest at a depth -/
theorem ok_nestAt (T : Tx K mg) : ∀ e d : Nat, d + e = 20 → Has P w K mg base (5 * e + 11) (a_Reader_nest K) p_Reader_nest (spPar K nestP d)
  | 0, d, h => by
    have hn : ∀ k, NestAt P w K mg base k d := fun k z => by omega
    have fl := ok_filled (P := P) (w := w) (base := base) (d := d) (k := 1) T (by omega) (hn _)
    have g := ok_ground (P := P) (w := w) (base := base) (d := d) (k := 1) T (by omega) (hn _) fl
    exact ok_nest T (k := 6) (ok_item T (k := 5) (ok_atom T (k := 2) g))
  | e + 1, d, h => by
    have ih := ok_nestAt T e (d + 1) (by omega)
    have fl := ok_filled (P := P) (w := w) (base := base) (d := d) (k := 5 * e + 6) T (by omega) (fun _ => ih)
    have g := ok_ground (P := P) (w := w) (base := base) (d := d) (k := 5 * e + 6) T (by omega) (fun _ => ih.mono (by omega)) fl
    exact ok_nest T (k := 5 * e + 11) (ok_item T (k := 5 * e + 10) (ok_atom T (k := 5 * e + 7) g))
end
end K20
namespace Pb
open PySem L2 Sl
/-- signs that a text may have, but blanks -/
def okSg (c : Nat) : Bool := isLt c || isCp c || isDg c || decide (c ∈ [43, 47, 40, 41, 91, 93, 61, 94, 126, 60, 62, 44, 123, 125, 58, 59])
def signsOf (t : List Nat) : Sg := t.zipIdx.filter fun p => p.1 != 32
def badSg (ss : Sg) : Option Nat := (ss.find? fun p => !okSg p.1).map (·.2)
inductive Rl where
  | bad (p : Nat) (m : Str) | ok (c : Nat) (t : D) (i : Nat)
def lineP (ss : Sg) (n f : Nat) (ns : List Nat) (i : Nat) : Option Rl := match cAt ss i with
  | none => some (.bad (pAt ss n i) "expected a name")
  | some c => if isCp c then (if c ∈ ns then some (.bad (pAt ss n i) "this name is there already")
      else if cAt ss (i + 1) = some 61 then (match nestP ss n ns f 0 (i + 2) with
        | some (.ok t j) => some (.ok c t j)
        | some (.bad p m) => some (.bad p m)
        | none => none) else some (.bad (pAt ss n (i + 1)) "expected =")) else some (.bad (pAt ss n i) "expected a name")
inductive Rb where
  | bad (p : Nat) (m : Str) | ok (ls : List (Nat × D))
def bookL (ss : Sg) (n : Nat) : Nat → List (Nat × D) → Nat → Option Rb
  | 0, _, _ => none
  | f + 1, ls, i => if cAt ss i = some 59 then (match lineP ss n f (ls.map (·.1)) (i + 1) with
      | some (.ok c t j) => bookL ss n f (ls ++ [(c, t)]) j
      | some (.bad p m) => some (.bad p m)
      | none => none) else if cAt ss i = none then some (.ok ls) else some (.bad (pAt ss n i) "expected ; or the end")
def bookP (ss : Sg) (n f : Nat) : Option Rb := match lineP ss n f [] 0 with
  | some (.ok c t j) => bookL ss n f [(c, t)] j
  | some (.bad p m) => some (.bad p m)
  | none => none
def fuel (t : List Nat) : Nat := 100 * t.length + 100
def bookOf (t : List Nat) : Except (Nat × Str) (List (Nat × D)) := match badSg (signsOf t) with
  | some pl => .error (pl, "this sign cannot stand here")
  | none => match bookP (signsOf t) t.length (fuel t) with
    | some (.bad pl m) => .error (pl, m)
    | some (.ok ls) => .ok ls
    | none => .error (0, "")
def lineD (p : Nat × D) : D := .tup [.str ⟨#[p.1]⟩, p.2]
theorem len_signs (t : List Nat) : (signsOf t).length ≤ t.length := by
  unfold signsOf
  refine Nat.le_trans (List.length_filter_le _ _) ?_
  rw [List.length_zipIdx]
  exact Nat.le_refl _
theorem bad_none {ss : Sg} (h : ∀ q ∈ ss, okSg q.1 = true) : badSg ss = none := by
  unfold badSg
  have : (ss.find? fun p => !okSg p.1) = none := List.find?_eq_none.mpr fun q hq => by simp [h q hq]
  rw [this] <;> rfl
theorem find_at {α : Type} {l : List α} {p : α → Bool} {i : Nat} {q : α} (h : ∀ q ∈ l.take i, p q = false) (e : l[i]? = some q) (hq : p q = true) : l.find? p = some q := by
  obtain ⟨hi, e2⟩ := List.getElem?_eq_some_iff.mp e
  have e3 : l = l.take i ++ q :: l.drop (i + 1) := by
    rw [← e2, ← List.drop_eq_getElem_cons hi, List.take_append_drop]
  rw [e3, List.find?_append, List.find?_eq_none.mpr (fun p hp => by simp [h p hp])]
  simp [List.find?_cons, hq]
theorem bad_some {ss : Sg} {i : Nat} {q : Nat × Nat} (h : ∀ q ∈ ss.take i, okSg q.1 = true) (e : ss[i]? = some q) (hq : okSg q.1 = false) : badSg ss = some q.2 := by
  unfold badSg
  rw [find_at (p := fun p => !okSg p.1) (fun q hq2 => by simp [h q hq2]) e (by simp [hq])] <;> rfl
theorem take_snoc {α : Type} {l : List α} {i : Nat} {x : α} (h : l[i]? = some x) : l.take (i + 1) = l.take i ++ [x] := by
  obtain ⟨hi, e⟩ := List.getElem?_eq_some_iff.mp h
  rw [List.take_add_one, h] <;> rfl
theorem zip_at {t : List Nat} {i c : Nat} (h : (sg t).cps[i]? = some c) : t.zipIdx[i]? = some (c, i) := by
  have h2 : t[i]? = some c := by simpa using h
  rw [List.getElem?_zipIdx, h2]
  simp
theorem allow_list : (((("abcdef" : Str) ++ ("ABCDEFGHIJKLMNOPQRSTUVWXYZ" : Str)) ++ ("0123456789" : Str)) ++ ("+/()[]=^~<>,{}:;" : Str)).cps.toList = ("abcdef" : Str).cps.toList ++ (("ABCDEFGHIJKLMNOPQRSTUVWXYZ" : Str).cps.toList ++ (("0123456789" : Str).cps.toList ++ [43, 47, 40, 41, 91, 93, 61, 94, 126, 60, 62, 44, 123, 125, 58, 59])) := by decide +kernel
theorem allow_mem (c : Nat) : decide (c ∈ (((("abcdef" : Str) ++ ("ABCDEFGHIJKLMNOPQRSTUVWXYZ" : Str)) ++ ("0123456789" : Str)) ++ ("+/()[]=^~<>,{}:;" : Str)).cps.toList) = okSg c := by
  have h1 := lt_mem c
  have h2 := cp_mem c
  have h3 := dg_mem c
  rw [allow_list]
  unfold okSg
  rw [← h1, ← h2, ← h3, Bool.eq_iff_iff]
  simp only [Bool.or_eq_true, decide_eq_true_eq, List.mem_append, or_assoc]
end Pb
namespace K20
open PySem PySem.Spec
open PyProof.Rows L2 Sl Pb
section
variable {P : Program} {w : World} {K : PySem.W.Frag} {mg : Str → Option Value} {base : Heap} {R : Rdv} {i j d d' k : Nat} {ns : List Nat} {H H1 H2 : Hp} {E E' : XK} {Q : VK} {σ : L2.St} {B : Bool → Hp → Prop} {l : Addr}
/-- a name more -/
theorem Rdr.name (r : Rdr K R i d ns H) (c : Nat) : Went K R i d (ns ++ [c]) H (upd H R.nm (.lst (nmV ns ++ [.str ⟨#[c]⟩]))) := by
  obtain ⟨xs, h1, h2⟩ := r.s
  have t : TEx H (upd H R.nm (.lst (nmV ns ++ [.str ⟨#[c]⟩]))) := tex_put r.m (by intro xs z; cases z) (by intro a b z; cases z)
  refine ⟨exb_put.mono (fun a ha => by simp at ha; simp [ha]), t, ?_, ⟨xs, ?_, h2.mono t⟩, ?_, r.ne⟩
  · rw [upd_ne (ne_of r.o r.m (by intro z; cases z))]
    exact r.o
  · rw [upd_ne r.ne]
    exact h1
  · rw [upd_same]
    simp [nmV]
def spLine (K : PySem.W.Frag) : Sp := fun vs H Q E => ∃ (R : Rdv) (i : Nat) (ns : List Nat) (f : Nat) (r : Rl), vs = [.ref R.p] ∧ Rdr K R i 0 ns H ∧ R.ss.length ≤ 400 ∧ f ≤ 1000000 ∧ ns.length ≤ 1000000 ∧ lineP R.ss R.n f ns i = some r ∧
  (∀ pl m, r = .bad pl m → Fl K R H E pl m) ∧ ∀ c t j, r = .ok c t j → ∀ v H', Went K R j 0 (ns ++ [c]) H H' → RD K H' (lineD (c, t)) v → Q v H'
theorem ok_line (T : Tx K mg) : Has P w K mg base 112 (a_Reader_line_told K) p_Reader_line_told (spLine K) := by
  refine has_of (f_Reader_line_told T) (z_Reader_line_told T) (b_Reader_line_told T) (fun vs H Q E h => by obtain ⟨_, _, _, _, _, rfl, _⟩ := h; rfl) (fun cdv A outer s H vs Q E hr h => ?_)
  obtain ⟨R, i, ns, f, r, rfl, rd, hl, hfu, hns, hf, k1, k2⟩ := h
  have h_Reader_sign := ok_sign (P := P) (w := w) (base := base) T
  have h_Reader_refuse := ok_refuse (P := P) (w := w) (base := base) T
  have h_Reader_expect := ok_expect (P := P) (w := w) (base := base) T
  have h_Reader_nest := ok_nestAt (P := P) (w := w) (base := base) T 20 0 rfl
  refine ⟨_, (pss_cons (ps_set (i := 1) (z_Reader_line_told T).nd rfl (Or.inl rfl) (pmeth0 h_Reader_sign (c_Reader T) (m_Reader_sign T) (hr.mono (by omega)) passL (pv 0)))
  (pss_cons (ps_if (PW.pt (pw_or (pt_cmpR op_eq (pv 1) pe_str (nomark _)) (pw_or1 (pt_cmpR oNiSg (pv 1) (pgs (i_CAPITALS T)) rfl)))) (pss_one (ps_expr (pmeth h_Reader_refuse (c_Reader T) (m_Reader_refuse T) (hr.mono (by omega)) px_of (pv 0) (pa_cons pe_str pa_nil)))) pss_nil)
  (pss_cons (ps_if (pt_cmpR (inK K) (pv 1) (fldK K (pv 0)) rfl) (pss_one (ps_expr (pmeth h_Reader_refuse (c_Reader T) (m_Reader_refuse T) (hr.mono (by omega)) px_of (pv 0) (pa_cons pe_str pa_nil)))) pss_nil)
  (pss_cons (ps_fldaug (pv 0) pe_int in_add)
  (pss_cons (ps_expr (pmeth h_Reader_expect (c_Reader T) (m_Reader_expect T) (hr.mono (by omega)) px_of (pv 0) (pa_cons pe_str (pa_cons pe_str pa_nil))))
  (pss_cons (ps_set (i := 2) (z_Reader_line_told T).nd rfl (Or.inl rfl) (pmeth0 h_Reader_nest (c_Reader T) (m_Reader_nest T) (hr.mono (by omega)) px_of (pv 0)))
  (pss_cons (ps_expr (bmK K PySem.F.plainAttrs_list PySem.F.slot_list_append PySem.F.type_list_append mt_append (fldK K (pv 0)) (pa_cons (pv 1) pa_nil)))
  (pss_one (ps_ret (pe_tup (pa_cons (pv 1) (pa_cons (pv 2) pa_nil)))))))))))), ?_⟩
  unfold lineP at hf
  refine rSign (k := 0) rfl rd ?_
  cases hc : cAt R.ss i with
  | none =>
    have e : sgAt R.ss i = ⟨#[]⟩ := by unfold sgAt; rw [hc]
    rw [hc] at hf
    obtain rfl : Rl.bad (pAt R.ss R.n i) "expected a name" = r := Option.some.inj hf
    rw [e]
    refine ⟨_, rfl, rfl, true, (by rw [decide_eq_true (show V.str ⟨#[]⟩ = V.str "" by rfl)]), ?_⟩
    exact rRefuse (k := 0) rfl rd (k1 _ _ rfl)
  | some c =>
    have e : sgAt R.ss i = ⟨#[c]⟩ := by unfold sgAt; rw [hc]
    rw [hc] at hf
    simp only [] at hf
    rw [e]
    refine ⟨_, rfl, rfl, false, ndec sg_nonil, ?_⟩
    refine ⟨_, rfl, c, _, rfl, rfl, !isCp c, congrArg (fun b => V.bl (!b)) (cp_mem c), ?_⟩
    cases hcp : isCp c with
    | false =>
      rw [if_neg (by rw [hcp]; decide)] at hf
      obtain rfl : Rl.bad (pAt R.ss R.n i) "expected a name" = r := Option.some.inj hf
      exact rRefuse (k := 0) rfl rd (k1 _ _ rfl)
    | true =>
      rw [if_pos hcp] at hf
      refine ⟨_, rfl, _, rfl, R.p, _, R.dx, _, _, rfl, rd.o, c_Reader T, n_Reader_names T, rf_names .., R.nm, _, rfl, .inl (SqL.of rd.m), rfl, nm_flat ns, decide (c ∈ ns), (by show V.bl (inV _ _) = _; rw [inV_nm]), ?_⟩
      by_cases hin : c ∈ ns
      · rw [decide_eq_true hin]
        rw [if_pos hin] at hf
        obtain rfl : Rl.bad (pAt R.ss R.n i) "this name is there already" = r := Option.some.inj hf
        exact rRefuse (k := 0) rfl rd (k1 _ _ rfl)
      · rw [decide_eq_false hin]
        rw [if_neg hin] at hf
        refine ⟨_, rfl, R.p, _, R.dx, _, _, rfl, rd.o, c_Reader T, n_Reader_at T, rf_at .., _, _, rfl, rfl, R.dx, _, rd.o, by show 5 < 1000; decide, ?_⟩
        rw [rf_putAt1]
        have W1 : Went K R (i + 1) 0 ns H _ := rd.put
        refine rExpect (k := 0) 61 rfl W1.r (fun c3 H6 Wa => ?_) (fun c3 => ?_)
        rotate_left
        · rw [if_neg c3] at hf
          obtain rfl : Rl.bad (pAt R.ss R.n (i + 1)) "expected =" = r := Option.some.inj hf
          exact Fl.later (k1 _ _ rfl) W1
        rw [if_pos c3] at hf
        have W2 := W1.trans Wa
        cases hi : nestP R.ss R.n ns f 0 (i + 2) with
        | none => rw [hi] at hf; cases hf
        | some r1 =>
        rw [hi] at hf
        refine rPar (k := 0) rfl W2.r hl hfu hi (fun pl msg e => ?_) (fun t j e v2 H3 W4 rv2 => ?_)
        · subst e
          obtain rfl : Rl.bad pl msg = r := Option.some.inj hf
          exact Fl.later (k1 _ _ rfl) W2
        · subst e
          obtain rfl : Rl.ok c t j = r := Option.some.inj hf
          have W5 := W2.trans W4
          refine ⟨_, rfl, R.p, _, R.dx, _, _, rfl, W5.r.o, c_Reader T, n_Reader_names T, rf_names .., tl_list W5.r.m, _, rfl, R.nm, _, _, rfl, rfl, W5.r.m, ?_, ?_⟩
          · show (ns.map _).length < _
            rw [List.length_map]
            exact Nat.lt_of_le_of_lt hns (by decide)
          · have W6 := W5.r.name c
            refine ⟨_, rfl, _, rfl, two_sz _ _, fun q hq => k2 _ _ _ rfl _ _ ((W5.trans W6).new hq) ?_⟩
            exact .tup (.inl (.inl upd_same)) (.cons (.str _) (.cons (rv2.mono (W6.t.trans (ex_new hq).t)) .nil))
def spBook (K : PySem.W.Frag) : Sp := fun vs H Q E => ∃ (R : Rdv) (f : Nat) (r : Rb), vs = [.ref R.p] ∧ Rdr K R 0 0 [] H ∧ R.ss.length ≤ 400 ∧ f ≤ 500000 ∧ bookP R.ss R.n f = some r ∧
  (∀ pl m, r = .bad pl m → Fl K R H E pl m) ∧ ∀ ls, r = .ok ls → ∀ l xs H', ExB [R.p, R.nm] H H' → TEx H H' → H' l = some (.lst xs) → RDs K H' (ls.map lineD) xs → Q (.ref l) H'
theorem ok_book (T : Tx K mg) : Has P w K mg base 113 (a_Reader_book K) p_Reader_book (spBook K) := by
  refine has_of (f_Reader_book T) (z_Reader_book T) (b_Reader_book T) (fun vs H Q E h => by obtain ⟨_, _, _, rfl, _⟩ := h; rfl) (fun cdv A outer s H vs Q E hr h => ?_)
  obtain ⟨R, f, r, rfl, rd, hl, hfu, hf, k1, k2⟩ := h
  have h_Reader_sign := ok_sign (P := P) (w := w) (base := base) T
  have h_Reader_is_next := ok_next (P := P) (w := w) (base := base) T
  have h_Reader_refuse := ok_refuse (P := P) (w := w) (base := base) T
  have h_Reader_line_told := ok_line (P := P) (w := w) (base := base) T
  refine ⟨_, (pss_cons (ps_set (i := 1) (z_Reader_book T).nd rfl (Or.inl rfl) (pe_lst (pa_cons (pmeth0 h_Reader_line_told (c_Reader T) (m_Reader_line_told T) (hr.mono (by omega)) px_of (pv 0)) pa_nil)))
  (pss_cons (ps_while (passes_of rfl) (pt_val (pmeth h_Reader_is_next (c_Reader T) (m_Reader_is_next T) (hr.mono (by omega)) passL (pv 0) (pa_cons pe_str pa_nil))) (pss_one (ps_expr (bmK K PySem.F.plainAttrs_list PySem.F.slot_list_append PySem.F.type_list_append mt_append (pv 1) (pa_cons (pmeth0 h_Reader_line_told (c_Reader T) (m_Reader_line_told T) (hr.mono (by omega)) px_of (pv 0)) pa_nil)))))
  (pss_cons (ps_if (pt_cmpR op_ne (pmeth0 h_Reader_sign (c_Reader T) (m_Reader_sign T) (hr.mono (by omega)) passL (pv 0)) pe_str (nomark _)) (pss_one (ps_expr (pmeth h_Reader_refuse (c_Reader T) (m_Reader_refuse T) (hr.mono (by omega)) px_of (pv 0) (pa_cons pe_str pa_nil)))) pss_nil)
  (pss_one (ps_ret (pv 1)))))), ?_⟩
  unfold bookP at hf
  cases hi : lineP R.ss R.n f [] 0 with
  | none => rw [hi] at hf; cases hf
  | some r1 =>
  rw [hi] at hf
  refine ⟨_, rfl, R.p, R.dx, _, rfl, rd.o, rfl, R, 0, [], f, r1, rfl, rd, hl, by omega, by show 0 ≤ 1000000; decide, hi, fun pl msg e => ?_, fun c t j e v H2 W rv => ?_⟩
  · subst e
    obtain rfl : Rb.bad pl msg = r := Option.some.inj hf
    exact k1 _ _ rfl
  subst e
  refine ⟨by show 1 ≤ sizeLine; decide, fun l hn => ?_⟩
  have hlH : H l = none := by
    cases q : H l with
    | none => rfl
    | some o =>
      by_cases z1 : l = R.p
      · rw [z1, W.r.o] at hn; cases hn
      · by_cases z2 : l = R.nm
        · rw [z2, W.r.m] at hn; cases hn
        · rw [W.e l o (by simp [z1, z2]) q] at hn; cases hn
  refine ⟨fun m σ H1 => ∃ ls i1 xs, σ = [some (.ref R.p), some (.ref l)] ∧ ls.length + m ≤ 500001 ∧ Went K R i1 0 (ls.map (·.1)) H H1 ∧ H1 l = some (.lst xs) ∧ RDs K H1 (ls.map lineD) xs ∧ bookL R.ss R.n m ls i1 = some r, ⟨f, [(c, t)], j, _, rfl, by show 1 + f ≤ 500001; omega, W.new hn, upd_same, .one (rv.mono (ex_new hn).t), hf⟩, ?_⟩
  rintro m σ H1 ⟨ls, i1, xs, rfl, hmu, W, hxs, rxs, hm⟩
  cases m with
  | zero => simp [bookL] at hm
  | succ m =>
  simp only [bookL] at hm
  refine rNext (k := 0) 59 rfl W.r (fun c H2 W2 => ?_) (fun c => ?_)
  · rw [if_pos c] at hm
    have W3 := W.trans W2
    have hxs2 := W2.keep rd hlH hxs
    refine ⟨fun σ' H' => ∃ ls i1 xs, σ' = [some (.ref R.p), some (.ref l)] ∧ ls.length + m ≤ 500001 ∧ Went K R i1 0 (ls.map (·.1)) H H' ∧ H' l = some (.lst xs) ∧ RDs K H' (ls.map lineD) xs ∧ bookL R.ss R.n m ls i1 = some r, fun σ' H' h => ⟨m, Nat.lt_succ_self m, h⟩, ?_⟩
    cases hi : lineP R.ss R.n m (ls.map (·.1)) (i1 + 1) with
    | none => rw [hi] at hm; cases hm
    | some r1 =>
    rw [hi] at hm
    refine ⟨_, rfl, tl_list hxs2, _, rfl, R.p, R.dx, _, rfl, W3.r.o, rfl, R, _, _, m, r1, rfl, W3.r, hl, by omega, by rw [List.length_map]; omega, hi, fun pl msg e => ?_, fun c t j e v H3 W4 rv => ?_⟩
    · subst e
      obtain rfl : Rb.bad pl msg = r := Option.some.inj hm
      exact Fl.later (k1 _ _ rfl) W3
    · subst e
      have W5 := W3.trans W4
      have hxs3 := W4.keep rd hlH hxs2
      have e1 : (ls ++ [(c, t)]).map (·.1) = ls.map (·.1) ++ [c] := by simp
      have rxs3 := rxs.mono (W2.t.trans W4.t)
      refine ⟨l, xs, _, rfl, rfl, hxs3, ?_, ls ++ [(c, t)], j, _, rfl, by rw [List.length_append]; show ls.length + 1 + m ≤ _; omega, by rw [e1]; exact W5.own rd hlH, upd_same, ?_, hm⟩
      · rw [rxs.len, List.length_map]
        exact Nat.lt_of_le_of_lt (show ls.length ≤ 500001 by omega) (by decide)
      · rw [List.map_append]
        have t : TEx H3 (upd H3 l (.lst (xs ++ [v]))) := tex_put hxs3 (by intro xs z; cases z) (by intro a b z; cases z)
        exact (rxs3.mono t).append (.one (rv.mono t))
  · rw [if_neg c] at hm
    refine rSign (k := 0) rfl W.r ⟨rfl, ?_⟩
    cases hc : cAt R.ss i1 with
    | none =>
      rw [if_pos hc] at hm
      obtain rfl : Rb.ok ls = r := Option.some.inj hm
      have e : sgAt R.ss i1 = ⟨#[]⟩ := by unfold sgAt; rw [hc]
      rw [e]
      exact ⟨false, ndecN (by rfl), _, rfl, k2 _ rfl _ _ _ W.e W.t hxs rxs⟩
    | some c2 =>
      rw [if_neg (by rw [hc]; simp)] at hm
      obtain rfl : Rb.bad (pAt R.ss R.n i1) "expected ; or the end" = r := Option.some.inj hm
      have e : sgAt R.ss i1 = ⟨#[c2]⟩ := by unfold sgAt; rw [hc]
      rw [e]
      exact ⟨true, pdecN sg_nonil, rRefuse (k := 0) rfl W.r (Fl.later (k1 _ _ rfl) W)⟩
end
end K20
namespace Pb
open PySem L2 Sl
theorem brk_lt {ss : Sg} {n i : Nat} {t u : D} {j : Nat} (h : bracketsP ss n t i = .ok u j) : i < j := by
  unfold bracketsP at h
  cases e : numP ss n i with
  | bad p m => rw [e] at h; cases h
  | ok v a =>
    have ha := numP_lt e
    rw [e] at h
    simp only [] at h
    split at h
    · cases e2 : numP ss n (a + 1) with
      | bad p m => rw [e2] at h; cases h
      | ok v2 b =>
        have hb := numP_lt e2
        rw [e2] at h
        simp only [] at h
        split at h
        · cases h; omega
        · cases h
    · split at h
      · cases h; omega
      · cases h
theorem cAt_in {ss : Sg} {i c : Nat} (h : cAt ss i = some c) : i < ss.length := by
  unfold cAt at h
  cases q : ss[i]? with
  | none => rw [q] at h; cases h
  | some p => exact (List.getElem?_eq_some_iff.mp q).1
theorem ordL_enough (ss : Sg) (n : Nat) : ∀ (f i : Nat) (vs : List Nat), (ss.length - i) + 1 ≤ f → ∃ r, orderL ss n f vs i = some r ∧ ∀ us j, r = .ok us j → i < j
  | 0, i, vs, h => by omega
  | f + 1, i, vs, h => by
    simp only [orderL]
    by_cases c : cAt ss i = some 44
    · have hi := cAt_in c
      rw [if_pos c]
      cases e : numP ss n (i + 1) with
      | bad p m => exact ⟨_, rfl, fun us j z => by cases z⟩
      | ok v j =>
        have hj := numP_lt e
        obtain ⟨r, h1, h2⟩ := ordL_enough ss n f j (vs ++ [v]) (by omega)
        exact ⟨r, h1, fun us j' z => by have := h2 us j' z; omega⟩
    · rw [if_neg c]
      by_cases c2 : cAt ss i = some 62
      · rw [if_pos c2]
        exact ⟨_, rfl, fun us j z => by cases z; omega⟩
      · rw [if_neg c2]
        exact ⟨_, rfl, fun us j z => by cases z⟩
theorem ordP_enough (ss : Sg) (n f i : Nat) (h : (ss.length - i) + 1 ≤ f) : ∃ r, orderP ss n f i = some r ∧ ∀ us j, r = .ok us j → i < j := by
  unfold orderP
  by_cases c2 : cAt ss i = some 62
  · rw [if_pos c2]
    exact ⟨_, rfl, fun us j z => by cases z; omega⟩
  · rw [if_neg c2]
    cases e : numP ss n i with
    | bad p m => exact ⟨_, rfl, fun us j z => by cases z⟩
    | ok v j =>
      have hj := numP_lt e
      obtain ⟨r, h1, h2⟩ := ordL_enough ss n f j [v] (by omega)
      exact ⟨r, h1, fun us j' z => by have := h2 us j' z; omega⟩
theorem enough (ss : Sg) (n : Nat) (ns : List Nat) : ∀ f : Nat,
    (∀ d i, 5 * (ss.length - i) + 5 ≤ f → ∃ r, nestP ss n ns f d i = some r ∧ ∀ t j, r = .ok t j → i < j) ∧
    (∀ d t i, 5 * (ss.length - i) + 1 ≤ f → ∃ r, nestL ss n ns f d t i = some r ∧ ∀ t j, r = .ok t j → i ≤ j) ∧
    (∀ d i, 5 * (ss.length - i) + 4 ≤ f → ∃ r, itemP ss n ns f d i = some r ∧ ∀ t j, r = .ok t j → i < j) ∧
    (∀ d t i, 5 * (ss.length - i) + 1 ≤ f → ∃ r, itemL ss n ns f d t i = some r ∧ ∀ t j, r = .ok t j → i ≤ j) ∧
    (∀ d i, 5 * (ss.length - i) + 3 ≤ f → ∃ r, atomP ss n ns f d i = some r ∧ ∀ t j, r = .ok t j → i < j) ∧
    (∀ d t i, 5 * (ss.length - i) + 1 ≤ f → ∃ r, atomL ss n ns f d t i = some r ∧ ∀ t j, r = .ok t j → i ≤ j) ∧
    (∀ d i, 5 * (ss.length - i) + 2 ≤ f → ∃ r, groundP ss n ns f d i = some r ∧ ∀ t j, r = .ok t j → i < j) ∧
    (∀ d k ds i, 5 * (ss.length - i) + 1 ≤ f → ∃ r, filledL ss n ns f d k ds i = some r ∧ ∀ t j, r = .ok t j → i ≤ j) := by
  intro f
  induction f with
  | zero => refine ⟨?_, ?_, ?_, ?_, ?_, ?_, ?_, ?_⟩ <;> (intros; omega)
  | succ f ih =>
    obtain ⟨hN, hNL, hI, hIL, hA, hAL, hG, hF⟩ := ih
    refine ⟨?_, ?_, ?_, ?_, ?_, ?_, ?_, ?_⟩
    · intro d i h
      obtain ⟨r, e, m⟩ := hI d i (by omega)
      simp only [nestP, e]
      cases r with
      | bad p q => exact ⟨_, rfl, fun t j z => by cases z⟩
      | ok t j =>
        have hj := m t j rfl
        obtain ⟨r2, e2, m2⟩ := hNL d t j (by omega)
        exact ⟨r2, e2, fun t' j' z => by have := m2 t' j' z; omega⟩
    · intro d t i h
      simp only [nestL]
      by_cases c : cAt ss i = some 43
      · have hi := cAt_in c
        rw [if_pos c]
        obtain ⟨r, e, m⟩ := hI d (i + 1) (by omega)
        rw [e]
        cases r with
        | bad p q => exact ⟨_, rfl, fun t j z => by cases z⟩
        | ok u j =>
          have hj := m u j rfl
          obtain ⟨r2, e2, m2⟩ := hNL d (besideD t u) j (by omega)
          exact ⟨r2, e2, fun t' j' z => by have := m2 t' j' z; omega⟩
      · rw [if_neg c]
        exact ⟨_, rfl, fun t' j' z => by cases z; exact Nat.le_refl _⟩
    · intro d i h
      obtain ⟨r, e, m⟩ := hA d i (by omega)
      simp only [itemP, e]
      cases r with
      | bad p q => exact ⟨_, rfl, fun t j z => by cases z⟩
      | ok t j =>
        have hj := m t j rfl
        obtain ⟨r2, e2, m2⟩ := hIL d t j (by omega)
        exact ⟨r2, e2, fun t' j' z => by have := m2 t' j' z; omega⟩
    · intro d t i h
      simp only [itemL]
      by_cases c : cAt ss i = some 47
      · have hi := cAt_in c
        rw [if_pos c]
        cases q : numP ss n (i + 1) with
        | bad p m => exact ⟨_, rfl, fun t j z => by cases z⟩
        | ok v a =>
          have ha := numP_lt q
          obtain ⟨r, e, m⟩ := hA d a (by omega)
          simp only [e]
          cases r with
          | bad p q => exact ⟨_, rfl, fun t j z => by cases z⟩
          | ok u j =>
            have hj := m u j rfl
            obtain ⟨r2, e2, m2⟩ := hIL d (overD v t u) j (by omega)
            exact ⟨r2, e2, fun t' j' z => by have := m2 t' j' z; omega⟩
      · rw [if_neg c]
        exact ⟨_, rfl, fun t' j' z => by cases z; exact Nat.le_refl _⟩
    · intro d i h
      obtain ⟨r, e, m⟩ := hG d i (by omega)
      simp only [atomP, e]
      cases r with
      | bad p q => exact ⟨_, rfl, fun t j z => by cases z⟩
      | ok t j =>
        have hj := m t j rfl
        obtain ⟨r2, e2, m2⟩ := hAL d t j (by omega)
        exact ⟨r2, e2, fun t' j' z => by have := m2 t' j' z; omega⟩
    · intro d t i h
      simp only [atomL]
      by_cases c : cAt ss i = some 91
      · have hi := cAt_in c
        rw [if_pos c]
        cases q : bracketsP ss n t (i + 1) with
        | bad p m => exact ⟨_, rfl, fun t j z => by cases z⟩
        | ok u j =>
          have hj := brk_lt q
          obtain ⟨r2, e2, m2⟩ := hAL d u j (by omega)
          exact ⟨r2, e2, fun t' j' z => by have := m2 t' j' z; omega⟩
      rw [if_neg c]
      by_cases c : cAt ss i = some 94
      · have hi := cAt_in c
        rw [if_pos c]
        cases q : numP ss n (i + 1) with
        | bad p m => exact ⟨_, rfl, fun t j z => by cases z⟩
        | ok v j =>
          have hj := numP_lt q
          obtain ⟨r2, e2, m2⟩ := hAL d (powerD v t) j (by omega)
          exact ⟨r2, e2, fun t' j' z => by have := m2 t' j' z; omega⟩
      rw [if_neg c]
      by_cases c : cAt ss i = some 126
      · have hi := cAt_in c
        rw [if_pos c]
        obtain ⟨r2, e2, m2⟩ := hAL d (roundD t) (i + 1) (by omega)
        exact ⟨r2, e2, fun t' j' z => by have := m2 t' j' z; omega⟩
      rw [if_neg c]
      by_cases c : cAt ss i = some 60
      · have hi := cAt_in c
        rw [if_pos c]
        obtain ⟨r, e, m⟩ := ordP_enough ss n f (i + 1) (by omega)
        rw [e]
        cases r with
        | bad p m => exact ⟨_, rfl, fun t j z => by cases z⟩
        | ok us j =>
          have hj := m us j rfl
          obtain ⟨r2, e2, m2⟩ := hAL d (orderD us t) j (by omega)
          exact ⟨r2, e2, fun t' j' z => by have := m2 t' j' z; omega⟩
      rw [if_neg c]
      exact ⟨_, rfl, fun t' j' z => by cases z; exact Nat.le_refl _⟩
    · intro d i h
      simp only [groundP]
      by_cases c : cAt ss i = some 40
      · have hi := cAt_in c
        rw [if_pos c]
        by_cases d20 : d = 20
        · rw [if_pos d20]
          exact ⟨_, rfl, fun t j z => by cases z⟩
        · rw [if_neg d20]
          obtain ⟨r, e, m⟩ := hN (d + 1) (i + 1) (by omega)
          rw [e]
          cases r with
          | bad p q => exact ⟨_, rfl, fun t j z => by cases z⟩
          | ok t j =>
            have hj := m t j rfl
            simp only []
            by_cases c2 : cAt ss j = some 41
            · rw [if_pos c2]
              exact ⟨_, rfl, fun t j z => by cases z; omega⟩
            · rw [if_neg c2]
              exact ⟨_, rfl, fun t j z => by cases z⟩
      · rw [if_neg c]
        cases hc : cAt ss i with
        | none => exact ⟨_, rfl, fun t j z => by cases z⟩
        | some c =>
          simp only []
          have hi := cAt_in hc
          split
          · split
            · exact ⟨_, rfl, fun t j z => by cases z; omega⟩
            · exact ⟨_, rfl, fun t j z => by cases z⟩
          · split
            · obtain ⟨r2, e2, m2⟩ := hF d (c - 97) [] (i + 1) (by omega)
              exact ⟨r2, e2, fun t' j' z => by have := m2 t' j' z; omega⟩
            · exact ⟨_, rfl, fun t j z => by cases z⟩
    · intro d k ds i h
      simp only [filledL]
      by_cases c : cAt ss i = some 123
      · have hi := cAt_in c
        rw [if_pos c]
        by_cases d20 : d = 20
        · rw [if_pos d20]
          exact ⟨_, rfl, fun t j z => by cases z⟩
        rw [if_neg d20]
        cases q : numP ss n (i + 1) with
        | bad p m => exact ⟨_, rfl, fun t j z => by cases z⟩
        | ok v a =>
          have ha := numP_lt q
          simp only []
          by_cases c2 : cAt ss a = some 58
          · rw [if_pos c2]
            obtain ⟨r, e, m⟩ := hN (d + 1) (a + 1) (by omega)
            rw [e]
            cases r with
            | bad p q => exact ⟨_, rfl, fun t j z => by cases z⟩
            | ok t j =>
              have hj := m t j rfl
              simp only []
              by_cases c3 : cAt ss j = some 125
              · rw [if_pos c3]
                obtain ⟨r2, e2, m2⟩ := hF d k (ds ++ [(v, t)]) (j + 1) (by omega)
                exact ⟨r2, e2, fun t' j' z => by have := m2 t' j' z; omega⟩
              · rw [if_neg c3]
                exact ⟨_, rfl, fun t j z => by cases z⟩
          · rw [if_neg c2]
            exact ⟨_, rfl, fun t j z => by cases z⟩
      · rw [if_neg c]
        exact ⟨_, rfl, fun t' j' z => by cases z; exact Nat.le_refl _⟩
theorem line_enough (ss : Sg) (n f : Nat) (ns : List Nat) (i : Nat) (h : 5 * (ss.length - i) + 5 ≤ f) : ∃ r, lineP ss n f ns i = some r ∧ ∀ c t j, r = .ok c t j → i < j := by
  unfold lineP
  cases hc : cAt ss i with
  | none => exact ⟨_, rfl, fun c t j z => by cases z⟩
  | some c =>
    simp only []
    split
    · split
      · exact ⟨_, rfl, fun c t j z => by cases z⟩
      · split
        · obtain ⟨r, e, m⟩ := (enough ss n ns f).1 0 (i + 2) (by omega)
          rw [e]
          cases r with
          | bad p q => exact ⟨_, rfl, fun c t j z => by cases z⟩
          | ok t j => exact ⟨_, rfl, fun c t j z => by cases z; have := m _ _ rfl; omega⟩
        · exact ⟨_, rfl, fun c t j z => by cases z⟩
    · exact ⟨_, rfl, fun c t j z => by cases z⟩
theorem bookL_enough (ss : Sg) (n : Nat) : ∀ (f : Nat) (ls : List (Nat × D)) (i : Nat), 5 * (ss.length - i) + 6 ≤ f → ∃ r, bookL ss n f ls i = some r
  | 0, ls, i, h => by omega
  | f + 1, ls, i, h => by
    simp only [bookL]
    by_cases c : cAt ss i = some 59
    · have hi := cAt_in c
      rw [if_pos c]
      obtain ⟨r, e, m⟩ := line_enough ss n f (ls.map (·.1)) (i + 1) (by omega)
      rw [e]
      cases r with
      | bad p q => exact ⟨_, rfl⟩
      | ok c t j =>
        have hj := m c t j rfl
        exact bookL_enough ss n f (ls ++ [(c, t)]) j (by omega)
    · rw [if_neg c]
      split
      · exact ⟨_, rfl⟩
      · exact ⟨_, rfl⟩
theorem book_enough (t : List Nat) : ∃ r, bookP (signsOf t) t.length (fuel t) = some r := by
  have hl := len_signs t
  unfold bookP
  obtain ⟨r, e, m⟩ := line_enough (signsOf t) t.length (fuel t) [] 0 (by unfold fuel; omega)
  rw [e]
  cases r with
  | bad p q => exact ⟨_, rfl⟩
  | ok c t2 j => exact bookL_enough _ _ _ _ _ (by unfold fuel; omega)
end Pb
namespace Sl
open PySem PySem.Spec
open PyProof.Rows L2
theorem tyT {K : PySem.W.Frag} {H : Hp} {a : Addr} {xs : List V} (h : SqT K H a xs) : TyX K H (.ref a) (.type "tuple") := by
  rcases h with (h | ⟨o, h⟩) | ⟨o, its, n, h, hc, _⟩
  · exact .base (.tup h)
  · exact .fTuple h
  · exact .kTuple h hc
end Sl
namespace K20
open PySem PySem.Spec
open PyProof.Rows L2 Sl Pb
section
variable {P : Program} {w : World} {K : PySem.W.Frag} {mg : Str → Option Value} {base : Heap} {R : Rdv} {i j d d' k : Nat} {ns : List Nat} {H H1 H2 : Hp} {E E' : XK} {Q : VK} {σ : L2.St} {B : Bool → Hp → Prop} {l : Addr}
def spInit (K : PySem.W.Frag) : Sp := fun vs H Q E => ∃ (p dx : Addr) (t : List Nat), vs = [.ref p, .str (sg t)] ∧ H p = some (.ins (cR K) dx []) ∧ t.length ≤ 400 ∧
  (∀ pl, badSg (signsOf t) = some pl → ∀ d H', ExB [p] H H' → H d = none → H' d = some (.xd [("message", .str "this sign cannot stand here"), ("place", .int (pl : Int))]) → E (.ref (cF K)) (some d) H') ∧
  (badSg (signsOf t) = none → ∀ l nm H', H l = none → H nm = none → ExB [p] H H' → TEx H H' → Rdr K ⟨p, dx, l, nm, t.length, signsOf t⟩ 0 0 [] H' → Q .non H')
theorem ok_init (T : Tx K mg) : Has P w K mg base 4 (a_Reader_init K) p_Reader_init (spInit K) := by
  refine has_of (f_Reader_init T) (z_Reader_init T) (b_Reader_init T) (fun vs H Q E h => by obtain ⟨_, _, _, rfl, _⟩ := h; rfl) (fun cdv A outer s H vs Q E hr h => ?_)
  obtain ⟨p, dx, t, rfl, hp, ht, kb, kg⟩ := h
  have h_Flaw_init := ok_Flawinit (P := P) (w := w) (base := base) T
  refine ⟨_, (pss_cons (ps_fld (pv 0) (pe_lc (own := [("at", 2), ("sign", 3)]) rfl (z_Reader_init T).nd (pi_enumS (by rfl) (l_enumerate T) (pa_cons (pv 1) pa_nil)) (blkOk_by (N := n_Reader_init) (sc := defScope s_Reader_init) (by decide +kernel)) (fun _ _ _ _ _ => by exact (tupK K (n := 2) (pgs_cons (pg_name (i := 2) (z_Reader_init T).nd rfl (Or.inl rfl)) (pgs_cons (pg_name (i := 3) (z_Reader_init T).nd rfl (Or.inl rfl)) pgs_nil)))) (fun _ _ _ _ _ => by exact (pts_one (pt_cmpR op_ne (pv 3) pe_str (nomark _)))) (fun _ _ _ _ _ => by exact (pe_tup (pa_cons (pv 3) (pa_cons (pv 2) pa_nil))))) rfl)
  (pss_cons (ps_fld (pv 0) (pe_callB call_len_str (by rfl) (l_len T) (by decide +kernel) (pa_cons (pv 1) pa_nil)) rfl)
  (pss_cons (ps_fld (pv 0) pe_int rfl)
  (pss_cons (ps_fld (pv 0) pe_int rfl)
  (pss_cons (ps_fld (pv 0) (pe_lst pa_nil) rfl)
  (pss_one (ps_for (passes_of rfl) rfl (listW K (fldK K (pv 0))) (tupK K (n := 2) (pgs_cons (pg_name (i := 3) (z_Reader_init T).nd rfl (Or.inl rfl)) (pgs_cons (pg_name (i := 4) (z_Reader_init T).nd rfl (Or.inl rfl)) pgs_nil))) (pss_one (ps_if (pt_cmpR oNiSg (pv 3) (pe_op oAddS (pe_op oAddS (pe_op oAddS (pgs (i_LETTERS T)) (pgs (i_CAPITALS T))) (pgs (i_DIGITS T))) (pgs (i_OTHERS T))) rfl) (pss_one (praise h_Flaw_init rfl tk_of (x_Flaw T).1 (xi_Flaw T).1 (xi_Flaw T).2 (hr.mono (by omega)) (g_Flaw T) (pa_cons (pv 4) (pa_cons pe_str pa_nil)))) pss_nil))))))))), ?_⟩
  have S0 : SH K H [p] [pt p (.ins (cR K) dx [])] [] H := ⟨ExB.refl _ _, TEx.refl _, [[p]], [], .cons ⟨rfl, hp⟩ .nil, .nil, by simp, fun a ha => by
    have e : a = p := by simpa using ha
    subst e
    exact ⟨.inr (by simp), by simp⟩⟩
  refine ⟨_, rfl, _, rfl, fun l hl => lc_it walk_P (fun i H' => SH K H [p] [ls K l (((t.zipIdx).take i).filter (fun q => q.1 != 32) |>.map sgD), pt p (.ins (cR K) dx [])] [] H') ?_ (fun _ _ _ _ => trivial) ?_ ?_⟩
  · exact S0.newL hl .nil
  · rintro i x H1 H2 hi S ⟨q, x', rfl, hq, rfl, c, hc, rfl⟩
    have S1 := S.ext (ex_new (o := .tup [.int (i : Nat), .str ⟨#[c]⟩]) hq)
    have hz := zip_at hc
    refine ⟨q, _, rfl, .inl (.inl upd_same), rfl, _, _, rfl, _, _, rfl, rfl, rfl, _, rfl, rfl, !decide (c = 32), sgN 32, ?_⟩
    have hlen : (((t.zipIdx).take i).filter (fun q => q.1 != 32) |>.map sgD).length ≤ 400 := by
      rw [List.length_map]
      refine Nat.le_trans (List.length_filter_le _ _) ?_
      rw [List.length_take, List.length_zipIdx]
      omega
    by_cases c32 : c = 32
    · rw [decide_eq_true c32]
      refine iteF ?_
      have e : ((t.zipIdx).take (i + 1)).filter (fun q => q.1 != 32) = ((t.zipIdx).take i).filter (fun q => q.1 != 32) := by
        rw [take_snoc hz, List.filter_append]
        simp [c32]
      rw [e]
      exact S1
    · rw [decide_eq_false c32]
      refine iteT ?_
      refine ⟨_, rfl, _, rfl, two_sz _ _, fun u hu => ?_⟩
      have S2 := S1.ext (ex_new (o := .tup [.str ⟨#[c]⟩, .int (i : Nat)]) hu)
      obtain ⟨xs, g1, g2⟩ := S2.getL (.inl List.mem_cons_self)
      refine ⟨xs, g1, by rw [g2.len]; exact Nat.lt_of_le_of_lt hlen (by decide), ?_⟩
      have e : (((t.zipIdx).take (i + 1)).filter (fun q => q.1 != 32) |>.map sgD) = (((t.zipIdx).take i).filter (fun q => q.1 != 32) |>.map sgD) ++ [sgD (c, i)] := by
        rw [take_snoc hz, List.filter_append, List.map_append]
        simp [c32]
      rw [e]
      refine S2.putL .here (g2.append (.one ?_))
      exact .tup (.inl (.inl upd_same)) (.cons (.str _) (.cons (.int _) .nil))
  · intro H1 S
    have e : (((t.zipIdx).take (sg t).cps.size).filter (fun q => q.1 != 32) |>.map sgD) = (signsOf t).map sgD := by
      unfold signsOf
      rw [List.take_of_length_le (by simp)]
    rw [e] at S
    refine ⟨_, rfl, p, _, dx, _, rfl, S.getO (.inl (.tail _ (.head _))), c_Reader T, n_Reader_signs T, by show 0 < 1000; decide, ?_⟩
    have S2 := S.put (o' := .ins (cR K) dx (putF "signs" (.ref l) [])) (.there .here)
    refine ⟨_, rfl, _, rfl, by rw [sg_len]; exact Nat.le_trans ht (by decide), _, rfl, p, _, dx, _, rfl, S2.getO (.inl (.head _)), c_Reader T, n_Reader_size T, by show 1 < 1000; decide, ?_⟩
    have S3 := S2.put (o' := .ins (cR K) dx (putF "size" (.int ((sg t).length : Int)) (putF "signs" (.ref l) []))) .here
    refine ⟨_, rfl, p, _, dx, _, rfl, S3.getO (.inl (.head _)), c_Reader T, n_Reader_at T, by show 2 < 1000; decide, ?_⟩
    have S4 := S3.put (o' := .ins (cR K) dx (putF "at" (.int 0) (putF "size" (.int ((sg t).length : Int)) (putF "signs" (.ref l) [])))) .here
    refine ⟨_, rfl, p, _, dx, _, rfl, S4.getO (.inl (.head _)), c_Reader T, n_Reader_deep T, by show 3 < 1000; decide, ?_⟩
    have S5 := S4.put (o' := .ins (cR K) dx (putF "deep" (.int 0) (putF "at" (.int 0) (putF "size" (.int ((sg t).length : Int)) (putF "signs" (.ref l) []))))) .here
    refine ⟨by show 0 ≤ sizeLine; decide, fun nm hnm => ?_⟩
    have S6 := (S5.newL (ds := []) hnm .nil).front (.there .here)
    have hnH : H nm = none := by
      cases q : H nm with
      | none => rfl
      | some o =>
        by_cases z1 : nm = p
        · have := S5.getO (.inl (.head _))
          rw [z1, this] at hnm; cases hnm
        · rw [S5.ex nm o (by simpa using z1) q] at hnm; cases hnm
    have hlnm : l ≠ nm := by
      obtain ⟨xs, g1, -⟩ := S5.getL (.inl (.tail _ (.head _)))
      exact ne_of_none g1 hnm
    refine ⟨_, rfl, p, _, dx, _, rfl, S6.getO (.inl (.head _)), c_Reader T, n_Reader_names T, by show 4 < 1000; decide, ?_⟩
    have S7 := S6.put (o' := .ins (cR K) dx (putF "names" (.ref nm) (putF "deep" (.int 0) (putF "at" (.int 0) (putF "size" (.int ((sg t).length : Int)) (putF "signs" (.ref l) [])))))) .here
    have rdOf : ∀ H7, SH K H [p] [pt p (.ins (cR K) dx (putF "names" (.ref nm) (putF "deep" (.int 0) (putF "at" (.int 0) (putF "size" (.int ((sg t).length : Int)) (putF "signs" (.ref l) [])))))), ls K nm [], ls K l ((signsOf t).map sgD)] [] H7 →
        Rdr K ⟨p, dx, l, nm, t.length, signsOf t⟩ 0 0 [] H7 := fun H7 S => by
      refine ⟨?_, S.getL (.inl (.tail _ (.tail _ (.head _)))), ?_, hlnm⟩
      · have e := S.getO (.inl (.head _))
        rw [sg_len] at e
        exact e
      · obtain ⟨xs, g1, g2⟩ := S.getL (ds := []) (.inl (.tail _ (.head _)))
        show H7 nm = _
        rw [g1, g2.ofNil]
        rfl
    have rd := rdOf _ S7
    have ex7 := S7.ex
    have tx7 := S7.tx
    obtain ⟨ys, g1, g2⟩ := rd.s
    have hn : ys.length = (signsOf t).length := by rw [g2.len, List.length_map]
    refine ⟨_, rfl, p, _, dx, _, _, rfl, rd.o, c_Reader T, n_Reader_signs T, rf_signs .., l, rfl, ⟨ys, SqL.of g1⟩, ?_⟩
    refine for_it (walk_list (xs := ys)) (fun i σ H' => (Rdr K ⟨p, dx, l, nm, t.length, signsOf t⟩ 0 0 [] H' ∧ ExB [p] H H' ∧ TEx H H' ∧ H' l = some (.lst ys)) ∧ (∀ q ∈ (signsOf t).take i, okSg q.1 = true) ∧ ∃ x1 x2 x3 x4, σ = [some (.ref p), x1, x2, x3, x4])
      ⟨⟨rd, ex7, tx7, g1⟩, by simp, _, _, _, _, rfl⟩ (fun i σ H' _ h => SqL.of h.1.2.2.2) ?_ ?_
    · rintro i x σ H1 H2 hi ⟨⟨rd, ex7, tx7, g1⟩, hok, x1, x2, x3, x4, rfl⟩ ⟨rfl, hx⟩
      obtain ⟨zs, z1, z2⟩ := rd.s
      have z1 : H2 l = some (.lst zs) := z1
      rw [g1] at z1
      cases z1
      obtain ⟨d0, h1, h2⟩ := z2.getV hx
      rw [List.getElem?_map] at h1
      have h1 : ((signsOf t)[i]?).map sgD = some d0 := h1
      cases hq : (signsOf t)[i]? with
      | none => rw [hq] at h1; cases h1
      | some q =>
        rw [hq] at h1
        cases h1
        obtain ⟨a, ys, rfl, h3, h4⟩ := h2.ofTup
        obtain ⟨v1, w1, rfl, q1, q2⟩ := h4.ofCons
        obtain ⟨v2, w2, rfl, q3, q4⟩ := q2.ofCons
        obtain rfl := q1.ofStr
        obtain rfl := q3.ofInt
        obtain rfl := q4.ofNil
        refine ⟨a, _, rfl, h3, rfl, _, _, rfl, _, _, rfl, rfl, ?_⟩
        refine ⟨_, rfl, _, _, rfl, rfl, by decide, _, _, rfl, rfl, by decide, _, _, rfl, rfl, by decide, q.1, _, rfl, rfl, !okSg q.1, congrArg (fun b => V.bl (!b)) (allow_mem q.1), ?_⟩
        cases ho : okSg q.1 with
        | true =>
          refine iteF ⟨⟨rd, ex7, tx7, g1⟩, ?_, _, _, _, _, rfl⟩
          intro z hz
          rw [take_snoc hq] at hz
          rcases List.mem_append.mp hz with hz | hz
          · exact hok z hz
          · have : z = q := by simpa using hz
            rw [this]
            exact ho
        | false =>
          refine iteT ⟨_, rfl, ?_⟩
          refine mkx2 (x_Flaw T).1 (n_Flaw_place T) (n_Flaw_message T) fun d' H' e1 e2 e3 => kb q.2 (bad_some hok hq ho) d' H' (ex7.trans e1.b) ?_ e3
          cases qq : H d' with
          | none => rfl
          | some o =>
            by_cases z1 : d' = p
            · have := rd.o
              rw [z1, this] at e2; cases e2
            · rw [ex7 d' o (by simpa using z1) qq] at e2; cases e2
    · rintro σ H1 ⟨⟨rd, ex7, tx7, g1⟩, hok, -⟩
      rw [hn, List.take_length] at hok
      exact kg (bad_none hok) l nm _ hl hnH ex7 tx7 rd
end
end K20
namespace Pb
open PySem L2 Sl
/-- the first flaw as data -/
def flD : Option (Nat × Str) → D
  | none => .non
  | some e => .tup [.int (e.1 : Int), .str e.2]
def flOf (t : List Nat) : Option (Nat × Str) := match bookOf t with
  | .ok _ => none
  | .error e => some e
end Pb
namespace K20
open PySem PySem.Spec
open PyProof.Rows L2 Sl Pb
section
variable {P : Program} {w : World} {K : PySem.W.Frag} {mg : Str → Option Value} {base : Heap} {R : Rdv} {i j d d' k : Nat} {ns : List Nat} {H H1 H2 : Hp} {E E' : XK} {Q : VK} {σ : L2.St} {B : Bool → Hp → Prop} {l : Addr}
/-- an argument is refused -/
abbrev Bd (K : PySem.W.Frag) (H : Hp) (E : XK) (nm : Str) : Prop := ∀ d H', Ex H H' → H d = none → H' d = some (.xd [("name", .str nm)]) → E (.ref (cB K)) (some d) H'
def spNeed (K : PySem.W.Frag) : Sp := fun vs H Q E => ∃ (b : Bool) (nm : Str), vs = [.bl b, .str nm] ∧ (b = true → Q .non H) ∧ (b = false → Bd K H E nm)
theorem ok_need (T : Tx K mg) : Has P w K mg base 3 (a_need K) p_need (spNeed K) := by
  refine has_of (f_need T) (z_need T) (b_need T) (fun vs H Q E h => by obtain ⟨_, _, rfl, _⟩ := h; rfl) (fun cdv A outer s H vs Q E hr h => ?_)
  obtain ⟨b, nm, rfl, k1, k2⟩ := h
  have h_BadArgument_init := ok_Badinit (P := P) (w := w) (base := base) T
  refine ⟨_, (pss_one (ps_if (pt_not (pt_val (pv 0))) (pss_one (praise h_BadArgument_init rfl tk_of (x_BadArgument T).1 (xi_BadArgument T).1 (xi_BadArgument T).2 (hr.mono (by omega)) (g_BadArgument T) (pa_cons (pv 1) pa_nil))) pss_nil)), ?_⟩
  refine ⟨_, rfl, _, rfl, ?_⟩
  cases b with
  | true => exact k1 rfl
  | false => exact ⟨_, rfl, mkx1 (x_BadArgument T).1 (n_BadArgument_name T) (k2 rfl)⟩
def spIsText : Sp := fun vs H Q _ => ∃ (t : List Nat), vs = [.str (sg t)] ∧ t.length ≤ 400 ∧ Q (.bl true) H
theorem ok_isText (T : Tx K mg) : Has P w K mg base 1 (a_is_text K) p_is_text spIsText := by
  refine has_of (f_is_text T) (z_is_text T) (b_is_text T) (fun vs H Q E h => by obtain ⟨_, rfl, _⟩ := h; rfl) (fun cdv A outer s H vs Q E hr h => ?_)
  obtain ⟨t, rfl, ht, k⟩ := h
  refine ⟨_, (pss_one (ps_ret (pe_and (pe_callB (isiK K) (by rfl) (l_isinstance T) (by decide +kernel) (pa_cons (pv 0) (pa_cons (pe_bltn (v := .ty "str") (u := .type "str") rfl (l_str T) (by decide +kernel) rfl) pa_nil))) (pe_one (pe_cmpR oLeI (pe_callB call_len_str (by rfl) (l_len T) (by decide +kernel) (pa_cons (pv 0) pa_nil)) (pgi (i_MOST_TEXT T)) (nomark _)))))), ?_⟩
  refine ⟨_, rfl, _, _, _, _, true, rfl, .ty _, .base (.str _), kit_ty (by decide +kernel), _, rfl, _, rfl, sg t, rfl, by rw [sg_len]; exact sz4 (Nat.le_trans ht (by decide)), _, _, rfl, rfl, ?_⟩
  rw [decide_eq_true (by rw [sg_len]; omega)]
  exact k
abbrev FlE (K : PySem.W.Frag) (H : Hp) (E : XK) (pl : Nat) (m : Str) : Prop := ∀ d H', Ex H H' → H d = none → H' d = some (.xd [("message", .str m), ("place", .int (pl : Int))]) → E (.ref (cF K)) (some d) H'
def spLines (K : PySem.W.Frag) : Sp := fun vs H Q E => ∃ (t : List Nat), vs = [.str (sg t)] ∧ t.length ≤ 400 ∧ (∀ e, bookOf t = .error e → FlE K H E e.1 e.2) ∧
  ∀ ls, bookOf t = .ok ls → ∀ l xs H', Ex H H' → H' l = some (.lst xs) → RDs K H' (ls.map lineD) xs → Q (.ref l) H'
theorem ok_lines (T : Tx K mg) : Has P w K mg base 114 (a_lines_of K) p_lines_of (spLines K) := by
  refine has_of (f_lines_of T) (z_lines_of T) (b_lines_of T) (fun vs H Q E h => by obtain ⟨_, rfl, _⟩ := h; rfl) (fun cdv A outer s H vs Q E hr h => ?_)
  obtain ⟨t, rfl, ht, k1, k2⟩ := h
  have h_Reader_init := ok_init (P := P) (w := w) (base := base) T
  have h_Reader_book := ok_book (P := P) (w := w) (base := base) T
  refine ⟨_, (pss_one (ps_ret (pmeth0 h_Reader_book (c_Reader T) (m_Reader_book T) (hr.mono (by omega)) px_of (pmake h_Reader_init (k_Reader T) (hr.mono (by omega)) (g_Reader T) px_of (pa_cons (pv 0) pa_nil))))), ?_⟩
  refine ⟨_, rfl, fun p dx hp hd hne => ?_⟩
  have n1 : upd (upd H dx (.own p)) p (.ins (cR K) dx []) p = some (.ins (cR K) dx []) := upd_same
  have e1 : Ex H (upd (upd H dx (.own p)) p (.ins (cR K) dx [])) := fun b o e => by
    rw [upd_ne (ne_of_none e hp), upd_ne (ne_of_none e hd)]
    exact e
  have nof : ∀ {d' : Addr}, upd (upd H dx (.own p)) p (.ins (cR K) dx []) d' = none → H d' = none := fun {d'} nn => by
    cases q : H d' with
    | none => rfl
    | some o => rw [e1 d' o q] at nn; cases nn
  unfold bookOf at k1 k2
  refine ⟨p, dx, t, rfl, n1, ht, fun pl hb d' H' eb nd hx => ?_, fun hb l nm H1 hl hnm eb tx rd => ⟨rfl, ?_⟩⟩
  · rw [hb] at k1
    exact k1 _ rfl d' H' (fun b o q => eb b o (by simpa using ne_of_none q hp) (e1 b o q)) (nof nd) hx
  · rw [hb] at k1 k2
    simp only [] at k1 k2
    have hnmH := nof hnm
    have e01 : ∀ {H' : Hp}, ExB [p, nm] H1 H' → Ex H H' := fun {H'} e b o q => e b o (by simp [ne_of_none q hp, ne_of_none q hnmH]) (eb b o (by simpa using ne_of_none q hp) (e1 b o q))
    obtain ⟨r, hr2⟩ := book_enough t
    rw [hr2] at k1 k2
    have hfu : fuel t ≤ 500000 := by unfold fuel; omega
    have hss : (signsOf t).length ≤ 400 := Nat.le_trans (len_signs t) ht
    refine ⟨p, dx, _, rfl, rd.o, rfl, ⟨p, dx, l, nm, t.length, signsOf t⟩, fuel t, r, rfl, rd, hss, hfu, hr2, fun pl m e => ?_, fun ls e l2 xs H' e2 t2 h1 h2 => ?_⟩
    · subst e
      intro d' H' e3 nn hx
      have nn0 : H d' = none := by
        cases q : H d' with
        | none => rfl
        | some o => rw [eb d' o (by simpa using ne_of_none q hp) (e1 d' o q)] at nn; cases nn
      exact k1 _ rfl d' H' (e01 e3) nn0 hx
    · subst e
      exact k2 _ rfl l2 xs H' (e01 e2) h1 h2
def spFlaw (K : PySem.W.Frag) : Sp := fun vs H Q E => ∃ (t : List Nat), vs = [.str (sg t)] ∧ t.length ≤ 400 ∧ ∀ v H', Ex H H' → RD K H' (flD (flOf t)) v → Q v H'
theorem body_flaw (T : Tx K mg) (cdv : Value) (A : Around) (outer : List Env) (s : Shared) (H : Hp) (vs : List V) (Q : VK) (E : XK) (hr : Room 114 (A.deeper (envOfC "book_flaw" (defScope s_book_flaw) s.heap.objs.size (a_book_flaw K) cdv))) (h : spFlaw K vs H Q E) :
    ∃ t, PSs (cxOf (L2.CX P w) P w K mg base n_book_flaw "book_flaw" (defScope s_book_flaw) (a_book_flaw K) cdv A outer s H E) (defBody s_book_flaw) t ∧ t { nx := fun _ H' => Q .non H', rt := Q } (L2.start n_book_flaw vs) H := by
  obtain ⟨t, rfl, ht, k⟩ := h
  have h_need := ok_need (P := P) (w := w) (base := base) T
  have h_is_text := ok_isText (P := P) (w := w) (base := base) T
  have h_lines_of := ok_lines (P := P) (w := w) (base := base) T
  refine ⟨_, (pss_cons (ps_expr (pcallX h_need (hr.mono (by omega)) (g_need T) px_of (pa_cons (pcall h_is_text (hr.mono (by omega)) (g_is_text T) (pa_cons (pv 0) pa_nil)) (pa_cons pe_str pa_nil))))
    (pss_cons (ps_try_as (i := 1) (tb := fun W => tDrop (tCallS (spLines K) (WE W) (tCons (tVar 0) tNil)))
        (ts := fun a cls d => tRet (tTup (tCons (tXf a cls d (cF K) "place" (tVar 1)) (tCons (tXf a cls d (cF K) "message" (tVar 1)) tNil)))) (Wout := fun _ _ _ _ => False)
        rfl rfl (z_book_flaw T).nd rfl rfl ⟨rfl, by decide, Or.inl (g_Flaw T)⟩ takes0
        (fun W pn xe tk _ => pss_one (ps_expr (by exact (pcallS h_lines_of hr (g_lines_of T) (fun σ => passAt tk σ) (by exact (pa_cons (pv 0) pa_nil))))))
        (fun a oe cls d pn hz hf => pss_one (ps_ret (pe_tup (pa_cons (pe_xf (xf_Flaw T) (n_Flaw_place T) hz hf (pv 1)) (pa_cons (pe_xf (xf_Flaw T) (n_Flaw_message T) hz hf (pv 1)) pa_nil))))))
    (pss_one (ps_ret pe_non)))), ?_⟩
  refine ⟨_, rfl, t, rfl, ht, true, _, rfl, fun _ => ?_, fun z => by cases z⟩
  unfold flOf at k
  refine ⟨_, rfl, t, rfl, ht, fun e he => ?_, fun ls he l xs H' ex h1 h2 => ?_⟩
  · rw [he] at k
    intro d H' ex hd hx
    refine ⟨true, (x_Flaw T).2, fun _ a ha => ?_, fun q => by cases q⟩
    refine ⟨_, rfl, rfl, rfl, d, _, _, rfl, hx, rfl, _, rfl, rfl, rfl, d, _, _, rfl, hx, rfl, two_sz _ _, fun q hq => ?_⟩
    exact k _ _ (ex.trans (ex_new hq)) (.tup (.inl (.inl upd_same)) (.cons (.int _) (.cons (.str _) .nil)))
  · rw [he] at k
    exact k _ _ ex .non
theorem len_flaw (vs : List V) (H : Hp) (Q : VK) (E : XK) (h : spFlaw K vs H Q E) : vs.length = p_book_flaw.length := by
  obtain ⟨_, rfl, _⟩ := h
  rfl
theorem ok_flaw (T : Tx K mg) : Has P w K mg base 115 (a_book_flaw K) p_book_flaw (spFlaw K) := has_of (f_book_flaw T) (z_book_flaw T) (b_book_flaw T) len_flaw (body_flaw T)
end
end K20
namespace Pb
open PySem L2 Sl
/-! ### texts, their length and their telling signs -/
def isOp (c : Nat) : Bool := decide (c ∈ [43, 47, 91, 94, 126, 60, 123])
def opS (z : Str) : Nat := (z.cps.toList.filter isOp).length
/-- at most l signs, o of them telling ones -/
def Bz (z : Str) (l o : Nat) : Prop := z.length ≤ l ∧ opS z ≤ o
theorem app_len (a b : Str) : (a ++ b).length = a.length + b.length := by
  show (a.cps ++ b.cps).size = _
  rw [Array.size_append]
  rfl
theorem app_op (a b : Str) : opS (a ++ b) = opS a + opS b := by
  show ((a.cps ++ b.cps).toList.filter isOp).length = _
  rw [Array.toList_append, List.filter_append, List.length_append]
  rfl
theorem Bz.app {a b : Str} {l l' o o' : Nat} (h : Bz a l o) (k : Bz b l' o') : Bz (a ++ b) (l + l') (o + o') := by
  refine ⟨?_, ?_⟩
  · rw [app_len]; exact Nat.add_le_add h.1 k.1
  · rw [app_op]; exact Nat.add_le_add h.2 k.2
theorem Bz.mono {a : Str} {l l' o o' : Nat} (h : Bz a l o) (h1 : l ≤ l') (h2 : o ≤ o') : Bz a l' o' := ⟨Nat.le_trans h.1 h1, Nat.le_trans h.2 h2⟩
theorem Bz.join {sep : Str} {l o : Nat} (hs : Bz sep l o) : ∀ (ys : List Str) (ls os : List Nat), ls.length = ys.length → os.length = ys.length → (∀ (i : Nat) (y : Str) (a b : Nat), ys[i]? = some y → ls[i]? = some a → os[i]? = some b → Bz y a b) →
    Bz (Str.join sep ys) (ls.sum + ys.length * l) (os.sum + ys.length * o)
  | [], _, _, _, _, _ => ⟨Nat.zero_le _, Nat.zero_le _⟩
  | [y], [a], [b], _, _, h => by
    have := h 0 y a b rfl rfl rfl
    refine Bz.mono this ?_ ?_ <;> simp <;> omega
  | y :: y2 :: r, a :: ls, b :: os, h1, h2, h => by
    have ih := Bz.join hs (y2 :: r) ls os (by simpa using h1) (by simpa using h2) fun i y a b e1 e2 e3 => h (i + 1) y a b (by simpa using e1) (by simpa using e2) (by simpa using e3)
    have h0 := h 0 y a b rfl rfl rfl
    refine Bz.mono ((h0.app hs).app ih) ?_ ?_
    · simp only [List.sum_cons, List.length_cons, Nat.succ_mul, Nat.add_mul, Nat.one_mul]; omega
    · simp only [List.sum_cons, List.length_cons, Nat.succ_mul, Nat.add_mul, Nat.one_mul]; omega
  | [_], [], _, h, _, _ => by simp at h
  | [_], _ :: _ :: _, _, h, _, _ => by simp at h
  | [_], [_], [], _, h, _ => by simp at h
  | [_], [_], _ :: _ :: _, _, h, _ => by simp at h
  | _ :: _ :: _, [], _, h, _, _ => by simp at h
  | _ :: _ :: _, _ :: _, [], _, h, _ => by simp at h
theorem Bz.tjoin {sep : Str} {l o : Nat} (hs : Bz sep l o) (ys : List Str) (ls os : List Nat) (h1 : ls.length = ys.length) (h2 : os.length = ys.length) (h : ∀ (i : Nat) (y : Str) (a b : Nat), ys[i]? = some y → ls[i]? = some a → os[i]? = some b → Bz y a b) :
    Bz (Txt.join sep ys) (ls.sum + ys.length * l) (os.sum + ys.length * o) := by
  show Bz (Builtin.Str.glued sep ys) _ _
  rw [StrLaws.glued_eq_join]
  exact Bz.join hs ys ls os h1 h2 h
theorem op_no {z : Str} (h : ∀ c ∈ z.cps.toList, isOp c = false) : opS z = 0 := by
  unfold opS
  rw [List.length_eq_zero_iff, List.filter_eq_nil_iff]
  intro c hc
  rw [h c hc]
  decide
theorem Bz.num {v : Nat} (h : v ≤ 1000000000) : Bz (Str.ofString (toString (v : Int))) 10 0 := by
  have e : (Str.ofString (toString (v : Int))).cps.toList = TL.numL v := TL.tl_num v
  refine ⟨?_, ?_⟩
  · show (Str.ofString (toString (v : Int))).cps.size ≤ 10
    rw [← Array.length_toList, e]
    exact TL.numL_len (by decide) (by omega)
  · rw [op_no]
    · exact Nat.le_refl _
    · intro c hc
      rw [e] at hc
      have := TL.numL_digits v c hc
      unfold isOp
      refine decide_eq_false ?_
      simp only [List.mem_cons, List.not_mem_nil, or_false]
      omega
theorem num_log {v : Nat} (h : v ≤ 1000000000) : (v : Int).natAbs.log2 < 1920 := by
  have e : (v : Int).natAbs = v := by omega
  rw [e]
  by_cases h0 : v = 0
  · subst h0
    decide
  · have := (Nat.log2_lt h0 (k := 30)).mpr (Nat.lt_of_le_of_lt h (by decide))
    omega
theorem Bz.sg1 {c : Nat} (h : isOp c = false) : Bz ⟨#[c]⟩ 1 0 := by
  refine ⟨Nat.le_refl _, ?_⟩
  rw [op_no]
  · exact Nat.le_refl _
  · intro d hd
    have : d = c := by simpa using hd
    rw [this]
    exact h
/-! ### trees: depth, size, telling signs -/
inductive Td : Nat → Nat → Nat → D → Prop
  | name {n c : Nat} (h : isCp c = true) : Td (n + 1) 1 0 (nameD c)
  | letter {n k : Nat} {ds : List (Nat × D)} {zs os : List Nat} (h1 : zs.length = ds.length) (h2 : os.length = ds.length) (h3 : ∀ p ∈ ds, p.1 ≤ 1000000000) (hk : k < 6)
      (h : ∀ (i : Nat) (p : Nat × D) (z o : Nat), ds[i]? = some p → zs[i]? = some z → os[i]? = some o → Td n z o p.2) : Td (n + 1) (zs.sum + ds.length + 1) (os.sum + ds.length) (letterD k ds)
  | beside {n z o z' o' : Nat} {t u : D} (a : Td n z o t) (b : Td n z' o' u) : Td (n + 1) (z + z' + 1) (o + o' + 1) (besideD t u)
  | over {n z o z' o' v : Nat} {t u : D} (hv : v ≤ 1000000000) (a : Td n z o t) (b : Td n z' o' u) : Td (n + 1) (z + z' + 1) (o + o' + 1) (overD v t u)
  | glue {n z o v u : Nat} {t : D} (hv : v ≤ 1000000000) (hu : u ≤ 1000000000) (a : Td n z o t) : Td (n + 1) (z + 1) (o + 1) (glueD v u t)
  | hide {n z o v : Nat} {t : D} (hv : v ≤ 1000000000) (a : Td n z o t) : Td (n + 1) (z + 1) (o + 1) (hideD v t)
  | power {n z o v : Nat} {t : D} (hv : v ≤ 1000000000) (a : Td n z o t) : Td (n + 1) (z + 1) (o + 1) (powerD v t)
  | round {n z o : Nat} {t : D} (a : Td n z o t) : Td (n + 1) (z + 1) (o + 1) (roundD t)
  | order {n z o : Nat} {t : D} {vs : List Nat} (hv : ∀ v ∈ vs, v ≤ 1000000000) (a : Td n z o t) : Td (n + 1) (z + vs.length + 1) (o + 1) (orderD vs t)
theorem Td.up {n z o : Nat} {t : D} (h : Td n z o t) : Td (n + 1) z o t := by
  induction h with
  | name h => exact .name h
  | letter h1 h2 h3 hk h ih => exact .letter h1 h2 h3 hk ih
  | beside a b iha ihb => exact .beside iha ihb
  | over hv a b iha ihb => exact .over hv iha ihb
  | glue hv hu a iha => exact .glue hv hu iha
  | hide hv a iha => exact .hide hv iha
  | power hv a iha => exact .power hv iha
  | round a iha => exact .round iha
  | order hv a iha => exact .order hv iha
theorem Td.mono {n m z o : Nat} {t : D} (h : Td n z o t) (k : n ≤ m) : Td m z o t := by
  induction m with
  | zero => have : n = 0 := by omega
            subst this; exact h
  | succ m ih =>
    by_cases e : n = m + 1
    · subst e; exact h
    · exact (ih (by omega)).up
/-! ### what is read is such a tree -/
def ops (ss : Sg) (i : Nat) : Nat := ((ss.take i).filter fun p => isOp p.1).length
theorem ops_le (ss : Sg) {i j : Nat} (h : i ≤ j) : ops ss i ≤ ops ss j := by
  unfold ops
  have : (ss.take i).Sublist (ss.take j) := (List.take_prefix_take_left h).sublist
  exact (this.filter _).length_le
theorem ops_at {ss : Sg} {i c : Nat} (h : cAt ss i = some c) (hc : isOp c = true) : ops ss (i + 1) = ops ss i + 1 := by
  unfold cAt at h
  cases q : ss[i]? with
  | none => rw [q] at h; cases h
  | some x =>
    rw [q] at h
    have hx : x.1 = c := Option.some.inj h
    unfold ops
    rw [take_snoc q, List.filter_append, List.length_append]
    simp [hx, hc]
def Spn (ss : Sg) (t : D) (s i : Nat) : Prop := ∃ n z o, Td n z o t ∧ n + ops ss s ≤ ops ss i + 1 ∧ z + s ≤ i ∧ i ≤ ss.length
def Spd (ss : Sg) (ds : List (Nat × D)) (s i : Nat) : Prop := ∃ (n : Nat) (zs os : List Nat), zs.length = ds.length ∧ os.length = ds.length ∧ (∀ p ∈ ds, p.1 ≤ 1000000000) ∧
  (∀ (i : Nat) (p : Nat × D) (z o : Nat), ds[i]? = some p → zs[i]? = some z → os[i]? = some o → Td n z o p.2) ∧ n + ops ss s ≤ ops ss i ∧ zs.sum + ds.length + 1 + s ≤ i ∧ i ≤ ss.length
theorem num_le {ss : Sg} {n i v j : Nat} (h : numP ss n i = .ok v j) : v ≤ 1000000000 := by
  unfold numP at h
  split at h
  · cases h
  · split at h
    · cases h
    · cases h; omega
theorem spn_brk {ss : Sg} {n i s : Nat} {t u : D} {j : Nat} (ht : Spn ss t s i) (hc : cAt ss i = some 91) (h : bracketsP ss n t (i + 1) = .ok u j) : Spn ss u s j := by
  obtain ⟨m, z, o, h1, h2, h3, h4⟩ := ht
  have ho := ops_at hc (by decide)
  have hlt := brk_lt h
  unfold bracketsP at h
  cases e : numP ss n (i + 1) with
  | bad p m => rw [e] at h; cases h
  | ok v a =>
    have ha := numP_lt e
    have hv := num_le e
    rw [e] at h
    simp only [] at h
    split at h
    · cases e2 : numP ss n (a + 1) with
      | bad p m => rw [e2] at h; cases h
      | ok v2 b =>
        have hb := numP_lt e2
        have hv2 := num_le e2
        rw [e2] at h
        simp only [] at h
        split at h
        · rename_i c2
          cases h
          have := cAt_in c2
          have := ops_le ss (show i + 1 ≤ b + 1 by omega)
          exact ⟨m + 1, _, _, .glue hv hv2 h1, by omega, by omega, by omega⟩
        · cases h
    · split at h
      · rename_i c2
        cases h
        have := cAt_in c2
        have := ops_le ss (show i + 1 ≤ a + 1 by omega)
        exact ⟨m + 1, _, _, .hide hv h1, by omega, by omega, by omega⟩
      · cases h
theorem ordL_ok (ss : Sg) (n : Nat) : ∀ (f i : Nat) (vs us : List Nat) (j : Nat), orderL ss n f vs i = some (.ok us j) → (∀ v ∈ vs, v ≤ 1000000000) → (∀ v ∈ us, v ≤ 1000000000) ∧ us.length + i + 1 ≤ vs.length + j ∧ j ≤ ss.length
  | 0, _, _, _, _, h, _ => by simp [orderL] at h
  | f + 1, i, vs, us, j, h, hv => by
    simp only [orderL] at h
    by_cases c : cAt ss i = some 44
    · rw [if_pos c] at h
      cases e : numP ss n (i + 1) with
      | bad p m => rw [e] at h; cases h
      | ok v a =>
        have ha := numP_lt e
        have hv2 := num_le e
        rw [e] at h
        obtain ⟨h1, h2, h3⟩ := ordL_ok ss n f a (vs ++ [v]) us j h (fun x hx => by
          rcases List.mem_append.mp hx with z | z
          · exact hv x z
          · rw [List.mem_singleton.mp z]; exact hv2)
        refine ⟨h1, ?_, h3⟩
        rw [List.length_append] at h2
        simp at h2
        omega
    · rw [if_neg c] at h
      split at h
      · rename_i c2
        have := cAt_in c2
        cases h
        exact ⟨hv, by omega, by omega⟩
      · cases h
theorem spn_ord {ss : Sg} {n f i s : Nat} {t : D} {us : List Nat} {j : Nat} (ht : Spn ss t s i) (hc : cAt ss i = some 60) (h : orderP ss n f (i + 1) = some (.ok us j)) : Spn ss (orderD us t) s j := by
  obtain ⟨m, z, o, h1, h2, h3, h4⟩ := ht
  have ho := ops_at hc (by decide)
  unfold orderP at h
  split at h
  · rename_i c2
    have := cAt_in c2
    cases h
    have := ops_le ss (show i + 1 ≤ i + 1 + 1 by omega)
    exact ⟨m + 1, _, _, .order (fun v hv => by cases hv) h1, by omega, by show z + 0 + 1 + s ≤ _; omega, by omega⟩
  · cases e : numP ss n (i + 1) with
    | bad p m => rw [e] at h; cases h
    | ok v a =>
      have ha := numP_lt e
      have hv := num_le e
      rw [e] at h
      obtain ⟨g1, g2, g3⟩ := ordL_ok ss n f a [v] us j h (fun x hx => by rw [List.mem_singleton.mp hx]; exact hv)
      simp at g2
      have := ops_le ss (show i + 1 ≤ j by omega)
      exact ⟨m + 1, _, _, .order g1 h1, by omega, by omega, g3⟩
theorem trees (ss : Sg) (n : Nat) (ns : List Nat) : ∀ f : Nat,
    (∀ d i t j, nestP ss n ns f d i = some (.ok t j) → Spn ss t i j) ∧
    (∀ d t i s u j, Spn ss t s i → nestL ss n ns f d t i = some (.ok u j) → Spn ss u s j) ∧
    (∀ d i t j, itemP ss n ns f d i = some (.ok t j) → Spn ss t i j) ∧
    (∀ d t i s u j, Spn ss t s i → itemL ss n ns f d t i = some (.ok u j) → Spn ss u s j) ∧
    (∀ d i t j, atomP ss n ns f d i = some (.ok t j) → Spn ss t i j) ∧
    (∀ d t i s u j, Spn ss t s i → atomL ss n ns f d t i = some (.ok u j) → Spn ss u s j) ∧
    (∀ d i t j, groundP ss n ns f d i = some (.ok t j) → Spn ss t i j) ∧
    (∀ d k ds i s u j, k < 6 → Spd ss ds s i → filledL ss n ns f d k ds i = some (.ok u j) → Spn ss u s j) := by
  intro f
  induction f with
  | zero => refine ⟨?_, ?_, ?_, ?_, ?_, ?_, ?_, ?_⟩ <;> intros <;> simp_all [nestP, nestL, itemP, itemL, atomP, atomL, groundP, filledL]
  | succ f ih =>
    obtain ⟨hN, hNL, hI, hIL, hA, hAL, hG, hF⟩ := ih
    refine ⟨?_, ?_, ?_, ?_, ?_, ?_, ?_, ?_⟩
    · intro d i t j h
      simp only [nestP] at h
      cases q : itemP ss n ns f d i with
      | none => rw [q] at h; cases h
      | some r =>
        rw [q] at h
        cases r with
        | bad p m => cases h
        | ok t1 j1 => exact hNL d t1 j1 i t j (hI d i t1 j1 q) h
    · intro d t i s u j ht h
      simp only [nestL] at h
      by_cases c : cAt ss i = some 43
      · rw [if_pos c] at h
        cases q : itemP ss n ns f d (i + 1) with
        | none => rw [q] at h; cases h
        | some r =>
          rw [q] at h
          cases r with
          | bad p m => cases h
          | ok t1 j1 =>
            refine hNL d _ j1 s u j ?_ h
            obtain ⟨n1, z1, o1, a1, b1, c1, d1⟩ := ht
            obtain ⟨n2, z2, o2, a2, b2, c2, d2⟩ := hI d (i + 1) t1 j1 q
            have ho := ops_at c (by decide)
            have hs := ops_le ss (show s ≤ i by omega)
            have hm := ops_le ss (show i + 1 ≤ j1 by omega)
            exact ⟨max n1 n2 + 1, _, _, .beside (a1.mono (Nat.le_max_left _ _)) (a2.mono (Nat.le_max_right _ _)), by omega, by omega, d2⟩
      · rw [if_neg c] at h
        cases h
        exact ht
    · intro d i t j h
      simp only [itemP] at h
      cases q : atomP ss n ns f d i with
      | none => rw [q] at h; cases h
      | some r =>
        rw [q] at h
        cases r with
        | bad p m => cases h
        | ok t1 j1 => exact hIL d t1 j1 i t j (hA d i t1 j1 q) h
    · intro d t i s u j ht h
      simp only [itemL] at h
      by_cases c : cAt ss i = some 47
      · rw [if_pos c] at h
        cases q0 : numP ss n (i + 1) with
        | bad p m => rw [q0] at h; cases h
        | ok v a =>
          have ha := numP_lt q0
          have hv := num_le q0
          rw [q0] at h
          simp only [] at h
          cases q : atomP ss n ns f d a with
          | none => rw [q] at h; cases h
          | some r =>
            rw [q] at h
            cases r with
            | bad p m => cases h
            | ok t1 j1 =>
              refine hIL d _ j1 s u j ?_ h
              obtain ⟨n1, z1, o1, a1, b1, c1, d1⟩ := ht
              obtain ⟨n2, z2, o2, a2, b2, c2, d2⟩ := hA d a t1 j1 q
              have ho := ops_at c (by decide)
              have hs := ops_le ss (show s ≤ i by omega)
              have hm := ops_le ss (show i + 1 ≤ a by omega)
              have hm2 := ops_le ss (show a ≤ j1 by omega)
              exact ⟨max n1 n2 + 1, _, _, .over hv (a1.mono (Nat.le_max_left _ _)) (a2.mono (Nat.le_max_right _ _)), by omega, by omega, d2⟩
      · rw [if_neg c] at h
        cases h
        exact ht
    · intro d i t j h
      simp only [atomP] at h
      cases q : groundP ss n ns f d i with
      | none => rw [q] at h; cases h
      | some r =>
        rw [q] at h
        cases r with
        | bad p m => cases h
        | ok t1 j1 => exact hAL d t1 j1 i t j (hG d i t1 j1 q) h
    · intro d t i s u j ht h
      simp only [atomL] at h
      by_cases c : cAt ss i = some 91
      · rw [if_pos c] at h
        cases q : bracketsP ss n t (i + 1) with
        | bad p m => rw [q] at h; cases h
        | ok u1 j1 =>
          rw [q] at h
          exact hAL d u1 j1 s u j (spn_brk ht c q) h
      rw [if_neg c] at h
      by_cases c : cAt ss i = some 94
      · rw [if_pos c] at h
        cases q : numP ss n (i + 1) with
        | bad p m => rw [q] at h; cases h
        | ok v a =>
          have ha := numP_lt q
          have hv := num_le q
          rw [q] at h
          refine hAL d _ a s u j ?_ h
          obtain ⟨n1, z1, o1, a1, b1, c1, d1⟩ := ht
          have ho := ops_at c (by decide)
          have hm := ops_le ss (show i + 1 ≤ a by omega)
          exact ⟨n1 + 1, _, _, .power hv a1, by omega, by omega, by omega⟩
      rw [if_neg c] at h
      by_cases c : cAt ss i = some 126
      · rw [if_pos c] at h
        refine hAL d _ (i + 1) s u j ?_ h
        obtain ⟨n1, z1, o1, a1, b1, c1, d1⟩ := ht
        have ho := ops_at c (by decide)
        have := cAt_in c
        exact ⟨n1 + 1, _, _, .round a1, by omega, by omega, by omega⟩
      rw [if_neg c] at h
      by_cases c : cAt ss i = some 60
      · rw [if_pos c] at h
        cases q : orderP ss n f (i + 1) with
        | none => rw [q] at h; cases h
        | some r =>
          rw [q] at h
          cases r with
          | bad p m => cases h
          | ok us a => exact hAL d _ a s u j (spn_ord ht c q) h
      rw [if_neg c] at h
      cases h
      exact ht
    · intro d i t j h
      simp only [groundP] at h
      by_cases c : cAt ss i = some 40
      · rw [if_pos c] at h
        by_cases d20 : d = 20
        · rw [if_pos d20] at h; cases h
        · rw [if_neg d20] at h
          cases q : nestP ss n ns f (d + 1) (i + 1) with
          | none => rw [q] at h; cases h
          | some r =>
            rw [q] at h
            cases r with
            | bad p m => cases h
            | ok t1 j1 =>
              simp only [] at h
              by_cases c2 : cAt ss j1 = some 41
              · rw [if_pos c2] at h
                cases h
                obtain ⟨n1, z1, o1, a1, b1, c1, d1⟩ := hN (d + 1) (i + 1) t j1 q
                have h1 := ops_le ss (show i ≤ i + 1 by omega)
                have h2 := ops_le ss (show j1 ≤ j1 + 1 by omega)
                have := cAt_in c2
                exact ⟨n1, z1, o1, a1, by omega, by omega, by omega⟩
              · rw [if_neg c2] at h; cases h
      · rw [if_neg c] at h
        cases q : cAt ss i with
        | none => rw [q] at h; cases h
        | some a =>
          rw [q] at h
          simp only [] at h
          have hi := cAt_in q
          have hm := ops_le ss (show i ≤ i + 1 by omega)
          split at h
          · rename_i hcp
            split at h
            · cases h
              exact ⟨1, 1, 0, .name hcp, by omega, by omega, by omega⟩
            · cases h
          · split at h
            · rename_i hlt
              have hr := of_decide_eq_true hlt
              exact hF d (a - 97) [] (i + 1) i t j (by omega) ⟨0, [], [], rfl, rfl, fun p hp => (by cases hp), fun i p z o e => (by cases e), by omega, by show 0 + 0 + 1 + i ≤ i + 1; omega, by omega⟩ h
            · cases h
    · intro d k ds i s u j hk hs h
      simp only [filledL] at h
      obtain ⟨n1, zs, os, e1, e2, e3, e4, e5, e6, e7⟩ := hs
      by_cases c : cAt ss i = some 123
      · rw [if_pos c] at h
        by_cases d20 : d = 20
        · rw [if_pos d20] at h; cases h
        rw [if_neg d20] at h
        cases q0 : numP ss n (i + 1) with
        | bad p m => rw [q0] at h; cases h
        | ok v a =>
          have ha := numP_lt q0
          have hv := num_le q0
          rw [q0] at h
          simp only [] at h
          by_cases c2 : cAt ss a = some 58
          · rw [if_pos c2] at h
            cases q : nestP ss n ns f (d + 1) (a + 1) with
            | none => rw [q] at h; cases h
            | some r =>
              rw [q] at h
              cases r with
              | bad p m => cases h
              | ok t1 j1 =>
                simp only [] at h
                by_cases c3 : cAt ss j1 = some 125
                · rw [if_pos c3] at h
                  refine hF d k _ (j1 + 1) s u j hk ?_ h
                  obtain ⟨n2, z2, o2, a2, b2, g2, d2⟩ := hN (d + 1) (a + 1) t1 j1 q
                  have ho := ops_at c (by decide)
                  have h1 := ops_le ss (show i + 1 ≤ a + 1 by omega)
                  have h2 := ops_le ss (show j1 ≤ j1 + 1 by omega)
                  have h3 := ops_le ss (show a + 1 ≤ j1 by omega)
                  have := cAt_in c3
                  refine ⟨max n1 n2, zs ++ [z2], os ++ [o2], by simp [e1], by simp [e2], fun p hp => ?_, fun i p z o g1 g2 g3 => ?_, by omega, ?_, by omega⟩
                  · rcases List.mem_append.mp hp with z | z
                    · exact e3 p z
                    · rw [List.mem_singleton.mp z]; exact hv
                  · by_cases hi : i < ds.length
                    · rw [List.getElem?_append_left hi] at g1
                      rw [List.getElem?_append_left (by omega)] at g2
                      rw [List.getElem?_append_left (by omega)] at g3
                      exact (e4 i p z o g1 g2 g3).mono (Nat.le_max_left _ _)
                    · have hl : i < (ds ++ [(v, t1)]).length := (List.getElem?_eq_some_iff.mp g1).1
                      rw [List.length_append] at hl
                      simp at hl
                      have : i = ds.length := by omega
                      subst this
                      rw [List.getElem?_append_right (Nat.le_refl _)] at g1
                      rw [List.getElem?_append_right (by omega)] at g2
                      rw [List.getElem?_append_right (by omega)] at g3
                      simp at g1
                      rw [e1] at g2
                      rw [e2] at g3
                      simp at g2 g3
                      subst g1 g2 g3
                      exact a2.mono (Nat.le_max_right _ _)
                  · rw [List.sum_append, List.length_append]
                    simp
                    omega
                · rw [if_neg c3] at h; cases h
          · rw [if_neg c2] at h; cases h
      · rw [if_neg c] at h
        cases h
        exact ⟨n1 + 1, _, _, .letter e1 e2 e3 hk e4, by omega, by omega, e7⟩
end Pb
namespace Pb
open PySem L2 Sl
theorem szB {a b : Str} {l l' o o' : Nat} (h : Bz a l o) (k : Bz b l' o') (z : l + l' ≤ 16000000) : a.length + b.length ≤ sizeLine :=
  Nat.le_trans (Nat.add_le_add h.1 k.1) (Nat.le_trans z (by decide))
theorem B0 : Bz "" 0 0 := ⟨by decide +kernel, by decide +kernel⟩
theorem bl {z : Str} (o : Nat) (h1 : z.length ≤ 1 := by decide +kernel) (h2 : opS z ≤ o := by decide +kernel) : Bz z 1 o := ⟨h1, h2⟩
theorem sum_le : ∀ (ys : List Str) (ls : List Nat), ls.length = ys.length → (∀ (i : Nat) (y : Str) (a : Nat), ys[i]? = some y → ls[i]? = some a → y.length ≤ a) → (ys.map (·.length)).sum ≤ ls.sum
  | [], _, _, _ => Nat.zero_le _
  | y :: ys, a :: ls, h, k => by
    have ih := sum_le ys ls (by simpa using h) fun i y a e1 e2 => k (i + 1) y a (by simpa using e1) (by simpa using e2)
    have := k 0 y a rfl rfl
    simp only [List.map_cons, List.sum_cons]
    omega
  | _ :: _, [], h, _ => by simp at h
def numS (vs : List Nat) : List Str := vs.map fun (v : Nat) => Str.ofString (toString (v : Int))
theorem numS_snoc (vs : List Nat) (v : Nat) : numS (vs ++ [v]) = numS vs ++ [Str.ofString (toString (v : Int))] := by simp [numS]
theorem bz_nums {sep : Str} {vs : List Nat} (hs : Bz sep 1 0) (hv : ∀ v ∈ vs, v ≤ 1000000000) : Bz (Txt.join sep (numS vs)) (11 * vs.length) 0 ∧ ((numS vs).map (·.length)).sum + (numS vs).length * sep.length ≤ 11 * vs.length := by
  have hl : (numS vs).length = vs.length := by simp [numS]
  have h : ∀ (i : Nat) (y : Str) (a b : Nat), (numS vs)[i]? = some y → (List.replicate vs.length 10)[i]? = some a → (List.replicate vs.length 0)[i]? = some b → Bz y a b := fun i y a b e1 e2 e3 => by
    unfold numS at e1
    rw [List.getElem?_map] at e1
    cases q : vs[i]? with
    | none => rw [q] at e1; cases e1
    | some v =>
      rw [q] at e1
      cases e1
      obtain ⟨_, rfl⟩ := List.getElem?_eq_some_iff.mp e2
      obtain ⟨_, rfl⟩ := List.getElem?_eq_some_iff.mp e3
      simp only [List.getElem_replicate]
      exact Bz.num (hv v (List.mem_of_getElem? q))
  have b := Bz.tjoin hs (numS vs) (List.replicate vs.length 10) (List.replicate vs.length 0) (by simp [hl]) (by simp [hl]) h
  refine ⟨b.mono ?_ ?_, ?_⟩
  · rw [hl, List.sum_replicate_nat]; omega
  · rw [hl, List.sum_replicate_nat]; omega
  · have s := sum_le (numS vs) (List.replicate vs.length 10) (by simp [hl]) fun i y a e1 e2 => (h i y a 0 e1 e2 (by
      obtain ⟨z, _⟩ := List.getElem?_eq_some_iff.mp e1
      rw [hl] at z
      simp [List.getElem?_replicate, z])).1
    rw [List.sum_replicate_nat] at s
    have h2 : sep.length ≤ 1 := hs.1
    have h3 : (numS vs).length * sep.length ≤ vs.length * 1 := by rw [hl]; exact Nat.mul_le_mul_left _ h2
    omega
theorem lt_at : ∀ k : Nat, k < 6 → atI ("abcdef" : Str).cps.toList (k : Int) = some (97 + k)
  | 0, _ => by decide +kernel
  | 1, _ => by decide +kernel
  | 2, _ => by decide +kernel
  | 3, _ => by decide +kernel
  | 4, _ => by decide +kernel
  | 5, _ => by decide +kernel
  | n + 6, h => by omega
end Pb
namespace K20
open PySem PySem.Spec
open PyProof.Rows L2 Sl Pb
section
variable {P : Program} {w : World} {K : PySem.W.Frag} {mg : Str → Option Value} {base : Heap} {H H1 H2 : Hp} {E E' : XK} {Q : VK} {σ : L2.St} {B : Bool → Hp → Prop} {l : Addr}
/-- [str(one) for one in a tuple of numbers] -/
theorem lcNums {te : TE} (j : Nat) (vs : List Nat) (hj : j < σ.length) (hv : ∀ v ∈ vs, v ≤ 1000000000) (hl : vs.length ≤ 1000000) (ht : ∀ R : VK, (∀ a H1, Ex H H1 → SqT K H1 a (natV vs) → R (.ref a) H1) → te σ H R)
    (k : ∀ l H', Ex H H' → H' l = some (.lst ((numS vs).map V.str)) → Q (.ref l) H') :
    tLc (iTup K te) (gName j) tYes (tCB (fun xs H Q => ∃ i, xs = [V.int i] ∧ i.natAbs.log2 < 1920 ∧ Q (.str (Str.ofString (toString i))) H) (tCons (tVar j) tNil)) [j] σ H Q := by
  refine ht _ fun a H1 e1 hq => ⟨a, rfl, ⟨_, hq⟩, fun l hn => lc_it walk_tup (fun i H' => Ex H1 H' ∧ H' l = some (.lst ((numS (vs.take i)).map V.str))) ?_ (fun i H' _ h => h.1.t.sq hq) ?_ ?_⟩
  · exact ⟨ex_new hn, upd_same⟩
  · rintro i x H2 H3 hi ⟨e2, hx⟩ ⟨rfl, hxi⟩
    have hi2 : i < vs.length := by simpa [natV] using hi
    have hxv : x = .int ((vs[i] : Nat) : Int) := by
      unfold natV at hxi
      rw [List.getElem?_map, List.getElem?_eq_getElem hi2] at hxi
      exact (Option.some.inj hxi).symm
    subst hxv
    have hb := hv _ (List.getElem_mem hi2)
    refine ⟨by simp [wipe], _, by simp [wipe, hj], _, rfl, num_log hb, _, hx, ?_, ?_, ?_⟩
    · simp only [numS, List.length_map, List.length_take]
      exact Nat.lt_of_le_of_lt (show min i vs.length ≤ 1000000 by omega) (by decide)
    · exact fun b o q => by
        by_cases hbl : b = l
        · subst hbl
          rw [hn] at q; cases q
        · rw [upd_ne hbl]; exact e2 b o q
    · rw [upd_same]
      have e : vs.take (i + 1) = vs.take i ++ [vs[i]] := take_snoc (List.getElem?_eq_getElem hi2)
      rw [e, numS_snoc, List.map_append]
      rfl
  · rintro H2 ⟨e2, hx⟩
    have e : vs.take (natV vs).length = vs := List.take_of_length_le (by simp [natV])
    rw [e] at hx
    exact k _ _ (e1.trans e2) hx
/-- the word of a tree -/
theorem td_word {n z o : Nat} {t : D} {v : V} (h : Td n z o t) (r : RD K H t v) : ∃ p w xs, v = .ref p ∧ SqT K H p (.str w :: xs) := by
  cases h <;>
  · obtain ⟨p, xs, rfl, h1, h2⟩ := RD.ofTup r
    obtain ⟨x, _, rfl, r1, _⟩ := h2.ofCons
    obtain rfl := r1.ofStr
    exact ⟨p, _, _, rfl, h1⟩
end
end K20
namespace K20
open PySem PySem.Spec
open PyProof.Rows L2 Sl Pb
section
variable {P : Program} {w : World} {K : PySem.W.Frag} {mg : Str → Option Value} {base : Heap} {H H1 H2 : Hp} {E E' : XK} {Q : VK} {σ : L2.St} {B : Bool → Hp → Prop} {l : Addr}
def spStrength (K : PySem.W.Frag) : Sp := fun vs H Q _ => ∃ (p : Addr) (w : Str) (xs : List V), vs = [.ref p] ∧ SqT K H p (.str w :: xs) ∧ ∀ i : Int, Q (.int i) H
theorem ok_strength (T : Tx K mg) : Has P w K mg base 1 (a_strength K) p_strength (spStrength K) := by
  refine has_of (f_strength T) (z_strength T) (b_strength T) (fun vs H Q E h => by obtain ⟨_, _, _, rfl, _⟩ := h; rfl) (fun cdv A outer s H vs Q E hr h => ?_)
  obtain ⟨p, w, xs, rfl, hp, k⟩ := h
  refine ⟨_, (pss_one (ps_ret (pe_ifExp (pt_cmpR op_eq (pe_ix (ixT K) (pv 0) pe_int (fun _ _ => rfl)) pe_str (nomark _)) pe_int (pe_ifExp (pt_cmpR op_eq (pe_ix (ixT K) (pv 0) pe_int (fun _ _ => rfl)) pe_str (nomark _)) pe_int pe_int)))), ?_⟩
  refine ⟨_, rfl, p, _, _, _, rfl, rfl, hp, at_of (j := 0) rfl rfl, rfl, _, rfl, ifBH (fun _ => ?_) (fun _ => ?_)⟩
  · exact k 0
  · refine ⟨_, rfl, p, _, _, _, rfl, rfl, hp, at_of (j := 0) rfl rfl, rfl, _, rfl, ifBH (fun _ => ?_) (fun _ => ?_)⟩
    · exact k 1
    · exact k 2
def spPl (K : PySem.W.Frag) (n : Nat) : Sp := fun vs H Q _ => ∃ (t : D) (z o : Nat) (v : V), vs = [v] ∧ RD K H t v ∧ Td n z o t ∧ z ≤ 100000 ∧ ∀ s H', Ex H H' → Bz s (40 * z) o → Q (.str s) H'
def spAt (K : PySem.W.Frag) (n : Nat) : Sp := fun vs H Q _ => ∃ (t : D) (z o : Nat) (v : V) (l : Int), vs = [v, .int l] ∧ RD K H t v ∧ Td n z o t ∧ z ≤ 100000 ∧ ∀ s H', Ex H H' → Bz s (40 * z + 2) o → Q (.str s) H'
theorem ok_at (T : Tx K mg) {k n : Nat} (h_plain_tree : Has P w K mg base (k + 1) (a_plain_tree K) p_plain_tree (spPl K n)) : Has P w K mg base (k + 2) (a_at_least K) p_at_least (spAt K n) := by
  refine has_of (f_at_least T) (z_at_least T) (b_at_least T) (fun vs H Q E h => by obtain ⟨_, _, _, _, _, rfl, _⟩ := h; rfl) (fun cdv A outer s H vs Q E hr h => ?_)
  obtain ⟨t, z, o, v, l, rfl, rv, td, hz, k⟩ := h
  have h_strength := ok_strength (P := P) (w := w) (base := base) T
  refine ⟨_, (pss_cons (ps_set (i := 2) (z_at_least T).nd rfl (Or.inl rfl) (pcall h_plain_tree (hr.mono (by omega)) (g_plain_tree T) (pa_cons (pv 0) pa_nil)))
  (pss_one (ps_ret (pe_ifExp (pt_cmpR oLtI (pcall h_strength (hr.mono (by omega)) (g_strength T) (pa_cons (pv 0) pa_nil)) (pv 1) (nomark _)) (pe_op oAddS (pe_op oAddS pe_str (pv 2)) pe_str) (pv 2))))), ?_⟩
  refine ⟨_, rfl, t, z, o, v, rfl, rv, td, hz, fun s H1 e1 b1 => ?_⟩
  obtain ⟨p, w, xs, rfl, hp⟩ := td_word td (rv.mono e1.t)
  refine ⟨_, rfl, p, w, xs, rfl, hp, fun i => ⟨_, rfl, _, _, rfl, rfl, _, rfl, ifBH (fun _ => ?_) (fun _ => ?_)⟩⟩
  · exact ⟨_, rfl, _, _, rfl, rfl, szB (bl (z := "(") 0) b1 (by omega), _, _, rfl, rfl, szB ((bl (z := "(") 0).app b1) (bl (z := ")") 0) (by omega), k _ _ e1 ((((bl (z := "(") 0).app b1).app (bl (z := ")") 0)).mono (by omega) (by omega))⟩
  · exact ⟨_, rfl, k _ _ e1 (b1.mono (by omega) (by omega))⟩
theorem le_sum : ∀ {l : List Nat} {a : Nat}, a ∈ l → a ≤ l.sum
  | [], _, h => by cases h
  | b :: l, a, h => by
    rw [List.sum_cons]
    rcases List.mem_cons.mp h with rfl | h
    · omega
    · have := le_sum h
      omega
theorem slots2 {a b : D} {v : V} (h : RD K H (.tup [a, b]) v) : ∃ p x y, v = .ref p ∧ SqT K H p [x, y] ∧ RD K H a x ∧ RD K H b y := by
  obtain ⟨p, xs, rfl, h1, h2⟩ := h.ofTup
  obtain ⟨x, _, rfl, r1, h2⟩ := h2.ofCons
  obtain ⟨y, _, rfl, r2, h2⟩ := h2.ofCons
  obtain rfl := h2.ofNil
  exact ⟨p, x, y, rfl, h1, r1, r2⟩
theorem slots4 {a b c d : D} {v : V} (h : RD K H (.tup [a, b, c, d]) v) : ∃ p x y z u, v = .ref p ∧ SqT K H p [x, y, z, u] ∧ RD K H a x ∧ RD K H b y ∧ RD K H c z ∧ RD K H d u := by
  obtain ⟨p, xs, rfl, h1, h2⟩ := h.ofTup
  obtain ⟨x, _, rfl, r1, h2⟩ := h2.ofCons
  obtain ⟨y, _, rfl, r2, h2⟩ := h2.ofCons
  obtain ⟨z, _, rfl, r3, h2⟩ := h2.ofCons
  obtain ⟨u, _, rfl, r4, h2⟩ := h2.ofCons
  obtain rfl := h2.ofNil
  exact ⟨p, x, y, z, u, rfl, h1, r1, r2, r3, r4⟩
theorem nat_rds : ∀ {vs : List Nat} {xs : List V}, RDs K H (vs.map fun (v : Nat) => D.int (v : Int)) xs → xs = natV vs
  | [], _, h => h.ofNil
  | v :: vs, _, h => by
    obtain ⟨x, ws, rfl, h1, h2⟩ := RDs.ofCons h
    rw [h1.ofInt, nat_rds h2] <;> rfl
theorem ok_pl (T : Tx K mg) : ∀ n : Nat, Has P w K mg base (2 * n + 2) (a_plain_tree K) p_plain_tree (spPl K n)
  | 0 => by
    obtain ⟨fd, F⟩ := f_plain_tree T
    have no : ∀ {vs H Q E}, spPl K 0 vs H Q E → False := fun ⟨t, z, o, v, _, _, h, _⟩ => by cases h
    exact ⟨⟨fd, ⟨fun vs H Q E h => (no h).elim, fun A outer s H args us vs Q E _ _ _ _ h => (no h).elim⟩, F.bindsN (b_plain_tree T)⟩, F.kp⟩
  | n + 1 => by
    have h_plain_tree := ok_pl T n
    have h_at_least := ok_at T (k := 2 * n + 1) h_plain_tree
    refine has_of (f_plain_tree T) (z_plain_tree T) (b_plain_tree T) (fun vs H Q E h => by obtain ⟨_, _, _, _, rfl, _⟩ := h; rfl) (fun cdv A outer s H vs Q E hr h => ?_)
    obtain ⟨t, z, o, v, rfl, rv, td, hz, k⟩ := h
    refine ⟨_, (pss_cons (ps_set (i := 1) (z_plain_tree T).nd rfl (Or.inl rfl) (pe_ix (ixT K) (pv 0) pe_int (fun _ _ => rfl)))
  (pss_cons (ps_if (pt_cmpR op_eq (pv 1) pe_str (nomark _)) (pss_one (ps_ret (pe_ix (ixT K) (pv 0) pe_int (fun _ _ => rfl)))) pss_nil)
  (pss_cons (ps_if (pt_cmpR op_eq (pv 1) pe_str (nomark _)) (pss_one (ps_ret (pe_op oAddS (pe_ix ix_str (pgs (i_LETTERS T)) (pe_ix (ixT K) (pv 0) pe_int (fun _ _ => rfl)) (fun _ _ => rfl)) (bmK K PySem.F.plainAttrs_str PySem.F.slot_str_join PySem.F.type_str_join mt_join pe_str (pa_cons (pe_lc (own := [("at", 2), ("own", 3)]) rfl (z_plain_tree T).nd (tupW K (pe_ix (ixT K) (pv 0) pe_int (fun _ _ => rfl))) (blkOk_by (N := n_plain_tree) (sc := defScope s_plain_tree) (by decide +kernel)) (fun _ _ _ _ _ => by exact (tupK K (n := 2) (pgs_cons (pg_name (i := 2) (z_plain_tree T).nd rfl (Or.inl rfl)) (pgs_cons (pg_name (i := 3) (z_plain_tree T).nd rfl (Or.inl rfl)) pgs_nil)))) (fun _ _ _ _ _ => by exact pts_nil) (fun _ _ _ _ _ => by exact (pe_op oAddS (pe_op oAddS (pe_op oAddS (pe_op oAddS pe_str (pe_callTy call_str_int (by rfl) (l_str T) (by decide +kernel) (pa_cons (pv 2) pa_nil))) pe_str) (pcall h_plain_tree (hr.mono (by omega)) (g_plain_tree T) (pa_cons (pv 3) pa_nil))) pe_str))) pa_nil))))) pss_nil)
  (pss_cons (ps_if (pt_cmpR op_eq (pv 1) pe_str (nomark _)) (pss_one (ps_ret (pe_op oAddS (pe_op oAddS (pcall h_at_least (hr.mono (by omega)) (g_at_least T) (pa_cons (pe_ix (ixT K) (pv 0) pe_int (fun _ _ => rfl)) (pa_cons pe_int pa_nil))) pe_str) (pcall h_at_least (hr.mono (by omega)) (g_at_least T) (pa_cons (pe_ix (ixT K) (pv 0) pe_int (fun _ _ => rfl)) (pa_cons pe_int pa_nil)))))) pss_nil)
  (pss_cons (ps_if (pt_cmpR op_eq (pv 1) pe_str (nomark _)) (pss_one (ps_ret (pe_op oAddS (pe_op oAddS (pe_op oAddS (pcall h_at_least (hr.mono (by omega)) (g_at_least T) (pa_cons (pe_ix (ixT K) (pv 0) pe_int (fun _ _ => rfl)) (pa_cons pe_int pa_nil))) pe_str) (pe_callTy call_str_int (by rfl) (l_str T) (by decide +kernel) (pa_cons (pe_ix (ixT K) (pv 0) pe_int (fun _ _ => rfl)) pa_nil))) (pcall h_at_least (hr.mono (by omega)) (g_at_least T) (pa_cons (pe_ix (ixT K) (pv 0) pe_int (fun _ _ => rfl)) (pa_cons pe_int pa_nil)))))) pss_nil)
  (pss_cons (ps_set (i := 3) (z_plain_tree T).nd rfl (Or.inl rfl) (pcall h_at_least (hr.mono (by omega)) (g_at_least T) (pa_cons (pe_ix (ixT K) (pv 0) (pe_un un_neg pe_int) (fun _ _ => rfl)) (pa_cons pe_int pa_nil))))
  (pss_cons (ps_if (pt_cmpR op_eq (pv 1) pe_str (nomark _)) (pss_one (ps_ret (pe_op oAddS (pv 3) pe_str))) pss_nil)
  (pss_cons (ps_if (pt_cmpR op_eq (pv 1) pe_str (nomark _)) (pss_one (ps_ret (pe_op oAddS (pe_op oAddS (pv 3) pe_str) (pe_callTy call_str_int (by rfl) (l_str T) (by decide +kernel) (pa_cons (pe_ix (ixT K) (pv 0) pe_int (fun _ _ => rfl)) pa_nil))))) pss_nil)
  (pss_cons (ps_if (pt_cmpR op_eq (pv 1) pe_str (nomark _)) (pss_one (ps_ret (pe_op oAddS (pe_op oAddS (pe_op oAddS (pv 3) pe_str) (bmK K PySem.F.plainAttrs_str PySem.F.slot_str_join PySem.F.type_str_join mt_join pe_str (pa_cons (pe_lc (own := [("one", 4)]) rfl (z_plain_tree T).nd (tupW K (pe_ix (ixT K) (pv 0) pe_int (fun _ _ => rfl))) (blkOk_by (N := n_plain_tree) (sc := defScope s_plain_tree) (by decide +kernel)) (fun _ _ _ _ _ => by exact (pg_name (i := 4) (z_plain_tree T).nd rfl (Or.inl rfl))) (fun _ _ _ _ _ => by exact pts_nil) (fun _ _ _ _ _ => by exact (pe_callTy call_str_int (by rfl) (l_str T) (by decide +kernel) (pa_cons (pv 4) pa_nil)))) pa_nil))) pe_str))) pss_nil)
  (pss_one (ps_ret (pe_op oAddS (pe_op oAddS (pe_op oAddS (pv 3) pe_str) (bmK K PySem.F.plainAttrs_str PySem.F.slot_str_join PySem.F.type_str_join mt_join pe_str (pa_cons (pe_lc (own := [("one", 4)]) rfl (z_plain_tree T).nd (tupW K (pe_slice (slT K) (pv 0) (po_some pe_int) (po_some (pe_un un_neg pe_int)))) (blkOk_by (N := n_plain_tree) (sc := defScope s_plain_tree) (by decide +kernel)) (fun _ _ _ _ _ => by exact (pg_name (i := 4) (z_plain_tree T).nd rfl (Or.inl rfl))) (fun _ _ _ _ _ => by exact pts_nil) (fun _ _ _ _ _ => by exact (pe_callTy call_str_int (by rfl) (l_str T) (by decide +kernel) (pa_cons (pv 4) pa_nil)))) pa_nil))) pe_str)))))))))))), ?_⟩
    cases td with
    | @name _ c hc =>
      obtain ⟨p, x, y, rfl, hp, rx, ry⟩ := slots2 rv
      obtain rfl := rx.ofStr
      obtain rfl := ry.ofStr
      refine ⟨_, rfl, p, _, _, _, rfl, rfl, hp, rfl, ?_⟩
      refine ⟨_, rfl, rfl, true, vdec _, ?_⟩
      refine ⟨_, rfl, p, _, _, _, rfl, rfl, hp, rfl, k _ _ (Ex.refl _) ?_⟩
      refine (Bz.sg1 ?_).mono (by omega) (by omega)
      have := of_decide_eq_true hc
      unfold isOp
      refine decide_eq_false ?_
      simp only [List.mem_cons, List.not_mem_nil, or_false]
      omega
    | @letter _ kk ds zs os h1 h2 h3 hk hh =>
      obtain ⟨p, x, y, u, rfl, hp, rx, ry, ru⟩ := slots3 rv
      obtain rfl := rx.ofStr
      obtain rfl := ry.ofInt
      obtain ⟨pu, us, rfl, hpu, rus⟩ := ru.ofTup
      have hul := rus.len
      rw [List.length_map] at hul
      refine ⟨_, rfl, p, _, _, _, rfl, rfl, hp, rfl, ?_⟩
      refine ⟨_, rfl, rfl, false, ndec (by decide +kernel), ?_⟩
      refine ⟨_, rfl, rfl, true, vdec _, ?_⟩
      refine ⟨_, rfl, p, _, _, _, rfl, rfl, hp, rfl, _, _, _, rfl, rfl, by decide +kernel, lt_at kk hk, rfl, ?_⟩
      refine ⟨_, rfl, p, _, _, _, rfl, rfl, hp, rfl, pu, rfl, ⟨us, hpu⟩, fun l hn => lc_it walk_tup (fun i H' => Ex H H' ∧ ∃ ys : List Str, H' l = some (.lst (ys.map V.str)) ∧ ys.length = i ∧ ∀ (j : Nat) (y : Str) (a b : Nat), ys[j]? = some y → (zs.map fun z => 13 + 40 * z)[j]? = some a → (os.map fun o => 1 + o)[j]? = some b → Bz y a b) ?_ (fun i H' _ h => h.1.t.sq hpu) ?_ ?_⟩
      · exact ⟨ex_new hn, [], upd_same, rfl, fun j y a b e => by simp at e⟩
      · rintro i x H2 H3 hi ⟨e2, ys, hys, hyl, hyb⟩ ⟨rfl, hx⟩
        have hid : i < ds.length := by omega
        obtain ⟨d0, g1, g2⟩ := rus.getV hx
        rw [List.getElem?_map, List.getElem?_eq_getElem hid] at g1
        cases g1
        obtain ⟨q, xa, xt, rfl, hq, ra, rt⟩ := slots2 (g2.mono e2.t)
        obtain rfl := ra.ofInt
        have hzi : i < zs.length := by omega
        have hoi : i < os.length := by omega
        have td1 := hh i ds[i] zs[i] os[i] (List.getElem?_eq_getElem hid) (List.getElem?_eq_getElem hzi) (List.getElem?_eq_getElem hoi)
        have hz1 : zs[i] ≤ zs.sum := le_sum (List.getElem_mem hzi)
        have bn := Bz.num (h3 _ (List.getElem_mem hid))
        refine ⟨q, _, rfl, hq, rfl, _, _, rfl, _, _, rfl, rfl, rfl, ?_⟩
        refine ⟨_, rfl, _, rfl, num_log (h3 _ (List.getElem_mem hid)), _, _, rfl, rfl, szB (bl (z := "{") 1) bn (by omega), _, _, rfl, rfl, szB ((bl (z := "{") 1).app bn) (bl (z := ":") 0) (by omega), ?_⟩
        refine ⟨_, rfl, _, _, _, _, rfl, rt, td1, by omega, fun s H4 e4 b4 => ?_⟩
        have bs := (((bl (z := "{") 1).app bn).app (bl (z := ":") 0)).app b4
        refine ⟨_, _, rfl, rfl, szB (((bl (z := "{") 1).app bn).app (bl (z := ":") 0)) b4 (by omega), _, _, rfl, rfl, szB bs (bl (z := "}") 0) (by omega), ?_⟩
        have bf := (bs.app (bl (z := "}") 0)).mono (show 1 + 10 + 1 + 40 * zs[i] + 1 ≤ 13 + 40 * zs[i] by omega) (show 1 + 0 + 0 + os[i] + 0 ≤ 1 + os[i] by omega)
        refine ⟨_, e4 _ _ hys, ?_, ?_, ys ++ [((("{" : Str) ++ Str.ofString (toString ((ds[i].1 : Nat) : Int))) ++ (":" : Str)) ++ s ++ ("}" : Str)], ?_, by rw [List.length_append, hyl] <;> rfl, ?_⟩
        · rw [List.length_map, hyl]
          exact Nat.lt_of_le_of_lt (show i ≤ 100000 by omega) (by decide)
        · exact fun b o q => by
            by_cases hbl : b = l
            · subst hbl
              rw [hn] at q; cases q
            · rw [upd_ne hbl]; exact e4 _ _ (e2 b o q)
        · rw [upd_same, List.map_append]
          rfl
        · intro j y a b m1 m2 m3
          by_cases hj : j < ys.length
          · rw [List.getElem?_append_left hj] at m1
            exact hyb j y a b m1 m2 m3
          · have hl : j < (ys ++ [_]).length := (List.getElem?_eq_some_iff.mp m1).1
            rw [List.length_append] at hl
            have hl : j < ys.length + 1 := hl
            have : j = i := by omega
            subst this
            rw [List.getElem?_append_right (by omega), show j - ys.length = 0 by omega] at m1
            rw [List.getElem?_map, List.getElem?_eq_getElem hzi] at m2
            rw [List.getElem?_map, List.getElem?_eq_getElem hoi] at m3
            cases m1
            cases m2
            cases m3
            exact bf
      · rintro H2 ⟨e2, ys, hys, hyl, hyb⟩
        have hyl2 : ys.length = ds.length := by omega
        have bj := Bz.tjoin B0 ys (zs.map fun z => 13 + 40 * z) (os.map fun o => 1 + o) (by rw [List.length_map]; omega) (by rw [List.length_map]; omega) hyb
        have s1 : ∀ l : List Nat, (l.map fun z => 13 + 40 * z).sum = 13 * l.length + 40 * l.sum := fun l => by
          induction l with
          | nil => rfl
          | cons a l ih => simp only [List.map_cons, List.sum_cons, List.length_cons, ih]; omega
        have s2 : ∀ l : List Nat, (l.map fun o => 1 + o).sum = l.length + l.sum := fun l => by
          induction l with
          | nil => rfl
          | cons a l ih => simp only [List.map_cons, List.sum_cons, List.length_cons, ih]; omega
        rw [s1, s2] at bj
        have sl := sum_le ys (zs.map fun z => 13 + 40 * z) (by rw [List.length_map]; omega) fun i y a e1 e2 => by
          have hoi : i < os.length := by
            have := (List.getElem?_eq_some_iff.mp e1).1
            omega
          exact (hyb i y a (1 + os[i]) e1 e2 (by rw [List.getElem?_map, List.getElem?_eq_getElem hoi] <;> rfl)).1
        rw [s1] at sl
        have b1 : Bz ⟨#[97 + kk]⟩ 1 0 := Bz.sg1 (by
          unfold isOp
          refine decide_eq_false ?_
          simp only [List.mem_cons, List.not_mem_nil, or_false]
          omega)
        refine ⟨_, l, ys, rfl, rfl, .inl (SqL.of hys), ?_, _, _, rfl, rfl, szB b1 bj (by omega), k _ _ e2 ((b1.app bj).mono ?_ ?_)⟩
        · show _ + ys.length * 0 ≤ _
          omega
        · omega
        · omega
    | @beside _ z1 o1 z2 o2 t1 t2 ta tb =>
      obtain ⟨p, x, y, u, rfl, hp, rx, ry, ru⟩ := slots3 rv
      obtain rfl := rx.ofStr
      refine ⟨_, rfl, p, _, _, _, rfl, rfl, hp, rfl, ?_⟩
      refine ⟨_, rfl, rfl, false, ndec (by decide +kernel), ?_⟩
      refine ⟨_, rfl, rfl, false, ndec (by decide +kernel), ?_⟩
      refine ⟨_, rfl, rfl, true, vdec _, ?_⟩
      refine ⟨_, rfl, p, _, _, _, rfl, rfl, hp, rfl, _, _, _, _, _, rfl, ry, ta, by omega, fun s1 H1 e1 b1 => ?_⟩
      refine ⟨_, _, rfl, rfl, szB b1 (bl (z := "+") 1) (by omega), ?_⟩
      refine ⟨_, rfl, p, _, _, _, rfl, rfl, e1.t.sq hp, rfl, _, _, _, _, _, rfl, ru.mono e1.t, tb, by omega, fun s2 H2 e2 b2 => ?_⟩
      exact ⟨_, _, rfl, rfl, szB (b1.app (bl (z := "+") 1)) b2 (by omega), k _ _ (e1.trans e2) (((b1.app (bl (z := "+") 1)).app b2).mono (by omega) (by omega))⟩
    | @over _ z1 o1 z2 o2 vv t1 t2 hv ta tb =>
      obtain ⟨p, x, y, u1, u2, rfl, hp, rx, ry, r1, r2⟩ := slots4 rv
      obtain rfl := rx.ofStr
      obtain rfl := ry.ofInt
      have bn := Bz.num hv
      refine ⟨_, rfl, p, _, _, _, rfl, rfl, hp, rfl, ?_⟩
      refine ⟨_, rfl, rfl, false, ndec (by decide +kernel), ?_⟩
      refine ⟨_, rfl, rfl, false, ndec (by decide +kernel), ?_⟩
      refine ⟨_, rfl, rfl, false, ndec (by decide +kernel), ?_⟩
      refine ⟨_, rfl, rfl, true, vdec _, ?_⟩
      refine ⟨_, rfl, p, _, _, _, rfl, rfl, hp, rfl, _, _, _, _, _, rfl, r1, ta, by omega, fun s1 H1 e1 b1 => ?_⟩
      have b2 := b1.app (bl (z := "/") 1)
      refine ⟨_, _, rfl, rfl, szB b1 (bl (z := "/") 1) (by omega), ?_⟩
      refine ⟨_, rfl, p, _, _, _, rfl, rfl, e1.t.sq hp, rfl, _, rfl, num_log hv, _, _, rfl, rfl, szB b2 bn (by omega), ?_⟩
      refine ⟨_, rfl, p, _, _, _, rfl, rfl, e1.t.sq hp, rfl, _, _, _, _, _, rfl, r2.mono e1.t, tb, by omega, fun s2 H2 e2 b3 => ?_⟩
      exact ⟨_, _, rfl, rfl, szB (b2.app bn) b3 (by omega), k _ _ (e1.trans e2) (((b2.app bn).app b3).mono (by omega) (by omega))⟩
    | @glue _ z1 o1 v1 v2 t1 hv hu ta =>
      obtain ⟨p, x, y, u1, u2, rfl, hp, rx, ry, r1, r2⟩ := slots4 rv
      obtain rfl := rx.ofStr
      obtain rfl := ry.ofInt
      obtain rfl := r1.ofInt
      refine ⟨_, rfl, p, _, _, _, rfl, rfl, hp, rfl, ?_⟩
      refine ⟨_, rfl, rfl, false, ndec (by decide +kernel), ?_⟩
      refine ⟨_, rfl, rfl, false, ndec (by decide +kernel), ?_⟩
      refine ⟨_, rfl, rfl, false, ndec (by decide +kernel), ?_⟩
      refine ⟨_, rfl, rfl, false, ndec (by decide +kernel), ?_⟩
      refine ⟨_, rfl, _, rfl, p, _, _, _, rfl, rfl, hp, rfl, _, _, _, _, _, rfl, r2, ta, by omega, fun s1 H1 e1 b1 => ?_⟩
      refine ⟨_, rfl, rfl, false, ndec (by decide +kernel), ?_⟩
      refine ⟨_, rfl, rfl, false, ndec (by decide +kernel), ?_⟩
      refine ⟨_, rfl, rfl, false, ndec (by decide +kernel), ?_⟩
      have b2 := b1.app (bl (z := "[") 1)
      refine ⟨_, rfl, _, _, rfl, rfl, szB b1 (bl (z := "[") 1) (by omega), rfl, ?_⟩
      have hvs : ∀ v ∈ [v1, v2], v ≤ 1000000000 := fun v hv => by
        rcases List.mem_cons.mp hv with rfl | hv
        · assumption
        · rw [List.mem_singleton.mp hv]; assumption
      refine lcNums 4 [v1, v2] ?_ hvs (by show 2 ≤ 1000000; decide) (fun R kk => ?_) (fun l H2 e2 hl => ?_)
      · show 4 < 5
        decide
      · exact ⟨_, rfl, _, rfl, _, rfl, _, rfl, p, _, rfl, e1.t.sq hp, fun z => absurd z.1 (by show ¬ (1 = 0); decide), fun _ q hq => kk q _ (ex_new hq) (.inl (.inl upd_same))⟩
      · obtain ⟨b3, s3⟩ := bz_nums (bl (z := "=") 0) hvs
        have e4 : 11 * [v1, v2].length = 22 := rfl
        rw [e4] at b3 s3
        exact ⟨_, l, _, rfl, rfl, .inl (SqL.of hl), Nat.le_trans s3 (by decide), _, _, rfl, rfl, szB b2 b3 (by omega), _, _, rfl, rfl, szB (b2.app b3) (bl (z := "]") 0) (by omega), k _ _ (e1.trans e2) (((b2.app b3).app (bl (z := "]") 0)).mono (by omega) (by omega))⟩
    | @hide _ z1 o1 v1 t1 hv ta =>
      obtain ⟨p, x, y, u1, rfl, hp, rx, ry, r1⟩ := slots3 rv
      obtain rfl := rx.ofStr
      obtain rfl := ry.ofInt
      refine ⟨_, rfl, p, _, _, _, rfl, rfl, hp, rfl, ?_⟩
      refine ⟨_, rfl, rfl, false, ndec (by decide +kernel), ?_⟩
      refine ⟨_, rfl, rfl, false, ndec (by decide +kernel), ?_⟩
      refine ⟨_, rfl, rfl, false, ndec (by decide +kernel), ?_⟩
      refine ⟨_, rfl, rfl, false, ndec (by decide +kernel), ?_⟩
      refine ⟨_, rfl, _, rfl, p, _, _, _, rfl, rfl, hp, rfl, _, _, _, _, _, rfl, r1, ta, by omega, fun s1 H1 e1 b1 => ?_⟩
      refine ⟨_, rfl, rfl, false, ndec (by decide +kernel), ?_⟩
      refine ⟨_, rfl, rfl, false, ndec (by decide +kernel), ?_⟩
      refine ⟨_, rfl, rfl, false, ndec (by decide +kernel), ?_⟩
      have b2 := b1.app (bl (z := "[") 1)
      refine ⟨_, rfl, _, _, rfl, rfl, szB b1 (bl (z := "[") 1) (by omega), rfl, ?_⟩
      have hvs : ∀ v ∈ [v1], v ≤ 1000000000 := fun v hv => by rw [List.mem_singleton.mp hv]; assumption
      refine lcNums 4 [v1] ?_ hvs (by show 1 ≤ 1000000; decide) (fun R kk => ?_) (fun l H2 e2 hl => ?_)
      · show 4 < 5
        decide
      · exact ⟨_, rfl, _, rfl, _, rfl, _, rfl, p, _, rfl, e1.t.sq hp, fun z => absurd z.1 (by show ¬ (1 = 0); decide), fun _ q hq => kk q _ (ex_new hq) (.inl (.inl upd_same))⟩
      · obtain ⟨b3, s3⟩ := bz_nums (bl (z := "=") 0) hvs
        have e4 : 11 * [v1].length = 11 := rfl
        rw [e4] at b3 s3
        exact ⟨_, l, _, rfl, rfl, .inl (SqL.of hl), Nat.le_trans s3 (by decide), _, _, rfl, rfl, szB b2 b3 (by omega), _, _, rfl, rfl, szB (b2.app b3) (bl (z := "]") 0) (by omega), k _ _ (e1.trans e2) (((b2.app b3).app (bl (z := "]") 0)).mono (by omega) (by omega))⟩
    | @power _ z1 o1 v1 t1 hv ta =>
      obtain ⟨p, x, y, u1, rfl, hp, rx, ry, r1⟩ := slots3 rv
      obtain rfl := rx.ofStr
      obtain rfl := ry.ofInt
      have bn := Bz.num hv
      refine ⟨_, rfl, p, _, _, _, rfl, rfl, hp, rfl, ?_⟩
      refine ⟨_, rfl, rfl, false, ndec (by decide +kernel), ?_⟩
      refine ⟨_, rfl, rfl, false, ndec (by decide +kernel), ?_⟩
      refine ⟨_, rfl, rfl, false, ndec (by decide +kernel), ?_⟩
      refine ⟨_, rfl, rfl, false, ndec (by decide +kernel), ?_⟩
      refine ⟨_, rfl, _, rfl, p, _, _, _, rfl, rfl, hp, rfl, _, _, _, _, _, rfl, r1, ta, by omega, fun s1 H1 e1 b1 => ?_⟩
      refine ⟨_, rfl, rfl, false, ndec (by decide +kernel), ?_⟩
      refine ⟨_, rfl, rfl, true, vdec _, ?_⟩
      have b2 := b1.app (bl (z := "^") 1)
      exact ⟨_, rfl, _, _, rfl, rfl, szB b1 (bl (z := "^") 1) (by omega), _, rfl, p, _, _, _, rfl, rfl, e1.t.sq hp, rfl, _, rfl, num_log hv, _, _, rfl, rfl, szB b2 bn (by omega), k _ _ e1 ((b2.app bn).mono (by omega) (by omega))⟩
    | @round _ z1 o1 t1 ta =>
      obtain ⟨p, x, u1, rfl, hp, rx, r1⟩ := slots2 rv
      obtain rfl := rx.ofStr
      refine ⟨_, rfl, p, _, _, _, rfl, rfl, hp, rfl, ?_⟩
      refine ⟨_, rfl, rfl, false, ndec (by decide +kernel), ?_⟩
      refine ⟨_, rfl, rfl, false, ndec (by decide +kernel), ?_⟩
      refine ⟨_, rfl, rfl, false, ndec (by decide +kernel), ?_⟩
      refine ⟨_, rfl, rfl, false, ndec (by decide +kernel), ?_⟩
      refine ⟨_, rfl, _, rfl, p, _, _, _, rfl, rfl, hp, rfl, _, _, _, _, _, rfl, r1, ta, by omega, fun s1 H1 e1 b1 => ?_⟩
      refine ⟨_, rfl, rfl, true, vdec _, ?_⟩
      exact ⟨_, rfl, _, _, rfl, rfl, szB b1 (bl (z := "~") 1) (by omega), k _ _ e1 ((b1.app (bl (z := "~") 1)).mono (by omega) (by omega))⟩
    | @order _ z1 o1 t1 vs hv ta =>
      obtain ⟨p, x, y, u1, rfl, hp, rx, ry, r1⟩ := slots3 rv
      obtain rfl := rx.ofStr
      obtain ⟨py, ys, rfl, hpy, rys⟩ := ry.ofTup
      obtain rfl := nat_rds rys
      refine ⟨_, rfl, p, _, _, _, rfl, rfl, hp, rfl, ?_⟩
      refine ⟨_, rfl, rfl, false, ndec (by decide +kernel), ?_⟩
      refine ⟨_, rfl, rfl, false, ndec (by decide +kernel), ?_⟩
      refine ⟨_, rfl, rfl, false, ndec (by decide +kernel), ?_⟩
      refine ⟨_, rfl, rfl, false, ndec (by decide +kernel), ?_⟩
      refine ⟨_, rfl, _, rfl, p, _, _, _, rfl, rfl, hp, rfl, _, _, _, _, _, rfl, r1, ta, by omega, fun s1 H1 e1 b1 => ?_⟩
      refine ⟨_, rfl, rfl, false, ndec (by decide +kernel), ?_⟩
      refine ⟨_, rfl, rfl, false, ndec (by decide +kernel), ?_⟩
      refine ⟨_, rfl, rfl, true, vdec _, ?_⟩
      have b2 := b1.app (bl (z := "<") 1)
      refine ⟨_, rfl, _, _, rfl, rfl, szB b1 (bl (z := "<") 1) (by omega), rfl, ?_⟩
      refine lcNums 4 vs ?_ hv (by omega) (fun R kk => ?_) (fun l H2 e2 hl => ?_)
      · show 4 < 5
        decide
      · exact ⟨_, rfl, p, _, _, _, rfl, rfl, e1.t.sq hp, rfl, kk _ _ (Ex.refl _) (e1.t.sq hpy)⟩
      · obtain ⟨b3, s3⟩ := bz_nums (bl (z := ",") 0) hv
        exact ⟨_, l, _, rfl, rfl, .inl (SqL.of hl), by omega, _, _, rfl, rfl, szB b2 b3 (by omega), _, _, rfl, rfl, szB (b2.app b3) (bl (z := ">") 0) (by omega), k _ _ (e1.trans e2) (((b2.app b3).app (bl (z := ">") 0)).mono (by omega) (by omega))⟩
end
end K20
namespace Pb
open PySem L2 Sl
def opT (t : List Nat) : Nat := (t.filter isOp).length
theorem ops_all (t : List Nat) (i : Nat) : ops (signsOf t) i ≤ opT t := by
  unfold ops opT signsOf
  have h1 : (((t.zipIdx.filter fun p => p.1 != 32).take i).filter fun p => isOp p.1).length ≤ (t.zipIdx.filter fun p => isOp p.1).length := by
    refine Nat.le_trans ((List.take_sublist _ _).filter _).length_le ?_
    exact (List.filter_sublist.filter _).length_le
  refine Nat.le_trans h1 ?_
  have e : t = t.zipIdx.map (·.1) := by simp
  conv => rhs; rw [e]
  rw [List.filter_map, List.length_map]
  exact Nat.le_refl _
theorem line_td {t : List Nat} {n f : Nat} {ns : List Nat} {i c j : Nat} {u : D} (h : lineP (signsOf t) n f ns i = some (.ok c u j)) : (isCp c = true ∧ ∃ z o, Td (opT t + 1) z o u ∧ z ≤ t.length) ∧ i < j ∧ j ≤ (signsOf t).length := by
  unfold lineP at h
  cases hc : cAt (signsOf t) i with
  | none => rw [hc] at h; cases h
  | some c2 =>
    rw [hc] at h
    simp only [] at h
    split at h
    · rename_i hcp
      split at h
      · cases h
      · split at h
        · cases q : nestP (signsOf t) n ns f 0 (i + 2) with
          | none => rw [q] at h; cases h
          | some r =>
            rw [q] at h
            cases r with
            | bad p m => cases h
            | ok t2 j2 =>
              cases h
              obtain ⟨m, z, o, h1, h2, h3, h4⟩ := (trees _ _ _ _).1 _ _ _ _ q
              have := ops_all t j
              have hl := len_signs t
              exact ⟨⟨hcp, z, o, h1.mono (by omega), by omega⟩, by omega, h4⟩
        · cases h
    · cases h
theorem bookL_td {t : List Nat} {n : Nat} : ∀ (f : Nat) (ls ms : List (Nat × D)) (i : Nat), bookL (signsOf t) n f ls i = some (.ok ms) → (∀ p ∈ ls, isCp p.1 = true ∧ ∃ z o, Td (opT t + 1) z o p.2 ∧ z ≤ t.length) → ls.length ≤ i → i ≤ (signsOf t).length →
    (∀ p ∈ ms, isCp p.1 = true ∧ ∃ z o, Td (opT t + 1) z o p.2 ∧ z ≤ t.length) ∧ ms.length ≤ t.length
  | 0, _, _, _, h, _, _, _ => by simp [bookL] at h
  | f + 1, ls, ms, i, h, hls, h1, h2 => by
    simp only [bookL] at h
    by_cases c : cAt (signsOf t) i = some 59
    · rw [if_pos c] at h
      cases q : lineP (signsOf t) n f (ls.map (·.1)) (i + 1) with
      | none => rw [q] at h; cases h
      | some r =>
        rw [q] at h
        cases r with
        | bad p m => cases h
        | ok c2 u j =>
          obtain ⟨a, b, d⟩ := line_td q
          refine bookL_td f _ ms j h (fun p hp => ?_) (by rw [List.length_append]; show ls.length + 1 ≤ j; omega) d
          rcases List.mem_append.mp hp with z | z
          · exact hls p z
          · rw [List.mem_singleton.mp z]; exact a
    · rw [if_neg c] at h
      split at h
      · cases h
        have hl := len_signs t
        exact ⟨hls, by omega⟩
      · cases h
theorem book_td {t : List Nat} {ls : List (Nat × D)} (h : bookOf t = .ok ls) : (∀ p ∈ ls, isCp p.1 = true ∧ ∃ z o, Td (opT t + 1) z o p.2 ∧ z ≤ t.length) ∧ ls.length ≤ t.length := by
  unfold bookOf at h
  split at h
  · cases h
  · split at h
    · cases h
    · rename_i q
      cases h
      unfold bookP at q
      cases q2 : lineP (signsOf t) t.length (fuel t) [] 0 with
      | none => rw [q2] at q; cases q
      | some r =>
        rw [q2] at q
        cases r with
        | bad p m => cases q
        | ok c2 u j =>
          obtain ⟨a, b, d⟩ := line_td q2
          exact bookL_td _ _ _ j q (fun p hp => by rw [List.mem_singleton.mp hp]; exact a) (by show 1 ≤ j; omega) d
    · cases h
end Pb
namespace K20
open PySem PySem.Spec
open PyProof.Rows L2 Sl Pb
section
variable {P : Program} {w : World} {K : PySem.W.Frag} {mg : Str → Option Value} {base : Heap} {H H1 H2 : Hp} {E E' : XK} {Q : VK} {σ : L2.St} {B : Bool → Hp → Prop} {l : Addr}
def spNone : Sp := fun vs H Q _ => ∃ t, vs = [.str (sg t)] ∧ t.length ≤ 400 ∧ opT t ≤ 80 ∧ ∀ v H', Ex H H' → decide (v = .non) = (flOf t).isSome → Q v H'
theorem ok_plainBook (T : Tx K mg) : Has P w K mg base 170 (a_plain_book K) p_plain_book spNone := by
  refine has_of (f_plain_book T) (z_plain_book T) (b_plain_book T) (fun vs H Q E h => by obtain ⟨_, rfl, _⟩ := h; rfl) (fun cdv A outer s H vs Q E hr h => ?_)
  obtain ⟨t, rfl, ht, hop, k⟩ := h
  have h_need := ok_need (P := P) (w := w) (base := base) T
  have h_is_text := ok_isText (P := P) (w := w) (base := base) T
  have h_book_flaw := ok_flaw (P := P) (w := w) (base := base) T
  have h_lines_of := ok_lines (P := P) (w := w) (base := base) T
  have h_plain_tree := ok_pl (P := P) (w := w) (base := base) T 81
  refine ⟨_, (pss_cons (ps_expr (pcall h_need (hr.mono (by omega)) (g_need T) (pa_cons (pcall h_is_text (hr.mono (by omega)) (g_is_text T) (pa_cons (pv 0) pa_nil)) (pa_cons pe_str pa_nil))))
  (pss_cons (ps_if (pt_cmpR oNoNo (pcall h_book_flaw (hr.mono (by omega)) (g_book_flaw T) (pa_cons (pv 0) pa_nil)) pe_non (nomark _)) (pss_one (ps_ret pe_non)) pss_nil)
  (pss_one (ps_ret (bmK K PySem.F.plainAttrs_str PySem.F.slot_str_join PySem.F.type_str_join mt_join pe_str (pa_cons (pe_lc (own := [("name", 1), ("tree", 2)]) rfl (z_plain_book T).nd (listW K (pcall h_lines_of (hr.mono (by omega)) (g_lines_of T) (pa_cons (pv 0) pa_nil))) (blkOk_by (N := n_plain_book) (sc := defScope s_plain_book) (by decide +kernel)) (fun _ _ _ _ _ => by exact (tupK K (n := 2) (pgs_cons (pg_name (i := 1) (z_plain_book T).nd rfl (Or.inl rfl)) (pgs_cons (pg_name (i := 2) (z_plain_book T).nd rfl (Or.inl rfl)) pgs_nil)))) (fun _ _ _ _ _ => by exact pts_nil) (fun _ _ _ _ _ => by exact (pe_op oAddS (pe_op oAddS (pv 1) pe_str) (pcall h_plain_tree (hr.mono (by omega)) (g_plain_tree T) (pa_cons (pv 2) pa_nil))))) pa_nil)))))), ?_⟩
  refine ⟨_, rfl, t, rfl, ht, true, _, rfl, fun _ => ?_, fun z => by cases z⟩
  refine ⟨_, rfl, t, rfl, ht, fun v H1 e1 rv => ⟨rfl, ?_⟩⟩
  unfold flOf at rv k
  cases hq : bookOf t with
  | error e =>
    rw [hq] at rv k
    obtain ⟨p, xs, rfl, _⟩ := rv.ofTup
    exact ⟨true, by rfl, k _ _ e1 rfl⟩
  | ok ls =>
    rw [hq] at rv k
    obtain rfl := rv.ofNon
    obtain ⟨hls, hll⟩ := book_td hq
    refine ⟨false, by rfl, rfl, _, rfl, t, rfl, ht, fun e he => (by rw [hq] at he; cases he), fun ls2 he a xs H2 e2 hxs rxs => ?_⟩
    rw [hq] at he
    cases he
    have hxl := rxs.len
    rw [List.length_map] at hxl
    refine ⟨a, rfl, ⟨xs, SqL.of hxs⟩, fun l hn => lc_it (walk_list (xs := xs)) (fun i H' => Ex H2 H' ∧ ∃ ys : List Str, H' l = some (.lst (ys.map V.str)) ∧ ys.length = i ∧ ∀ y ∈ ys, y.length ≤ 17000) ?_ (fun i H' _ h => SqL.of (h.1 _ _ hxs)) ?_ ?_⟩
    · exact ⟨ex_new hn, [], upd_same, rfl, fun y hy => by cases hy⟩
    · rintro i x H3 H4 hi ⟨e3, ys, hys, hyl, hyb⟩ ⟨rfl, hx⟩
      have hid : i < ls.length := by omega
      obtain ⟨d0, g1, g2⟩ := rxs.getV hx
      rw [List.getElem?_map, List.getElem?_eq_getElem hid] at g1
      cases g1
      obtain ⟨q, xa, xt, rfl, hq2, ra, rt⟩ := slots2 (g2.mono e3.t)
      obtain rfl := ra.ofStr
      obtain ⟨hcp, z, o, td, hz⟩ := hls _ (List.getElem_mem hid)
      refine ⟨q, _, rfl, hq2, rfl, _, _, rfl, _, _, rfl, rfl, rfl, ?_⟩
      have b1 : Bz (⟨#[ls[i].1]⟩ : Str) 1 1 := ⟨Nat.le_refl _, by
        unfold opS
        refine Nat.le_trans (List.length_filter_le _ _) ?_
        exact Nat.le_refl _⟩
      refine ⟨_, rfl, _, _, rfl, rfl, szB b1 (bl (z := "=") 0) (by omega), ?_⟩
      refine ⟨_, rfl, _, z, o, _, rfl, rt, td.mono (by omega), by omega, fun s H5 e4 b4 => ?_⟩
      have bs := (b1.app (bl (z := "=") 0)).app b4
      refine ⟨_, _, rfl, rfl, szB (b1.app (bl (z := "=") 0)) b4 (by omega), _, e4 _ _ hys, ?_, ?_, ys ++ [((⟨#[ls[i].1]⟩ : Str) ++ ("=" : Str)) ++ s], ?_, by rw [List.length_append, hyl] <;> rfl, ?_⟩
      · rw [List.length_map, hyl]
        exact Nat.lt_of_le_of_lt (show i ≤ 100000 by omega) (by decide)
      · exact fun b o q => by
          by_cases hbl : b = l
          · subst hbl
            rw [hn] at q; cases q
          · rw [upd_ne hbl]; exact e4 _ _ (e3 b o q)
      · rw [upd_same, List.map_append]
        rfl
      · intro y hy
        rcases List.mem_append.mp hy with z | z
        · exact hyb y z
        · rw [List.mem_singleton.mp z]
          refine Nat.le_trans bs.1 ?_
          omega
    · rintro H3 ⟨e3, ys, hys, hyl, hyb⟩
      refine ⟨_, l, ys, rfl, rfl, .inl (SqL.of hys), ?_, k _ _ ((e1.trans e2).trans e3) rfl⟩
      have s1 : ∀ l : List Str, (∀ y ∈ l, y.length ≤ 17000) → (l.map (·.length)).sum ≤ 17000 * l.length := fun l h => by
        induction l with
        | nil => exact Nat.zero_le _
        | cons a l ih =>
          have h1 := h a List.mem_cons_self
          have h2 := ih fun y hy => h y (List.mem_cons_of_mem _ hy)
          simp only [List.map_cons, List.sum_cons, List.length_cons]
          omega
      have s2 := s1 ys hyb
      have s3 : (";" : Str).length = 1 := by decide +kernel
      rw [s3]
      omega
end
end K20
namespace Sl
open PySem PySem.Spec
open PyProof.Rows L2
/-- the script, apart from the row -/
def Scr (K : PySem.W.Frag) (r c : Addr) (xs : List V) (H : Hp) : Prop := (r ≠ c ∧ SqL K H c xs) ∨ ∀ H', SqL K H' c xs
/-- the law's row: the script and its place -/
def Rw (K : PySem.W.Frag) (ns : List Int) (r c : Addr) (H : Hp) : Prop := Scr K r c (ns.map V.int) H ∧ ∃ i x g : Int, H r = some (.lst [.ref c, .int i, .int x, .int g]) ∧ 0 ≤ i
section
variable {K : PySem.W.Frag} {ns : List Int} {r c : Addr} {H H' : Hp} {o : HO} {xs : List V}
theorem exb1 : ExB [r] H (upd H r o) := fun a u n e => by
  rw [upd_ne (by simpa using n)]
  exact e
theorem sqL_b (e : ExB [r] H H') (n : c ≠ r) (h : SqL K H c xs) : SqL K H' c xs := by
  rcases h with (h | ⟨o, h⟩) | h
  · exact .inl (.inl (e _ _ (by simpa using n) h))
  · exact .inl (.inr ⟨o, e _ _ (by simpa using n) h⟩)
  · exact .inr h
theorem Scr.at (h : Scr K r c xs H) : SqL K H c xs := h.elim (·.2) (· H)
theorem Scr.b (h : Scr K r c xs H) (e : ExB [r] H H') : Scr K r c xs H' := h.imp (fun z => ⟨z.1, sqL_b e z.1.symm z.2⟩) id
theorem Scr.new (h : SqL K H c xs) (hr : H r = none) : Scr K r c xs (upd H r o) := by
  rcases h with (h | ⟨o, h⟩) | h
  · exact .inl ⟨(ne_of_none h hr).symm, .inl (.inl (by rw [upd_ne (ne_of_none h hr)]; exact h))⟩
  · exact .inl ⟨(ne_of_none h hr).symm, .inl (.inr ⟨o, by rw [upd_ne (ne_of_none h hr)]; exact h⟩)⟩
  · exact .inr fun _ => .inr h
theorem Rw.upd (q : Scr K r c (ns.map V.int) H) (e : ExB [r] H H') {i x g : Int} (hr : H' r = some (.lst [.ref c, .int i, .int x, .int g])) (hi : 0 ≤ i) : Rw K ns r c H' :=
  ⟨q.b e, i, x, g, hr, hi⟩
theorem Rw.ex (e : Ex H H') (h : Rw K ns r c H) : Rw K ns r c H' := by
  obtain ⟨h2, i, x, g, h3, h4⟩ := h
  exact ⟨h2.b e.b, i, x, g, e _ _ h3, h4⟩
def spTaken (K : PySem.W.Frag) : Sp := fun vs H Q _ => ∃ (r c : Addr) (ns : List Int) (m : Int), vs = [.ref r, .int m] ∧ 0 < m ∧ m < 1073741824 ∧ Rw K ns r c H ∧
  ∀ v H', 0 ≤ v → v < m → ExB [r] H H' → Rw K ns r c H' → Q (.int v) H'
def spPick (K : PySem.W.Frag) : Sp := fun vs H Q _ => ∃ (r c l : Addr) (ns : List Int) (xs : List V), vs = [.ref r, .ref l] ∧ l ≠ r ∧ SqL K H l xs ∧ 0 < xs.length ∧ xs.length < 1000000 ∧ Rw K ns r c H ∧
  ∀ v H', v ∈ xs → ExB [r] H H' → Rw K ns r c H' → Q v H'
end
end Sl
namespace K20
open PySem PySem.Spec
open PyProof.Rows L2 Sl
section
variable {P : Program} {w : World} {K : PySem.W.Frag} {mg : Str → Option Value} {base : Heap} {H H1 H2 : Hp} {E : XK} {Q : VK}
theorem ok_taken (T : Tx K mg) : Has P w K mg base 1 (a__law_taken K) p__law_taken (spTaken K) := by
  refine has_of (f__law_taken T) (z__law_taken T) (b__law_taken T) (fun vs H Q E h => by obtain ⟨_, _, _, _, rfl, _⟩ := h; rfl) (fun cdv A outer s H vs Q E hr h => ?_)
  obtain ⟨r, c, ns, m, rfl, hm, hm2, ⟨hs, i, x, g, hr0, hi⟩, k⟩ := h
  refine ⟨_, (pss_cons (ps_if (pt_cmpR oGtI (pe_ix (ixL K) (pv 0) pe_int (fun _ _ => rfl)) pe_int (nomark _)) (pss_cons (ps_set (i := 2) (z__law_taken T).nd rfl (Or.inl rfl) (pe_op oModI (pe_callTy call_int1 (by rfl) (l_int T) (by decide +kernel) (pa_cons (pe_ix (ixL K) (pv 0) pe_int (fun _ _ => rfl)) pa_nil)) (pv 1)))
  (pss_cons (ps_asg (pe_op oDivI (pe_ix (ixL K) (pv 0) pe_int (fun _ _ => rfl)) (pv 1)) (pg_sub (pv 0) pe_int set_list))
  (pss_one (ps_ret (pv 2))))) pss_nil)
  (pss_cons (ps_asg (pe_op oAddI (pe_ix (ixL K) (pv 0) pe_int (fun _ _ => rfl)) pe_int) (pg_sub (pv 0) pe_int set_list))
  (pss_cons (ps_if (pt_cmpR oGtI (pe_ix (ixL K) (pv 0) pe_int (fun _ _ => rfl)) (pe_callB (lenK K) (by rfl) (l_len T) (by decide +kernel) (pa_cons (pe_ix (ixL K) (pv 0) pe_int (fun _ _ => rfl)) pa_nil)) (nomark _)) (pss_cons (ps_asg (pe_op oModI (pe_callTy call_int1 (by rfl) (l_int T) (by decide +kernel) (pa_cons (pe_op oAddI (pe_op oMulI (pe_ix (ixL K) (pv 0) pe_int (fun _ _ => rfl)) pe_int) pe_int) pa_nil)) pe_int) (pg_sub (pv 0) pe_int set_list))
  (pss_one (ps_ret (pe_op oModI (pe_callTy call_int1 (by rfl) (l_int T) (by decide +kernel) (pa_cons (pe_op oDivI (pe_ix (ixL K) (pv 0) pe_int (fun _ _ => rfl)) pe_int) pa_nil)) (pv 1))))) pss_nil)
  (pss_cons (ps_set (i := 3) (z__law_taken T).nd rfl (Or.inl rfl) (pe_ix (ixL K) (pe_ix (ixL K) (pv 0) pe_int (fun _ _ => rfl)) (pe_op oSubI (pe_ix (ixL K) (pv 0) pe_int (fun _ _ => rfl)) pe_int) (fun _ _ => rfl)))
  (pss_cons (ps_asg (pe_op oModI (pe_callTy call_int1 (by rfl) (l_int T) (by decide +kernel) (pa_cons (pe_op oAddI (pe_op oAddI (pe_op oMulI (pe_ix (ixL K) (pv 0) pe_int (fun _ _ => rfl)) pe_int) (pe_callTy call_int1 (by rfl) (l_int T) (by decide +kernel) (pa_cons (pv 3) pa_nil))) pe_int) pa_nil)) pe_int) (pg_sub (pv 0) pe_int set_list))
  (pss_cons (ps_if (pt_cmpR oGeI (pv 3) (pe_op oPowI pe_int pe_int) (nomark _)) (pss_one (ps_asg (pe_op oDivI (pe_callTy call_int1 (by rfl) (l_int T) (by decide +kernel) (pa_cons (pe_op oModI (pe_callTy call_int1 (by rfl) (l_int T) (by decide +kernel) (pa_cons (pv 3) pa_nil)) (pe_op oPowI pe_int pe_int)) pa_nil)) (pv 1)) (pg_sub (pv 0) pe_int set_list))) pss_nil)
  (pss_one (ps_ret (pe_op oModI (pe_callTy call_int1 (by rfl) (l_int T) (by decide +kernel) (pa_cons (pv 3) pa_nil)) (pv 1)))))))))), ?_⟩
  have fin : ∀ {t v : Int} {H' : Hp} {i x g : Int}, v = t % m → ExB [r] H H' → H' r = some (.lst [.ref c, .int i, .int x, .int g]) → 0 ≤ i → Q (.int v) H' := fun {t v H' i x g} e1 e2 e3 e4 => by
    subst e1
    exact k _ _ (Int.emod_nonneg _ (by omega)) (Int.emod_lt_of_pos _ hm) e2 (.upd hs e2 e3 e4)
  refine ⟨_, rfl, r, _, 3, .int g, rfl, rfl, .inl (.inl hr0), rfl, g, 0, rfl, rfl, _, rfl, ?_⟩
  by_cases hg : 0 < g
  · rw [decide_eq_true hg]
    refine ⟨_, rfl, r, _, 3, .int g, rfl, rfl, .inl (.inl hr0), rfl, .inl ⟨g, rfl, _, rfl, g, m, rfl, rfl, hm, ?_⟩⟩
    refine ⟨_, rfl, r, _, 3, .int g, rfl, rfl, .inl (.inl hr0), rfl, _, rfl, g, m, rfl, rfl, ⟨hm, hm2⟩, ?_⟩
    exact ⟨_, rfl, r, _, 3, 3, rfl, rfl, hr0, rfl, _, rfl, fin rfl exb1 upd_same hi⟩
  · rw [decide_eq_false hg]
    refine ⟨_, rfl, r, _, 1, .int i, rfl, rfl, .inl (.inl hr0), rfl, i, 1, rfl, rfl, _, rfl, r, _, 1, 1, rfl, rfl, hr0, rfl, ?_⟩
    have q1 : upd H r (.lst [.ref c, .int (i + 1), .int x, .int g]) r = some (.lst [.ref c, .int (i + 1), .int x, .int g]) := upd_same
    have e1 : ExB [r] H (upd H r (.lst [.ref c, .int (i + 1), .int x, .int g])) := exb1
    have s1 := (hs.b e1).at
    refine ⟨_, rfl, r, _, 1, .int (i + 1), rfl, rfl, .inl (.inl q1), rfl, _, rfl, r, _, 0, .ref c, rfl, rfl, .inl (.inl q1), rfl, c, _, rfl, .inl s1, _, _, rfl, rfl, _, rfl, ?_⟩
    by_cases hl : ((ns.map V.int).length : Int) < i + 1
    · rw [decide_eq_true hl]
      refine ⟨_, rfl, r, _, 2, .int x, rfl, rfl, .inl (.inl q1), rfl, x, 48271, rfl, rfl, .inr ⟨by decide, by decide⟩, _, _, rfl, rfl, .inl ⟨_, rfl, _, _, rfl, rfl, by decide, _, rfl, r, _, 2, 2, rfl, rfl, q1, rfl, ?_⟩⟩
      refine ⟨_, rfl, r, _, 2, _, rfl, rfl, .inl (.inl upd_same), rfl, _, _, rfl, rfl, ⟨by decide, by decide⟩, .inl ⟨_, rfl, _, rfl, _, m, rfl, rfl, hm, ?_⟩⟩
      exact fin rfl (e1.trans exb1) upd_same (by omega)
    · rw [decide_eq_false hl]
      have hi2 : i.toNat < (ns.map V.int).length := by omega
      have hn2 : i.toNat < ns.length := by simpa using hi2
      have hat : atI (ns.map V.int) (i + 1 - 1) = some (.int ns[i.toNat]) := at_of (j := i.toNat) (by omega) (by rw [List.getElem?_map, List.getElem?_eq_getElem hn2] <;> rfl)
      generalize ns[i.toNat] = d at hat
      refine ⟨_, rfl, r, _, 0, .ref c, rfl, rfl, .inl (.inl q1), rfl, _, rfl, r, _, 1, .int (i + 1), rfl, rfl, .inl (.inl q1), rfl, _, 1, rfl, rfl, c, _, _, _, rfl, rfl, s1, hat, ?_⟩
      refine ⟨_, rfl, r, _, 2, .int x, rfl, rfl, .inl (.inl q1), rfl, x, 48271, rfl, rfl, .inr ⟨by decide, by decide⟩, _, rfl, .inl ⟨d, rfl, _, _, rfl, rfl, _, _, rfl, rfl, .inl ⟨_, rfl, _, _, rfl, rfl, by decide, _, rfl, r, _, 2, 2, rfl, rfl, q1, rfl, ?_⟩⟩⟩
      refine ⟨_, rfl, _, _, rfl, rfl, ⟨by decide, by decide, by decide⟩, d, _, rfl, rfl, _, rfl, ?_⟩
      by_cases hd : (10 : Int) ^ (18 : Int).toNat ≤ d
      · rw [decide_eq_true hd]
        refine ⟨_, rfl, .inl ⟨d, rfl, _, _, rfl, rfl, ⟨by decide, by decide, by decide⟩, d, _, rfl, rfl, Int.pow_pos (by decide), .inl ⟨_, rfl, _, rfl, _, m, rfl, rfl, ⟨hm, hm2⟩, _, rfl, r, _, 3, 3, rfl, rfl, upd_same, rfl, ?_⟩⟩⟩
        exact ⟨_, rfl, .inl ⟨d, rfl, _, rfl, d, m, rfl, rfl, hm, fin rfl ((e1.trans exb1).trans exb1) upd_same (by omega)⟩⟩
      · rw [decide_eq_false hd]
        exact ⟨_, rfl, .inl ⟨d, rfl, _, rfl, d, m, rfl, rfl, hm, fin rfl (e1.trans exb1) upd_same (by omega)⟩⟩
theorem ok_pick (T : Tx K mg) : Has P w K mg base 2 (a__law_pick K) p__law_pick (spPick K) := by
  refine has_of (f__law_pick T) (z__law_pick T) (b__law_pick T) (fun vs H Q E h => by obtain ⟨_, _, _, _, _, rfl, _⟩ := h; rfl) (fun cdv A outer s H vs Q E hr h => ?_)
  obtain ⟨r, c, l, ns, xs, rfl, hl, hx, h0, h1, hrw, k⟩ := h
  have h__law_taken := ok_taken (P := P) (w := w) (base := base) T
  refine ⟨_, (pss_one (ps_ret (pe_ix (ixL K) (pv 1) (pcall h__law_taken (hr.mono (by omega)) (g__law_taken T) (pa_cons (pv 0) (pa_cons (pe_callB (lenK K) (by rfl) (l_len T) (by decide +kernel) (pa_cons (pv 1) pa_nil)) pa_nil))) (fun _ _ => rfl)))), ?_⟩
  refine ⟨_, rfl, _, rfl, _, rfl, l, xs, rfl, .inl hx, r, c, ns, _, rfl, by omega, by omega, hrw, fun v H' v0 v1 e q => ?_⟩
  have hv : v.toNat < xs.length := by omega
  refine ⟨l, xs, v, xs[v.toNat], rfl, rfl, sqL_b e hl hx, at_of (j := v.toNat) (by omega) (List.getElem?_eq_getElem hv), k _ _ (List.getElem_mem hv) e q⟩
end
end K20
namespace Sl
open PySem PySem.Spec
open PyProof.Rows L2
/-- data of few floors -/
def okD : Nat → D → Prop
  | 0, _ => False
  | n + 1, .tup ds => ds.length ≤ 1000000 ∧ ∀ d ∈ ds, okD n d
  | _ + 1, _ => True
/-- the same data is alike -/
def spAlike (K : PySem.W.Frag) (n : Nat) : Sp := fun vs H Q _ => ∃ (d : D) (v u : V), vs = [v, u] ∧ okD n d ∧ RD K H d v ∧ RD K H d u ∧ ∀ H', Ex H H' → Q (.bl true) H'
end Sl
namespace K20
open PySem PySem.Spec
open PyProof.Rows L2 Sl
section
variable {P : Program} {w : World} {K : PySem.W.Frag} {mg : Str → Option Value} {base : Heap} {H H1 H2 : Hp} {E : XK} {Q : VK}
theorem ok_alike (T : Tx K mg) : ∀ n : Nat, Has P w K mg base (n + 1) (a__law_alike K) p__law_alike (spAlike K n)
  | 0 => by
    obtain ⟨fd, F⟩ := f__law_alike T
    have no : ∀ {vs H Q E}, spAlike K 0 vs H Q E → False := fun ⟨d, v, u, _, h, _⟩ => h
    exact ⟨⟨fd, ⟨fun vs H Q E h => (no h).elim, fun A outer s H args us vs Q E _ _ _ _ h => (no h).elim⟩, F.bindsN (b__law_alike T)⟩, F.kp⟩
  | n + 1 => by
    have h__law_alike := ok_alike T n
    refine has_of (f__law_alike T) (z__law_alike T) (b__law_alike T) (fun vs H Q E h => by obtain ⟨_, _, _, rfl, _⟩ := h; rfl) (fun cdv A outer s H vs Q E hr h => ?_)
    obtain ⟨d, v, u, rfl, hd, rv, ru, k⟩ := h
    refine ⟨_, (pss_cons (ps_if (pt_val (pe_callB (isiK K) (by rfl) (l_isinstance T) (by decide +kernel) (pa_cons (pv 1) (pa_cons (pe_bltn (v := .ty "tuple") (u := .type "tuple") rfl (l_tuple T) (by decide +kernel) rfl) pa_nil)))) (pss_cons (ps_if (PW.pt (pw_or (pt_not (pt_val (pe_callB (isiK K) (by rfl) (l_isinstance T) (by decide +kernel) (pa_cons (pv 0) (pa_cons (pe_bltn (v := .ty "tuple") (u := .type "tuple") rfl (l_tuple T) (by decide +kernel) rfl) pa_nil))))) (pw_or1 (pt_cmpR op_ne (pe_callB (lenK K) (by rfl) (l_len T) (by decide +kernel) (pa_cons (pv 0) pa_nil)) (pe_callB (lenK K) (by rfl) (l_len T) (by decide +kernel) (pa_cons (pv 1) pa_nil)) (nomark _))))) (pss_one (ps_ret pe_bl)) pss_nil)
  (pss_one (ps_ret (pe_cmpR (eqDK K hr.units) (pe_lc (own := [("at", 2)]) rfl (z__law_alike T).nd (pi_range1 (by rfl) (l_range T) (pa_cons (pe_callB (lenK K) (by rfl) (l_len T) (by decide +kernel) (pa_cons (pv 1) pa_nil)) pa_nil)) (blkOk_by (N := n__law_alike) (sc := defScope s__law_alike) (by decide +kernel)) (fun _ _ _ _ _ => by exact (pg_name (i := 2) (z__law_alike T).nd rfl (Or.inl rfl))) (fun _ _ _ _ _ => by exact (pts_one (pt_not (pt_val (pcall h__law_alike (hr.mono (by omega)) (g__law_alike T) (pa_cons (pe_ix (ixT K) (pv 0) (pv 2) (fun _ _ => rfl)) (pa_cons (pe_ix (ixT K) (pv 1) (pv 2) (fun _ _ => rfl)) pa_nil))))))) (fun _ _ _ _ _ => by exact (pv 2))) (pe_lst pa_nil) (nomark _))))) pss_nil)
  (pss_cons (ps_if (PW.pt (pw_or (pt_cmpR oIsNo (pv 1) pe_non (nomark _)) (pw_or1 (pt_val (pe_callB (isiK K) (by rfl) (l_isinstance T) (by decide +kernel) (pa_cons (pv 1) (pa_cons (pe_bltn (v := .ty "str") (u := .type "str") rfl (l_str T) (by decide +kernel) rfl) pa_nil))))))) (pss_one (ps_ret (pe_and (pe_cmpR op_eq (pv 0) (pv 1) (nomark _)) (pe_one (pe_cmpR op_eq (pe_callB (isiK K) (by rfl) (l_isinstance T) (by decide +kernel) (pa_cons (pv 0) (pa_cons (pe_bltn (v := .ty "str") (u := .type "str") rfl (l_str T) (by decide +kernel) rfl) pa_nil))) (pe_callB (isiK K) (by rfl) (l_isinstance T) (by decide +kernel) (pa_cons (pv 1) (pa_cons (pe_bltn (v := .ty "str") (u := .type "str") rfl (l_str T) (by decide +kernel) rfl) pa_nil))) (nomark _)))))) pss_nil)
  (pss_one (ps_ret (pe_and (pe_callB (isiK K) (by rfl) (l_isinstance T) (by decide +kernel) (pa_cons (pv 0) (pa_cons (pe_bltn (v := .ty "int") (u := .type "int") rfl (l_int T) (by decide +kernel) rfl) pa_nil))) (pe_and (pe_cmpR op_eq (pe_callB (isiK K) (by rfl) (l_isinstance T) (by decide +kernel) (pa_cons (pv 0) (pa_cons (pe_bltn (v := .ty "bool") (u := .type "bool") rfl (l_bool T) (by decide +kernel) rfl) pa_nil))) (pe_callB (isiK K) (by rfl) (l_isinstance T) (by decide +kernel) (pa_cons (pv 1) (pa_cons (pe_bltn (v := .ty "bool") (u := .type "bool") rfl (l_bool T) (by decide +kernel) rfl) pa_nil))) (nomark _)) (pe_one (pe_cmpR op_eq (pv 0) (pv 1) (nomark _))))))))), ?_⟩
    cases d with
    | non =>
      obtain rfl := rv.ofNon
      obtain rfl := ru.ofNon
      refine ⟨_, rfl, _, _, _, _, false, rfl, .ty _, .base .non, kit_ty (by decide +kernel), _, rfl, ?_⟩
      refine ⟨_, rfl, rfl, true, vdec _, ?_⟩
      exact ⟨_, rfl, _, rfl, rfl, true, vdec _, _, rfl, _, _, _, _, false, rfl, .ty _, .base .non, kit_ty (by decide +kernel), _, rfl, _, _, _, _, false, rfl, .ty _, .base .non, kit_ty (by decide +kernel), rfl, kdec _ (k H (Ex.refl H))⟩
    | bl b =>
      obtain rfl := rv.ofBl
      obtain rfl := ru.ofBl
      refine ⟨_, rfl, _, _, _, _, false, rfl, .ty _, .base (.bl _), kit_ty (by decide +kernel), _, rfl, ?_⟩
      refine ⟨_, rfl, rfl, false, ndec (fun z => by cases z), _, rfl, _, _, _, _, false, rfl, .ty _, .base (.bl _), kit_ty (by decide +kernel), _, rfl, ?_⟩
      exact ⟨_, rfl, _, _, _, _, true, rfl, .ty _, .base (.bl _), kit_ty (by decide +kernel), _, rfl, _, rfl, _, _, _, _, true, rfl, .ty _, .base (.bl _), kit_ty (by decide +kernel), _, rfl, _, _, _, _, true, rfl, .ty _, .base (.bl _), kit_ty (by decide +kernel), rfl, true, vdec _, _, rfl, _, rfl, rfl, kdec _ (k H (Ex.refl H))⟩
    | int i =>
      obtain rfl := rv.ofInt
      obtain rfl := ru.ofInt
      refine ⟨_, rfl, _, _, _, _, false, rfl, .ty _, .base (.int _), kit_ty (by decide +kernel), _, rfl, ?_⟩
      refine ⟨_, rfl, rfl, false, ndec (fun z => by cases z), _, rfl, _, _, _, _, false, rfl, .ty _, .base (.int _), kit_ty (by decide +kernel), _, rfl, ?_⟩
      exact ⟨_, rfl, _, _, _, _, true, rfl, .ty _, .base (.int _), kit_ty (by decide +kernel), _, rfl, _, rfl, _, _, _, _, false, rfl, .ty _, .base (.int _), kit_ty (by decide +kernel), _, rfl, _, _, _, _, false, rfl, .ty _, .base (.int _), kit_ty (by decide +kernel), rfl, true, vdec _, _, rfl, _, rfl, rfl, kdec _ (k H (Ex.refl H))⟩
    | str z =>
      obtain rfl := rv.ofStr
      obtain rfl := ru.ofStr
      refine ⟨_, rfl, _, _, _, _, false, rfl, .ty _, .base (.str _), kit_ty (by decide +kernel), _, rfl, ?_⟩
      refine ⟨_, rfl, rfl, false, ndec (fun z => by cases z), _, rfl, _, _, _, _, true, rfl, .ty _, .base (.str _), kit_ty (by decide +kernel), _, rfl, ?_⟩
      exact ⟨_, rfl, _, rfl, rfl, true, vdec _, _, rfl, _, _, _, _, true, rfl, .ty _, .base (.str _), kit_ty (by decide +kernel), _, rfl, _, _, _, _, true, rfl, .ty _, .base (.str _), kit_ty (by decide +kernel), rfl, kdec _ (k H (Ex.refl H))⟩
    | tup ds =>
      obtain ⟨p, xs, rfl, hp, rxs⟩ := rv.ofTup
      obtain ⟨q, ys, rfl, hq, rys⟩ := ru.ofTup
      obtain ⟨hln, hds⟩ := hd
      have l1 := rxs.len
      have l2 := rys.len
      refine ⟨_, rfl, _, _, _, _, true, rfl, .ty _, tyT hq, kit_ty (by decide +kernel), _, rfl, ?_⟩
      refine ⟨_, rfl, _, _, _, _, true, rfl, .ty _, tyT hp, kit_ty (by decide +kernel), _, rfl, ?_⟩
      refine ⟨_, rfl, p, xs, rfl, .inr hp, _, rfl, q, ys, rfl, .inr hq, rfl, false, ndecN (by rw [l1, l2]), ?_⟩
      refine ⟨_, rfl, q, ys, rfl, .inr hq, _, rfl, by omega, by omega, fun l hl => lc_it (walk_range (lo := 0) (n := ys.length)) (fun i H' => Ex H H' ∧ H' l = some (.lst [])) ?_ (fun _ _ _ _ => trivial) ?_ ?_⟩
      · exact ⟨ex_new hl, upd_same⟩
      · rintro i x H2 H3 hi ⟨e, hx⟩ ⟨rfl, rfl⟩
        have i1 : i < xs.length := by omega
        have i3 : i < ds.length := by omega
        have z : (0 : Int) + (i : Nat) = ((i : Nat) : Int) := by omega
        refine ⟨rfl, _, rfl, _, rfl, p, xs, _, xs[i], rfl, rfl, e.t.sq hp, at_of (j := i) z (List.getElem?_eq_getElem i1), _, rfl, _, rfl, q, ys, _, ys[i], rfl, rfl, e.t.sq hq, at_of (j := i) z (List.getElem?_eq_getElem hi), ?_⟩
        obtain ⟨d1, g1, g2⟩ := rxs.getV (List.getElem?_eq_getElem i1)
        obtain ⟨d2, g3, g4⟩ := rys.getV (List.getElem?_eq_getElem hi)
        rw [g1] at g3
        cases g3
        refine ⟨d1, _, _, rfl, hds d1 (List.mem_of_getElem? g1), g2.mono e.t, g4.mono e.t, fun H4 e4 => ⟨true, rfl, ?_⟩⟩
        exact ⟨e.trans e4, e4 _ _ hx⟩
      · rintro H2 ⟨e, hx⟩
        refine ⟨by show 0 ≤ sizeLine; decide, fun m hm => ⟨.list [], .list [], .lst (.inl (.inl (ex_new hm _ _ hx))) .nil, .lst (.inl (.inl upd_same)) .nil, by decide, by decide, ?_⟩⟩
        exact k _ (e.trans (ex_new hm))
end
end K20
namespace Pb
open PySem L2 Sl
theorem ex_new2 {H : Hp} {p : Addr} {a b : HO} (h : H p = none) : Ex H (upd (upd H p a) p b) := fun x o e => by
  rw [upd_ne (ne_of_none e h), upd_ne (ne_of_none e h)]
  exact e
theorem val_int {kvs : List (Key × V)} {k : Key} (j : Int) (h : ∀ p ∈ kvs, ∃ i, p.2 = .int i) : ∃ i, (valV kvs k).getD (.int j) = .int i := by
  unfold valV
  cases q : kvs.find? fun kv => decide (kv.1 = k) with
  | none => exact ⟨j, rfl⟩
  | some p =>
    obtain ⟨i, hi⟩ := h p (List.mem_of_find?_eq_some q)
    exact ⟨i, hi⟩
end Pb
namespace K20
open PySem PySem.Spec
open PyProof.Rows L2 Sl Pb
section
variable {P : Program} {w : World} {K : PySem.W.Frag} {mg : Str → Option Value} {base : Heap} {H H1 H2 : Hp} {E E' : XK} {Q : VK} {σ : L2.St} {B : Bool → Hp → Prop} {l : Addr}
def spStr2 (K : PySem.W.Frag) : Sp := fun vs H Q _ => ∃ (p : Addr) (w : Str) (xs : List V), vs = [.ref p] ∧ SqT K H p (.str w :: xs) ∧ ∀ (i : Int) H', Ex H H' → Q (.int i) H'
theorem ok_str2 (T : Tx K mg) : Has P w K mg base 1 (a__law_strength K) p__law_strength (spStr2 K) := by
  refine has_of (f__law_strength T) (z__law_strength T) (b__law_strength T) (fun vs H Q E h => by obtain ⟨_, _, _, rfl, _⟩ := h; rfl) (fun cdv A outer s H vs Q E hr h => ?_)
  obtain ⟨p, w, xs, rfl, hp, k⟩ := h
  refine ⟨_, (pss_one (ps_ret (pe_dget2 (hu_of hr) (pe_disp (pps_cons pe_str pe_int (pps_cons pe_str pe_int pps_nil)) (by rfl) (by rfl) (fun z => by cases z) (by decide)) (pe_ix (ixT K) (pv 0) pe_int (fun _ _ => rfl)) pe_int ⟨by rfl, by rfl, by rfl, by rfl⟩))), ?_⟩
  refine fun d hd => ⟨upd_same, [(.inr "beside", .int 0), (.inr "over", .int 1)], rfl, by decide, d, rfl, .inl ⟨_, .inl upd_same⟩, ?_⟩
  have e1 := ex_new2 (a := .dK []) (b := .dK (mergeK [] [(.inr "beside", .int 0), (.inr "over", .int 1)])) hd
  refine ⟨_, rfl, p, _, _, _, rfl, rfl, e1.t.sq hp, at_of (j := 0) rfl rfl, ?_⟩
  refine ⟨_, .inl ⟨_, .inr w, .inl upd_same, rfl, rfl⟩, ?_⟩
  obtain ⟨i, hi⟩ := val_int (kvs := [((.inr "beside" : Key), V.int 0), (.inr "over", .int 1)]) (k := .inr w) 2 (fun p hp => by
    rcases List.mem_cons.mp hp with rfl | hp
    · exact ⟨0, rfl⟩
    · rw [List.mem_singleton.mp hp]
      exact ⟨1, rfl⟩)
  have e2 : mergeK [] [((.inr "beside" : Key), V.int 0), (.inr "over", .int 1)] = [(.inr "beside", .int 0), (.inr "over", .int 1)] := by decide +kernel
  rw [e2, hi]
  rw [e2] at e1
  exact k i _ e1
def spWr (K : PySem.W.Frag) (n : Nat) : Sp := fun vs H Q _ => ∃ (t : D) (z o : Nat) (v : V) (b : Bool), vs = [v, .bl b] ∧ RD K H t v ∧ Td n z o t ∧ z ≤ 100000 ∧ ∀ s H', Ex H H' → Bz s (40 * z) o → Q (.str s) H'
def spIn (K : PySem.W.Frag) (n : Nat) : Sp := fun vs H Q _ => ∃ (t : D) (z o : Nat) (v : V) (l : Int) (b : Bool), vs = [v, .int l, .bl b] ∧ RD K H t v ∧ Td n z o t ∧ z ≤ 100000 ∧ ∀ s H', Ex H H' → Bz s (40 * z + 2) o → Q (.str s) H'
theorem ok_in (T : Tx K mg) {k n : Nat} (h__law_written : Has P w K mg base (k + 1) (a__law_written K) p__law_written (spWr K n)) : Has P w K mg base (k + 2) (a__law_in K) p__law_in (spIn K n) := by
  refine has_of (f__law_in T) (z__law_in T) (b__law_in T) (fun vs H Q E h => by obtain ⟨_, _, _, _, _, _, rfl, _⟩ := h; rfl) (fun cdv A outer s H vs Q E hr h => ?_)
  obtain ⟨t, z, o, v, l, b, rfl, rv, td, hz, k⟩ := h
  have h__law_strength := ok_str2 (P := P) (w := w) (base := base) T
  refine ⟨_, (pss_cons (ps_set (i := 3) (z__law_in T).nd rfl (Or.inl rfl) (pcall h__law_written (hr.mono (by omega)) (g__law_written T) (pa_cons (pv 0) (pa_cons (pv 2) pa_nil))))
  (pss_one (ps_ret (pe_ifExp (PW.pt (pw_or (pt_cmpR oLtI (pcall h__law_strength (hr.mono (by omega)) (g__law_strength T) (pa_cons (pv 0) pa_nil)) (pv 1) (nomark _)) (pw_or1 (pt_val (pv 2))))) (pe_op oAddS (pe_op oAddS pe_str (pv 3)) pe_str) (pv 3))))), ?_⟩
  refine ⟨_, rfl, _, rfl, t, z, o, v, b, rfl, rv, td, hz, fun s H1 e1 b1 => ?_⟩
  obtain ⟨p, w, xs, rfl, hp⟩ := td_word td (rv.mono e1.t)
  have fin : ∀ H2, Ex H1 H2 → tOp rAddS (tOp rAddS (tC (.str "(")) (tVar 3)) (tC (.str ")")) [some (.ref p), some (.int l), some (.bl b), some (.str s)] H2 Q := fun H2 e2 =>
    ⟨_, rfl, _, _, rfl, rfl, szB (bl (z := "(") 0) b1 (by omega), _, _, rfl, rfl, szB ((bl (z := "(") 0).app b1) (bl (z := ")") 0) (by omega), k _ _ (e1.trans e2) ((((bl (z := "(") 0).app b1).app (bl (z := ")") 0)).mono (by omega) (by omega))⟩
  refine ⟨_, rfl, p, w, xs, rfl, hp, fun i H2 e2 => ⟨_, rfl, _, _, rfl, rfl, _, rfl, ifBH (fun _ => ?_) (fun _ => ?_)⟩⟩
  · exact fin H2 e2
  · refine ⟨_, rfl, _, rfl, ifBH (fun _ => ?_) (fun _ => ?_)⟩
    · exact fin H2 e2
    · exact ⟨_, rfl, k _ _ (e1.trans e2) (b1.mono (by omega) (by omega))⟩
theorem ok_wr (T : Tx K mg) : ∀ n : Nat, Has P w K mg base (2 * n + 2) (a__law_written K) p__law_written (spWr K n)
  | 0 => by
    obtain ⟨fd, F⟩ := f__law_written T
    have no : ∀ {vs H Q E}, spWr K 0 vs H Q E → False := fun ⟨t, z, o, v, b, _, _, h, _⟩ => by cases h
    exact ⟨⟨fd, ⟨fun vs H Q E h => (no h).elim, fun A outer s H args us vs Q E _ _ _ _ h => (no h).elim⟩, F.bindsN (b__law_written T)⟩, F.kp⟩
  | n + 1 => by
    have h__law_written := ok_wr T n
    have h__law_in := ok_in T (k := 2 * n + 1) h__law_written
    refine has_of (f__law_written T) (z__law_written T) (b__law_written T) (fun vs H Q E h => by obtain ⟨_, _, _, _, _, rfl, _⟩ := h; rfl) (fun cdv A outer s H vs Q E hr h => ?_)
    obtain ⟨t, z, o, v, b, rfl, rv, td, hz, k⟩ := h
    refine ⟨_, (pss_cons (ps_set (i := 2) (z__law_written T).nd rfl (Or.inl rfl) (pe_ix (ixT K) (pv 0) pe_int (fun _ _ => rfl)))
  (pss_cons (ps_if (pt_cmpR op_eq (pv 2) pe_str (nomark _)) (pss_one (ps_ret (pe_ix (ixT K) (pv 0) pe_int (fun _ _ => rfl)))) pss_nil)
  (pss_cons (ps_if (pt_cmpR op_eq (pv 2) pe_str (nomark _)) (pss_one (ps_ret (pe_op oAddS (pe_ix ix_str pe_str (pe_ix (ixT K) (pv 0) pe_int (fun _ _ => rfl)) (fun _ _ => rfl)) (bmK K PySem.F.plainAttrs_str PySem.F.slot_str_join PySem.F.type_str_join mt_join pe_str (pa_cons (pe_lc (own := [("at", 3), ("own", 4)]) rfl (z__law_written T).nd (tupW K (pe_ix (ixT K) (pv 0) pe_int (fun _ _ => rfl))) (blkOk_by (N := n__law_written) (sc := defScope s__law_written) (by decide +kernel)) (fun _ _ _ _ _ => by exact (tupK K (n := 2) (pgs_cons (pg_name (i := 3) (z__law_written T).nd rfl (Or.inl rfl)) (pgs_cons (pg_name (i := 4) (z__law_written T).nd rfl (Or.inl rfl)) pgs_nil)))) (fun _ _ _ _ _ => by exact pts_nil) (fun _ _ _ _ _ => by exact (pe_op oAddS (pe_op oAddS (pe_op oAddS (pe_op oAddS pe_str (pe_callTy call_str_int (by rfl) (l_str T) (by decide +kernel) (pa_cons (pv 3) pa_nil))) pe_str) (pcall h__law_written (hr.mono (by omega)) (g__law_written T) (pa_cons (pv 4) (pa_cons (pv 1) pa_nil)))) pe_str))) pa_nil))))) pss_nil)
  (pss_cons (ps_if (pt_cmpR op_eq (pv 2) pe_str (nomark _)) (pss_one (ps_ret (pe_op oAddS (pe_op oAddS (pcall h__law_in (hr.mono (by omega)) (g__law_in T) (pa_cons (pe_ix (ixT K) (pv 0) pe_int (fun _ _ => rfl)) (pa_cons pe_int (pa_cons (pv 1) pa_nil)))) pe_str) (pcall h__law_in (hr.mono (by omega)) (g__law_in T) (pa_cons (pe_ix (ixT K) (pv 0) pe_int (fun _ _ => rfl)) (pa_cons pe_int (pa_cons (pv 1) pa_nil))))))) pss_nil)
  (pss_cons (ps_if (pt_cmpR op_eq (pv 2) pe_str (nomark _)) (pss_one (ps_ret (pe_op oAddS (pe_op oAddS (pe_op oAddS (pcall h__law_in (hr.mono (by omega)) (g__law_in T) (pa_cons (pe_ix (ixT K) (pv 0) pe_int (fun _ _ => rfl)) (pa_cons pe_int (pa_cons (pv 1) pa_nil)))) pe_str) (pe_callTy call_str_int (by rfl) (l_str T) (by decide +kernel) (pa_cons (pe_ix (ixT K) (pv 0) pe_int (fun _ _ => rfl)) pa_nil))) (pcall h__law_in (hr.mono (by omega)) (g__law_in T) (pa_cons (pe_ix (ixT K) (pv 0) pe_int (fun _ _ => rfl)) (pa_cons pe_int (pa_cons (pv 1) pa_nil))))))) pss_nil)
  (pss_cons (ps_set (i := 4) (z__law_written T).nd rfl (Or.inl rfl) (pcall h__law_in (hr.mono (by omega)) (g__law_in T) (pa_cons (pe_ix (ixT K) (pv 0) (pe_un un_neg pe_int) (fun _ _ => rfl)) (pa_cons pe_int (pa_cons (pv 1) pa_nil)))))
  (pss_cons (ps_if (pt_cmpR (inK K) (pv 2) (pe_tup (pa_cons pe_str (pa_cons pe_str pa_nil))) rfl) (pss_one (ps_ret (pe_op oAddS (pv 4) (pe_ifExp (pt_cmpR op_eq (pv 2) pe_str (nomark _)) pe_str (pe_op oAddS pe_str (pe_callTy call_str_int (by rfl) (l_str T) (by decide +kernel) (pa_cons (pe_ix (ixT K) (pv 0) pe_int (fun _ _ => rfl)) pa_nil))))))) pss_nil)
  (pss_cons (ps_if (pt_cmpR op_eq (pv 2) pe_str (nomark _)) (pss_one (ps_ret (pe_op oAddS (pe_op oAddS (pe_op oAddS (pv 4) pe_str) (bmK K PySem.F.plainAttrs_str PySem.F.slot_str_join PySem.F.type_str_join mt_join pe_str (pa_cons (pe_lc (own := [("one", 5)]) rfl (z__law_written T).nd (tupW K (pe_ix (ixT K) (pv 0) pe_int (fun _ _ => rfl))) (blkOk_by (N := n__law_written) (sc := defScope s__law_written) (by decide +kernel)) (fun _ _ _ _ _ => by exact (pg_name (i := 5) (z__law_written T).nd rfl (Or.inl rfl))) (fun _ _ _ _ _ => by exact pts_nil) (fun _ _ _ _ _ => by exact (pe_callTy call_str_int (by rfl) (l_str T) (by decide +kernel) (pa_cons (pv 5) pa_nil)))) pa_nil))) pe_str))) pss_nil)
  (pss_one (ps_ret (pe_op oAddS (pe_op oAddS (pe_op oAddS (pv 4) pe_str) (bmK K PySem.F.plainAttrs_str PySem.F.slot_str_join PySem.F.type_str_join mt_join pe_str (pa_cons (pe_lc (own := [("one", 5)]) rfl (z__law_written T).nd (tupW K (pe_slice (slT K) (pv 0) (po_some pe_int) (po_some (pe_un un_neg pe_int)))) (blkOk_by (N := n__law_written) (sc := defScope s__law_written) (by decide +kernel)) (fun _ _ _ _ _ => by exact (pg_name (i := 5) (z__law_written T).nd rfl (Or.inl rfl))) (fun _ _ _ _ _ => by exact pts_nil) (fun _ _ _ _ _ => by exact (pe_callTy call_str_int (by rfl) (l_str T) (by decide +kernel) (pa_cons (pv 5) pa_nil)))) pa_nil))) pe_str))))))))))), ?_⟩
    cases td with
    | @name _ c hc =>
      obtain ⟨p, x, y, rfl, hp, rx, ry⟩ := slots2 rv
      obtain rfl := rx.ofStr
      obtain rfl := ry.ofStr
      refine ⟨_, rfl, p, _, _, _, rfl, rfl, hp, rfl, ?_⟩
      refine ⟨_, rfl, rfl, true, vdec _, ?_⟩
      refine ⟨_, rfl, p, _, _, _, rfl, rfl, hp, rfl, k _ _ (Ex.refl _) ?_⟩
      refine (Bz.sg1 ?_).mono (by omega) (by omega)
      have := of_decide_eq_true hc
      unfold isOp
      refine decide_eq_false ?_
      simp only [List.mem_cons, List.not_mem_nil, or_false]
      omega
    | @letter _ kk ds zs os h1 h2 h3 hk hh =>
      obtain ⟨p, x, y, u, rfl, hp, rx, ry, ru⟩ := slots3 rv
      obtain rfl := rx.ofStr
      obtain rfl := ry.ofInt
      obtain ⟨pu, us, rfl, hpu, rus⟩ := ru.ofTup
      have hul := rus.len
      rw [List.length_map] at hul
      refine ⟨_, rfl, p, _, _, _, rfl, rfl, hp, rfl, ?_⟩
      refine ⟨_, rfl, rfl, false, ndec (by decide +kernel), ?_⟩
      refine ⟨_, rfl, rfl, true, vdec _, ?_⟩
      refine ⟨_, rfl, p, _, _, _, rfl, rfl, hp, rfl, _, _, _, rfl, rfl, by decide +kernel, lt_at kk hk, rfl, ?_⟩
      refine ⟨_, rfl, p, _, _, _, rfl, rfl, hp, rfl, pu, rfl, ⟨us, hpu⟩, fun l hn => lc_it walk_tup (fun i H' => Ex H H' ∧ ∃ ys : List Str, H' l = some (.lst (ys.map V.str)) ∧ ys.length = i ∧ ∀ (j : Nat) (y : Str) (a b : Nat), ys[j]? = some y → (zs.map fun z => 13 + 40 * z)[j]? = some a → (os.map fun o => 1 + o)[j]? = some b → Bz y a b) ?_ (fun i H' _ h => h.1.t.sq hpu) ?_ ?_⟩
      · exact ⟨ex_new hn, [], upd_same, rfl, fun j y a b e => by simp at e⟩
      · rintro i x H2 H3 hi ⟨e2, ys, hys, hyl, hyb⟩ ⟨rfl, hx⟩
        have hid : i < ds.length := by omega
        obtain ⟨d0, g1, g2⟩ := rus.getV hx
        rw [List.getElem?_map, List.getElem?_eq_getElem hid] at g1
        cases g1
        obtain ⟨q, xa, xt, rfl, hq, ra, rt⟩ := slots2 (g2.mono e2.t)
        obtain rfl := ra.ofInt
        have hzi : i < zs.length := by omega
        have hoi : i < os.length := by omega
        have td1 := hh i ds[i] zs[i] os[i] (List.getElem?_eq_getElem hid) (List.getElem?_eq_getElem hzi) (List.getElem?_eq_getElem hoi)
        have hz1 : zs[i] ≤ zs.sum := le_sum (List.getElem_mem hzi)
        have bn := Bz.num (h3 _ (List.getElem_mem hid))
        refine ⟨q, _, rfl, hq, rfl, _, _, rfl, _, _, rfl, rfl, rfl, ?_⟩
        refine ⟨_, rfl, _, rfl, num_log (h3 _ (List.getElem_mem hid)), _, _, rfl, rfl, szB (bl (z := "{") 1) bn (by omega), _, _, rfl, rfl, szB ((bl (z := "{") 1).app bn) (bl (z := ":") 0) (by omega), ?_⟩
        refine ⟨_, rfl, _, rfl, _, _, _, _, b, rfl, rt, td1, by omega, fun s H4 e4 b4 => ?_⟩
        have bs := (((bl (z := "{") 1).app bn).app (bl (z := ":") 0)).app b4
        refine ⟨_, _, rfl, rfl, szB (((bl (z := "{") 1).app bn).app (bl (z := ":") 0)) b4 (by omega), _, _, rfl, rfl, szB bs (bl (z := "}") 0) (by omega), ?_⟩
        have bf := (bs.app (bl (z := "}") 0)).mono (show 1 + 10 + 1 + 40 * zs[i] + 1 ≤ 13 + 40 * zs[i] by omega) (show 1 + 0 + 0 + os[i] + 0 ≤ 1 + os[i] by omega)
        refine ⟨_, e4 _ _ hys, ?_, ?_, ys ++ [((("{" : Str) ++ Str.ofString (toString ((ds[i].1 : Nat) : Int))) ++ (":" : Str)) ++ s ++ ("}" : Str)], ?_, by rw [List.length_append, hyl] <;> rfl, ?_⟩
        · rw [List.length_map, hyl]
          exact Nat.lt_of_le_of_lt (show i ≤ 100000 by omega) (by decide)
        · exact fun b o q => by
            by_cases hbl : b = l
            · subst hbl
              rw [hn] at q; cases q
            · rw [upd_ne hbl]; exact e4 _ _ (e2 b o q)
        · rw [upd_same, List.map_append]
          rfl
        · intro j y a b m1 m2 m3
          by_cases hj : j < ys.length
          · rw [List.getElem?_append_left hj] at m1
            exact hyb j y a b m1 m2 m3
          · have hl : j < (ys ++ [_]).length := (List.getElem?_eq_some_iff.mp m1).1
            rw [List.length_append] at hl
            have hl : j < ys.length + 1 := hl
            have : j = i := by omega
            subst this
            rw [List.getElem?_append_right (by omega), show j - ys.length = 0 by omega] at m1
            rw [List.getElem?_map, List.getElem?_eq_getElem hzi] at m2
            rw [List.getElem?_map, List.getElem?_eq_getElem hoi] at m3
            cases m1
            cases m2
            cases m3
            exact bf
      · rintro H2 ⟨e2, ys, hys, hyl, hyb⟩
        have hyl2 : ys.length = ds.length := by omega
        have bj := Bz.tjoin B0 ys (zs.map fun z => 13 + 40 * z) (os.map fun o => 1 + o) (by rw [List.length_map]; omega) (by rw [List.length_map]; omega) hyb
        have s1 : ∀ l : List Nat, (l.map fun z => 13 + 40 * z).sum = 13 * l.length + 40 * l.sum := fun l => by
          induction l with
          | nil => rfl
          | cons a l ih => simp only [List.map_cons, List.sum_cons, List.length_cons, ih]; omega
        have s2 : ∀ l : List Nat, (l.map fun o => 1 + o).sum = l.length + l.sum := fun l => by
          induction l with
          | nil => rfl
          | cons a l ih => simp only [List.map_cons, List.sum_cons, List.length_cons, ih]; omega
        rw [s1, s2] at bj
        have sl := sum_le ys (zs.map fun z => 13 + 40 * z) (by rw [List.length_map]; omega) fun i y a e1 e2 => by
          have hoi : i < os.length := by
            have := (List.getElem?_eq_some_iff.mp e1).1
            omega
          exact (hyb i y a (1 + os[i]) e1 e2 (by rw [List.getElem?_map, List.getElem?_eq_getElem hoi] <;> rfl)).1
        rw [s1] at sl
        have b1 : Bz ⟨#[97 + kk]⟩ 1 0 := Bz.sg1 (by
          unfold isOp
          refine decide_eq_false ?_
          simp only [List.mem_cons, List.not_mem_nil, or_false]
          omega)
        refine ⟨_, l, ys, rfl, rfl, .inl (SqL.of hys), ?_, _, _, rfl, rfl, szB b1 bj (by omega), k _ _ e2 ((b1.app bj).mono ?_ ?_)⟩
        · show _ + ys.length * 0 ≤ _
          omega
        · omega
        · omega
    | @beside _ z1 o1 z2 o2 t1 t2 ta tb =>
      obtain ⟨p, x, y, u, rfl, hp, rx, ry, ru⟩ := slots3 rv
      obtain rfl := rx.ofStr
      refine ⟨_, rfl, p, _, _, _, rfl, rfl, hp, rfl, ?_⟩
      refine ⟨_, rfl, rfl, false, ndec (by decide +kernel), ?_⟩
      refine ⟨_, rfl, rfl, false, ndec (by decide +kernel), ?_⟩
      refine ⟨_, rfl, rfl, true, vdec _, ?_⟩
      refine ⟨_, rfl, p, _, _, _, rfl, rfl, hp, rfl, _, rfl, _, _, _, _, _, b, rfl, ry, ta, by omega, fun s1 H1 e1 b1 => ?_⟩
      refine ⟨_, _, rfl, rfl, szB b1 (bl (z := "+") 1) (by omega), ?_⟩
      refine ⟨_, rfl, p, _, _, _, rfl, rfl, e1.t.sq hp, rfl, _, rfl, _, _, _, _, _, b, rfl, ru.mono e1.t, tb, by omega, fun s2 H2 e2 b2 => ?_⟩
      exact ⟨_, _, rfl, rfl, szB (b1.app (bl (z := "+") 1)) b2 (by omega), k _ _ (e1.trans e2) (((b1.app (bl (z := "+") 1)).app b2).mono (by omega) (by omega))⟩
    | @over _ z1 o1 z2 o2 vv t1 t2 hv ta tb =>
      obtain ⟨p, x, y, u1, u2, rfl, hp, rx, ry, r1, r2⟩ := slots4 rv
      obtain rfl := rx.ofStr
      obtain rfl := ry.ofInt
      have bn := Bz.num hv
      refine ⟨_, rfl, p, _, _, _, rfl, rfl, hp, rfl, ?_⟩
      refine ⟨_, rfl, rfl, false, ndec (by decide +kernel), ?_⟩
      refine ⟨_, rfl, rfl, false, ndec (by decide +kernel), ?_⟩
      refine ⟨_, rfl, rfl, false, ndec (by decide +kernel), ?_⟩
      refine ⟨_, rfl, rfl, true, vdec _, ?_⟩
      refine ⟨_, rfl, p, _, _, _, rfl, rfl, hp, rfl, _, rfl, _, _, _, _, _, b, rfl, r1, ta, by omega, fun s1 H1 e1 b1 => ?_⟩
      have b2 := b1.app (bl (z := "/") 1)
      refine ⟨_, _, rfl, rfl, szB b1 (bl (z := "/") 1) (by omega), ?_⟩
      refine ⟨_, rfl, p, _, _, _, rfl, rfl, e1.t.sq hp, rfl, _, rfl, num_log hv, _, _, rfl, rfl, szB b2 bn (by omega), ?_⟩
      refine ⟨_, rfl, p, _, _, _, rfl, rfl, e1.t.sq hp, rfl, _, rfl, _, _, _, _, _, b, rfl, r2.mono e1.t, tb, by omega, fun s2 H2 e2 b3 => ?_⟩
      exact ⟨_, _, rfl, rfl, szB (b2.app bn) b3 (by omega), k _ _ (e1.trans e2) (((b2.app bn).app b3).mono (by omega) (by omega))⟩
    | @glue _ z1 o1 v1 v2 t1 hv hu ta =>
      obtain ⟨p, x, y, u1, u2, rfl, hp, rx, ry, r1, r2⟩ := slots4 rv
      obtain rfl := rx.ofStr
      obtain rfl := ry.ofInt
      obtain rfl := r1.ofInt
      refine ⟨_, rfl, p, _, _, _, rfl, rfl, hp, rfl, ?_⟩
      refine ⟨_, rfl, rfl, false, ndec (by decide +kernel), ?_⟩
      refine ⟨_, rfl, rfl, false, ndec (by decide +kernel), ?_⟩
      refine ⟨_, rfl, rfl, false, ndec (by decide +kernel), ?_⟩
      refine ⟨_, rfl, rfl, false, ndec (by decide +kernel), ?_⟩
      refine ⟨_, rfl, _, rfl, p, _, _, _, rfl, rfl, hp, rfl, _, rfl, _, _, _, _, _, b, rfl, r2, ta, by omega, fun s1 H1 e1 b1 => ?_⟩
      refine ⟨_, rfl, two_sz _ _, fun p1 hp1 => ⟨p1, _, rfl, .inr (.inl (.inl upd_same)), rfl, rfl, false, congrArg V.bl (by decide +kernel), ?_⟩⟩
      have e1 := e1.trans (ex_new (o := .tup [.str "round", .str "power"]) hp1)
      refine ⟨_, rfl, rfl, false, ndec (by decide +kernel), ?_⟩
      have b2 := b1.app (bl (z := "[") 1)
      refine ⟨_, rfl, _, _, rfl, rfl, szB b1 (bl (z := "[") 1) (by omega), rfl, ?_⟩
      have hvs : ∀ v ∈ [v1, v2], v ≤ 1000000000 := fun v hv => by
        rcases List.mem_cons.mp hv with rfl | hv
        · assumption
        · rw [List.mem_singleton.mp hv]; assumption
      refine lcNums 5 [v1, v2] ?_ hvs (by show 2 ≤ 1000000; decide) (fun R kk => ?_) (fun l H2 e2 hl => ?_)
      · show 5 < 6
        decide
      · exact ⟨_, rfl, _, rfl, _, rfl, _, rfl, p, _, rfl, e1.t.sq hp, fun z => absurd z.1 (by show ¬ (1 = 0); decide), fun _ q hq => kk q _ (ex_new hq) (.inl (.inl upd_same))⟩
      · obtain ⟨b3, s3⟩ := bz_nums (bl (z := "=") 0) hvs
        have e4 : 11 * [v1, v2].length = 22 := rfl
        rw [e4] at b3 s3
        exact ⟨_, l, _, rfl, rfl, .inl (SqL.of hl), Nat.le_trans s3 (by decide), _, _, rfl, rfl, szB b2 b3 (by omega), _, _, rfl, rfl, szB (b2.app b3) (bl (z := "]") 0) (by omega), k _ _ (e1.trans e2) (((b2.app b3).app (bl (z := "]") 0)).mono (by omega) (by omega))⟩
    | @hide _ z1 o1 v1 t1 hv ta =>
      obtain ⟨p, x, y, u1, rfl, hp, rx, ry, r1⟩ := slots3 rv
      obtain rfl := rx.ofStr
      obtain rfl := ry.ofInt
      refine ⟨_, rfl, p, _, _, _, rfl, rfl, hp, rfl, ?_⟩
      refine ⟨_, rfl, rfl, false, ndec (by decide +kernel), ?_⟩
      refine ⟨_, rfl, rfl, false, ndec (by decide +kernel), ?_⟩
      refine ⟨_, rfl, rfl, false, ndec (by decide +kernel), ?_⟩
      refine ⟨_, rfl, rfl, false, ndec (by decide +kernel), ?_⟩
      refine ⟨_, rfl, _, rfl, p, _, _, _, rfl, rfl, hp, rfl, _, rfl, _, _, _, _, _, b, rfl, r1, ta, by omega, fun s1 H1 e1 b1 => ?_⟩
      refine ⟨_, rfl, two_sz _ _, fun p1 hp1 => ⟨p1, _, rfl, .inr (.inl (.inl upd_same)), rfl, rfl, false, congrArg V.bl (by decide +kernel), ?_⟩⟩
      have e1 := e1.trans (ex_new (o := .tup [.str "round", .str "power"]) hp1)
      refine ⟨_, rfl, rfl, false, ndec (by decide +kernel), ?_⟩
      have b2 := b1.app (bl (z := "[") 1)
      refine ⟨_, rfl, _, _, rfl, rfl, szB b1 (bl (z := "[") 1) (by omega), rfl, ?_⟩
      have hvs : ∀ v ∈ [v1], v ≤ 1000000000 := fun v hv => by rw [List.mem_singleton.mp hv]; assumption
      refine lcNums 5 [v1] ?_ hvs (by show 1 ≤ 1000000; decide) (fun R kk => ?_) (fun l H2 e2 hl => ?_)
      · show 5 < 6
        decide
      · exact ⟨_, rfl, _, rfl, _, rfl, _, rfl, p, _, rfl, e1.t.sq hp, fun z => absurd z.1 (by show ¬ (1 = 0); decide), fun _ q hq => kk q _ (ex_new hq) (.inl (.inl upd_same))⟩
      · obtain ⟨b3, s3⟩ := bz_nums (bl (z := "=") 0) hvs
        have e4 : 11 * [v1].length = 11 := rfl
        rw [e4] at b3 s3
        exact ⟨_, l, _, rfl, rfl, .inl (SqL.of hl), Nat.le_trans s3 (by decide), _, _, rfl, rfl, szB b2 b3 (by omega), _, _, rfl, rfl, szB (b2.app b3) (bl (z := "]") 0) (by omega), k _ _ (e1.trans e2) (((b2.app b3).app (bl (z := "]") 0)).mono (by omega) (by omega))⟩
    | @power _ z1 o1 v1 t1 hv ta =>
      obtain ⟨p, x, y, u1, rfl, hp, rx, ry, r1⟩ := slots3 rv
      obtain rfl := rx.ofStr
      obtain rfl := ry.ofInt
      have bn := Bz.num hv
      refine ⟨_, rfl, p, _, _, _, rfl, rfl, hp, rfl, ?_⟩
      refine ⟨_, rfl, rfl, false, ndec (by decide +kernel), ?_⟩
      refine ⟨_, rfl, rfl, false, ndec (by decide +kernel), ?_⟩
      refine ⟨_, rfl, rfl, false, ndec (by decide +kernel), ?_⟩
      refine ⟨_, rfl, rfl, false, ndec (by decide +kernel), ?_⟩
      refine ⟨_, rfl, _, rfl, p, _, _, _, rfl, rfl, hp, rfl, _, rfl, _, _, _, _, _, b, rfl, r1, ta, by omega, fun s1 H1 e1 b1 => ?_⟩
      refine ⟨_, rfl, two_sz _ _, fun p1 hp1 => ⟨p1, _, rfl, .inr (.inl (.inl upd_same)), rfl, rfl, true, congrArg V.bl (by decide +kernel), ?_⟩⟩
      have e1 := e1.trans (ex_new (o := .tup [.str "round", .str "power"]) hp1)
      have b2 := (bl (z := "^") 1).app bn
      exact ⟨_, rfl, _, rfl, rfl, false, ndec (by decide +kernel), _, rfl, p, _, _, _, rfl, rfl, e1.t.sq hp, rfl, _, rfl, num_log hv, _, _, rfl, rfl, szB (bl (z := "^") 1) bn (by omega), _, _, rfl, rfl, szB b1 b2 (by omega), k _ _ e1 ((b1.app b2).mono (by omega) (by omega))⟩
    | @round _ z1 o1 t1 ta =>
      obtain ⟨p, x, u1, rfl, hp, rx, r1⟩ := slots2 rv
      obtain rfl := rx.ofStr
      refine ⟨_, rfl, p, _, _, _, rfl, rfl, hp, rfl, ?_⟩
      refine ⟨_, rfl, rfl, false, ndec (by decide +kernel), ?_⟩
      refine ⟨_, rfl, rfl, false, ndec (by decide +kernel), ?_⟩
      refine ⟨_, rfl, rfl, false, ndec (by decide +kernel), ?_⟩
      refine ⟨_, rfl, rfl, false, ndec (by decide +kernel), ?_⟩
      refine ⟨_, rfl, _, rfl, p, _, _, _, rfl, rfl, hp, rfl, _, rfl, _, _, _, _, _, b, rfl, r1, ta, by omega, fun s1 H1 e1 b1 => ?_⟩
      refine ⟨_, rfl, two_sz _ _, fun p1 hp1 => ⟨p1, _, rfl, .inr (.inl (.inl upd_same)), rfl, rfl, true, congrArg V.bl (by decide +kernel), ?_⟩⟩
      have e1 := e1.trans (ex_new (o := .tup [.str "round", .str "power"]) hp1)
      exact ⟨_, rfl, _, rfl, rfl, true, vdec _, _, _, rfl, rfl, szB b1 (bl (z := "~") 1) (by omega), k _ _ e1 ((b1.app (bl (z := "~") 1)).mono (by omega) (by omega))⟩
    | @order _ z1 o1 t1 vs hv ta =>
      obtain ⟨p, x, y, u1, rfl, hp, rx, ry, r1⟩ := slots3 rv
      obtain rfl := rx.ofStr
      obtain ⟨py, ys, rfl, hpy, rys⟩ := ry.ofTup
      obtain rfl := nat_rds rys
      refine ⟨_, rfl, p, _, _, _, rfl, rfl, hp, rfl, ?_⟩
      refine ⟨_, rfl, rfl, false, ndec (by decide +kernel), ?_⟩
      refine ⟨_, rfl, rfl, false, ndec (by decide +kernel), ?_⟩
      refine ⟨_, rfl, rfl, false, ndec (by decide +kernel), ?_⟩
      refine ⟨_, rfl, rfl, false, ndec (by decide +kernel), ?_⟩
      refine ⟨_, rfl, _, rfl, p, _, _, _, rfl, rfl, hp, rfl, _, rfl, _, _, _, _, _, b, rfl, r1, ta, by omega, fun s1 H1 e1 b1 => ?_⟩
      refine ⟨_, rfl, two_sz _ _, fun p1 hp1 => ⟨p1, _, rfl, .inr (.inl (.inl upd_same)), rfl, rfl, false, congrArg V.bl (by decide +kernel), ?_⟩⟩
      have e1 := e1.trans (ex_new (o := .tup [.str "round", .str "power"]) hp1)
      refine ⟨_, rfl, rfl, true, vdec _, ?_⟩
      have b2 := b1.app (bl (z := "<") 1)
      refine ⟨_, rfl, _, _, rfl, rfl, szB b1 (bl (z := "<") 1) (by omega), rfl, ?_⟩
      refine lcNums 5 vs ?_ hv (by omega) (fun R kk => ?_) (fun l H2 e2 hl => ?_)
      · show 5 < 6
        decide
      · exact ⟨_, rfl, p, _, _, _, rfl, rfl, e1.t.sq hp, rfl, kk _ _ (Ex.refl _) (e1.t.sq hpy)⟩
      · obtain ⟨b3, s3⟩ := bz_nums (bl (z := ",") 0) hv
        exact ⟨_, l, _, rfl, rfl, .inl (SqL.of hl), by omega, _, _, rfl, rfl, szB b2 b3 (by omega), _, _, rfl, rfl, szB (b2.app b3) (bl (z := ">") 0) (by omega), k _ _ (e1.trans e2) (((b2.app b3).app (bl (z := ">") 0)).mono (by omega) (by omega))⟩
end
end K20
namespace Sl
open PySem PySem.Spec
open PyProof.Rows L2
theorem handS {ts : TS} {D : Ends} {σ : L2.St} {H : Hp} (G : L2.St → Hp → Prop) (h1 : ∀ D' : Ends, (∀ σ' H', G σ' H' → D'.nx σ' H') → ts D' σ H) (h2 : ∀ σ' H', G σ' H' → D.nx σ' H') : ts D σ H := h1 D h2
theorem tex_rw {K : PySem.W.Frag} {ns : List Int} {r c : Addr} {H H' : Hp} (q : Rw K ns r c H) (e : ExB [r] H H') : TEx H H' := by
  obtain ⟨_, i, x, g, hr, _⟩ := q
  intro a xs h
  rcases h with h | ⟨o, h⟩
  · exact .inl (e a _ (by simpa using ne_of h hr (by intro z; cases z)) h)
  · exact .inr ⟨o, e a _ (by simpa using ne_of h hr (by intro z; cases z)) h⟩
theorem Rw.own {K : PySem.W.Frag} {ns : List Int} {r c lq : Addr} {H5 H7 : Hp} {o : HO} (q7 : Rw K ns r c H7) (q5 : Rw K ns r c H5) (hlq : H5 lq = none) (e : ExB [r] H5 H7) : Rw K ns r c (L2.upd H7 lq o) := by
  obtain ⟨_, i, x, g, hr, hi⟩ := q7
  obtain ⟨sc, i5, x5, g5, hr5, hi5⟩ := q5
  have nr : r ≠ lq := ne_of_none hr5 hlq
  refine ⟨?_, i, x, g, by rw [upd_ne nr]; exact hr, hi⟩
  rcases sc with ⟨hrc, (h | ⟨ob, h⟩) | h⟩ | h
  · exact .inl ⟨hrc, .inl (.inl (by rw [upd_ne (ne_of_none h hlq)]; exact e _ _ (by simpa using hrc.symm) h))⟩
  · exact .inl ⟨hrc, .inl (.inr ⟨ob, by rw [upd_ne (ne_of_none h hlq)]; exact e _ _ (by simpa using hrc.symm) h⟩)⟩
  · exact .inl ⟨hrc, .inr h⟩
  · exact .inr h
theorem rw_there {K : PySem.W.Frag} {ns : List Int} {r c : Addr} {H : Hp} (h : Rw K ns r c H) : ∃ o, H r = some o := by
  obtain ⟨_, i, x, g, h, _⟩ := h
  exact ⟨_, h⟩
end Sl
namespace Pb
open PySem L2 Sl
/-- bounds of a drawn tree: k leaves, d deep -/
theorem strOk1 {a : Nat} (h : isCp a = true) : PyData.strOk ⟨#[a]⟩ = true := by
  have := of_decide_eq_true h
  unfold PyData.strOk
  simp
  omega
def Nb (k d n z o : Nat) : Prop := if d = 0 then n ≤ 3 ∧ z ≤ 9 ∧ o ≤ 2 else n ≤ 3 * k + 3 ∧ z + 9 ≤ 28 * k ∧ o + 3 ≤ 8 * k
end Pb
namespace K20
open PySem PySem.Spec
open PyProof.Rows L2 Sl Pb
section
variable {P : Program} {w : World} {K : PySem.W.Frag} {mg : Str → Option Value} {base : Heap} {H H1 H2 : Hp} {E E' : XK} {Q : VK} {σ : L2.St} {B : Bool → Hp → Prop} {l : Addr}
/-- a sign is picked of a list that was just made -/
theorem pick_sg {ns : List Int} {r c l : Addr} {xs : List V} (hrw : Rw K ns r c H) (hl : H l = none) (h0 : 0 < xs.length) (h1 : xs.length < 1000000)
    (k : ∀ v H', v ∈ xs → ExB [r] H H' → Rw K ns r c H' → Q v H') : spPick K [.ref r, .ref l] (upd H l (.lst xs)) Q E := by
  obtain ⟨o, ho⟩ := rw_there hrw
  exact ⟨r, c, l, ns, xs, rfl, (ne_of_none ho hl).symm, .inl (.inl upd_same), h0, h1, hrw.ex (ex_new hl), fun v H' hv e q => k v H' hv ((ex_new hl).b.trans e) q⟩
def spLN (K : PySem.W.Frag) (m : Nat) : Sp := fun vs H Q _ => ∃ (r c l : Addr) (ns : List Int) (nm : List Nat) (k d : Nat), vs = [.ref r, .int (k : Int), .ref l, .int (d : Int)] ∧ 1 ≤ k ∧ k ≤ 3 ∧ d ≤ 1 ∧ (d = 0 → k = 1) ∧ k + d < m ∧ l ≠ r ∧ SqL K H l (nmV nm) ∧
  (∀ c ∈ nm, isCp c = true) ∧ nm.length ≤ 2 ∧ Rw K ns r c H ∧ ∀ t n z o v H', Td n z o t → Nb k d n z o → RD K H' t v → ExB [r] H H' → Rw K ns r c H' → Q v H'
theorem ne_names (nm : List Nat) (hc : ∀ c ∈ nm, isCp c = true) (hl : nm.length ≤ 2) {l q : Addr} (h : SqL K H l (nmV nm)) (hq : H q = some (.lst [])) : ∀ Q : VK, (nm ≠ [] → Q (.bl true) H) → (nm = [] → Q (.bl false) H) → rNeD K (.ref l) (.ref q) H Q := fun Q k1 k2 => by
  match nm, hl, h, hc with
  | [], _, h, _ => exact ⟨.list [], .list [], .lst h .nil, .lst (SqL.of hq) .nil, by decide, by decide, k2 rfl⟩
  | [a], _, h, hc => exact ⟨.list [.str ⟨#[a]⟩], .list [], .lst h (.cons (.str _) .nil), .lst (SqL.of hq) .nil, by simp [SeqAt.shaped, PyData.canLay0, PyData.canLayAll0, strOk1 (hc a (by simp)), PyData.depth, PyData.depthAll], by decide, k1 (by simp)⟩
  | [a, b], _, h, hc => exact ⟨.list [.str ⟨#[a]⟩, .str ⟨#[b]⟩], .list [], .lst h (.cons (.str _) (.cons (.str _) .nil)), .lst (SqL.of hq) .nil, by simp [SeqAt.shaped, PyData.canLay0, PyData.canLayAll0, strOk1 (hc a (by simp)), strOk1 (hc b (by simp)), PyData.depth, PyData.depthAll], by decide, k1 (by simp)⟩
  | _ :: _ :: _ :: _, hl, _, _ => simp at hl
theorem ok_ln (T : Tx K mg) : ∀ m : Nat, Has P w K mg base (m + 3) (a__law_nest K) p__law_nest (spLN K m)
  | 0 => by
    obtain ⟨fd, F⟩ := f__law_nest T
    have no : ∀ {vs H Q E}, spLN K 0 vs H Q E → False := fun ⟨r, c, l, ns, nm, k, d, _, _, _, _, _, h, _⟩ => Nat.not_lt_zero _ h
    exact ⟨⟨fd, ⟨fun vs H Q E h => (no h).elim, fun A outer s H args us vs Q E _ _ _ _ h => (no h).elim⟩, F.bindsN (b__law_nest T)⟩, F.kp⟩
  | m + 1 => by
    have h__law_nest := ok_ln T m
    have h__law_taken := ok_taken (P := P) (w := w) (base := base) T
    have h__law_pick := ok_pick (P := P) (w := w) (base := base) T
    refine has_of (f__law_nest T) (z__law_nest T) (b__law_nest T) (fun vs H Q E h => by obtain ⟨_, _, _, _, _, _, _, rfl, _⟩ := h; rfl) (fun cdv A outer s H vs Q E hr h => ?_)
    obtain ⟨r, c, l, ns, nm, k, d, rfl, hk1, hk3, hd1, hd0, hm, hlr, hnm, hcp, hnl, hrw, kk⟩ := h
    refine ⟨_, (pss_cons (ps_if (pt_cmpR op_eq (pv 1) pe_int (nomark _)) (pss_one (ps_if (PW.pt (pw_and (pt_cmpR (neDK K hr.units) (pv 2) (pe_lst pa_nil) (nomark _)) (pw_and1 (pt_cmpR op_eq (pcall h__law_taken (hr.mono (by omega)) (g__law_taken T) (pa_cons (pv 0) (pa_cons pe_int pa_nil))) pe_int (nomark _))))) (pss_one (ps_set (i := 4) (z__law_nest T).nd rfl (Or.inl rfl) (pe_tup (pa_cons pe_str (pa_cons (pcall h__law_pick (hr.mono (by omega)) (g__law_pick T) (pa_cons (pv 0) (pa_cons (pv 2) pa_nil))) pa_nil))))) (pss_cons (ps_set (i := 4) (z__law_nest T).nd rfl (Or.inl rfl) (pe_tup (pa_cons pe_str (pa_cons (pcall h__law_taken (hr.mono (by omega)) (g__law_taken T) (pa_cons (pv 0) (pa_cons pe_int pa_nil))) (pa_cons (pe_tup pa_nil) pa_nil)))))
  (pss_one (ps_if (PW.pt (pw_and (pt_cmpR oGtI (pv 3) pe_int (nomark _)) (pw_and1 (pt_cmpR op_eq (pcall h__law_taken (hr.mono (by omega)) (g__law_taken T) (pa_cons (pv 0) (pa_cons pe_int pa_nil))) pe_int (nomark _))))) (pss_one (ps_set (i := 4) (z__law_nest T).nd rfl (Or.inl rfl) (pe_tup (pa_cons pe_str (pa_cons (pe_ix (ixT K) (pv 4) pe_int (fun _ _ => rfl)) (pa_cons (pe_tup (pa_cons (pe_tup (pa_cons (pcall h__law_taken (hr.mono (by omega)) (g__law_taken T) (pa_cons (pv 0) (pa_cons pe_int pa_nil))) (pa_cons (pcall h__law_nest (hr.mono (by omega)) (g__law_nest T) (pa_cons (pv 0) (pa_cons pe_int (pa_cons (pv 2) (pa_cons (pe_op oSubI (pv 3) pe_int) pa_nil))))) pa_nil))) pa_nil)) pa_nil)))))) pss_nil))))) (pss_cons (ps_set (i := 5) (z__law_nest T).nd rfl (Or.inl rfl) (pe_op oAddI pe_int (pcall h__law_taken (hr.mono (by omega)) (g__law_taken T) (pa_cons (pv 0) (pa_cons (pe_op oSubI (pv 1) pe_int) pa_nil)))))
  (pss_cons (ps_par (i := 6) (j := 7) rfl (z__law_nest T).nd rfl rfl (by decide) rfl rfl (pa_cons (pcall h__law_nest (hr.mono (by omega)) (g__law_nest T) (pa_cons (pv 0) (pa_cons (pv 5) (pa_cons (pv 2) (pa_cons (pv 3) pa_nil))))) (pa_cons (pcall h__law_nest (hr.mono (by omega)) (g__law_nest T) (pa_cons (pv 0) (pa_cons (pe_op oSubI (pv 1) (pv 5)) (pa_cons (pv 2) (pa_cons (pv 3) pa_nil))))) pa_nil)) rfl)
  (pss_one (ps_set (i := 4) (z__law_nest T).nd rfl (Or.inl rfl) (pe_ifExp (pt_cmpR op_eq (pcall h__law_taken (hr.mono (by omega)) (g__law_taken T) (pa_cons (pv 0) (pa_cons pe_int pa_nil))) pe_int (nomark _)) (pe_tup (pa_cons pe_str (pa_cons (pv 6) (pa_cons (pv 7) pa_nil)))) (pe_tup (pa_cons pe_str (pa_cons (pcall h__law_taken (hr.mono (by omega)) (g__law_taken T) (pa_cons (pv 0) (pa_cons pe_int pa_nil))) (pa_cons (pv 6) (pa_cons (pv 7) pa_nil)))))))))))
  (pss_cons (ps_for (passes_of rfl) rfl (pi_range1 (by rfl) (l_range T) (pa_cons (pcall h__law_taken (hr.mono (by omega)) (g__law_taken T) (pa_cons (pv 0) (pa_cons pe_int pa_nil))) pa_nil)) (pg_name (i := 8) (z__law_nest T).nd rfl (Or.inl rfl)) (pss_cons (ps_set (i := 9) (z__law_nest T).nd rfl (Or.inl rfl) (pcall h__law_taken (hr.mono (by omega)) (g__law_taken T) (pa_cons (pv 0) (pa_cons pe_int pa_nil))))
  (pss_one (ps_if (pt_cmpR op_eq (pv 9) pe_int (nomark _)) (pss_one (ps_set (i := 4) (z__law_nest T).nd rfl (Or.inl rfl) (pe_tup (pa_cons pe_str (pa_cons (pcall h__law_taken (hr.mono (by omega)) (g__law_taken T) (pa_cons (pv 0) (pa_cons pe_int pa_nil))) (pa_cons (pcall h__law_taken (hr.mono (by omega)) (g__law_taken T) (pa_cons (pv 0) (pa_cons pe_int pa_nil))) (pa_cons (pv 4) pa_nil))))))) (pss_one (ps_if (pt_cmpR op_eq (pv 9) pe_int (nomark _)) (pss_one (ps_set (i := 4) (z__law_nest T).nd rfl (Or.inl rfl) (pe_tup (pa_cons pe_str (pa_cons (pcall h__law_taken (hr.mono (by omega)) (g__law_taken T) (pa_cons (pv 0) (pa_cons pe_int pa_nil))) (pa_cons (pv 4) pa_nil)))))) (pss_one (ps_if (pt_cmpR op_eq (pv 9) pe_int (nomark _)) (pss_one (ps_set (i := 4) (z__law_nest T).nd rfl (Or.inl rfl) (pe_tup (pa_cons pe_str (pa_cons (pcall h__law_pick (hr.mono (by omega)) (g__law_pick T) (pa_cons (pv 0) (pa_cons (pe_lst (pa_cons pe_int (pa_cons pe_int (pa_cons pe_int (pa_cons pe_int (pa_cons (pe_op oPowI pe_int pe_int) pa_nil)))))) pa_nil))) (pa_cons (pv 4) pa_nil)))))) (pss_one (ps_if (pt_cmpR op_eq (pv 9) pe_int (nomark _)) (pss_one (ps_set (i := 4) (z__law_nest T).nd rfl (Or.inl rfl) (pe_tup (pa_cons pe_str (pa_cons (pv 4) pa_nil))))) (pss_one (ps_if (pt_cmpR op_eq (pv 9) pe_int (nomark _)) (pss_one (ps_set (i := 4) (z__law_nest T).nd rfl (Or.inl rfl) (pe_tup (pa_cons pe_str (pa_cons (pe_callTy (tupleK K) (by rfl) (l_tuple T) (by decide +kernel) (pa_cons (pe_lc (own := [("at", 10)]) rfl (z__law_nest T).nd (pi_range1 (by rfl) (l_range T) (pa_cons (pcall h__law_taken (hr.mono (by omega)) (g__law_taken T) (pa_cons (pv 0) (pa_cons pe_int pa_nil))) pa_nil)) (blkOk_by (N := n__law_nest) (sc := defScope s__law_nest) (by decide +kernel)) (fun _ _ _ _ _ => by exact (pg_name (i := 10) (z__law_nest T).nd rfl (Or.inl rfl))) (fun _ _ _ _ _ => by exact pts_nil) (fun _ _ _ _ _ => by exact (pcall h__law_taken (hr.mono (by omega)) (g__law_taken T) (pa_cons (pv 0) (pa_cons pe_int pa_nil))))) pa_nil)) (pa_cons (pv 4) pa_nil)))))) pss_nil))))))))))))
  (pss_one (ps_ret (pv 4))))), ?_⟩
    have okE : ∀ {H' : Hp}, ExB [r] H H' → SqL K H' l (nmV nm) := fun e => sqL_b e hlr hnm
    refine handS (ts := tIfS _ _ _) (fun σ' H' => ∃ (x5 x6 x7 x8 x9 x10 : Option V) (v : V) (t : D) (n z o : Nat), σ' = [some (.ref r), some (.int (k : Int)), some (.ref l), some (.int (d : Int)), some v, x5, x6, x7, x8, x9, x10] ∧ Td n z o t ∧ Nb k d (n + 2) (z + 8) (o + 2) ∧ RD K H' t v ∧ ExB [r] H H' ∧ Rw K ns r c H') (fun D kD => ?_) (fun σ' H' g => ?_)
    · -- the start
      refine ⟨_, rfl, rfl, _, rfl, ?_⟩
      by_cases k1 : k = 1
      · rw [decide_eq_true (show V.int (k : Int) = V.int 1 by rw [k1]; rfl)]
        have small : ∀ {n z o : Nat}, n ≤ 1 → z ≤ 1 → o ≤ 0 → Nb k d (n + 2) (z + 8) (o + 2) := fun {n z o} h1 h2 h3 => by
          unfold Nb
          split <;> omega
        refine iteT ?_
        refine handT (tt := tAnd _ _) (G := fun b H1 => ExB [r] H H1 ∧ Rw K ns r c H1 ∧ (b = true → nm ≠ [])) (fun B kB => ?_) (fun b H1 g => ?_)
        · refine ⟨_, rfl, by show 0 ≤ sizeLine; decide, fun q hq => ?_⟩
          have e1 := ex_new (o := .lst []) hq
          refine ne_names nm hcp hnl (e1.sqL hnm) upd_same _ (fun hne => ?_) (fun hn => ?_)
          · refine ⟨true, rfl, ⟨_, rfl, r, c, ns, _, rfl, by decide, by decide, hrw.ex e1, fun v H2 v0 v1 e2 q2 => ⟨rfl, _, rfl, kB _ _ ⟨e1.b.trans e2, q2, fun _ => hne⟩⟩⟩⟩
          · exact ⟨false, rfl, kB _ _ ⟨e1.b, hrw.ex e1, fun z => by cases z⟩⟩
        · obtain ⟨e1, q1, hb⟩ := g
          refine ifBH (fun hbt => ?_) (fun _ => ?_)
          · have hne := hb hbt
            have hl0 : 0 < (nmV nm).length := by
              unfold nmV
              rw [List.length_map]
              exact List.length_pos_iff.mpr hne
            refine ⟨_, rfl, _, rfl, r, c, l, ns, nmV nm, rfl, hlr, okE e1, hl0, by unfold nmV; rw [List.length_map]; omega, q1, fun v H2 hv e2 q2 => ?_⟩
            obtain ⟨a, ha, rfl⟩ := List.mem_map.mp hv
            refine ⟨two_sz _ _, fun p hp => kD _ _ ⟨none, none, none, none, none, none, _, nameD a, 1, 1, 0, rfl, .name (hcp a ha), small (by omega) (by omega) (by omega), ?_, (e1.trans e2).trans (ex_new hp).b, q2.ex (ex_new hp)⟩⟩
            exact .tup (.inl (.inl upd_same)) (.cons (.str _) (.cons (.str _) .nil))
          · refine ⟨_, rfl, r, c, ns, _, rfl, by decide, by decide, q1, fun v H2 v0 v1 e2 q2 => ⟨by show 0 ≤ sizeLine; decide, fun p1 hp1 => ⟨three_sz _ _ _, fun p2 hp2 => ?_⟩⟩⟩
            obtain ⟨a, rfl⟩ := Int.eq_ofNat_of_zero_le v0
            have ha : a < 6 := by omega
            have e3 := (ex_new (o := .tup []) hp1).trans (ex_new (o := .tup [.str "letter", .int (a : Int), .ref p1]) hp2)
            have rl : RD K _ (letterD a []) (.ref p2) := .tup (.inl (.inl upd_same)) (.cons (.str _) (.cons (.int _) (.cons (RD.mono (ex_new (o := .tup [.str "letter", .int (a : Int), .ref p1]) hp2).t (.tup (.inl (.inl upd_same)) .nil)) .nil)))
            have e13 := (e1.trans e2).trans e3.b
            have q3 := q2.ex e3
            have tl : Td 1 1 0 (letterD a []) := (.letter (ds := []) (zs := []) (os := []) rfl rfl (fun p hp => by cases hp) ha (fun i p z o e => by cases e))
            refine ⟨_, rfl, _, _, rfl, rfl, decide (0 < d), ?_, ?_⟩
            · congr 1
              exact decide_eq_decide.mpr (by omega)
            · by_cases h0 : 0 < d
              · rw [decide_eq_true h0]
                have d1 : d = 1 := by omega
                refine ⟨_, rfl, r, c, ns, _, rfl, by decide, by decide, q3, fun v H3 v0 v1 e4 q4 => ⟨rfl, _, rfl, ifBH (fun _ => ?_) (fun _ => ?_)⟩⟩
                · have rl4 := rl.mono (tex_rw q3 e4)
                  obtain ⟨pl, xl, yl, zl, hpl, hsl, rxl, ryl, -⟩ := slots3 rl4
                  cases hpl
                  obtain rfl := rxl.ofStr
                  obtain rfl := ryl.ofInt
                  refine ⟨_, rfl, p2, _, _, _, rfl, rfl, hsl, rfl, ⟨_, rfl, r, c, ns, _, rfl, by decide, by decide, q4, fun g H4 g0 g1 e5 q5 => ?_⟩⟩
                  have e15 := (e13.trans e4).trans e5
                  obtain ⟨g, rfl⟩ := Int.eq_ofNat_of_zero_le g0
                  refine ⟨_, rfl, _, rfl, _, rfl, _, _, rfl, rfl, r, c, l, ns, nm, 1, 0, by rw [d1] <;> rfl, by omega, by omega, by omega, fun _ => rfl, by omega, hlr, okE e15, hcp, hnl, q5, fun t n z o v H5 td nb rt e6 q6 => ?_⟩
                  refine ⟨two_sz _ _, fun p3 hp3 => ⟨by show 1 ≤ sizeLine; decide, fun p4 hp4 => ⟨three_sz _ _ _, fun p5 hp5 => ?_⟩⟩⟩
                  have f1 := ex_new (o := .tup [.int (g : Int), v]) hp3
                  have f2 := ex_new (o := .tup [.ref p3]) hp4
                  have f3 := ex_new (o := .tup [.str "letter", .int (a : Int), .ref p4]) hp5
                  obtain ⟨nb1, nb2, nb3⟩ : n ≤ 3 ∧ z ≤ 9 ∧ o ≤ 2 := by
                    unfold Nb at nb
                    rwa [if_pos rfl] at nb
                  refine kD _ _ ⟨none, none, none, none, none, none, _, letterD a [(g, t)], n + 1, _, _, rfl, .letter (zs := [z]) (os := [o]) rfl rfl (fun p hp => by rw [List.mem_singleton.mp hp]; show g ≤ _; omega) ha (fun i p z' o' e1 e2 e3 => ?_), ?_, ?_, (e15.trans e6).trans ((f1.trans f2).trans f3).b, q6.ex ((f1.trans f2).trans f3)⟩
                  · have : i = 0 := by
                      have := (List.getElem?_eq_some_iff.mp e1).1
                      simp at this
                      exact this
                    subst this
                    cases e1
                    cases e2
                    cases e3
                    exact td
                  · unfold Nb
                    rw [if_neg (by omega)]
                    simp only [List.sum_cons, List.sum_nil, List.length_cons, List.length_nil]
                    omega
                  · have rd1 : RD K _ (doorD (g, t)) (.ref p3) := RD.mono (f2.trans f3).t (.tup (.inl (.inl upd_same)) (.cons (.int _) (.cons (rt.mono f1.t) .nil)))
                    exact .tup (.inl (.inl upd_same)) (.cons (.str _) (.cons (.int _) (.cons (.tup (.inl (.inl (f3 _ _ upd_same))) (.cons rd1 .nil)) .nil)))
                · exact kD _ _ ⟨none, none, none, none, none, none, _, letterD a [], 1, 1, 0, rfl, tl, small (by omega) (by omega) (by omega), rl.mono (tex_rw q3 e4), e13.trans e4, q4⟩
              · rw [decide_eq_false h0]
                exact kD _ _ ⟨none, none, none, none, none, none, _, letterD a [], 1, 1, 0, rfl, tl, small (by omega) (by omega) (by omega), rl, e13, q3⟩
      · rw [decide_eq_false (fun z => k1 (by have := V.int.inj z; omega))]
        have d1 : d = 1 := by
          by_cases h : d = 0
          · exact absurd (hd0 h) k1
          · omega
        refine iteF ?_
        refine ⟨_, rfl, _, rfl, _, _, rfl, rfl, r, c, ns, _, rfl, by omega, by omega, hrw, fun v H1 v0 v1 e1 q1 => ⟨_, _, rfl, rfl, ?_⟩⟩
        obtain ⟨a, rfl⟩ := Int.eq_ofNat_of_zero_le v0
        have ha : a + 1 < k := by omega
        have ea : (1 : Int) + (a : Int) = ((a + 1 : Nat) : Int) := by omega
        have eb : (k : Int) - ((a + 1 : Nat) : Int) = ((k - (a + 1) : Nat) : Int) := by omega
        rw [ea]
        refine ⟨_, rfl, _, rfl, _, rfl, _, rfl, r, c, l, ns, nm, a + 1, d, rfl, by omega, by omega, hd1, fun z => by omega, by omega, hlr, okE e1, hcp, hnl, q1, fun t1 n1 z1 o1 v1 H2 td1 nb1 rt1 e2 q2 => ?_⟩
        refine ⟨_, rfl, _, rfl, _, rfl, _, _, rfl, rfl, _, rfl, _, rfl, r, c, l, ns, nm, k - (a + 1), d, by rw [eb] <;> rfl, by omega, by omega, hd1, fun z => by omega, by omega, hlr, okE (e1.trans e2), hcp, hnl, q2, fun t2 n2 z2 o2 v2 H3 td2 nb2 rt2 e3 q3 => ?_⟩
        have t2 := tex_rw q2 e3
        have e13 := (e1.trans e2).trans e3
        have rt1' := rt1.mono t2
        unfold Nb at nb1 nb2
        rw [if_neg (by omega)] at nb1 nb2
        have bnd : Nb k d (max n1 n2 + 1 + 2) (z1 + z2 + 1 + 8) (o1 + o2 + 1 + 2) := by
          unfold Nb
          rw [if_neg (by omega)]
          omega
        have tdm1 := td1.mono (Nat.le_max_left n1 n2)
        have tdm2 := td2.mono (Nat.le_max_right n1 n2)
        refine ⟨_, _, rfl, ⟨_, rfl, r, c, ns, _, rfl, by decide, by decide, q3, fun g H4 g0 g1 e4 q4 => ⟨rfl, _, rfl, ifBH (fun _ => ?_) (fun _ => ?_)⟩⟩⟩
        · have t4 := tex_rw q3 e4
          refine ⟨_, rfl, _, rfl, three_sz _ _ _, fun p hp => kD _ _ ⟨_, _, _, none, none, none, _, besideD t1 _, _, _, _, rfl, .beside tdm1 tdm2, bnd, ?_, (e13.trans e4).trans (ex_new hp).b, q4.ex (ex_new hp)⟩⟩
          exact .tup (.inl (.inl upd_same)) (.cons (.str _) (.cons ((rt1'.mono t4).mono (ex_new hp).t) (.cons ((rt2.mono t4).mono (ex_new hp).t) .nil)))
        · refine ⟨_, rfl, r, c, ns, _, rfl, by decide, by decide, q4, fun g H5 g0 g1 e5 q5 => ?_⟩
          obtain ⟨g, rfl⟩ := Int.eq_ofNat_of_zero_le g0
          have t4 := (tex_rw q3 e4).trans (tex_rw q4 e5)
          refine ⟨_, rfl, _, rfl, four_sz _ _ _ _, fun p hp => kD _ _ ⟨_, _, _, none, none, none, _, overD g t1 _, _, _, _, rfl, .over (by omega) tdm1 tdm2, bnd, ?_, ((e13.trans e4).trans e5).trans (ex_new hp).b, q5.ex (ex_new hp)⟩⟩
          exact .tup (.inl (.inl upd_same)) (.cons (.str _) (.cons (.int _) (.cons ((rt1'.mono t4).mono (ex_new hp).t) (.cons ((rt2.mono t4).mono (ex_new hp).t) .nil))))
    · -- the turns
      obtain ⟨x5, x6, x7, x8, x9, x10, v, t, n, z, o, rfl, td, nb, rv, e0, q0⟩ := g
      have nbm : ∀ {n' z' o' i : Nat}, i ≤ 2 → n' ≤ n + i → z' ≤ z + 4 * i → o' ≤ o + i → Nb k d n' z' o' := fun {n' z' o' i} h1 h2 h3 h4 => by
        unfold Nb at nb ⊢
        split
        · rename_i h
          rw [if_pos h] at nb
          omega
        · rename_i h
          rw [if_neg h] at nb
          omega
      refine ⟨_, rfl, r, c, ns, _, rfl, by decide, by decide, q0, fun m' H2 m0 m1 e2 q2 => ⟨m', rfl, by omega, by omega, for_it (walk_range (lo := 0) (n := m'.toNat)) (fun i σ H' => ∃ (x5 x6 x7 x8 x9 x10 : Option V) (v : V) (t : D) (n' z' o' : Nat), σ = [some (.ref r), some (.int (k : Int)), some (.ref l), some (.int (d : Int)), some v, x5, x6, x7, x8, x9, x10] ∧ Td n' z' o' t ∧ (n' ≤ n + i ∧ z' ≤ z + 4 * i ∧ o' ≤ o + i) ∧ RD K H' t v ∧ ExB [r] H H' ∧ Rw K ns r c H') ?_ (fun _ _ _ _ _ => trivial) ?_ ?_⟩⟩
      · exact ⟨x5, x6, x7, x8, x9, x10, v, t, n, z, o, rfl, td, by omega, rv.mono (tex_rw q0 e2), e0.trans e2, q2⟩
      · rintro i x σ H3 H3' hi ⟨x5, x6, x7, x8, x9, x10, v, t, n', z', o', rfl, td, ⟨b1, b2, b3⟩, rv, e3, q3⟩ ⟨rfl, rfl⟩
        refine ⟨_, rfl, r, c, ns, _, rfl, by decide, by decide, q3, fun kd H4 _ _ e4 q4 => ?_⟩
        have t4 := tex_rw q3 e4
        have e34 := e3.trans e4
        have rv4 := rv.mono t4
        refine ⟨_, rfl, rfl, _, rfl, ifBH (fun _ => ?_) (fun _ => ?_)⟩
        · refine ⟨_, rfl, r, c, ns, _, rfl, by decide, by decide, q4, fun g H5 g0 g1 e5 q5 => ⟨_, rfl, r, c, ns, _, rfl, by decide, by decide, q5, fun g' H6 g0' g1' e6 q6 => ?_⟩⟩
          obtain ⟨g, rfl⟩ := Int.eq_ofNat_of_zero_le g0
          obtain ⟨g', rfl⟩ := Int.eq_ofNat_of_zero_le g0'
          refine ⟨_, rfl, four_sz _ _ _ _, fun p hp => ⟨_, _, _, _, _, _, _, glueD g g' t, _, _, _, rfl, .glue (by omega) (by omega) td, by omega, ?_, ((e34.trans e5).trans e6).trans (ex_new hp).b, q6.ex (ex_new hp)⟩⟩
          exact .tup (.inl (.inl upd_same)) (.cons (.str _) (.cons (.int _) (.cons (.int _) (.cons (((rv4.mono (tex_rw q4 e5)).mono (tex_rw q5 e6)).mono (ex_new hp).t) .nil))))
        refine ⟨_, rfl, rfl, _, rfl, ifBH (fun _ => ?_) (fun _ => ?_)⟩
        · refine ⟨_, rfl, r, c, ns, _, rfl, by decide, by decide, q4, fun g H5 g0 g1 e5 q5 => ?_⟩
          obtain ⟨g, rfl⟩ := Int.eq_ofNat_of_zero_le g0
          refine ⟨_, rfl, three_sz _ _ _, fun p hp => ⟨_, _, _, _, _, _, _, hideD g t, _, _, _, rfl, .hide (by omega) td, by omega, ?_, (e34.trans e5).trans (ex_new hp).b, q5.ex (ex_new hp)⟩⟩
          exact .tup (.inl (.inl upd_same)) (.cons (.str _) (.cons (.int _) (.cons ((rv4.mono (tex_rw q4 e5)).mono (ex_new hp).t) .nil)))
        refine ⟨_, rfl, rfl, _, rfl, ifBH (fun _ => ?_) (fun _ => ?_)⟩
        · refine ⟨_, rfl, _, _, rfl, rfl, ⟨by decide, by decide, by decide⟩, by decide, fun q hq => pick_sg (E := E0) q4 hq (by decide) (by decide) (fun v5 H5 hv5 e5 q5 => ?_)⟩
          obtain ⟨g, rfl, hg⟩ : ∃ g : Nat, v5 = .int (g : Int) ∧ g ≤ 1000000000 := by
            simp only [List.mem_cons, List.not_mem_nil, or_false] at hv5
            rcases hv5 with rfl | rfl | rfl | rfl | rfl
            · exact ⟨0, rfl, by decide⟩
            · exact ⟨1, rfl, by decide⟩
            · exact ⟨2, rfl, by decide⟩
            · exact ⟨3, rfl, by decide⟩
            · exact ⟨1000000000, rfl, by decide⟩
          refine ⟨_, rfl, three_sz _ _ _, fun p hp => ⟨_, _, _, _, _, _, _, powerD g t, _, _, _, rfl, .power hg td, by omega, ?_, (e34.trans e5).trans (ex_new hp).b, q5.ex (ex_new hp)⟩⟩
          exact .tup (.inl (.inl upd_same)) (.cons (.str _) (.cons (.int _) (.cons ((rv4.mono (tex_rw q4 e5)).mono (ex_new hp).t) .nil)))
        refine ⟨_, rfl, rfl, _, rfl, ifBH (fun _ => ?_) (fun _ => ?_)⟩
        · refine ⟨_, rfl, two_sz _ _, fun p hp => ⟨_, _, _, _, _, _, _, roundD t, _, _, _, rfl, .round td, by omega, ?_, e34.trans (ex_new hp).b, q4.ex (ex_new hp)⟩⟩
          exact .tup (.inl (.inl upd_same)) (.cons (.str _) (.cons (rv4.mono (ex_new hp).t) .nil))
        refine ⟨_, rfl, rfl, _, rfl, ifBH (fun _ => ?_) (fun _ => ?_)⟩
        · refine ⟨_, rfl, r, c, ns, _, rfl, by decide, by decide, q4, fun g H5 g0 g1 e5 q5 => ⟨g, rfl, by omega, by omega, fun lq hlq => lc_it (walk_range (lo := 0) (n := g.toNat)) (fun i H' => ∃ us : List Nat, us.length = i ∧ (∀ u ∈ us, u ≤ 1000000000) ∧ H' lq = some (.lst (natV us)) ∧ ExB [r] H5 H' ∧ Rw K ns r c H' ∧ lq ≠ r) ?_ (fun _ _ _ _ => trivial) ?_ ?_⟩⟩
          · obtain ⟨ob, hob⟩ := rw_there q5
            exact ⟨[], rfl, fun u hu => (by cases hu), upd_same, (ex_new hlq).b, q5.ex (ex_new hlq), (ne_of_none hob hlq).symm⟩
          · rintro j x H6 H6' hj ⟨us, hus, hub, hl6, e6, q6, hne⟩ ⟨rfl, rfl⟩
            refine ⟨rfl, ⟨_, rfl, r, c, ns, _, rfl, by decide, by decide, q6, fun u H7 u0 u1 e7 q7 => ?_⟩⟩
            obtain ⟨u, rfl⟩ := Int.eq_ofNat_of_zero_le u0
            have hl7 := e7 _ _ (by simpa using hne) hl6
            refine ⟨_, hl7, ?_, us ++ [u], by rw [List.length_append, hus] <;> rfl, fun u' hu' => ?_, by rw [upd_same, natV_snoc], ?_, ?_, hne⟩
            · unfold natV
              rw [List.length_map, hus]
              exact Nat.lt_of_le_of_lt (show j ≤ 1000 by omega) (by decide)
            · rcases List.mem_append.mp hu' with z | z
              · exact hub u' z
              · rw [List.mem_singleton.mp z]; omega
            · intro b o nb2 hb
              have hbl : b ≠ lq := ne_of_none hb hlq
              rw [upd_ne hbl]
              exact e7 b o nb2 (e6 b o nb2 hb)
            · exact q7.own q5 hlq (e6.trans e7)
          · rintro H6 ⟨us, hus, hub, hl6, e6, q6, hne⟩
            have rv6 := (rv4.mono (tex_rw q4 e5)).mono (tex_rw q5 e6)
            refine ⟨lq, _, rfl, .inl ⟨SqL.of hl6, fun q hq => ⟨_, rfl, three_sz _ _ _, fun p hp => ⟨_, _, _, _, _, _, _, orderD us t, _, _, _, rfl, .order hub td, by omega, ?_, ((e34.trans e5).trans e6).trans ((ex_new hq).trans (ex_new hp)).b, q6.ex ((ex_new hq).trans (ex_new hp))⟩⟩⟩⟩
            have f1 := ex_new (o := .tup (natV us)) hq
            have f2 := ex_new (o := .tup [.str "order", .ref q, v]) hp
            exact .tup (.inl (.inl upd_same)) (.cons (.str _) (.cons (.tup (.inl (.inl (f2 _ _ upd_same))) (natV_rd _ _ us)) (.cons ((rv6.mono f1.t).mono f2.t) .nil)))
        · exact ⟨_, _, _, _, _, _, v, t, _, _, _, rfl, td, by omega, rv4, e34, q4⟩
      · rintro σ H3 ⟨x5, x6, x7, x8, x9, x10, v, t, n', z', o', rfl, td, ⟨b1, b2, b3⟩, rv, e3, q3⟩
        exact ⟨_, rfl, kk t n' z' o' v _ td (nbm (i := m'.toNat) (by omega) b1 b2 b3) rv e3 q3⟩
end
end K20
namespace Pb
open PySem L2 Sl
theorem sub_cut {α : Type} (l : List α) {a b m : Nat} (h : a ≤ b) : (l.take a ++ (l.drop b).take m).Sublist l := by
  have h1 : (l.take a ++ (l.drop b).take m).Sublist (l.take a ++ l.drop b) := List.Sublist.append (List.Sublist.refl _) (List.take_sublist _ _)
  have h2 : (l.take a ++ l.drop b).Sublist (l.take a ++ l.drop a) := List.Sublist.append (List.Sublist.refl _) (by
    have : l.drop b = (l.drop a).drop (b - a) := by rw [List.drop_drop]; congr 1; omega
    rw [this]
    exact List.drop_sublist _ _)
  rw [List.take_append_drop] at h2
  exact h1.trans h2
/-- a text with a part cut out -/
theorem bz_cut {z : Str} {l o : Nat} (h : Bz z l o) {a k : Int} (h0 : 0 ≤ a) (h1 : a ≤ z.length) (hk : 0 ≤ k) : ∃ l1 o1 l2 o2, Bz (cutS z none (some a)) l1 o1 ∧ Bz (cutS z (some (a + k)) none) l2 o2 ∧ l1 + l2 ≤ l ∧ o1 + o2 ≤ o := by
  refine ⟨_, _, _, _, ⟨Nat.le_refl _, Nat.le_refl _⟩, ⟨Nat.le_refl _, Nat.le_refl _⟩, ?_, ?_⟩
  all_goals
    have e1 : (cutS z none (some a)).cps.toList = z.cps.toList.take a.toNat := by
      show (((z.cps.toList.drop (HT.sIx z.length 0 none)).take (HT.sIx z.length z.length (some a) - HT.sIx z.length 0 none)).toArray).toList = _
      have g1 : HT.sIx z.length 0 none = 0 := rfl
      have g2 : HT.sIx z.length z.length (some a) = min a.toNat z.length := by
        unfold HT.sIx
        simp only []
        rw [if_neg (by omega)]
      rw [g1, g2]
      have : min a.toNat z.length = a.toNat := by omega
      rw [this]
      simp
    have e2 : (cutS z (some (a + k)) none).cps.toList = (z.cps.toList.drop (min (a + k).toNat z.length)).take (z.length - min (a + k).toNat z.length) := by
      show (((z.cps.toList.drop (HT.sIx z.length 0 (some (a + k)))).take (HT.sIx z.length z.length none - HT.sIx z.length 0 (some (a + k)))).toArray).toList = _
      have g1 : HT.sIx z.length z.length none = z.length := rfl
      have g2 : HT.sIx z.length 0 (some (a + k)) = min (a + k).toNat z.length := by
        unfold HT.sIx
        simp only []
        rw [if_neg (by omega)]
      rw [g1, g2]
    have s := sub_cut z.cps.toList (a := a.toNat) (b := min (a + k).toNat z.length) (m := z.length - min (a + k).toNat z.length) (by omega)
    rw [← e1, ← e2] at s
  · have := s.length_le
    rw [List.length_append, Array.length_toList, Array.length_toList, Array.length_toList] at this
    exact Nat.le_trans this h.1
  · have := (s.filter isOp).length_le
    rw [List.filter_append, List.length_append] at this
    exact Nat.le_trans this h.2
def somes : List Str := ["", "B=", ";A=a", "1000000000", "1000000001", "01", "{0:", ⟨((List.replicate (21 : Int).toNat ("(" : Str).cps.toList).flatten).toArray⟩, "[1=", "<0,"]
theorem somes_ok : ∀ z ∈ somes, z.length ≤ 21 ∧ opS z ≤ 1 := by decide +kernel
end Pb
namespace K20
open PySem PySem.Spec
open PyProof.Rows L2 Sl Pb
section
variable {P : Program} {w : World} {K : PySem.W.Frag} {mg : Str → Option Value} {base : Heap} {H H1 H2 : Hp} {E E' : XK} {Q : VK} {σ : L2.St} {B : Bool → Hp → Prop} {l : Addr}
theorem mem_spoil {z : Str} {v : V} (h : v ∈ sgV z ++ somes.map V.str) : ∃ g : Str, v = .str g ∧ Bz g 21 1 := by
  rcases List.mem_append.mp h with h | h
  · obtain ⟨c, _, rfl⟩ := List.mem_map.mp h
    refine ⟨_, rfl, by show 1 ≤ 21; decide, ?_⟩
    unfold opS
    refine Nat.le_trans (List.length_filter_le _ _) ?_
    exact Nat.le_refl _
  · obtain ⟨g, hg, rfl⟩ := List.mem_map.mp h
    exact ⟨g, rfl, somes_ok g hg⟩
def spSpoiled (K : PySem.W.Frag) : Sp := fun vs H Q _ => ∃ (r c : Addr) (ns : List Int) (z : Str) (l o : Nat), vs = [.ref r, .str z] ∧ Bz z l o ∧ l ≤ 1000000 ∧ Rw K ns r c H ∧
  ∀ s H', Bz s (l + 42) (o + 2) → ExB [r] H H' → Rw K ns r c H' → Q (.str s) H'
theorem ok_spoiled (T : Tx K mg) : Has P w K mg base 3 (a__law_spoiled K) p__law_spoiled (spSpoiled K) := by
  have h__law_taken := ok_taken (P := P) (w := w) (base := base) T
  have h__law_pick := ok_pick (P := P) (w := w) (base := base) T
  refine has_of (f__law_spoiled T) (z__law_spoiled T) (b__law_spoiled T) (fun vs H Q E h => by obtain ⟨_, _, _, _, _, _, rfl, _⟩ := h; rfl) (fun cdv A outer s H vs Q E hr h => ?_)
  obtain ⟨r, c, ns, z, l, o, rfl, bz, hl, hrw, k⟩ := h
  refine ⟨_, (pss_cons (ps_for (passes_of rfl) rfl (pi_range1 (by rfl) (l_range T) (pa_cons (pcall h__law_taken (hr.mono (by omega)) (g__law_taken T) (pa_cons (pv 0) (pa_cons pe_int pa_nil))) pa_nil)) (pg_name (i := 2) (z__law_spoiled T).nd rfl (Or.inl rfl)) (pss_cons (ps_set (i := 3) (z__law_spoiled T).nd rfl (Or.inl rfl) (pcall h__law_taken (hr.mono (by omega)) (g__law_taken T) (pa_cons (pv 0) (pa_cons (pe_op oAddI (pe_callB call_len_str (by rfl) (l_len T) (by decide +kernel) (pa_cons (pv 1) pa_nil)) pe_int) pa_nil))))
  (pss_cons (ps_set (i := 4) (z__law_spoiled T).nd rfl (Or.inl rfl) (pe_lst (pa_cons pe_str (pa_cons pe_str (pa_cons pe_str (pa_cons pe_str (pa_cons pe_str (pa_cons pe_str (pa_cons pe_str (pa_cons (pe_op oRepS pe_str pe_int) (pa_cons pe_str (pa_cons pe_str pa_nil))))))))))))
  (pss_cons (ps_set (i := 5) (z__law_spoiled T).nd rfl (Or.inl rfl) (pcall h__law_pick (hr.mono (by omega)) (g__law_pick T) (pa_cons (pv 0) (pa_cons (pe_op op_cat (pe_callTy call_list_sg (by rfl) (l_list T) (by decide +kernel) (pa_cons pe_str pa_nil)) (pv 4)) pa_nil))))
  (pss_one (ps_set (i := 1) (z__law_spoiled T).nd rfl (Or.inl rfl) (pe_op oAddS (pe_op oAddS (pe_slice sl_str (pv 1) po_none (po_some (pv 3))) (pv 5)) (pe_slice sl_str (pv 1) (po_some (pe_op oAddI (pv 3) (pcall h__law_taken (hr.mono (by omega)) (g__law_taken T) (pa_cons (pv 0) (pa_cons pe_int pa_nil))))) po_none))))))))
  (pss_one (ps_ret (pv 1)))), ?_⟩
  refine ⟨_, rfl, r, c, ns, _, rfl, by decide, by decide, hrw, fun m H2 m0 m1 e2 q2 => ⟨m, rfl, by omega, by omega, for_it (walk_range (lo := 0) (n := m.toNat)) (fun i σ H' => ∃ (z : Str) (x2 x3 x4 x5 : Option V), σ = [some (.ref r), some (.str z), x2, x3, x4, x5] ∧ Bz z (l + 21 * i) (o + i) ∧ ExB [r] H H' ∧ Rw K ns r c H') ?_ (fun _ _ _ _ _ => trivial) ?_ ?_⟩⟩
  · exact ⟨z, none, none, none, none, rfl, bz.mono (by omega) (by omega), e2, q2⟩
  · rintro i x σ H3 H3' hi ⟨z, x2, x3, x4, x5, rfl, bz, e3, q3⟩ ⟨rfl, rfl⟩
    have hzl := bz.1
    refine ⟨_, rfl, _, rfl, _, rfl, Nat.le_trans (show z.length ≤ 2000000 by omega) (by decide), _, _, rfl, rfl, r, c, ns, _, rfl, by omega, by omega, q3, fun a H4 a0 a1 e4 q4 => ?_⟩
    refine ⟨_, _, rfl, rfl, by decide, by decide, by decide +kernel, by decide +kernel, by decide, fun ls hls => ?_⟩
    have f1 := ex_new (o := .lst (somes.map V.str)) hls
    refine ⟨_, rfl, _, rfl, by decide +kernel, fun lg hlg => ?_⟩
    refine ⟨_, rfl, lg, ls, _, somes.map V.str, rfl, rfl, upd_same, ?_, ?_, fun lp hlp => ?_⟩
    · exact ex_new hlg _ _ upd_same
    · show (sgV _).length + (somes.map V.str).length ≤ sizeLine
      decide +kernel
    have f2 := ex_new (o := .lst (sgV "aA+/([])=^~<>,{}:; 01x.")) hlg
    refine pick_sg (E := E0) (q4.ex (f1.trans f2)) hlp (by decide +kernel) (by decide +kernel) (fun v H5 hv e5 q5 => ?_)
    obtain ⟨g, rfl, bg⟩ := mem_spoil hv
    obtain ⟨l1, o1, l2, o2, bc1, -, hl12, ho12⟩ := bz_cut bz a0 (show a ≤ z.length by omega) (Int.le_refl 0)
    have e45 := ((e3.trans e4).trans (f1.trans f2).b).trans e5
    refine ⟨_, rfl, _, rfl, _, rfl, z, rfl, Nat.le_trans (show z.length ≤ 2000000 by omega) (by decide), _, rfl, _, _, rfl, rfl, szB bc1 bg (by omega), ?_⟩
    refine ⟨_, rfl, _, rfl, ⟨_, rfl, r, c, ns, _, rfl, by decide, by decide, q5, fun kk H6 k0 k1 e6 q6 => ?_⟩⟩
    obtain ⟨l3, o3, l4, o4, bc3, bc4, hl34, ho34⟩ := bz_cut bz a0 (show a ≤ z.length by omega) k0
    refine ⟨_, _, rfl, rfl, _, rfl, z, rfl, Nat.le_trans (show z.length ≤ 2000000 by omega) (by decide), _, _, rfl, rfl, szB (bc3.app bg) bc4 (by omega), ?_⟩
    exact ⟨_, _, _, _, _, rfl, ((bc3.app bg).app bc4).mono (by omega) (by omega), e45.trans e6, q6⟩
  · rintro σ H3 ⟨z, x2, x3, x4, x5, rfl, bz, e3, q3⟩
    exact ⟨_, rfl, k _ _ (bz.mono (by omega) (by omega)) e3 q3⟩
end
end K20
/-! The plain law: the reader of a book and the walk of states agree. -/
namespace Pb
open PySem L2 Sl
inductive Ms where
  | name | eq | ground | many | copies | first | second | door | place | equal | close | comma | colon | behind
  deriving DecidableEq
structure M where
  st : Ms
  i : Nat
  ns : List Nat
  here : List Nat
  o : List Bool
  b : Bool
def nxNum : Ms → Ms
  | .many => .ground | .copies => .behind | .first => .equal | .second => .close | .door => .comma | .place => .colon | s => s
def isNum : Ms → Bool
  | .many => true | .copies => true | .first => true | .second => true | .door => true | .place => true | _ => false
/-- how many digits, a message -/
def numL (ss : Sg) (i : Nat) : Option Str := if dgs ss i = [] ∨ (1 < (dgs ss i).length ∧ (dgs ss i).head? = some 48) then some "expected a number" else if 1000000000 < NumText.digitsVal (dgs ss i) then some "out of range" else none
/-- what is wrong with the sign, where no number and nothing behind is read -/
def wanted (m : M) (c : Option Nat) : Option Str := match m.st with
  | .name => match c with
    | none => some "expected a name"
    | some c => if isCp c then (if c ∈ m.ns then some "this name is there already" else none) else some "expected a name"
  | .ground => match c with
    | none => some "expected a maze"
    | some c => if isCp c then (if c ∈ m.ns then none else some "this name is not there") else if c = 40 then (if m.o.length = 20 then some "this is too deep" else none) else if isLt c then none else some "expected a maze"
  | .eq => if c = some 61 then none else some "expected ="
  | .equal => if c = some 61 ∨ c = some 93 then none else some "expected = or ]"
  | .close => if c = some 93 then none else some "expected ]"
  | .comma => if c = some 44 ∨ c = some 62 then none else some "expected , or >"
  | .colon => if c = some 58 then none else some "expected a colon"
  | _ => none
/-- the state behind such a sign -/
def later (m : M) (c : Nat) : M := match m.st with
  | .name => { m with st := .eq, i := m.i + 1, here := [c], b := false }
  | .ground => if c = 40 then { m with i := m.i + 1, o := m.o ++ [true], b := false } else { m with st := .behind, i := m.i + 1, b := isLt c }
  | .comma => { m with st := if c = 44 then .door else .behind, i := m.i + 1, b := false }
  | .eq => { m with st := .ground, i := m.i + 1, b := false }
  | .equal => { m with st := if c = 93 then .behind else .second, i := m.i + 1, b := false }
  | .close => { m with st := .behind, i := m.i + 1, b := false }
  | .colon => { m with st := .ground, i := m.i + 1, b := false }
  | _ => m
def opTo : Nat → Option Ms
  | 43 => some .ground | 47 => some .many | 91 => some .first | 94 => some .copies | 126 => some .behind | 60 => some .door | _ => none
def step (ss : Sg) (n : Nat) (m : M) : Option (Nat × Str) ⊕ M :=
  if isNum m.st = true then
    (if m.st = .door ∧ cAt ss m.i = some 62 ∧ 0 < m.i ∧ cAt ss (m.i - 1) = some 60 then .inr { m with st := .behind, i := m.i + 1, b := false }
     else match numL ss m.i with
      | some msg => .inl (some (pAt ss n m.i, msg))
      | none => .inr { m with st := nxNum m.st, i := m.i + (dgs ss m.i).length, b := false })
  else if m.st = .behind then
    (if cAt ss m.i = some 123 ∧ m.b = true then (if m.o.length = 20 then .inl (some (pAt ss n m.i, "this is too deep")) else .inr { m with st := .place, i := m.i + 1, o := m.o ++ [false] })
     else match (cAt ss m.i).bind opTo with
      | some s => .inr { m with st := s, i := m.i + 1, b := false }
      | none => match m.o.getLast? with
        | some q => if cAt ss m.i = some (if q then 41 else 125) then .inr { m with i := m.i + 1, o := m.o.dropLast, b := !q } else .inl (some (pAt ss n m.i, if q then "expected )" else "expected }"))
        | none => if cAt ss m.i = some 59 then .inr { m with st := .name, i := m.i + 1, ns := m.ns ++ m.here, b := false } else .inl (if cAt ss m.i = none then none else some (pAt ss n m.i, "expected ; or the end")))
  else match wanted m (cAt ss m.i), cAt ss m.i with
    | some msg, _ => .inl (some (pAt ss n m.i, msg))
    | none, some c => .inr (later m c)
    | none, none => .inl none
def runM (ss : Sg) (n : Nat) : Nat → M → Option (Option (Nat × Str))
  | 0, _ => none
  | f + 1, m => match step ss n m with
    | .inl r => some r
    | .inr m' => runM ss n f m'
def Run (ss : Sg) (n : Nat) (m : M) (r : Option (Nat × Str)) : Prop := ∃ f, runM ss n f m = some r
section
variable {ss : Sg} {n : Nat} {m m' : M} {r : Option (Nat × Str)}
theorem Run.go (h : step ss n m = .inr m') (k : Run ss n m' r) : Run ss n m r := by
  obtain ⟨f, hf⟩ := k
  exact ⟨f + 1, by simp only [runM, h]; exact hf⟩
theorem Run.stop (h : step ss n m = .inl r) : Run ss n m r := ⟨1, by simp only [runM, h]⟩
/-! ### the numbers of both -/
theorem val_ge : ∀ (l : List Nat) (acc : Nat), acc * 10 ^ l.length ≤ l.foldl (fun acc c => acc * 10 + (c - 48)) acc
  | [], acc => by simp
  | c :: l, acc => by
    have ih := val_ge l (acc * 10 + (c - 48))
    refine Nat.le_trans ?_ ih
    rw [List.length_cons, Nat.pow_succ, Nat.mul_comm (10 ^ l.length) 10, ← Nat.mul_assoc]
    exact Nat.mul_le_mul_right _ (by omega)
theorem numL_bad {i p : Nat} {msg : Str} (h : numP ss n i = .bad p msg) : numL ss i = some msg ∧ p = pAt ss n i := by
  unfold numP at h
  unfold numL
  split at h
  · rename_i c
    rw [if_pos c]
    cases h
    exact ⟨rfl, rfl⟩
  · rename_i c
    rw [if_neg c]
    split at h
    · rename_i c2
      cases h
      refine ⟨?_, rfl⟩
      rw [if_pos]
      rcases c2 with c2 | c2
      · have hd := dgs_all ss i
        cases e : dgs ss i with
        | nil => rw [e] at c2; simp at c2
        | cons a l =>
          rw [e] at c c2 hd
          have ha : a ≠ 48 := fun z => c (.inr ⟨by omega, by simp [z]⟩)
          have hda := of_decide_eq_true (hd a List.mem_cons_self)
          have g := val_ge l (0 * 10 + (a - 48))
          have hl : 10 ≤ l.length := by
            have : 10 < l.length + 1 := by simpa using c2
            omega
          show 1000000000 < l.foldl _ (0 * 10 + (a - 48))
          have p1 : 10 ^ 10 ≤ 10 ^ l.length := Nat.pow_le_pow_right (by decide) hl
          have p2 : 1 * 10 ^ l.length ≤ (0 * 10 + (a - 48)) * 10 ^ l.length := Nat.mul_le_mul_right _ (by omega)
          have p3 : (1000000000 : Nat) < 10 ^ 10 := by decide
          omega
      · exact c2
    · cases h
theorem numL_ok {i v j : Nat} (h : numP ss n i = .ok v j) : numL ss i = none ∧ j = i + (dgs ss i).length := by
  unfold numP at h
  unfold numL
  split at h
  · cases h
  · rename_i c
    rw [if_neg c]
    split at h
    · cases h
    · rename_i c2
      cases h
      exact ⟨if_neg fun z => c2 (.inr z), rfl⟩
/-- the ends of a reading, for the walk of states -/
def To (ss : Sg) (n : Nat) (m : M) (ns here : List Nat) (o : List Bool) (P : Option Nat → Prop) : Rz → Prop
  | .bad p msg => Run ss n m (some (p, msg))
  | .ok _ j => P (cAt ss j) ∧ ∀ r, Run ss n ⟨.behind, j, ns, here, o, false⟩ r → Run ss n m r
def PA (c : Option Nat) : Prop := c ≠ some 91 ∧ c ≠ some 94 ∧ c ≠ some 126 ∧ c ≠ some 60
def PI (c : Option Nat) : Prop := PA c ∧ c ≠ some 47
def PN (c : Option Nat) : Prop := PI c ∧ c ≠ some 43
theorem run_bad {st : Ms} {i p : Nat} {msg : Str} {ns here : List Nat} {o : List Bool} {b : Bool} (hst : isNum st = true) (hd : ¬ (st = .door ∧ cAt ss i = some 62 ∧ 0 < i ∧ cAt ss (i - 1) = some 60)) (h : numP ss n i = .bad p msg) :
    Run ss n ⟨st, i, ns, here, o, b⟩ (some (p, msg)) := by
  obtain ⟨h1, rfl⟩ := numL_bad h
  refine Run.stop ?_
  simp only [step, hst, if_true, if_neg hd, h1]
theorem run_ok {st : Ms} {i v j : Nat} {ns here : List Nat} {o : List Bool} {b : Bool} (hst : isNum st = true) (hd : ¬ (st = .door ∧ cAt ss i = some 62 ∧ 0 < i ∧ cAt ss (i - 1) = some 60)) (h : numP ss n i = .ok v j)
    (k : Run ss n ⟨nxNum st, j, ns, here, o, false⟩ r) : Run ss n ⟨st, i, ns, here, o, b⟩ r := by
  obtain ⟨h1, rfl⟩ := numL_ok h
  refine Run.go ?_ k
  simp only [step, hst, if_true, if_neg hd, h1]
theorem run_op {i c : Nat} {s : Ms} {ns here : List Nat} {o : List Bool} {b : Bool} (hc : cAt ss i = some c) (hs : opTo c = some s) (k : Run ss n ⟨s, i + 1, ns, here, o, false⟩ r) : Run ss n ⟨.behind, i, ns, here, o, b⟩ r := by
  refine Run.go ?_ k
  have h1 : ¬ (cAt ss i = some 123 ∧ b = true) := fun z => by
    rw [hc] at z
    have : c = 123 := by simpa using z.1
    subst this
    simp [opTo] at hs
  rw [hc] at h1
  simp only [step, isNum, Bool.false_eq_true, if_false, if_true, hc, if_neg h1, Option.bind_some, hs]
theorem run_one {st : Ms} {i c : Nat} {ns here : List Nat} {o : List Bool} {b : Bool} (h1 : isNum st = false) (h2 : st ≠ .behind) (hc : cAt ss i = some c) (hw : wanted ⟨st, i, ns, here, o, b⟩ (some c) = none) (k : Run ss n (later ⟨st, i, ns, here, o, b⟩ c) r) :
    Run ss n ⟨st, i, ns, here, o, b⟩ r := by
  refine Run.go ?_ k
  simp only [step, h1, Bool.false_eq_true, if_false, if_neg h2, hc, hw]
theorem run_wrong {st : Ms} {i : Nat} {msg : Str} {ns here : List Nat} {o : List Bool} {b : Bool} (h1 : isNum st = false) (h2 : st ≠ .behind) (hw : wanted ⟨st, i, ns, here, o, b⟩ (cAt ss i) = some msg) :
    Run ss n ⟨st, i, ns, here, o, b⟩ (some (pAt ss n i, msg)) := by
  refine Run.stop ?_
  simp only [step, h1, Bool.false_eq_true, if_false, if_neg h2, hw]
theorem to_brk {t : D} {i : Nat} {ns here : List Nat} {o : List Bool} {b : Bool} : To ss n ⟨.first, i, ns, here, o, b⟩ ns here o (fun _ => True) (bracketsP ss n t i) := by
  unfold bracketsP
  cases e : numP ss n i with
  | bad p msg => exact run_bad rfl (by simp) e
  | ok v j =>
    simp only []
    by_cases c : cAt ss j = some 61
    · rw [if_pos c]
      have go : ∀ r, Run ss n ⟨.second, j + 1, ns, here, o, false⟩ r → Run ss n ⟨.first, i, ns, here, o, b⟩ r := fun r k => run_ok rfl (by simp) e (run_one rfl (by simp [nxNum]) c (by simp [wanted, nxNum]) (by simpa [later, nxNum] using k))
      cases e2 : numP ss n (j + 1) with
      | bad p msg => exact go _ (run_bad rfl (by simp) e2)
      | ok u j2 =>
        simp only []
        by_cases c2 : cAt ss j2 = some 93
        · rw [if_pos c2]
          exact ⟨trivial, fun r k => go _ (run_ok rfl (by simp) e2 (run_one rfl (by simp [nxNum]) c2 (by simp [wanted, nxNum]) (by simpa [later, nxNum] using k)))⟩
        · rw [if_neg c2]
          exact go _ (run_ok rfl (by simp) e2 (run_wrong rfl (by simp [nxNum]) (by simp [wanted, nxNum, c2])))
    · rw [if_neg c]
      by_cases c2 : cAt ss j = some 93
      · rw [if_pos c2]
        exact ⟨trivial, fun r k => run_ok rfl (by simp) e (run_one rfl (by simp [nxNum]) c2 (by simp [wanted, nxNum]) (by simpa [later, nxNum] using k))⟩
      · rw [if_neg c2]
        exact run_ok rfl (by simp) e (run_wrong rfl (by simp [nxNum]) (by simp [wanted, nxNum, c, c2]))
def ToO (ss : Sg) (n : Nat) (m : M) (ns here : List Nat) (o : List Bool) : Ro → Prop
  | .bad p msg => Run ss n m (some (p, msg))
  | .ok _ j => ∀ r, Run ss n ⟨.behind, j, ns, here, o, false⟩ r → Run ss n m r
theorem to_ordL {ns here : List Nat} {o : List Bool} : ∀ (f i : Nat) (vs : List Nat) (b : Bool) (res : Ro), orderL ss n f vs i = some res → ToO ss n ⟨.comma, i, ns, here, o, b⟩ ns here o res
  | 0, _, _, _, _, h => by simp [orderL] at h
  | f + 1, i, vs, b, res, h => by
    simp only [orderL] at h
    by_cases c : cAt ss i = some 44
    · rw [if_pos c] at h
      have go : ∀ r, Run ss n ⟨.door, i + 1, ns, here, o, false⟩ r → Run ss n ⟨.comma, i, ns, here, o, b⟩ r := fun r k => run_one rfl (by simp) c (by simp [wanted]) (by simpa [later] using k)
      have hd : ¬ (Ms.door = .door ∧ cAt ss (i + 1) = some 62 ∧ 0 < i + 1 ∧ cAt ss (i + 1 - 1) = some 60) := fun z => by
        have := z.2.2.2
        rw [Nat.add_sub_cancel, c] at this
        cases this
      cases e : numP ss n (i + 1) with
      | bad p msg =>
        rw [e] at h
        obtain rfl : Ro.bad p msg = res := Option.some.inj h
        exact go _ (run_bad rfl hd e)
      | ok v j =>
        rw [e] at h
        have ih := to_ordL (ns := ns) (here := here) (o := o) f j (vs ++ [v]) false res h
        cases res with
        | bad p msg => exact go _ (run_ok rfl hd e ih)
        | ok us j2 => exact fun r k => go _ (run_ok rfl hd e (ih r k))
    · rw [if_neg c] at h
      by_cases c2 : cAt ss i = some 62
      · rw [if_pos c2] at h
        obtain rfl : Ro.ok vs (i + 1) = res := Option.some.inj h
        exact fun r k => run_one rfl (by simp) c2 (by simp [wanted]) (by simpa [later] using k)
      · rw [if_neg c2] at h
        obtain rfl : Ro.bad (pAt ss n i) "expected , or >" = res := Option.some.inj h
        exact run_wrong rfl (by simp) (by simp [wanted, c, c2])
theorem to_ord {ns here : List Nat} {o : List Bool} {f i : Nat} {b : Bool} {res : Ro} (hc : cAt ss i = some 60) (h : orderP ss n f (i + 1) = some res) : ToO ss n ⟨.door, i + 1, ns, here, o, b⟩ ns here o res := by
  unfold orderP at h
  by_cases c2 : cAt ss (i + 1) = some 62
  · rw [if_pos c2] at h
    obtain rfl : Ro.ok [] (i + 1 + 1) = res := Option.some.inj h
    refine fun r k => Run.go ?_ k
    simp only [step, isNum, if_true]
    rw [if_pos ⟨trivial, c2, by omega, by rw [Nat.add_sub_cancel]; exact hc⟩]
  · rw [if_neg c2] at h
    have hd : ¬ (Ms.door = .door ∧ cAt ss (i + 1) = some 62 ∧ 0 < i + 1 ∧ cAt ss (i + 1 - 1) = some 60) := fun z => c2 z.2.1
    cases e : numP ss n (i + 1) with
    | bad p msg =>
      rw [e] at h
      obtain rfl : Ro.bad p msg = res := Option.some.inj h
      exact run_bad rfl hd e
    | ok v j =>
      rw [e] at h
      have ih := to_ordL (ns := ns) (here := here) (o := o) f j [v] false res h
      cases res with
      | bad p msg => exact run_ok rfl hd e ih
      | ok us j2 => exact fun r k => run_ok rfl hd e (ih r k)
theorem To.from {m m' : M} {ns here : List Nat} {o : List Bool} {P : Option Nat → Prop} {res : Rz} (h : To ss n m ns here o P res) (k : ∀ r, Run ss n m r → Run ss n m' r) : To ss n m' ns here o P res := by
  cases res with
  | bad p msg => exact k _ h
  | ok t j => exact ⟨h.1, fun r q => k _ (h.2 r q)⟩
theorem behind_b {i : Nat} {ns here : List Nat} {o : List Bool} (b : Bool) (hc : cAt ss i ≠ some 123) (k : Run ss n ⟨.behind, i, ns, here, o, false⟩ r) : Run ss n ⟨.behind, i, ns, here, o, b⟩ r := by
  obtain ⟨f, hf⟩ := k
  refine ⟨f, ?_⟩
  cases f with
  | zero => exact hf
  | succ f =>
    have e : step ss n ⟨.behind, i, ns, here, o, b⟩ = step ss n ⟨.behind, i, ns, here, o, false⟩ := by
      simp [step, isNum, hc]
    simp only [runM, e] at hf ⊢
    exact hf
end
end Pb
namespace Pb
open PySem L2 Sl
section
variable {ss : Sg} {n : Nat} {m m' : M} {r : Option (Nat × Str)}
theorem op_none {c : Option Nat} (h : PN c) : c.bind opTo = none := by
  obtain ⟨⟨⟨h1, h2, h3, h4⟩, h5⟩, h6⟩ := h
  cases c with
  | none => rfl
  | some c =>
    show opTo c = none
    unfold opTo
    split <;> simp_all
theorem run_pop {j : Nat} {ns here : List Nat} {o : List Bool} (q : Bool) (hp : PN (cAt ss j)) (hc : cAt ss j = some (if q then 41 else 125)) (k : Run ss n ⟨.behind, j + 1, ns, here, o, !q⟩ r) : Run ss n ⟨.behind, j, ns, here, o ++ [q], false⟩ r := by
  refine Run.go ?_ k
  have h := op_none hp
  simp only [step, isNum, Bool.false_eq_true, if_false, if_true, and_false, h, List.getLast?_append, List.getLast?_singleton, Option.some_or, if_pos hc, List.dropLast_concat]
theorem run_nopop {j : Nat} {ns here : List Nat} {o : List Bool} (q : Bool) (hp : PN (cAt ss j)) (hc : cAt ss j ≠ some (if q then 41 else 125)) : Run ss n ⟨.behind, j, ns, here, o ++ [q], false⟩ (some (pAt ss n j, if q then "expected )" else "expected }")) := by
  refine Run.stop ?_
  have h := op_none hp
  simp only [step, isNum, Bool.false_eq_true, if_false, if_true, and_false, h, List.getLast?_append, List.getLast?_singleton, Option.some_or, if_neg hc]
end
theorem agree (ss : Sg) (n : Nat) (ns here : List Nat) : ∀ f : Nat,
    (∀ (o : List Bool) (b : Bool) i res, nestP ss n ns f o.length i = some res → To ss n ⟨.ground, i, ns, here, o, b⟩ ns here o PN res) ∧
    (∀ (o : List Bool) t i res, PI (cAt ss i) → nestL ss n ns f o.length t i = some res → To ss n ⟨.behind, i, ns, here, o, false⟩ ns here o PN res) ∧
    (∀ (o : List Bool) (b : Bool) i res, itemP ss n ns f o.length i = some res → To ss n ⟨.ground, i, ns, here, o, b⟩ ns here o PI res) ∧
    (∀ (o : List Bool) t i res, PA (cAt ss i) → itemL ss n ns f o.length t i = some res → To ss n ⟨.behind, i, ns, here, o, false⟩ ns here o PI res) ∧
    (∀ (o : List Bool) (b : Bool) i res, atomP ss n ns f o.length i = some res → To ss n ⟨.ground, i, ns, here, o, b⟩ ns here o PA res) ∧
    (∀ (o : List Bool) t i res, atomL ss n ns f o.length t i = some res → To ss n ⟨.behind, i, ns, here, o, false⟩ ns here o PA res) ∧
    (∀ (o : List Bool) (b : Bool) i res, groundP ss n ns f o.length i = some res → To ss n ⟨.ground, i, ns, here, o, b⟩ ns here o (fun _ => True) res) ∧
    (∀ (o : List Bool) k ds i res, filledL ss n ns f o.length k ds i = some res → To ss n ⟨.behind, i, ns, here, o, true⟩ ns here o (fun _ => True) res) := by
  intro f
  induction f with
  | zero => refine ⟨?_, ?_, ?_, ?_, ?_, ?_, ?_, ?_⟩ <;> intros <;> simp_all [nestP, nestL, itemP, itemL, atomP, atomL, groundP, filledL]
  | succ f ih =>
    obtain ⟨hN, hNL, hI, hIL, hA, hAL, hG, hF⟩ := ih
    refine ⟨?_, ?_, ?_, ?_, ?_, ?_, ?_, ?_⟩
    · intro o b i res h
      simp only [nestP] at h
      cases q : itemP ss n ns f o.length i with
      | none => rw [q] at h; cases h
      | some r =>
        have k := hI o b i r q
        rw [q] at h
        cases r with
        | bad p m =>
          obtain rfl : Rz.bad p m = res := Option.some.inj h
          exact k
        | ok t j => exact (hNL o t j res k.1 h).from k.2
    · intro o t i res hp h
      simp only [nestL] at h
      by_cases c : cAt ss i = some 43
      · rw [if_pos c] at h
        have go : ∀ r, Run ss n ⟨.ground, i + 1, ns, here, o, false⟩ r → Run ss n ⟨.behind, i, ns, here, o, false⟩ r := fun r k => run_op c rfl k
        cases q : itemP ss n ns f o.length (i + 1) with
        | none => rw [q] at h; cases h
        | some r =>
          have k := hI o false (i + 1) r q
          rw [q] at h
          cases r with
          | bad p m =>
            obtain rfl : Rz.bad p m = res := Option.some.inj h
            exact go _ k
          | ok u j => exact (hNL o (besideD t u) j res k.1 h).from fun r x => go r (k.2 r x)
      · rw [if_neg c] at h
        obtain rfl : Rz.ok t i = res := Option.some.inj h
        exact ⟨⟨hp, c⟩, fun r k => k⟩
    · intro o b i res h
      simp only [itemP] at h
      cases q : atomP ss n ns f o.length i with
      | none => rw [q] at h; cases h
      | some r =>
        have k := hA o b i r q
        rw [q] at h
        cases r with
        | bad p m =>
          obtain rfl : Rz.bad p m = res := Option.some.inj h
          exact k
        | ok t j => exact (hIL o t j res k.1 h).from k.2
    · intro o t i res hp h
      simp only [itemL] at h
      by_cases c : cAt ss i = some 47
      · rw [if_pos c] at h
        have go : ∀ r, Run ss n ⟨.many, i + 1, ns, here, o, false⟩ r → Run ss n ⟨.behind, i, ns, here, o, false⟩ r := fun r k => run_op c rfl k
        cases e : numP ss n (i + 1) with
        | bad p m =>
          rw [e] at h
          obtain rfl : Rz.bad p m = res := Option.some.inj h
          exact go _ (run_bad rfl (by simp) e)
        | ok v a =>
          rw [e] at h
          simp only [] at h
          have go2 : ∀ r, Run ss n ⟨.ground, a, ns, here, o, false⟩ r → Run ss n ⟨.behind, i, ns, here, o, false⟩ r := fun r k => go r (run_ok rfl (by simp) e k)
          cases q : atomP ss n ns f o.length a with
          | none => rw [q] at h; cases h
          | some r =>
            have k := hA o false a r q
            rw [q] at h
            cases r with
            | bad p m =>
              obtain rfl : Rz.bad p m = res := Option.some.inj h
              exact go2 _ k
            | ok u j => exact (hIL o (overD v t u) j res k.1 h).from fun r x => go2 r (k.2 r x)
      · rw [if_neg c] at h
        obtain rfl : Rz.ok t i = res := Option.some.inj h
        exact ⟨⟨hp, c⟩, fun r k => k⟩
    · intro o b i res h
      simp only [atomP] at h
      cases q : groundP ss n ns f o.length i with
      | none => rw [q] at h; cases h
      | some r =>
        have k := hG o b i r q
        rw [q] at h
        cases r with
        | bad p m =>
          obtain rfl : Rz.bad p m = res := Option.some.inj h
          exact k
        | ok t j => exact (hAL o t j res h).from k.2
    · intro o t i res h
      simp only [atomL] at h
      by_cases c1 : cAt ss i = some 91
      · rw [if_pos c1] at h
        have k := to_brk (ss := ss) (n := n) (t := t) (i := i + 1) (ns := ns) (here := here) (o := o) (b := false)
        have go : ∀ r, Run ss n ⟨.first, i + 1, ns, here, o, false⟩ r → Run ss n ⟨.behind, i, ns, here, o, false⟩ r := fun r k => run_op c1 rfl k
        cases q : bracketsP ss n t (i + 1) with
        | bad p m =>
          rw [q] at h k
          obtain rfl : Rz.bad p m = res := Option.some.inj h
          exact go _ k
        | ok u j =>
          rw [q] at h k
          exact (hAL o u j res h).from fun r x => go r (k.2 r x)
      rw [if_neg c1] at h
      by_cases c2 : cAt ss i = some 94
      · rw [if_pos c2] at h
        have go : ∀ r, Run ss n ⟨.copies, i + 1, ns, here, o, false⟩ r → Run ss n ⟨.behind, i, ns, here, o, false⟩ r := fun r k => run_op c2 rfl k
        cases e : numP ss n (i + 1) with
        | bad p m =>
          rw [e] at h
          obtain rfl : Rz.bad p m = res := Option.some.inj h
          exact go _ (run_bad rfl (by simp) e)
        | ok v a =>
          rw [e] at h
          exact (hAL o (powerD v t) a res h).from fun r x => go r (run_ok rfl (by simp) e x)
      rw [if_neg c2] at h
      by_cases c3 : cAt ss i = some 126
      · rw [if_pos c3] at h
        exact (hAL o (roundD t) (i + 1) res h).from fun r x => run_op c3 rfl x
      rw [if_neg c3] at h
      by_cases c4 : cAt ss i = some 60
      · rw [if_pos c4] at h
        have go : ∀ r, Run ss n ⟨.door, i + 1, ns, here, o, false⟩ r → Run ss n ⟨.behind, i, ns, here, o, false⟩ r := fun r k => run_op c4 rfl k
        cases q : orderP ss n f (i + 1) with
        | none => rw [q] at h; cases h
        | some r =>
          have k := to_ord (n := n) (ns := ns) (here := here) (o := o) (b := false) c4 q
          rw [q] at h
          cases r with
          | bad p m =>
            obtain rfl : Rz.bad p m = res := Option.some.inj h
            exact go _ k
          | ok us j => exact (hAL o (orderD us t) j res h).from fun r x => go r (k r x)
      rw [if_neg c4] at h
      obtain rfl : Rz.ok t i = res := Option.some.inj h
      exact ⟨⟨c1, c2, c3, c4⟩, fun r k => k⟩
    · intro o b i res h
      simp only [groundP] at h
      by_cases c : cAt ss i = some 40
      · rw [if_pos c] at h
        by_cases d20 : o.length = 20
        · rw [if_pos d20] at h
          obtain rfl : Rz.bad (pAt ss n i) "this is too deep" = res := Option.some.inj h
          exact run_wrong rfl (by simp) (by rw [c]; simp [wanted, isCp, d20])
        · rw [if_neg d20] at h
          have go : ∀ r, Run ss n ⟨.ground, i + 1, ns, here, o ++ [true], false⟩ r → Run ss n ⟨.ground, i, ns, here, o, b⟩ r := fun r k => run_one rfl (by simp) c (by simp [wanted, isCp, d20]) (by simpa [later] using k)
          have ho : (o ++ [true]).length = o.length + 1 := by simp
          cases q : nestP ss n ns f (o.length + 1) (i + 1) with
          | none => rw [q] at h; cases h
          | some r =>
            have k := hN (o ++ [true]) false (i + 1) r (by rw [ho]; exact q)
            rw [q] at h
            cases r with
            | bad p m =>
              obtain rfl : Rz.bad p m = res := Option.some.inj h
              exact go _ k
            | ok t j =>
              simp only [] at h
              by_cases c2 : cAt ss j = some 41
              · rw [if_pos c2] at h
                obtain rfl : Rz.ok t (j + 1) = res := Option.some.inj h
                exact ⟨trivial, fun r x => go r (k.2 r (run_pop true k.1 c2 x))⟩
              · rw [if_neg c2] at h
                obtain rfl : Rz.bad (pAt ss n j) "expected )" = res := Option.some.inj h
                exact go _ (k.2 _ (run_nopop true k.1 c2))
      · rw [if_neg c] at h
        cases hc : cAt ss i with
        | none =>
          rw [hc] at h
          obtain rfl : Rz.bad (pAt ss n i) "expected a maze" = res := Option.some.inj h
          exact run_wrong rfl (by simp) (by rw [hc]; simp [wanted])
        | some a =>
          have ha : a ≠ 40 := fun z => c (by rw [hc, z])
          rw [hc] at h
          simp only [] at h
          cases hcp : isCp a with
          | true =>
            rw [if_pos hcp] at h
            have hl : isLt a = false := by
              have := of_decide_eq_true hcp
              unfold isLt
              exact decide_eq_false (by omega)
            by_cases hin : a ∈ ns
            · rw [if_pos hin] at h
              obtain rfl : Rz.ok (nameD a) (i + 1) = res := Option.some.inj h
              exact ⟨trivial, fun r k => run_one rfl (by simp) hc (by simp [wanted, hcp, hin]) (by simpa [later, ha, hl] using k)⟩
            · rw [if_neg hin] at h
              obtain rfl : Rz.bad (pAt ss n i) "this name is not there" = res := Option.some.inj h
              exact run_wrong rfl (by simp) (by rw [hc]; simp [wanted, hcp, hin])
          | false =>
            rw [if_neg (by rw [hcp]; decide)] at h
            cases hlt : isLt a with
            | true =>
              rw [if_pos hlt] at h
              exact (hF o (a - 97) [] (i + 1) res h).from fun r k => run_one rfl (by simp) hc (by simp [wanted, hcp, ha, hlt]) (by simpa [later, ha, hlt] using k)
            | false =>
              rw [if_neg (by rw [hlt]; decide)] at h
              obtain rfl : Rz.bad (pAt ss n i) "expected a maze" = res := Option.some.inj h
              exact run_wrong rfl (by simp) (by rw [hc]; simp [wanted, hcp, ha, hlt])
    · intro o k ds i res h
      simp only [filledL] at h
      by_cases c : cAt ss i = some 123
      · rw [if_pos c] at h
        by_cases d20 : o.length = 20
        · rw [if_pos d20] at h
          obtain rfl : Rz.bad (pAt ss n i) "this is too deep" = res := Option.some.inj h
          refine Run.stop ?_
          simp [step, isNum, c, d20]
        · rw [if_neg d20] at h
          have go : ∀ r, Run ss n ⟨.place, i + 1, ns, here, o ++ [false], true⟩ r → Run ss n ⟨.behind, i, ns, here, o, true⟩ r := fun r k => by
            refine Run.go ?_ k
            simp [step, isNum, c, d20]
          cases e : numP ss n (i + 1) with
          | bad p m =>
            rw [e] at h
            obtain rfl : Rz.bad p m = res := Option.some.inj h
            exact go _ (run_bad rfl (by simp) e)
          | ok v a =>
            rw [e] at h
            simp only [] at h
            by_cases c2 : cAt ss a = some 58
            · rw [if_pos c2] at h
              have go2 : ∀ r, Run ss n ⟨.ground, a + 1, ns, here, o ++ [false], false⟩ r → Run ss n ⟨.behind, i, ns, here, o, true⟩ r := fun r k =>
                go r (run_ok rfl (by simp) e (run_one rfl (by simp [nxNum]) c2 (by simp [wanted, nxNum]) (by simpa [later, nxNum] using k)))
              have ho : (o ++ [false]).length = o.length + 1 := by simp
              cases q : nestP ss n ns f (o.length + 1) (a + 1) with
              | none => rw [q] at h; cases h
              | some r =>
                have kk := hN (o ++ [false]) false (a + 1) r (by rw [ho]; exact q)
                rw [q] at h
                cases r with
                | bad p m =>
                  obtain rfl : Rz.bad p m = res := Option.some.inj h
                  exact go2 _ kk
                | ok t j =>
                  simp only [] at h
                  by_cases c3 : cAt ss j = some 125
                  · rw [if_pos c3] at h
                    exact (hF o k (ds ++ [(v, t)]) (j + 1) res h).from fun r x => go2 r (kk.2 r (run_pop false kk.1 c3 x))
                  · rw [if_neg c3] at h
                    obtain rfl : Rz.bad (pAt ss n j) "expected }" = res := Option.some.inj h
                    exact go2 _ (kk.2 _ (run_nopop false kk.1 c3))
            · rw [if_neg c2] at h
              obtain rfl : Rz.bad (pAt ss n a) "expected a colon" = res := Option.some.inj h
              exact go _ (run_ok rfl (by simp) e (run_wrong rfl (by simp [nxNum]) (by simp [wanted, nxNum, c2])))
      · rw [if_neg c] at h
        obtain rfl : Rz.ok (letterD k ds) i = res := Option.some.inj h
        exact ⟨trivial, fun r x => behind_b true c x⟩
/-! ### lines, the book -/
theorem to_line {ss : Sg} {n f : Nat} {ns here : List Nat} {i : Nat} {b : Bool} {res : Rl} (h : lineP ss n f ns i = some res) : match res with
    | .bad p msg => Run ss n ⟨.name, i, ns, here, [], b⟩ (some (p, msg))
    | .ok c _ j => PN (cAt ss j) ∧ ∀ r, Run ss n ⟨.behind, j, ns, [c], [], false⟩ r → Run ss n ⟨.name, i, ns, here, [], b⟩ r := by
  unfold lineP at h
  cases hc : cAt ss i with
  | none =>
    rw [hc] at h
    obtain rfl : Rl.bad (pAt ss n i) "expected a name" = res := Option.some.inj h
    exact run_wrong rfl (by simp) (by rw [hc]; simp [wanted])
  | some c =>
    rw [hc] at h
    simp only [] at h
    cases hcp : isCp c with
    | false =>
      rw [if_neg (by rw [hcp]; decide)] at h
      obtain rfl : Rl.bad (pAt ss n i) "expected a name" = res := Option.some.inj h
      exact run_wrong rfl (by simp) (by rw [hc]; simp [wanted, hcp])
    | true =>
      rw [if_pos hcp] at h
      by_cases hin : c ∈ ns
      · rw [if_pos hin] at h
        obtain rfl : Rl.bad (pAt ss n i) "this name is there already" = res := Option.some.inj h
        exact run_wrong rfl (by simp) (by rw [hc]; simp [wanted, hcp, hin])
      · rw [if_neg hin] at h
        have go : ∀ r, Run ss n ⟨.eq, i + 1, ns, [c], [], false⟩ r → Run ss n ⟨.name, i, ns, here, [], b⟩ r := fun r k => run_one rfl (by simp) hc (by simp [wanted, hcp, hin]) (by simpa [later] using k)
        by_cases c2 : cAt ss (i + 1) = some 61
        · rw [if_pos c2] at h
          have go2 : ∀ r, Run ss n ⟨.ground, i + 2, ns, [c], [], false⟩ r → Run ss n ⟨.name, i, ns, here, [], b⟩ r := fun r k => go r (run_one rfl (by simp) c2 (by simp [wanted]) (by simpa [later] using k))
          cases q : nestP ss n ns f 0 (i + 2) with
          | none => rw [q] at h; cases h
          | some r =>
            have k := (agree ss n ns [c] f).1 [] false (i + 2) r q
            rw [q] at h
            cases r with
            | bad p m =>
              obtain rfl : Rl.bad p m = res := Option.some.inj h
              exact go2 _ k
            | ok t j =>
              obtain rfl : Rl.ok c t j = res := Option.some.inj h
              exact ⟨k.1, fun r x => go2 r (k.2 r x)⟩
        · rw [if_neg c2] at h
          obtain rfl : Rl.bad (pAt ss n (i + 1)) "expected =" = res := Option.some.inj h
          exact go _ (run_wrong rfl (by simp) (by simp [wanted, c2]))
def resB : Rb → Option (Nat × Str)
  | .bad p m => some (p, m)
  | .ok _ => none
theorem to_bookL {ss : Sg} {n : Nat} : ∀ (f : Nat) (ls : List (Nat × D)) (i c : Nat) (nm : List Nat) (res : Rb), PN (cAt ss i) → ls.map (·.1) = nm ++ [c] → bookL ss n f ls i = some res → Run ss n ⟨.behind, i, nm, [c], [], false⟩ (resB res)
  | 0, _, _, _, _, _, _, _, h => by simp [bookL] at h
  | f + 1, ls, i, c, nm, res, hp, hl, h => by
    simp only [bookL] at h
    have ho := op_none hp
    by_cases c1 : cAt ss i = some 59
    · rw [if_pos c1, hl] at h
      have go : ∀ r, Run ss n ⟨.name, i + 1, nm ++ [c], [c], [], false⟩ r → Run ss n ⟨.behind, i, nm, [c], [], false⟩ r := fun r k => by
        refine Run.go ?_ k
        simp only [step, isNum, Bool.false_eq_true, if_false, if_true, and_false, ho, List.getLast?_nil, if_pos c1]
      cases q : lineP ss n f (nm ++ [c]) (i + 1) with
      | none => rw [q] at h; cases h
      | some r =>
        have k := to_line (here := [c]) (b := false) q
        rw [q] at h
        cases r with
        | bad p m =>
          obtain rfl : Rb.bad p m = res := Option.some.inj h
          exact go _ k
        | ok c' t j => exact go _ (k.2 _ (to_bookL f _ j c' (nm ++ [c]) res k.1 (by rw [List.map_append, hl] <;> rfl) h))
    · rw [if_neg c1] at h
      by_cases c2 : cAt ss i = none
      · rw [if_pos c2] at h
        obtain rfl : Rb.ok ls = res := Option.some.inj h
        refine Run.stop ?_
        simp only [step, isNum, Bool.false_eq_true, if_false, if_true, and_false, ho, List.getLast?_nil, if_neg c1, if_pos c2]
        rfl
      · rw [if_neg c2] at h
        obtain rfl : Rb.bad (pAt ss n i) "expected ; or the end" = res := Option.some.inj h
        refine Run.stop ?_
        simp only [step, isNum, Bool.false_eq_true, if_false, if_true, and_false, ho, List.getLast?_nil, if_neg c1, if_neg c2]
        rfl
/-- the reader and the walk of states agree -/
theorem run_flaw {t : List Nat} (h : badSg (signsOf t) = none) : Run (signsOf t) t.length ⟨.name, 0, [], [], [], false⟩ (flOf t) := by
  obtain ⟨res, hr⟩ := book_enough t
  have e : flOf t = resB res := by
    unfold flOf bookOf
    rw [h]
    simp only [hr]
    cases res <;> rfl
  rw [e]
  unfold bookP at hr
  cases q : lineP (signsOf t) t.length (fuel t) [] 0 with
  | none => rw [q] at hr; cases hr
  | some r =>
    have k := to_line (here := []) (b := false) q
    rw [q] at hr
    cases r with
    | bad p m =>
      obtain rfl : Rb.bad p m = res := Option.some.inj hr
      exact k
    | ok c u j => exact k.2 _ (to_bookL _ _ j c [] res k.1 rfl hr)
end Pb
namespace Pb
open PySem L2 Sl
/-- the law's signs: the text's and one behind -/
def sgX (ss : Sg) (n : Nat) : Sg := ss ++ [(36, n)]
def cX (ss : Sg) (i : Nat) : Nat := (cAt ss i).getD 36
theorem sgX_at {ss : Sg} {n i : Nat} (h : i ≤ ss.length) : (sgX ss n)[i]? = some (cX ss i, pAt ss n i) := by
  unfold sgX cX cAt pAt
  by_cases hi : i < ss.length
  · rw [List.getElem?_append_left hi, List.getElem?_eq_getElem hi]
    simp
  · have : i = ss.length := by omega
    subst this
    rw [List.getElem?_append_right (Nat.le_refl _)]
    simp
theorem join_sg : ∀ l : List Nat, Str.join "" (l.map fun c => (⟨#[c]⟩ : Str)) = sg l
  | [] => by rfl
  | [c] => by rfl
  | c :: c2 :: l => by
    have ih := join_sg (c2 :: l)
    show (⟨#[c]⟩ : Str) ++ ("" : Str) ++ Str.join "" ((c2 :: l).map fun c => (⟨#[c]⟩ : Str)) = _
    rw [ih]
    have e : (⟨#[c]⟩ : Str) ++ ("" : Str) = sg [c] := by
      show Str.mk (#[c] ++ #[]) = _
      simp
    rw [e, sg_app]
    rfl
def msgD : Option Str → D
  | none => .non
  | some m => .str m
theorem dgs_lt {ss : Sg} {i : Nat} (h : i ≤ ss.length) : i + (dgs ss i).length ≤ ss.length := by
  unfold dgs
  have := (List.takeWhile_sublist (p := isDg) (l := (ss.drop i).map (·.1))).length_le
  rw [List.length_map, List.length_drop] at this
  omega
theorem dgs_map (ss : Sg) (n i : Nat) : (((sgX ss n).drop i).take (dgs ss i).length).map (·.1) = dgs ss i := by
  have h1 : (((ss.drop i).take (dgs ss i).length).map (·.1)) = dgs ss i := by
    rw [List.map_take]
    unfold dgs
    exact (List.prefix_iff_eq_take.mp (List.takeWhile_prefix _)).symm
  by_cases h : i ≤ ss.length
  · have hl := dgs_lt h
    unfold sgX
    rw [List.drop_append_of_le_length h, List.take_append_of_le_length (by rw [List.length_drop]; omega)]
    exact h1
  · have e : dgs ss i = [] := by
      unfold dgs
      rw [List.drop_of_length_le (by omega)]
      rfl
    rw [e]
    rfl
end Pb
namespace K20
open PySem PySem.Spec
open PyProof.Rows L2 Sl Pb
section
variable {P : Program} {w : World} {K : PySem.W.Frag} {mg : Str → Option Value} {base : Heap} {H H1 H2 : Hp} {E E' : XK} {Q : VK} {σ : L2.St} {B : Bool → Hp → Prop} {l : Addr}
def spNumber (K : PySem.W.Frag) : Sp := fun vs H Q _ => ∃ (L : Addr) (xs : List V) (ss : Sg) (n i : Nat), vs = [.ref L, .int (i : Int)] ∧ H L = some (.lst xs) ∧ RDs K H ((sgX ss n).map sgD) xs ∧ i ≤ ss.length ∧ ss.length ≤ 400 ∧
  ∀ v H', Ex H H' → RD K H' (.tup [.int ((dgs ss i).length : Int), msgD (numL ss i)]) v → Q v H'
theorem sx_at {ss : Sg} {n i : Nat} {xs : List V} (r : RDs K H ((sgX ss n).map sgD) xs) (hi : i ≤ ss.length) : ∃ a, atI xs (i : Int) = some (.ref a) ∧ SqT K H a [.str ⟨#[cX ss i]⟩, .int (pAt ss n i : Int)] := by
  obtain ⟨v, h1, h2⟩ := r.get (i := i) (d := sgD (cX ss i, pAt ss n i)) (by rw [List.getElem?_map, sgX_at hi] <;> rfl)
  obtain ⟨a, ys, rfl, h3, h4⟩ := h2.ofTup
  obtain ⟨v1, w1, rfl, q1, q2⟩ := h4.ofCons
  obtain ⟨v2, w2, rfl, q3, q4⟩ := q2.ofCons
  obtain rfl := q1.ofStr
  obtain rfl := q3.ofInt
  obtain rfl := q4.ofNil
  exact ⟨a, at_of rfl h1, h3⟩
theorem ok_number (T : Tx K mg) : Has P w K mg base 1 (a__law_number K) p__law_number (spNumber K) := by
  refine has_of (f__law_number T) (z__law_number T) (b__law_number T) (fun vs H Q E h => by obtain ⟨_, _, _, _, _, rfl, _⟩ := h; rfl) (fun cdv A outer s H vs Q E hr h => ?_)
  obtain ⟨L, xs, ss, n, i, rfl, hL, rx, hi, hss, k⟩ := h
  refine ⟨_, (pss_cons (ps_set (i := 2) (z__law_number T).nd rfl (Or.inl rfl) pe_int)
  (pss_cons (ps_while (passes_of rfl) (pt_cmpR oInSg (pe_ix (ixT K) (pe_ix (ixL K) (pv 0) (pe_op oAddI (pv 1) (pv 2)) (fun _ _ => rfl)) pe_int (fun _ _ => rfl)) pe_str rfl) (pss_one (ps_set (i := 2) (z__law_number T).nd rfl (Or.inl rfl) (pe_op oAddI (pv 2) pe_int))))
  (pss_cons (ps_set (i := 3) (z__law_number T).nd rfl (Or.inl rfl) (bmK K PySem.F.plainAttrs_str PySem.F.slot_str_join PySem.F.type_str_join mt_join pe_str (pa_cons (pe_lc (own := [("own", 4)]) rfl (z__law_number T).nd (listW K (pe_slice (slL K) (pv 0) (po_some (pv 1)) (po_some (pe_op oAddI (pv 1) (pv 2))))) (blkOk_by (N := n__law_number) (sc := defScope s__law_number) (by decide +kernel)) (fun _ _ _ _ _ => by exact (pg_name (i := 4) (z__law_number T).nd rfl (Or.inl rfl))) (fun _ _ _ _ _ => by exact pts_nil) (fun _ _ _ _ _ => by exact (pe_ix (ixT K) (pv 4) pe_int (fun _ _ => rfl)))) pa_nil)))
  (pss_cons (ps_if (PW.pt (pw_or (pt_cmpR op_eq (pv 2) pe_int (nomark _)) (pw_or1 (PW.pt (pw_and (pt_cmpR oGtI (pv 2) pe_int (nomark _)) (pw_and1 (pt_cmpR op_eq (pe_ix ix_str (pv 3) pe_int (fun _ _ => rfl)) pe_str (nomark _)))))))) (pss_one (ps_ret (pe_tup (pa_cons (pv 2) (pa_cons pe_str pa_nil))))) pss_nil)
  (pss_one (ps_ret (pe_tup (pa_cons (pv 2) (pa_cons (pe_ifExp (pt_cmpR oGtI (pe_callTy call_int_str (by rfl) (l_int T) (by decide +kernel) (pa_cons (pv 3) pa_nil)) (pe_op oPowI pe_int pe_int) (nomark _)) pe_str pe_non) pa_nil))))))))), ?_⟩
  refine ⟨fun m σ H1 => H1 = H ∧ ∃ kk : Nat, σ = [some (.ref L), some (.int (i : Int)), some (.int (kk : Int)), none, none] ∧ m = (dgs ss (i + kk)).length ∧ i + kk ≤ ss.length ∧ (dgs ss i).length = kk + (dgs ss (i + kk)).length, ⟨_, rfl, 0, rfl, rfl, by omega, by show (dgs ss i).length = 0 + (dgs ss (i + 0)).length; rw [Nat.add_zero]; omega⟩, ?_⟩
  rintro m σ H1 ⟨rfl, kk, rfl, rfl, hk, hlen⟩
  obtain ⟨a, g1, g2⟩ := sx_at rx hk
  have ei : ((i : Int) + (kk : Int)) = ((i + kk : Nat) : Int) := by omega
  refine ⟨_, rfl, _, rfl, _, rfl, _, _, rfl, rfl, L, _, _, _, rfl, rfl, SqL.of hL, by rw [ei]; exact g1, a, _, _, _, rfl, rfl, g2, rfl, _, _, rfl, rfl, isDg (cX ss (i + kk)), congrArg V.bl (dg_mem _), ifBH (fun hd => ?_) (fun hd => ?_)⟩
  · have hc : cAt ss (i + kk) = some (cX ss (i + kk)) := by
      unfold cX at hd ⊢
      cases q : cAt ss (i + kk) with
      | none => rw [q] at hd; exact absurd hd (by decide)
      | some c => rfl
    have hds := dgs_some hc hd
    have hlt := cAt_in hc
    refine ⟨fun σ' H' => H' = H1 ∧ ∃ k2 : Nat, k2 = kk + 1 ∧ σ' = [some (.ref L), some (.int (i : Int)), some (.int (k2 : Int)), none, none], ?_, ?_⟩
    · rintro σ' H' ⟨rfl, k2, rfl, rfl⟩
      rw [hds, List.length_cons] at hlen
      refine ⟨_, ?_, rfl, kk + 1, rfl, rfl, by omega, by rw [← Nat.add_assoc]; omega⟩
      rw [hds, List.length_cons, ← Nat.add_assoc]
      exact Nat.lt_succ_self _
    · exact ⟨_, rfl, _, _, rfl, rfl, rfl, kk + 1, rfl, rfl⟩
  · have h0 : dgs ss (i + kk) = [] := dgs_none fun c hc => by
      unfold cX at hd
      rw [hc] at hd
      exact hd
    rw [h0] at hlen
    have hlk : (dgs ss i).length = kk := by simpa using hlen
    have hg := dgs_map ss n i
    rw [hlk] at hg
    have hkl : kk ≤ 400 := by omega
    have ecut : cutV xs (some (i : Int)) (some ((i : Int) + (kk : Int))) = (xs.drop i).take kk := by
      have hxl := rx.len
      rw [List.length_map] at hxl
      have hxl2 : xs.length = ss.length + 1 := by rw [hxl]; unfold sgX; simp
      unfold cutV
      rw [ei, HT.sIx_nat, HT.sIx_nat, Nat.min_eq_left (by omega), Nat.min_eq_left (by omega)]
      congr 1
      omega
    have rcut : RDs K H1 ((((sgX ss n).drop i).take kk).map sgD) ((xs.drop i).take kk) := by
      rw [List.map_take, List.map_drop]
      exact (rx.drop i).take kk
    dsimp only
    refine ⟨rfl, _, rfl, _, rfl, _, rfl, _, rfl, _, rfl, _, _, rfl, rfl, _, rfl, L, xs, rfl, SqL.of hL, fun p hp => ?_⟩
    rw [ecut]
    refine ⟨p, rfl, ⟨_, .inl (.inl upd_same)⟩, fun l hn => lc_it (walk_list (xs := (xs.drop i).take kk)) (fun j H' => Ex (upd H1 p (.lst ((xs.drop i).take kk))) H' ∧ H' l = some (.lst (nmV ((dgs ss i).take j)))) ?_ (fun j H' _ h => .inl (.inl (h.1 _ _ upd_same))) ?_ ?_⟩
    · exact ⟨ex_new hn, upd_same⟩
    · rintro j x H2 H3 hj ⟨e2, hl2⟩ ⟨rfl, hx⟩
      obtain ⟨d0, m1, m2⟩ := rcut.getV hx
      rw [List.getElem?_map] at m1
      cases hq : (((sgX ss n).drop i).take kk)[j]? with
      | none => rw [hq] at m1; cases m1
      | some q =>
        rw [hq] at m1
        cases m1
        have hgj : (dgs ss i)[j]? = some q.1 := by rw [← hg, List.getElem?_map, hq] <;> rfl
        obtain ⟨b, ys, rfl, h3, h4⟩ := (m2.mono ((ex_new hp).trans e2).t).ofTup
        obtain ⟨v1, w1, rfl, q1, q2⟩ := h4.ofCons
        obtain ⟨v2, w2, rfl, q3, q4⟩ := q2.ofCons
        obtain rfl := q1.ofStr
        obtain rfl := q4.ofNil
        refine ⟨rfl, _, rfl, b, _, _, _, rfl, rfl, h3, rfl, _, hl2, ?_, ?_, ?_⟩
        · unfold nmV
          rw [List.length_map, List.length_take]
          exact Nat.lt_of_le_of_lt (show min j (dgs ss i).length ≤ 400 by omega) (by decide)
        · exact fun b o q => by
            by_cases hbl : b = l
            · subst hbl
              rw [hn] at q; cases q
            · rw [upd_ne hbl]; exact e2 b o q
        · rw [upd_same, take_snoc hgj]
          simp [nmV]
    · rintro H2 ⟨e2, hl2⟩
      have hlen2 : ((xs.drop i).take kk).length = (dgs ss i).length := by
        rw [rcut.len, List.length_map, ← List.length_map (f := (·.1)), hg]
      rw [hlen2, List.take_length] at hl2
      have ex2 := (ex_new hp).trans e2
      have hv : nmV (dgs ss i) = ((dgs ss i).map fun c => (⟨#[c]⟩ : Str)).map V.str := by simp [nmV]
      rw [hv] at hl2
      have s1 : ∀ l : List Nat, ((l.map fun c => (⟨#[c]⟩ : Str)).map (·.length)).sum = l.length := fun l => by
        induction l with
        | nil => rfl
        | cons a l ih => simp only [List.map_cons, List.sum_cons, List.length_cons, ih]; show 1 + _ = _; omega
      refine ⟨_, l, _, rfl, rfl, .inl (SqL.of hl2), ?_, ?_⟩
      · rw [s1]
        show _ + _ * 0 ≤ _
        omega
      · have ej : Txt.join "" ((dgs ss i).map fun c => (⟨#[c]⟩ : Str)) = sg (dgs ss i) := by
          show Builtin.Str.glued _ _ = _
          rw [StrLaws.glued_eq_join, join_sg]
        rw [ej]
        have hall := dgs_all ss i
        generalize hgg : dgs ss i = g at hlk hall k ⊢
        subst hlk
        have kq : ∀ (m : Option Str) (v : V) (H' : Hp), numL ss i = m → (∀ H3, RD K H3 (msgD m) v) → Ex H1 H' → ∀ q, H' q = none → Q (.ref q) (upd H' q (.tup [.int (g.length : Int), v])) := fun m v H' hm hv he q hq => by
          refine k _ _ (he.trans (ex_new hq)) ?_
          rw [hm]
          exact .tup (.inl (.inl upd_same)) (.cons (.int _) (.cons (hv _) .nil))
        have last : ¬ (g = [] ∨ (1 < g.length ∧ g.head? = some 48)) → tRet (tTup (tCons (tVar 2) (tCons (tIf (tTest (tOp rGtI (tCB (fun xs H Q => ∃ a n, xs = [V.str a] ∧ intText? a = some n ∧ a.length ≤ 640 ∧ Q (V.int n) H) (tCons (tVar 3) tNil)) (tOp rPowI (tC (V.int 10)) (tC (V.int 9))))) (tC (V.str "out of range")) (tC V.non)) tNil)))
            { nx := fun x H' => Q V.non H', rt := Q } [some (V.ref L), some (V.int (i : Int)), some (V.int (g.length : Int)), some (V.str (sg g)), none] H2 := fun hno => by
          have hne : g ≠ [] := fun z => hno (.inl z)
          have hint : PySem.intText? (sg g) = some ((NumText.digitsVal g : Nat) : Int) := by
            have := PySem.intText_digits (x := sg g) (fun c hc => ?_) (by simpa using hne) (by rw [sg_len]; omega)
            · simpa using this
            · have := hall c (by simpa using hc)
              exact of_decide_eq_true this
          refine ⟨_, rfl, _, rfl, _, _, rfl, hint, by rw [sg_len]; omega, _, _, rfl, rfl, ⟨by decide, by decide, by decide⟩, _, _, rfl, rfl, decide (1000000000 < NumText.digitsVal g), ?_, ifBH (fun hb => ?_) (fun hb => ?_)⟩
          · congr 1
            refine decide_eq_decide.mpr ?_
            show (10 : Int) ^ 9 < _ ↔ _
            omega
          · exact ⟨two_sz _ _, fun q hq => kq (some "out of range") _ _ (by unfold numL; rw [hgg, if_neg hno, if_pos (of_decide_eq_true hb)]) (fun _ => .str _) ex2 q hq⟩
          · exact ⟨two_sz _ _, fun q hq => kq none _ _ (by unfold numL; rw [hgg, if_neg hno, if_neg (of_decide_eq_false hb)]) (fun _ => .non) ex2 q hq⟩
        cases g with
        | nil =>
          refine ⟨_, rfl, rfl, true, vdec _, ?_⟩
          exact ⟨_, rfl, two_sz _ _, fun q hq => kq (some "expected a number") _ _ (by unfold numL; rw [hgg, if_pos (.inl rfl)]) (fun _ => .str _) ex2 q hq⟩
        | cons c g =>
          refine ⟨_, rfl, rfl, false, ndec (fun z => by have := V.int.inj z; simp at this; omega), ?_⟩
          refine ⟨_, rfl, _, _, rfl, rfl, decide (1 < (c :: g).length), ?_, ?_⟩
          · congr 1
            exact decide_eq_decide.mpr (by omega)
          · by_cases h1 : 1 < (c :: g).length
            · rw [decide_eq_true h1]
              refine ⟨_, rfl, _, _, c, rfl, rfl, by rw [sg_len]; exact sz4 (Nat.le_trans hkl (by decide)), at0 c g, rfl, decide (c = 48), sgE 48, ifBH (fun hb => ?_) (fun hb => ?_)⟩
              · exact ⟨_, rfl, two_sz _ _, fun q hq => kq (some "expected a number") _ _ (by unfold numL; rw [hgg, if_pos (.inr ⟨h1, by rw [of_decide_eq_true hb]; rfl⟩)]) (fun _ => .str _) ex2 q hq⟩
              · exact last fun z => z.elim (fun z => by cases z) fun z => of_decide_eq_false hb (Option.some.inj z.2)
            · rw [decide_eq_false h1]
              exact last fun z => z.elim (fun z => by cases z) fun z => h1 z.1
end
end K20
namespace Pb
open PySem L2 Sl
def Ms.word : Ms → Str
  | .name => "name" | .eq => "=" | .ground => "ground" | .many => "many" | .copies => "copies" | .first => "first" | .second => "second" | .door => "door" | .place => "place"
  | .equal => "equal" | .close => "close" | .comma => "comma" | .colon => ":" | .behind => "behind"
def msgV : Option Str → V
  | none => .non
  | some m => .str m
def toldK : List (Key × V) := [(.inr "=", .str "expected ="), (.inr "equal", .str "expected = or ]"), (.inr "close", .str "expected ]"), (.inr "comma", .str "expected , or >"), (.inr ":", .str "expected a colon")]
def fineK : List (Key × V) := [(.inr "=", .str "="), (.inr "equal", .str "=]"), (.inr "close", .str "]"), (.inr "comma", .str ",>"), (.inr ":", .str ":")]
end Pb
namespace K20
open PySem PySem.Spec
open PyProof.Rows L2 Sl Pb
section
variable {P : Program} {w : World} {K : PySem.W.Frag} {mg : Str → Option Value} {base : Heap} {H H1 H2 : Hp} {E E' : XK} {Q : VK} {σ : L2.St} {B : Bool → Hp → Prop} {l : Addr}
def spWanted (K : PySem.W.Frag) : Sp := fun vs H Q _ => ∃ (m : M) (co : Option Nat) (l : Addr) (hv : V), vs = [.str m.st.word, .str ⟨#[co.getD 36]⟩, .ref l, hv, .int (m.o.length : Int)] ∧ SqL K H l (nmV m.ns) ∧ co ≠ some 36 ∧ isNum m.st = false ∧ m.st ≠ .behind ∧
  ∀ H', Ex H H' → Q (msgV (wanted m co)) H'
theorem ok_wanted (T : Tx K mg) : Has P w K mg base 1 (a__law_wanted K) p__law_wanted (spWanted K) := by
  refine has_of (f__law_wanted T) (z__law_wanted T) (b__law_wanted T) (fun vs H Q E h => by obtain ⟨_, _, _, _, rfl, _⟩ := h; rfl) (fun cdv A outer s H vs Q E hr h => ?_)
  obtain ⟨⟨st, i, ns, here, o, b⟩, co, l, hv, rfl, hl, hco, h1, h2, k⟩ := h
  refine ⟨_, (pss_cons (ps_if (pt_cmpR op_eq (pv 0) pe_str (nomark _)) (pss_one (ps_ret (pe_ifExp (pt_cmpR oNiSg (pv 1) pe_str rfl) pe_str (pe_ifExp (pt_cmpR (inK K) (pv 1) (pv 2) rfl) pe_str pe_non)))) pss_nil)
  (pss_cons (ps_if (pt_cmpR op_eq (pv 0) pe_str (nomark _)) (pss_cons (ps_if (pt_cmpR oInSg (pv 1) pe_str rfl) (pss_one (ps_ret (pe_ifExp (pt_cmpR (inK K) (pv 1) (pv 2) rfl) pe_non pe_str))) pss_nil)
  (pss_cons (ps_if (pt_cmpR op_eq (pv 1) pe_str (nomark _)) (pss_one (ps_ret (pe_ifExp (pt_cmpR op_eq (pv 4) pe_int (nomark _)) pe_str pe_non))) pss_nil)
  (pss_one (ps_ret (pe_ifExp (pt_cmpR oInSg (pv 1) pe_str rfl) pe_non pe_str))))) pss_nil)
  (pss_cons (ps_set (i := 5) (z__law_wanted T).nd rfl (Or.inl rfl) (pe_disp (pps_cons pe_str pe_str (pps_cons pe_str pe_str (pps_cons pe_str pe_str (pps_cons pe_str pe_str (pps_cons pe_str pe_str pps_nil))))) (by rfl) (by rfl) (fun z => by cases z) (by decide)))
  (pss_cons (ps_set (i := 6) (z__law_wanted T).nd rfl (Or.inl rfl) (pe_disp (pps_cons pe_str pe_str (pps_cons pe_str pe_str (pps_cons pe_str pe_str (pps_cons pe_str pe_str (pps_cons pe_str pe_str pps_nil))))) (by rfl) (by rfl) (fun z => by cases z) (by decide)))
  (pss_one (ps_ret (pe_ifExp (pt_cmpR oInSg (pv 1) (pe_dget (hu_of hr) (pv 6) (pv 0) (fun _ _ => rfl)) rfl) pe_non (pe_dget (hu_of hr) (pv 5) (pv 0) (fun _ _ => rfl))))))))), ?_⟩
  have e36 : isCp 36 = false := by decide
  have l36 : isLt 36 = false := by decide
  have kk : ∀ msg, wanted ⟨st, i, ns, here, o, b⟩ co = msg → ∀ H', Ex H H' → Q (msgV msg) H' := fun msg e => e ▸ k
  cases st with
  | name =>
    refine ⟨_, rfl, rfl, true, vdec _, ?_⟩
    refine ⟨_, rfl, _, _, rfl, rfl, !isCp (co.getD 36), congrArg (fun b => V.bl (!b)) (cp_mem _), ?_⟩
    cases co with
    | none => exact ifBH (fun _ => kk (some "expected a name") rfl _ (Ex.refl _)) (fun hb => by simp [e36] at hb)
    | some c =>
      cases hcp : isCp c with
      | false => exact ifBH (fun _ => kk (some "expected a name") (by simp [wanted, hcp]) _ (Ex.refl _)) (fun hb => by simp [hcp] at hb)
      | true =>
        refine ifBH (fun hb => by simp [hcp] at hb) (fun _ => ?_)
        refine ⟨_, rfl, _, rfl, l, _, rfl, .inl hl, rfl, nm_flat ns, decide (c ∈ ns), (by show V.bl (inV _ _) = _; rw [show (some c).getD 36 = c from rfl, inV_nm]), ifBH (fun hb => ?_) (fun hb => ?_)⟩
        · exact kk (some "this name is there already") (by simp [wanted, hcp, of_decide_eq_true hb]) _ (Ex.refl _)
        · exact kk none (by simp [wanted, hcp, of_decide_eq_false hb]) _ (Ex.refl _)
  | ground =>
    refine ⟨_, rfl, rfl, false, ndec (show V.str "ground" ≠ V.str "name" by decide +kernel), ?_⟩
    refine ⟨_, rfl, rfl, true, vdec _, ?_⟩
    refine ⟨_, rfl, _, _, rfl, rfl, isCp (co.getD 36), congrArg V.bl (cp_mem _), ?_⟩
    cases co with
    | none =>
      refine ifBH (fun hb => by simp [e36] at hb) (fun _ => ?_)
      refine ⟨_, rfl, rfl, decide (36 = 40), sgE 40, ifBH (fun hb => by simp at hb) (fun _ => ?_)⟩
      refine ⟨_, rfl, _, _, rfl, rfl, isLt 36, congrArg V.bl (lt_mem _), ifBH (fun hb => by simp [l36] at hb) (fun _ => ?_)⟩
      exact kk (some "expected a maze") rfl _ (Ex.refl _)
    | some c =>
      refine ifBH (fun hcp => ?_) (fun hcp => ?_)
      · have hcp : isCp c = true := hcp
        refine ⟨_, rfl, _, rfl, l, _, rfl, .inl hl, rfl, nm_flat ns, decide (c ∈ ns), (by show V.bl (inV _ _) = _; rw [show (some c).getD 36 = c from rfl, inV_nm]), ifBH (fun hb => ?_) (fun hb => ?_)⟩
        · exact kk none (by simp [wanted, hcp, of_decide_eq_true hb]) _ (Ex.refl _)
        · exact kk (some "this name is not there") (by simp [wanted, hcp, of_decide_eq_false hb]) _ (Ex.refl _)
      · have hcp : isCp c = false := hcp
        refine ⟨_, rfl, rfl, decide (c = 40), sgE 40, ifBH (fun hb => ?_) (fun hb => ?_)⟩
        · have hb := of_decide_eq_true hb
          refine ⟨_, rfl, rfl, decide (o.length = 20), ?_, ifBH (fun h20 => ?_) (fun h20 => ?_)⟩
          · congr 1
            exact decide_eq_decide.mpr ⟨fun z => by have : (o.length : Int) = 20 := V.int.inj z; omega, fun z => congrArg (fun n : Nat => V.int (n : Int)) z⟩
          · exact kk (some "this is too deep") (by simp [wanted, hcp, hb, of_decide_eq_true h20, e36]; try simp [isCp]) _ (Ex.refl _)
          · exact kk none (by simp [wanted, hcp, hb, of_decide_eq_false h20]; try simp [isCp]) _ (Ex.refl _)
        · have hb := of_decide_eq_false hb
          refine ⟨_, rfl, _, _, rfl, rfl, isLt c, congrArg V.bl (lt_mem _), ifBH (fun hlt => ?_) (fun hlt => ?_)⟩
          · exact kk none (by simp [wanted, hcp, hb, hlt]) _ (Ex.refl _)
          · exact kk (some "expected a maze") (by simp [wanted, hcp, hb, hlt]) _ (Ex.refl _)
  | behind => exact absurd rfl h2
  | many => cases h1
  | copies => cases h1
  | first => cases h1
  | second => cases h1
  | door => cases h1
  | place => cases h1
  | eq =>
    refine ⟨_, rfl, rfl, false, ndec (show V.str "=" ≠ V.str "name" by decide +kernel), ?_⟩
    refine ⟨_, rfl, rfl, false, ndec (show V.str "=" ≠ V.str "ground" by decide +kernel), ?_⟩
    refine fun p1 hp1 => ⟨upd_same, toldK, rfl, by decide, fun p2 hp2 => ⟨upd_same, fineK, rfl, by decide, ?_⟩⟩
    have e1 := ex_new2 (a := .dK []) (b := .dK (mergeK [] toldK)) hp1
    have e2 := ex_new2 (a := .dK []) (b := .dK (mergeK [] fineK)) hp2
    refine ⟨_, rfl, _, rfl, _, rfl, p2, .str "=", rfl, .inl ⟨_, .inr "=", .inl upd_same, rfl, by decide +kernel⟩, co.getD 36, _, rfl, rfl, decide (co = some 61), ?_, ifBH (fun hb => ?_) (fun hb => ?_)⟩
    · congr 1
      exact decide_eq_decide.mpr (by rw [show ("=" : Str).cps.toList = [61] by decide +kernel]; cases co <;> simp <;> omega)
    · exact kk none (by simp [wanted, of_decide_eq_true hb]) _ (e1.trans e2)
    · refine ⟨_, rfl, _, rfl, p1, .str "expected =", rfl, .inl ⟨_, .inr "=", .inl (e2 _ _ upd_same), rfl, by decide +kernel⟩, ?_⟩
      exact kk (some "expected =") (by simp only [wanted]; rw [if_neg (of_decide_eq_false hb)]) _ (e1.trans e2)
  | equal =>
    refine ⟨_, rfl, rfl, false, ndec (show V.str "equal" ≠ V.str "name" by decide +kernel), ?_⟩
    refine ⟨_, rfl, rfl, false, ndec (show V.str "equal" ≠ V.str "ground" by decide +kernel), ?_⟩
    refine fun p1 hp1 => ⟨upd_same, toldK, rfl, by decide, fun p2 hp2 => ⟨upd_same, fineK, rfl, by decide, ?_⟩⟩
    have e1 := ex_new2 (a := .dK []) (b := .dK (mergeK [] toldK)) hp1
    have e2 := ex_new2 (a := .dK []) (b := .dK (mergeK [] fineK)) hp2
    refine ⟨_, rfl, _, rfl, _, rfl, p2, .str "=]", rfl, .inl ⟨_, .inr "equal", .inl upd_same, rfl, by decide +kernel⟩, co.getD 36, _, rfl, rfl, decide (co = some 61 ∨ co = some 93), ?_, ifBH (fun hb => ?_) (fun hb => ?_)⟩
    · congr 1
      exact decide_eq_decide.mpr (by rw [show ("=]" : Str).cps.toList = [61, 93] by decide +kernel]; cases co <;> simp <;> omega)
    · exact kk none (by simp [wanted, of_decide_eq_true hb]) _ (e1.trans e2)
    · refine ⟨_, rfl, _, rfl, p1, .str "expected = or ]", rfl, .inl ⟨_, .inr "equal", .inl (e2 _ _ upd_same), rfl, by decide +kernel⟩, ?_⟩
      exact kk (some "expected = or ]") (by simp only [wanted]; rw [if_neg (of_decide_eq_false hb)]) _ (e1.trans e2)
  | close =>
    refine ⟨_, rfl, rfl, false, ndec (show V.str "close" ≠ V.str "name" by decide +kernel), ?_⟩
    refine ⟨_, rfl, rfl, false, ndec (show V.str "close" ≠ V.str "ground" by decide +kernel), ?_⟩
    refine fun p1 hp1 => ⟨upd_same, toldK, rfl, by decide, fun p2 hp2 => ⟨upd_same, fineK, rfl, by decide, ?_⟩⟩
    have e1 := ex_new2 (a := .dK []) (b := .dK (mergeK [] toldK)) hp1
    have e2 := ex_new2 (a := .dK []) (b := .dK (mergeK [] fineK)) hp2
    refine ⟨_, rfl, _, rfl, _, rfl, p2, .str "]", rfl, .inl ⟨_, .inr "close", .inl upd_same, rfl, by decide +kernel⟩, co.getD 36, _, rfl, rfl, decide (co = some 93), ?_, ifBH (fun hb => ?_) (fun hb => ?_)⟩
    · congr 1
      exact decide_eq_decide.mpr (by rw [show ("]" : Str).cps.toList = [93] by decide +kernel]; cases co <;> simp <;> omega)
    · exact kk none (by simp [wanted, of_decide_eq_true hb]) _ (e1.trans e2)
    · refine ⟨_, rfl, _, rfl, p1, .str "expected ]", rfl, .inl ⟨_, .inr "close", .inl (e2 _ _ upd_same), rfl, by decide +kernel⟩, ?_⟩
      exact kk (some "expected ]") (by simp only [wanted]; rw [if_neg (of_decide_eq_false hb)]) _ (e1.trans e2)
  | comma =>
    refine ⟨_, rfl, rfl, false, ndec (show V.str "comma" ≠ V.str "name" by decide +kernel), ?_⟩
    refine ⟨_, rfl, rfl, false, ndec (show V.str "comma" ≠ V.str "ground" by decide +kernel), ?_⟩
    refine fun p1 hp1 => ⟨upd_same, toldK, rfl, by decide, fun p2 hp2 => ⟨upd_same, fineK, rfl, by decide, ?_⟩⟩
    have e1 := ex_new2 (a := .dK []) (b := .dK (mergeK [] toldK)) hp1
    have e2 := ex_new2 (a := .dK []) (b := .dK (mergeK [] fineK)) hp2
    refine ⟨_, rfl, _, rfl, _, rfl, p2, .str ",>", rfl, .inl ⟨_, .inr "comma", .inl upd_same, rfl, by decide +kernel⟩, co.getD 36, _, rfl, rfl, decide (co = some 44 ∨ co = some 62), ?_, ifBH (fun hb => ?_) (fun hb => ?_)⟩
    · congr 1
      exact decide_eq_decide.mpr (by rw [show (",>" : Str).cps.toList = [44, 62] by decide +kernel]; cases co <;> simp <;> omega)
    · exact kk none (by simp [wanted, of_decide_eq_true hb]) _ (e1.trans e2)
    · refine ⟨_, rfl, _, rfl, p1, .str "expected , or >", rfl, .inl ⟨_, .inr "comma", .inl (e2 _ _ upd_same), rfl, by decide +kernel⟩, ?_⟩
      exact kk (some "expected , or >") (by simp only [wanted]; rw [if_neg (of_decide_eq_false hb)]) _ (e1.trans e2)
  | colon =>
    refine ⟨_, rfl, rfl, false, ndec (show V.str ":" ≠ V.str "name" by decide +kernel), ?_⟩
    refine ⟨_, rfl, rfl, false, ndec (show V.str ":" ≠ V.str "ground" by decide +kernel), ?_⟩
    refine fun p1 hp1 => ⟨upd_same, toldK, rfl, by decide, fun p2 hp2 => ⟨upd_same, fineK, rfl, by decide, ?_⟩⟩
    have e1 := ex_new2 (a := .dK []) (b := .dK (mergeK [] toldK)) hp1
    have e2 := ex_new2 (a := .dK []) (b := .dK (mergeK [] fineK)) hp2
    refine ⟨_, rfl, _, rfl, _, rfl, p2, .str ":", rfl, .inl ⟨_, .inr ":", .inl upd_same, rfl, by decide +kernel⟩, co.getD 36, _, rfl, rfl, decide (co = some 58), ?_, ifBH (fun hb => ?_) (fun hb => ?_)⟩
    · congr 1
      exact decide_eq_decide.mpr (by rw [show (":" : Str).cps.toList = [58] by decide +kernel]; cases co <;> simp <;> omega)
    · exact kk none (by simp [wanted, of_decide_eq_true hb]) _ (e1.trans e2)
    · refine ⟨_, rfl, _, rfl, p1, .str "expected a colon", rfl, .inl ⟨_, .inr ":", .inl (e2 _ _ upd_same), rfl, by decide +kernel⟩, ?_⟩
      exact kk (some "expected a colon") (by simp only [wanted]; rw [if_neg (of_decide_eq_false hb)]) _ (e1.trans e2)
end
end K20
namespace Pb
open PySem L2 Sl
theorem all_list : ("abcdefABCDEFGHIJKLMNOPQRSTUVWXYZ0123456789+/()[]=^~<>,{}:; " : Str).cps.toList = ("abcdef" : Str).cps.toList ++ (("ABCDEFGHIJKLMNOPQRSTUVWXYZ" : Str).cps.toList ++ (("0123456789" : Str).cps.toList ++ ([43, 47, 40, 41, 91, 93, 61, 94, 126, 60, 62, 44, 123, 125, 58, 59] ++ [32]))) := by decide +kernel
theorem all_mem (c : Nat) : decide (c ∈ ("abcdefABCDEFGHIJKLMNOPQRSTUVWXYZ0123456789+/()[]=^~<>,{}:; " : Str).cps.toList) = (okSg c || c == 32) := by
  have h1 := lt_mem c
  have h2 := cp_mem c
  have h3 := dg_mem c
  rw [all_list]
  unfold okSg
  rw [← h1, ← h2, ← h3, Bool.eq_iff_iff]
  simp only [Bool.or_eq_true, decide_eq_true_eq, List.mem_append, or_assoc, beq_iff_eq, List.mem_singleton]
theorem bad_zip (t : List Nat) : badSg (signsOf t) = (t.zipIdx.find? fun p => !(okSg p.1 || p.1 == 32)).map (·.2) := by
  unfold badSg signsOf
  rw [List.find?_filter]
  congr 1
  congr 1
  funext p
  cases h : okSg p.1 <;> cases h2 : (p.1 == 32) <;> simp_all
def numK : List (Key × V) := [(.inr "many", .str "ground"), (.inr "copies", .str "behind"), (.inr "first", .str "equal"), (.inr "second", .str "close"), (.inr "door", .str "comma"), (.inr "place", .str ":")]
def aftK : List (Key × V) := [(.inr "=", .str "ground"), (.inr "equal", .str "second"), (.inr "close", .str "behind"), (.inr ":", .str "ground")]
def opK : List (Key × V) := [(.inr "+", .str "ground"), (.inr "/", .str "many"), (.inr "[", .str "first"), (.inr "^", .str "copies"), (.inr "~", .str "behind"), (.inr "<", .str "door")]
theorem num_get (s : Ms) : valV (mergeK [] numK) (.inr s.word) = if isNum s = true then some (.str (nxNum s).word) else none := by cases s <;> decide +kernel
theorem word_eq (s s2 : Ms) : decide (V.str s.word = V.str s2.word) = decide (s = s2) := by cases s <;> cases s2 <;> decide +kernel
def oV (o : List Bool) : List V := o.map fun q => .str (if q then "(" else "{")
theorem oV_len (o : List Bool) : (oV o).length = o.length := by simp [oV]
theorem op_list : ("+/[^~<" : Str).cps.toList = [43, 47, 91, 94, 126, 60] := by decide +kernel
theorem op_mem (c : Nat) : decide (c ∈ ("+/[^~<" : Str).cps.toList) = (opTo c).isSome := by
  rw [op_list]
  unfold opTo
  split <;> simp_all
theorem op_get {c : Nat} {s : Ms} (h : opTo c = some s) : valV (mergeK [] opK) (.inr ⟨#[c]⟩) = some (.str s.word) := by
  unfold opTo at h
  split at h <;> first | cases h | skip
  all_goals decide +kernel
/-- what holds of a state -/
structure Good (ss : Sg) (m : M) : Prop where
  i : m.i ≤ ss.length
  h : m.st = .name ∨ ∃ c, m.here = [c]
  d : m.st = .door → 0 < m.i
  o : m.o.length ≤ 20
  n : m.ns.length ≤ m.i
theorem good_step {ss : Sg} {n : Nat} {m m' : M} (g : Good ss m) (e : step ss n m = .inr m') : Good ss m' := by
  obtain ⟨st, i, ns, here, o, b⟩ := m
  obtain ⟨g1, g2, g3, g4, g5⟩ := g
  dsimp only at g1 g2 g3 g4 g5
  unfold step at e
  dsimp only at e
  split at e
  · rename_i hn
    have gh : ∃ c, here = [c] := g2.resolve_left fun z => by rw [z] at hn; cases hn
    split at e
    · rename_i hd
      cases e
      have := cAt_in hd.2.1
      exact ⟨by show i + 1 ≤ _; omega, .inr gh, (fun z => by cases z), g4, by show ns.length ≤ i + 1; omega⟩
    · split at e
      · cases e
      · cases e
        refine ⟨dgs_lt g1, .inr gh, fun z => ?_, g4, by show ns.length ≤ i + (dgs ss i).length; omega⟩
        cases st <;> cases hn <;> cases z
  · rename_i hn
    split at e
    · rename_i hb
      subst hb
      have gh : ∃ c, here = [c] := g2.resolve_left fun z => by cases z
      split at e
      · rename_i h1
        have := cAt_in h1.1
        split at e
        · cases e
        · cases e
          refine ⟨by show i + 1 ≤ _; omega, .inr gh, (fun z => by cases z), ?_, by show ns.length ≤ i + 1; omega⟩
          show (o ++ [false]).length ≤ 20
          rw [List.length_append]
          show o.length + 1 ≤ 20
          omega
      · split at e
        · rename_i s hs
          have hlt : i < ss.length := by
            cases z : cAt ss i with
            | none => rw [z] at hs; cases hs
            | some c => exact cAt_in z
          cases e
          exact ⟨by show i + 1 ≤ _; omega, .inr gh, (fun _ => by show 0 < i + 1; omega), g4, by show ns.length ≤ i + 1; omega⟩
        · split at e
          · rename_i q hq
            by_cases hc : cAt ss i = some (if q = true then 41 else 125)
            · rw [if_pos hc] at e
              have := cAt_in hc
              cases e
              refine ⟨by show i + 1 ≤ _; omega, .inr gh, (fun z => by cases z), ?_, by show ns.length ≤ i + 1; omega⟩
              show o.dropLast.length ≤ 20
              rw [List.length_dropLast]
              omega
            · rw [if_neg hc] at e
              cases e
          · split at e
            · rename_i hc
              have := cAt_in hc
              cases e
              obtain ⟨c, rfl⟩ := gh
              refine ⟨by show i + 1 ≤ _; omega, .inl rfl, (fun z => by cases z), g4, ?_⟩
              show (ns ++ [c]).length ≤ i + 1
              rw [List.length_append]
              show ns.length + 1 ≤ i + 1
              omega
            · cases e
    · rename_i hb
      split at e
      · cases e
      · rename_i c hw hc
        have := cAt_in hc
        cases e
        cases st with
        | name => exact ⟨by show i + 1 ≤ _; omega, .inr ⟨c, rfl⟩, (fun z => by cases z), g4, by show ns.length ≤ i + 1; omega⟩
        | ground =>
          have gh : ∃ c, here = [c] := g2.resolve_left fun z => by cases z
          unfold later
          dsimp only
          split
          · rename_i h40
            refine ⟨by show i + 1 ≤ _; omega, .inr gh, (fun z => by cases z), ?_, by show ns.length ≤ i + 1; omega⟩
            have : o.length ≠ 20 := fun z => by
              rw [hc] at hw
              simp [wanted, h40, z, isCp] at hw
            show (o ++ [true]).length ≤ 20
            rw [List.length_append]
            show o.length + 1 ≤ 20
            omega
          · exact ⟨by show i + 1 ≤ _; omega, .inr gh, (fun z => by cases z), g4, by show ns.length ≤ i + 1; omega⟩
        | comma =>
          have gh : ∃ c, here = [c] := g2.resolve_left fun z => by cases z
          exact ⟨by show i + 1 ≤ _; omega, .inr gh, (fun _ => by show 0 < i + 1; omega), g4, by show ns.length ≤ i + 1; omega⟩
        | eq =>
          have gh : ∃ c, here = [c] := g2.resolve_left fun z => by cases z
          exact ⟨by show i + 1 ≤ _; omega, .inr gh, (fun z => by cases z), g4, by show ns.length ≤ i + 1; omega⟩
        | equal =>
          have gh : ∃ c, here = [c] := g2.resolve_left fun z => by cases z
          refine ⟨by show i + 1 ≤ _; omega, .inr gh, (fun z => ?_), g4, by show ns.length ≤ i + 1; omega⟩
          show 0 < i + 1
          omega
        | close =>
          have gh : ∃ c, here = [c] := g2.resolve_left fun z => by cases z
          exact ⟨by show i + 1 ≤ _; omega, .inr gh, (fun z => by cases z), g4, by show ns.length ≤ i + 1; omega⟩
        | colon =>
          have gh : ∃ c, here = [c] := g2.resolve_left fun z => by cases z
          exact ⟨by show i + 1 ≤ _; omega, .inr gh, (fun z => by cases z), g4, by show ns.length ≤ i + 1; omega⟩
        | behind => exact absurd rfl hb
        | many => exact absurd rfl hn
        | copies => exact absurd rfl hn
        | first => exact absurd rfl hn
        | second => exact absurd rfl hn
        | door => exact absurd rfl hn
        | place => exact absurd rfl hn
      · cases e
theorem wanted_none {m : M} (h1 : isNum m.st = false) (h2 : m.st ≠ .behind) : wanted m none ≠ none := by
  obtain ⟨st, i, ns, here, o, b⟩ := m
  cases st <;> simp_all [wanted, isNum]
theorem iteT' {A B : Prop} {b : Bool} (h : b = true) (a : A) : if b = true then A else B := by rw [if_pos h]; exact a
theorem oV_t (o : List Bool) : oV (o ++ [true]) = oV o ++ [.str "("] := by simp [oV]
theorem oV_f (o : List Bool) : oV (o ++ [false]) = oV o ++ [.str "{"] := by simp [oV]
theorem cut_last (xs : List V) (v : V) : cutV (xs ++ [v]) none (some (-1)) = xs := by
  have h : HT.sIx (xs ++ [v]).length (xs ++ [v]).length (some (-1)) = xs.length := by
    unfold HT.sIx
    rw [List.length_append]
    simp
    omega
  unfold cutV
  rw [h, HT.sIx_none]
  simp
def oP (o : List Bool) : List PyData := o.map fun q => .str (if q then "(" else "{")
theorem oP_ok : ∀ o : List Bool, PyData.canLayAll0 (oP o) = true ∧ PyData.depthAll (oP o) = 0
  | [] => ⟨rfl, rfl⟩
  | q :: o => by
    obtain ⟨h1, h2⟩ := oP_ok o
    have h1 : PyData.canLayAll0 (o.map fun q => PyData.str (if q then "(" else "{")) = true := h1
    have h2 : PyData.depthAll (o.map fun q => PyData.str (if q then "(" else "{")) = 0 := h2
    have k1 : PyData.strOk "(" = true := by decide +kernel
    have k2 : PyData.strOk "{" = true := by decide +kernel
    unfold oP
    rw [List.map_cons]
    cases q <;> simp [PyData.canLayAll0, PyData.canLay0, PyData.depthAll, PyData.depth, h1, h2, k1, k2]
theorem oP_shaped (o : List Bool) : SeqAt.shaped (.list (oP o)) = true := by
  obtain ⟨h1, h2⟩ := oP_ok o
  simp [SeqAt.shaped, PyData.canLay0, PyData.depth, h1, h2]
theorem oP_dp (K : PySem.W.Frag) (H : Hp) : ∀ o : List Bool, DpAll K H (oV o) (oP o)
  | [] => .nil
  | _ :: o => .cons (.str _) (oP_dp K H o)
theorem oP_eqv (o : List Bool) : (!PyData.eqv (.list (oP o)) (.list [])) = !o.isEmpty := by cases o <;> rfl
/-- a loop's turn begins so -/
def LFI (t : List Nat) (ss : Sg) (L dn da : Addr) (H0 : Hp) (m : Nat) (σ : L2.St) (H : Hp) : Prop := ∃ (M : Pb.M) (ln lo : Addr) (x2 x11 x12 x13 x14 : Option V),
  σ = [some (.str (sg t)), some (.int (M.i : Int)), x2, some (.ref L), some (.str M.st.word), some (.ref ln), some (.str (sg M.here)), some (.ref lo), some (.bl M.b), some (.ref dn), some (.ref da), x11, x12, x13, x14] ∧ Ex H0 H ∧
  H ln = some (.lst (K20.nmV M.ns)) ∧ H lo = some (.lst (oV M.o)) ∧ Good ss M ∧ runM ss t.length m M = some (flOf t)
end Pb
namespace K20
open PySem PySem.Spec
open PyProof.Rows L2 Sl Pb
section
variable {P : Program} {w : World} {K : PySem.W.Frag} {mg : Str → Option Value} {base : Heap} {H H1 H2 : Hp} {E E' : XK} {Q : VK} {σ : L2.St} {B : Bool → Hp → Prop} {l : Addr}
/-- a name is set by what a part of a reading leaves -/
theorem handA {te : TE} {g : TG} {ts : TS} {D : Ends} {σ : L2.St} {H : Hp} (G : V → Hp → Prop) (h1 : ∀ R' : VK, (∀ v H', G v H' → R' v H') → te σ H R') (h2 : ∀ v H', G v H' → g v σ H' (ts D)) : tSeq (tAsg te g) ts D σ H := h1 _ h2
def spLawFlaw (K : PySem.W.Frag) : Sp := fun vs H Q _ => ∃ t, vs = [.str (sg t)] ∧ t.length ≤ 400 ∧ ∀ v H', Ex H H' → RD K H' (flD (flOf t)) v → Q v H'
theorem ok_lawFlaw (T : Tx K mg) : Has P w K mg base 2 (a__law_flaw K) p__law_flaw (spLawFlaw K) := by
  have h__law_number := ok_number (P := P) (w := w) (base := base) T
  have h__law_wanted := ok_wanted (P := P) (w := w) (base := base) T
  refine has_of (f__law_flaw T) (z__law_flaw T) (b__law_flaw T) (fun vs H Q E h => by obtain ⟨_, rfl, _⟩ := h; rfl) (fun cdv A outer s H vs Q E hr h => ?_)
  obtain ⟨t, rfl, ht, k⟩ := h
  refine ⟨_, (pss_cons (ps_for (passes_of rfl) rfl (pi_enumS (by rfl) (l_enumerate T) (pa_cons (pv 0) pa_nil)) (tupK K (n := 2) (pgs_cons (pg_name (i := 1) (z__law_flaw T).nd rfl (Or.inl rfl)) (pgs_cons (pg_name (i := 2) (z__law_flaw T).nd rfl (Or.inl rfl)) pgs_nil))) (pss_one (ps_if (pt_cmpR oNiSg (pv 2) pe_str rfl) (pss_one (ps_ret (pe_tup (pa_cons (pv 1) (pa_cons pe_str pa_nil))))) pss_nil)))
  (pss_cons (ps_set (i := 3) (z__law_flaw T).nd rfl (Or.inl rfl) (pe_op op_cat (pe_lc (own := [("at", 1), ("sign", 2)]) rfl (z__law_flaw T).nd (pi_enumS (by rfl) (l_enumerate T) (pa_cons (pv 0) pa_nil)) (blkOk_by (N := n__law_flaw) (sc := defScope s__law_flaw) (by decide +kernel)) (fun _ _ _ _ _ => by exact (tupK K (n := 2) (pgs_cons (pg_name (i := 1) (z__law_flaw T).nd rfl (Or.inl rfl)) (pgs_cons (pg_name (i := 2) (z__law_flaw T).nd rfl (Or.inl rfl)) pgs_nil)))) (fun _ _ _ _ _ => by exact (pts_one (pt_cmpR op_ne (pv 2) pe_str (nomark _)))) (fun _ _ _ _ _ => by exact (pe_tup (pa_cons (pv 2) (pa_cons (pv 1) pa_nil))))) (pe_lst (pa_cons (pe_tup (pa_cons pe_str (pa_cons (pe_callB call_len_str (by rfl) (l_len T) (by decide +kernel) (pa_cons (pv 0) pa_nil)) pa_nil))) pa_nil))))
  (pss_cons (ps_asg (pe_tup (pa_cons pe_int (pa_cons pe_str (pa_cons (pe_lst pa_nil) (pa_cons pe_str (pa_cons (pe_lst pa_nil) (pa_cons pe_bl pa_nil))))))) (tupK K (n := 6) (pgs_cons (pg_name (i := 1) (z__law_flaw T).nd rfl (Or.inl rfl)) (pgs_cons (pg_name (i := 4) (z__law_flaw T).nd rfl (Or.inl rfl)) (pgs_cons (pg_name (i := 5) (z__law_flaw T).nd rfl (Or.inl rfl)) (pgs_cons (pg_name (i := 6) (z__law_flaw T).nd rfl (Or.inl rfl)) (pgs_cons (pg_name (i := 7) (z__law_flaw T).nd rfl (Or.inl rfl)) (pgs_cons (pg_name (i := 8) (z__law_flaw T).nd rfl (Or.inl rfl)) pgs_nil))))))))
  (pss_cons (ps_set (i := 9) (z__law_flaw T).nd rfl (Or.inl rfl) (pe_disp (pps_cons pe_str pe_str (pps_cons pe_str pe_str (pps_cons pe_str pe_str (pps_cons pe_str pe_str (pps_cons pe_str pe_str (pps_cons pe_str pe_str pps_nil)))))) (by rfl) (by rfl) (fun z => by cases z) (by decide)))
  (pss_cons (ps_set (i := 10) (z__law_flaw T).nd rfl (Or.inl rfl) (pe_disp (pps_cons pe_str pe_str (pps_cons pe_str pe_str (pps_cons pe_str pe_str (pps_cons pe_str pe_str pps_nil)))) (by rfl) (by rfl) (fun z => by cases z) (by decide)))
  (pss_one (ps_while (passes_of rfl) (pt_val pe_bl) (pss_cons (ps_asg (pe_ix (ixL K) (pv 3) (pv 1) (fun _ _ => rfl)) (tupK K (n := 2) (pgs_cons (pg_name (i := 2) (z__law_flaw T).nd rfl (Or.inl rfl)) (pgs_cons (pg_name (i := 11) (z__law_flaw T).nd rfl (Or.inl rfl)) pgs_nil))))
  (pss_one (ps_if (pt_cmp (pc_din (hu_of hr) (pv 4) (pv 9))) (pss_cons (ps_if (PW.pt (pw_and (pt_cmpR op_eq (pv 4) pe_str (nomark _)) (pw_and (pt_cmpR op_eq (pv 2) pe_str (nomark _)) (pw_and1 (pt_cmpR op_eq (pe_ix (ixT K) (pe_ix (ixL K) (pv 3) (pe_op oSubI (pv 1) pe_int) (fun _ _ => rfl)) pe_int (fun _ _ => rfl)) pe_str (nomark _)))))) (pss_cons (ps_par3 (i := 4) (j := 1) (l := 8) rfl (z__law_flaw T).nd rfl rfl rfl (by decide) (by decide) (by decide) rfl rfl rfl (pa_cons pe_str (pa_cons (pe_op oAddI (pv 1) pe_int) (pa_cons pe_bl pa_nil))) rfl)
  (pss_one ps_continue)) pss_nil)
  (pss_cons (ps_asg (pcall h__law_number (hr.mono (by omega)) (g__law_number T) (pa_cons (pv 3) (pa_cons (pv 1) pa_nil))) (tupK K (n := 2) (pgs_cons (pg_name (i := 12) (z__law_flaw T).nd rfl (Or.inl rfl)) (pgs_cons (pg_name (i := 13) (z__law_flaw T).nd rfl (Or.inl rfl)) pgs_nil))))
  (pss_cons (ps_if (pt_cmpR oNoNo (pv 13) pe_non (nomark _)) (pss_one (ps_ret (pe_tup (pa_cons (pv 11) (pa_cons (pv 13) pa_nil))))) pss_nil)
  (pss_one (ps_par3 (i := 1) (j := 4) (l := 8) rfl (z__law_flaw T).nd rfl rfl rfl (by decide) (by decide) (by decide) rfl rfl rfl (pa_cons (pe_op oAddI (pv 1) (pv 12)) (pa_cons (pe_dget (hu_of hr) (pv 9) (pv 4) (fun _ _ => rfl)) (pa_cons pe_bl pa_nil))) rfl))))) (pss_one (ps_if (pt_cmpR op_ne (pv 4) pe_str (nomark _)) (pss_cons (ps_set (i := 13) (z__law_flaw T).nd rfl (Or.inl rfl) (pcall h__law_wanted (hr.mono (by omega)) (g__law_wanted T) (pa_cons (pv 4) (pa_cons (pv 2) (pa_cons (pv 5) (pa_cons (pv 6) (pa_cons (pe_callB (lenK K) (by rfl) (l_len T) (by decide +kernel) (pa_cons (pv 7) pa_nil)) pa_nil)))))))
  (pss_cons (ps_if (pt_cmpR oNoNo (pv 13) pe_non (nomark _)) (pss_one (ps_ret (pe_tup (pa_cons (pv 11) (pa_cons (pv 13) pa_nil))))) pss_nil)
  (pss_cons (ps_set (i := 6) (z__law_flaw T).nd rfl (Or.inl rfl) (pe_ifExp (pt_cmpR op_eq (pv 4) pe_str (nomark _)) (pv 2) (pv 6)))
  (pss_cons (ps_set (i := 8) (z__law_flaw T).nd rfl (Or.inl rfl) (pe_and (pe_cmpR op_eq (pv 4) pe_str (nomark _)) (pe_one (pe_cmpR oInSg (pv 2) pe_str rfl))))
  (pss_cons (ps_if (pt_cmpR op_eq (pv 4) pe_str (nomark _)) (pss_one (ps_asg (pe_ifExp (pt_cmpR op_eq (pv 2) pe_str (nomark _)) (pe_tup (pa_cons (pe_op op_cat (pv 7) (pe_lst (pa_cons pe_str pa_nil))) (pa_cons pe_str pa_nil))) (pe_tup (pa_cons (pv 7) (pa_cons pe_str pa_nil)))) (tupK K (n := 2) (pgs_cons (pg_name (i := 7) (z__law_flaw T).nd rfl (Or.inl rfl)) (pgs_cons (pg_name (i := 4) (z__law_flaw T).nd rfl (Or.inl rfl)) pgs_nil))))) (pss_cons (ps_set (i := 14) (z__law_flaw T).nd rfl (Or.inl rfl) (pe_dget1 (hu_of hr) (pe_disp (pps_cons pe_str pe_str (pps_cons pe_str (pe_ifExp (pt_cmpR op_eq (pv 2) pe_str (nomark _)) pe_str pe_str) pps_nil)) (by rfl) (by rfl) (fun z => by cases z) (by decide)) (pv 4) ⟨by rfl, by rfl, by rfl, by rfl⟩))
  (pss_one (ps_set (i := 4) (z__law_flaw T).nd rfl (Or.inl rfl) (pe_orT (pv 14) (pe_one (pe_ifExp (pt_cmpR op_eq (pv 2) pe_str (nomark _)) pe_str (pe_dget (hu_of hr) (pv 10) (pv 4) (fun _ _ => rfl)))))))))
  (pss_one (ps_set (i := 1) (z__law_flaw T).nd rfl (Or.inl rfl) (pe_op oAddI (pv 1) pe_int)))))))) (pss_one (ps_if (PW.pt (pw_and (pt_cmpR op_eq (pv 2) pe_str (nomark _)) (pw_and1 (pt_val (pv 8))))) (pss_cons (ps_if (pt_cmpR op_eq (pe_callB (lenK K) (by rfl) (l_len T) (by decide +kernel) (pa_cons (pv 7) pa_nil)) pe_int (nomark _)) (pss_one (ps_ret (pe_tup (pa_cons (pv 11) (pa_cons pe_str pa_nil))))) pss_nil)
  (pss_one (ps_par3 (i := 7) (j := 4) (l := 1) rfl (z__law_flaw T).nd rfl rfl rfl (by decide) (by decide) (by decide) rfl rfl rfl (pa_cons (pe_op op_cat (pv 7) (pe_lst (pa_cons pe_str pa_nil))) (pa_cons pe_str (pa_cons (pe_op oAddI (pv 1) pe_int) pa_nil))) rfl))) (pss_one (ps_if (pt_cmpR oInSg (pv 2) pe_str rfl) (pss_cons (ps_set (i := 4) (z__law_flaw T).nd rfl (Or.inl rfl) (pe_dget (hu_of hr) (pe_disp (pps_cons pe_str pe_str (pps_cons pe_str pe_str (pps_cons pe_str pe_str (pps_cons pe_str pe_str (pps_cons pe_str pe_str (pps_cons pe_str pe_str pps_nil)))))) (by rfl) (by rfl) (fun z => by cases z) (by decide)) (pv 2) (fun _ _ => rfl)))
  (pss_one (ps_par (i := 1) (j := 8) rfl (z__law_flaw T).nd rfl rfl (by decide) rfl rfl (pa_cons (pe_op oAddI (pv 1) pe_int) (pa_cons pe_bl pa_nil)) rfl))) (pss_one (ps_if (pt_cmpR (neDK K hr.units) (pv 7) (pe_lst pa_nil) (nomark _)) (pss_cons (ps_if (pt_cmpR op_ne (pv 2) (pe_ifExp (pt_cmpR op_eq (pe_ix (ixL K) (pv 7) (pe_un un_neg pe_int) (fun _ _ => rfl)) pe_str (nomark _)) pe_str pe_str) (nomark _)) (pss_one (ps_ret (pe_tup (pa_cons (pv 11) (pa_cons (pe_ifExp (pt_cmpR op_eq (pe_ix (ixL K) (pv 7) (pe_un un_neg pe_int) (fun _ _ => rfl)) pe_str (nomark _)) pe_str pe_str) pa_nil))))) pss_nil)
  (pss_cons (ps_set (i := 8) (z__law_flaw T).nd rfl (Or.inl rfl) (pe_cmpR op_eq (pe_ix (ixL K) (pv 7) (pe_un un_neg pe_int) (fun _ _ => rfl)) pe_str (nomark _)))
  (pss_one (ps_par (i := 7) (j := 1) rfl (z__law_flaw T).nd rfl rfl (by decide) rfl rfl (pa_cons (pe_slice (slL K) (pv 7) po_none (po_some (pe_un un_neg pe_int))) (pa_cons (pe_op oAddI (pv 1) pe_int) pa_nil)) rfl)))) (pss_one (ps_if (pt_cmpR op_eq (pv 2) pe_str (nomark _)) (pss_one (ps_asg (pe_tup (pa_cons (pe_op op_cat (pv 5) (pe_lst (pa_cons (pv 6) pa_nil))) (pa_cons pe_str (pa_cons (pe_op oAddI (pv 1) pe_int) (pa_cons pe_bl pa_nil))))) (tupK K (n := 4) (pgs_cons (pg_name (i := 5) (z__law_flaw T).nd rfl (Or.inl rfl)) (pgs_cons (pg_name (i := 4) (z__law_flaw T).nd rfl (Or.inl rfl)) (pgs_cons (pg_name (i := 1) (z__law_flaw T).nd rfl (Or.inl rfl)) (pgs_cons (pg_name (i := 8) (z__law_flaw T).nd rfl (Or.inl rfl)) pgs_nil))))))) (pss_one (ps_ret (pe_ifExp (pt_cmpR op_eq (pv 2) pe_str (nomark _)) pe_non (pe_tup (pa_cons (pv 11) (pa_cons pe_str pa_nil)))))))))))))))))))))))))), ?_⟩
  refine ⟨_, rfl, _, rfl, for_it walk_P (fun i σ H' => Ex H H' ∧ (∃ a b, σ = [some (.str (sg t)), a, b, none, none, none, none, none, none, none, none, none, none, none, none]) ∧ ∀ q ∈ t.zipIdx.take i, (!(okSg q.1 || q.1 == 32)) = false) ?_ (fun _ _ _ _ _ => trivial) ?_ ?_⟩
  · exact ⟨Ex.refl H, ⟨none, none, rfl⟩, by simp⟩
  · rintro i x σ H1 H2 hi ⟨e1, ⟨a, b, rfl⟩, hq⟩ ⟨q, x', rfl, hn, rfl, c, hc, rfl⟩
    have e2 := e1.trans (ex_new (o := .tup [.int (i : Nat), .str ⟨#[c]⟩]) hn)
    have hz := zip_at hc
    refine ⟨q, _, rfl, .inl (.inl upd_same), rfl, _, _, rfl, _, _, rfl, rfl, ?_⟩
    refine ⟨_, rfl, _, _, rfl, rfl, !(okSg c || c == 32), congrArg (fun b => V.bl (!b)) (all_mem c), ?_⟩
    refine ifBH (fun hb => ?_) (fun hb => ?_)
    · refine ⟨_, rfl, two_sz _ _, fun p hp => k _ _ (e2.trans (ex_new hp)) ?_⟩
      have hL : flOf t = some (i, ("this sign cannot stand here" : Str)) := by
        unfold flOf bookOf
        rw [bad_zip, find_at hq hz hb] <;> rfl
      rw [hL]
      exact .tup (.inl (.inl upd_same)) (.cons (.int _) (.cons (.str _) .nil))
    · refine ⟨e2, ⟨_, _, rfl⟩, fun q hq2 => ?_⟩
      rw [take_snoc hz] at hq2
      rcases List.mem_append.mp hq2 with z | z
      · exact hq q z
      · obtain rfl := List.mem_singleton.mp z
        exact hb
  · rintro σ H1 ⟨e1, ⟨a, b, rfl⟩, hq⟩
    have hbad : badSg (signsOf t) = none := by
      have : t.zipIdx.find? (fun p => !(okSg p.1 || p.1 == 32)) = none := List.find?_eq_none.mpr fun q hq2 => by
        have := hq q (by rw [List.take_of_length_le (by simp)]; exact hq2)
        rw [this]
        decide
      rw [bad_zip, this] <;> rfl
    have hrun := run_flaw hbad
    obtain ⟨f0, hf0⟩ := hrun
    have hok : ∀ q ∈ signsOf t, okSg q.1 = true := fun q hq2 => by
      have h3 := List.find?_eq_none.mp (show (signsOf t).find? (fun p => !okSg p.1) = none by
        unfold badSg at hbad
        cases z : (signsOf t).find? fun p => !okSg p.1 with
        | none => rfl
        | some p => rw [z] at hbad; cases hbad) q hq2
      simpa using h3
    have hss : (signsOf t).length ≤ 400 := Nat.le_trans (len_signs t) ht
    have S0 : SH K H [] [] [] H1 := ⟨e1.b, e1.t, [], [], .nil, .nil, by simp, fun a h => by simp at h⟩
    refine ⟨_, rfl, _, rfl, fun l hl => lc_it walk_P (fun i H' => SH K H [] [ls K l (((t.zipIdx).take i).filter (fun q => q.1 != 32) |>.map sgD)] [] H') ?_ (fun _ _ _ _ => trivial) ?_ ?_⟩
    · exact S0.newL hl .nil
    · rintro i x H1 H2 hi S ⟨q, x', rfl, hq, rfl, c, hc, rfl⟩
      have S1 := S.ext (ex_new (o := .tup [.int (i : Nat), .str ⟨#[c]⟩]) hq)
      have hz := zip_at hc
      refine ⟨q, _, rfl, .inl (.inl upd_same), rfl, _, _, rfl, _, _, rfl, rfl, rfl, _, rfl, rfl, !decide (c = 32), sgN 32, ?_⟩
      have hlen : (((t.zipIdx).take i).filter (fun q => q.1 != 32) |>.map sgD).length ≤ 400 := by
        rw [List.length_map]
        refine Nat.le_trans (List.length_filter_le _ _) ?_
        rw [List.length_take, List.length_zipIdx]
        omega
      by_cases c32 : c = 32
      · rw [decide_eq_true c32]
        refine iteF ?_
        have e : ((t.zipIdx).take (i + 1)).filter (fun q => q.1 != 32) = ((t.zipIdx).take i).filter (fun q => q.1 != 32) := by
          rw [take_snoc hz, List.filter_append]
          simp [c32]
        rw [e]
        exact S1
      · rw [decide_eq_false c32]
        refine iteT ?_
        refine ⟨_, rfl, _, rfl, two_sz _ _, fun u hu => ?_⟩
        have S2 := S1.ext (ex_new (o := .tup [.str ⟨#[c]⟩, .int (i : Nat)]) hu)
        obtain ⟨xs, g1, g2⟩ := S2.getL (.inl List.mem_cons_self)
        refine ⟨xs, g1, by rw [g2.len]; exact Nat.lt_of_le_of_lt hlen (by decide), ?_⟩
        have e : (((t.zipIdx).take (i + 1)).filter (fun q => q.1 != 32) |>.map sgD) = (((t.zipIdx).take i).filter (fun q => q.1 != 32) |>.map sgD) ++ [sgD (c, i)] := by
          rw [take_snoc hz, List.filter_append, List.map_append]
          simp [c32]
        rw [e]
        refine S2.putL .here (g2.append (.one ?_))
        exact .tup (.inl (.inl upd_same)) (.cons (.str _) (.cons (.int _) .nil))
    · intro H2 S
      have e : (((t.zipIdx).take (sg t).cps.size).filter (fun q => q.1 != 32) |>.map sgD) = (signsOf t).map sgD := by
        unfold signsOf
        rw [List.take_of_length_le (by simp)]
      rw [e] at S
      obtain ⟨xs0, hl0, r0⟩ := S.getL (.inl (.head _))
      have e2 : Ex H H2 := S.ex.ex
      have hx0 : xs0.length = (signsOf t).length := by rw [r0.len, List.length_map]
      refine ⟨_, rfl, _, rfl, by rw [sg_len]; exact sz4 (Nat.le_trans ht (by decide)), two_sz _ _, fun q hq => ⟨by show 1 ≤ sizeLine; decide, fun l2 hl2 => ?_⟩⟩
      have e3 := e2.trans (ex_new (o := .tup [.str "$", .int ((sg t).length : Int)]) hq)
      have hl1 := (ex_new (o := .tup [.str "$", .int ((sg t).length : Int)]) hq) _ _ hl0
      refine ⟨l, l2, xs0, _, rfl, rfl, ex_new hl2 _ _ hl1, upd_same, by rw [hx0]; exact sz4 (show (signsOf t).length + 1 ≤ 1000 by omega), fun L hL => ?_⟩
      have e4 := e3.trans (ex_new (o := .lst [.ref q]) hl2)
      have e5 := e4.trans (ex_new (o := .lst (xs0 ++ [.ref q])) hL)
      have e25 : Ex H2 (upd (upd (upd H2 q (.tup [.str "$", .int ((sg t).length : Int)])) l2 (.lst [.ref q])) L (.lst (xs0 ++ [.ref q]))) := ((ex_new (o := .tup [.str "$", .int ((sg t).length : Int)]) hq).trans (ex_new (o := .lst [.ref q]) hl2)).trans (ex_new (o := .lst (xs0 ++ [.ref q])) hL)
      have rx : RDs K (upd (upd (upd H2 q (.tup [.str "$", .int ((sg t).length : Int)])) l2 (.lst [.ref q])) L (.lst (xs0 ++ [.ref q]))) ((sgX (signsOf t) t.length).map sgD) (xs0 ++ [.ref q]) := by
        have h1 := r0.mono e25.t
        unfold sgX
        rw [List.map_append]
        refine h1.append (.one (.tup (.inl (.inl ((ex_new (o := .lst [.ref q]) hl2).trans (ex_new (o := .lst (xs0 ++ [.ref q])) hL) _ _ upd_same))) (.cons (.str _) (.cons ?_ .nil))))
        have : ((sg t).length : Int) = (t.length : Int) := by rw [sg_len]
        rw [this]
        exact .int _
      have hL5 : upd (upd (upd H2 q (.tup [.str "$", .int ((sg t).length : Int)])) l2 (.lst [.ref q])) L (.lst (xs0 ++ [.ref q])) L = some (.lst (xs0 ++ [.ref q])) := upd_same
      generalize upd (upd (upd H2 q (.tup [.str "$", .int ((sg t).length : Int)])) l2 (.lst [.ref q])) L (.lst (xs0 ++ [.ref q])) = H3 at e5 rx hL5 ⊢
      clear e25 e4 e3 e2 hl1 hq hl2 hL hl0 r0 hx0
      generalize xs0 ++ [V.ref q] = xs at rx hL5
      refine ⟨by show 0 ≤ sizeLine; decide, fun ln hln => ⟨by show 0 ≤ sizeLine; decide, fun lo hlo => ⟨by show 6 ≤ sizeLine; decide, fun p hp => ⟨p, _, rfl, .inl (.inl upd_same), rfl, _, _, rfl, _, _, rfl, _, _, rfl, _, _, rfl, _, _, rfl, _, _, rfl, rfl, ?_⟩⟩⟩⟩
      have x1 : Ex H3 (upd H3 ln (.lst [])) := ex_new hln
      have x2 := x1.trans (ex_new (o := .lst []) hlo)
      have y1 := ex_new (o := .lst []) hlo ln (.lst []) upd_same
      have x3 := x2.trans (ex_new (o := .tup [.int 0, .str "name", .ref ln, .str "", .ref lo, .bl false]) hp)
      have y2 := ex_new (o := .tup [.int 0, .str "name", .ref ln, .str "", .ref lo, .bl false]) hp ln _ y1
      have y3 := ex_new (o := .tup [.int 0, .str "name", .ref ln, .str "", .ref lo, .bl false]) hp lo (.lst []) upd_same
      generalize upd (upd (upd H3 ln (.lst [])) lo (.lst [])) p (.tup [.int 0, .str "name", .ref ln, .str "", .ref lo, .bl false]) = H4 at x3 y2 y3 ⊢
      clear x1 x2 y1
      refine fun dn hdn => ⟨upd_same, numK, rfl, by decide, fun da hda => ⟨upd_same, aftK, rfl, by decide, ?_⟩⟩
      have x4 := (x3.trans (ex_new2 (a := .dK []) (b := .dK (mergeK [] numK)) hdn)).trans (ex_new2 (a := .dK []) (b := .dK (mergeK [] aftK)) hda)
      have d1 := ex_new2 (a := .dK []) (b := .dK (mergeK [] aftK)) hda dn _ upd_same
      have d2 : upd (upd (upd (upd H4 dn (.dK [])) dn (.dK (mergeK [] numK))) da (.dK [])) da (.dK (mergeK [] aftK)) da = some (.dK (mergeK [] aftK)) := upd_same
      have z2 := ((ex_new2 (a := .dK []) (b := .dK (mergeK [] numK)) hdn).trans (ex_new2 (a := .dK []) (b := .dK (mergeK [] aftK)) hda)) _ _ y2
      have z3 := ((ex_new2 (a := .dK []) (b := .dK (mergeK [] numK)) hdn).trans (ex_new2 (a := .dK []) (b := .dK (mergeK [] aftK)) hda)) _ _ y3
      generalize upd (upd (upd (upd H4 dn (.dK [])) dn (.dK (mergeK [] numK))) da (.dK [])) da (.dK (mergeK [] aftK)) = H5 at x4 d1 d2 z2 z3 ⊢
      have hL6 := x4 _ _ hL5
      have rx6 := rx.mono x4.t
      have e6 := e5.trans x4
      clear x3 y2 y3 x4 hL5 rx e5 hlo hln hp hdn hda
      refine ⟨LFI t (signsOf t) L dn da H5, ⟨f0, ⟨.name, 0, [], [], [], false⟩, ln, lo, _, _, _, _, _, rfl, Ex.refl _, z2, z3, ⟨Nat.zero_le _, .inl rfl, by simp, by simp, by simp⟩, hf0⟩, ?_⟩
      rintro m σ H6 ⟨M, ln, lo, x2, x11, x12, x13, x14, rfl, e7, hln, hlo, hg, hm⟩
      cases m with
      | zero => cases hm
      | succ m =>
      refine ⟨true, rfl, fun σ' H' => LFI t (signsOf t) L dn da H5 m σ' H', fun σ' H' h => ⟨m, Nat.lt_succ_self m, h⟩, ?_⟩
      have hinl : ∀ r, Pb.step (signsOf t) t.length M = .inl r → flOf t = r := fun r z => by
        simp only [runM, z] at hm
        exact (Option.some.inj hm).symm
      have hinr : ∀ M', Pb.step (signsOf t) t.length M = .inr M' → runM (signsOf t) t.length m M' = some (flOf t) := fun M' z => by
        simp only [runM, z] at hm
        exact hm
      have go : ∀ (M' : Pb.M) (ln' lo' : Addr) (y2 y11 y12 y13 y14 : Option V) (vi : Int) (ws hs : Str) (bb : Bool) (H' : Hp), Pb.step (signsOf t) t.length M = .inr M' → vi = (M'.i : Int) → ws = M'.st.word → hs = sg M'.here → bb = M'.b → Ex H6 H' →
          H' ln' = some (.lst (nmV M'.ns)) → H' lo' = some (.lst (oV M'.o)) →
          LFI t (signsOf t) L dn da H5 m [some (.str (sg t)), some (.int vi), y2, some (.ref L), some (.str ws), some (.ref ln'), some (.str hs), some (.ref lo'), some (.bl bb), some (.ref dn), some (.ref da), y11, y12, y13, y14] H' := by
        rintro M' ln' lo' y2 y11 y12 y13 y14 vi ws hs bb H' hst rfl rfl rfl rfl eh h1 h2
        exact ⟨M', ln', lo', _, _, _, _, _, rfl, e7.trans eh, h1, h2, good_step hg hst, hinr _ hst⟩
      have ret : ∀ (pl : Nat) (msg : Str) (H' : Hp) (p : Addr), Pb.step (signsOf t) t.length M = .inl (some (pl, msg)) → Ex H6 H' → H' p = none → Q (.ref p) (upd H' p (.tup [.int (pl : Int), .str msg])) := fun pl msg H' p hst eh hp => by
        refine k _ _ ((e6.trans (e7.trans eh)).trans (ex_new hp)) ?_
        rw [hinl _ hst]
        exact .tup (.inl (.inl upd_same)) (.cons (.int _) (.cons (.str _) .nil))
      have hL6 := e7 _ _ hL6
      have rx6 := rx6.mono e7.t
      have d1 := e7 _ _ d1
      have d2 := e7 _ _ d2
      have hco : cAt (signsOf t) M.i ≠ some 36 := fun z => by
        unfold cAt at z
        cases q : (signsOf t)[M.i]? with
        | none => rw [q] at z; cases z
        | some p =>
          rw [q] at z
          have := hok p (List.mem_of_getElem? q)
          rw [show p.1 = 36 from Option.some.inj z] at this
          exact absurd this (by decide)
      obtain ⟨a6, g1, g2⟩ := sx_at rx6 hg.i
      refine ⟨_, rfl, _, rfl, L, xs, _, _, rfl, rfl, SqL.of hL6, g1, a6, _, rfl, g2, rfl, _, _, rfl, _, _, rfl, rfl, ?_⟩
      refine ⟨_, rfl, _, rfl, dn, _, rfl, DGet.k (k := .inr M.st.word) d1, isNum M.st, by rw [num_get]; cases isNum M.st <;> rfl, ifBH (fun hN => ?_) (fun hN => ?_)⟩
      · refine handT (tt := tAnd _ _) (G := fun b H' => H' = H6 ∧ b = decide (M.st = .door ∧ cAt (signsOf t) M.i = some 62 ∧ 0 < M.i ∧ cAt (signsOf t) (M.i - 1) = some 60)) (fun B kk => ?_) (fun b H' g => ?_)
        · refine ⟨_, rfl, rfl, decide (M.st = .door), congrArg V.bl (word_eq _ .door), ?_⟩
          by_cases hd : M.st = .door
          · rw [decide_eq_true hd]
            refine ⟨_, rfl, rfl, decide (cX (signsOf t) M.i = 62), sgE 62, ?_⟩
            have h62 : cX (signsOf t) M.i = 62 ↔ cAt (signsOf t) M.i = some 62 := by
              unfold cX
              cases cAt (signsOf t) M.i <;> simp
            by_cases hc : cAt (signsOf t) M.i = some 62
            · rw [decide_eq_true (h62.mpr hc)]
              have hi0 := hg.d hd
              have hgi := hg.i
              obtain ⟨a7, g3, g4⟩ := sx_at rx6 (show M.i - 1 ≤ (signsOf t).length by omega)
              have e1 : (M.i : Int) - 1 = ((M.i - 1 : Nat) : Int) := by omega
              refine ⟨_, rfl, _, rfl, _, _, rfl, rfl, L, xs, _, _, rfl, rfl, SqL.of hL6, by rw [e1]; exact g3, a7, _, _, _, rfl, rfl, g4, rfl, rfl, decide (cX (signsOf t) (M.i - 1) = 60), sgE 60, kk _ _ ⟨rfl, ?_⟩⟩
              refine decide_eq_decide.mpr ⟨fun z => ⟨hd, hc, hi0, ?_⟩, fun z => ?_⟩
              · unfold cX at z
                cases q : cAt (signsOf t) (M.i - 1) with
                | none => rw [q] at z; cases z
                | some c => rw [q] at z; exact congrArg some z
              · unfold cX
                rw [z.2.2.2] <;> rfl
            · rw [decide_eq_false (fun z => hc (h62.mp z))]
              exact kk _ _ ⟨rfl, (decide_eq_false (fun z => hc z.2.1)).symm⟩
          · rw [decide_eq_false hd]
            exact kk _ _ ⟨rfl, (decide_eq_false (fun z => hd z.1)).symm⟩
        · obtain ⟨rfl, rfl⟩ := g
          refine ifBH (fun hb => ?_) (fun hb => ?_)
          · refine ⟨_, rfl, _, _, rfl, rfl, _, _, _, rfl, ?_⟩
            exact go { M with st := .behind, i := M.i + 1, b := false } _ _ _ _ _ _ _ _ _ _ _ _ (by unfold Pb.step; rw [if_pos hN, if_pos (of_decide_eq_true hb)]) rfl rfl rfl rfl (Ex.refl _) hln hlo
          · have hstep : Pb.step (signsOf t) t.length M = match numL (signsOf t) M.i with
                | some msg => .inl (some (pAt (signsOf t) t.length M.i, msg))
                | none => .inr { M with st := nxNum M.st, i := M.i + (dgs (signsOf t) M.i).length, b := false } := by
              unfold Pb.step; rw [if_pos hN, if_neg (of_decide_eq_false hb)] <;> rfl
            refine ⟨_, rfl, _, rfl, L, xs, signsOf t, t.length, M.i, rfl, hL6, rx6, hg.i, hss, fun v H7 e8 rv => ?_⟩
            obtain ⟨a8, ys, rfl, s1, s2⟩ := rv.ofTup
            obtain ⟨v1, w1, rfl, q1, q2⟩ := s2.ofCons
            obtain ⟨v2, w2, rfl, q3, q4⟩ := q2.ofCons
            obtain rfl := q1.ofInt
            obtain rfl := q4.ofNil
            refine ⟨a8, _, rfl, s1, rfl, _, _, rfl, _, _, rfl, rfl, ?_⟩
            cases hnl : numL (signsOf t) M.i with
            | some msg =>
              rw [hnl] at q3 hstep
              obtain rfl := RD.ofStr (x := msg) q3
              refine ⟨_, rfl, rfl, true, rfl, ?_⟩
              exact ⟨_, rfl, _, rfl, two_sz _ _, fun p hp => ret _ _ _ _ hstep e8 hp⟩
            | none =>
              rw [hnl] at q3 hstep
              obtain rfl := RD.ofNon q3
              refine ⟨_, rfl, rfl, false, rfl, ?_⟩
              refine ⟨_, rfl, _, rfl, _, _, rfl, rfl, _, rfl, _, rfl, dn, .str (nxNum M.st).word, rfl, .inl ⟨_, .inr M.st.word, .inl (e8 _ _ d1), rfl, by rw [num_get, if_pos hN]⟩, _, _, _, rfl, ?_⟩
              exact go _ _ _ _ _ _ _ _ _ _ _ _ _ hstep rfl rfl rfl rfl e8 (e8 _ _ hln) (e8 _ _ hlo)
      have hN' : ¬ isNum M.st = true := by rw [hN]; decide
      refine ⟨_, rfl, rfl, !decide (M.st = .behind), congrArg (fun b => V.bl (!b)) (word_eq _ .behind), ifBH (fun hB => ?_) (fun hB => ?_)⟩
      · have hB' : M.st ≠ .behind := by simpa using hB
        refine ⟨_, rfl, _, rfl, _, rfl, _, rfl, _, rfl, lo, oV M.o, rfl, .inl (SqL.of hlo), M, cAt (signsOf t) M.i, ln, .str (sg M.here), by rw [oV_len]; rfl, SqL.of hln, hco, hN, hB', fun H7 e8 => ?_⟩
        have hstep : Pb.step (signsOf t) t.length M = match wanted M (cAt (signsOf t) M.i), cAt (signsOf t) M.i with
            | some msg, _ => .inl (some (pAt (signsOf t) t.length M.i, msg))
            | none, some c => .inr (later M c)
            | none, none => .inl none := by
          unfold Pb.step; rw [if_neg hN', if_neg hB'] <;> rfl
        cases hw : wanted M (cAt (signsOf t) M.i) with
        | some msg =>
          rw [hw] at hstep
          refine ⟨_, rfl, rfl, true, rfl, ?_⟩
          exact ⟨_, rfl, _, rfl, two_sz _ _, fun p hp => ret _ _ _ _ hstep e8 hp⟩
        | none =>
          refine ⟨_, rfl, rfl, false, rfl, ?_⟩
          cases hc : cAt (signsOf t) M.i with
          | none => rw [hc] at hw; exact absurd hw (wanted_none hN hB')
          | some c =>
          rw [hw, hc] at hstep
          simp only [] at hstep
          rw [hc] at hw
          have hX : cX (signsOf t) M.i = c := by unfold cX; rw [hc]; rfl
          rw [hX]
          have hln7 := e8 _ _ hln
          have hlo7 := e8 _ _ hlo
          have d27 := e8 _ _ d2
          obtain ⟨st, i, ns, here, o, b⟩ := M
          dsimp only at hln7 hlo7 hw hstep hN hB' go ⊢
          cases st with
          | name =>
            refine ⟨_, rfl, rfl, true, vdec _, _, rfl, ?_⟩
            refine ⟨_, rfl, rfl, false, ndec (by decide +kernel), ?_⟩
            refine ⟨_, rfl, rfl, false, ndec (by decide +kernel), ?_⟩
            refine iteF ?_
            refine handA (te := tDGet1 _ _) (G := fun v H' => v = .str "=" ∧ Ex H7 H') (fun R kk => ?_) (fun v H8 g => ?_)
            · refine fun p hp => ⟨_, rfl, rfl, decide (c = 44), sgE 44, ifBH (fun _ => ?_) (fun _ => ?_)⟩
              · exact ⟨upd_same, [(.inr "name", .str "="), (.inr "comma", .str "door")], rfl, by decide, p, rfl, .inl ⟨_, .inl upd_same⟩, _, rfl, _, DGet.k (k := .inr "name") upd_same, kk _ _ ⟨by decide +kernel, ex_new2 hp⟩⟩
              · exact ⟨upd_same, [(.inr "name", .str "="), (.inr "comma", .str "behind")], rfl, by decide, p, rfl, .inl ⟨_, .inl upd_same⟩, _, rfl, _, DGet.k (k := .inr "name") upd_same, kk _ _ ⟨by decide +kernel, ex_new2 hp⟩⟩
            · obtain ⟨rfl, e9⟩ := g
              refine ⟨_, rfl, true, ⟨by decide +kernel, by decide +kernel⟩, _, rfl, _, _, rfl, rfl, ?_⟩
              exact go _ _ _ _ _ _ _ _ _ _ _ _ _ hstep rfl rfl rfl rfl (e8.trans e9) (e9 _ _ hln7) (e9 _ _ hlo7)
          | comma =>
            refine ⟨_, rfl, rfl, false, ndec (by decide +kernel), _, rfl, ?_⟩
            refine ⟨_, rfl, rfl, false, ndec (by decide +kernel), ?_⟩
            refine ⟨_, rfl, rfl, false, ndec (by decide +kernel), ?_⟩
            refine fun p hp => ⟨_, rfl, rfl, decide (c = 44), sgE 44, ifBH (fun h44 => ?_) (fun h44 => ?_)⟩
            · refine ⟨upd_same, [(.inr "name", .str "="), (.inr "comma", .str "door")], rfl, by decide, p, rfl, .inl ⟨_, .inl upd_same⟩, _, rfl, _, DGet.k (k := .inr "comma") upd_same, ?_⟩
              have e9 := ex_new2 (a := .dK []) (b := .dK (mergeK [] [(.inr "name", .str "="), (.inr "comma", .str "door")])) hp
              refine ⟨_, rfl, true, ⟨by decide +kernel, by decide +kernel⟩, _, rfl, _, _, rfl, rfl, ?_⟩
              exact go _ _ _ _ _ _ _ _ _ _ _ _ _ hstep rfl (by simp only [later]; rw [if_pos (of_decide_eq_true h44)]; decide +kernel) rfl rfl (e8.trans e9) (e9 _ _ hln7) (e9 _ _ hlo7)
            · refine ⟨upd_same, [(.inr "name", .str "="), (.inr "comma", .str "behind")], rfl, by decide, p, rfl, .inl ⟨_, .inl upd_same⟩, _, rfl, _, DGet.k (k := .inr "comma") upd_same, ?_⟩
              have e9 := ex_new2 (a := .dK []) (b := .dK (mergeK [] [(.inr "name", .str "="), (.inr "comma", .str "behind")])) hp
              refine ⟨_, rfl, true, ⟨by decide +kernel, by decide +kernel⟩, _, rfl, _, _, rfl, rfl, ?_⟩
              exact go _ _ _ _ _ _ _ _ _ _ _ _ _ hstep rfl (by simp only [later]; rw [if_neg (of_decide_eq_false h44)]; decide +kernel) rfl rfl (e8.trans e9) (e9 _ _ hln7) (e9 _ _ hlo7)
          | ground =>
            have hcs : (c = 40 ∧ o.length ≠ 20) ∨ (c ≠ 40 ∧ (isCp c = true ∨ isLt c = true)) := by
              by_cases z : c = 40
              · left
                subst z
                refine ⟨rfl, fun z2 => ?_⟩
                simp [wanted, isCp, z2] at hw
              · right
                refine ⟨z, ?_⟩
                cases hcp : isCp c with
                | true => exact .inl rfl
                | false =>
                  cases hlt : isLt c with
                  | true => exact .inr rfl
                  | false => simp [wanted, hcp, hlt, z] at hw
            refine ⟨_, rfl, rfl, false, ndec (by decide +kernel), _, rfl, ?_⟩
            refine ⟨_, rfl, rfl, true, vdec _, _, rfl, _, _, rfl, rfl, ?_⟩
            rw [lt_mem]
            refine ⟨_, rfl, rfl, true, vdec _, ?_⟩
            refine ⟨_, rfl, rfl, decide (c = 40), sgE 40, ?_⟩
            rcases hcs with ⟨h40, h20⟩ | ⟨h40, -⟩
            · rw [decide_eq_true h40]
              refine ⟨_, rfl, by show 1 ≤ sizeLine; decide, fun q hq => ⟨lo, q, _, _, rfl, rfl, ex_new hq _ _ hlo7, upd_same, by rw [oV_len]; have := hg.o; exact sz4 (show o.length + 1 ≤ 1000 by dsimp only at this; omega), fun r hr => ⟨two_sz _ _, fun p hp => ⟨p, _, rfl, .inl (.inl upd_same), rfl, _, _, rfl, _, _, rfl, rfl, ?_⟩⟩⟩⟩
              have e9 := ((ex_new (o := .lst [.str "("]) hq).trans (ex_new (o := .lst (oV o ++ [.str "("])) hr)).trans (ex_new (o := .tup [.ref r, .str "ground"]) hp)
              refine ⟨_, rfl, _, _, rfl, rfl, ?_⟩
              subst h40
              exact go _ _ r _ _ _ _ _ _ _ _ _ _ hstep rfl rfl rfl rfl (e8.trans e9) (e9 _ _ hln7) ((ex_new (o := .tup [.ref r, .str "ground"]) hp) _ _ (by rw [upd_same]; show _ = some (HO.lst (oV (o ++ [true]))); simp [oV]))
            · rw [decide_eq_false h40]
              refine ⟨_, rfl, two_sz _ _, fun p hp => ⟨p, _, rfl, .inl (.inl upd_same), rfl, _, _, rfl, _, _, rfl, rfl, ?_⟩⟩
              have e9 := ex_new (o := .tup [.ref lo, .str "behind"]) hp
              refine ⟨_, rfl, _, _, rfl, rfl, ?_⟩
              have hl : later ⟨.ground, i, ns, here, o, b⟩ c = ⟨.behind, i + 1, ns, here, o, isLt c⟩ := by simp [later, h40]
              rw [hl] at hstep
              exact go _ _ _ _ _ _ _ _ _ _ _ _ _ hstep rfl rfl rfl rfl (e8.trans e9) (e9 _ _ hln7) (e9 _ _ hlo7)
          | eq =>
            have h0 : c = 61 := by
              by_cases z : c = 61
              · exact z
              · simp [wanted] at hw
                omega
            refine ⟨_, rfl, rfl, false, ndec (by decide +kernel), _, rfl, ?_⟩
            refine ⟨_, rfl, rfl, false, ndec (by decide +kernel), ?_⟩
            refine ⟨_, rfl, rfl, false, ndec (by decide +kernel), ?_⟩
            refine iteF ?_
            refine handA (te := tDGet1 _ _) (G := fun v H' => v = .non ∧ Ex H7 H') (fun R kk => ?_) (fun v H8 g => ?_)
            · refine fun p hp => ⟨_, rfl, rfl, decide (c = 44), sgE 44, ?_⟩
              rw [decide_eq_false (by omega)]
              exact ⟨upd_same, [(.inr "name", .str "="), (.inr "comma", .str "behind")], rfl, by decide, p, rfl, .inl ⟨_, .inl upd_same⟩, _, rfl, _, DGet.k (k := .inr "=") upd_same, kk _ _ ⟨by decide +kernel, ex_new2 hp⟩⟩
            · obtain ⟨rfl, e9⟩ := g
              subst h0
              refine ⟨_, rfl, false, rfl, _, rfl, rfl, decide (61 = 93), sgE 93, ?_⟩
              refine ⟨_, rfl, _, rfl, da, .str "ground", rfl, .inl ⟨_, .inr "=", .inl (e9 _ _ d27), rfl, by decide +kernel⟩, _, rfl, _, _, rfl, rfl, ?_⟩
              exact go _ _ _ _ _ _ _ _ _ _ _ _ _ hstep rfl rfl rfl rfl (e8.trans e9) (e9 _ _ hln7) (e9 _ _ hlo7)
          | equal =>
            have h0 : c = 61 ∨ c = 93 := by
              by_cases z : c = 61 ∨ c = 93
              · exact z
              · simp [wanted] at hw
                omega
            refine ⟨_, rfl, rfl, false, ndec (by decide +kernel), _, rfl, ?_⟩
            refine ⟨_, rfl, rfl, false, ndec (by decide +kernel), ?_⟩
            refine ⟨_, rfl, rfl, false, ndec (by decide +kernel), ?_⟩
            refine iteF ?_
            refine handA (te := tDGet1 _ _) (G := fun v H' => v = .non ∧ Ex H7 H') (fun R kk => ?_) (fun v H8 g => ?_)
            · refine fun p hp => ⟨_, rfl, rfl, decide (c = 44), sgE 44, ?_⟩
              rw [decide_eq_false (by omega)]
              exact ⟨upd_same, [(.inr "name", .str "="), (.inr "comma", .str "behind")], rfl, by decide, p, rfl, .inl ⟨_, .inl upd_same⟩, _, rfl, _, DGet.k (k := .inr "equal") upd_same, kk _ _ ⟨by decide +kernel, ex_new2 hp⟩⟩
            · obtain ⟨rfl, e9⟩ := g
              rcases h0 with rfl | rfl
              · refine ⟨_, rfl, false, rfl, _, rfl, rfl, decide (61 = 93), sgE 93, ?_⟩
                refine ⟨_, rfl, _, rfl, da, .str "second", rfl, .inl ⟨_, .inr "equal", .inl (e9 _ _ d27), rfl, by decide +kernel⟩, _, rfl, _, _, rfl, rfl, ?_⟩
                exact go _ _ _ _ _ _ _ _ _ _ _ _ _ hstep rfl rfl rfl rfl (e8.trans e9) (e9 _ _ hln7) (e9 _ _ hlo7)
              · refine ⟨_, rfl, false, rfl, _, rfl, rfl, decide (93 = 93), sgE 93, ?_⟩
                refine ⟨_, rfl, _, _, rfl, rfl, ?_⟩
                exact go _ _ _ _ _ _ _ _ _ _ _ _ _ hstep rfl rfl rfl rfl (e8.trans e9) (e9 _ _ hln7) (e9 _ _ hlo7)
          | close =>
            have h0 : c = 93 := by
              by_cases z : c = 93
              · exact z
              · simp [wanted] at hw
                omega
            refine ⟨_, rfl, rfl, false, ndec (by decide +kernel), _, rfl, ?_⟩
            refine ⟨_, rfl, rfl, false, ndec (by decide +kernel), ?_⟩
            refine ⟨_, rfl, rfl, false, ndec (by decide +kernel), ?_⟩
            refine iteF ?_
            refine handA (te := tDGet1 _ _) (G := fun v H' => v = .non ∧ Ex H7 H') (fun R kk => ?_) (fun v H8 g => ?_)
            · refine fun p hp => ⟨_, rfl, rfl, decide (c = 44), sgE 44, ?_⟩
              rw [decide_eq_false (by omega)]
              exact ⟨upd_same, [(.inr "name", .str "="), (.inr "comma", .str "behind")], rfl, by decide, p, rfl, .inl ⟨_, .inl upd_same⟩, _, rfl, _, DGet.k (k := .inr "close") upd_same, kk _ _ ⟨by decide +kernel, ex_new2 hp⟩⟩
            · obtain ⟨rfl, e9⟩ := g
              subst h0
              refine ⟨_, rfl, false, rfl, _, rfl, rfl, decide (93 = 93), sgE 93, ?_⟩
              refine ⟨_, rfl, _, _, rfl, rfl, ?_⟩
              exact go _ _ _ _ _ _ _ _ _ _ _ _ _ hstep rfl rfl rfl rfl (e8.trans e9) (e9 _ _ hln7) (e9 _ _ hlo7)
          | colon =>
            have h0 : c = 58 := by
              by_cases z : c = 58
              · exact z
              · simp [wanted] at hw
                omega
            refine ⟨_, rfl, rfl, false, ndec (by decide +kernel), _, rfl, ?_⟩
            refine ⟨_, rfl, rfl, false, ndec (by decide +kernel), ?_⟩
            refine ⟨_, rfl, rfl, false, ndec (by decide +kernel), ?_⟩
            refine iteF ?_
            refine handA (te := tDGet1 _ _) (G := fun v H' => v = .non ∧ Ex H7 H') (fun R kk => ?_) (fun v H8 g => ?_)
            · refine fun p hp => ⟨_, rfl, rfl, decide (c = 44), sgE 44, ?_⟩
              rw [decide_eq_false (by omega)]
              exact ⟨upd_same, [(.inr "name", .str "="), (.inr "comma", .str "behind")], rfl, by decide, p, rfl, .inl ⟨_, .inl upd_same⟩, _, rfl, _, DGet.k (k := .inr ":") upd_same, kk _ _ ⟨by decide +kernel, ex_new2 hp⟩⟩
            · obtain ⟨rfl, e9⟩ := g
              subst h0
              refine ⟨_, rfl, false, rfl, _, rfl, rfl, decide (58 = 93), sgE 93, ?_⟩
              refine ⟨_, rfl, _, rfl, da, .str "ground", rfl, .inl ⟨_, .inr ":", .inl (e9 _ _ d27), rfl, by decide +kernel⟩, _, rfl, _, _, rfl, rfl, ?_⟩
              exact go _ _ _ _ _ _ _ _ _ _ _ _ _ hstep rfl rfl rfl rfl (e8.trans e9) (e9 _ _ hln7) (e9 _ _ hlo7)
          | behind => exact absurd rfl hB'
          | many => cases hN
          | copies => cases hN
          | first => cases hN
          | second => cases hN
          | door => cases hN
          | place => cases hN
      · have hB' : M.st = .behind := by simpa using hB
        obtain ⟨st, i, ns, here, o, b⟩ := M
        dsimp only at hB'
        subst hB'
        have hgo := hg.o
        have hgi := hg.i
        have hgn := hg.n
        obtain ⟨hc0, hh0⟩ : ∃ c, here = [c] := hg.h.resolve_left fun z => by cases z
        dsimp only at hln hlo hgo hgi hgn go hco hinl ⊢
        have h36 : cX (signsOf t) i = 36 ↔ cAt (signsOf t) i = none := by
          unfold cX
          cases q : cAt (signsOf t) i with
          | none => simp
          | some c =>
            rw [q] at hco
            simp only [Option.getD_some]
            exact ⟨fun z => absurd (congrArg some z) hco, fun z => by cases z⟩
        have hX : ∀ v, v ≠ 36 → (cX (signsOf t) i = v ↔ cAt (signsOf t) i = some v) := fun v hv => by
          unfold cX
          cases q : cAt (signsOf t) i with
          | none => simp only [Option.getD_none]; exact ⟨fun z => absurd z.symm hv, fun z => by cases z⟩
          | some c => simp
        refine handT (tt := tAnd _ _) (G := fun b' H' => H' = H6 ∧ b' = decide (cAt (signsOf t) i = some 123 ∧ b = true)) (fun B kk => ?_) (fun b' H' g => ?_)
        · refine ⟨_, rfl, rfl, decide (cX (signsOf t) i = 123), sgE 123, ?_⟩
          by_cases hc : cAt (signsOf t) i = some 123
          · rw [decide_eq_true ((hX 123 (by decide)).mpr hc)]
            refine ⟨_, rfl, b, rfl, kk _ _ ⟨rfl, ?_⟩⟩
            cases b <;> simp [hc]
          · rw [decide_eq_false (fun z => hc ((hX 123 (by decide)).mp z))]
            exact kk _ _ ⟨rfl, (decide_eq_false (fun z => hc z.1)).symm⟩
        · obtain ⟨rfl, rfl⟩ := g
          refine ifBH (fun hb => ?_) (fun hb => ?_)
          · have hb := of_decide_eq_true hb
            refine ⟨_, rfl, lo, oV o, rfl, .inl (SqL.of hlo), rfl, decide (o.length = 20), ?_, ifBH (fun h20 => ?_) (fun h20 => ?_)⟩
            · rw [oV_len]
              congr 1
              exact decide_eq_decide.mpr ⟨fun z => by have : (o.length : Int) = 20 := V.int.inj z; omega, fun z => congrArg (fun n : Nat => V.int (n : Int)) z⟩
            · exact ⟨_, rfl, two_sz _ _, fun p hp => ret _ _ _ _ (by simp [Pb.step, isNum, hb, of_decide_eq_true h20]) (Ex.refl _) hp⟩
            · refine ⟨_, rfl, by show 1 ≤ sizeLine; decide, fun q hq => ⟨lo, q, _, _, rfl, rfl, ex_new hq _ _ hlo, upd_same, by rw [oV_len]; exact sz4 (show o.length + 1 ≤ 1000 by omega), fun r hr => ⟨_, rfl, _, _, rfl, rfl, _, _, _, rfl, ?_⟩⟩⟩
              have e9 := (ex_new (o := .lst [.str "{"]) hq).trans (ex_new (o := .lst (oV o ++ [.str "{"])) hr)
              exact go ⟨.place, i + 1, ns, here, o ++ [false], b⟩ _ r _ _ _ _ _ _ _ _ _ _ (by simp [Pb.step, isNum, hb, of_decide_eq_false h20]) rfl rfl rfl rfl e9 (e9 _ _ hln) (by rw [upd_same]; simp [oV])
          · have hb := of_decide_eq_false hb
            refine ⟨_, rfl, _, _, rfl, rfl, (opTo (cX (signsOf t) i)).isSome, congrArg V.bl (op_mem _), ifBH (fun ho => ?_) (fun ho => ?_)⟩
            · obtain ⟨s, hs⟩ := Option.isSome_iff_exists.mp ho
              have hcs : (cAt (signsOf t) i).bind opTo = some s := by
                unfold cX at hs
                cases q : cAt (signsOf t) i with
                | none => rw [q] at hs; simp [opTo] at hs
                | some c => rw [q] at hs; exact hs
              refine fun p hp => ⟨upd_same, opK, rfl, by decide, _, rfl, p, .str s.word, rfl, .inl ⟨_, .inr ⟨#[cX (signsOf t) i]⟩, .inl upd_same, rfl, (op_get hs).symm⟩, _, rfl, _, _, rfl, rfl, _, _, rfl, ?_⟩
              have e9 := ex_new2 (a := .dK []) (b := .dK (mergeK [] opK)) hp
              exact go ⟨s, i + 1, ns, here, o, false⟩ _ _ _ _ _ _ _ _ _ _ _ _ (by unfold Pb.step; dsimp only; rw [if_neg (by decide), if_pos rfl, if_neg hb, hcs] <;> rfl) rfl rfl rfl rfl e9 (e9 _ _ hln) (e9 _ _ hlo)
            · have hcs : (cAt (signsOf t) i).bind opTo = none := by
                unfold cX at ho
                cases q : cAt (signsOf t) i with
                | none => rfl
                | some c =>
                  rw [q] at ho
                  show opTo c = none
                  cases z : opTo c with
                  | none => rfl
                  | some s => rw [show (some c).getD 36 = c from rfl, z] at ho; cases ho
              have hstep : Pb.step (signsOf t) t.length ⟨.behind, i, ns, here, o, b⟩ = match o.getLast? with
                  | some q => if cAt (signsOf t) i = some (if q then 41 else 125) then .inr ⟨.behind, i + 1, ns, here, o.dropLast, !q⟩ else .inl (some (pAt (signsOf t) t.length i, if q then "expected )" else "expected }"))
                  | none => if cAt (signsOf t) i = some 59 then .inr ⟨.name, i + 1, ns ++ here, here, o, false⟩ else .inl (if cAt (signsOf t) i = none then none else some (pAt (signsOf t) t.length i, "expected ; or the end")) := by
                unfold Pb.step
                dsimp only
                rw [if_neg (by decide), if_pos rfl, if_neg hb, hcs] <;> rfl
              refine ⟨_, rfl, by show 0 ≤ sizeLine; decide, fun q hq => ⟨.list (oP o), .list [], .lst (SqL.of (ex_new hq _ _ hlo)) (oP_dp _ _ o), .lst (SqL.of upd_same) .nil, oP_shaped o, by decide, !o.isEmpty, congrArg V.bl (oP_eqv o), ?_⟩⟩
              have e9 := ex_new (o := .lst []) hq
              have hln := e9 _ _ hln
              have hlo := e9 _ _ hlo
              generalize upd H' q (.lst []) = H7 at e9 hln hlo ⊢
              rcases List.eq_nil_or_concat o with rfl | ⟨o', q', rfl⟩
              · refine ⟨_, rfl, rfl, decide (cX (signsOf t) i = 59), sgE 59, ifBH (fun h59 => ?_) (fun h59 => ?_)⟩
                · have h59 := (hX 59 (by decide)).mp (of_decide_eq_true h59)
                  refine ⟨_, rfl, _, rfl, by show 1 ≤ sizeLine; decide, fun q hq => ⟨ln, q, _, _, rfl, rfl, ex_new hq _ _ hln, upd_same, ?_, fun r hr => ⟨_, rfl, _, _, rfl, rfl, by show 4 ≤ sizeLine; decide, fun p hp => ⟨p, _, rfl, .inl (.inl upd_same), rfl, _, _, rfl, _, _, rfl, _, _, rfl, _, _, rfl, rfl, ?_⟩⟩⟩⟩
                  · unfold nmV
                    rw [List.length_map]
                    exact sz4 (show ns.length + 1 ≤ 1000 by omega)
                  · have e10 := ((ex_new (o := .lst [.str (sg here)]) hq).trans (ex_new (o := .lst (nmV ns ++ [.str (sg here)])) hr)).trans (ex_new (o := .tup [.ref r, .str "name", .int ((i : Int) + 1), .bl false]) hp)
                    exact go ⟨.name, i + 1, ns ++ here, here, [], false⟩ r _ _ _ _ _ _ _ _ _ _ _ (by rw [hstep]; simp [h59]) rfl rfl rfl rfl (e9.trans e10) ((ex_new (o := .tup [.ref r, .str "name", .int ((i : Int) + 1), .bl false]) hp) _ _ (by rw [upd_same, hh0]; simp [nmV])) (e10 _ _ hlo)
                · have h59 : ¬ cAt (signsOf t) i = some 59 := fun z => of_decide_eq_false h59 ((hX 59 (by decide)).mpr z)
                  refine ⟨_, rfl, rfl, decide (cX (signsOf t) i = 36), sgE 36, ifBH (fun h => ?_) (fun h => ?_)⟩
                  · have hr := hinl none (by rw [hstep]; simp [h59, h36.mp (of_decide_eq_true h)])
                    refine k _ _ (e6.trans (e7.trans e9)) ?_
                    rw [hr]
                    exact .non
                  · exact ⟨_, rfl, two_sz _ _, fun p hp => ret _ _ _ _ (by have h36n : ¬ cAt (signsOf t) i = none := fun z => of_decide_eq_false h (h36.mpr z); rw [hstep]; simp [h59, h36n]) e9 hp⟩
              · rw [List.concat_eq_append] at hlo hstep hgo go ret ⊢
                rw [List.getLast?_append, List.getLast?_singleton, Option.some_or, List.dropLast_concat] at hstep
                dsimp only at hstep
                refine iteT' (by simp) ?_
                cases q' with
                | true =>
                  rw [oV_t] at hlo
                  refine ⟨_, rfl, _, rfl, _, rfl, lo, _, _, _, rfl, rfl, SqL.of hlo, atI_last _ _, rfl, true, vdec _, rfl, !decide (cX (signsOf t) i = 41), sgN 41, ifBH (fun hc => ?_) (fun hc => ?_)⟩
                  · have hc : ¬ cAt (signsOf t) i = some 41 := fun z => by simp [(hX 41 (by decide)).mpr z] at hc
                    exact ⟨_, rfl, _, rfl, _, rfl, lo, _, _, _, rfl, rfl, SqL.of hlo, atI_last _ _, rfl, true, vdec _, two_sz _ _, fun p hp => ret _ _ _ _ (by rw [hstep]; simp [hc]) e9 hp⟩
                  · have hc : cAt (signsOf t) i = some 41 := (hX 41 (by decide)).mp (by simpa using hc)
                    refine ⟨_, rfl, _, rfl, lo, _, _, _, rfl, rfl, SqL.of hlo, atI_last _ _, rfl, ?_⟩
                    rw [ndec (show V.str "(" ≠ V.str "{" by decide +kernel)]
                    refine ⟨_, rfl, _, rfl, _, rfl, lo, _, rfl, SqL.of hlo, fun r hr => ⟨_, rfl, _, _, rfl, rfl, _, _, rfl, ?_⟩⟩
                    have e10 := e9.trans (ex_new (o := .lst (cutV (oV o' ++ [.str "("]) none (some (-1)))) hr)
                    exact go ⟨.behind, i + 1, ns, here, o', false⟩ _ r _ _ _ _ _ _ _ _ _ _ (by rw [hstep]; simp [hc]) rfl rfl rfl rfl e10 (ex_new hr _ _ hln) (by rw [upd_same, cut_last])
                | false =>
                  rw [oV_f] at hlo
                  refine ⟨_, rfl, _, rfl, _, rfl, lo, _, _, _, rfl, rfl, SqL.of hlo, atI_last _ _, rfl, false, ndec (by decide +kernel), rfl, !decide (cX (signsOf t) i = 125), sgN 125, ifBH (fun hc => ?_) (fun hc => ?_)⟩
                  · have hc : ¬ cAt (signsOf t) i = some 125 := fun z => by simp [(hX 125 (by decide)).mpr z] at hc
                    exact ⟨_, rfl, _, rfl, _, rfl, lo, _, _, _, rfl, rfl, SqL.of hlo, atI_last _ _, rfl, false, ndec (by decide +kernel), two_sz _ _, fun p hp => ret _ _ _ _ (by rw [hstep]; simp [hc]) e9 hp⟩
                  · have hc : cAt (signsOf t) i = some 125 := (hX 125 (by decide)).mp (by simpa using hc)
                    refine ⟨_, rfl, _, rfl, lo, _, _, _, rfl, rfl, SqL.of hlo, atI_last _ _, rfl, ?_⟩
                    rw [vdec]
                    refine ⟨_, rfl, _, rfl, _, rfl, lo, _, rfl, SqL.of hlo, fun r hr => ⟨_, rfl, _, _, rfl, rfl, _, _, rfl, ?_⟩⟩
                    have e10 := e9.trans (ex_new (o := .lst (cutV (oV o' ++ [.str "{"]) none (some (-1)))) hr)
                    exact go ⟨.behind, i + 1, ns, here, o', true⟩ _ r _ _ _ _ _ _ _ _ _ _ (by rw [hstep]; simp [hc]) rfl rfl rfl rfl e10 (ex_new hr _ _ hln) (by rw [upd_same, cut_last])
end
end K20
namespace Pb
open PySem L2 Sl
theorem capL : ("ABCXYZ" : Str).cps.toList = [65, 66, 67, 88, 89, 90] := by decide +kernel
theorem capS : ("ABCXYZ" : Str).cps.size = 6 := by decide +kernel
/-- the names that are not taken -/
def freeN (nm : List Nat) (i : Nat) : List Nat := (([65, 66, 67, 88, 89, 90] : List Nat).take i).filter fun c => decide (c ∉ nm)
theorem free_ne {nm : List Nat} (h : nm.length ≤ 2) : freeN nm 6 ≠ [] := by
  intro z
  have h1 : ∀ c ∈ ([65, 66, 67, 88, 89, 90] : List Nat), c ∈ nm := fun c hc => by
    have := List.filter_eq_nil_iff.mp z c hc
    simpa using this
  have a := h1 65 (by simp)
  have b := h1 66 (by simp)
  have c := h1 67 (by simp)
  match nm, h with
  | [], _ => simp at a
  | [x], _ => simp at a b; omega
  | [x, y], _ => simp at a b c; omega
theorem free_mem {nm : List Nat} {i c : Nat} (h : c ∈ freeN nm i) : isCp c = true := by
  have h1 := List.mem_of_mem_take (List.mem_filter.mp h).1
  simp only [List.mem_cons, List.not_mem_nil, or_false] at h1
  rcases h1 with rfl | rfl | rfl | rfl | rfl | rfl <;> decide
theorem free_len (nm : List Nat) (i : Nat) : (freeN nm i).length ≤ 6 := by
  refine Nat.le_trans (List.length_filter_le _ _) ?_
  rw [List.length_take]
  exact Nat.min_le_right _ _
theorem free_go {nm : List Nat} {i c : Nat} (h : ([65, 66, 67, 88, 89, 90] : List Nat)[i]? = some c) : freeN nm (i + 1) = if c ∉ nm then freeN nm i ++ [c] else freeN nm i := by
  unfold freeN
  rw [take_snoc h, List.filter_append]
  by_cases z : c ∈ nm <;> simp [z]
theorem opS_sg (t : List Nat) : opS (sg t) = opT t := by
  unfold opS opT
  simp
theorem Bz.cap {c : Nat} (h : isCp c = true) : Bz ⟨#[c]⟩ 1 0 := Bz.sg1 (by
  have := of_decide_eq_true h
  unfold isOp
  refine decide_eq_false ?_
  simp only [List.mem_cons, List.not_mem_nil, or_false]
  omega)
theorem join_bz {sep : Str} {a b : Nat} (hs : Bz sep 1 0) (ys : List Str) (h : ∀ y ∈ ys, Bz y a b) : Bz (Txt.join sep ys) (ys.length * a + ys.length * 1) (ys.length * b + ys.length * 0) := by
  have := Bz.tjoin hs ys (List.replicate ys.length a) (List.replicate ys.length b) (by simp) (by simp) fun i y a' b' h1 h2 h3 => by
    have h2 := List.eq_of_mem_replicate (List.mem_of_getElem? h2)
    have h3 := List.eq_of_mem_replicate (List.mem_of_getElem? h3)
    subst h2 h3
    exact h y (List.mem_of_getElem? h1)
  simpa using this
theorem sum_bz {a b : Nat} : ∀ (ys : List Str), (∀ y ∈ ys, Bz y a b) → (ys.map (·.length)).sum ≤ ys.length * a
  | [], _ => by simp
  | y :: ys, h => by
    have h1 := (h y List.mem_cons_self).1
    have h2 := sum_bz ys fun z hz => h z (List.mem_cons_of_mem _ hz)
    simp only [List.map_cons, List.sum_cons, List.length_cons, Nat.succ_mul]
    omega
theorem ok_flD (x : Option (Nat × Str)) : okD 2 (flD x) := by
  cases x with
  | none => trivial
  | some e => exact ⟨by show 2 ≤ 1000000; decide, fun d hd => by
      simp only [List.mem_cons, List.not_mem_nil, or_false] at hd
      rcases hd with rfl | rfl <;> trivial⟩
theorem due_some {K : PySem.W.Frag} {H : Hp} {x : Option (Nat × Str)} {v : V} (h : RD K H (flD x) v) : (!decide (v = .non)) = x.isSome := by
  cases x with
  | none => obtain rfl := h.ofNon; rfl
  | some e => obtain ⟨a, xs, rfl, _⟩ := RD.ofTup h; rfl
end Pb
namespace K20
open PySem PySem.Spec
open PyProof.Rows L2 Sl Pb
def spLaw (K : PySem.W.Frag) : Sp := fun vs H Q _ => ∃ (c : Addr) (ns : List Int), vs = [.ref c] ∧ SqL K H c (ns.map V.int) ∧ ∀ H', Q (.bl true) H'
section
variable {P : Program} {w : World} {K : PySem.W.Frag} {mg : Str → Option Value} {base : Heap} {H H1 H2 : Hp} {E : XK} {Q : VK} {ns : List Int} {r c : Addr}
theorem law_of (T : Tx K mg) : ∃ fd, (∀ (s : Shared) (u : Value), BindsTo s fd ⟨[u], []⟩ [("script", u)]) ∧ ∀ (P : Program) (w : World) (base : Heap),
    FnOk P w K mg base (L2.CX P w) 181 (a_law K) fd ["script"] (spLaw K) := by
  obtain ⟨fd, F⟩ := f_law T
  refine ⟨fd, fun s u => F.bindsA (b_law T) s [u] rfl, fun P w base => ?_⟩
  obtain ⟨fdF, FF⟩ := f_book_flaw T
  have FL := FF.ok (P := P) (w := w) (mg := mg) (base := base) (CX := L2.CX P w) (z_book_flaw T) len_flaw (body_flaw T)
  have KW := kw1 (pn := "text") FF (fun _ _ _ _ _ _ _ => rfl)
  have KP := FF.kp
  have h_plain_book := ok_plainBook (P := P) (w := w) (base := base) T
  have h__law_flaw := ok_lawFlaw (P := P) (w := w) (base := base) T
  have h__law_alike := ok_alike (P := P) (w := w) (base := base) T 2
  have h__law_pick := ok_pick (P := P) (w := w) (base := base) T
  have h__law_taken := ok_taken (P := P) (w := w) (base := base) T
  have h__law_nest := ok_ln (P := P) (w := w) (base := base) T 5
  have h__law_written := ok_wr (P := P) (w := w) (base := base) T 12
  have h__law_spoiled := ok_spoiled (P := P) (w := w) (base := base) T
  refine F.ok (k := 180) (z_law T) (fun vs H Q E h => by obtain ⟨_, _, rfl, _⟩ := h; rfl) (fun cdv A outer s H vs Q E hr h => ?_)
  obtain ⟨c, ns, rfl, hs, k⟩ := h
  refine ⟨_, (pss_cons (ps_set (i := 1) (z_law T).nd rfl (Or.inl rfl) (pe_lst (pa_cons (pv 0) (pa_cons pe_int (pa_cons pe_int (pa_cons pe_int pa_nil))))))
  (pss_cons (ps_for (passes_of rfl) rfl (pi_range1 (by rfl) (l_range T) (pa_cons pe_int pa_nil)) (pg_name (i := 2) (z_law T).nd rfl (Or.inl rfl)) (pss_cons (ps_asg (pe_tup (pa_cons (pe_lst pa_nil) (pa_cons (pe_lst pa_nil) pa_nil))) (tupK K (n := 2) (pgs_cons (pg_name (i := 3) (z_law T).nd rfl (Or.inr rfl)) (pgs_cons (pg_name (i := 4) (z_law T).nd rfl (Or.inl rfl)) pgs_nil))))
  (pss_cons (ps_for (passes_of rfl) rfl (pi_range1 (by rfl) (l_range T) (pa_cons (pe_op oAddI pe_int (pcall h__law_taken (hr.mono (by omega)) (g__law_taken T) (pa_cons (pv 1) (pa_cons pe_int pa_nil)))) pa_nil)) (pg_name (i := 5) (z_law T).nd rfl (Or.inl rfl)) (pss_cons (ps_set (i := 6) (z_law T).nd rfl (Or.inl rfl) (pcall h__law_pick (hr.mono (by omega)) (g__law_pick T) (pa_cons (pv 1) (pa_cons (pe_lc (own := [("own", 7)]) rfl (z_law T).nd (pi_str pe_str) (blkOk_by (N := n_law) (sc := defScope s_law) (by decide +kernel)) (fun _ _ _ _ _ => by exact (pg_name (i := 7) (z_law T).nd rfl (Or.inl rfl))) (fun _ _ _ _ _ => by exact (pts_one (pt_cmpR (niK K) (pv 7) (pv 3) rfl))) (fun _ _ _ _ _ => by exact (pv 7))) pa_nil))))
  (pss_cons (ps_expr (bmK K PySem.F.plainAttrs_list PySem.F.slot_list_append PySem.F.type_list_append mt_append (pv 4) (pa_cons (pe_op oAddS (pe_op oAddS (pv 6) pe_str) (pcall h__law_written (hr.mono (by omega)) (g__law_written T) (pa_cons (pcall h__law_nest (hr.mono (by omega)) (g__law_nest T) (pa_cons (pv 1) (pa_cons (pe_op oAddI pe_int (pcall h__law_taken (hr.mono (by omega)) (g__law_taken T) (pa_cons (pv 1) (pa_cons pe_int pa_nil)))) (pa_cons (pe_callTy (listK K) (by rfl) (l_list T) (by decide +kernel) (pa_cons (pv 3) pa_nil)) (pa_cons pe_int pa_nil))))) (pa_cons (pe_cmpR op_eq (pcall h__law_taken (hr.mono (by omega)) (g__law_taken T) (pa_cons (pv 1) (pa_cons pe_int pa_nil))) pe_int (nomark _)) pa_nil)))) pa_nil)))
  (pss_one (ps_expr (bmK K PySem.F.plainAttrs_list PySem.F.slot_list_append PySem.F.type_list_append mt_append (pv 3) (pa_cons (pv 6) pa_nil)))))))
  (pss_cons (ps_set (i := 8) (z_law T).nd rfl (Or.inl rfl) (pcall h__law_spoiled (hr.mono (by omega)) (g__law_spoiled T) (pa_cons (pv 1) (pa_cons (bmK K PySem.F.plainAttrs_str PySem.F.slot_str_join PySem.F.type_str_join mt_join pe_str (pa_cons (pv 4) pa_nil)) pa_nil))))
  (pss_one (ps_if (pt_cmpR oLeI (pe_callB call_len_str (by rfl) (l_len T) (by decide +kernel) (pa_cons (pv 8) pa_nil)) pe_int (nomark _)) (pss_cons (ps_set (i := 9) (z_law T).nd rfl (Or.inl rfl) (pcall h__law_flaw (hr.mono (by omega)) (g__law_flaw T) (pa_cons (pv 8) pa_nil)))
  (pss_one (ps_if (PW.pt (pw_or (pt_not (pt_val (pcall h__law_alike (hr.mono (by omega)) (g__law_alike T) (pa_cons (pcallK1 FL KW KP (hr.mono (by omega)) (g_book_flaw T) passL (pv 8)) (pa_cons (pv 9) pa_nil))))) (pw_or1 (pt_cmpR op_ne (pe_cmpR oIsNo (pcall h_plain_book (hr.mono (by omega)) (g_plain_book T) (pa_cons (pv 8) pa_nil)) pe_non (nomark _)) (pe_cmpR oNoNo (pv 9) pe_non (nomark _)) (nomark _))))) (pss_one (ps_ret pe_bl)) pss_nil))) pss_nil))))))
  (pss_one (ps_ret pe_bl)))), ?_⟩
  refine ⟨_, rfl, by show 4 ≤ sizeLine; decide, fun r hr0 => ?_⟩
  refine ⟨50, rfl, by decide, by decide, for_it (walk_range (lo := 0) (n := 50)) (fun i σ H' => Rw K ns r c H' ∧ ∃ x2 x3 x4 x5 x6 x7 x8 x9 : Option V, σ = [some (.ref c), some (.ref r), x2, x3, x4, x5, x6, x7, x8, x9]) ?_ (fun _ _ _ _ _ => trivial) ?_ ?_⟩
  · exact ⟨⟨Scr.new hs hr0, 0, 83327, 0, upd_same, by decide⟩, none, none, none, none, none, none, none, none, rfl⟩
  · rintro i x σ H1 H1' hi ⟨q, x2, x3, x4, x5, x6, x7, x8, x9, rfl⟩ ⟨rfl, rfl⟩
    refine ⟨by show 0 ≤ sizeLine; decide, fun l3 hl3 => ⟨by show 0 ≤ sizeLine; decide, fun l4 hl4 => ⟨two_sz _ _, fun pq hpq => ⟨pq, _, rfl, .inl (.inl upd_same), rfl, _, _, rfl, _, _, rfl, rfl, ?_⟩⟩⟩⟩
    have f1 := ex_new (o := .lst []) hl3
    have f2 := ex_new (o := .lst []) hl4
    have f3 := ex_new (o := .tup [.ref l3, .ref l4]) hpq
    have q2 := ((q.ex f1).ex f2).ex f3
    have g3 := f3 _ _ (f2 _ _ (upd_same (H := H1') (a := l3) (o := .lst [])))
    have g4 := f3 _ _ (upd_same (H := L2.upd H1' l3 (.lst [])) (a := l4) (o := .lst []))
    have n34 : l3 ≠ l4 := ne_of_none (upd_same (H := H1') (a := l3) (o := .lst [])) hl4
    have hl4' : H1' l4 = none := by rwa [upd_ne n34.symm] at hl4
    obtain ⟨or, hor⟩ := rw_there q
    have n3 : l3 ≠ r := (ne_of_none hor hl3).symm
    have n4 : l4 ≠ r := (ne_of_none hor hl4').symm
    have e2 : ExB [r] H1' _ := ((f1.trans f2).trans f3).b
    generalize L2.upd (L2.upd (L2.upd H1' l3 (.lst [])) l4 (.lst [])) pq (.tup [.ref l3, .ref l4]) = H2 at q2 g3 g4 e2 ⊢
    clear f1 f2 f3 hpq hl4
    refine ⟨_, rfl, r, c, ns, _, rfl, by decide, by decide, q2, fun m H3 m0 m1 e3 q3 => ⟨_, _, rfl, rfl, 1 + m, rfl, by omega, by omega, for_it (walk_range (lo := 0) (n := (1 + m).toNat)) (fun i σ H' => ∃ (nm : List Nat) (ls : List Str) (y2 y5 y6 y7 y8 y9 : Option V), σ = [some (.ref c), some (.ref r), y2, some (.ref l3), some (.ref l4), y5, y6, y7, y8, y9] ∧
      Rw K ns r c H' ∧ ExB [r] H1' H' ∧ H' l3 = some (.lst (nmV nm)) ∧ H' l4 = some (.lst (ls.map V.str)) ∧ nm.length = i ∧ ls.length = i ∧ (∀ c ∈ nm, isCp c = true) ∧ ∀ y ∈ ls, Bz y 3002 21) ?_ (fun _ _ _ _ _ => trivial) ?_ ?_⟩⟩
    · exact ⟨[], [], _, _, _, _, _, _, rfl, q3, e2.trans e3, e3 _ _ (by simpa using n3) g3, e3 _ _ (by simpa using n4) g4, rfl, rfl, (by simp), (by simp)⟩
    · rintro j x σ H4' H4 hj ⟨nm, ls, y2, y5, y6, y7, y8, y9, rfl, q4, e4, k3, k4, hnm, hls, hcp, hbz⟩ ⟨rfl, rfl⟩
      have hj3 : j < 3 := by omega
      refine ⟨_, rfl, _, rfl, fun lq hlq => lc_it walk_str (fun i H' => Ex H4 H' ∧ H' lq = some (.lst (nmV (freeN nm i)))) ?_ (fun _ _ _ _ => trivial) ?_ ?_⟩
      · exact ⟨ex_new hlq, upd_same⟩
      · rintro i x H5' H5 hi ⟨e5, h5⟩ ⟨rfl, a, ha, rfl⟩
        have ha2 : ([65, 66, 67, 88, 89, 90] : List Nat)[i]? = some a := by rw [← capL]; simpa using ha
        refine ⟨rfl, _, rfl, _, rfl, l3, _, rfl, .inl (SqL.of (e5 _ _ k3)), rfl, nm_flat nm, !decide (a ∈ nm), (by show V.bl (!inV _ _) = _; rw [inV_nm]), ?_⟩
        rw [free_go ha2]
        refine ifBH (fun hb => ?_) (fun hb => ?_)
        · rw [if_pos (by simpa using hb)]
          refine ⟨_, rfl, _, h5, ?_, ?_, ?_⟩
          · unfold nmV
            rw [List.length_map]
            exact Nat.lt_of_le_of_lt (free_len nm i) (by decide)
          · exact fun b o q => by
              by_cases hbl : b = lq
              · subst hbl
                rw [hlq] at q; cases q
              · rw [upd_ne hbl]; exact e5 b o q
          · rw [upd_same]
            simp [nmV]
        · rw [if_neg (by simpa using hb)]
          exact ⟨e5, h5⟩
      · rintro H5 ⟨e5, h5⟩
        rw [capS] at h5
        obtain ⟨or4, hor4⟩ := rw_there q4
        have hqr : lq ≠ r := (ne_of_none hor4 hlq).symm
        refine ⟨r, c, lq, ns, _, rfl, hqr, SqL.of h5, ?_, ?_, q4.ex e5, fun v H6 hv e6 q6 => ?_⟩
        · unfold nmV
          rw [List.length_map]
          exact List.length_pos_iff.mpr (free_ne (by omega))
        · unfold nmV
          rw [List.length_map]
          exact Nat.lt_of_le_of_lt (free_len nm 6) (by decide)
        obtain ⟨a, ha, rfl⟩ := List.mem_map.mp hv
        have hca := free_mem ha
        have k3 := e6 _ _ (by simpa using n3) (e5 _ _ k3)
        have k4 := e6 _ _ (by simpa using n4) (e5 _ _ k4)
        have e46 := (e4.trans e5.b).trans e6
        refine ⟨_, rfl, tl_list k4, ?_⟩
        refine ⟨_, rfl, _, _, rfl, rfl, szB (Bz.cap hca) (bl (z := "=") 0) (by omega), ?_⟩
        refine ⟨_, rfl, ⟨_, rfl, r, c, ns, _, rfl, by decide, by decide, q6, fun w' H7 w0 w1 e7 q7 => ⟨_, _, rfl, rfl, ?_⟩⟩⟩
        obtain ⟨w', rfl⟩ := Int.eq_ofNat_of_zero_le w0
        have k3 := e7 _ _ (by simpa using n3) k3
        have k4 := e7 _ _ (by simpa using n4) k4
        refine ⟨_, rfl, l3, _, rfl, .inl (SqL.of k3), fun lk hlk => ?_⟩
        obtain ⟨or7, hor7⟩ := rw_there q7
        have hkr : lk ≠ r := (ne_of_none hor7 hlk).symm
        have f8 := ex_new (o := .lst (nmV nm)) hlk
        have q8 := q7.ex f8
        refine ⟨r, c, lk, ns, nm, w' + 1, 1, by rw [show (1 : Int) + (w' : Int) = ((w' + 1 : Nat) : Int) by omega]; rfl, by omega, by omega, by omega, fun z => by omega, by omega, hkr, SqL.of upd_same, hcp, by omega, q8, fun t n z o tv H9 td nb rt e9 q9 => ?_⟩
        have k3 := e9 _ _ (by simpa using n3) (f8 _ _ k3)
        have k4 := e9 _ _ (by simpa using n4) (f8 _ _ k4)
        unfold Nb at nb
        rw [if_neg (by omega)] at nb
        refine ⟨_, rfl, r, c, ns, _, rfl, by decide, by decide, q9, fun w2 H10 _ _ e10 q10 => ⟨rfl, ?_⟩⟩
        have k3 := e10 _ _ (by simpa using n3) k3
        have k4 := e10 _ _ (by simpa using n4) k4
        refine ⟨t, z, o, tv, _, rfl, rt.mono (tex_rw q9 e10), td.mono (by omega), by omega, fun s H11 e11 b11 => ?_⟩
        have k3 := e11 _ _ k3
        have k4 := e11 _ _ k4
        have q11 := q10.ex e11
        have bz := ((Bz.cap hca).app (bl (z := "=") 0)).app b11
        have e411 : ExB [r] H1' H11 := ((((e46.trans e7).trans f8.b).trans e9).trans e10).trans e11.b
        refine ⟨_, _, rfl, rfl, szB ((Bz.cap hca).app (bl (z := "=") 0)) b11 (by omega), l4, _, _, rfl, rfl, k4, ?_, ?_⟩
        · rw [List.length_map, hls]
          exact Nat.lt_of_lt_of_le hj3 (by decide)
        have k3' : L2.upd H11 l4 (.lst (ls.map V.str ++ [.str ((⟨#[a]⟩ : Str) ++ ("=" : Str) ++ s)])) l3 = some (.lst (nmV nm)) := by rw [upd_ne n34]; exact k3
        have own : ∀ {H' : Hp} {l : Addr} {o : HO}, ExB [r] H1' H' → H1' l = none → ExB [r] H1' (L2.upd H' l o) := fun e hl b u nb hb => by
          rw [upd_ne (ne_of_none hb hl)]
          exact e b u nb hb
        refine ⟨_, rfl, tl_list k3', _, rfl, l3, _, _, rfl, rfl, k3', ?_, ?_⟩
        · unfold nmV
          rw [List.length_map, hnm]
          exact Nat.lt_of_lt_of_le hj3 (by decide)
        refine ⟨nm ++ [a], ls ++ [(⟨#[a]⟩ : Str) ++ ("=" : Str) ++ s], _, _, _, _, _, _, rfl, (q11.own q hl4' e411).own q hl3 (own e411 hl4'), own (own e411 hl4') hl3, ?_, ?_, by rw [List.length_append, hnm]; rfl, by rw [List.length_append, hls]; rfl, fun c hc => ?_, fun y hy => ?_⟩
        · rw [upd_same]
          simp [nmV]
        · rw [upd_ne n34.symm, upd_same, List.map_append]
          rfl
        · rcases List.mem_append.mp hc with z | z
          · exact hcp c z
          · rw [List.mem_singleton.mp z]; exact hca
        · rcases List.mem_append.mp hy with z | z
          · exact hbz y z
          · rw [List.mem_singleton.mp z]
            exact bz.mono (by omega) (by omega)
    · rintro σ H4 ⟨nm, ls, y2, y5, y6, y7, y8, y9, rfl, q4, e4, k3, k4, hnm, hls, hcp, hbz⟩
      have hl3' : ls.length ≤ 3 := by omega
      have bj := join_bz (sep := ";") (bl (z := ";") 0) ls hbz
      refine ⟨_, rfl, rfl, _, rfl, _, l4, ls, rfl, rfl, .inl (SqL.of k4), ?_, ?_⟩
      · have s1 := sum_bz ls hbz
        have s3 : (";" : Str).length = 1 := by decide +kernel
        rw [s3]
        omega
      refine ⟨r, c, ns, _, _, _, rfl, bj.mono (show _ ≤ 9009 by omega) (show _ ≤ 63 by omega), by omega, q4, fun z H5 bz e5 q5 => ?_⟩
      refine ⟨_, rfl, _, rfl, Nat.le_trans bz.1 (by decide), _, _, rfl, rfl, decide (z.length ≤ 400), ?_, ifBH (fun hb => ?_) (fun hb => ?_)⟩
      · congr 1
        exact decide_eq_decide.mpr (by omega)
      · have hzl := of_decide_eq_true hb
        obtain ⟨t, rfl⟩ : ∃ t, z = sg t := ⟨z.cps.toList, by simp⟩
        have ht : t.length ≤ 400 := by rwa [sg_len] at hzl
        have hop : opT t ≤ 80 := by
          have := bz.2
          rw [opS_sg] at this
          omega
        refine ⟨_, rfl, t, rfl, ht, fun due H6 e6 rd => ?_⟩
        refine ⟨_, rfl, t, rfl, ht, fun fv H7 e7 rf => ?_⟩
        refine ⟨_, rfl, flD (flOf t), _, _, rfl, ok_flD _, rf, rd.mono e7.t, fun H8 e8 => ⟨true, rfl, ?_⟩⟩
        refine ⟨_, rfl, t, rfl, ht, hop, fun v H9 e9 hv => ?_⟩
        refine ⟨rfl, _, rfl, rfl, rfl, false, ndecN (by rw [hv, due_some rd]), ?_⟩
        exact ⟨(((q5.ex e6).ex e7).ex e8).ex e9, _, _, _, _, _, _, _, _, rfl⟩
      · exact ⟨q5, _, _, _, _, _, _, _, _, rfl⟩
  · rintro σ H1 ⟨q, x2, x3, x4, x5, x6, x7, x8, x9, rfl⟩
    exact k _
end
end K20
namespace K20
open PySem PySem.Spec
open PyProof.Rows L2 Sl
theorem cx_no {P : Program} (w : World) (H : Hp) (s : Shared) (e : Value) (s' : Shared) (h : L2.CX P w [] H s (fun _ _ _ => False) e s') : False := by
  obtain ⟨_, _, _, _, _, _, _, _, _, _, _, _, z⟩ := h
  exact z
theorem at_law {P : Program} (w : World) (mg : Str → Option Value) (fa : Addr) (h : Heap) (Y : hk.says w h) (G : h.Ns mainGlobals mg) (hm : mg "law" = some (.ref fa)) (hP : P = (PySem.Challenge.rw_mazesums_k20_whole_flaws_of_books).prog) :
    ∃ K : PySem.W.Frag, K.In h ∧ LamX.LawAtS PySem.Challenge.rw_mazesums_k20_whole_flaws_of_books w K (L2.CX P w) 181 63 "script" mg fa h := by
  subst hP
  obtain ⟨K, KX, c⟩ := Y
  have T : Tx K mg := ⟨c.t.d, c.more, h, KX, G⟩
  have e := hm.symm.trans (g_law T)
  cases e
  obtain ⟨fd, hb, hF⟩ := law_of T
  exact ⟨K, KX, fd, [], spLaw K, (fun p hp => by cases hp), (fun p hp => by cases hp), (fun p hp => by cases hp), hb, fun H a ns _ _ hT hS => ⟨a, ns, rfl, hS, fun _ => rfl⟩, fun base _ _ hTB => hF _ w base⟩
end K20
open PySem PySem.W
open PySem.Calls
open PyProof.Rows
theorem PySem.Challenge.cw_mazesums_k20_whole_flaws_of_books_holds : PySem.Challenge.rw_mazesums_k20_whole_flaws_of_books.Holds := by
  w_on; o_law
  refine HandSHeadRun.head_any (r := OpenLaw.row PySem.Challenge.rw_mazesums_k20_whole_flaws_of_books) (q := view (OpenLaw.row PySem.Challenge.rw_mazesums_k20_whole_flaws_of_books).prog [35]) (H := K20.hk) (ob := K20.ob) (M := 20000) (loose := K20.loose) (d := HandSHeadRun.topDef (OpenLaw.row PySem.Challenge.rw_mazesums_k20_whole_flaws_of_books).prog 35) (kwd := []) K20.ob_eq
    (by kernel_rfl) (fun s => by kernel_rfl) K20.run (by kernel_rfl) (by kernel_rfl) (by kernel_rfl) (by rfl) (by first | assumption | decide +kernel) (by decide +kernel) ⟨rfl, rfl, rfl, rfl, rfl, by decide +kernel⟩ ?hw ?hc
  case hw => w_witness2
  case hc =>
    refine LamX.walk_ofTsE (l := PySem.Challenge.rw_mazesums_k20_whole_flaws_of_books) (n := 63) (k := 181) (x := "script") (CX := fun w => L2.CX (PySem.Challenge.rw_mazesums_k20_whole_flaws_of_books).prog w) rfl (by decide) (by kernel_rfl) ⟨rfl, by decide, by decide⟩ ?F K20.cx_no
    intro w mg fa h Y G hmg0
    refine K20.at_law w mg fa h Y G ?_ rfl
    have e : (HandSHeadRun.topDef (OpenLaw.row PySem.Challenge.rw_mazesums_k20_whole_flaws_of_books).prog 35).name = ("law" : PySem.Str) := by kernel_rfl
    rw [← e]
    exact hmg0
